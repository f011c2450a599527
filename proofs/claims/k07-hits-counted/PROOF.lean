import PyProof.Rows.All
import PySem.Challenge.RW_twainkeep_k07_hits_counted
import HandS.ForMost
import HandS.EndBits
import HandS.Wide
import HandS.Zip
import KE.GoesMore
import HandS.Deep
import HandS.IsInst
import HandS.StrMore
import HandS.More
import HandS.SortInts
import HandS.Style
import HandS.Rev
import HandS.Replace
import HandS.TupAny
import HandS.TupMul
import PyProof.StrBlock2
import HandS.Conv
import HandS.Flt
import KE.SortData
import KE.DataMinMax
import KE.DataEq
import KE.DataCmp
import HandS.SortKw
import PyProof.Rows.SeqMore
import KE.GoesZip
import HandS.TryOnly
import HandS.RevRange
set_option Elab.async false
set_option linter.all false
set_option maxRecDepth 100000
set_option maxHeartbeats 4000000
/-! TKu: enumerate over a tuple. -/
namespace TK
open PySem PySem.Spec PyProof.Rows L2
abbrev enO (v : Value) : Obj := { cls := .type "tuple_iterator", data := .fields #[v, .int 0 0] }
abbrev enE (n : Nat) : Obj := { cls := .type "enumerate", data := .fields #[.none, .bool false, .ref n, rawInt 0, .none, .none] }
set_option maxHeartbeats 4000000 in
theorem enum_newT (t : Addr) (its : Array Value) :
    Meets (Builtin.«enumerate.__new__» ⟨[.type "enumerate", .ref t], []⟩) (fun _ R z => z.heap.IsTuple t its ∧
      R (.ok (.ret (.ref (z.heap.push (enO (.ref t))).objs.size))) { z with heap := (z.heap.push (enO (.ref t))).push (enE z.heap.objs.size) }) :=
  .of_wp fun prog w A R z hz => by
    obtain ⟨hp, gg, dd, kk, oo⟩ := z
    obtain ⟨ht, hz⟩ := hz
    have subE := sub_enumerate
    have hT : Heap.IsTuple (Shared.heap ⟨hp, gg, dd, kk, oo⟩) t its := ht
    obtain ⟨ob, hob, hcl, hrest⟩ := id ht
    wp_walk using wpAny_pyIter_tuple hT
    refine wpAny_stack_any fun st2 => wpAny_pure ?_
    split
    · rename_i cc _ _ _ _ _
      cases (cc == Value.type "enumerate") <;> (wp_walk using wpAny_pyIter_tuple hT) <;> exact ⟨_, rfl, hz⟩
    · wp_walk using wpAny_pyIter_tuple hT
      exact ⟨_, rfl, hz⟩
section
variable {prog : Program} {w : World} {A : Around} {E : Value → Shared → Prop} {s : Shared}
theorem enum_callT {t : Addr} {its : Array Value} {Q : Value → Shared → Prop} (ht : s.heap.IsTuple t its)
    (k : ∀ g, IsEnum g (s.heap.objs.size + 1) s.heap.objs.size 0 .none → g.IsTupleIter s.heap.objs.size t 0 → g.objs.size = s.heap.objs.size + 2 →
      (∀ c u, s.heap.get? c = some u → g.get? c = some u) → Q (.ref (s.heap.objs.size + 1)) { s with heap := g }) :
    wpAny (model prog w) A (call (.type "enumerate") [.ref t]) Q E s := by
  refine callType_new F.called_enumerate (by decide) (F.typeCall_enumerate_1 _) (F.newCall_enumerate_1 _) (fun z => F.args_object_init_2 z _) F.entry_enumerate_new (enum_newT t its) ⟨ht, ?_⟩
  have z1 : (s.heap.push (enO (.ref t))).objs.size = s.heap.objs.size + 1 := Heap.size_push ..
  have z2 : IsEnum ((s.heap.push (enO (.ref t))).push (enE s.heap.objs.size)) (s.heap.objs.size + 1) s.heap.objs.size 0 .none := by
    have := Heap.get?_push_size (s.heap.push (enO (.ref t))) (o := enE s.heap.objs.size) rfl
    rwa [z1] at this
  show _ ∧ _
  rw [z1]
  exact ⟨⟨_, z2, rfl⟩, k _ z2 ⟨_, Heap.get?_push_of_some _ (Heap.get?_push_size _ rfl), rfl, rfl⟩ (by rw [Heap.size_push, z1]) fun c u y => Heap.get?_push_of_some _ (Heap.get?_push_of_some _ y)⟩
end
/-- a tuple's things, each in a new pair with its place -/
def IteT (K : PySem.W.Frag) (a : Addr) : It where
  go := fun i H => ∃ (us : List V) (u : V), SqT K H a us ∧ us[i]? = some u
  yld := fun i H v H' => ∃ T u, v = .ref T ∧ H T = none ∧ H' = upd H T (.tup [.int (i : Nat), u]) ∧ ∀ us, SqT K H a us → us[i]? = some u
  stop := fun i H => ∃ us : List V, SqT K H a us ∧ us.length ≤ i
theorem turn_enumT {P : Program} {w : World} {K : PySem.W.Frag} {elts : List Expr} {n : Nat} {tp : Pos} (a e it : Addr) (hea : e ≠ a) (hai : a ≠ it) (hei : e ≠ it) :
    Turn P w K (.Tuple elts n tp) (IteT K a) [e, it] e (fun i h => (∃ old, IsEnum h e it ((i : Nat) : Int) old) ∧ h.IsTupleIter it a i) where
  mem := List.mem_cons_self
  obj := fun i h st b hb => by
    obtain ⟨⟨old, he⟩, ob, hob, _, hdat⟩ := st
    rcases List.mem_cons.mp hb with rfl | hb
    · exact ⟨_, he, fun v z => nomatch z⟩
    · rw [List.mem_singleton.mp hb]
      exact ⟨ob, hob, fun v z => by rw [hdat] at z; cases z⟩
  keep := fun i h h' st kk => ⟨let ⟨old, he⟩ := st.1; ⟨old, kk e List.mem_cons_self _ he⟩, st.2.at fun o q => kk it (List.mem_cons_of_mem _ List.mem_cons_self) o q⟩
  item := by
    intro X hP hw hK hc i pins s σ H E I hf st hg
    subst hP hw hK
    obtain ⟨⟨old, he⟩, hit⟩ := st
    obtain ⟨us, u, hq, hu⟩ := hg
    obtain ⟨its, rv, p, hz⟩ := I.tuple hq
    obtain ⟨v, hv, ru⟩ := rv.get hu
    have e1 : e < s.heap.objs.size := Heap.lt_size he
    have e2 : it < s.heap.objs.size := by obtain ⟨_, q, _⟩ := hit; exact Heap.lt_size q
    have hlen : i < its.toArray.size := by
      have := (List.getElem?_eq_some_iff.mp hv).1
      simpa using this
    have Dr := Draws.tuple (prog := X.prog) (w := X.w) (A := X.A.in1) (show X.A.in1.handled = none from I.ok.hd hc) it a hai its.toArray
    refine wpAny_pyNext_enum_itemD Dr he ⟨hit, p⟩ hlen hei (fun z => by rcases List.mem_cons.mp z with z | z; exact hei z; exact hea (List.mem_singleton.mp z)) fun x g tk hx ho hst hT hsz hk => ?_
    have ex : x = v := by
      have hv' : its.toArray[i]? = some v := by simpa using hv
      rw [hx] at hv'
      exact Option.some.inj hv'
    subst ex
    refine ⟨_, rfl, wpAny_letOwnedTupleGo_enum (s := { s with heap := g, toks := tk + 1 }) ho fun g2 he2 sb => ?_⟩
    have hT2 : g2.get? s.heap.objs.size = some { cls := .type "tuple", data := .seq #[.int i tk, x] } := (sb.2 _ (Nat.ne_of_gt e1)).trans hT
    have nw : ObjOk X.prog X.w (upd H s.heap.objs.size (.tup [.int (i : Nat), u])) g2 s.heap.objs.size (.tup [.int (i : Nat), u]) :=
      ⟨by show 2 ≤ sizeLine; decide, [.int i tk, x], .cons ⟨_, rfl⟩ (.cons ru .nil), ⟨_, hT2, rfl, _, rfl⟩⟩
    have I2 := I.turnedNew (t' := tk + 1) (ch := [e, it]) (h' := g2) (fun b ob hb q => (sb.2 b (fun z => hb (z ▸ List.mem_cons_self))).trans (hk b ob (fun z => hb (z ▸ List.mem_cons_self)) (fun z => hb (z ▸ List.mem_cons_of_mem _ List.mem_cons_self)) q)) hf (Nat.le_refl _) nw
    refine ⟨.ref s.heap.objs.size, _, I2, rfl, ⟨_, u, rfl, I.hok.fresh (Nat.le_refl _), rfl, fun ys hy => by rw [I.tuple_inj hy hq]; exact hu⟩, ⟨⟨x, ?_⟩, hst.1.at fun o q => (sb.2 it (Ne.symm hei)).trans q⟩, fun b hb => ?_⟩
    · rw [show ((i + 1 : Nat) : Int) = (i : Int) + 1 by omega]; exact he2
    · have hb' : b < s.heap.objs.size := by
        rcases List.mem_cons.mp hb with z | z
        · rw [z]; exact e1
        · rw [List.mem_singleton.mp z]; exact e2
      rw [upd_ne (Nat.ne_of_lt hb')]
      exact (hf b hb).1
  done := by
    intro X hP hw hK hc i pins s σ H E I hf st hg
    subst hP hw hK
    obtain ⟨⟨old, he⟩, hit⟩ := st
    obtain ⟨us, hq, hl⟩ := hg
    obtain ⟨its, rv, p, hz⟩ := I.tuple hq
    obtain ⟨f0, f1, f2, f3, f4, f5⟩ := hf it (List.mem_cons_of_mem _ List.mem_cons_self)
    have hl2 := rv.length
    have Dr : Draws X.prog X.w X.A.in1 it [it, a] i (fun _ _ => True) (fun j h => j = i ∧ h.IsTupleIter it a j ∧ h.IsTuple a its.toArray) := {
      live := fun _ _ q => let ⟨o, ho, _⟩ := q.2.1; ⟨o, ho⟩
      frame := fun _ _ _ q kk => ⟨q.1, q.2.1.at fun o y => kk it List.mem_cons_self o y, q.2.2.at fun o y => kk a (List.mem_cons_of_mem _ List.mem_cons_self) o y⟩
      item := fun j _ _ _ lt q _ => absurd q.1 (Nat.ne_of_lt lt)
      done := fun _ _ _ q hE => wpAny_nextOf_tuple_end (show X.A.in1.handled = none from I.ok.hd hc) q.2.1 q.2.2 (by simp; omega) hE }
    exact wpAny_pyNext_enum_endD Dr he ⟨rfl, hit, p⟩ fun g eb => ⟨rfl, I.turned (t' := s.toks) (fun b o hb q => eb b o hb q) f0 f1 f3 f4 f5⟩
  self := fun A i s Q E st h => let ⟨⟨_, he⟩, _⟩ := st; wpAny_pyIter_enum he h
/-- enumerate of a list or of a tuple -/
def iEnumA (K : PySem.W.Frag) (ta : TA) : TI := fun σ H R => ta σ H fun vs H1 => ∃ a us, vs = [.ref a] ∧ ((SqL K H1 a us ∧ R (Ite K a) H1) ∨ (SqT K H1 a us ∧ R (IteT K a) H1))
theorem pi_enumA {X : Cx} {e : Expr} {ta : TA} {p pos tp : Pos} {elts : List Expr} {n : Nat} (hg : Gl X "enumerate") (hm : X.mg "enumerate" = none) (ha : PA X [e] ta) (hs : starEach [e] X.env = [(false, eval e X.env)]) :
    PI X (.Tuple elts n tp) (.Call (.Name "enumerate" p) [e] [] pos) (iEnumA X.K ta) := by
  refine ⟨fun pins s σ H R I hh => ?_⟩
  refine Call_ (ld_blt I hg hm boot_enumerate (PyProof.Rows.callWith_type1 (thn (ha.run pos pins s σ H _ I hh) fun us s1 ⟨vs, H1, I1, r1, a, ys, ev, q1⟩ => ?_) hs rfl))
  subst ev
  cases r1 with
  | cons r rr =>
    cases rr
    cases r
    have far : ∀ b, b ∈ [s1.heap.objs.size + 1, s1.heap.objs.size] → FpOk X pins H1 b := fun b hb => by
      have hle : s1.heap.objs.size ≤ b := by
        rcases List.mem_cons.mp hb with z | z
        · rw [z]; exact Nat.le_add_right _ _
        · rw [List.mem_singleton.mp z]; exact Nat.le_refl _
      exact I1.fpOk hle (I1.hok.fresh hle)
    rcases q1 with ⟨hq, q⟩ | ⟨hq, q⟩
    · obtain ⟨its, rv, pl, _⟩ := I1.list hq
      refine call_enumerate_list pl.isList fun g he hit _ hk => wpAny_pyIter_enum he ?_
      exact ⟨s1.heap.objs.size + 1, [s1.heap.objs.size + 1, s1.heap.objs.size], _, _, H1, rfl, I1.kept (t' := s1.toks) hk, turn_enum a (s1.heap.objs.size + 1) s1.heap.objs.size, ⟨⟨.none, he⟩, hit, Nat.succ_ne_self _⟩, far, q⟩
    · obtain ⟨its, rv, pt, _⟩ := I1.tuple hq
      have hlt : a < s1.heap.objs.size := by obtain ⟨_, z, _⟩ := id pt; exact Heap.lt_size z
      refine enum_callT (show s1.heap.IsTuple a its.toArray from pt) fun g he hit _ hk => wpAny_pyIter_enum he ?_
      exact ⟨s1.heap.objs.size + 1, [s1.heap.objs.size + 1, s1.heap.objs.size], _, _, H1, rfl, I1.kept (t' := s1.toks) hk, turn_enumT a (s1.heap.objs.size + 1) s1.heap.objs.size (Nat.ne_of_gt (Nat.lt_succ_of_lt hlt)) (Nat.ne_of_lt hlt) (Nat.succ_ne_self _), ⟨⟨.none, he⟩, hit⟩, far, q⟩
end TK

/-! TKa: values of our own, their store, how both lie in the abstract heap. -/
namespace TK
open PySem PySem.Spec PyProof.Rows L2

/-- a value: texts by their codes; tup, and lst (a list that nobody changes any more), by value; loc: a thing of the store -/
inductive D where
  | non | bl (b : Bool) | int (i : Int) | str (x : List Nat) | tup (xs : List D) | lst (xs : List D) | dct (ks vs : List D) | loc (n : Nat)
inductive O where
  | lst (xs : List D) | dct (kvs : List (D × D)) | dctT (kvs : List (D × D)) | lck (kvs : List (D × D)) | lckT (kvs : List (D × D))
abbrev St' := List O
/-- an end: a value, a refusal (the class' number), or none told -/
inductive R (α : Type) where
  | ok (a : α) | exc (c : Nat) (S : St') | bad
def R.bind {α β : Type} (r : R α) (f : α → R β) : R β := match r with
  | .ok a => f a
  | .exc c S => .exc c S
  | .bad => .bad
@[simp] theorem R.bind_ok {α β : Type} (a : α) (f : α → R β) : (R.ok a).bind f = f a := rfl
@[simp] theorem R.bind_bad {α β : Type} (f : α → R β) : (R.bad : R α).bind f = .bad := rfl
@[simp] theorem R.bind_exc {α β : Type} (c : Nat) (S : St') (f : α → R β) : (R.exc c S : R α).bind f = .exc c S := rfl
theorem R.bind_eq_ok {α β : Type} {r : R α} {f : α → R β} {b : β} (h : r.bind f = .ok b) : ∃ a, r = .ok a ∧ f a = .ok b := by
  cases r with
  | ok a => exact ⟨a, rfl, h⟩
  | exc c S => cases h
  | bad => cases h

abbrev ss (x : List Nat) : Str := ⟨x.toArray⟩
theorem ss_inj {x y : List Nat} (h : ss x = ss y) : x = y := by
  have e := congrArg (fun z : Str => z.cps.toList) h
  simpa using e
theorem ss_len (x : List Nat) : (ss x).length = x.length := by
  show x.toArray.size = x.length
  simp
theorem ss_app (x y : List Nat) : ss x ++ ss y = ss (x ++ y) := by
  show (⟨x.toArray ++ y.toArray⟩ : Str) = _
  simp [ss]

/-! ### how a value lies in the heap -/
/-- where the store's things stand; hid: lists that a comprehension is filling -/
structure Mu where
  pl : Nat → Addr
  hid : List Addr
instance : CoeFun Mu fun _ => Nat → Addr := ⟨Mu.pl⟩
def NotLoc (μ : Mu) (N : Nat) (a : Addr) : Prop := (∀ i, i < N → μ i ≠ a) ∧ a ∉ μ.hid
/-- a tuple that is read at a: tracked (and no thing of the store), or of the written part -/
def TAt (K : PySem.W.Frag) (μ : Mu) (N : Nat) (H : Hp) (a : Addr) (vs : List V) : Prop :=
  (Rd H a (.tup vs) ∧ NotLoc μ N a) ∨ ∃ (o : Obj) (its : Array Value) (n : Nat), K.lookup a = some o ∧ o.cls = .type "tuple" ∧ o.data = .seq its n ∧ its.size ≤ sizeLine ∧ Vals vs its.toList
def LAt (K : PySem.W.Frag) (μ : Mu) (N : Nat) (H : Hp) (a : Addr) (vs : List V) : Prop :=
  (Rd H a (.lst vs) ∧ NotLoc μ N a) ∨ ∃ (o : Obj) (its : Array Value) (n : Nat), K.lookup a = some o ∧ o.cls = .type "list" ∧ o.dict = none ∧ o.data = .seq its n ∧ its.size ≤ sizeLine ∧ Vals vs its.toList
def keyD : D → Option Key
  | .int i => some (.inl i)
  | .str x => some (.inr (ss x))
  | _ => none
def keysD : List D → Option (List Key)
  | [] => some []
  | d :: ds => (keyD d).bind fun k => (keysD ds).map fun ks => k :: ks
/-- a dict that is read at a -/
def DAt (μ : Mu) (N : Nat) (H : Hp) (a : Addr) (es : List (Key × V)) : Prop := Rd H a (.dK es) ∧ NotLoc μ N a
theorem TAt.sq {K : PySem.W.Frag} {μ : Mu} {N : Nat} {H : Hp} {a : Addr} {vs : List V} (h : TAt K μ N H a vs) : SqT K H a vs := by
  rcases h with h | h
  · exact .inl h.1
  · exact .inr h
theorem LAt.sq {K : PySem.W.Frag} {μ : Mu} {N : Nat} {H : Hp} {a : Addr} {vs : List V} (h : LAt K μ N H a vs) : SqL K H a vs := by
  rcases h with h | h
  · exact .inl h.1
  · exact .inr h
section
variable (K : PySem.W.Frag) (μ : Mu) (N : Nat) (H : Hp)
mutual
def RepV : D → V → Prop
  | .non, v => v = .non
  | .bl b, v => v = .bl b
  | .int i, v => v = .int i
  | .str x, v => v = .str (ss x)
  | .tup ds, v => ∃ a vs, v = .ref a ∧ TAt K μ N H a vs ∧ RepVs ds vs
  | .lst ds, v => ∃ a vs, v = .ref a ∧ LAt K μ N H a vs ∧ RepVs ds vs
  | .dct ks ds, v => ∃ a es, v = .ref a ∧ DAt μ N H a es ∧ keysD ks = some (es.map (·.1)) ∧ RepVs ds (es.map (·.2))
  | .loc n, v => n < N ∧ v = .ref (μ n)
def RepVs : List D → List V → Prop
  | [], vs => vs = []
  | d :: ds, vs => ∃ v vr, vs = v :: vr ∧ RepV d v ∧ RepVs ds vr
end
def keyT : D → Option (List Key)
  | .tup ds => keysD ds
  | _ => none
def RepK : List (D × D) → List (Key × V) → Prop
  | [], kvs => kvs = []
  | (k, d) :: r, kvs => ∃ k' v r', kvs = (k', v) :: r' ∧ keyD k = some k' ∧ RepV K μ N H d v ∧ RepK r r'
def RepKT : List (D × D) → List (List Key × V) → Prop
  | [], kvs => kvs = []
  | (k, d) :: r, kvs => ∃ k' v r', kvs = (k', v) :: r' ∧ keyT k = some k' ∧ RepV K μ N H d v ∧ RepKT r r'
def RepO : O → HO → Prop
  | .lst ds, o => ∃ vs, o = .lst vs ∧ RepVs K μ N H ds vs
  | .dct kvs, o => ∃ es, o = .dK es ∧ RepK K μ N H kvs es
  | .dctT kvs, o => ∃ es, o = .dT es ∧ RepKT K μ N H kvs es
  | .lck kvs, o => ∃ od es, o = .frz od (.dK es) ∧ RepK K μ N H kvs es
  | .lckT kvs, o => ∃ od es, o = .frz od (.dT es) ∧ RepKT K μ N H kvs es
end
/-- the store in the heap -/
structure Rel (K : PySem.W.Frag) (μ : Mu) (S : St') (H : Hp) : Prop where
  inj : ∀ i j, i < S.length → j < S.length → μ i = μ j → i = j
  obj : ∀ i o, S[i]? = some o → ∃ ho, H (μ i) = some ho ∧ RepO K μ S.length H o ho
  hid : ∀ a, a ∈ μ.hid → (H a).isSome = true ∧ ∀ i, i < S.length → μ i ≠ a
  hidT : ∀ a, a ∈ μ.hid → ∀ vs, H a ≠ some (.tup vs)
/-- later: all but the store's things stands, the store's things stand where they stood, new ones at new addresses -/
structure Ext (μ : Mu) (N : Nat) (H : Hp) (μ' : Mu) (N' : Nat) (H' : Hp) : Prop where
  le : N ≤ N'
  mu : ∀ i, i < N → μ' i = μ i
  keep : ∀ a o, H a = some o → NotLoc μ N a → H' a = some o
  new : ∀ i, N ≤ i → i < N' → H (μ' i) = none
  some : ∀ i, i < N → (H (μ i)).isSome = true
  hid : μ'.hid = μ.hid
  keepH : ∀ a, a ∈ μ.hid → (H a).isSome = true ∧ H' a = H a
  lock : ∀ i, i < N → ∀ od u, H (μ i) = Option.some (.frz od u) → H' (μ i) = Option.some (.frz od u)
/-- .. with more lists hidden, perhaps -/
structure ExtW0 (μ : Mu) (N : Nat) (H : Hp) (μ' : Mu) (N' : Nat) (H' : Hp) : Prop where
  le : N ≤ N'
  mu : ∀ i, i < N → μ' i = μ i
  keep : ∀ a o, H a = some o → NotLoc μ N a → H' a = some o
  new : ∀ i, N ≤ i → i < N' → H (μ' i) = none
  hid : ∀ a, a ∈ μ'.hid → a ∈ μ.hid ∨ H a = none
  hidO : ∀ a, a ∈ μ.hid → a ∈ μ'.hid
structure ExtW (μ : Mu) (N : Nat) (H : Hp) (μ' : Mu) (N' : Nat) (H' : Hp) : Prop extends ExtW0 μ N H μ' N' H' where
  lock : ∀ i, i < N → ∀ od u, H (μ i) = some (.frz od u) → H' (μ i) = some (.frz od u)
theorem Ext.w {μ μ' : Mu} {N N' : Nat} {H H' : Hp} (e : Ext μ N H μ' N' H') : ExtW μ N H μ' N' H' :=
  ⟨⟨e.le, e.mu, e.keep, e.new, fun a h => .inl (by rw [← e.hid]; exact h), fun a h => by rw [e.hid]; exact h⟩, e.lock⟩
section
variable {K : PySem.W.Frag} {μ μ' μ'' : Mu} {N N' N'' : Nat} {H H' H'' : Hp}
theorem ExtW0.notLoc (e : ExtW0 μ N H μ' N' H') {a : Addr} {o : HO} (h : H a = Option.some o) (n : NotLoc μ N a) : NotLoc μ' N' a := by
  refine ⟨fun i hi z => ?_, fun z => ?_⟩
  rotate_left
  · rcases e.hid a z with q | q
    · exact n.2 q
    · rw [q] at h; cases h
  by_cases hN : i < N
  · rw [e.mu i hN] at z; exact n.1 i hN z
  · have := e.new i (by omega) hi
    rw [z, h] at this; cases this
theorem ExtW0.rd (e : ExtW0 μ N H μ' N' H') {a : Addr} {o : HO} (h : Rd H a o) (n : NotLoc μ N a) : Rd H' a o ∧ NotLoc μ' N' a := by
  rcases h with h | ⟨ob, h⟩
  · exact ⟨.inl (e.keep a _ h n), e.notLoc h n⟩
  · exact ⟨.inr ⟨ob, e.keep a _ h n⟩, e.notLoc h n⟩
theorem ExtW0.tat (e : ExtW0 μ N H μ' N' H') {a : Addr} {vs : List V} (h : TAt K μ N H a vs) : TAt K μ' N' H' a vs := by
  rcases h with ⟨h, n⟩ | h
  · exact .inl (e.rd h n)
  · exact .inr h
theorem ExtW0.dat (e : ExtW0 μ N H μ' N' H') {a : Addr} {es : List (Key × V)} (h : DAt μ N H a es) : DAt μ' N' H' a es := e.rd h.1 h.2
theorem ExtW0.lat (e : ExtW0 μ N H μ' N' H') {a : Addr} {vs : List V} (h : LAt K μ N H a vs) : LAt K μ' N' H' a vs := by
  rcases h with ⟨h, n⟩ | h
  · exact .inl (e.rd h n)
  · exact .inr h
mutual
theorem RepV.ext0 (e : ExtW0 μ N H μ' N' H') : ∀ (d : D) (v : V), RepV K μ N H d v → RepV K μ' N' H' d v
  | .non, _, h => by simpa only [RepV] using h
  | .bl b, _, h => by simpa only [RepV] using h
  | .int i, _, h => by simpa only [RepV] using h
  | .str x, _, h => by simpa only [RepV] using h
  | .tup ds, v, h => by
    simp only [RepV] at h ⊢
    obtain ⟨a, vs, h1, h2, h3⟩ := h
    exact ⟨a, vs, h1, e.tat h2, RepVs.ext0 e ds vs h3⟩
  | .lst ds, v, h => by
    simp only [RepV] at h ⊢
    obtain ⟨a, vs, h1, h2, h3⟩ := h
    exact ⟨a, vs, h1, e.lat h2, RepVs.ext0 e ds vs h3⟩
  | .dct ks ds, v, h => by
    simp only [RepV] at h ⊢
    obtain ⟨a, es, h1, h2, h3, h4⟩ := h
    exact ⟨a, es, h1, e.dat h2, h3, RepVs.ext0 e ds _ h4⟩
  | .loc n, v, h => by
    simp only [RepV] at h ⊢
    exact ⟨Nat.lt_of_lt_of_le h.1 e.le, by rw [e.mu n h.1]; exact h.2⟩
theorem RepVs.ext0 (e : ExtW0 μ N H μ' N' H') : ∀ (ds : List D) (vs : List V), RepVs K μ N H ds vs → RepVs K μ' N' H' ds vs
  | [], _, h => by simpa only [RepVs] using h
  | d :: ds, vs, h => by
    simp only [RepVs] at h ⊢
    obtain ⟨v, vr, h1, h2, h3⟩ := h
    exact ⟨v, vr, h1, RepV.ext0 e d v h2, RepVs.ext0 e ds vr h3⟩
end
theorem RepK.ext0 (e : ExtW0 μ N H μ' N' H') : ∀ (kvs : List (D × D)) (es : List (Key × V)), RepK K μ N H kvs es → RepK K μ' N' H' kvs es
  | [], _, h => by simpa only [RepK] using h
  | (k, d) :: r, es, h => by
    simp only [RepK] at h ⊢
    obtain ⟨k', v, r', h1, h2, h3, h4⟩ := h
    exact ⟨k', v, r', h1, h2, RepV.ext0 e d v h3, RepK.ext0 e r r' h4⟩
theorem RepKT.ext0 (e : ExtW0 μ N H μ' N' H') : ∀ (kvs : List (D × D)) (es : List (List Key × V)), RepKT K μ N H kvs es → RepKT K μ' N' H' kvs es
  | [], _, h => by simpa only [RepKT] using h
  | (k, d) :: r, es, h => by
    simp only [RepKT] at h ⊢
    obtain ⟨k', v, r', h1, h2, h3, h4⟩ := h
    exact ⟨k', v, r', h1, h2, RepV.ext0 e d v h3, RepKT.ext0 e r r' h4⟩
theorem RepO.ext0 (e : ExtW0 μ N H μ' N' H') : ∀ (o : O) (ho : HO), RepO K μ N H o ho → RepO K μ' N' H' o ho
  | .lst ds, _, h => by
    simp only [RepO] at h ⊢
    obtain ⟨vs, h1, h2⟩ := h
    exact ⟨vs, h1, RepVs.ext0 e ds vs h2⟩
  | .dct kvs, _, h => by
    simp only [RepO] at h ⊢
    obtain ⟨vs, h1, h2⟩ := h
    exact ⟨vs, h1, RepK.ext0 e kvs vs h2⟩
  | .dctT kvs, _, h => by
    simp only [RepO] at h ⊢
    obtain ⟨vs, h1, h2⟩ := h
    exact ⟨vs, h1, RepKT.ext0 e kvs vs h2⟩
  | .lck kvs, _, h => by
    simp only [RepO] at h ⊢
    obtain ⟨od, vs, h1, h2⟩ := h
    exact ⟨od, vs, h1, RepK.ext0 e kvs vs h2⟩
  | .lckT kvs, _, h => by
    simp only [RepO] at h ⊢
    obtain ⟨od, vs, h1, h2⟩ := h
    exact ⟨od, vs, h1, RepKT.ext0 e kvs vs h2⟩
theorem ExtW.notLoc (e : ExtW μ N H μ' N' H') {a : Addr} {o : HO} (h : H a = Option.some o) (n : NotLoc μ N a) : NotLoc μ' N' a := e.toExtW0.notLoc h n
theorem ExtW.rd (e : ExtW μ N H μ' N' H') {a : Addr} {o : HO} (h : Rd H a o) (n : NotLoc μ N a) : Rd H' a o ∧ NotLoc μ' N' a := e.toExtW0.rd h n
theorem ExtW.tat (e : ExtW μ N H μ' N' H') {a : Addr} {vs : List V} (h : TAt K μ N H a vs) : TAt K μ' N' H' a vs := e.toExtW0.tat h
theorem ExtW.lat (e : ExtW μ N H μ' N' H') {a : Addr} {vs : List V} (h : LAt K μ N H a vs) : LAt K μ' N' H' a vs := e.toExtW0.lat h
theorem RepV.extW (e : ExtW μ N H μ' N' H') (d : D) (v : V) : RepV K μ N H d v → RepV K μ' N' H' d v := RepV.ext0 e.toExtW0 d v
theorem RepVs.extW (e : ExtW μ N H μ' N' H') (d : List D) (v : List V) : RepVs K μ N H d v → RepVs K μ' N' H' d v := RepVs.ext0 e.toExtW0 d v
theorem RepK.extW (e : ExtW μ N H μ' N' H') (d : List (D × D)) (v : List (Key × V)) : RepK K μ N H d v → RepK K μ' N' H' d v := RepK.ext0 e.toExtW0 d v
theorem RepKT.extW (e : ExtW μ N H μ' N' H') (d : List (D × D)) (v : List (List Key × V)) : RepKT K μ N H d v → RepKT K μ' N' H' d v := RepKT.ext0 e.toExtW0 d v
theorem RepO.extW (e : ExtW μ N H μ' N' H') (d : O) (v : HO) : RepO K μ N H d v → RepO K μ' N' H' d v := RepO.ext0 e.toExtW0 d v
theorem Ext.notLoc (e : Ext μ N H μ' N' H') {a : Addr} {o : HO} (h : H a = Option.some o) (n : NotLoc μ N a) : NotLoc μ' N' a := e.w.notLoc h n
theorem Ext.rd (e : Ext μ N H μ' N' H') {a : Addr} {o : HO} (h : Rd H a o) (n : NotLoc μ N a) : Rd H' a o ∧ NotLoc μ' N' a := e.w.rd h n
theorem Ext.tat (e : Ext μ N H μ' N' H') {a : Addr} {vs : List V} (h : TAt K μ N H a vs) : TAt K μ' N' H' a vs := e.w.tat h
theorem Ext.lat (e : Ext μ N H μ' N' H') {a : Addr} {vs : List V} (h : LAt K μ N H a vs) : LAt K μ' N' H' a vs := e.w.lat h
theorem RepV.ext (e : Ext μ N H μ' N' H') (d : D) (v : V) : RepV K μ N H d v → RepV K μ' N' H' d v := RepV.extW e.w d v
theorem RepVs.ext (e : Ext μ N H μ' N' H') (d : List D) (v : List V) : RepVs K μ N H d v → RepVs K μ' N' H' d v := RepVs.extW e.w d v
theorem RepK.ext (e : Ext μ N H μ' N' H') (d : List (D × D)) (v : List (Key × V)) : RepK K μ N H d v → RepK K μ' N' H' d v := RepK.extW e.w d v
theorem RepKT.ext (e : Ext μ N H μ' N' H') (d : List (D × D)) (v : List (List Key × V)) : RepKT K μ N H d v → RepKT K μ' N' H' d v := RepKT.extW e.w d v
theorem RepO.ext (e : Ext μ N H μ' N' H') (d : O) (v : HO) : RepO K μ N H d v → RepO K μ' N' H' d v := RepO.extW e.w d v
theorem Ext.refl {S : St'} (r : Rel K μ S H) : Ext μ S.length H μ S.length H :=
  ⟨Nat.le_refl _, fun _ _ => rfl, fun _ _ h _ => h, fun i h1 h2 => by omega, fun i hi => by
    obtain ⟨ho, h, _⟩ := r.obj i S[i] (List.getElem?_eq_getElem hi)
    rw [h]; rfl, rfl, fun a ha => ⟨(r.hid a ha).1, rfl⟩, fun _ _ _ _ h => h⟩
theorem Ext.trans (a : Ext μ N H μ' N' H') (b : Ext μ' N' H' μ'' N'' H'') : Ext μ N H μ'' N'' H'' where
  le := Nat.le_trans a.le b.le
  mu := fun i hi => (b.mu i (Nat.lt_of_lt_of_le hi a.le)).trans (a.mu i hi)
  keep := fun x o h n => b.keep x o (a.keep x o h n) (a.notLoc h n)
  new := fun i h1 h2 => by
    by_cases hi : i < N'
    · rw [b.mu i hi]; exact a.new i h1 hi
    · have h' := b.new i (by omega) h2
      by_cases q : H (μ'' i) = none
      · exact q
      · cases e : H (μ'' i) with
        | none => rfl
        | some o =>
          have nl : NotLoc μ N (μ'' i) ∨ ¬ NotLoc μ N (μ'' i) := Classical.em _
          rcases nl with nl | nl
          · rw [a.keep _ o e nl] at h'; cases h'
          · exfalso
            by_cases hh : μ'' i ∈ μ.hid
            · rw [(a.keepH _ hh).2, e] at h'; cases h'
            have : ∃ j, j < N ∧ μ j = μ'' i := Classical.byContradiction fun z => nl ⟨fun j hj e' => z ⟨j, hj, e'⟩, hh⟩
            obtain ⟨j, hj, ej⟩ := this
            have s' := b.some j (Nat.lt_of_lt_of_le hj a.le)
            rw [a.mu j hj, ej, h'] at s'
            cases s'
  some := a.some
  hid := b.hid.trans a.hid
  keepH := fun x hx => ⟨(a.keepH x hx).1, (b.keepH x (by rw [a.hid]; exact hx)).2.trans (a.keepH x hx).2⟩
  lock := fun i hi od u h => by
    have h1 := a.lock i hi od u h
    rw [← a.mu i hi] at h1 ⊢
    exact b.lock i (Nat.lt_of_lt_of_le hi a.le) od u h1
/-- a new thing beside the store -/
theorem Ext.fresh {S : St'} (r : Rel K μ S H) {p : Addr} {o : HO} (hp : H p = none) : Ext μ S.length H μ S.length (upd H p o) where
  le := Nat.le_refl _
  mu := fun _ _ => rfl
  keep := fun a o' h n => by rw [upd_ne (ne_of_none h hp)]; exact h
  new := fun i h1 h2 => by omega
  some := (Ext.refl r).some
  hid := rfl
  keepH := fun a ha => ⟨(r.hid a ha).1, upd_ne fun e => by have := (r.hid a ha).1; rw [e, hp] at this; cases this⟩
  lock := fun i hi od u h => by rw [upd_ne (ne_of_none h hp)]; exact h
theorem notLoc_fresh {S : St'} (r : Rel K μ S H) {p : Addr} (hp : H p = none) : NotLoc μ S.length p := by
  refine ⟨fun i hi e => ?_, fun hm => ?_⟩
  · have := (Ext.refl r).some i hi
    rw [e, hp] at this; cases this
  · have := (r.hid p hm).1
    rw [hp] at this; cases this
theorem some_upd {p a : Addr} {o : HO} (h : (H a).isSome = true) : (upd H p o a).isSome = true := by
  unfold upd; split
  · rfl
  · exact h
theorem Rel.fresh {S : St'} (r : Rel K μ S H) {p : Addr} {o : HO} (hp : H p = none) : Rel K μ S (upd H p o) where
  inj := r.inj
  obj := fun i u h => by
    obtain ⟨ho, e, q⟩ := r.obj i u h
    refine ⟨ho, by rw [upd_ne (ne_of_none e hp)]; exact e, RepO.ext (Ext.fresh r hp) _ _ q⟩
  hid := fun a ha => ⟨some_upd (r.hid a ha).1, (r.hid a ha).2⟩
  hidT := fun a ha vs => by rw [upd_ne fun e => by have := (r.hid a ha).1; rw [e, hp] at this; cases this]; exact r.hidT a ha vs
/-- a new thing of the store -/
def muAdd (μ : Mu) (N : Nat) (p : Addr) : Mu := ⟨fun i => if i = N then p else μ i, μ.hid⟩
theorem muAdd_new {μ : Mu} {N : Nat} {p : Addr} : muAdd μ N p N = p := if_pos rfl
theorem muAdd_old {μ : Mu} {N : Nat} {p : Addr} {i : Nat} (h : i < N) : muAdd μ N p i = μ i := if_neg (by omega)
theorem Ext.alloc {S : St'} (r : Rel K μ S H) {p : Addr} {o : HO} (hp : H p = none) : Ext μ S.length H (muAdd μ S.length p) (S.length + 1) (upd H p o) where
  le := Nat.le_succ _
  mu := fun i hi => muAdd_old hi
  keep := fun a o' h n => by rw [upd_ne (ne_of_none h hp)]; exact h
  new := fun i h1 h2 => by
    have e : i = S.length := by omega
    rw [e, muAdd_new]; exact hp
  some := (Ext.refl r).some
  hid := rfl
  keepH := fun a ha => ⟨(r.hid a ha).1, upd_ne fun e => by have := (r.hid a ha).1; rw [e, hp] at this; cases this⟩
  lock := fun i hi od u h => by rw [upd_ne (ne_of_none h hp)]; exact h
theorem Rel.alloc {S : St'} (r : Rel K μ S H) {p : Addr} {o : O} {ho : HO} (hp : H p = none) (q : RepO K μ S.length H o ho) : Rel K (muAdd μ S.length p) (S ++ [o]) (upd H p ho) where
  inj := fun i j hi hj e => by
    rw [List.length_append, List.length_singleton] at hi hj
    have nl := (notLoc_fresh r hp).1
    by_cases h1 : i < S.length
    · by_cases h2 : j < S.length
      · rw [muAdd_old h1, muAdd_old h2] at e; exact r.inj i j h1 h2 e
      · have ej : j = S.length := by omega
        rw [ej, muAdd_new, muAdd_old h1] at e; exact absurd e (nl i h1)
    · have ei : i = S.length := by omega
      by_cases h2 : j < S.length
      · rw [ei, muAdd_new, muAdd_old h2] at e; exact absurd e.symm (nl j h2)
      · omega
  obj := fun i u h => by
    rw [List.length_append, List.length_singleton]
    by_cases h1 : i < S.length
    · rw [List.getElem?_append_left h1] at h
      obtain ⟨h2, e, q'⟩ := r.obj i u h
      exact ⟨h2, by rw [muAdd_old h1, upd_ne (ne_of_none e hp)]; exact e, RepO.ext (Ext.alloc r hp) _ _ q'⟩
    · have h2 : i < (S ++ [o]).length := (List.getElem?_eq_some_iff.mp h).1
      rw [List.length_append, List.length_singleton] at h2
      have e : i = S.length := by omega
      subst e
      rw [List.getElem?_append_right (Nat.le_refl _), Nat.sub_self] at h
      have e' : o = u := Option.some.inj h
      subst e'
      exact ⟨ho, by rw [muAdd_new, upd_same], RepO.ext (Ext.alloc r hp) _ _ q⟩
  hid := fun a ha => ⟨some_upd (r.hid a ha).1, fun i hi e => by
    rw [List.length_append, List.length_singleton] at hi
    by_cases h1 : i < S.length
    · rw [muAdd_old h1] at e; exact (r.hid a ha).2 i h1 e
    · have ei : i = S.length := by omega
      rw [ei, muAdd_new] at e
      have := (r.hid a ha).1
      rw [← e, hp] at this; cases this⟩
  hidT := fun a ha vs => by rw [upd_ne fun e => by have := (r.hid a ha).1; rw [e, hp] at this; cases this]; exact r.hidT a ha vs
/-- a thing of the store is written -/
theorem Ext.write {S : St'} (r : Rel K μ S H) {n : Nat} (hn : n < S.length) (nf : ∀ od u, H (μ n) ≠ Option.some (.frz od u)) {o : HO} : Ext μ S.length H μ S.length (upd H (μ n) o) where
  le := Nat.le_refl _
  mu := fun _ _ => rfl
  keep := fun a o' h nl => by rw [upd_ne (fun e => nl.1 n hn e.symm)]; exact h
  new := fun i h1 h2 => by omega
  some := (Ext.refl r).some
  hid := rfl
  keepH := fun a ha => ⟨(r.hid a ha).1, upd_ne fun e => (r.hid a ha).2 n hn e.symm⟩
  lock := fun i hi od u h => by rw [upd_ne (fun e => nf od u (by rw [← e]; exact h))]; exact h
theorem Rel.write {S : St'} (r : Rel K μ S H) {n : Nat} (hn : n < S.length) (nf : ∀ od u, H (μ n) ≠ Option.some (.frz od u)) {o : O} {ho : HO} (q : RepO K μ S.length H o ho) : Rel K μ (S.set n o) (upd H (μ n) ho) where
  inj := fun i j hi hj e => r.inj i j (by simpa using hi) (by simpa using hj) e
  obj := fun i u h => by
    have e0 : Ext μ S.length H μ (S.set n o).length (upd H (μ n) ho) := by rw [List.length_set]; exact Ext.write r hn nf
    by_cases hi : i = n
    · subst hi
      rw [List.getElem?_set_self hn] at h
      cases h
      exact ⟨ho, upd_same, RepO.ext e0 _ _ q⟩
    · rw [List.getElem?_set_ne (Ne.symm hi)] at h
      obtain ⟨h2, e, q'⟩ := r.obj i u h
      have hi' : i < S.length := (List.getElem?_eq_some_iff.mp h).1
      refine ⟨h2, ?_, RepO.ext e0 _ _ q'⟩
      rw [upd_ne (fun z => hi (r.inj i n hi' hn z))]; exact e
  hid := fun a ha => ⟨some_upd (r.hid a ha).1, fun i hi => (r.hid a ha).2 i (by simpa using hi)⟩
  hidT := fun a ha vs => by rw [upd_ne fun e => (r.hid a ha).2 n hn e.symm]; exact r.hidT a ha vs
/-- .. also a locked one -/
theorem ExtW0.write {S : St'} (r : Rel K μ S H) {n : Nat} (hn : n < S.length) {o : HO} : ExtW0 μ S.length H μ S.length (upd H (μ n) o) where
  le := Nat.le_refl _
  mu := fun _ _ => rfl
  keep := fun a o' h nl => by rw [upd_ne (fun e => nl.1 n hn e.symm)]; exact h
  new := fun i h1 h2 => by omega
  hid := fun a h => .inl h
  hidO := fun a h => h
theorem Rel.write0 {S : St'} (r : Rel K μ S H) {n : Nat} (hn : n < S.length) {o : O} {ho : HO} (q : RepO K μ S.length H o ho) : Rel K μ (S.set n o) (upd H (μ n) ho) where
  inj := fun i j hi hj e => r.inj i j (by simpa using hi) (by simpa using hj) e
  obj := fun i u h => by
    have e0 : ExtW0 μ S.length H μ (S.set n o).length (upd H (μ n) ho) := by rw [List.length_set]; exact ExtW0.write r hn
    by_cases hi : i = n
    · subst hi
      rw [List.getElem?_set_self hn] at h
      cases h
      exact ⟨ho, upd_same, RepO.ext0 e0 _ _ q⟩
    · rw [List.getElem?_set_ne (Ne.symm hi)] at h
      obtain ⟨h2, e, q'⟩ := r.obj i u h
      have hi' : i < S.length := (List.getElem?_eq_some_iff.mp h).1
      refine ⟨h2, ?_, RepO.ext0 e0 _ _ q'⟩
      rw [upd_ne (fun z => hi (r.inj i n hi' hn z))]; exact e
  hid := fun a ha => ⟨some_upd (r.hid a ha).1, fun i hi => (r.hid a ha).2 i (by simpa using hi)⟩
  hidT := fun a ha vs => by rw [upd_ne fun e => (r.hid a ha).2 n hn e.symm]; exact r.hidT a ha vs
/-- the store's end forgotten -/
theorem Rel.drop {S : St'} {G : St'} (r : Rel K μ (S ++ G) H) (q : ∀ (i : Nat) (o : O) (ho : HO), S[i]? = some o → RepO K μ (S ++ G).length H o ho → RepO K μ S.length H o ho) : Rel K μ S H where
  inj := fun i j hi hj e => r.inj i j (by rw [List.length_append]; omega) (by rw [List.length_append]; omega) e
  obj := fun i o h => by
    have hi : i < S.length := (List.getElem?_eq_some_iff.mp h).1
    obtain ⟨ho, e, q'⟩ := r.obj i o (by rw [List.getElem?_append_left hi]; exact h)
    exact ⟨ho, e, q i o ho h q'⟩
  hid := fun a ha => ⟨(r.hid a ha).1, fun i hi => (r.hid a ha).2 i (by rw [List.length_append]; omega)⟩
  hidT := r.hidT
/-! ### a list that a comprehension fills -/
/-- μ with one hidden list more -/
def muHide (μ : Mu) (p : Addr) : Mu := ⟨μ.pl, p :: μ.hid⟩
def muShow (μ : Mu) (l : List Addr) : Mu := ⟨μ.pl, l⟩
section
variable {p : Addr}
theorem notLoc_hide {a : Addr} {o : HO} (hp : H p = none) (h : H a = Option.some o) (n : NotLoc μ N a) : NotLoc (muHide μ p) N a :=
  ⟨n.1, fun z => by
    rcases List.mem_cons.mp z with e | e
    · rw [e, hp] at h; cases h
    · exact n.2 e⟩
theorem rd_hide {a : Addr} {o u : HO} (hp : H p = none) (h : Rd H a u) (n : NotLoc μ N a) : Rd (upd H p o) a u ∧ NotLoc (muHide μ p) N a := by
  rcases h with h | ⟨ob, h⟩
  · exact ⟨.inl (by rw [upd_ne (ne_of_none h hp)]; exact h), notLoc_hide hp h n⟩
  · exact ⟨.inr ⟨ob, by rw [upd_ne (ne_of_none h hp)]; exact h⟩, notLoc_hide hp h n⟩
mutual
theorem RepV.hide {o : HO} (hp : H p = none) : ∀ (d : D) (v : V), RepV K μ N H d v → RepV K (muHide μ p) N (upd H p o) d v
  | .non, _, h => by simpa only [RepV] using h
  | .bl b, _, h => by simpa only [RepV] using h
  | .int i, _, h => by simpa only [RepV] using h
  | .str x, _, h => by simpa only [RepV] using h
  | .tup ds, v, h => by
    simp only [RepV] at h ⊢
    obtain ⟨a, vs, h1, h2, h3⟩ := h
    refine ⟨a, vs, h1, ?_, RepVs.hide hp ds vs h3⟩
    rcases h2 with h2 | h2
    · exact .inl (rd_hide hp h2.1 h2.2)
    · exact .inr h2
  | .lst ds, v, h => by
    simp only [RepV] at h ⊢
    obtain ⟨a, vs, h1, h2, h3⟩ := h
    refine ⟨a, vs, h1, ?_, RepVs.hide hp ds vs h3⟩
    rcases h2 with h2 | h2
    · exact .inl (rd_hide hp h2.1 h2.2)
    · exact .inr h2
  | .dct ks ds, v, h => by
    simp only [RepV] at h ⊢
    obtain ⟨a, es, h1, h2, h3, h4⟩ := h
    exact ⟨a, es, h1, rd_hide hp h2.1 h2.2, h3, RepVs.hide hp ds _ h4⟩
  | .loc n, v, h => by
    simp only [RepV] at h ⊢
    exact h
theorem RepVs.hide {o : HO} (hp : H p = none) : ∀ (ds : List D) (vs : List V), RepVs K μ N H ds vs → RepVs K (muHide μ p) N (upd H p o) ds vs
  | [], _, h => by simpa only [RepVs] using h
  | d :: ds, vs, h => by
    simp only [RepVs] at h ⊢
    obtain ⟨v, vr, h1, h2, h3⟩ := h
    exact ⟨v, vr, h1, RepV.hide hp d v h2, RepVs.hide hp ds vr h3⟩
end
theorem RepK.hide {o : HO} (hp : H p = none) : ∀ (kvs : List (D × D)) (es : List (Key × V)), RepK K μ N H kvs es → RepK K (muHide μ p) N (upd H p o) kvs es
  | [], _, h => by simpa only [RepK] using h
  | (k, d) :: r, es, h => by
    simp only [RepK] at h ⊢
    obtain ⟨k', v, r', h1, h2, h3, h4⟩ := h
    exact ⟨k', v, r', h1, h2, RepV.hide hp d v h3, RepK.hide hp r r' h4⟩
theorem RepKT.hide {o : HO} (hp : H p = none) : ∀ (kvs : List (D × D)) (es : List (List Key × V)), RepKT K μ N H kvs es → RepKT K (muHide μ p) N (upd H p o) kvs es
  | [], _, h => by simpa only [RepKT] using h
  | (k, d) :: r, es, h => by
    simp only [RepKT] at h ⊢
    obtain ⟨k', v, r', h1, h2, h3, h4⟩ := h
    exact ⟨k', v, r', h1, h2, RepV.hide hp d v h3, RepKT.hide hp r r' h4⟩
theorem RepO.hide {ho' : HO} (hp : H p = none) : ∀ (o : O) (ho : HO), RepO K μ N H o ho → RepO K (muHide μ p) N (upd H p ho') o ho
  | .lst ds, _, h => by
    simp only [RepO] at h ⊢
    obtain ⟨vs, h1, h2⟩ := h
    exact ⟨vs, h1, RepVs.hide hp ds vs h2⟩
  | .dct kvs, _, h => by
    simp only [RepO] at h ⊢
    obtain ⟨vs, h1, h2⟩ := h
    exact ⟨vs, h1, RepK.hide hp kvs vs h2⟩
  | .dctT kvs, _, h => by
    simp only [RepO] at h ⊢
    obtain ⟨vs, h1, h2⟩ := h
    exact ⟨vs, h1, RepKT.hide hp kvs vs h2⟩
  | .lck kvs, _, h => by
    simp only [RepO] at h ⊢
    obtain ⟨od, vs, h1, h2⟩ := h
    exact ⟨od, vs, h1, RepK.hide hp kvs vs h2⟩
  | .lckT kvs, _, h => by
    simp only [RepO] at h ⊢
    obtain ⟨od, vs, h1, h2⟩ := h
    exact ⟨od, vs, h1, RepKT.hide hp kvs vs h2⟩
theorem Rel.hide {S : St'} {o : HO} (r : Rel K μ S H) (hp : H p = none) (no : ∀ vs, o ≠ .tup vs := by intro vs h; cases h) : Rel K (muHide μ p) S (upd H p o) where
  inj := r.inj
  obj := fun i u h => by
    obtain ⟨ho, e, q⟩ := r.obj i u h
    exact ⟨ho, by show upd H p o (μ i) = _; rw [upd_ne (ne_of_none e hp)]; exact e, RepO.hide hp _ _ q⟩
  hid := fun a ha => by
    rcases List.mem_cons.mp ha with e | e
    · rw [e, upd_same]; exact ⟨rfl, fun i hi => (notLoc_fresh r hp).1 i hi⟩
    · exact ⟨some_upd (r.hid a e).1, (r.hid a e).2⟩
  hidT := fun a ha vs => by
    rcases List.mem_cons.mp ha with e | e
    · rw [e, upd_same]; exact fun z => no vs (Option.some.inj z)
    · rw [upd_ne fun z => by have := (r.hid a e).1; rw [z, hp] at this; cases this]; exact r.hidT a e vs
/-- the hidden list is changed: nothing else sees it -/
theorem notLoc_ne {a : Addr} (hm : p ∈ μ.hid) (n : NotLoc μ N a) : a ≠ p := fun e => n.2 (by rw [e]; exact hm)
theorem rd_hid {a : Addr} {u : HO} (hq : ∀ a, a ≠ p → H' a = H a) (hm : p ∈ μ.hid) (h : Rd H a u) (n : NotLoc μ N a) : Rd H' a u := by
  rcases h with h | ⟨ob, h⟩
  · exact .inl (by rw [hq _ (notLoc_ne hm n)]; exact h)
  · exact .inr ⟨ob, by rw [hq _ (notLoc_ne hm n)]; exact h⟩
mutual
theorem RepV.hid (hq : ∀ a, a ≠ p → H' a = H a) (hm : p ∈ μ.hid) : ∀ (d : D) (v : V), RepV K μ N H d v → RepV K μ N H' d v
  | .non, _, h => by simpa only [RepV] using h
  | .bl b, _, h => by simpa only [RepV] using h
  | .int i, _, h => by simpa only [RepV] using h
  | .str x, _, h => by simpa only [RepV] using h
  | .tup ds, v, h => by
    simp only [RepV] at h ⊢
    obtain ⟨a, vs, h1, h2, h3⟩ := h
    refine ⟨a, vs, h1, ?_, RepVs.hid hq hm ds vs h3⟩
    rcases h2 with h2 | h2
    · exact .inl ⟨rd_hid hq hm h2.1 h2.2, h2.2⟩
    · exact .inr h2
  | .lst ds, v, h => by
    simp only [RepV] at h ⊢
    obtain ⟨a, vs, h1, h2, h3⟩ := h
    refine ⟨a, vs, h1, ?_, RepVs.hid hq hm ds vs h3⟩
    rcases h2 with h2 | h2
    · exact .inl ⟨rd_hid hq hm h2.1 h2.2, h2.2⟩
    · exact .inr h2
  | .dct ks ds, v, h => by
    simp only [RepV] at h ⊢
    obtain ⟨a, es, h1, h2, h3, h4⟩ := h
    exact ⟨a, es, h1, ⟨rd_hid hq hm h2.1 h2.2, h2.2⟩, h3, RepVs.hid hq hm ds _ h4⟩
  | .loc n, v, h => by
    simp only [RepV] at h ⊢
    exact h
theorem RepVs.hid (hq : ∀ a, a ≠ p → H' a = H a) (hm : p ∈ μ.hid) : ∀ (ds : List D) (vs : List V), RepVs K μ N H ds vs → RepVs K μ N H' ds vs
  | [], _, h => by simpa only [RepVs] using h
  | d :: ds, vs, h => by
    simp only [RepVs] at h ⊢
    obtain ⟨v, vr, h1, h2, h3⟩ := h
    exact ⟨v, vr, h1, RepV.hid hq hm d v h2, RepVs.hid hq hm ds vr h3⟩
end
theorem RepK.hid (hq : ∀ a, a ≠ p → H' a = H a) (hm : p ∈ μ.hid) : ∀ (kvs : List (D × D)) (es : List (Key × V)), RepK K μ N H kvs es → RepK K μ N H' kvs es
  | [], _, h => by simpa only [RepK] using h
  | (k, d) :: r, es, h => by
    simp only [RepK] at h ⊢
    obtain ⟨k', v, r', h1, h2, h3, h4⟩ := h
    exact ⟨k', v, r', h1, h2, RepV.hid hq hm d v h3, RepK.hid hq hm r r' h4⟩
theorem RepKT.hid (hq : ∀ a, a ≠ p → H' a = H a) (hm : p ∈ μ.hid) : ∀ (kvs : List (D × D)) (es : List (List Key × V)), RepKT K μ N H kvs es → RepKT K μ N H' kvs es
  | [], _, h => by simpa only [RepKT] using h
  | (k, d) :: r, es, h => by
    simp only [RepKT] at h ⊢
    obtain ⟨k', v, r', h1, h2, h3, h4⟩ := h
    exact ⟨k', v, r', h1, h2, RepV.hid hq hm d v h3, RepKT.hid hq hm r r' h4⟩
theorem RepO.hid (hq : ∀ a, a ≠ p → H' a = H a) (hm : p ∈ μ.hid) : ∀ (o : O) (ho : HO), RepO K μ N H o ho → RepO K μ N H' o ho
  | .lst ds, _, h => by
    simp only [RepO] at h ⊢
    obtain ⟨vs, h1, h2⟩ := h
    exact ⟨vs, h1, RepVs.hid hq hm ds vs h2⟩
  | .dct kvs, _, h => by
    simp only [RepO] at h ⊢
    obtain ⟨vs, h1, h2⟩ := h
    exact ⟨vs, h1, RepK.hid hq hm kvs vs h2⟩
  | .dctT kvs, _, h => by
    simp only [RepO] at h ⊢
    obtain ⟨vs, h1, h2⟩ := h
    exact ⟨vs, h1, RepKT.hid hq hm kvs vs h2⟩
  | .lck kvs, _, h => by
    simp only [RepO] at h ⊢
    obtain ⟨od, vs, h1, h2⟩ := h
    exact ⟨od, vs, h1, RepK.hid hq hm kvs vs h2⟩
  | .lckT kvs, _, h => by
    simp only [RepO] at h ⊢
    obtain ⟨od, vs, h1, h2⟩ := h
    exact ⟨od, vs, h1, RepKT.hid hq hm kvs vs h2⟩
theorem Rel.hidSet {S : St'} {o : HO} (r : Rel K μ S H) (hm : p ∈ μ.hid) (no : ∀ vs, o ≠ .tup vs := by intro vs h; cases h) : Rel K μ S (upd H p o) where
  inj := r.inj
  obj := fun i u h => by
    obtain ⟨ho, e, q⟩ := r.obj i u h
    have hi : i < S.length := (List.getElem?_eq_some_iff.mp h).1
    exact ⟨ho, by rw [upd_ne ((r.hid p hm).2 i hi)]; exact e, RepO.hid (fun b hb => upd_ne hb) hm _ _ q⟩
  hid := fun a ha => ⟨some_upd (r.hid a ha).1, (r.hid a ha).2⟩
  hidT := fun a ha vs => by
    by_cases e : a = p
    · rw [e, upd_same]; exact fun z => no vs (Option.some.inj z)
    · rw [upd_ne e]; exact r.hidT a ha vs
/-- the hidden list is shown -/
theorem notLoc_show {a : Addr} {l : List Addr} (hl : ∀ b ∈ l, b ∈ μ.hid) (n : NotLoc μ N a) : NotLoc (muShow μ l) N a := ⟨n.1, fun z => n.2 (hl a z)⟩
mutual
theorem RepV.show {l : List Addr} (hl : ∀ b ∈ l, b ∈ μ.hid) : ∀ (d : D) (v : V), RepV K μ N H d v → RepV K (muShow μ l) N H d v
  | .non, _, h => by simpa only [RepV] using h
  | .bl b, _, h => by simpa only [RepV] using h
  | .int i, _, h => by simpa only [RepV] using h
  | .str x, _, h => by simpa only [RepV] using h
  | .tup ds, v, h => by
    simp only [RepV] at h ⊢
    obtain ⟨a, vs, h1, h2, h3⟩ := h
    refine ⟨a, vs, h1, ?_, RepVs.show hl ds vs h3⟩
    rcases h2 with h2 | h2
    · exact .inl ⟨h2.1, notLoc_show hl h2.2⟩
    · exact .inr h2
  | .lst ds, v, h => by
    simp only [RepV] at h ⊢
    obtain ⟨a, vs, h1, h2, h3⟩ := h
    refine ⟨a, vs, h1, ?_, RepVs.show hl ds vs h3⟩
    rcases h2 with h2 | h2
    · exact .inl ⟨h2.1, notLoc_show hl h2.2⟩
    · exact .inr h2
  | .dct ks ds, v, h => by
    simp only [RepV] at h ⊢
    obtain ⟨a, es, h1, h2, h3, h4⟩ := h
    exact ⟨a, es, h1, ⟨h2.1, notLoc_show hl h2.2⟩, h3, RepVs.show hl ds _ h4⟩
  | .loc n, v, h => by
    simp only [RepV] at h ⊢
    exact h
theorem RepVs.show {l : List Addr} (hl : ∀ b ∈ l, b ∈ μ.hid) : ∀ (ds : List D) (vs : List V), RepVs K μ N H ds vs → RepVs K (muShow μ l) N H ds vs
  | [], _, h => by simpa only [RepVs] using h
  | d :: ds, vs, h => by
    simp only [RepVs] at h ⊢
    obtain ⟨v, vr, h1, h2, h3⟩ := h
    exact ⟨v, vr, h1, RepV.show hl d v h2, RepVs.show hl ds vr h3⟩
end
theorem RepK.show {l : List Addr} (hl : ∀ b ∈ l, b ∈ μ.hid) : ∀ (kvs : List (D × D)) (es : List (Key × V)), RepK K μ N H kvs es → RepK K (muShow μ l) N H kvs es
  | [], _, h => by simpa only [RepK] using h
  | (k, d) :: r, es, h => by
    simp only [RepK] at h ⊢
    obtain ⟨k', v, r', h1, h2, h3, h4⟩ := h
    exact ⟨k', v, r', h1, h2, RepV.show hl d v h3, RepK.show hl r r' h4⟩
theorem RepKT.show {l : List Addr} (hl : ∀ b ∈ l, b ∈ μ.hid) : ∀ (kvs : List (D × D)) (es : List (List Key × V)), RepKT K μ N H kvs es → RepKT K (muShow μ l) N H kvs es
  | [], _, h => by simpa only [RepKT] using h
  | (k, d) :: r, es, h => by
    simp only [RepKT] at h ⊢
    obtain ⟨k', v, r', h1, h2, h3, h4⟩ := h
    exact ⟨k', v, r', h1, h2, RepV.show hl d v h3, RepKT.show hl r r' h4⟩
theorem RepO.show {l : List Addr} (hl : ∀ b ∈ l, b ∈ μ.hid) : ∀ (o : O) (ho : HO), RepO K μ N H o ho → RepO K (muShow μ l) N H o ho
  | .lst ds, _, h => by
    simp only [RepO] at h ⊢
    obtain ⟨vs, h1, h2⟩ := h
    exact ⟨vs, h1, RepVs.show hl ds vs h2⟩
  | .dct kvs, _, h => by
    simp only [RepO] at h ⊢
    obtain ⟨vs, h1, h2⟩ := h
    exact ⟨vs, h1, RepK.show hl kvs vs h2⟩
  | .dctT kvs, _, h => by
    simp only [RepO] at h ⊢
    obtain ⟨vs, h1, h2⟩ := h
    exact ⟨vs, h1, RepKT.show hl kvs vs h2⟩
  | .lck kvs, _, h => by
    simp only [RepO] at h ⊢
    obtain ⟨od, vs, h1, h2⟩ := h
    exact ⟨od, vs, h1, RepK.show hl kvs vs h2⟩
  | .lckT kvs, _, h => by
    simp only [RepO] at h ⊢
    obtain ⟨od, vs, h1, h2⟩ := h
    exact ⟨od, vs, h1, RepKT.show hl kvs vs h2⟩
theorem Rel.show {S : St'} {l : List Addr} (hl : ∀ b ∈ l, b ∈ μ.hid) (r : Rel K μ S H) : Rel K (muShow μ l) S H where
  inj := r.inj
  obj := fun i u h => by
    obtain ⟨ho, e, q⟩ := r.obj i u h
    exact ⟨ho, e, RepO.show hl _ _ q⟩
  hid := fun a ha => r.hid a (hl a ha)
  hidT := fun a ha => r.hidT a (hl a ha)
def era (H : Hp) (p : Addr) : Hp := fun b => if b = p then none else H b
theorem era_ne {a : Addr} (h : a ≠ p) : era H p a = H a := if_neg h
theorem era_same : era H p p = none := if_pos rfl
theorem era_upd {o : HO} (h : H p = Option.some o) : upd (era H p) p o = H := by
  funext b
  by_cases e : b = p
  · rw [e, upd_same, h]
  · rw [upd_ne e, era_ne e]
theorem RepVs.unhide {l : List Addr} (hm : p ∈ μ.hid) (hl : ∀ b ∈ l, b ∈ μ.hid) {ds : List D} {vs : List V} (h : RepVs K μ N H ds vs) : RepVs K (muShow μ l) N (era H p) ds vs :=
  RepVs.show hl _ _ (RepVs.hid (fun a h => era_ne h) hm _ _ h)
theorem Rel.unhide {S : St'} {l : List Addr} (hm : p ∈ μ.hid) (hl : ∀ b ∈ l, b ∈ μ.hid) (hp : p ∉ l) (r : Rel K μ S H) : Rel K (muShow μ l) S (era H p) where
  inj := r.inj
  obj := fun i u h => by
    obtain ⟨ho, e, q⟩ := r.obj i u h
    have hi : i < S.length := (List.getElem?_eq_some_iff.mp h).1
    exact ⟨ho, by show era H p (μ i) = _; rw [era_ne ((r.hid p hm).2 i hi)]; exact e, RepO.show hl _ _ (RepO.hid (fun a h => era_ne h) hm _ _ q)⟩
  hid := fun a ha => by
    rw [era_ne (fun e => hp (by rw [← e]; exact ha))]
    exact r.hid a (hl a ha)
  hidT := fun a ha vs => by
    rw [era_ne (fun e => hp (by rw [← e]; exact ha))]
    exact r.hidT a (hl a ha) vs
end
theorem ExtW.trans (a : ExtW μ N H μ' N' H') (b : Ext μ' N' H' μ'' N'' H'') : ExtW μ N H μ'' N'' H'' where
  le := Nat.le_trans a.le b.le
  mu := fun i hi => (b.mu i (Nat.lt_of_lt_of_le hi a.le)).trans (a.mu i hi)
  keep := fun x o h n => b.keep x o (a.keep x o h n) (a.notLoc h n)
  new := fun i h1 h2 => by
    by_cases hi : i < N'
    · rw [b.mu i hi]; exact a.new i h1 hi
    · have h' := b.new i (by omega) h2
      cases e : H (μ'' i) with
      | none => rfl
      | some o =>
        exfalso
        by_cases nl : NotLoc μ N (μ'' i)
        · rw [a.keep _ o e nl] at h'; cases h'
        · by_cases hh : μ'' i ∈ μ.hid
          · have := (b.keepH _ (a.hidO _ hh)).1
            rw [h'] at this; cases this
          · have : ∃ j, j < N ∧ μ j = μ'' i := Classical.byContradiction fun z => nl ⟨fun j hj e' => z ⟨j, hj, e'⟩, hh⟩
            obtain ⟨j, hj, ej⟩ := this
            have s' := b.some j (Nat.lt_of_lt_of_le hj a.le)
            rw [a.mu j hj, ej, h'] at s'
            cases s'
  hid := fun x h => a.hid x (by rw [← b.hid]; exact h)
  hidO := fun x h => by rw [b.hid]; exact a.hidO x h
  lock := fun i hi od u h => by
    have h1 := a.lock i hi od u h
    rw [← a.mu i hi] at h1 ⊢
    exact b.lock i (Nat.lt_of_lt_of_le hi a.le) od u h1
theorem ExtW.hidSet {p : Addr} {o : HO} (a : ExtW μ N H μ' N' H') (hp : H p = none) : ExtW μ N H μ' N' (upd H' p o) :=
  ⟨⟨a.le, a.mu, fun x u h n => by rw [upd_ne (ne_of_none h hp)]; exact a.keep x u h n, a.new, a.hid, a.hidO⟩, fun i hi od u h => by rw [upd_ne (ne_of_none h hp)]; exact a.lock i hi od u h⟩
theorem ExtW.hide {S : St'} {p : Addr} {o : HO} (r : Rel K μ S H) (hp : H p = none) : ExtW μ S.length H (muHide μ p) S.length (upd H p o) :=
  ⟨⟨Nat.le_refl _, fun _ _ => rfl, fun x u h n => by rw [upd_ne (ne_of_none h hp)]; exact h, fun i h1 h2 => by omega, fun x h => by
    rcases List.mem_cons.mp h with e | e
    · right; rw [e]; exact hp
    · exact .inl e, fun x h => List.mem_cons_of_mem _ h⟩, fun i hi od u h => by rw [upd_ne (ne_of_none h hp)]; exact h⟩
theorem RepVs.length : ∀ {ds : List D} {vs : List V}, RepVs K μ N H ds vs → ds.length = vs.length
  | [], vs, h => by
    simp only [RepVs] at h
    subst h; rfl
  | d :: ds, vs, h => by
    simp only [RepVs] at h
    obtain ⟨v, vr, rfl, _, h3⟩ := h
    rw [List.length_cons, List.length_cons, RepVs.length h3]
theorem RepVs.get : ∀ {ds : List D} {vs : List V} {i : Nat} {d : D}, RepVs K μ N H ds vs → ds[i]? = some d → ∃ v, vs[i]? = some v ∧ RepV K μ N H d v
  | [], _, _, _, _, h => by simp at h
  | d :: ds, vs, 0, d', h, e => by
    simp only [RepVs] at h
    obtain ⟨v, vr, rfl, h2, _⟩ := h
    simp at e; subst e
    exact ⟨v, rfl, h2⟩
  | d :: ds, vs, i + 1, d', h, e => by
    simp only [RepVs] at h
    obtain ⟨v, vr, rfl, _, h3⟩ := h
    simp only [List.getElem?_cons_succ] at e ⊢
    exact RepVs.get h3 e
theorem RepVs.get' : ∀ {ds : List D} {vs : List V} {i : Nat} {v : V}, RepVs K μ N H ds vs → vs[i]? = some v → ∃ d, ds[i]? = some d ∧ RepV K μ N H d v := fun {ds vs i v} h e => by
  have hl := RepVs.length h
  have hi : i < vs.length := (List.getElem?_eq_some_iff.mp e).1
  obtain ⟨v', e', r⟩ := RepVs.get h (List.getElem?_eq_getElem (l := ds) (i := i) (by omega))
  rw [e] at e'; cases e'
  exact ⟨_, List.getElem?_eq_getElem (by omega), r⟩
theorem RepVs.append : ∀ {ds es : List D} {vs ws : List V}, RepVs K μ N H ds vs → RepVs K μ N H es ws → RepVs K μ N H (ds ++ es) (vs ++ ws)
  | [], es, vs, ws, h, h' => by
    simp only [RepVs] at h
    subst h; exact h'
  | d :: ds, es, vs, ws, h, h' => by
    simp only [RepVs] at h
    obtain ⟨v, vr, rfl, h2, h3⟩ := h
    simp only [List.cons_append, RepVs]
    exact ⟨v, vr ++ ws, rfl, h2, RepVs.append h3 h'⟩
theorem RepVs.take : ∀ (n : Nat) {ds : List D} {vs : List V}, RepVs K μ N H ds vs → RepVs K μ N H (ds.take n) (vs.take n)
  | 0, _, _, _ => by simp only [List.take_zero, RepVs]
  | n + 1, [], vs, h => by
    simp only [RepVs] at h
    subst h; simp only [List.take_nil, RepVs]
  | n + 1, d :: ds, vs, h => by
    simp only [RepVs] at h
    obtain ⟨v, vr, rfl, h2, h3⟩ := h
    simp only [List.take_succ_cons, RepVs]
    exact ⟨v, vr.take n, rfl, h2, RepVs.take n h3⟩
theorem RepVs.drop : ∀ (n : Nat) {ds : List D} {vs : List V}, RepVs K μ N H ds vs → RepVs K μ N H (ds.drop n) (vs.drop n)
  | 0, _, _, h => by simpa using h
  | n + 1, [], vs, h => by
    simp only [RepVs] at h
    subst h; simp only [List.drop_nil, RepVs]
  | n + 1, d :: ds, vs, h => by
    simp only [RepVs] at h
    obtain ⟨v, vr, rfl, h2, h3⟩ := h
    simp only [List.drop_succ_cons]
    exact RepVs.drop n h3
theorem RepVs.set : ∀ {ds : List D} {vs : List V} (i : Nat) {d : D} {v : V}, RepVs K μ N H ds vs → RepV K μ N H d v → RepVs K μ N H (ds.set i d) (vs.set i v)
  | [], vs, _, _, _, h, _ => by
    simp only [RepVs] at h
    subst h; simp only [List.set_nil, RepVs]
  | d :: ds, vs, 0, d', v', h, r => by
    simp only [RepVs] at h
    obtain ⟨v, vr, rfl, h2, h3⟩ := h
    simp only [List.set_cons_zero, RepVs]
    exact ⟨v', vr, rfl, r, h3⟩
  | d :: ds, vs, i + 1, d', v', h, r => by
    simp only [RepVs] at h
    obtain ⟨v, vr, rfl, h2, h3⟩ := h
    simp only [List.set_cons_succ, RepVs]
    exact ⟨v, vr.set i v', rfl, h2, RepVs.set i h3 r⟩
end
end TK

/-! TKb: the small tongue and what it means. -/
namespace TK
open PySem PySem.Spec PyProof.Rows L2

abbrev lim : Nat := 16777216
inductive Ty where | int | bool | str | tuple | list | dict
  deriving DecidableEq
inductive BOp where | add | sub | mul | fdiv | mod | pow
  deriving DecidableEq
inductive COp where | eq | ne | lt | le | gt | ge | is_ | isNot | in_ | notIn
  deriving DecidableEq
inductive Blt where | len | abs | int | bool | all | any | sum | tuple | list | min2 | max2 | str | listD | sorted | dict | minL | maxL | min3 | max3 | rep | rgT | rgL | minD
  deriving DecidableEq
inductive Mth where | append | lower | upper | join | startsAt | starts | ends | sindex | pop0 | popAt | insert | get1 | get2 | dpop2 | lindex | extend
  deriving DecidableEq
inductive ItK where | val | range1 | range2 | range3 | enum | zip | revL | revR1
  deriving DecidableEq
inductive DIt where | keys | items | vals
  deriving DecidableEq
inductive Tg where | one (i : Nat) | many (is : List Nat)
  deriving DecidableEq
inductive IE where
  | var (i : Nat)
  | cst (d : D)
  | glb (g : Nat)
  | bin (op : BOp) (a b : IE)
  | neg (a : IE)
  | not_ (a : IE)
  | tru (a : IE)
  | and_ (es : List IE)
  | or_ (es : List IE)
  | cmp (op : COp) (a b : IE)
  | chain (o1 o2 : COp) (a b c : IE)
  | ife (c a b : IE)
  | tup (es : List IE)
  | lst (es : List IE)
  | own (a : IE)
  | idx (a b : IE)
  | slc (a : IE) (lo hi : List IE)
  | call (f : Nat) (es : List IE)
  | blt (b : Blt) (es : List IE)
  | isi (t : Ty) (a : IE)
  | mth (m : Mth) (a : IE) (es : List IE)
  | comp (own : List Nat) (elt : IE) (tg : Tg) (k : ItK) (es : List IE) (c : List IE)
  | hole
  | slr (a : IE)
  | dct (es : List IE)
  | ownD (a : IE)
  | ownT
  | compD (own : List Nat) (elt : IE) (tg : Tg) (i : Nat) (c : List IE)
inductive IS where
  | expr (e : IE)
  | asg (tg : Tg) (e : IE)
  | setix (o i e : IE)
  | aug (i : Nat) (op : BOp) (e : IE)
  | if_ (c : IE) (a b : List IS)
  | while_ (c : IE) (b : List IS)
  | for_ (tg : Tg) (k : ItK) (es : List IE) (b : List IS)
  | ret (e : IE)
  | retN
  | pass
  | brk
  | cnt
  | hole
  | forD (tg : Tg) (k : DIt) (i : Nat) (b : List IS)
  | setix2 (o i o2 i2 e : IE)
  | augix (o i : IE) (op : BOp) (e : IE)
  | setT (o : IE) (ks : List IE) (e : IE)
  | forT (tg : Tg) (i : Nat) (b : List IS)

structure Ctx where
  fn : Nat → List D → St' → R (D × St')
  gl : Nat → D
  fuel : Nat

abbrev Env' := List (Option D)

/-! ### data -/
mutual
def pyD : D → Option PyData
  | .non => some .none
  | .bl b => some (.bool b)
  | .int i => some (.int i)
  | .str x => some (.str (ss x))
  | .tup ds => (pyDs ds).map .tuple
  | .lst ds => (pyDs ds).map .list
  | .dct _ _ => none
  | .loc _ => none
def pyDs : List D → Option (List PyData)
  | [] => some []
  | d :: ds => (pyD d).bind fun p => (pyDs ds).map fun ps => p :: ps
end
def pyS (S : St') : D → Option PyData
  | .loc n => match S[n]? with
    | some (.lst ds) => (pyDs ds).map .list
    | _ => none
  | d => pyD d
/-- as it is now -/
def frzS (S : St') : D → D
  | .loc n => match S[n]? with
    | some (.lst ds) => .lst ds
    | _ => .loc n
  | d => d
/-! ### dicts -/
def keyEq : D → D → Bool
  | .int i, .int j => decide (i = j)
  | .str x, .str y => decide (x = y)
  | _, _ => false
def isKey : D → Bool
  | .int _ | .str _ => true
  | _ => false
def dget : List (D × D) → D → Option D
  | [], _ => none
  | (k, v) :: r, x => if keyEq k x = true then some v else dget r x
def dput (kvs : List (D × D)) (k v : D) : List (D × D) := if (dget kvs k).isSome = true then kvs.map (fun p => if keyEq p.1 k = true then (p.1, v) else p) else kvs ++ [(k, v)]
/-- keys alike, part by part -/
def keysEq : List D → List D → Bool
  | [], [] => true
  | x :: xs, y :: ys => keyEq x y && keysEq xs ys
  | _, _ => false
def keyEqT : D → D → Bool
  | .tup xs, .tup ys => keysEq xs ys
  | _, _ => false
def dgetT : List (D × D) → D → Option D
  | [], _ => none
  | (k, v) :: r, x => if keyEqT k x = true then some v else dgetT r x
def dputT (kvs : List (D × D)) (k v : D) : List (D × D) := if (dgetT kvs k).isSome = true then kvs.map (fun p => if keyEqT p.1 k = true then (p.1, v) else p) else kvs ++ [(k, v)]
def ddrop (kvs : List (D × D)) (k : D) : List (D × D) := kvs.filter fun p => !keyEq p.1 k
def dmerge (kvs more : List (D × D)) : List (D × D) := more.foldl (fun acc p => dput acc p.1 p.2) kvs
def dctOf (S : St') : D → Option (List (D × D))
  | .dct ks vs => some (ks.zip vs)
  | .loc n => match S[n]? with
    | some (.dct kvs) => some kvs
    | some (.lck kvs) => some kvs
    | _ => none
  | _ => none
/-- pairs that make a dict -/
def pairsD : List D → Option (List (D × D))
  | [] => some []
  | .tup [k, v] :: r => if isKey k = true then (pairsD r).map fun q => (k, v) :: q else none
  | _ => none
/-- a display's parts -/
def alterD : List D → Option (List (D × D))
  | [] => some []
  | k :: v :: r => if isKey k = true then (alterD r).map fun q => (k, v) :: q else none
  | _ => none
def frzD (kvs : List (D × D)) : D := .dct (kvs.map (·.1)) (kvs.map (·.2))
/-! ### order -/
def insS {α : Type} (lt : α → α → Bool) (x : α) : List α → List α
  | [] => [x]
  | y :: r => if lt x y = true then x :: y :: r else y :: insS lt x r
def isort {α : Type} (lt : α → α → Bool) : List α → List α
  | [] => []
  | x :: r => insS lt x (isort lt r)
/-- the items of a list -/
def lstOf (S : St') : D → Option (List D)
  | .lst ds => some ds
  | .loc n => match S[n]? with
    | some (.lst ds) => some ds
    | _ => none
  | _ => none
/-- the items of a list or a tuple -/
def seqOf (S : St') : D → Option (List D)
  | .tup ds => some ds
  | d => lstOf S d
def signs (x : List Nat) : List D := x.map fun c => .str [c]
/-! ### data compared -/
mutual
/-- data, n deep at most -/
def datT : Nat → D → Bool
  | _, .non => true
  | _, .bl _ => true
  | _, .int _ => true
  | _, .str _ => true
  | n + 1, .tup ds => datTs n ds
  | n + 1, .lst ds => datTs n ds
  | _, _ => false
def datTs : Nat → List D → Bool
  | _, [] => true
  | n, d :: ds => datT n d && datTs n ds
end
mutual
def eqT : D → D → Bool
  | .non, .non => true
  | .bl a, .bl b => a == b
  | .bl a, .int j => (if a then 1 else 0) == j
  | .int i, .bl b => i == (if b then 1 else 0)
  | .int i, .int j => decide (i = j)
  | .str x, .str y => decide (x = y)
  | .tup xs, .tup ys => eqTs xs ys
  | .lst xs, .lst ys => eqTs xs ys
  | _, _ => false
def eqTs : List D → List D → Bool
  | [], [] => true
  | x :: xs, y :: ys => eqT x y && eqTs xs ys
  | _, _ => false
end
mutual
/-- they can be compared, place by place -/
def alikeT : D → D → Bool
  | .non, .non => true
  | .bl _, .bl _ => true
  | .int _, .int _ => true
  | .str _, .str _ => true
  | .tup xs, .tup ys => alikeTs xs ys
  | .lst xs, .lst ys => alikeTs xs ys
  | _, _ => false
def alikeTs : List D → List D → Bool
  | x :: xs, y :: ys => alikeT x y && alikeTs xs ys
  | [], _ => true
  | _ :: _, [] => true
end
mutual
def ltT : D → D → Bool
  | .bl a, .bl b => !a && b
  | .int i, .int j => decide (i < j)
  | .str x, .str y => decide (x < y)
  | .tup xs, .tup ys => ltTs xs ys
  | .lst xs, .lst ys => ltTs xs ys
  | _, _ => false
def ltTs : List D → List D → Bool
  | x :: xs, y :: ys => if eqT x y = true then ltTs xs ys else ltT x y
  | [], _ :: _ => true
  | _, [] => false
end
def nonT : D → Bool
  | .non => true
  | _ => false
def tupT : D → Bool
  | .tup (_ :: _) => true
  | _ => false
def otherT : D → Bool
  | .non => false
  | .tup _ => false
  | _ => true
/-- some data that can all be compared -/
def allT (xs : List D) : Bool := xs.all fun a => datT 50 a && !nonT a && xs.all fun b => alikeT a b
/-- .. and sorted -/
def sortT (xs : List D) : Bool := allT xs && (xs.all tupT || xs.all otherT)

/-! ### operators -/
def wideI (i : Int) : Prop := i.natAbs < 2 ^ 4000
noncomputable def mulOk (i j : Int) : Bool := @decide (((-(2 ^ 64) < i ∧ i < 2 ^ 64) ∨ (-(2 ^ 64) < j ∧ j < 2 ^ 64)) ∨ (wideI i ∧ wideI j)) (Classical.propDecidable _)
noncomputable def divOk (j : Int) : Bool := @decide (0 < j ∧ j < 2 ^ 200) (Classical.propDecidable _)
def addF (S : St') (a b : D) : R D := match a, b with
  | .int i, .int j => .ok (.int (i + j))
  | .str x, .str y => if x.length + y.length ≤ lim then .ok (.str (x ++ y)) else .bad
  | .tup x, .tup y => if x.length + y.length ≤ lim then .ok (.tup (x ++ y)) else .bad
  | a, b => match lstOf S a, lstOf S b with
    | some x, some y => if x.length + y.length ≤ lim then .ok (.lst (x ++ y)) else .bad
    | _, _ => .bad
noncomputable def binF (op : BOp) (S : St') (a b : D) : R D := match op with
  | .add => addF S a b
  | .sub => match a, b with
    | .int i, .int j => .ok (.int (i - j))
    | _, _ => .bad
  | .mul => match a, b with
    | .int i, .int j => if mulOk i j then .ok (.int (i * j)) else .bad
    | .str x, .int k => if (-1000000 ≤ k ∧ k ≤ 1000000) ∧ x.length ≤ 16 then .ok (.str (List.replicate k.toNat x).flatten) else .bad
    | .tup x, .int k => if (-1000000 ≤ k ∧ k ≤ 1000) ∧ x.length ≤ 1000 then .ok (.tup (List.replicate k.toNat x).flatten) else .bad
    | _, _ => .bad
  | .fdiv => match a, b with
    | .int i, .int j => if divOk j then .ok (.int (i / j)) else .bad
    | _, _ => .bad
  | .mod => match a, b with
    | .int i, .int j => if 0 < j then .ok (.int (i % j)) else .bad
    | _, _ => .bad
  | .pow => match a, b with
    | .int i, .int j => if 0 ≤ j ∧ j ≤ 1000000 ∧ i.natAbs < 2 ^ 64 then .ok (.int (i ^ j.toNat)) else .bad
    | _, _ => .bad
def augF (op : BOp) (a b : D) : R D := match op, a, b with
  | .add, .int i, .int j => .ok (.int (i + j))
  | .add, .str x, .str y => if x.length + y.length ≤ lim then .ok (.str (x ++ y)) else .bad
  | .sub, .int i, .int j => .ok (.int (i - j))
  | _, _, _ => .bad
def eqF (S : St') (a b : D) : R Bool := match a, b with
  | .int i, .int j => .ok (decide (i = j))
  | .str x, .str y => .ok (decide (x = y))
  | .bl x, .bl y => .ok (decide (x = y))
  | .non, .non => .ok true
  | .non, .int _ => .ok false
  | .int _, .non => .ok false
  | .non, .str _ => .ok false
  | .str _, .non => .ok false
  | a, b => if datT 60 (frzS S a) && datT 60 (frzS S b) then .ok (eqT (frzS S a) (frzS S b)) else .bad
def ltF (a b : D) : R Bool := match a, b with
  | .int i, .int j => .ok (decide (i < j))
  | .str x, .str y => .ok (decide (x < y))
  | a, b => if alikeT a b && (!nonT a && datT 60 a && datT 60 b) then .ok (ltT a b) else .bad
def leF (a b : D) : R Bool := match a, b with
  | .int i, .int j => .ok (decide (i ≤ j))
  | .str x, .str y => .ok (!decide (y < x))
  | a, b => if alikeT b a && (!nonT b && datT 60 a && datT 60 b) then .ok (!ltT b a) else .bad
def flatD : D → Bool
  | .non | .bl _ | .int _ | .str _ => true
  | _ => false
def vD : D → V
  | .non => .non
  | .bl b => .bl b
  | .int i => .int i
  | .str x => .str (ss x)
  | _ => .non
def inF (S : St') (a b : D) : R Bool := match a, b with
  | .str [c], .str y => .ok (decide (c ∈ y))
  | .str _, .str _ => .bad
  | a, b => match seqOf S b with
    | some ds => if flatD a && ds.all flatD then .ok (inV (vD a) (ds.map vD)) else (if datT 60 a && datTs 60 ds then .ok (ds.any fun z => eqT z a) else .bad)
    | none => .bad
def isN : D → Bool
  | .non => true
  | _ => false
def cmpF0 (op : COp) (S : St') (a b : D) : R Bool := match op with
  | .eq => eqF S a b
  | .ne => (eqF S a b).bind fun r => .ok (!r)
  | .lt => ltF a b
  | .gt => ltF b a
  | .le => leF a b
  | .ge => leF b a
  | .is_ => match b with
    | .non => .ok (isN a)
    | .bl d => (match a with
      | .bl c => .ok (c == d)
      | _ => .bad)
    | _ => .bad
  | .isNot => match b with
    | .non => .ok (!isN a)
    | .bl d => (match a with
      | .bl c => .ok (c != d)
      | _ => .bad)
    | _ => .bad
  | .in_ => inF S a b
  | .notIn => (inF S a b).bind fun r => .ok (!r)
def inD (S : St') (kvs : List (D × D)) (a : D) : R Bool := if isKey a = true then .ok (dget kvs a).isSome else .bad
def cmpF (op : COp) (S : St') (a b : D) : R Bool := match op with
  | .in_ => match dctOf S b with
    | some kvs => inD S kvs a
    | none => cmpF0 .in_ S a b
  | .notIn => match dctOf S b with
    | some kvs => (inD S kvs a).bind fun r => .ok (!r)
    | none => cmpF0 .notIn S a b
  | op => cmpF0 op S a b
def truF (S : St') : D → R Bool
  | .non => .ok false
  | .bl b => .ok b
  | .int i => .ok (i != 0)
  | .str x => if x.length ≤ lim then .ok (!x.isEmpty) else .bad
  | d => match seqOf S d with
    | some ds => .ok (!ds.isEmpty)
    | none => .bad
def idxF0 (S : St') (a b : D) : R D := match b with
  | .int i => match a with
    | .str x => if x.length ≤ lim then (match atI x i with
      | some c => .ok (.str [c])
      | none => .bad) else .bad
    | a => match seqOf S a with
      | some ds => (match atI ds i with
        | some d => .ok d
        | none => .bad)
      | none => .bad
  | _ => .bad
def idxD (kvs : List (D × D)) (b : D) : R D := if isKey b = true then (match dget kvs b with
    | some d => .ok d
    | none => .bad) else .bad
def idxF (S : St') (a b : D) : R D := match dctOf S a with
  | some kvs => idxD kvs b
  | none => idxF0 S a b
def cutD {α : Type} (xs : List α) (lo hi : Option Int) : List α := (xs.drop (HT.sIx xs.length 0 lo)).take (HT.sIx xs.length xs.length hi - HT.sIx xs.length 0 lo)
def slcF (S : St') (a : D) (lo hi : Option Int) : R D := match a with
  | .str x => if x.length ≤ lim then .ok (.str (cutD x lo hi)) else .bad
  | .tup ds => .ok (.tup (cutD ds lo hi))
  | a => match lstOf S a with
    | some ds => .ok (.lst (cutD ds lo hi))
    | none => .bad
def boolsD : List D → Option (List Bool)
  | [] => some []
  | .bl b :: r => (boolsD r).map fun bs => b :: bs
  | _ => none
def intsD : List D → Option (List Int)
  | [] => some []
  | .int i :: r => (intsD r).map fun bs => i :: bs
  | _ => none
def strsD : List D → Option (List (List Nat))
  | [] => some []
  | .str x :: r => (strsD r).map fun bs => x :: bs
  | _ => none
def lenF0 (S : St') (d : D) : R D := match d with
  | .str x => if x.length ≤ lim then .ok (.int x.length) else .bad
  | d => match seqOf S d with
    | some ds => .ok (.int ds.length)
    | none => .bad
def ownDct (S : St') : D → Option (List (D × D))
  | .loc n => match S[n]? with
    | some (.dct kvs) => some kvs
    | _ => none
  | _ => none
def ownDctT (S : St') : D → Option (List (D × D))
  | .loc n => match S[n]? with
    | some (.dctT kvs) => some kvs
    | _ => none
  | _ => none
def lenF (S : St') (d : D) : R D := match ownDct S d with
  | some kvs => .ok (.int kvs.length)
  | none => lenF0 S d
/-- [..] * n -/
def repF (ds : List D) : R D := match ds.getLast? with
  | some (.int k) => if (-1000000 ≤ k ∧ k ≤ 1000000) ∧ ds.length ≤ 17 then .ok (.lst (List.replicate k.toNat ds.dropLast).flatten) else .bad
  | _ => .bad
/-- a range's numbers -/
def rgD (i j : Int) : List D := (List.range (j - i).toNat).map fun (k : Nat) => .int (i + (k : Int))
def rgF (ds : List D) : R (List D) := match ds with
  | [.int j] => if -1000000 ≤ j ∧ j ≤ 1000000 then .ok (rgD 0 j) else .bad
  | [.int i, .int j] => if (-1000000 ≤ i ∧ i ≤ 1000000) ∧ (-1000000 ≤ j ∧ j ≤ 1000000) then .ok (rgD i j) else .bad
  | _ => .bad
/-- a number written -/
def itoa (i : Int) : List Nat := (Str.ofString (toString i)).cps.toList
def bltF (b : Blt) (S : St') (ds : List D) : R D := match b with
  | .len => match ds with
    | [d] => lenF S d
    | _ => .bad
  | .abs => match ds with
    | [.int i] => .ok (.int (if i < 0 then -i else i))
    | _ => .bad
  | .int => match ds with
    | [.int i] => .ok (.int i)
    | [.bl k] => .ok (.int (if k then 1 else 0))
    | _ => .bad
  | .bool => match ds with
    | [.int i] => .ok (.bl (i != 0))
    | [.bl k] => .ok (.bl k)
    | _ => .bad
  | .all => match ds with
    | [d] => match (lstOf S d).bind boolsD with
      | some bs => .ok (.bl (bs.all id))
      | none => .bad
    | _ => .bad
  | .any => match ds with
    | [d] => match (lstOf S d).bind boolsD with
      | some bs => .ok (.bl (bs.any id))
      | none => .bad
    | _ => .bad
  | .sum => match ds with
    | [d] => match (lstOf S d).bind intsD with
      | some bs => .ok (.int bs.sum)
      | none => .bad
    | _ => .bad
  | .tuple => match ds with
    | [.tup ds] => .ok (.tup ds)
    | [d] => match lstOf S d with
      | some ds => .ok (.tup ds)
      | none => .bad
    | _ => .bad
  | .list => match ds with
    | [.str x] => if x.length ≤ lim then .ok (.lst (signs x)) else .bad
    | [d] => match seqOf S d with
      | some ds => .ok (.lst ds)
      | none => .bad
    | _ => .bad
  | .listD => match ds with
    | [d] => match dctOf S d with
      | some kvs => .ok (.lst (kvs.map (·.1)))
      | none => match ownDctT S d with
        | some kvs => .ok (.lst (kvs.map (·.1)))
        | none => .bad
    | _ => .bad
  | .sorted => match ds with
    | [.tup xs] => if sortT xs then .ok (.lst (isort ltT xs)) else .bad
    | [d] => match lstOf S d with
      | some xs => match intsD xs with
        | some is => .ok (.lst ((isort (fun i j => decide (i < j)) is).map .int))
        | none => match strsD xs with
          | some zs => if zs.length < 64 then .ok (.lst ((isort (fun x y => decide (x < y)) zs).map .str)) else (if sortT xs then .ok (.lst (isort ltT xs)) else .bad)
          | none => if sortT xs then .ok (.lst (isort ltT xs)) else .bad
      | none => .bad
    | _ => .bad
  | .dict => match ds with
    | [d] => match (lstOf S d).bind pairsD with
      | some kvs => .ok (frzD (dmerge [] kvs))
      | none => .bad
    | _ => .bad
  | .minL => match ds with
    | [d] => match (lstOf S d).bind intsD with
      | some (i :: is) => .ok (.int (is.foldl (fun m j => if j < m then j else m) i))
      | _ => match lstOf S d with
        | some (x :: xs) => if allT (x :: xs) then .ok (xs.foldl (fun m y => if ltT y m = true then y else m) x) else .bad
        | _ => .bad
    | _ => .bad
  | .maxL => match ds with
    | [d] => match (lstOf S d).bind intsD with
      | some (i :: is) => .ok (.int (is.foldl (fun m j => if m < j then j else m) i))
      | _ => match lstOf S d with
        | some (x :: xs) => if allT (x :: xs) then .ok (xs.foldl (fun m y => if ltT m y = true then y else m) x) else .bad
        | _ => .bad
    | _ => .bad
  | .min2 => match ds with
    | [.int i, .int j] => .ok (.int (if j < i then j else i))
    | _ => .bad
  | .max2 => match ds with
    | [.int i, .int j] => .ok (.int (if j > i then j else i))
    | _ => .bad
  | .min3 => match ds with
    | [.int i, .int j, .int k] => .ok (.int (if k < (if j < i then j else i) then k else if j < i then j else i))
    | _ => .bad
  | .max3 => match ds with
    | [.int i, .int j, .int k] => .ok (.int (if k > (if j > i then j else i) then k else if j > i then j else i))
    | _ => .bad
  | .str => match ds with
    | [.int i] => if i.natAbs < 2 ^ 1000 then .ok (.str (itoa i)) else .bad
    | _ => .bad
  | .minD => match ds with
    | [d] => match (lstOf S d).bind intsD with
      | some [] => .ok .non
      | some (i :: is) => .ok (.int (is.foldl (fun m j => if j < m then j else m) i))
      | none => .bad
    | _ => .bad
  | .rep => repF ds
  | .rgT => (rgF ds).bind fun xs => .ok (.tup xs)
  | .rgL => (rgF ds).bind fun xs => .ok (.lst xs)
def tyF (t : Ty) (S : St') (d : D) : R Bool := match d with
  | .non => .ok false
  | .bl _ => .ok (t == .bool || t == .int)
  | .int _ => .ok (t == .int)
  | .str _ => .ok (t == .str)
  | .tup _ => .ok (t == .tuple)
  | .lst _ => .ok (t == .list)
  | .dct _ _ => .ok (t == .dict)
  | .loc n => match S[n]? with
    | some (.lst _) => .ok (t == .list)
    | some (.dct _) => .ok (t == .dict)
    | some (.dctT _) => .ok (t == .dict)
    | some (.lck _) => .bad
    | some (.lckT _) => .bad
    | none => .bad
def joinN (y : List Nat) : List (List Nat) → List Nat
  | [] => []
  | [p] => p
  | p :: q :: r => p ++ (y ++ joinN y (q :: r))
def mthF (m : Mth) (S : St') (o : D) (ds : List D) : R (D × St') := match m with
  | .extend => match o, ds with
    | .loc n, [d] => match S[n]?, seqOf S d with
      | some (.lst xs), some zs => if xs.length + zs.length ≤ lim then .ok (.non, S.set n (.lst (xs ++ zs))) else .bad
      | _, _ => .bad
    | _, _ => .bad
  | .append => match o, ds with
    | .loc n, [d] => match S[n]? with
      | some (.lst xs) => if xs.length < lim then .ok (.non, S.set n (.lst (xs ++ [d]))) else .bad
      | _ => .bad
    | _, _ => .bad
  | .join => match o, ds with
    | .str y, [d] => match (seqOf S d).bind strsD with
      | some xs => if (xs.map List.length).sum + xs.length * y.length ≤ lim then .ok (.str (joinN y xs), S) else .bad
      | none => .bad
    | _, _ => .bad
  | .lower => match o, ds with
    | .str x, [] => if x.length ≤ 5592405 ∧ x.all (fun c => decide (c < 128)) = true then .ok (.str (x.map lo1), S) else .bad
    | _, _ => .bad
  | .upper => match o, ds with
    | .str x, [] => if x.length ≤ 5592405 ∧ x.all (fun c => decide (c < 128)) = true then .ok (.str (x.map up1), S) else .bad
    | _, _ => .bad
  | .startsAt => match o, ds with
    | .str x, [.str y, .int i] => if 0 ≤ i ∧ i.toNat ≤ x.length then .ok (.bl (decide ((x.drop i.toNat).take y.length = y)), S) else .bad
    | _, _ => .bad
  | .starts => match o, ds with
    | .str x, [.str y] => .ok (.bl (decide (x.take y.length = y)), S)
    | _, _ => .bad
  | .ends => match o, ds with
    | .str x, [.str y] => .ok (.bl (decide (y.length ≤ x.length ∧ x.drop (x.length - y.length) = y)), S)
    | _, _ => .bad
  | .sindex => match o, ds with
    | .str x, [.str [c]] => if c ∈ x then .ok (.int (x.idxOf c : Nat), S) else .bad
    | _, _ => .bad
  | .pop0 => match o, ds with
    | .loc n, [] => match S[n]? with
      | some (.lst xs) => match xs.getLast? with
        | some d => .ok (d, S.set n (.lst xs.dropLast))
        | none => .bad
      | _ => .bad
    | _, _ => .bad
  | .popAt => match o, ds with
    | .loc n, [.int i] => match S[n]? with
      | some (.lst xs) => if 0 ≤ i ∧ i < 2 ^ 62 then (match xs[i.toNat]? with
        | some d => .ok (d, S.set n (.lst (xs.eraseIdx i.toNat)))
        | none => .bad) else .bad
      | _ => .bad
    | _, _ => .bad
  | .insert => match o, ds with
    | .loc n, [.int i, d] => match S[n]? with
      | some (.lst xs) => if xs.length < lim ∧ 0 ≤ i ∧ i < 2 ^ 62 then .ok (.non, S.set n (.lst (xs.take i.toNat ++ [d] ++ xs.drop i.toNat))) else .bad
      | _ => .bad
    | _, _ => .bad
  | .get1 => match dctOf S o, ds with
    | some kvs, [k] => if isKey k then .ok ((dget kvs k).getD .non, S) else .bad
    | _, _ => .bad
  | .get2 => match dctOf S o, ds with
    | some kvs, [k, d] => if isKey k then .ok ((dget kvs k).getD d, S) else .bad
    | _, _ => .bad
  | .dpop2 => match o, ds with
    | .loc n, [k, d] => match S[n]? with
      | some (.dct kvs) => if isKey k then (match dget kvs k with
        | some v => .ok (v, S.set n (.dct (ddrop kvs k)))
        | none => .ok (d, S)) else .bad
      | _ => .bad
    | _, _ => .bad
  | .lindex => match lstOf S o, ds with
    | some xs, [d] => if flatD d && xs.all flatD then (match (xs.map vD).findIdx? (fun z => eqV z (vD d)) with
      | some j => .ok (.int j, S)
      | none => .bad) else .bad
    | _, _ => .bad
def isStr : D → Bool
  | .str _ => true
  | _ => false
/-- the receiver's kind -/
def isTup : D → Bool
  | .tup _ => true
  | _ => false
def mOk (m : Mth) (S : St') (o : D) : Bool := match m with
  | .append | .extend | .pop0 | .popAt | .insert => (lstOf S o).isSome
  | .lindex => (lstOf S o).isSome
  | .get1 | .get2 | .dpop2 => (dctOf S o).isSome
  | _ => isStr o
/-- a list of the store that is walked stands as it stood -/
def srcOk : D → List D → St' → Prop
  | .loc n, xs, S => S[n]? = some (.lst xs)
  | _, _, _ => True
/-- what a walk over it gives -/
def itemsOf (S : St') : D → Option (List D)
  | .str x => some (signs x)
  | .tup xs => some xs
  | d => lstOf S d
noncomputable def itF (k : ItK) (S : St') (ds : List D) : R (List D × (St' → Prop)) := match k with
  | .val => match ds with
    | [d] => match d with
      | .str x => .ok (signs x, fun _ => True)
      | .tup xs => .ok (xs, fun _ => True)
      | d => match lstOf S d with
        | some xs => .ok (xs, srcOk d xs)
        | none => .bad
    | _ => .bad
  | .range1 => match ds with
    | [.int n] => @ite _ (n < 2 ^ 62 ∧ -(2 ^ 62) ≤ n) (Classical.propDecidable _) (.ok ((List.range n.toNat).map fun (i : Nat) => .int (0 + (i : Int)), fun _ => True)) .bad
    | _ => .bad
  | .range2 => match ds with
    | [.int m, .int n] => @ite _ ((-(2 ^ 62) ≤ m ∧ m < 2 ^ 62) ∧ -(2 ^ 62) ≤ n ∧ n < 2 ^ 62) (Classical.propDecidable _) (.ok ((List.range (n - m).toNat).map fun (i : Nat) => .int (m + (i : Int)), fun _ => True)) .bad
    | _ => .bad
  | .range3 => match ds with
    | [.int m, .int n, .int s] => @ite _ (((-(2 ^ 62) ≤ m ∧ m < 2 ^ 62) ∧ -(2 ^ 62) ≤ n ∧ n < 2 ^ 62) ∧ s = -1) (Classical.propDecidable _) (.ok ((List.range (m - n).toNat).map fun (i : Nat) => .int (m - (i : Int)), fun _ => True)) .bad
    | _ => .bad
  | .revL => match ds with
    | [d] => match lstOf S d with
      | some xs => .ok (xs.reverse, srcOk d xs)
      | none => .bad
    | _ => .bad
  | .revR1 => match ds with
    | [.int n] => @ite _ (n < 2 ^ 62 ∧ 0 ≤ n) (Classical.propDecidable _) (.ok ((List.range n.toNat).map fun (i : Nat) => .int (n - 1 - (i : Int)), fun _ => True)) .bad
    | _ => .bad
  | .enum => match ds with
    | [d] => match d with
      | .tup xs => .ok (xs.zipIdx.map fun p => .tup [.int p.2, p.1], fun _ => True)
      | d => match lstOf S d with
        | some xs => .ok (xs.zipIdx.map fun p => .tup [.int p.2, p.1], srcOk d xs)
        | none => .bad
    | _ => .bad
  | .zip => match ds with
    | [.tup xs, .tup ys] => .ok ((xs.zip ys).map fun p => .tup [p.1, p.2], fun _ => True)
    | [d, e] => match itemsOf S d, itemsOf S e with
      | some xs, some ys => .ok ((xs.zip ys).map fun p => .tup [p.1, p.2], fun S => srcOk d xs S ∧ srcOk e ys S)
      | _, _ => .bad
    | _ => .bad
def setMany : List Nat → List D → Env' → Option Env'
  | [], [], env => some env
  | i :: is, d :: ds, env => setMany is ds (env.set i (some d))
  | _, _, _ => none
def setT (tg : Tg) (S : St') (d : D) (env : Env') : R Env' := match tg with
  | .one i => .ok (env.set i (some d))
  | .many is => match d with
    | .tup ds => match setMany is ds env with
      | some e => .ok e
      | none => .bad
    | d => match lstOf S d with
      | some ds => match setMany is ds env with
        | some e => .ok e
        | none => .bad
      | none => .bad
def wipe' (env : Env') : List Nat → Env'
  | [] => env
  | v :: vs => (wipe' env vs).set v none
def allocL (S : St') : D → R (D × St')
  | .lst xs => .ok (.loc S.length, S ++ [.lst xs])
  | _ => .bad
def allocD (S : St') : D → R (D × St')
  | .dct ks vs => .ok (.loc S.length, S ++ [.dct (ks.zip vs)])
  | _ => .bad
def optI : List D → R (Option Int)
  | [] => .ok none
  | [.int i] => .ok (some i)
  | _ => .bad
open Classical in
/-- the items of a comprehension -/
noncomputable def compL (g : St' → Prop) (f : D → St' → R (Option D × St')) : List D → St' → R (List D × St')
  | [], S => if g S then .ok ([], S) else .bad
  | x :: xs, S => if g S then (f x S).bind fun r => (compL g f xs r.2).bind fun q => .ok ((match r.1 with
    | some d => d :: q.1
    | none => q.1), q.2) else .bad

/-- a[::-1] -/
def revF (S : St') (a : D) : R D := match lstOf S a with
  | some ds => .ok (.lst ds.reverse)
  | none => match a with
    | .tup ds => .ok (.tup ds.reverse)
    | _ => .bad
/-- one turn of a comprehension -/
def compF (tg : Tg) (own : List Nat) (ft : Env' → St' → R (Bool × St')) (fe : Env' → St' → R (D × St')) (env : Env') (d : D) (S1 : St') : R (Option D × St') :=
  (setT tg S1 d (wipe' env own)).bind fun env2 => (ft env2 S1).bind fun t => if t.1 then (fe env2 t.2).bind fun y => .ok (some y.1, y.2) else .ok (none, t.2)
/-! ### expressions -/
/-- a dict with tuple keys is locked while it is walked -/
def lckTF (S : St') (d : Option (Option D)) : R (Nat × List (D × D)) := match d with
  | some (some (.loc n)) => match S[n]? with
    | some (.dctT kvs) => .ok (n, kvs)
    | _ => .bad
  | _ => .bad
def isLckT (n : Nat) (kvs : List (D × D)) (S : St') : Prop := S[n]? = some (.lckT kvs)
open Classical in
noncomputable def lckTE (n : Nat) (kvs : List (D × D)) (r : List D × St') : R (D × St') := if isLckT n kvs r.2 then .ok (.lst r.1, r.2.set n (.dctT kvs)) else .bad
mutual
noncomputable def ev (Γ : Ctx) : IE → Env' → St' → R (D × St')
  | .var i, env, S => match env[i]? with
    | some (some d) => .ok (d, S)
    | _ => .bad
  | .cst d, _, S => .ok (d, S)
  | .glb g, _, S => .ok (Γ.gl g, S)
  | .bin op a b, env, S => (ev Γ a env S).bind fun x => (ev Γ b env x.2).bind fun y => (binF op y.2 x.1 y.1).bind fun d => .ok (d, y.2)
  | .neg a, env, S => (ev Γ a env S).bind fun x => match x.1 with
    | .int i => .ok (.int (-i), x.2)
    | _ => .bad
  | .not_ a, env, S => (ev Γ a env S).bind fun x => match x.1 with
    | .bl k => .ok (.bl (!k), x.2)
    | _ => .bad
  | .tru _, _, _ => .bad
  | .and_ es, env, S => evAnd Γ es env S
  | .or_ es, env, S => evOr Γ es env S
  | .cmp op a b, env, S => (ev Γ a env S).bind fun x => (ev Γ b env x.2).bind fun y => (cmpF op y.2 x.1 y.1).bind fun k => .ok (.bl k, y.2)
  | .chain o1 o2 a b c, env, S => (ev Γ a env S).bind fun x => (ev Γ b env x.2).bind fun y => (cmpF0 o1 y.2 x.1 y.1).bind fun k =>
      if k then (ev Γ c env y.2).bind fun z => (cmpF0 o2 z.2 y.1 z.1).bind fun k2 => .ok (.bl k2, z.2) else .ok (.bl false, y.2)
  | .ife c a b, env, S => (evT Γ c env S).bind fun k => if k.1 then ev Γ a env k.2 else ev Γ b env k.2
  | .tup es, env, S => (evs Γ es env S).bind fun x => if x.1.length ≤ lim then .ok (.tup x.1, x.2) else .bad
  | .lst es, env, S => (evs Γ es env S).bind fun x => if x.1.length ≤ lim then .ok (.lst x.1, x.2) else .bad
  | .own a, env, S => (ev Γ a env S).bind fun x => allocL x.2 x.1
  | .idx a b, env, S => (ev Γ a env S).bind fun x => (ev Γ b env x.2).bind fun y => (idxF y.2 x.1 y.1).bind fun d => .ok (d, y.2)
  | .slc a lo hi, env, S => (ev Γ a env S).bind fun x => (evs Γ lo env x.2).bind fun y => (optI y.1).bind fun l => (evs Γ hi env y.2).bind fun z => (optI z.1).bind fun h => (slcF z.2 x.1 l h).bind fun d => .ok (d, z.2)
  | .call f es, env, S => (evs Γ es env S).bind fun x => Γ.fn f x.1 x.2
  | .blt b es, env, S => (evs Γ es env S).bind fun x => (bltF b x.2 x.1).bind fun d => .ok (d, x.2)
  | .isi t a, env, S => (ev Γ a env S).bind fun x => (tyF t x.2 x.1).bind fun k => .ok (.bl k, x.2)
  | .mth m a es, env, S => (ev Γ a env S).bind fun x => if mOk m x.2 x.1 then (evs Γ es env x.2).bind fun y => mthF m y.2 x.1 y.1 else .bad
  | .comp own elt tg k es c, env, S => (evs Γ es env S).bind fun x => (itF k x.2 x.1).bind fun items => if items.1.length ≤ lim then
      (compL items.2 (compF tg own (evTs Γ c) (ev Γ elt) env) items.1 x.2).bind fun r => .ok (.lst r.1, r.2) else .bad
  | .ownD a, env, S => (ev Γ a env S).bind fun x => allocD x.2 x.1
  | .ownT, _, S => .ok (.loc S.length, S ++ [.dctT []])
  | .compD own elt tg i c, env, S => (lckTF S env[i]?).bind fun p => if p.2.length ≤ lim then
      (compL (isLckT p.1 p.2) (compF tg own (evTs Γ c) (ev Γ elt) env) (p.2.map (·.1)) (S.set p.1 (.lckT p.2))).bind fun r => lckTE p.1 p.2 r else .bad
  | .hole, _, _ => .bad
  | .slr a, env, S => (ev Γ a env S).bind fun x => (revF x.2 x.1).bind fun d => .ok (d, x.2)
  | .dct es, env, S => (evs Γ es env S).bind fun x => match alterD x.1 with
    | some kvs => if kvs.length ≤ 15 then .ok (frzD (dmerge [] kvs), x.2) else .bad
    | none => .bad
noncomputable def evs (Γ : Ctx) : List IE → Env' → St' → R (List D × St')
  | [], _, S => .ok ([], S)
  | e :: es, env, S => (ev Γ e env S).bind fun x => (evs Γ es env x.2).bind fun y => .ok (x.1 :: y.1, y.2)
noncomputable def evAnd (Γ : Ctx) : List IE → Env' → St' → R (D × St')
  | [], _, _ => .bad
  | [e], env, S => ev Γ e env S
  | e :: e2 :: es, env, S => (ev Γ e env S).bind fun x => match x.1 with
    | .bl true => evAnd Γ (e2 :: es) env x.2
    | .bl false => .ok (.bl false, x.2)
    | _ => .bad
noncomputable def evOr (Γ : Ctx) : List IE → Env' → St' → R (D × St')
  | [], _, _ => .bad
  | [e], env, S => ev Γ e env S
  | e :: e2 :: es, env, S => (ev Γ e env S).bind fun x => match x.1 with
    | .bl false => evOr Γ (e2 :: es) env x.2
    | .bl true => .ok (.bl true, x.2)
    | _ => .bad
/-- as a test -/
noncomputable def evT (Γ : Ctx) : IE → Env' → St' → R (Bool × St')
  | .cmp op a b, env, S => (ev Γ a env S).bind fun x => (ev Γ b env x.2).bind fun y => (cmpF op y.2 x.1 y.1).bind fun k => .ok (k, y.2)
  | .chain o1 o2 a b c, env, S => (ev Γ a env S).bind fun x => (ev Γ b env x.2).bind fun y => (cmpF0 o1 y.2 x.1 y.1).bind fun k =>
      if k then (ev Γ c env y.2).bind fun z => (cmpF0 o2 z.2 y.1 z.1).bind fun k2 => .ok (k2, z.2) else .ok (false, y.2)
  | .not_ a, env, S => (evT Γ a env S).bind fun k => .ok (!k.1, k.2)
  | .and_ es, env, S => evTAnd Γ es env S
  | .or_ es, env, S => evTOr Γ es env S
  | .tru a, env, S => (ev Γ a env S).bind fun x => (truF x.2 x.1).bind fun k => .ok (k, x.2)
  | _, _, _ => .bad
noncomputable def evTAnd (Γ : Ctx) : List IE → Env' → St' → R (Bool × St')
  | [], _, S => .ok (true, S)
  | e :: es, env, S => (evT Γ e env S).bind fun k => if k.1 then evTAnd Γ es env k.2 else .ok (false, k.2)
noncomputable def evTOr (Γ : Ctx) : List IE → Env' → St' → R (Bool × St')
  | [], _, S => .ok (false, S)
  | e :: es, env, S => (evT Γ e env S).bind fun k => if k.1 then .ok (true, k.2) else evTOr Γ es env k.2
/-- the tests of a comprehension: none, or one -/
noncomputable def evTs (Γ : Ctx) : List IE → Env' → St' → R (Bool × St')
  | [], _, S => .ok (true, S)
  | e :: _, env, S => evT Γ e env S
end

/-! ### statements -/
inductive Fl where | nx | ret (d : D) | brk | cnt
open Classical in
noncomputable def forL (g : St' → Prop) (f : D → Env' → St' → R (Fl × Env' × St')) : List D → Env' → St' → R (Fl × Env' × St')
  | [], env, S => if g S then .ok (.nx, env, S) else .bad
  | x :: xs, env, S => if g S then (f x env S).bind fun r => (match r.1 with
    | .nx => forL g f xs r.2.1 r.2.2
    | .cnt => forL g f xs r.2.1 r.2.2
    | .brk => .ok (.nx, r.2.1, r.2.2)
    | .ret d => .ok (.ret d, r.2.1, r.2.2)) else .bad
def whileL (c : Env' → St' → R (Bool × St')) (f : Env' → St' → R (Fl × Env' × St')) : Nat → Env' → St' → R (Fl × Env' × St')
  | 0, _, _ => .bad
  | n + 1, env, S => (c env S).bind fun k => if k.1 then (f env k.2).bind fun r => (match r.1 with
    | .nx => whileL c f n r.2.1 r.2.2
    | .cnt => whileL c f n r.2.1 r.2.2
    | .brk => .ok (.nx, r.2.1, r.2.2)
    | .ret d => .ok (.ret d, r.2.1, r.2.2)) else .ok (.nx, env, k.2)
/-- one turn of a loop -/
def turnF {α : Type} (tg : Tg) (f : Env' → St' → R α) (d : D) (env1 : Env') (S1 : St') : R α := (setT tg S1 d env1).bind fun env2 => f env2 S1
/-- an item of a list -/
def idxL (S : St') (a b : D) : R D := match b with
  | .int i => match lstOf S a with
    | some ds => (match atI ds i with
      | some d => .ok d
      | none => .bad)
    | none => .bad
  | _ => .bad
def setixL (S : St') (o i v : D) : R St' := match o with
  | .loc n => match S[n]?, i with
    | some (.lst xs), .int k => match ixN xs.length k with
      | some j => .ok (S.set n (.lst (xs.set j v)))
      | none => .bad
    | _, _ => .bad
  | _ => .bad
/-- two things in a tuple -/
def pairF : D → R (D × D)
  | .tup [a, b] => .ok (a, b)
  | _ => .bad
def setixD (S : St') (kvs : List (D × D)) (o i v : D) : R St' := match o with
  | .loc n => if isKey i = true ∧ kvs.length < lim then .ok (S.set n (.dct (dput kvs i v))) else .bad
  | _ => .bad
def setixF (S : St') (o i v : D) : R St' := match ownDct S o with
  | some kvs => setixD S kvs o i v
  | none => setixL S o i v
/-- o[k1, k2] = v -/
def setTF (S : St') (o : D) (ks : List D) (v : D) : R St' := match o with
  | .loc n => match S[n]? with
    | some (.dctT kvs) => if ks.all isKey = true ∧ kvs.length < lim ∧ ks.length ≤ lim then .ok (S.set n (.dctT (dputT kvs (.tup ks) v))) else .bad
    | _ => .bad
  | _ => .bad
open Classical in
noncomputable def lckTS (n : Nat) (kvs : List (D × D)) (r : Fl × Env' × St') : R (Fl × Env' × St') := if isLckT n kvs r.2.2 then .ok (r.1, r.2.1, r.2.2.set n (.dctT kvs)) else .bad
/-- what a walk over a dict gives -/
def ditF (k : DIt) (kvs : List (D × D)) : List D := match k with
  | .keys => kvs.map (·.1)
  | .vals => kvs.map (·.2)
  | .items => kvs.map fun p => .tup [p.1, p.2]
/-- a dict is locked while it is walked -/
def lckF (S : St') (d : Option (Option D)) : R (Nat × List (D × D)) := match d with
  | some (some (.loc n)) => match S[n]? with
    | some (.dct kvs) => .ok (n, kvs)
    | _ => .bad
  | _ => .bad
def isLck (n : Nat) (kvs : List (D × D)) (S : St') : Prop := S[n]? = some (.lck kvs)
open Classical in
noncomputable def lckE (n : Nat) (kvs : List (D × D)) (r : Fl × Env' × St') : R (Fl × Env' × St') := if isLck n kvs r.2.2 then .ok (r.1, r.2.1, r.2.2.set n (.dct kvs)) else .bad
mutual
noncomputable def ex (Γ : Ctx) : IS → Env' → St' → R (Fl × Env' × St')
  | .expr e, env, S => (ev Γ e env S).bind fun x => .ok (.nx, env, x.2)
  | .asg tg e, env, S => (ev Γ e env S).bind fun x => (setT tg x.2 x.1 env).bind fun env' => .ok (.nx, env', x.2)
  | .setix o i e, env, S => (ev Γ e env S).bind fun v => (ev Γ o env v.2).bind fun x => (ev Γ i env x.2).bind fun y => (setixF y.2 x.1 y.1 v.1).bind fun S' => .ok (.nx, env, S')
  | .aug i op e, env, S => match env[i]? with
    | some (some d) => (ev Γ e env S).bind fun x => (augF op d x.1).bind fun r => .ok (.nx, env.set i (some r), x.2)
    | _ => .bad
  | .if_ c a b, env, S => (evT Γ c env S).bind fun k => if k.1 then exs Γ a env k.2 else exs Γ b env k.2
  | .while_ c b, env, S => whileL (evT Γ c) (exs Γ b) Γ.fuel env S
  | .for_ tg k es b, env, S => (evs Γ es env S).bind fun x => (itF k x.2 x.1).bind fun items => forL items.2 (turnF tg (exs Γ b)) items.1 env x.2
  | .ret e, env, S => (ev Γ e env S).bind fun x => .ok (.ret x.1, env, x.2)
  | .retN, env, S => .ok (.ret .non, env, S)
  | .pass, env, S => .ok (.nx, env, S)
  | .brk, env, S => .ok (.brk, env, S)
  | .cnt, env, S => .ok (.cnt, env, S)
  | .hole, _, _ => .bad
  | .forD tg k i b, env, S => (lckF S env[i]?).bind fun p => (forL (isLck p.1 p.2) (turnF tg (exs Γ b)) (ditF k p.2) env (S.set p.1 (.lck p.2))).bind fun r => lckE p.1 p.2 r
  | .setix2 o i o2 i2 e, env, S => (ev Γ e env S).bind fun v => (pairF v.1).bind fun ab => (ev Γ o env v.2).bind fun x => (ev Γ i env x.2).bind fun y => (setixL y.2 x.1 y.1 ab.1).bind fun S1 => (ev Γ o2 env S1).bind fun z => (ev Γ i2 env z.2).bind fun w => (setixL w.2 z.1 w.1 ab.2).bind fun S2 => .ok (.nx, env, S2)
  | .augix o i op e, env, S => (ev Γ o env S).bind fun x => (ev Γ i env x.2).bind fun y => (idxL y.2 x.1 y.1).bind fun u => (ev Γ e env y.2).bind fun v => (augF op u v.1).bind fun w => (setixL v.2 x.1 y.1 w).bind fun S' => .ok (.nx, env, S')
  | .setT o ks e, env, S => (ev Γ e env S).bind fun v => (ev Γ o env v.2).bind fun x => (evs Γ ks env x.2).bind fun y => (setTF y.2 x.1 y.1 v.1).bind fun S' => .ok (.nx, env, S')
  | .forT tg i b, env, S => (lckTF S env[i]?).bind fun p => (forL (isLckT p.1 p.2) (turnF tg (exs Γ b)) (p.2.map (·.1)) env (S.set p.1 (.lckT p.2))).bind fun r => lckTS p.1 p.2 r
noncomputable def exs (Γ : Ctx) : List IS → Env' → St' → R (Fl × Env' × St')
  | [], env, S => .ok (.nx, env, S)
  | s :: r, env, S => (ex Γ s env S).bind fun x => match x.1 with
    | .nx => exs Γ r x.2.1 x.2.2
    | f => .ok (f, x.2.1, x.2.2)
end
/-- a def run at its arguments -/
structure FnI where
  name : Str
  ps : Nat
  N : List Str
  body : List IS
noncomputable def run (Γ : Ctx) (f : FnI) (args : List D) (S : St') : R (D × St') :=
  if args.length = f.ps then (exs Γ f.body (args.map some ++ List.replicate (f.N.length - args.length) none) S).bind fun r => match r.1 with
    | .ret d => .ok (d, r.2.2)
    | .nx => .ok (.non, r.2.2)
    | _ => .bad
  else .bad
end TK

/-! TKc: the expressions of the small tongue over the hand layer. -/
namespace TK
open PySem PySem.Spec PyProof.Rows L2

abbrev Hst := L2.St
/-- the slots -/
structure REnv (K : PySem.W.Frag) (μ : Mu) (N : Nat) (H : Hp) (env : Env') (σ : Hst) : Prop where
  len : σ.length = env.length
  at_ : ∀ (i : Nat) (d : D), env[i]? = some (some d) → ∃ v, σ[i]? = some (some v) ∧ RepV K μ N H d v
theorem REnv.ext {K : PySem.W.Frag} {μ μ' : Mu} {N N' : Nat} {H H' : Hp} {env : Env'} {σ : Hst} (r : REnv K μ N H env σ) (e : Ext μ N H μ' N' H') : REnv K μ' N' H' env σ :=
  ⟨r.len, fun i d h => let ⟨v, h1, h2⟩ := r.at_ i d h; ⟨v, h1, RepV.ext e d v h2⟩⟩
abbrev M1 := Env' → St' → R (D × St')
/-- what is known at the end of an expression -/
abbrev Fin1 (K : PySem.W.Frag) (μ : Mu) (S : St') (H : Hp) (d : D) (S' : St') (Q : VK) : Prop :=
  ∀ v H' μ', Rel K μ' S' H' → Ext μ S.length H μ' S'.length H' → RepV K μ' S'.length H' d v → Q v H'
abbrev FinB (K : PySem.W.Frag) (μ : Mu) (S : St') (H : Hp) (S' : St') (Q : Hp → Prop) : Prop :=
  ∀ H' μ', Rel K μ' S' H' → Ext μ S.length H μ' S'.length H' → Q H'
abbrev FinL (K : PySem.W.Frag) (μ : Mu) (S : St') (H : Hp) (ds : List D) (S' : St') (Q : List V → Hp → Prop) : Prop :=
  ∀ vs H' μ', Rel K μ' S' H' → Ext μ S.length H μ' S'.length H' → RepVs K μ' S'.length H' ds vs → Q vs H'
/-- a new list, as it is laid -/
abbrev FinN (K : PySem.W.Frag) (μ : Mu) (S : St') (H : Hp) (ds : List D) (S' : St') (Q : VK) : Prop :=
  ∀ p vs H' μ', Rel K μ' S' H' → Ext μ S.length H μ' S'.length H' → H' p = none → RepVs K μ' S'.length H' ds vs → Q (.ref p) (upd H' p (.lst vs))
def SE (X : Cx) (f : M1) (e : Expr) : Prop := ∃ t, PE X e t ∧ ∀ σ H μ env S d S', Rel X.K μ S H → REnv X.K μ S.length H env σ → f env S = .ok (d, S') → ∀ Q, Fin1 X.K μ S H d S' Q → t σ H Q
/-- an expression that makes a new list -/
def SF (X : Cx) (f : M1) (e : Expr) : Prop := ∃ t, PE X e t ∧ ∀ σ H μ env S d S', Rel X.K μ S H → REnv X.K μ S.length H env σ → f env S = .ok (.lst d, S') → ∀ Q, FinN X.K μ S H d S' Q → t σ H Q
def ST (X : Cx) (f : Env' → St' → R (Bool × St')) (e : Expr) : Prop := ∃ t, PT X e t ∧ ∀ σ H μ env S k S', Rel X.K μ S H → REnv X.K μ S.length H env σ → f env S = .ok (k, S') → ∀ Q : Bool → Hp → Prop, FinB X.K μ S H S' (Q k) → t σ H Q
def SW (X : Cx) (f : Env' → St' → R (Bool × St')) (e : Expr) : Prop := ∃ t, PW X e t ∧ ∀ σ H μ env S k S', Rel X.K μ S H → REnv X.K μ S.length H env σ → f env S = .ok (k, S') → ∀ Q : Bool → Hp → Prop, FinB X.K μ S H S' (Q k) → t σ H Q
def SA (X : Cx) (f : Env' → St' → R (List D × St')) (es : List Expr) : Prop := ∃ t, PA X es t ∧ ∀ σ H μ env S ds S', Rel X.K μ S H → REnv X.K μ S.length H env σ → f env S = .ok (ds, S') → ∀ Q, FinL X.K μ S H ds S' Q → t σ H Q
theorem SW.st {X : Cx} {f : Env' → St' → R (Bool × St')} {e : Expr} (h : SW X f e) : ST X f e := let ⟨t, h1, h2⟩ := h; ⟨t, h1.pt, h2⟩
section
variable {K : PySem.W.Frag} {μ : Mu} {S : St'} {H : Hp}
/-- a frozen list from a new one -/
theorem FinN.of {ds : List D} {S' : St'} {Q : VK} (q : Fin1 K μ S H (.lst ds) S' Q) : FinN K μ S H ds S' Q := fun p vs H' μ' r e hp rv => by
  refine q _ _ μ' (Rel.fresh r hp) (e.trans (Ext.fresh r hp)) ?_
  simp only [RepV]
  exact ⟨p, vs, rfl, .inl ⟨.inl upd_same, notLoc_fresh r hp⟩, RepVs.ext (Ext.fresh r hp) _ _ rv⟩
/-- a tuple laid -/
theorem Fin1.tup {ds : List D} {S' : St'} {Q : VK} {vs : List V} {H' : Hp} {μ' : Mu} (q : Fin1 K μ S H (.tup ds) S' Q) (r : Rel K μ' S' H') (e : Ext μ S.length H μ' S'.length H') (rv : RepVs K μ' S'.length H' ds vs) (p : Addr) (hp : H' p = none) : Q (.ref p) (upd H' p (.tup vs)) := by
  refine q _ _ μ' (Rel.fresh r hp) (e.trans (Ext.fresh r hp)) ?_
  simp only [RepV]
  exact ⟨p, vs, rfl, .inl ⟨.inl upd_same, notLoc_fresh r hp⟩, RepVs.ext (Ext.fresh r hp) _ _ rv⟩
end
theorem SF.se {X : Cx} {f : M1} {e : Expr} (h : SF X f e) (hl : ∀ env S d S', f env S = .ok (d, S') → ∃ ds, d = .lst ds) : SE X f e := by
  obtain ⟨t, h1, h2⟩ := h
  refine ⟨t, h1, fun σ H μ env S d S' r re hf Q q => ?_⟩
  obtain ⟨ds, rfl⟩ := hl env S d S' hf
  exact h2 σ H μ env S ds S' r re hf Q (FinN.of q)
theorem SF.own {X : Cx} {f : M1} {e : Expr} (h : SF X f e) : SE X (fun env S => (f env S).bind fun x => allocL x.2 x.1) e := by
  obtain ⟨t, h1, h2⟩ := h
  refine ⟨t, h1, fun σ H μ env S d S' r re hf Q q => ?_⟩
  obtain ⟨⟨d1, S1⟩, e1, e2⟩ := R.bind_eq_ok hf
  have hd : ∃ ds, d1 = .lst ds := by
    cases d1 with
    | lst ds => exact ⟨ds, rfl⟩
    | _ => cases e2
  obtain ⟨ds, rfl⟩ := hd
  cases e2
  refine h2 σ H μ env S ds S1 r re e1 Q fun p vs H' μ' r' e' hp rv => ?_
  refine q _ _ (muAdd μ' S1.length p) (Rel.alloc r' hp (by simp only [RepO]; exact ⟨vs, rfl, rv⟩)) ?_ ?_
  · have := e'.trans (Ext.alloc (o := .lst vs) r' hp)
    rw [List.length_append, List.length_singleton]; exact this
  · simp only [RepV]
    refine ⟨by rw [List.length_append, List.length_singleton]; omega, by rw [muAdd_new]⟩
/-- parallel lists as an association -/
theorem repK_zip {K : PySem.W.Frag} {μ : Mu} {N : Nat} {H : Hp} : ∀ {ks ds : List D} {es : List (Key × V)}, keysD ks = some (es.map (·.1)) → RepVs K μ N H ds (es.map (·.2)) → RepK K μ N H (ks.zip ds) es
  | [], ds, es, h1, h2 => by
    simp only [keysD, Option.some.injEq] at h1
    cases es with
    | nil => simp only [List.zip_nil_left, RepK]
    | cons e es => cases h1
  | k :: ks, ds, es, h1, h2 => by
    simp only [keysD] at h1
    obtain ⟨k', e1, e2⟩ := Option.bind_eq_some_iff.mp h1
    obtain ⟨ks', e3, e4⟩ := Option.map_eq_some_iff.mp e2
    cases es with
    | nil => cases e4
    | cons e es =>
      cases ds with
      | nil => simp only [RepVs] at h2; cases h2
      | cons d ds =>
        simp only [List.map_cons, RepVs] at h2
        obtain ⟨v, vr, ev, h3, h4⟩ := h2
        cases ev
        rw [List.map_cons] at e4
        obtain ⟨q1, q2⟩ := List.cons.inj e4
        simp only [List.zip_cons_cons, RepK]
        refine ⟨k', e.2, es, by rw [q1], e1, h3, repK_zip (by rw [e3, q2]) h4⟩
theorem repK_unzip {K : PySem.W.Frag} {μ : Mu} {N : Nat} {H : Hp} : ∀ {kvs : List (D × D)} {es : List (Key × V)}, RepK K μ N H kvs es → keysD (kvs.map (·.1)) = some (es.map (·.1)) ∧ RepVs K μ N H (kvs.map (·.2)) (es.map (·.2))
  | [], es, h => by
    simp only [RepK] at h
    subst h
    exact ⟨rfl, by simp only [List.map_nil, RepVs]⟩
  | (k, d) :: r, es, h => by
    simp only [RepK] at h
    obtain ⟨k', v, r', rfl, h2, h3, h4⟩ := h
    obtain ⟨q1, q2⟩ := repK_unzip h4
    refine ⟨?_, ?_⟩
    · simp only [List.map_cons, keysD, h2, q1, Option.bind_some, Option.map_some]
    · simp only [List.map_cons, RepVs]
      exact ⟨v, _, rfl, h3, q2⟩
/-- a new dict, as it is laid -/
abbrev FinD (K : PySem.W.Frag) (μ : Mu) (S : St') (H : Hp) (ks ds : List D) (S' : St') (Q : VK) : Prop :=
  ∀ p es H' μ', Rel K μ' S' H' → Ext μ S.length H μ' S'.length H' → H' p = none → keysD ks = some (es.map (·.1)) → RepVs K μ' S'.length H' ds (es.map (·.2)) → Q (.ref p) (upd H' p (.dK es))
def SFD (X : Cx) (f : M1) (e : Expr) : Prop := ∃ t, PE X e t ∧ ∀ σ H μ env S ks ds S', Rel X.K μ S H → REnv X.K μ S.length H env σ → f env S = .ok (.dct ks ds, S') → ∀ Q, FinD X.K μ S H ks ds S' Q → t σ H Q
theorem FinD.of {K : PySem.W.Frag} {μ : Mu} {S : St'} {H : Hp} {ks ds : List D} {S' : St'} {Q : VK} (q : Fin1 K μ S H (.dct ks ds) S' Q) : FinD K μ S H ks ds S' Q := fun p es H' μ' r e hp hk rv => by
  refine q _ _ μ' (Rel.fresh r hp) (e.trans (Ext.fresh r hp)) ?_
  simp only [RepV]
  exact ⟨p, es, rfl, ⟨.inl upd_same, notLoc_fresh r hp⟩, hk, RepVs.ext (Ext.fresh r hp) _ _ rv⟩
theorem SFD.se {X : Cx} {f : M1} {e : Expr} (h : SFD X f e) (hl : ∀ env S d S', f env S = .ok (d, S') → ∃ ks ds, d = .dct ks ds) : SE X f e := by
  obtain ⟨t, h1, h2⟩ := h
  refine ⟨t, h1, fun σ H μ env S d S' r re hf Q q => ?_⟩
  obtain ⟨ks, ds, rfl⟩ := hl env S d S' hf
  exact h2 σ H μ env S ks ds S' r re hf Q (FinD.of q)
theorem SFD.own {X : Cx} {f : M1} {e : Expr} (h : SFD X f e) : SE X (fun env S => (f env S).bind fun x => allocD x.2 x.1) e := by
  obtain ⟨t, h1, h2⟩ := h
  refine ⟨t, h1, fun σ H μ env S d S' r re hf Q q => ?_⟩
  obtain ⟨⟨d1, S1⟩, e1, e2⟩ := R.bind_eq_ok hf
  have hd : ∃ ks ds, d1 = .dct ks ds := by
    cases d1 with
    | dct ks ds => exact ⟨ks, ds, rfl⟩
    | _ => cases e2
  obtain ⟨ks, ds, rfl⟩ := hd
  cases e2
  refine h2 σ H μ env S ks ds S1 r re e1 Q fun p es H' μ' r' e' hp hk rv => ?_
  refine q _ _ (muAdd μ' S1.length p) (Rel.alloc r' hp (by simp only [RepO]; exact ⟨es, rfl, repK_zip hk rv⟩)) ?_ ?_
  · have := e'.trans (Ext.alloc (o := .dK es) r' hp)
    rw [List.length_append, List.length_singleton]; exact this
  · simp only [RepV]
    refine ⟨by rw [List.length_append, List.length_singleton]; omega, by rw [muAdd_new]⟩
/-- one of two rules -/
theorem SE.alt {X : Cx} {f f1 f2 : M1} {e : Expr} (a : SE X f1 e) (b : SE X f2 e) (h : ∀ env S r, f env S = .ok r → f1 env S = .ok r ∨ f2 env S = .ok r) : SE X f e := by
  obtain ⟨t1, p1, q1⟩ := a
  obtain ⟨t2, p2, q2⟩ := b
  refine ⟨fun σ H Q => t1 σ H Q ∨ t2 σ H Q, ⟨fun pins s σ H Q I z => z.elim (p1.run pins s σ H Q I) (p2.run pins s σ H Q I)⟩, fun σ H μ env S d S' r re hf Q q => ?_⟩
  rcases h env S _ hf with z | z
  · exact .inl (q1 σ H μ env S d S' r re z Q q)
  · exact .inr (q2 σ H μ env S d S' r re z Q q)
theorem SE.hole {X : Cx} {e : Expr} : SE X (fun _ _ => .bad) e := by
  refine ⟨fun _ _ _ => False, ⟨fun pins s σ H Q I z => z.elim⟩, fun σ H μ env S d S' r re hf Q q => ?_⟩
  cases hf
section
variable {X : Cx} {a b c : Expr} {fa fb fc : M1} {pos : Pos}
theorem se_var {i : Nat} {x : Str} (hN : X.N[i]? = some x) (hv : Vis X.env.scope x) (hd : (x == ("__debug__" : Str)) = false) (hcd : (x == ("__classdict__" : Str)) = false) :
    SE X (fun env S => match env[i]? with | some (some d) => .ok (d, S) | _ => .bad) (.Name x pos) := by
  refine ⟨_, pe_var hN hv hd hcd, fun σ H μ env S d S' r re hf Q q => ?_⟩
  dsimp only at hf
  split at hf
  · rename_i d' he
    cases hf
    obtain ⟨v, h1, h2⟩ := re.at_ i _ he
    exact ⟨v, h1, q v H μ r (Ext.refl r) h2⟩
  · cases hf
theorem se_int {i : Int} {j : Nat} : SE X (fun _ S => .ok (.int i, S)) (.Constant (.int i) j pos) := by
  refine ⟨_, pe_int, fun σ H μ env S d S' r re hf Q q => ?_⟩
  cases hf
  exact q _ _ μ r (Ext.refl r) (by simp only [RepV])
theorem se_bl {i : Bool} {j : Nat} : SE X (fun _ S => .ok (.bl i, S)) (.Constant (.bool i) j pos) := by
  refine ⟨_, pe_bl, fun σ H μ env S d S' r re hf Q q => ?_⟩
  cases hf
  exact q _ _ μ r (Ext.refl r) (by simp only [RepV])
theorem se_non {j : Nat} : SE X (fun _ S => .ok (.non, S)) (.Constant .none j pos) := by
  refine ⟨_, pe_non, fun σ H μ env S d S' r re hf Q q => ?_⟩
  cases hf
  exact q _ _ μ r (Ext.refl r) (by simp only [RepV])
theorem se_str {x : Str} {l : List Nat} {j : Nat} (h : x = ss l) : SE X (fun _ S => .ok (.str l, S)) (.Constant (.str x) j pos) := by
  subst h
  refine ⟨_, pe_str, fun σ H μ env S d S' r re hf Q q => ?_⟩
  cases hf
  exact q _ _ μ r (Ext.refl r) (by simp only [RepV])
theorem se_glb {x : Str} {d0 : D} {u : Value} {v : V} (hg : Gl X x) (hm : X.mg x = some u) (r : RelV v u) (hr : ∀ μ N H, RepV X.K μ N H d0 v) (hd : (x == ("__debug__" : Str)) = false) :
    SE X (fun _ S => .ok (d0, S)) (.Name x pos) := by
  refine ⟨_, pe_glob hg hm r hd, fun σ H μ env S d S' r re hf Q q => ?_⟩
  cases hf
  exact q _ _ μ r (Ext.refl r) (hr _ _ _)
/-- two parts one after another -/
theorem two (ha : SE X fa a) (hb : SE X fb b) : ∃ ta tb, PE X a ta ∧ PE X b tb ∧ ∀ σ H μ env S x S1 y S2, Rel X.K μ S H → REnv X.K μ S.length H env σ → fa env S = .ok (x, S1) → fb env S1 = .ok (y, S2) → ∀ Q : V → V → Hp → Prop,
    (∀ v w H' μ', Rel X.K μ' S2 H' → Ext μ S.length H μ' S2.length H' → RepV X.K μ' S2.length H' x v → RepV X.K μ' S2.length H' y w → Q v w H') → ta σ H fun v H1 => tb σ H1 fun w H2 => Q v w H2 := by
  obtain ⟨ta, h1, h2⟩ := ha
  obtain ⟨tb, h3, h4⟩ := hb
  refine ⟨ta, tb, h1, h3, fun σ H μ env S x S1 y S2 r re e1 e2 Q q => ?_⟩
  refine h2 σ H μ env S x S1 r re e1 _ fun v H1 μ1 r1 x1 rv => ?_
  refine h4 σ H1 μ1 env S1 y S2 r1 (re.ext x1) e2 _ fun w H2 μ2 r2 x2 rw' => ?_
  exact q v w H2 μ2 r2 (x1.trans x2) (RepV.ext x2 _ _ rv) rw'
/-- a rule that gives a value and leaves the store -/
def Gives (K : PySem.W.Frag) (f : St' → D → D → R D) (r : R2) : Prop := ∀ μ S H x y d v w, Rel K μ S H → RepV K μ S.length H x v → RepV K μ S.length H y w → f S x y = .ok d → ∀ Q, Fin1 K μ S H d S Q → r v w H Q
theorem se_bin {op : Operator} {f : St' → D → D → R D} {r : R2} (ho : OpR X (binaryOp op) r) (hr : Gives X.K f r) (ha : SE X fa a) (hb : SE X fb b) :
    SE X (fun env S => (fa env S).bind fun x => (fb env x.2).bind fun y => (f y.2 x.1 y.1).bind fun d => .ok (d, y.2)) (.BinOp a op b pos) := by
  obtain ⟨ta, tb, h1, h2, h3⟩ := two ha hb
  refine ⟨_, pe_op ho h1 h2, fun σ H μ env S d S' rl re hf Q q => ?_⟩
  obtain ⟨⟨x, S1⟩, e1, hf⟩ := R.bind_eq_ok hf
  obtain ⟨⟨y, S2⟩, e2, hf⟩ := R.bind_eq_ok hf
  obtain ⟨d', e3, hf⟩ := R.bind_eq_ok hf
  cases hf
  exact h3 σ H μ env S x S1 y _ rl re e1 e2 _ fun v w H' μ' r' x' rv rw' => hr μ' _ H' x y d v w r' rv rw' e3 Q fun v' H'' μ'' a1 a2 a3 => q v' H'' μ'' a1 (x'.trans a2) a3
/-- a list + a list -/
theorem add_listsQ {prog : Program} {w : World} {A : Around} {E : Value → Shared → Prop} {s : Shared} {l b : Addr} {vs ws : List Value} {Q : Value → Shared → Prop} (hl : s.heap.IsList l vs.toArray) (hb : s.heap.IsList b ws.toArray)
    (h : Q (.ref s.heap.objs.size) { s with heap := s.heap.push { cls := .type "list", data := .seq (vs ++ ws).toArray } })
    (hsz : vs.length + ws.length ≤ sizeLine) : wpAny (model prog w) A (binaryOp .Add (.ref l) (.ref b)) Q E s := by
  obtain ⟨⟨cls, dd, data, sl⟩, ho, hc, n, hd⟩ := id hl
  obtain ⟨⟨cls2, dd2, data2, sl2⟩, ho2, hc2, n2, hd2⟩ := id hb
  simp only at hc hd hc2 hd2
  subst hc hd hc2 hd2
  have e : vs.toArray ++ ws.toArray = (vs ++ ws).toArray := by simp
  refine concat_meets ⟨_, ho, rfl⟩ ⟨_, ho2, rfl⟩ noFill_list_add seq_list_add PySem.F.slot_list_add PySem.F.entry_list_add (PySem.F.args_list_add_2 _ _) (list_addW l b vs.toArray ws.toArray n n2 dd dd2 sl sl2 (by simpa using hsz)) ⟨ho, ho2, ?_⟩
  rw [e]
  exact h
def rCatL (K : PySem.W.Frag) : R2 := fun x y H Q => ∃ l b xs zs, x = .ref l ∧ y = .ref b ∧ SqL K H l xs ∧ SqL K H b zs ∧ xs.length + zs.length ≤ sizeLine ∧ ∀ p, H p = none → Q (.ref p) (upd H p (.lst (xs ++ zs)))
theorem op_catL : OpR X (binaryOp .Add) (rCatL X.K) := by
  intro pins s σ H x y v u Q I rx ry h
  obtain ⟨l, b, xs, zs, rfl, rfl, hH, hB, hz, q⟩ := h
  cases rx
  cases ry
  obtain ⟨its, r, p, z⟩ := I.list hH
  obtain ⟨its2, r2, p2, z2⟩ := I.list hB
  have hl := r.length
  have hl2 := r2.length
  refine add_listsQ p.isList p2.isList ?_ (by omega)
  exact ⟨.ref _, _, I.lnew (t' := s.toks) (r.append r2) (by rw [List.length_append]; omega), rfl, q _ I.fresh⟩
/-- a list to be read -/
def RdL (K : PySem.W.Frag) (μ : Mu) (S : St') (H : Hp) (ds : List D) (v : V) : Prop := ∃ a vs, v = .ref a ∧ SqL K H a vs ∧ RepVs K μ S.length H ds vs
theorem rd_lst {K : PySem.W.Frag} {μ : Mu} {S : St'} {H : Hp} {ds : List D} {v : V} (h : RepV K μ S.length H (.lst ds) v) : RdL K μ S H ds v := by
  simp only [RepV] at h
  obtain ⟨a, vs, h1, h2, h3⟩ := h
  exact ⟨a, vs, h1, h2.sq, h3⟩
theorem rd_loc {K : PySem.W.Frag} {μ : Mu} {S : St'} {H : Hp} {ds : List D} {n : Nat} {v : V} (r : Rel K μ S H) (h : RepV K μ S.length H (.loc n) v) (e : S[n]? = some (.lst ds)) : RdL K μ S H ds v := by
  simp only [RepV] at h
  obtain ⟨ho, e1, q⟩ := r.obj n _ e
  simp only [RepO] at q
  obtain ⟨vs, rfl, q⟩ := q
  exact ⟨μ n, vs, h.2, SqL.of e1, q⟩
theorem gives_cat {K : PySem.W.Frag} {μ : Mu} {S : St'} {H : Hp} {xs ys : List D} {v w : V} (hx : RdL K μ S H xs v) (hy : RdL K μ S H ys w) (hl : xs.length + ys.length ≤ lim) (r : Rel K μ S H) {Q : VK} (q : FinN K μ S H (xs ++ ys) S Q) : rCatL K v w H Q := by
  obtain ⟨a, vs, rfl, h1, h2⟩ := hx
  obtain ⟨b, ws, rfl, h3, h4⟩ := hy
  refine ⟨a, b, vs, ws, rfl, rfl, h1, h3, ?_, fun p hp => q p _ H μ r (Ext.refl r) hp (h2.append h4)⟩
  rw [← h2.length, ← h4.length, sizeLine_eq]; exact hl
abbrev rAddAll (K : PySem.W.Frag) : R2 := fun x y H Q => (rI0 (fun i j => .int (i + j)) x y H Q ∨ (fun x y H Q => ∃ i j, x = .str i ∧ y = .str j ∧ i.length + j.length ≤ sizeLine ∧ Q (.str (i ++ j)) H) x y H Q) ∨ (rCatA K x y H Q ∨ rCatL K x y H Q)
theorem op_addAll : OpR X (binaryOp .Add) (rAddAll X.K) := (op_add.or op_add_str).or (op_catA.or op_catL)
theorem rd_lstOf {K : PySem.W.Frag} {μ : Mu} {S : St'} {H : Hp} {d : D} {ds : List D} {v : V} (r : Rel K μ S H) (h : RepV K μ S.length H d v) (e : lstOf S d = some ds) : RdL K μ S H ds v := by
  cases d with
  | lst xs =>
    simp only [lstOf, Option.some.injEq] at e
    subst e
    exact rd_lst h
  | loc n =>
    simp only [lstOf] at e
    split at e
    · rename_i ds' e'
      cases e
      exact rd_loc r h e'
    · cases e
  | _ => simp only [lstOf] at e; cases e
theorem RdL.sq {K : PySem.W.Frag} {μ : Mu} {S : St'} {H : Hp} {ds : List D} {v : V} (h : RdL K μ S H ds v) : ∃ a vs, v = .ref a ∧ SqL K H a vs ∧ RepVs K μ S.length H ds vs :=
  h
/-- a list or tuple to be read -/
theorem rd_seqOf {K : PySem.W.Frag} {μ : Mu} {S : St'} {H : Hp} {d : D} {ds : List D} {v : V} (r : Rel K μ S H) (h : RepV K μ S.length H d v) (e : seqOf S d = some ds) :
    ∃ a vs, v = .ref a ∧ (SqL K H a vs ∨ SqT K H a vs) ∧ RepVs K μ S.length H ds vs := by
  by_cases ht : ∃ xs, d = .tup xs
  · obtain ⟨xs, rfl⟩ := ht
    simp only [seqOf, Option.some.injEq] at e
    subst e
    simp only [RepV] at h
    obtain ⟨a, vs, h1, h2, h3⟩ := h
    exact ⟨a, vs, h1, .inr h2.sq, h3⟩
  · have e' : lstOf S d = some ds := by
      cases d with
      | tup xs => exact absurd ⟨xs, rfl⟩ ht
      | _ => exact e
    obtain ⟨a, vs, h1, h2, h3⟩ := (rd_lstOf r h e').sq
    exact ⟨a, vs, h1, .inl h2, h3⟩
theorem gives_addI {K : PySem.W.Frag} : Gives K (binF .add) (rAddAll K) := by
  intro μ S H x y d v w r hx hy hf Q q
  change addF S x y = .ok d at hf
  unfold addF at hf
  split at hf
  · cases hf
    simp only [RepV] at hx hy
    subst hx hy
    exact .inl (.inl ⟨_, _, rfl, rfl, q _ _ μ r (Ext.refl r) (by simp only [RepV])⟩)
  · split at hf
    · rename_i i j hz
      cases hf
      simp only [RepV] at hx hy
      subst hx hy
      refine .inl (.inr ⟨_, _, rfl, rfl, ?_, q _ _ μ r (Ext.refl r) (by simp only [RepV, ss_app])⟩)
      rw [ss_len, ss_len, sizeLine_eq]; exact hz
    · cases hf
  · split at hf
    · rename_i i j hz
      cases hf
      have hx0 := hx
      have hy0 := hy
      simp only [RepV] at hx hy
      obtain ⟨a, vs, rfl, h1, h2⟩ := hx
      obtain ⟨b, ws, rfl, h3, h4⟩ := hy
      have l1 := h2.length
      have l2 := h4.length
      refine .inr (.inl ⟨a, b, vs, ws, rfl, rfl, h1.sq, h3.sq, by rw [← l1, ← l2, sizeLine_eq]; exact hz, fun e => ?_, fun e1 e2 => ?_, fun e1 e2 p hp => ?_⟩)
      · subst e
        have e3 : i = [] := List.eq_nil_of_length_eq_zero l1
        subst e3
        exact q _ _ μ r (Ext.refl r) hy0
      · subst e2
        have e3 : j = [] := List.eq_nil_of_length_eq_zero l2
        subst e3
        rw [List.append_nil] at q
        exact q _ _ μ r (Ext.refl r) hx0
      · exact Fin1.tup q r (Ext.refl r) (h2.append h4) p hp
    · cases hf
  · split at hf
    · rename_i hz1 hz2
      split at hf
      · rename_i hl
        cases hf
        exact .inr (.inr (gives_cat (rd_lstOf r hx hz1) (rd_lstOf r hy hz2) hl r (FinN.of q)))
      · cases hf
    · cases hf
theorem gives_sub {K : PySem.W.Frag} : Gives K (binF .sub) (rI0 fun i j => .int (i - j)) := by
  intro μ S H x y d v w r hx hy hf Q q
  simp only [binF] at hf
  split at hf
  · cases hf
    simp only [RepV] at hx hy
    subst hx hy
    exact ⟨_, _, rfl, rfl, q _ _ μ r (Ext.refl r) (by simp only [RepV])⟩
  · cases hf
theorem str_foldl (z : List Nat) : ∀ (k : Nat) (acc : List Nat), (List.replicate k z.toArray).foldl (· ++ ·) acc.toArray = (acc ++ (List.replicate k z).flatten).toArray
  | 0, acc => by simp
  | k + 1, acc => by
    have e : acc.toArray ++ z.toArray = (acc ++ z).toArray := by simp
    rw [List.replicate_succ, List.foldl_cons, e, str_foldl z k (acc ++ z), List.replicate_succ, List.flatten_cons, List.append_assoc]
theorem ss_mul (z : List Nat) (k : Int) : Txt.mul (ss z) k = ss (List.replicate k.toNat z).flatten := by
  have f := str_foldl z k.toNat []
  rw [List.nil_append] at f
  unfold Txt.mul
  by_cases c1 : k < 1
  · rw [if_pos c1, show k.toNat = 0 by omega]; rfl
  · rw [if_neg c1]
    by_cases c2 : (k == 1 || (ss z).length == 0) = true
    · rw [if_pos c2]
      rw [Bool.or_eq_true, beq_iff_eq, beq_iff_eq, ss_len] at c2
      rcases c2 with rfl | c2
      · simp
      · have : z = [] := List.eq_nil_of_length_eq_zero c2
        subst this
        simp
    · rw [if_neg c2]
      show (⟨_⟩ : Str) = ⟨_⟩
      exact congrArg Str.mk f
def rRepS : R2 := fun x y H Q => ∃ (z : List Nat) (k : Int), x = .str (ss z) ∧ y = .int k ∧ (-1000000 ≤ k ∧ k ≤ 1000000) ∧ z.length ≤ 16 ∧ Q (.str (ss (List.replicate k.toNat z).flatten)) H
/-- a text * a number -/
theorem op_repS : OpR X (binaryOp .Mult) rRepS := by
  intro pins s σ H x y v u Q I rx ry h
  obtain ⟨z, k, rfl, rfl, ⟨h1, h2⟩, h3, q⟩ := h
  obtain ⟨t, rfl⟩ := rx
  obtain ⟨t2, rfl⟩ := ry
  have hl : (ss z).length = z.length := ss_len z
  have hm : z.length * k.toNat ≤ 16 * 1000000 := Nat.mul_le_mul h3 (by omega)
  refine PySem.SB.mul ⟨?_, fun h4 _ => ?_, fun h4 _ => ?_⟩ fun t' n => ⟨.str _, H, I.tok _, ⟨_, by rw [ss_mul]⟩, q⟩
  · rw [decide_eq_false (by omega), decide_eq_false (by omega)]; rfl
  · rw [hl]
    have : (16 : Int) ≤ (2 ^ 63 - 1) / k := Int.le_ediv_of_mul_le (by omega) (by omega)
    omega
  · rw [hl]
    unfold Builtin.Str.tooLong
    rw [sizeLine_eq]
    exact decide_eq_false (by omega)
theorem tuple_mulS (l : Addr) (items : Array Value) (n : Nat) (dd : Option Addr) (sl : Array (Option Value)) (x : Int) (u : Tok) (c0 : (decide (x < -(2 ^ 63)) || decide (x ≥ 2 ^ 63)) = false) (c1 : (items.isEmpty || x == 1) = true) :
    Meets (Builtin.«tuple.__mul__» ⟨[.ref l, .int x u], []⟩) (fun _ R s => s.heap.get? l = some { cls := .type "tuple", dict := dd, data := .seq items n, slots := sl } ∧ R (.ok (.ret (Value.ref l))) s) :=
  .of_wp fun prog w A R s h => by
    obtain ⟨hp, g, d, tk, os⟩ := s
    obtain ⟨hl, h⟩ := h
    have f1 := AutoSeq1.idx_int
    wp_walk using wpAny_loadPart' hl
    repeat (first
      | (refine wpAny_ite_false (decide_eq_false (by rw [c0]; exact Bool.false_ne_true)) ?_; wp_walk using wpAny_loadPart' hl)
      | (refine wpAny_ite_true (decide_eq_true (by rw [c1])) ?_; wp_walk using wpAny_loadPart' hl))
    exact ⟨_, rfl, h⟩
theorem tuple_mul0 (l : Addr) (items : Array Value) (n : Nat) (dd : Option Addr) (sl : Array (Option Value)) (x : Int) (u : Tok) (c0 : (decide (x < -(2 ^ 63)) || decide (x ≥ 2 ^ 63)) = false) (c1 : (items.isEmpty || x == 1) = false) (c2 : (decide (x ≤ 0) || items.isEmpty) = true) :
    Meets (Builtin.«tuple.__mul__» ⟨[.ref l, .int x u], []⟩) (fun _ R s => s.heap.get? l = some { cls := .type "tuple", dict := dd, data := .seq items n, slots := sl } ∧ R (.ok (.ret (Value.ref s.heap.objs.size))) { s with heap := s.heap.push { cls := Value.type "tuple", data := Data.seq #[] } }) :=
  .of_wp fun prog w A R s h => by
    obtain ⟨hp, g, d, tk, os⟩ := s
    obtain ⟨hl, h⟩ := h
    have f1 := AutoSeq1.idx_int
    wp_walk using wpAny_loadPart' hl
    repeat (first
      | (refine wpAny_ite_false (decide_eq_false (by rw [c0]; exact Bool.false_ne_true)) ?_; wp_walk using wpAny_loadPart' hl)
      | (refine wpAny_ite_false (decide_eq_false (by rw [c1]; exact Bool.false_ne_true)) ?_; wp_walk using wpAny_loadPart' hl)
      | (refine wpAny_ite_true (decide_eq_true (by rw [c2])) ?_; wp_walk using wpAny_loadPart' hl))
    exact ⟨_, rfl, h⟩
/-- a tuple * a number -/
def rRepT2 (K : PySem.W.Frag) : R2 := fun x y H Q => ∃ l k xs, x = .ref l ∧ y = .int k ∧ SqT K H l xs ∧ -1000000 ≤ k ∧ ((k ≤ 1000000 ∧ (k = 1 ∨ xs = []) ∧ Q (.ref l) H) ∨ (k ≤ 0 ∧ xs ≠ [] ∧ ∀ p, H p = none → Q (.ref p) (upd H p (.tup []))))
theorem op_repT2 : OpR X (binaryOp .Mult) (rRepT2 X.K) := by
  intro pins s σ H x y v u Q I rx ry h
  obtain ⟨l, k, xs, rfl, rfl, hT, h1, h2⟩ := h
  cases rx
  obtain ⟨t, rfl⟩ := ry
  obtain ⟨its, r, ⟨⟨cls, dd, data, sl⟩, ho, hc, n, hd⟩, hs⟩ := I.tuple hT
  simp only at hc hd
  subst hc hd
  have hle : its.length = xs.length := r.length.symm
  have c0 : (decide (k < -(2 ^ 63)) || decide (k ≥ 2 ^ 63)) = false := by
    rcases h2 with h2 | h2
    · rw [decide_eq_false (by omega), decide_eq_false (by omega)] <;> rfl
    · rw [decide_eq_false (by omega), decide_eq_false (by omega)] <;> rfl
  rcases h2 with ⟨_, h3, q⟩ | ⟨h3, h4, q⟩
  · have c1 : (its.toArray.isEmpty || k == 1) = true := by
      rcases h3 with rfl | rfl
      · simp
      · have : its = [] := List.eq_nil_of_length_eq_zero hle
        subst this
        rfl
    refine wpAny_binaryOp_repeat_ref (T := "tuple") (U := "int") (by decide) ⟨_, ho, rfl⟩ (fun s' => typeIs_int s' k t) noFill_tuple_mul F.fills_int_mul F.slot_int_rmul repeat_tuple F.slot_int_index.lookup
      (call_meets F.slot_int_rmul (typeIs_int s k t) F.entry_int_rmul (F.args_int_rmul_2 _ _) (int_rmul_tuple k t l its.toArray n dd sl)
        ⟨ho, rfl, ⟨_, ho, rfl⟩, call_meets F.slot_tuple_mul ⟨_, ho, rfl⟩ F.entry_tuple_mul (F.args_tuple_mul_2 _ _) (tuple_mulS l its.toArray n dd sl k t c0 c1) ⟨ho, ?_⟩⟩)
    exact ⟨.ref l, H, I, rfl, q⟩
  · have hn : its ≠ [] := fun e => h4 (by
      rw [e] at hle
      exact List.eq_nil_of_length_eq_zero hle.symm)
    have hi : its.toArray.isEmpty = false := by
      cases its with
      | nil => exact absurd rfl hn
      | cons a b => rfl
    have c1 : (its.toArray.isEmpty || k == 1) = false := by
      rw [hi, Bool.false_or]
      exact beq_eq_false_iff_ne.mpr (by omega)
    have c2 : (decide (k ≤ 0) || its.toArray.isEmpty) = true := by
      rw [hi, Bool.or_false]
      exact decide_eq_true (by omega)
    refine wpAny_binaryOp_repeat_ref (T := "tuple") (U := "int") (by decide) ⟨_, ho, rfl⟩ (fun s' => typeIs_int s' k t) noFill_tuple_mul F.fills_int_mul F.slot_int_rmul repeat_tuple F.slot_int_index.lookup
      (call_meets F.slot_int_rmul (typeIs_int s k t) F.entry_int_rmul (F.args_int_rmul_2 _ _) (int_rmul_tuple k t l its.toArray n dd sl)
        ⟨ho, rfl, ⟨_, ho, rfl⟩, call_meets F.slot_tuple_mul ⟨_, ho, rfl⟩ F.entry_tuple_mul (F.args_tuple_mul_2 _ _) (tuple_mul0 l its.toArray n dd sl k t c0 c1 c2) ⟨ho, ?_⟩⟩)
    refine ⟨.ref s.heap.objs.size, _, I.laid (t' := s.toks) (o := .tup []) (fun b ob q => Heap.get?_push_of_some _ q) (Nat.le_refl _) ?_, rfl, q _ (I.hok.fresh (Nat.le_refl _))⟩
    exact ⟨Nat.zero_le _, _, .nil, IsTup.new _ _⟩
abbrev rMulAll (K : PySem.W.Frag) : R2 := fun x y H Q => (rI CMulW (fun i j => .int (i * j)) x y H Q ∨ rI CMul (fun i j => .int (i * j)) x y H Q) ∨ (rRepS x y H Q ∨ (rRepT K x y H Q ∨ rRepT2 K x y H Q))
theorem op_mulAll : OpR X (binaryOp .Mult) (rMulAll X.K) := (op_mulW.or op_mul).or (op_repS.or (op_repT.or op_repT2))
theorem repVs_rep {K : PySem.W.Frag} {μ : Mu} {N : Nat} {H : Hp} {ds : List D} {vs : List V} (h : RepVs K μ N H ds vs) : ∀ n : Nat, RepVs K μ N H (List.replicate n ds).flatten (List.replicate n vs).flatten
  | 0 => by simp only [List.replicate_zero, List.flatten_nil, RepVs]
  | n + 1 => by
    rw [List.replicate_succ, List.replicate_succ, List.flatten_cons, List.flatten_cons]
    exact h.append (repVs_rep h n)
theorem gives_mul {K : PySem.W.Frag} : Gives K (binF .mul) (rMulAll K) := by
  intro μ S H x y d v w r hx hy hf Q q
  simp only [binF] at hf
  split at hf
  · split at hf
    · rename_i i j hm
      cases hf
      simp only [RepV] at hx hy
      subst hx hy
      have hQ := q (.int (i * j)) _ μ r (Ext.refl r) (by simp only [RepV])
      simp only [mulOk, decide_eq_true_eq] at hm
      rcases hm with hm | hm
      · exact .inl (.inr ⟨_, _, rfl, rfl, hm, hQ⟩)
      · exact .inl (.inl ⟨_, _, rfl, rfl, wide_mul hm.1 hm.2 (by decide) (by decide) (by decide), hQ⟩)
    · cases hf
  · split at hf
    · rename_i hm
      cases hf
      simp only [RepV] at hx hy
      subst hx hy
      exact .inr (.inl ⟨_, _, rfl, rfl, hm.1, hm.2, q _ _ μ r (Ext.refl r) (by simp only [RepV])⟩)
    · cases hf
  · split at hf
    · rename_i xs k hm
      cases hf
      have hx0 := hx
      simp only [RepV] at hx hy
      subst hy
      obtain ⟨a, vs, rfl, h1, h2⟩ := hx
      by_cases c : k = 1 ∨ xs = []
      · have e : (List.replicate k.toNat xs).flatten = xs := by
          rcases c with rfl | rfl
          · simp
          · simp
        rw [e] at q
        refine .inr (.inr (.inr ⟨a, k, vs, rfl, rfl, h1.sq, hm.1.1, .inl ⟨by omega, ?_, q _ _ μ r (Ext.refl r) hx0⟩⟩))
        rcases c with c | rfl
        · exact .inl c
        · right; simpa only [RepVs] using h2
      · have hne : vs ≠ [] := fun e => c (.inr (List.eq_nil_of_length_eq_zero (by rw [h2.length, e]; rfl)))
        by_cases k0 : k ≤ 0
        · refine .inr (.inr (.inr ⟨a, k, vs, rfl, rfl, h1.sq, hm.1.1, .inr ⟨k0, hne, fun p hp => ?_⟩⟩))
          rw [show k.toNat = 0 by omega, List.replicate_zero, List.flatten_nil] at q
          exact Fin1.tup q r (Ext.refl r) (by simp only [RepVs]) p hp
        · refine .inr (.inr (.inl ⟨a, k, vs, rfl, rfl, h1.sq, hne, by omega, hm.1.2, by rw [← h2.length]; exact hm.2, fun p hp => ?_⟩))
          exact Fin1.tup q r (Ext.refl r) (repVs_rep h2 k.toNat) p hp
    · cases hf
  · cases hf
theorem gives_fdiv {K : PySem.W.Frag} : Gives K (binF .fdiv) (rI CDivW fun i j => .int (i / j)) := by
  intro μ S H x y d v w r hx hy hf Q q
  simp only [binF] at hf
  split at hf
  · split at hf
    · rename_i i j hm
      cases hf
      simp only [RepV] at hx hy
      subst hx hy
      simp only [divOk, decide_eq_true_eq] at hm
      refine ⟨_, _, rfl, rfl, wide_div (b := 200) hm.1 ?_ (by decide) (by decide), q _ _ μ r (Ext.refl r) (by simp only [RepV])⟩
      have h1 : ((j.natAbs : Nat) : Int) < ((2 ^ 200 : Nat) : Int) := by
        rw [Int.natAbs_of_nonneg (Int.le_of_lt hm.1), Int.natCast_pow]; exact hm.2
      exact Int.ofNat_lt.mp h1
    · cases hf
  · cases hf
theorem gives_mod {K : PySem.W.Frag} : Gives K (binF .mod) (rI (fun _ j => 0 < j) fun i j => .int (i % j)) := by
  intro μ S H x y d v w r hx hy hf Q q
  simp only [binF] at hf
  split at hf
  · split at hf
    · rename_i hm
      cases hf
      simp only [RepV] at hx hy
      subst hx hy
      exact ⟨_, _, rfl, rfl, hm, q _ _ μ r (Ext.refl r) (by simp only [RepV])⟩
    · cases hf
  · cases hf
theorem gives_pow {K : PySem.W.Frag} : Gives K (binF .pow) (rI CPow fun i j => .int (i ^ j.toNat)) := by
  intro μ S H x y d v w r hx hy hf Q q
  simp only [binF] at hf
  split at hf
  · split at hf
    · rename_i hm
      cases hf
      simp only [RepV] at hx hy
      subst hx hy
      exact ⟨_, _, rfl, rfl, hm, q _ _ μ r (Ext.refl r) (by simp only [RepV])⟩
    · cases hf
  · cases hf
def opB : BOp → Operator
  | .add => .Add | .sub => .Sub | .mul => .Mult | .fdiv => .FloorDiv | .mod => .Mod | .pow => .Pow
theorem se_binop {op : BOp} (ha : SE X fa a) (hb : SE X fb b) :
    SE X (fun env S => (fa env S).bind fun x => (fb env x.2).bind fun y => (binF op y.2 x.1 y.1).bind fun d => .ok (d, y.2)) (.BinOp a (opB op) b pos) := by
  cases op with
  | add => exact se_bin op_addAll gives_addI ha hb
  | sub => exact se_bin op_sub gives_sub ha hb
  | mul => exact se_bin op_mulAll gives_mul ha hb
  | fdiv => exact se_bin op_fdivW gives_fdiv ha hb
  | mod => exact se_bin op_mod gives_mod ha hb
  | pow => exact se_bin op_pow gives_pow ha hb
theorem addF_lst {S : St'} {x y : D} {ds : List D} (h : addF S x y = .ok (.lst ds)) : ∃ xs ys, lstOf S x = some xs ∧ lstOf S y = some ys ∧ xs.length + ys.length ≤ lim ∧ ds = xs ++ ys := by
  unfold addF at h
  split at h
  · cases h
  · split at h <;> cases h
  · split at h <;> cases h
  · split at h
    · rename_i e1 e2
      split at h
      · rename_i hl
        cases h
        exact ⟨_, _, e1, e2, hl, rfl⟩
      · cases h
    · cases h
/-- a list of lists put together, as a new one -/
theorem sf_cat (ha : SE X fa a) (hb : SE X fb b) :
    SF X (fun env S => (fa env S).bind fun x => (fb env x.2).bind fun y => (binF .add y.2 x.1 y.1).bind fun d => .ok (d, y.2)) (.BinOp a .Add b pos) := by
  obtain ⟨ta, tb, h1, h2, h3⟩ := two ha hb
  refine ⟨_, pe_op op_catL h1 h2, fun σ H μ env S d S' rl re hf Q q => ?_⟩
  obtain ⟨⟨x, S1⟩, e1, hf⟩ := R.bind_eq_ok hf
  obtain ⟨⟨y, S2⟩, e2, hf⟩ := R.bind_eq_ok hf
  obtain ⟨d', e3, hf⟩ := R.bind_eq_ok hf
  cases hf
  obtain ⟨xs, ys, l1, l2, hl, rfl⟩ := addF_lst e3
  refine h3 σ H μ env S x S1 y _ rl re e1 e2 _ fun v w H' μ' r' x' rv rw' => ?_
  exact gives_cat (rd_lstOf r' rv l1) (rd_lstOf r' rw' l2) hl r' fun p vs H'' μ'' a1 a2 a3 a4 => q p vs H'' μ'' a1 (x'.trans a2) a3 a4
end
end TK

/-! TKv: data of any depth: order, in, sorted, min, max. -/
namespace TK
open PySem PySem.Spec PyProof.Rows L2
/-! ### rules of the hand layer -/
section
variable {X : Cx}
def rOrdD (K : PySem.W.Frag) (f : PyData → PyData → Bool) : R2 := fun x y H Q => ∃ d e, Dp K H x d ∧ Dp K H y e ∧ PySem.W.alike d e = true ∧ d ≠ .none ∧ d.depth ≤ 60 ∧ Q (.bl (f d e)) H
theorem ord_room {d e : PyData} {n : Nat} (h : d.depth ≤ 60) (hu : n + 64 < cLine) : n + min d.depth e.depth < cLine := by
  have := Nat.min_le_left d.depth e.depth
  omega
theorem op_ltD (hu : X.A.units + 64 < cLine) : OpR X (compareOp .Lt) (rOrdD X.K fun d e => PySem.W.dataLt d e) := by
  intro pins s σ H x y v u Q I rx ry h
  obtain ⟨d, e, h1, h2, h3, h4, h5, q⟩ := h
  obtain ⟨as, r1⟩ := Dp.reads I d x v h1 rx
  obtain ⟨bs, r2⟩ := Dp.reads I e y u h2 ry
  exact PySem.W.lt_data r1 r2 h3 h4 (ord_room h5 hu) ⟨.bl _, H, I, rfl, q⟩
theorem op_gtD (hu : X.A.units + 64 < cLine) : OpR X (compareOp .Gt) (rOrdD X.K fun d e => PySem.W.dataLt e d) := by
  intro pins s σ H x y v u Q I rx ry h
  obtain ⟨d, e, h1, h2, h3, h4, h5, q⟩ := h
  obtain ⟨as, r1⟩ := Dp.reads I d x v h1 rx
  obtain ⟨bs, r2⟩ := Dp.reads I e y u h2 ry
  exact PySem.W.gt_data r1 r2 h3 h4 (ord_room h5 hu) ⟨.bl _, H, I, rfl, q⟩
theorem op_leD (hu : X.A.units + 64 < cLine) : OpR X (compareOp .LtE) (rOrdD X.K fun d e => !PySem.W.dataLt e d) := by
  intro pins s σ H x y v u Q I rx ry h
  obtain ⟨d, e, h1, h2, h3, h4, h5, q⟩ := h
  obtain ⟨as, r1⟩ := Dp.reads I d x v h1 rx
  obtain ⟨bs, r2⟩ := Dp.reads I e y u h2 ry
  exact PySem.W.le_data r1 r2 h3 h4 (ord_room h5 hu) ⟨.bl _, H, I, rfl, q⟩
theorem op_geD (hu : X.A.units + 64 < cLine) : OpR X (compareOp .GtE) (rOrdD X.K fun d e => !PySem.W.dataLt d e) := by
  intro pins s σ H x y v u Q I rx ry h
  obtain ⟨d, e, h1, h2, h3, h4, h5, q⟩ := h
  obtain ⟨as, r1⟩ := Dp.reads I d x v h1 rx
  obtain ⟨bs, r2⟩ := Dp.reads I e y u h2 ry
  exact PySem.W.ge_data r1 r2 h3 h4 (ord_room h5 hu) ⟨.bl _, H, I, rfl, q⟩
def rInT (K : PySem.W.Frag) (g : Bool → Bool) : R2 := fun x y H Q => ∃ d ds, Dp K H x d ∧ (Dp K H y (.list ds) ∨ Dp K H y (.tuple ds)) ∧ PyData.plain d = true ∧ PyData.plainAll ds = true ∧ d.depth ≤ 60 ∧ Q (.bl (g (ds.any fun z => PyData.eqv z d))) H
theorem in_room {d : PyData} {m n : Nat} (h : d.depth ≤ 60) (hu : n + 64 < cLine) : n + 1 + min m d.depth < cLine := by
  have := Nat.min_le_right m d.depth
  omega
theorem op_inT (hu : X.A.units + 64 < cLine) : OpR X (compareOp .In) (rInT X.K fun b => b) := by
  intro pins s σ H x y v u Q I rx ry h
  obtain ⟨d, ds, h1, h2, h3, h4, h5, q⟩ := h
  obtain ⟨as, r1⟩ := Dp.reads I d x v h1 rx
  rcases h2 with h2 | h2
  · obtain ⟨bs, r2⟩ := Dp.reads I _ y u h2 ry
    exact SeqAt.in_list_data r2 r1 h4 h3 (in_room h5 hu) ⟨.bl _, H, I, rfl, q⟩
  · obtain ⟨bs, r2⟩ := Dp.reads I _ y u h2 ry
    exact SeqAt.in_tuple_data r2 r1 h4 h3 (in_room h5 hu) ⟨.bl _, H, I, rfl, q⟩
theorem op_notInT (hu : X.A.units + 64 < cLine) : OpR X (compareOp .NotIn) (rInT X.K fun b => !b) := by
  intro pins s σ H x y v u Q I rx ry h
  obtain ⟨d, ds, h1, h2, h3, h4, h5, q⟩ := h
  obtain ⟨as, r1⟩ := Dp.reads I d x v h1 rx
  rcases h2 with h2 | h2
  · obtain ⟨bs, r2⟩ := Dp.reads I _ y u h2 ry
    exact SeqAt.notIn_list_data r2 r1 h4 h3 (in_room h5 hu) ⟨.bl _, H, I, rfl, q⟩
  · obtain ⟨bs, r2⟩ := Dp.reads I _ y u h2 ry
    exact SeqAt.notIn_tuple_data r2 r1 h4 h3 (in_room h5 hu) ⟨.bl _, H, I, rfl, q⟩
def rEqP (K : PySem.W.Frag) (g : Bool → Bool) : R2 := fun x y H Q => ∃ d e, Dp K H x d ∧ Dp K H y e ∧ PyData.plain d = true ∧ PyData.plain e = true ∧ d.depth ≤ 60 ∧ Q (.bl (g (PyData.eqv d e))) H
theorem op_eqP (hu : X.A.units + 64 < cLine) : OpR X (compareOp .Eq) (rEqP X.K fun b => b) := by
  intro pins s σ H x y v u Q I rx ry h
  obtain ⟨d, e, h1, h2, h3, h4, h5, q⟩ := h
  obtain ⟨as, r1⟩ := Dp.reads I d x v h1 rx
  obtain ⟨bs, r2⟩ := Dp.reads I e y u h2 ry
  exact SeqAt.eq_plain r1 r2 h3 h4 (ord_room h5 hu) ⟨.bl _, H, I, rfl, q⟩
theorem op_neP (hu : X.A.units + 64 < cLine) : OpR X (compareOp .NotEq) (rEqP X.K fun b => !b) := by
  intro pins s σ H x y v u Q I rx ry h
  obtain ⟨d, e, h1, h2, h3, h4, h5, q⟩ := h
  obtain ⟨as, r1⟩ := Dp.reads I d x v h1 rx
  obtain ⟨bs, r2⟩ := Dp.reads I e y u h2 ry
  exact SeqAt.ne_plain r1 r2 h3 h4 (ord_room h5 hu) ⟨.bl _, H, I, rfl, q⟩
/-! sorted -/
section
open PySem.W
variable {prog : Program} {w : World} {A : Around} {E : Value → Shared → Prop} {s : Shared}
theorem collect_tup {l : Addr} {vs : List Value} {Q : List Value → Shared → Prop} (hl : s.heap.IsTuple l vs.toArray)
    (h : Q vs { s with heap := (s.heap.push (seqObj "list" #[] 0)).update s.heap.objs.size (Obj.mapSeq (· ++ vs.toArray)) }) (hsz : vs.length ≤ sizeLine) :
    wpAny (model prog w) A (collect (.ref l)) Q E s := by
  obtain ⟨o, ho, hc, n, hd⟩ := id hl
  unfold collect
  refine wpAny_bind (wpAny_runValue (codeAny_builtin entry_proto_collect' ?_))
  show wpAny _ _ (do again (.builtin "list.__iadd__" ⟨[← newList [], .ref l], []⟩)) _ _ s
  refine wpAny_bind (wpAny_newList (wpAny_pure ⟨Code.quiet_builtin _ (by decide +kernel), codeAny_builtin entry_list_iadd' ?_⟩))
  show wpAny _ _ (Builtin.List.listExtendWith (.ref s.heap.objs.size) (.ref l) (.ref s.heap.objs.size)) _ _ { s with heap := s.heap.push (seqObj "list" #[] 0) }
  unfold Builtin.List.listExtendWith
  have ho' : (s.heap.push (seqObj "list" #[] 0)).get? l = some o := Heap.get?_push_of_some _ ho
  refine wpAny_bind (wpAny_typeOf (T := "tuple") ⟨o, ho', hc⟩ ?_)
  have ht : (Value.type "tuple" == Value.type "tuple") = true := by rfl
  rw [if_pos (by rw [ht]; simp)]
  refine wpAny_bind (listItems_at ho' hd ?_)
  refine wpAny_bind (listItems_at (xs := #[]) (n := 0) (Heap.get?_push_size _ rfl) rfl ?_)
  rw [if_neg (by simp)]
  refine wpAny_bind (listUpdate_at (xs := #[]) (n := 0) (Heap.get?_push_size _ rfl) rfl ?_ (Nat.zero_le _) (by show (#[] ++ vs.toArray).size ≤ sizeLine + 1; simp only [Array.size_append, List.size_toArray, List.length_nil]; omega))
  refine wpAny_pure ?_
  show wpAny (model prog w) A (do
      let o ← load s.heap.objs.size
      match o.data with
      | .seq xs _ => pure xs.toList
      | _ => unsupported "internal:collect") Q E { s with heap := (s.heap.push (seqObj "list" #[] 0)).update s.heap.objs.size (Obj.mapSeq (· ++ vs.toArray)) }
  refine wpAny_bind (wpAny_load (get?_update_seq (Heap.get?_push_size _ rfl) _) ?_)
  show wpAny _ _ (pure ((#[] : Array Value) ++ vs.toArray).toList) Q E _
  rw [show ((#[] : Array Value) ++ vs.toArray).toList = vs by simp]
  exact wpAny_pure h
theorem sorted_of_sortT {l : Addr} {vs : List Value} {kw : List (Str × Value)} {Q : Value → Shared → Prop} (hl : s.heap.IsTuple l vs.toArray) (hL : vs.length ≤ sizeLine) (ha1 : argsOk "sorted" ⟨[.ref l], kw⟩) (ha2 : ∀ x, argsOk "list.sort" ⟨[.ref x], kw⟩)
    (body : ∀ E' : Value → Shared → Prop, wpAny (model prog w) A.in1.in1 (Builtin.«list.sort» ⟨[.ref (s.heap.objs.size + 1)], kw⟩) (fun f s' => f = .done (.ret .none) ∧ Q (.ref (s.heap.objs.size + 1)) s') E' { s with heap := copyHeap s.heap vs }) :
    wpAny (model prog w) A (call (.builtin "sorted") [.ref l] kw) Q E s := by
  refine call_function_entry_kw kind_sorted plain_sorted entry_sorted ha1 ?_
  unfold Builtin.«sorted»
  refine wpAny_bind (m := checkCount "sorted" 1 1 _) (wpAny_pure ?_)
  refine wpAny_bind (collect_tup hl ?_ hL)
  refine wpAny_bind (wpAny_newList ?_ hL)
  have hsz : ((s.heap.push (seqObj "list" #[] 0)).update s.heap.objs.size (Obj.mapSeq (· ++ vs.toArray))).objs.size = s.heap.objs.size + 1 := by
    rw [Heap.size_update, size_push']
  show wpAny _ _ _ _ _ { s with heap := copyHeap s.heap vs }
  rw [hsz]
  refine wpAny_bind (wpAny_holding (wpAny_call_entry_kw slot_list_sort ⟨_, copyHeap_at s.heap vs, rfl⟩ entry_list_sort ?body (ha2 _)))
  case body =>
    show wpAny (model prog w) A.in1.in1 (Builtin.«list.sort» ⟨[.ref (s.heap.objs.size + 1)], kw⟩) _ _ _
    refine wpAny_mono (body _) (fun f s' hf => ?_) fun _ _ e => e
    obtain ⟨rfl, hq⟩ := hf
    exact ⟨_, rfl, wpAny_pure ⟨_, rfl, hq⟩⟩
theorem sorted_dataT {β : Type} {vs : List Value} {bs : List β} {enc : β → PyData} {R : Value → β → Prop} {l : Addr} {Q : Value → Shared → Prop} (hl : s.heap.IsTuple l vs.toArray) (e : EachIs R vs bs) (er : EachIs (fun v b => ∃ as, Reads s.heap v (enc b) as) vs bs) (hal : AllAlike (bs.map enc)) (hk : Sortable (bs.map enc)) (hL : bs.length ≤ sizeLine)
    (hu : ∀ b, b ∈ bs → A.units + 2 + (enc b).depth < cLine) (h : ∀ out, out.length = bs.length → EachIs R out (bs.mergeSort (dataLe false enc)) → Q (.ref (s.heap.objs.size + 1)) { s with heap := sortedAll s.heap vs (List.toArray out) }) :
    wpAny (model prog w) A (call (.builtin "sorted") [.ref l]) Q E s := by
  have er' : EachIs (fun v b => ∃ as, Reads (sortingHeap (copyHeap s.heap vs) (s.heap.objs.size + 1) vs) v (enc b) as) vs bs := er.mono fun _ _ ⟨as, r⟩ => ⟨as, PyProof.Rows.Reads.keeps (fun _ _ => sorting_copy_old) r⟩
  have S : SortsAt prog w A.in1.in1 _ _ vs := SortsAt.data (s := { s with heap := sortingHeap (copyHeap s.heap vs) (s.heap.objs.size + 1) vs }) (each_map (R := fun v d => ∃ as, Reads (sortingHeap (copyHeap s.heap vs) (s.heap.objs.size + 1) vs) v d as) enc er') hal hk (bound_map hu)
  have hL' : vs.length ≤ sizeLine := by rw [e.length]; exact hL
  exact sorted_of_sortT hl hL' (args_sorted1 _) (fun _ => args_list_sort _) fun _ => list_sort_vals (s := { s with heap := copyHeap s.heap vs }) (copyHeap_at s.heap vs) S hL' ⟨rfl, h _ (by rw [sortVals_length false rfl]; exact e.length) (sortVals_data false e er' hal)⟩
end
def rSortedD (K : PySem.W.Frag) : List V → Hp → VK → Prop := fun vs H Q => ∃ (a : Addr) (ps : List (V × PyData)), vs = [V.ref a] ∧ (SqL K H a (ps.map (·.1)) ∨ SqT K H a (ps.map (·.1))) ∧ (∀ p ∈ ps, Dp K H p.1 p.2) ∧ PySem.W.AllAlike (ps.map (·.2)) ∧ PySem.W.Sortable (ps.map (·.2)) ∧ (∀ p ∈ ps, p.2.depth ≤ 50) ∧
  ∀ q, H q = none → Q (.ref q) (upd H q (.lst ((ps.mergeSort (PySem.W.dataLe false (fun p : V × PyData => p.2))).map (·.1))))
theorem each_of_vals {β : Type} (f : β → V) : ∀ {bs : List β} {us : List Value}, Vals (bs.map f) us → PySem.W.EachIs (fun u b => RelV (f b) u) us bs
  | [], _, h => by cases h; exact .nil
  | b :: bs, _, h => by
    cases h with
    | cons h1 h2 => exact .cons h1 (each_of_vals f h2)
theorem vals_of_each {β : Type} (f : β → V) : ∀ {us : List Value} {bs : List β}, PySem.W.EachIs (fun u b => RelV (f b) u) us bs → Vals (bs.map f) us
  | _, _, .nil => .nil
  | _, _, .cons h1 h2 => .cons h1 (vals_of_each f h2)
theorem each_reads {pins : List (Addr × Obj)} {s : Shared} {σ : L2.St} {H : Hp} (I : Inv X pins σ H s) : ∀ {ps : List (V × PyData)} {us : List Value}, (∀ p ∈ ps, Dp X.K H p.1 p.2) → Vals (ps.map (·.1)) us → PySem.W.EachIs (fun v b => ∃ as, Reads s.heap v b.2 as) us ps
  | [], _, _, h => by cases h; exact .nil
  | p :: ps, _, hd, h => by
    cases h with
    | cons h1 h2 => exact .cons (Dp.reads I _ _ _ (hd p List.mem_cons_self) h1) (each_reads I (fun q hq => hd q (List.mem_cons_of_mem _ hq)) h2)
theorem cr_sortedD (hu : X.A.units + 64 < cLine) : CallR X (.builtin "sorted") (rSortedD X.K) := by
  intro pins s σ H vs us Q I r h
  obtain ⟨a, ps, rfl, hs, hd, hal, hk, hdp, q⟩ := h
  have fin : ∀ (its : List Value), Vals (ps.map (·.1)) its → ps.length ≤ sizeLine → ∀ out : List Value, PySem.W.EachIs (fun u (p : V × PyData) => RelV p.1 u) out (ps.mergeSort (PySem.W.dataLe false (fun p : V × PyData => p.2))) → EP X pins σ Q (.ref (s.heap.objs.size + 1)) { s with heap := sortedAll s.heap its (List.toArray out) } := fun its rv hz' out eo => by
    obtain ⟨ep, he'⟩ := PyProof.Rows.sortedAll_at s.heap its out.toArray
    have hlen : ((ps.mergeSort (PySem.W.dataLe false (fun p : V × PyData => p.2))).map (·.1)).length ≤ sizeLine := by
      rw [List.length_map, List.length_mergeSort]; exact hz'
    exact ⟨.ref _, upd H (s.heap.objs.size + 1) (.lst ((ps.mergeSort (PySem.W.dataLe false (fun p : V × PyData => p.2))).map (·.1))), I.laid (t' := s.toks) (fun _ _ => PyProof.Rows.sortedAll_old) (Nat.le_succ _) ⟨hlen, out, ep, vals_of_each (fun p : V × PyData => p.1) eo, he'⟩, rfl, q _ (I.hok.fresh (Nat.le_succ _))⟩
  rw [Vals.ref1 r]
  rcases hs with hs | hs
  · obtain ⟨its, rv, hl, hz⟩ := I.list hs
    have hz' : ps.length ≤ sizeLine := by rw [List.length_map] at hz; exact hz
    exact PySem.W.sorted_data (R := fun u p => RelV p.1 u) (enc := Prod.snd) (bs := ps) hl.isList (each_of_vals (fun p : V × PyData => p.1) rv) (each_reads I hd rv) hal hk hz' (fun b hb => by have := hdp b hb; omega) fun out ho eo => fin its rv hz' out eo
  · obtain ⟨its, rv, hl, hz⟩ := I.tuple hs
    have hz' : ps.length ≤ sizeLine := by rw [List.length_map] at hz; exact hz
    exact sorted_dataT (R := fun u p => RelV p.1 u) (enc := Prod.snd) (bs := ps) hl (each_of_vals (fun p : V × PyData => p.1) rv) (each_reads I hd rv) hal hk hz' (fun b hb => by have := hdp b hb; omega) fun out ho eo => fin its rv hz' out eo
/-! min, max -/
theorem dpAll_get {K : PySem.W.Frag} {H : Hp} : ∀ {vs : List V} {ds : List PyData} {i : Nat} {v : V}, DpAll K H vs ds → vs[i]? = some v → ∃ d, ds[i]? = some d ∧ Dp K H v d
  | _, _, _, _, .nil, h => by simp at h
  | _, _, 0, v, .cons h1 h2, h => by
    have e := Option.some.inj (show some _ = some v from h)
    subst e
    exact ⟨_, rfl, h1⟩
  | _, _, i + 1, v, .cons h1 h2, h => dpAll_get (i := i) h2 (by simpa using h)
theorem vals_get : ∀ {vs : List V} {us : List Value} {i : Nat} {u : Value}, Vals vs us → us[i]? = some u → ∃ v, vs[i]? = some v ∧ RelV v u
  | _, _, _, _, .nil, h => by simp at h
  | _, _, 0, v, .cons h1 h2, h => by
    have e := Option.some.inj (show some _ = some v from h)
    subst e
    exact ⟨_, rfl, h1⟩
  | _, _, i + 1, v, .cons h1 h2, h => vals_get (i := i) h2 (by simpa using h)
def rBestD (K : PySem.W.Frag) (best : PyData → List PyData → PyData) : List V → Hp → VK → Prop := fun vs H Q => ∃ (a : Addr) (xs : List V) (d : PyData) (ds : List PyData), vs = [V.ref a] ∧ SqL K H a xs ∧ DpAll K H xs (d :: ds) ∧ PySem.W.AlikeAll (d :: ds) ∧ PyData.depthAll (d :: ds) ≤ 60 ∧
  ∀ (i : Nat) (v : V), xs[i]? = some v → (d :: ds)[i]? = some (best d ds) → Q v H
theorem best_mem {g : PyData → PyData → Bool} : ∀ (ds : List PyData) (d : PyData), ds.foldl (fun a y => if g a y = true then y else a) d ∈ d :: ds
  | [], d => List.mem_cons_self
  | e :: ds, d => by
    rw [List.foldl_cons]
    split
    · rcases List.mem_cons.mp (best_mem ds e) with h | h
      · rw [h]; exact List.mem_cons_of_mem _ List.mem_cons_self
      · exact List.mem_cons_of_mem _ (List.mem_cons_of_mem _ h)
    · rcases List.mem_cons.mp (best_mem ds d) with h | h
      · rw [h]; exact List.mem_cons_self
      · exact List.mem_cons_of_mem _ (List.mem_cons_of_mem _ h)
theorem cr_minD (hc : X.calm = true) (hu : X.A.units + 64 < cLine) : CallR X (.builtin "min") (rBestD X.K PySem.W.minD) := by
  intro pins s σ H vs us Q I r h
  obtain ⟨a, xs, d, ds, rfl, hs, hd, hal, hdp, q⟩ := h
  obtain ⟨its, rv, hl, hz⟩ := I.list hs
  rw [Vals.ref1 r]
  obtain ⟨as, hr⟩ := Dp.readsAll I _ _ _ hd rv
  refine PySem.W.min_list_data (I.ok.hd hc) (vs := its.toArray) hl.isList (by simpa using hr) hal (by omega) fun i u h' tk bs hi hR hk => ?_
  have hi' : its[i]? = some u := by simpa using hi
  obtain ⟨v, hv, rel⟩ := vals_get rv hi'
  obtain ⟨e, he, hde⟩ := dpAll_get hd hv
  obtain ⟨cs, re⟩ := Dp.reads I e v u hde rel
  have hm : PySem.W.minD d ds ∈ d :: ds := best_mem (g := fun a y => PySem.W.dataLt y a) ds d
  have : e = PySem.W.minD d ds := PySem.W.alike_unique e _ u _ _ (hal.1 _ (List.mem_of_getElem? he) _ hm) (PyProof.Rows.Reads.keeps hk re) hR
  subst this
  exact ⟨v, H, I.kept hk, rel, q i v hv he⟩
theorem cr_maxD (hc : X.calm = true) (hu : X.A.units + 64 < cLine) : CallR X (.builtin "max") (rBestD X.K PySem.W.maxD) := by
  intro pins s σ H vs us Q I r h
  obtain ⟨a, xs, d, ds, rfl, hs, hd, hal, hdp, q⟩ := h
  obtain ⟨its, rv, hl, hz⟩ := I.list hs
  rw [Vals.ref1 r]
  obtain ⟨as, hr⟩ := Dp.readsAll I _ _ _ hd rv
  refine PySem.W.max_list_data (I.ok.hd hc) (vs := its.toArray) hl.isList (by simpa using hr) hal (by omega) fun i u h' tk bs hi hR hk => ?_
  have hi' : its[i]? = some u := by simpa using hi
  obtain ⟨v, hv, rel⟩ := vals_get rv hi'
  obtain ⟨e, he, hde⟩ := dpAll_get hd hv
  obtain ⟨cs, re⟩ := Dp.reads I e v u hde rel
  have hm : PySem.W.maxD d ds ∈ d :: ds := best_mem (g := fun a y => PySem.W.dataLt a y) ds d
  have : e = PySem.W.maxD d ds := PySem.W.alike_unique e _ u _ _ (hal.1 _ (List.mem_of_getElem? he) _ hm) (PyProof.Rows.Reads.keeps hk re) hR
  subst this
  exact ⟨v, H, I.kept hk, rel, q i v hv he⟩
end
/-! ### the small tongue's data -/
mutual
theorem py_datT : ∀ (n : Nat) (d : D), datT n d = true → ∃ p, pyD d = some p ∧ PyData.plain p = true ∧ p.depth ≤ n
  | _, .non, _ => ⟨_, rfl, rfl, by simp [PyData.depth]⟩
  | _, .bl b, _ => ⟨_, rfl, rfl, by simp [PyData.depth]⟩
  | _, .int b, _ => ⟨_, rfl, rfl, by simp [PyData.depth]⟩
  | _, .str x, _ => ⟨_, rfl, rfl, by simp [PyData.depth]⟩
  | 0, .tup ds, h => by simp only [datT] at h; cases h
  | 0, .lst ds, h => by simp only [datT] at h; cases h
  | n + 1, .tup ds, h => by
    simp only [datT] at h
    obtain ⟨ps, h1, h2, h3⟩ := pys_datT n ds h
    exact ⟨.tuple ps, by simp only [pyD, h1, Option.map_some], by simpa only [PyData.plain] using h2, by simp only [PyData.depth]; omega⟩
  | n + 1, .lst ds, h => by
    simp only [datT] at h
    obtain ⟨ps, h1, h2, h3⟩ := pys_datT n ds h
    exact ⟨.list ps, by simp only [pyD, h1, Option.map_some], by simpa only [PyData.plain] using h2, by simp only [PyData.depth]; omega⟩
  | _, .dct _ _, h => by simp only [datT] at h; cases h
  | _, .loc _, h => by simp only [datT] at h; cases h
theorem pys_datT : ∀ (n : Nat) (ds : List D), datTs n ds = true → ∃ ps, pyDs ds = some ps ∧ PyData.plainAll ps = true ∧ PyData.depthAll ps ≤ n
  | _, [], _ => ⟨[], rfl, rfl, by simp [PyData.depthAll]⟩
  | n, d :: ds, h => by
    simp only [datTs, Bool.and_eq_true] at h
    obtain ⟨p, h1, h2, h3⟩ := py_datT n d h.1
    obtain ⟨ps, h4, h5, h6⟩ := pys_datT n ds h.2
    refine ⟨p :: ps, by simp only [pyDs, h1, h4, Option.bind_some, Option.map_some], by simp only [PyData.plainAll, h2, h5, Bool.and_self], by simp only [PyData.depthAll]; omega⟩
end
theorem beq_ss (x y : List Nat) : (ss x == ss y) = decide (x = y) := by
  rw [Bool.eq_iff_iff, beq_iff_eq, decide_eq_true_eq]
  exact ⟨ss_inj, fun h => by rw [h]⟩
mutual
theorem eqv_dat : ∀ (a b : D) (p q : PyData), pyD a = some p → pyD b = some q → PyData.eqv p q = eqT a b
  | .non, b, p, q, h1, h2 => by
    cases h1
    cases b with
    | tup ds => obtain ⟨ps, _, rfl⟩ := Option.map_eq_some_iff.mp h2; rfl
    | lst ds => obtain ⟨ps, _, rfl⟩ := Option.map_eq_some_iff.mp h2; rfl
    | _ => cases h2 <;> rfl
  | .bl a, b, p, q, h1, h2 => by
    cases h1
    cases b with
    | tup ds => obtain ⟨ps, _, rfl⟩ := Option.map_eq_some_iff.mp h2; rfl
    | lst ds => obtain ⟨ps, _, rfl⟩ := Option.map_eq_some_iff.mp h2; rfl
    | _ => cases h2 <;> rfl
  | .int a, b, p, q, h1, h2 => by
    cases h1
    cases b with
    | tup ds => obtain ⟨ps, _, rfl⟩ := Option.map_eq_some_iff.mp h2; rfl
    | lst ds => obtain ⟨ps, _, rfl⟩ := Option.map_eq_some_iff.mp h2; rfl
    | int b => cases h2; exact Bool.beq_eq_decide_eq _ _
    | _ => cases h2 <;> rfl
  | .str a, b, p, q, h1, h2 => by
    cases h1
    cases b with
    | tup ds => obtain ⟨ps, _, rfl⟩ := Option.map_eq_some_iff.mp h2; rfl
    | lst ds => obtain ⟨ps, _, rfl⟩ := Option.map_eq_some_iff.mp h2; rfl
    | str b => cases h2; exact beq_ss _ _
    | _ => cases h2 <;> rfl
  | .tup xs, b, p, q, h1, h2 => by
    obtain ⟨ps, h3, rfl⟩ := Option.map_eq_some_iff.mp h1
    cases b with
    | tup ds =>
      obtain ⟨qs, h4, rfl⟩ := Option.map_eq_some_iff.mp h2
      simp only [PyData.eqv, eqT]
      exact eqvs_dat xs ds ps qs h3 h4
    | lst ds => obtain ⟨ps, _, rfl⟩ := Option.map_eq_some_iff.mp h2; rfl
    | _ => cases h2 <;> rfl
  | .lst xs, b, p, q, h1, h2 => by
    obtain ⟨ps, h3, rfl⟩ := Option.map_eq_some_iff.mp h1
    cases b with
    | lst ds =>
      obtain ⟨qs, h4, rfl⟩ := Option.map_eq_some_iff.mp h2
      simp only [PyData.eqv, eqT]
      exact eqvs_dat xs ds ps qs h3 h4
    | tup ds => obtain ⟨ps, _, rfl⟩ := Option.map_eq_some_iff.mp h2; rfl
    | _ => cases h2 <;> rfl
  | .dct _ _, b, p, q, h1, h2 => by cases h1
  | .loc _, b, p, q, h1, h2 => by cases h1
theorem eqvs_dat : ∀ (xs ys : List D) (ps qs : List PyData), pyDs xs = some ps → pyDs ys = some qs → PyData.eqvAll ps qs = eqTs xs ys
  | [], [], ps, qs, h1, h2 => by cases h1; cases h2; rfl
  | [], y :: ys, ps, qs, h1, h2 => by
    cases h1
    obtain ⟨q, h3, h4⟩ := Option.bind_eq_some_iff.mp h2
    obtain ⟨qr, h5, rfl⟩ := Option.map_eq_some_iff.mp h4
    rfl
  | x :: xs, [], ps, qs, h1, h2 => by
    cases h2
    obtain ⟨q, h3, h4⟩ := Option.bind_eq_some_iff.mp h1
    obtain ⟨qr, h5, rfl⟩ := Option.map_eq_some_iff.mp h4
    rfl
  | x :: xs, y :: ys, ps, qs, h1, h2 => by
    obtain ⟨p, h3, h4⟩ := Option.bind_eq_some_iff.mp h1
    obtain ⟨pr, h5, rfl⟩ := Option.map_eq_some_iff.mp h4
    obtain ⟨q, h6, h7⟩ := Option.bind_eq_some_iff.mp h2
    obtain ⟨qr, h8, rfl⟩ := Option.map_eq_some_iff.mp h7
    simp only [PyData.eqvAll, eqTs]
    rw [eqv_dat x y p q h3 h6, eqvs_dat xs ys pr qr h5 h8]
end

mutual
theorem alike_dat : ∀ (a b : D) (p q : PyData), pyD a = some p → pyD b = some q → PySem.W.alike p q = alikeT a b
  | .non, b, p, q, h1, h2 => by
    cases h1
    cases b with
    | tup ds => obtain ⟨ps, _, rfl⟩ := Option.map_eq_some_iff.mp h2; rfl
    | lst ds => obtain ⟨ps, _, rfl⟩ := Option.map_eq_some_iff.mp h2; rfl
    | _ => cases h2 <;> rfl
  | .bl a, b, p, q, h1, h2 => by
    cases h1
    cases b with
    | tup ds => obtain ⟨ps, _, rfl⟩ := Option.map_eq_some_iff.mp h2; rfl
    | lst ds => obtain ⟨ps, _, rfl⟩ := Option.map_eq_some_iff.mp h2; rfl
    | _ => cases h2 <;> rfl
  | .int a, b, p, q, h1, h2 => by
    cases h1
    cases b with
    | tup ds => obtain ⟨ps, _, rfl⟩ := Option.map_eq_some_iff.mp h2; rfl
    | lst ds => obtain ⟨ps, _, rfl⟩ := Option.map_eq_some_iff.mp h2; rfl
    | _ => cases h2 <;> rfl
  | .str a, b, p, q, h1, h2 => by
    cases h1
    cases b with
    | tup ds => obtain ⟨ps, _, rfl⟩ := Option.map_eq_some_iff.mp h2; rfl
    | lst ds => obtain ⟨ps, _, rfl⟩ := Option.map_eq_some_iff.mp h2; rfl
    | _ => cases h2 <;> rfl
  | .tup xs, b, p, q, h1, h2 => by
    obtain ⟨ps, h3, rfl⟩ := Option.map_eq_some_iff.mp h1
    cases b with
    | tup ds =>
      obtain ⟨qs, h4, rfl⟩ := Option.map_eq_some_iff.mp h2
      simp only [PySem.W.alike, alikeT]
      exact alikes_dat xs ds ps qs h3 h4
    | lst ds => obtain ⟨ps, _, rfl⟩ := Option.map_eq_some_iff.mp h2; rfl
    | _ => cases h2 <;> rfl
  | .lst xs, b, p, q, h1, h2 => by
    obtain ⟨ps, h3, rfl⟩ := Option.map_eq_some_iff.mp h1
    cases b with
    | lst ds =>
      obtain ⟨qs, h4, rfl⟩ := Option.map_eq_some_iff.mp h2
      simp only [PySem.W.alike, alikeT]
      exact alikes_dat xs ds ps qs h3 h4
    | tup ds => obtain ⟨ps, _, rfl⟩ := Option.map_eq_some_iff.mp h2; rfl
    | _ => cases h2 <;> rfl
  | .dct _ _, b, p, q, h1, h2 => by cases h1
  | .loc _, b, p, q, h1, h2 => by cases h1
theorem alikes_dat : ∀ (xs ys : List D) (ps qs : List PyData), pyDs xs = some ps → pyDs ys = some qs → PySem.W.alikeAll ps qs = alikeTs xs ys
  | [], ys, ps, qs, h1, h2 => by
    cases h1
    simp only [alikeTs]
    cases qs <;> simp only [PySem.W.alikeAll]
  | x :: xs, [], ps, qs, h1, h2 => by
    cases h2
    obtain ⟨q, h3, h4⟩ := Option.bind_eq_some_iff.mp h1
    obtain ⟨qr, h5, rfl⟩ := Option.map_eq_some_iff.mp h4
    simp only [alikeTs, PySem.W.alikeAll]
  | x :: xs, y :: ys, ps, qs, h1, h2 => by
    obtain ⟨p, h3, h4⟩ := Option.bind_eq_some_iff.mp h1
    obtain ⟨pr, h5, rfl⟩ := Option.map_eq_some_iff.mp h4
    obtain ⟨q, h6, h7⟩ := Option.bind_eq_some_iff.mp h2
    obtain ⟨qr, h8, rfl⟩ := Option.map_eq_some_iff.mp h7
    simp only [PySem.W.alikeAll, alikeTs]
    rw [alike_dat x y p q h3 h6, alikes_dat xs ys pr qr h5 h8]
end
mutual
theorem lt_dat : ∀ (a b : D) (p q : PyData), pyD a = some p → pyD b = some q → alikeT a b = true → PySem.W.dataLt p q = ltT a b
  | .non, b, p, q, h1, h2, h => by
    cases b <;> simp only [alikeT] at h <;> first | (cases h; done) | skip
    cases h1; cases h2
    rfl
  | .bl a, b, p, q, h1, h2, h => by
    cases b <;> simp only [alikeT] at h <;> first | (cases h; done) | skip
    rename_i b
    cases h1; cases h2
    rw [PySem.W.dataLt_bool]
    cases a <;> cases b <;> rfl
  | .int a, b, p, q, h1, h2, h => by
    cases b <;> simp only [alikeT] at h <;> first | (cases h; done) | skip
    cases h1; cases h2
    rw [PySem.W.dataLt_int]; rfl
  | .str a, b, p, q, h1, h2, h => by
    cases b <;> simp only [alikeT] at h <;> first | (cases h; done) | skip
    cases h1; cases h2
    rw [PySem.W.dataLt_str]
    simp only [ltT]
  | .tup xs, b, p, q, h1, h2, h => by
    cases b <;> simp only [alikeT] at h <;> first | (cases h; done) | skip
    rename_i ys
    obtain ⟨ps, h3, rfl⟩ := Option.map_eq_some_iff.mp h1
    obtain ⟨qs, h4, rfl⟩ := Option.map_eq_some_iff.mp h2
    rw [PySem.W.dataLt_tuple]
    simp only [ltT]
    exact lts_dat xs ys ps qs h3 h4 h
  | .lst xs, b, p, q, h1, h2, h => by
    cases b <;> simp only [alikeT] at h <;> first | (cases h; done) | skip
    rename_i ys
    obtain ⟨ps, h3, rfl⟩ := Option.map_eq_some_iff.mp h1
    obtain ⟨qs, h4, rfl⟩ := Option.map_eq_some_iff.mp h2
    rw [PySem.W.dataLt_list]
    simp only [ltT]
    exact lts_dat xs ys ps qs h3 h4 h
  | .dct _ _, b, p, q, h1, h2, h => by cases h1
  | .loc _, b, p, q, h1, h2, h => by cases h1
theorem lts_dat : ∀ (xs ys : List D) (ps qs : List PyData), pyDs xs = some ps → pyDs ys = some qs → alikeTs xs ys = true → PyProof.Rows.lexLt PyProof.Rows.itemOrd (PySem.W.keyToksAll ps) (PySem.W.keyToksAll qs) = ltTs xs ys
  | [], [], ps, qs, h1, h2, h => by cases h1; cases h2; rfl
  | [], y :: ys, ps, qs, h1, h2, h => by
    cases h1
    obtain ⟨q, h3, h4⟩ := Option.bind_eq_some_iff.mp h2
    obtain ⟨qr, h5, rfl⟩ := Option.map_eq_some_iff.mp h4
    simp only [ltTs, PySem.W.keyToksAll]
    exact (PySem.W.lex_atom (by simp) _ _).trans ((PySem.W.lex_one _ _).trans rfl)
  | x :: xs, [], ps, qs, h1, h2, h => by
    cases h2
    obtain ⟨q, h3, h4⟩ := Option.bind_eq_some_iff.mp h1
    obtain ⟨qr, h5, rfl⟩ := Option.map_eq_some_iff.mp h4
    simp only [ltTs, PySem.W.keyToksAll]
    rfl
  | x :: xs, y :: ys, ps, qs, h1, h2, h => by
    obtain ⟨p, h3, h4⟩ := Option.bind_eq_some_iff.mp h1
    obtain ⟨pr, h5, rfl⟩ := Option.map_eq_some_iff.mp h4
    obtain ⟨q, h6, h7⟩ := Option.bind_eq_some_iff.mp h2
    obtain ⟨qr, h8, rfl⟩ := Option.map_eq_some_iff.mp h7
    simp only [alikeTs, Bool.and_eq_true] at h
    rw [PySem.W.dataLt_cons (by rw [alike_dat x y p q h3 h6]; exact h.1), eqv_dat x y p q h3 h6, lts_dat xs ys pr qr h5 h8 h.2, lt_dat x y p q h3 h6 h.1]
    rfl
end
mutual
theorem pyD_inj : ∀ (a b : D) (p : PyData), pyD a = some p → pyD b = some p → a = b
  | .non, b, p, h1, h2 => by
    cases h1
    cases b <;> simp [pyD] at h2 ⊢
  | .bl a, b, p, h1, h2 => by
    cases h1
    cases b <;> simp [pyD] at h2 ⊢
    exact h2.symm
  | .int a, b, p, h1, h2 => by
    cases h1
    cases b <;> simp [pyD] at h2 ⊢
    exact h2.symm
  | .str a, b, p, h1, h2 => by
    cases h1
    cases b <;> simp [pyD] at h2 ⊢
    exact h2.symm
  | .tup xs, b, p, h1, h2 => by
    obtain ⟨ps, h3, rfl⟩ := Option.map_eq_some_iff.mp h1
    cases b <;> simp [pyD] at h2 ⊢
    exact pyDs_inj xs _ ps h3 h2
  | .lst xs, b, p, h1, h2 => by
    obtain ⟨ps, h3, rfl⟩ := Option.map_eq_some_iff.mp h1
    cases b <;> simp [pyD] at h2 ⊢
    exact pyDs_inj xs _ ps h3 h2
  | .dct _ _, b, p, h1, h2 => by cases h1
  | .loc _, b, p, h1, h2 => by cases h1
theorem pyDs_inj : ∀ (xs ys : List D) (ps : List PyData), pyDs xs = some ps → pyDs ys = some ps → xs = ys
  | [], ys, ps, h1, h2 => by
    cases h1
    cases ys with
    | nil => rfl
    | cons y ys =>
      obtain ⟨q, h3, h4⟩ := Option.bind_eq_some_iff.mp h2
      obtain ⟨qr, h5, e⟩ := Option.map_eq_some_iff.mp h4
      cases e
  | x :: xs, ys, ps, h1, h2 => by
    obtain ⟨p, h3, h4⟩ := Option.bind_eq_some_iff.mp h1
    obtain ⟨pr, h5, rfl⟩ := Option.map_eq_some_iff.mp h4
    cases ys with
    | nil => cases h2
    | cons y ys =>
      obtain ⟨q, h6, h7⟩ := Option.bind_eq_some_iff.mp h2
      obtain ⟨qr, h8, e⟩ := Option.map_eq_some_iff.mp h7
      cases e
      rw [pyD_inj x y p h3 h6, pyDs_inj xs ys pr h5 h8]
end
theorem pyDs_len : ∀ {ds : List D} {ps : List PyData}, pyDs ds = some ps → ps.length = ds.length
  | [], _, h => by cases h; rfl
  | d :: ds, _, h => by
    obtain ⟨p, h3, h4⟩ := Option.bind_eq_some_iff.mp h
    obtain ⟨pr, h5, rfl⟩ := Option.map_eq_some_iff.mp h4
    rw [List.length_cons, List.length_cons, pyDs_len h5]
theorem pyDs_get : ∀ {ds : List D} {ps : List PyData} {i : Nat} {p : PyData}, pyDs ds = some ps → ps[i]? = some p → ∃ d, ds[i]? = some d ∧ pyD d = some p
  | [], _, _, _, h, e => by cases h; simp at e
  | d :: ds, _, i, _, h, e => by
    obtain ⟨p, h3, h4⟩ := Option.bind_eq_some_iff.mp h
    obtain ⟨pr, h5, rfl⟩ := Option.map_eq_some_iff.mp h4
    cases i with
    | zero =>
      have e' := Option.some.inj (show some _ = some _ from e)
      subst e'
      exact ⟨d, rfl, h3⟩
    | succ i => exact pyDs_get (i := i) h5 (by simpa using e)
theorem pyDs_mem {ds : List D} {ps : List PyData} {p : PyData} (h : pyDs ds = some ps) (hp : p ∈ ps) : ∃ d ∈ ds, pyD d = some p := by
  obtain ⟨i, hi⟩ := List.getElem?_of_mem hp
  obtain ⟨d, h1, h2⟩ := pyDs_get h hi
  exact ⟨d, List.mem_of_getElem? h1, h2⟩
theorem pyDs_mem' : ∀ {ds : List D} {ps : List PyData} {d : D}, pyDs ds = some ps → d ∈ ds → ∃ p ∈ ps, pyD d = some p
  | [], _, _, h, e => by cases e
  | x :: ds, _, d, h, e => by
    obtain ⟨p, h3, h4⟩ := Option.bind_eq_some_iff.mp h
    obtain ⟨pr, h5, rfl⟩ := Option.map_eq_some_iff.mp h4
    rcases List.mem_cons.mp e with rfl | e
    · exact ⟨p, List.mem_cons_self, h3⟩
    · obtain ⟨q, h6, h7⟩ := pyDs_mem' h5 e
      exact ⟨q, List.mem_cons_of_mem _ h6, h7⟩
mutual
theorem eqT_alike : ∀ (a b : D), alikeT a b = true → (eqT a b = true ↔ a = b)
  | .non, b, h => by cases b <;> simp [alikeT, eqT] at h ⊢
  | .bl a, b, h => by cases b <;> simp [alikeT, eqT] at h ⊢
  | .int a, b, h => by cases b <;> simp [alikeT, eqT] at h ⊢
  | .str a, b, h => by cases b <;> simp [alikeT, eqT] at h ⊢
  | .tup xs, b, h => by
    cases b <;> simp [alikeT, eqT] at h ⊢
    exact eqTs_alike xs _ h
  | .lst xs, b, h => by
    cases b <;> simp [alikeT, eqT] at h ⊢
    exact eqTs_alike xs _ h
  | .dct _ _, b, h => by cases b <;> simp [alikeT] at h
  | .loc _, b, h => by cases b <;> simp [alikeT] at h
theorem eqTs_alike : ∀ (xs ys : List D), alikeTs xs ys = true → (eqTs xs ys = true ↔ xs = ys)
  | [], [], _ => by simp [eqTs]
  | [], _ :: _, _ => by simp [eqTs]
  | _ :: _, [], _ => by simp [eqTs]
  | x :: xs, y :: ys, h => by
    simp only [alikeTs, Bool.and_eq_true] at h
    simp only [eqTs, Bool.and_eq_true, eqT_alike x y h.1, eqTs_alike xs ys h.2, List.cons.injEq]
end
theorem tri_dat {a b : D} {p q : PyData} (h1 : pyD a = some p) (h2 : pyD b = some q) (h : alikeT a b = true) (l1 : PySem.W.dataLt p q = false) (l2 : PySem.W.dataLt q p = false) : a = b := by
  have al := (alike_dat a b p q h1 h2).trans h
  have et : PySem.W.keyToks p = PySem.W.keyToks q := PyProof.Rows.lex_total _ _ l1 l2
  have ev : PyData.eqv p q = true := by
    cases e : PyData.eqv p q with
    | true => rfl
    | false =>
      have z := (PySem.W.toks_eqv p q al).2 e [] [.inl 0]
      rw [et, List.append_nil, PyProof.Rows.lex_irrefl] at z
      have z2 := PySem.W.lex_pre (PySem.W.keyToks q) [] [.inl 0]
      rw [List.append_nil, z] at z2
      cases z2
  rw [eqv_dat a b p q h1 h2] at ev
  exact (eqT_alike a b h).mp ev
mutual
def unD : PyData → D
  | .none => .non
  | .bool b => .bl b
  | .int i => .int i
  | .str x => .str x.cps.toList
  | .tuple xs => .tup (unDs xs)
  | .list xs => .lst (unDs xs)
  | .dict _ => .non
def unDs : List PyData → List D
  | [] => []
  | x :: xs => unD x :: unDs xs
end
mutual
theorem unD_py : ∀ (d : D) (p : PyData), pyD d = some p → unD p = d
  | .non, p, h => by cases h; simp only [unD]
  | .bl b, p, h => by cases h; simp only [unD]
  | .int b, p, h => by cases h; simp only [unD]
  | .str b, p, h => by cases h; simp only [unD]
  | .tup ds, p, h => by
    obtain ⟨ps, h3, rfl⟩ := Option.map_eq_some_iff.mp h
    simp only [unD, unDs_py ds ps h3]
  | .lst ds, p, h => by
    obtain ⟨ps, h3, rfl⟩ := Option.map_eq_some_iff.mp h
    simp only [unD, unDs_py ds ps h3]
  | .dct _ _, p, h => by cases h
  | .loc _, p, h => by cases h
theorem unDs_py : ∀ (ds : List D) (ps : List PyData), pyDs ds = some ps → unDs ps = ds
  | [], ps, h => by cases h; simp only [unDs]
  | d :: ds, ps, h => by
    obtain ⟨p, h3, h4⟩ := Option.bind_eq_some_iff.mp h
    obtain ⟨pr, h5, rfl⟩ := Option.map_eq_some_iff.mp h4
    simp only [unDs, unD_py d p h3, unDs_py ds pr h5]
end
theorem datTs_all {n : Nat} : ∀ {ds : List D}, (∀ d ∈ ds, datT n d = true) → datTs n ds = true
  | [], _ => by simp [datTs]
  | d :: ds, h => by
    simp only [datTs, Bool.and_eq_true]
    exact ⟨h d List.mem_cons_self, datTs_all fun x hx => h x (List.mem_cons_of_mem _ hx)⟩
/-! ### sorting by an order that is total on the items -/
structure STotOn {α : Type} (P : α → Prop) (lt : α → α → Bool) : Prop where
  tr : ∀ x y z, P x → P y → P z → lt y x = false → lt z y = false → lt z x = false
  as : ∀ x y, P x → P y → lt x y = false → lt y x = false → x = y
  ir : ∀ x y, P x → P y → lt x y = true → lt y x = false
section
variable {α : Type} {lt : α → α → Bool} {P : α → Prop}
theorem insS_permO (x : α) : ∀ l : List α, (insS lt x l).Perm (x :: l)
  | [] => List.Perm.refl _
  | y :: r => by
    unfold insS
    split
    · exact List.Perm.refl _
    · exact ((insS_permO x r).cons y).trans (List.Perm.swap x y r)
theorem isort_permO : ∀ l : List α, (isort lt l).Perm l
  | [] => List.Perm.refl _
  | x :: r => (insS_permO x _).trans ((isort_permO r).cons x)
theorem insS_pwO (O : STotOn P lt) (x : α) (hx : P x) : ∀ l : List α, (∀ y ∈ l, P y) → l.Pairwise (fun a b => lt b a = false) → (insS lt x l).Pairwise (fun a b => lt b a = false)
  | [], _, _ => List.pairwise_singleton _ _
  | y :: r, hP, h => by
    have hy := hP y List.mem_cons_self
    have hr := fun z hz => hP z (List.mem_cons_of_mem _ hz)
    have h' := List.pairwise_cons.mp h
    unfold insS
    split
    · rename_i hxy
      refine List.pairwise_cons.mpr ⟨fun z hz => ?_, h⟩
      rcases List.mem_cons.mp hz with rfl | hz
      · exact O.ir _ _ hx hy hxy
      · exact O.tr x y z hx hy (hr z hz) (O.ir _ _ hx hy hxy) (h'.1 z hz)
    · rename_i hxy
      refine List.pairwise_cons.mpr ⟨fun z hz => ?_, insS_pwO O x hx r hr h'.2⟩
      rcases List.mem_cons.mp ((insS_permO x r).mem_iff.mp hz) with rfl | hz
      · simpa using hxy
      · exact h'.1 z hz
theorem isort_pwO (O : STotOn P lt) : ∀ l : List α, (∀ y ∈ l, P y) → (isort lt l).Pairwise (fun a b => lt b a = false)
  | [], _ => List.Pairwise.nil
  | x :: r, hP => insS_pwO O x (hP x List.mem_cons_self) _ (fun y hy => hP y (List.mem_cons_of_mem _ ((isort_permO r).mem_iff.mp hy))) (isort_pwO O r fun y hy => hP y (List.mem_cons_of_mem _ hy))
theorem isort_uniqO (O : STotOn P lt) {l m : List α} (hP : ∀ y ∈ l, P y) (hp : m.Perm l) (hs : m.Pairwise (fun a b => lt b a = false)) : m = isort lt l :=
  List.Perm.eq_of_pairwise (le := fun a b => lt b a = false) (fun a b ha hb h1 h2 => O.as a b (hP a (hp.mem_iff.mp ha)) (hP b ((isort_permO l).mem_iff.mp hb)) h2 h1) hs (isort_pwO O l hP) (hp.trans (isort_permO l).symm)
end
theorem allT_mem {xs : List D} (h : allT xs = true) {a : D} (ha : a ∈ xs) : datT 50 a = true ∧ nonT a = false ∧ ∀ b ∈ xs, alikeT a b = true := by
  have := List.all_eq_true.mp h a ha
  simp only [Bool.and_eq_true, Bool.not_eq_true', List.all_eq_true] at this
  exact ⟨this.1.1, this.1.2, this.2⟩
/-- ltT is a total order on data that are all alike -/
theorem stot_allT {xs : List D} (h : allT xs = true) : STotOn (fun d => d ∈ xs) ltT := by
  have key : ∀ a ∈ xs, ∀ b ∈ xs, ∃ p q, pyD a = some p ∧ pyD b = some q ∧ PySem.W.dataLt p q = ltT a b ∧ PySem.W.dataLt q p = ltT b a := fun a ha b hb => by
    obtain ⟨p, h1, _, _⟩ := py_datT 50 a (allT_mem h ha).1
    obtain ⟨q, h2, _, _⟩ := py_datT 50 b (allT_mem h hb).1
    exact ⟨p, q, h1, h2, lt_dat a b p q h1 h2 ((allT_mem h ha).2.2 b hb), lt_dat b a q p h2 h1 ((allT_mem h hb).2.2 a ha)⟩
  refine ⟨fun x y z hx hy hz a b => ?_, fun x y hx hy a b => ?_, fun x y hx hy a => ?_⟩
  · obtain ⟨p, q, e1, e2, l1, l2⟩ := key x hx y hy
    obtain ⟨q', r, e3, e4, l3, l4⟩ := key y hy z hz
    obtain ⟨p', r', e5, e6, l5, l6⟩ := key x hx z hz
    rw [e2] at e3; cases e3
    rw [e1] at e5; cases e5
    rw [e4] at e6; cases e6
    cases c : ltT z x with
    | false => rfl
    | true =>
      rw [← l6] at c
      rcases PyProof.Rows.lex_negTrans _ (PySem.W.keyToks q) _ c with w | w
      · have : ltT z y = true := l4.symm.trans w
        rw [this] at b; cases b
      · have : ltT y x = true := l2.symm.trans w
        rw [this] at a; cases a
  · obtain ⟨p, q, e1, e2, l1, l2⟩ := key x hx y hy
    exact tri_dat e1 e2 ((allT_mem h hx).2.2 y hy) (l1.trans a) (l2.trans b)
  · obtain ⟨p, q, e1, e2, l1, l2⟩ := key x hx y hy
    cases c : ltT y x with
    | false => rfl
    | true =>
      have w := PyProof.Rows.lex_trans _ _ _ (l1.trans a) (l2.trans c)
      rw [PyProof.Rows.lex_irrefl] at w; cases w
section
variable {K : PySem.W.Frag} {μ : Mu} {N : Nat} {H : Hp}
mutual
theorem dp_of' : ∀ (d : D) (v : V) (p : PyData), RepV K μ N H d v → pyD d = some p → Dp K H v p
  | .non, v, p, h, e => by simp only [RepV] at h; simp only [pyD, Option.some.injEq] at e; subst h e; exact .non
  | .bl b, v, p, h, e => by simp only [RepV] at h; simp only [pyD, Option.some.injEq] at e; subst h e; exact .bl b
  | .int b, v, p, h, e => by simp only [RepV] at h; simp only [pyD, Option.some.injEq] at e; subst h e; exact .int b
  | .str b, v, p, h, e => by simp only [RepV] at h; simp only [pyD, Option.some.injEq] at e; subst h e; exact .str _
  | .tup ds, v, p, h, e => by
    simp only [RepV] at h
    simp only [pyD, Option.map_eq_some_iff] at e
    obtain ⟨a, vs, rfl, h2, h3⟩ := h
    obtain ⟨ps, e1, rfl⟩ := e
    exact .tup h2.sq (dps_of' ds vs ps h3 e1)
  | .lst ds, v, p, h, e => by
    simp only [RepV] at h
    simp only [pyD, Option.map_eq_some_iff] at e
    obtain ⟨a, vs, rfl, h2, h3⟩ := h
    obtain ⟨ps, e1, rfl⟩ := e
    exact .lst h2.sq (dps_of' ds vs ps h3 e1)
  | .dct _ _, v, p, h, e => by simp only [pyD] at e; cases e
  | .loc n, v, p, h, e => by simp only [pyD] at e; cases e
theorem dps_of' : ∀ (ds : List D) (vs : List V) (ps : List PyData), RepVs K μ N H ds vs → pyDs ds = some ps → DpAll K H vs ps
  | [], vs, ps, h, e => by simp only [RepVs] at h; simp only [pyDs, Option.some.injEq] at e; subst h e; exact .nil
  | d :: ds, vs, ps, h, e => by
    simp only [RepVs] at h
    simp only [pyDs, Option.bind_eq_some_iff, Option.map_eq_some_iff] at e
    obtain ⟨v, vr, rfl, h2, h3⟩ := h
    obtain ⟨p, e1, qs, e2, rfl⟩ := e
    exact .cons (dp_of' d v p h2 e1) (dps_of' ds vr qs h3 e2)
end
end
/-- what a sorted list of data holds -/
theorem sorted_reps {K : PySem.W.Frag} {μ : Mu} {N : Nat} {H : Hp} {xs : List D} {vs : List V} (hs : sortT xs = true) (hv : RepVs K μ N H xs vs) :
    ∃ ps : List (V × PyData), ps.map (·.1) = vs ∧ (∀ p ∈ ps, Dp K H p.1 p.2) ∧ PySem.W.AllAlike (ps.map (·.2)) ∧ PySem.W.Sortable (ps.map (·.2)) ∧ (∀ p ∈ ps, p.2.depth ≤ 50) ∧
      RepVs K μ N H (isort ltT xs) ((ps.mergeSort (PySem.W.dataLe false (fun p : V × PyData => p.2))).map (·.1)) := by
  have hs' := hs
  unfold sortT at hs'
  rw [Bool.and_eq_true] at hs'
  have hall := hs'.1
  obtain ⟨qs, h1, h2, h3⟩ := pys_datT 50 xs (datTs_all fun d hd => (allT_mem hall hd).1)
  have l1 := pyDs_len h1
  have l2 := hv.length
  have e1 : (vs.zip qs).map (·.1) = vs := List.map_fst_zip (by omega)
  have e2 : (vs.zip qs).map (·.2) = qs := List.map_snd_zip (by omega)
  have mem : ∀ p ∈ vs.zip qs, ∃ d ∈ xs, RepV K μ N H d p.1 ∧ pyD d = some p.2 := fun p hp => by
    obtain ⟨i, hi⟩ := List.getElem?_of_mem hp
    rw [List.getElem?_zip_eq_some] at hi
    obtain ⟨d, hd1, hd2⟩ := RepVs.get' hv hi.1
    obtain ⟨d', hd3, hd4⟩ := pyDs_get h1 hi.2
    rw [hd1] at hd3; cases hd3
    exact ⟨d, List.mem_of_getElem? hd1, hd2, hd4⟩
  have xe : xs = (vs.zip qs).map (fun p => unD p.2) := by
    have z := unDs_py xs qs h1
    have z2 : ∀ l : List PyData, unDs l = l.map unD := fun l => by
      induction l with
      | nil => simp only [unDs, List.map_nil]
      | cons a l ih => simp only [unDs, List.map_cons, ih]
    rw [z2] at z
    have e3 : ((vs.zip qs).map (fun p : V × PyData => p.2)).map unD = qs.map unD := by rw [e2]
    rw [List.map_map] at e3
    exact z.symm.trans e3.symm
  have hperm : ((vs.zip qs).mergeSort (PySem.W.dataLe false (fun p : V × PyData => p.2))).Perm (vs.zip qs) := List.mergeSort_perm _ _
  refine ⟨vs.zip qs, e1, fun p hp => ?_, ?_, ?_, fun p hp => ?_, ?_⟩
  · obtain ⟨d, _, hd1, hd2⟩ := mem p hp
    exact dp_of' d p.1 p.2 hd1 hd2
  · rw [e2]
    intro d hd d' hd'
    obtain ⟨a, ha, e3⟩ := pyDs_mem h1 hd
    obtain ⟨b, hb, e4⟩ := pyDs_mem h1 hd'
    rw [alike_dat a b d d' e3 e4]
    exact (allT_mem hall ha).2.2 b hb
  · rw [e2]
    have hk := hs'.2
    rw [Bool.or_eq_true] at hk
    rcases hk with hk | hk
    · refine .inl fun d hd => ?_
      obtain ⟨a, ha, e3⟩ := pyDs_mem h1 hd
      have := List.all_eq_true.mp hk a ha
      cases a with
      | tup ds =>
        cases ds with
        | nil => cases this
        | cons x r =>
          obtain ⟨ps, h4, rfl⟩ := Option.map_eq_some_iff.mp e3
          obtain ⟨p, h5, h6⟩ := Option.bind_eq_some_iff.mp h4
          obtain ⟨pr, h7, rfl⟩ := Option.map_eq_some_iff.mp h6
          exact ⟨p, pr, rfl⟩
      | _ => cases this
    · refine .inr fun d hd => ?_
      obtain ⟨a, ha, e3⟩ := pyDs_mem h1 hd
      have := List.all_eq_true.mp hk a ha
      cases a with
      | non => cases this
      | tup ds => cases this
      | lst ds =>
        obtain ⟨ps, h4, rfl⟩ := Option.map_eq_some_iff.mp e3
        exact ⟨(fun e => by cases e), (fun xs e => by cases e)⟩
      | dct _ _ => cases e3
      | loc _ => cases e3
      | _ => cases e3; exact ⟨(fun e => by cases e), (fun xs e => by cases e)⟩
  · obtain ⟨d, hd, hd1, hd2⟩ := mem p hp
    obtain ⟨q, e3, _, e4⟩ := py_datT 50 d (allT_mem hall hd).1
    rw [hd2] at e3; cases e3
    exact e4
  · generalize hz : (vs.zip qs).mergeSort (PySem.W.dataLe false (fun p : V × PyData => p.2)) = z' at hperm ⊢
    have hes : z'.map (fun p => unD p.2) = isort ltT xs := by
      refine isort_uniqO (stot_allT hall) (fun y hy => hy) ?_ ?_
      · rw [xe]; exact hperm.map _
      · have T := PySem.W.sortLe_total (listOrd itemOrd) false (fun b : V × PyData => PySem.W.keyToks b.2)
        have pw := List.pairwise_mergeSort (le := PySem.W.dataLe false (fun p : V × PyData => p.2)) (fun a b c h1 h2 => T.trans a b c h1 h2) (fun a b => by rw [Bool.or_eq_true]; exact T.total a b) (vs.zip qs)
        rw [hz] at pw
        rw [List.pairwise_map]
        refine List.Pairwise.imp_of_mem (fun {p q} hp hq hle => ?_) pw
        obtain ⟨a, ha, _, a2⟩ := mem p (hperm.mem_iff.mp hp)
        obtain ⟨b, hb, _, b2⟩ := mem q (hperm.mem_iff.mp hq)
        rw [unD_py a _ a2, unD_py b _ b2, ← lt_dat b a _ _ b2 a2 ((allT_mem hall hb).2.2 a ha)]
        have hle' : (!PySem.W.dataLt q.2 p.2) = true := hle
        simpa using hle'
    rw [← hes]
    have go : ∀ l : List (V × PyData), (∀ p ∈ l, p ∈ vs.zip qs) → RepVs K μ N H (l.map fun p => unD p.2) (l.map (·.1)) := by
      intro l
      induction l with
      | nil => intro _; simp only [List.map_nil, RepVs]
      | cons p l ih =>
        intro hl
        simp only [List.map_cons, RepVs]
        obtain ⟨a, ha, a1, a2⟩ := mem p (hl p List.mem_cons_self)
        exact ⟨p.1, _, rfl, by rw [unD_py a _ a2]; exact a1, ih fun q hq => hl q (List.mem_cons_of_mem _ hq)⟩
    exact go z' fun p hp => hperm.mem_iff.mp hp
end TK

/-! TKp: rules of the hand layer that the kit lacks: a list's item by values, extend by any list or tuple, min with a default. -/
namespace TK
open PySem PySem.Spec PyProof.Rows L2
section
variable {X : Cx}
theorem get_list : PGet X (rIxL X.K) := by
  intro pins s σ H o i ov iv Q I ro ri h
  obtain ⟨p, xs, i, z, rfl, rfl, hq, he, q⟩ := h
  cases ro
  obtain ⟨t, rfl⟩ := ri
  obtain ⟨its, r, pl, hz⟩ := I.list hq
  obtain ⟨j, h1, h2, h3, h4, h5⟩ := atI_get he
  obtain ⟨w, ew, rw'⟩ := r.get h2
  have hl := r.length
  have hn := line63
  have fin : EP X pins σ Q w s := ⟨z, H, I, rw', q⟩
  by_cases h0 : 0 ≤ i
  · have hj : i.toNat = j := by
      rw [seqIndex_of h0 h5] at h1
      exact Option.some.inj h1
    exact wpAny_getItem_list (x := w) pl.isList h0 (by omega) (by rw [hj]; simpa using ew) fin
  · have hj : (i + (its.toArray.size : Int)).toNat = j := by
      rw [seqIndex_neg (by omega) h4] at h1
      rw [List.size_toArray, ← hl]
      exact Option.some.inj h1
    exact wpAny_getItem_list_neg (x := w) pl.isList (by omega) (by rw [List.size_toArray] <;> omega) (by omega) (by rw [hj]; simpa using ew) fin
theorem ext_listW (l : Addr) (items : Array Value) (n : Nat) (b : Addr) (items2 : Array Value) (n2 : Nat) (sl2 : Array (Option Value)) (hc0 : ¬(!items.isEmpty && Builtin.List.listTooLong (items.size + items2.size)) = true) (hc1 : items.size ≤ sizeLine) (hs2 : items.size + items2.size ≤ sizeLine + 1) :
    Meets (Builtin.«list.extend» ⟨[.ref l, .ref b], []⟩) (fun _ R s => s.heap.get? l = some { cls := .type "list", dict := none, data := .seq items n, slots := #[] } ∧ s.heap.get? b = some { cls := .type "list", dict := none, data := .seq items2 n2, slots := sl2 } ∧ R (.ok (.ret Value.none)) { s with heap := s.heap.update l (Obj.mapSeq fun x => x ++ items2), toks := s.toks }) :=
  .of_wp fun prog w A R s h => by
    obtain ⟨hp, g, d, tk, os⟩ := s; obtain ⟨hl, hb, h⟩ := h; have f1 := AutoSeq1.idx_int; have f2 := AutoSeq1.sub_tuple_tuple; have f3 := AutoSeq1.sub_list_list; have f4 := AutoSeq1.sub_tuple_list; have f5 := AutoSeq1.sub_list_tuple;
    have hz' : (items ++ items2).size ≤ sizeLine + 1 := by rw [Array.size_append]; exact hs2
    wp_walk using (wpAny_updateSeq hl rfl (hz := hc1) (_hz' := hz')), wpAny_loadPart' hl, wpAny_loadPart' hb; exact ⟨_, rfl, h⟩
theorem ext_tupW (l : Addr) (items : Array Value) (n : Nat) (b : Addr) (items2 : Array Value) (n2 : Nat) (dd : Option Addr) (sl2 : Array (Option Value)) (hs0 : ¬(!items.isEmpty && Builtin.List.listTooLong (items.size + items2.size)) = true) (hs1 : items.size ≤ sizeLine) (hs2 : items.size + items2.size ≤ sizeLine + 1) :
    Meets (Builtin.«list.extend» ⟨[.ref l, .ref b], []⟩) (fun _ R s => s.heap.get? l = some { cls := .type "list", dict := none, data := .seq items n, slots := #[] } ∧ s.heap.get? b = some { cls := .type "tuple", dict := dd, data := .seq items2 n2, slots := sl2 } ∧ R (.ok (.ret Value.none)) { s with heap := s.heap.update l (Obj.mapSeq fun x => x ++ items2), toks := s.toks }) :=
  .of_wp fun prog w A R s h => by
    obtain ⟨hp, g, d, tk, os⟩ := s; obtain ⟨hl, hb, h⟩ := h; have f1 := AutoSeq1.idx_int; have f2 := AutoSeq1.sub_tuple_tuple; have f3 := AutoSeq1.sub_list_list; have f4 := AutoSeq1.sub_tuple_list; have f5 := AutoSeq1.sub_list_tuple;
    have hz' : (items ++ items2).size ≤ sizeLine + 1 := by rw [Array.size_append]; exact hs2
    wp_walk using (wpAny_updateSeq hl rfl (hz := hs1) (_hz' := hz')), wpAny_loadPart' hl, wpAny_loadPart' hb; exact ⟨_, rfl, h⟩
/-- xs.extend(ys), ys a list or a tuple -/
def rExtA (K : PySem.W.Frag) : V → List V → Hp → VK → Prop := fun x vs H Q => ∃ l b xs zs, x = .ref l ∧ vs = [.ref b] ∧ H l = some (.lst xs) ∧ (SqL K H b zs ∨ SqT K H b zs) ∧ xs.length + zs.length ≤ sizeLine ∧ Q .non (upd H l (.lst (xs ++ zs)))
theorem mt_extA : MtM X "list.extend" (rExtA X.K) := by
  intro pins s σ H x vs v us Q I rx rv h
  obtain ⟨l, b, xs, zs, rfl, rfl, hH, hB, hz, q⟩ := h
  cases rx
  obtain ⟨u, rfl, ru⟩ := rv.one
  cases ru
  obtain ⟨z, its, n, r, hl, e⟩ := I.lstM hH
  have fin : ∀ its2 : List Value, Vals zs its2 → EP X pins σ Q Value.none { s with heap := s.heap.update l (Obj.mapSeq fun x => x ++ its2.toArray), toks := s.toks } := fun its2 r2 =>
    ⟨.non, _, I.lset (its' := its ++ its2) hH e (by simp) (r.append r2) (by rw [List.length_append]; omega), rfl, q⟩
  rcases hB with hB | hB
  · obtain ⟨its2, r2, pl, hl2⟩ := I.list hB
    have l2 := r2.length
    obtain ⟨⟨cls, dd2, data2, sl2⟩, n2, ho2, hc2, hd2, he2⟩ := pl
    simp only at hc2 hd2 he2
    subst hc2 hd2 he2
    have hsz : its.toArray.size + its2.toArray.size ≤ sizeLine := by rw [List.size_toArray, List.size_toArray]; omega
    have hlong : ¬ (!its.toArray.isEmpty && Builtin.List.listTooLong (its.toArray.size + its2.toArray.size)) = true := by
      rw [notLongL hsz, Bool.and_false]
      exact Bool.false_ne_true
    exact call_meets F.slot_list_extend ⟨_, e, rfl⟩ F.entry_list_extend (F.args_list_extend_2 _ _)
      (ext_listW l its.toArray n b its2.toArray n2 sl2 hlong (by rw [List.size_toArray]; omega) (by omega)) ⟨e, ho2, fin its2 r2⟩
  · obtain ⟨its2, r2, pl, hl2⟩ := I.tuple hB
    have l2 := r2.length
    obtain ⟨⟨cls, dd2, data2, sl2⟩, ho2, hc2, n2, hd2⟩ := pl
    simp only at hc2 hd2
    subst hc2 hd2
    have hsz : its.toArray.size + its2.toArray.size ≤ sizeLine := by rw [List.size_toArray, List.size_toArray]; omega
    have hlong : ¬ (!its.toArray.isEmpty && Builtin.List.listTooLong (its.toArray.size + its2.toArray.size)) = true := by
      rw [notLongL hsz, Bool.and_false]
      exact Bool.false_ne_true
    exact call_meets F.slot_list_extend ⟨_, e, rfl⟩ F.entry_list_extend (F.args_list_extend_2 _ _)
      (ext_tupW l its.toArray n b its2.toArray n2 dd2 sl2 hlong (by rw [List.size_toArray]; omega) (by omega)) ⟨e, ho2, fin its2 r2⟩
theorem vals_signs : ∀ (cs : List Nat) (us : List Value), us.length = cs.length → (∀ (j : Nat) (v : Value), us[j]? = some v → ∃ c u, cs[j]? = some c ∧ v = .str ⟨#[c]⟩ u) → Vals (cs.map fun c => V.str ⟨#[c]⟩) us
  | [], [], _, _ => .nil
  | c :: cs, u :: us, hl, h => by
    obtain ⟨c', u', e1, e2⟩ := h 0 u rfl
    have e1 : some c = some c' := e1
    cases e1
    refine .cons ⟨u', e2⟩ (vals_signs cs us (by simpa using hl) fun j v hj => h (j + 1) v (by simpa using hj))
  | [], _ :: _, hl, _ => by simp at hl
  | _ :: _, [], hl, _ => by simp at hl
/-- list(x), x a text -/
theorem cr_listS (hc : X.calm = true) : CallR X (.type "list") (fun xs H Q => ∃ z : Str, xs = [.str z] ∧ z.length ≤ sizeLine ∧ ∀ p, H p = none → Q (.ref p) (upd H p (.lst (z.cps.toList.map fun c => V.str ⟨#[c]⟩)))) := by
  intro pins s σ H xs us Q I r h
  obtain ⟨z, rfl, hz, q⟩ := h
  obtain ⟨u, rfl, ru⟩ := vals1 r
  obtain ⟨t, rfl⟩ := ru
  refine call_list_str (I.ok.hd hc) z t (fun h' tk acc c' hk hD hacc => ?_) hz
  have hv : Vals (z.cps.toList.map fun c => V.str ⟨#[c]⟩) acc.toList := vals_signs _ _ (by rw [Array.length_toList, Array.length_toList]; exact hacc.1) fun j v e => by
    obtain ⟨c, u, e1, e2⟩ := hacc.2 j v (by rw [← Array.getElem?_toList]; exact e)
    exact ⟨c, u, by rw [Array.getElem?_toList]; exact e1, e2⟩
  exact ⟨.ref s.heap.objs.size, upd H s.heap.objs.size (.lst (z.cps.toList.map fun c => V.str ⟨#[c]⟩)), I.laid (t' := tk) hk (Nat.le_refl _)
    (show ObjOk X.prog X.w _ _ _ (.lst (z.cps.toList.map fun c => V.str ⟨#[c]⟩)) from ⟨by rw [List.length_map, Array.length_toList]; exact hz, acc.toList, c', hv, by rw [Array.toArray_toList]; exact hD⟩), rfl, q _ (I.hok.fresh (Nat.le_refl _))⟩
/-- list(x): a list, a tuple, a text -/
abbrev rListA (K : PySem.W.Frag) : List V → Hp → VK → Prop := fun xs H Q => (∃ p ys, xs = [.ref p] ∧ (SqL K H p ys ∨ SqT K H p ys) ∧ ∀ l, H l = none → Q (.ref l) (upd H l (.lst ys))) ∨ ∃ z : Str, xs = [.str z] ∧ z.length ≤ sizeLine ∧ ∀ p, H p = none → Q (.ref p) (upd H p (.lst (z.cps.toList.map fun c => V.str ⟨#[c]⟩)))
theorem cr_listA (hc : X.calm = true) : CallR X (.type "list") (rListA X.K) := by
  intro pins s σ H xs us Q I r h
  rcases h with h | h
  · exact call_list_of pins s σ H xs us Q I r h
  · exact cr_listS hc pins s σ H xs us Q I r h
/-- min(xs, default=None) -/
def rMinDef (K : PySem.W.Frag) : List V → List V → Hp → VK → Prop := fun vs zs H Q => ∃ (a : Addr) (xs : List V) (ds : List PyData), vs = [V.ref a] ∧ zs = [.non] ∧ SqL K H a xs ∧ DpAll K H xs ds ∧ PySem.W.AlikeAll ds ∧ PyData.depthAll ds ≤ 60 ∧
  (ds = [] → Q .non H) ∧ ∀ (d : PyData) (es : List PyData) (i : Nat) (v : V), ds = d :: es → xs[i]? = some v → ds[i]? = some (PySem.W.minD d es) → Q v H
theorem cr_minDef (hc : X.calm = true) (hu : X.A.units + 64 < cLine) : CallRK X (.builtin "min") [Str.ofString "default"] (rMinDef X.K) := by
  intro pins s σ H vs zs us ws Q I r rz h
  obtain ⟨a, xs, ds, rfl, rfl, hs, hd, hal, hdp, q0, q⟩ := h
  obtain ⟨its, rv, hl, hz⟩ := I.list hs
  obtain rfl := Vals.ref1 r
  obtain ⟨w1, rfl, e1⟩ := vals1 rz
  obtain rfl : w1 = Value.none := e1
  obtain ⟨as, hr⟩ := Dp.readsAll I _ _ _ hd rv
  refine PySem.W.min_list_default (I.ok.hd hc) (vs := its.toArray) hl.isList (by simpa using hr) hal (by omega) (fun h0 h' tk hk => ⟨.non, H, I.kept hk, rfl, q0 h0⟩) fun d es i u h' tk bs hds hi hR hk => ?_
  subst hds
  have hi' : its[i]? = some u := by simpa using hi
  obtain ⟨v, hv, rel⟩ := vals_get rv hi'
  obtain ⟨e, he, hde⟩ := dpAll_get hd hv
  obtain ⟨cs, re⟩ := Dp.reads I e v u hde rel
  have hm : PySem.W.minD d es ∈ d :: es := best_mem (g := fun a y => PySem.W.dataLt y a) es d
  have : e = PySem.W.minD d es := PySem.W.alike_unique e _ u _ _ (hal.1 _ (List.mem_of_getElem? he) _ hm) (PyProof.Rows.Reads.keeps hk re) hR
  subst this
  exact ⟨v, H, I.kept hk, rel, q d es i v rfl hv he⟩
end
end TK

/-! TKd: comparisons, tests, displays, subscripts, calls over the hand layer. -/
namespace TK
open PySem PySem.Spec PyProof.Rows L2
section
variable {K : PySem.W.Frag} {μ : Mu} {N : Nat} {H : Hp}
mutual
theorem dp_of : ∀ (d : D) (v : V) (p : PyData), RepV K μ N H d v → pyD d = some p → Dp K H v p
  | .non, v, p, h, e => by simp only [RepV] at h; simp only [pyD, Option.some.injEq] at e; subst h e; exact .non
  | .bl b, v, p, h, e => by simp only [RepV] at h; simp only [pyD, Option.some.injEq] at e; subst h e; exact .bl b
  | .int b, v, p, h, e => by simp only [RepV] at h; simp only [pyD, Option.some.injEq] at e; subst h e; exact .int b
  | .str b, v, p, h, e => by simp only [RepV] at h; simp only [pyD, Option.some.injEq] at e; subst h e; exact .str _
  | .tup ds, v, p, h, e => by
    simp only [RepV] at h
    simp only [pyD, Option.map_eq_some_iff] at e
    obtain ⟨a, vs, rfl, h2, h3⟩ := h
    obtain ⟨ps, e1, rfl⟩ := e
    exact .tup h2.sq (dps_of ds vs ps h3 e1)
  | .lst ds, v, p, h, e => by
    simp only [RepV] at h
    simp only [pyD, Option.map_eq_some_iff] at e
    obtain ⟨a, vs, rfl, h2, h3⟩ := h
    obtain ⟨ps, e1, rfl⟩ := e
    exact .lst h2.sq (dps_of ds vs ps h3 e1)
  | .dct _ _, v, p, h, e => by simp only [pyD] at e; cases e
  | .loc n, v, p, h, e => by simp only [pyD] at e; cases e
theorem dps_of : ∀ (ds : List D) (vs : List V) (ps : List PyData), RepVs K μ N H ds vs → pyDs ds = some ps → DpAll K H vs ps
  | [], vs, ps, h, e => by simp only [RepVs] at h; simp only [pyDs, Option.some.injEq] at e; subst h e; exact .nil
  | d :: ds, vs, ps, h, e => by
    simp only [RepVs] at h
    simp only [pyDs, Option.bind_eq_some_iff, Option.map_eq_some_iff] at e
    obtain ⟨v, vr, rfl, h2, h3⟩ := h
    obtain ⟨p, e1, qs, e2, rfl⟩ := e
    exact .cons (dp_of d v p h2 e1) (dps_of ds vr qs h3 e2)
end
theorem dpS_of {S : St'} {d : D} {v : V} {p : PyData} (r : Rel K μ S H) (h : RepV K μ S.length H d v) (e : pyS S d = some p) : Dp K H v p := by
  by_cases hl : ∃ n, d = .loc n
  · obtain ⟨n, rfl⟩ := hl
    simp only [pyS] at e
    split at e
    · rename_i ds he
      simp only [Option.map_eq_some_iff] at e
      obtain ⟨ps, e1, rfl⟩ := e
      obtain ⟨a, vs, rfl, h2, h3⟩ := rd_loc r h he
      exact .lst h2 (dps_of ds vs ps h3 e1)
    · cases e
  · refine dp_of d v p h ?_
    cases d with
    | loc n => exact absurd ⟨n, rfl⟩ hl
    | _ => exact e
theorem dpF_of {S : St'} {n : Nat} {d : D} {v : V} (r : Rel K μ S H) (h : RepV K μ S.length H d v) (e : datT n (frzS S d) = true) : ∃ p, pyD (frzS S d) = some p ∧ Dp K H v p ∧ PyData.plain p = true ∧ p.depth ≤ n := by
  obtain ⟨p, h1, h2, h3⟩ := py_datT n _ e
  refine ⟨p, h1, ?_, h2, h3⟩
  by_cases hl : ∃ n, d = .loc n
  · obtain ⟨m, rfl⟩ := hl
    simp only [frzS] at h1
    split at h1
    · rename_i ds he
      obtain ⟨ps, e1, rfl⟩ := Option.map_eq_some_iff.mp h1
      obtain ⟨a, vs, rfl, h2, h3⟩ := rd_loc r h he
      exact .lst h2 (dps_of ds vs ps h3 e1)
    · cases h1
  · refine dp_of d v p h ?_
    cases d with
    | loc n => exact absurd ⟨n, rfl⟩ hl
    | _ => exact h1
theorem flat_of {d : D} {v : V} (h : RepV K μ N H d v) (f : flatD d = true) : v = vD d ∧ flatV v = true := by
  cases d with
  | non => simp only [RepV] at h; subst h; exact ⟨rfl, rfl⟩
  | bl b => simp only [RepV] at h; subst h; exact ⟨rfl, rfl⟩
  | int b => simp only [RepV] at h; subst h; exact ⟨rfl, rfl⟩
  | str b => simp only [RepV] at h; subst h; exact ⟨rfl, rfl⟩
  | _ => cases f
theorem flats_of : ∀ {ds : List D} {vs : List V}, RepVs K μ N H ds vs → ds.all flatD = true → vs = ds.map vD ∧ vs.all flatV = true
  | [], vs, h, _ => by simp only [RepVs] at h; subst h; exact ⟨rfl, rfl⟩
  | d :: ds, vs, h, f => by
    simp only [RepVs] at h
    obtain ⟨v, vr, rfl, h2, h3⟩ := h
    rw [List.all_cons, Bool.and_eq_true] at f
    obtain ⟨e1, e2⟩ := flat_of h2 f.1
    obtain ⟨e3, e4⟩ := flats_of h3 f.2
    refine ⟨by rw [List.map_cons, ← e1, ← e3], by rw [List.all_cons, e2, e4]; rfl⟩
end
/-- a rule that gives a truth and leaves the store -/
def GivesB (K : PySem.W.Frag) (f : St' → D → D → R Bool) (r : R2) : Prop := ∀ μ S H x y k v w, Rel K μ S H → RepV K μ S.length H x v → RepV K μ S.length H y w → f S x y = .ok k → ∀ Q : VK, Q (.bl k) H → r v w H Q
abbrev rEqA (K : PySem.W.Frag) : R2 := fun x y H Q => rEq x y H Q ∨ rEqP K (fun b => b) x y H Q
abbrev rNeA (K : PySem.W.Frag) : R2 := fun x y H Q => rNe x y H Q ∨ rEqP K (fun b => !b) x y H Q
theorem dec_ss {x y : List Nat} : decide (V.str (ss x) = V.str (ss y)) = decide (x = y) := by
  by_cases h : x = y
  · subst h; simp
  · rw [decide_eq_false h, decide_eq_false fun z => h (ss_inj (V.str.inj z))]
theorem eqF_cases {K : PySem.W.Frag} {μ : Mu} {S : St'} {H : Hp} {x y : D} {k : Bool} {v w : V} (r : Rel K μ S H) (hx : RepV K μ S.length H x v) (hy : RepV K μ S.length H y w) (h : eqF S x y = .ok k) :
    (scal v w = true ∧ decide (v = w) = k) ∨ ∃ d e, Dp K H v d ∧ Dp K H w e ∧ PyData.plain d = true ∧ PyData.plain e = true ∧ d.depth ≤ 60 ∧ PyData.eqv d e = k := by
  unfold eqF at h
  split at h
  · cases h
    simp only [RepV] at hx hy; subst hx hy
    exact .inl ⟨rfl, by simp⟩
  · cases h
    simp only [RepV] at hx hy; subst hx hy
    exact .inl ⟨rfl, dec_ss⟩
  · cases h
    simp only [RepV] at hx hy; subst hx hy
    exact .inl ⟨rfl, by simp⟩
  · cases h
    simp only [RepV] at hx hy; subst hx hy
    exact .inl ⟨rfl, by simp⟩
  · cases h
    simp only [RepV] at hx hy; subst hx hy
    exact .inl ⟨rfl, by simp⟩
  · cases h
    simp only [RepV] at hx hy; subst hx hy
    exact .inl ⟨rfl, by simp⟩
  · cases h
    simp only [RepV] at hx hy; subst hx hy
    exact .inl ⟨rfl, by simp⟩
  · cases h
    simp only [RepV] at hx hy; subst hx hy
    exact .inl ⟨rfl, by simp⟩
  · split at h
    · rename_i hs
      cases h
      rw [Bool.and_eq_true] at hs
      obtain ⟨p, e1, p1, p2, p3⟩ := dpF_of r hx hs.1
      obtain ⟨q, e2, q1, q2, q3⟩ := dpF_of r hy hs.2
      exact .inr ⟨p, q, p1, q1, p2, q2, p3, eqv_dat _ _ p q e1 e2⟩
    · cases h
theorem gives_eq {K : PySem.W.Frag} : GivesB K eqF (rEqA K) := by
  intro μ S H x y k v w r hx hy hf Q q
  rcases eqF_cases r hx hy hf with ⟨h1, h2⟩ | ⟨d, e, h1, h2, h3, h4, h6, h5⟩
  · exact .inl ⟨h1, by rw [h2]; exact q⟩
  · exact .inr ⟨d, e, h1, h2, h3, h4, h6, by dsimp only; rw [h5]; exact q⟩
theorem gives_ne {K : PySem.W.Frag} : GivesB K (fun S a b => (eqF S a b).bind fun r => .ok (!r)) (rNeA K) := by
  intro μ S H x y k v w r hx hy hf Q q
  obtain ⟨k', e, hf⟩ := R.bind_eq_ok hf
  cases hf
  rcases eqF_cases r hx hy e with ⟨h1, h2⟩ | ⟨d, e, h1, h2, h3, h4, h6, h5⟩
  · exact .inl ⟨h1, by rw [h2]; exact q⟩
  · exact .inr ⟨d, e, h1, h2, h3, h4, h6, by dsimp only; rw [h5]; exact q⟩
abbrev rLtA (K : PySem.W.Frag) : R2 := fun x y H Q => (rI0 (fun i j => .bl (decide (i < j))) x y H Q ∨ ∃ i j, x = .str i ∧ y = .str j ∧ Q (.bl (decide (i.cps.toList < j.cps.toList))) H) ∨ rOrdD K (fun d e => PySem.W.dataLt d e) x y H Q
abbrev rGtA (K : PySem.W.Frag) : R2 := fun x y H Q => (rI0 (fun i j => .bl (decide (j < i))) x y H Q ∨ ∃ i j, x = .str i ∧ y = .str j ∧ Q (.bl (decide (j.cps.toList < i.cps.toList))) H) ∨ rOrdD K (fun d e => PySem.W.dataLt e d) x y H Q
abbrev rLeA (K : PySem.W.Frag) : R2 := fun x y H Q => (rI0 (fun i j => .bl (decide (i ≤ j))) x y H Q ∨ ∃ i j, x = .str i ∧ y = .str j ∧ Q (.bl (!decide (j.cps.toList < i.cps.toList))) H) ∨ rOrdD K (fun d e => !PySem.W.dataLt e d) x y H Q
abbrev rGeA (K : PySem.W.Frag) : R2 := fun x y H Q => (rI0 (fun i j => .bl (decide (j ≤ i))) x y H Q ∨ ∃ i j, x = .str i ∧ y = .str j ∧ Q (.bl (!decide (i.cps.toList < j.cps.toList))) H) ∨ rOrdD K (fun d e => !PySem.W.dataLt d e) x y H Q
theorem ord_of {K : PySem.W.Frag} {μ : Mu} {N : Nat} {H : Hp} {a b : D} {v w : V} (ha : RepV K μ N H a v) (hb : RepV K μ N H b w) (h : (alikeT a b && (!nonT a && datT 60 a && datT 60 b)) = true) :
    ∃ p q, Dp K H v p ∧ Dp K H w q ∧ PySem.W.alike p q = true ∧ PySem.W.alike q p = true ∧ p ≠ .none ∧ q ≠ .none ∧ p.depth ≤ 60 ∧ q.depth ≤ 60 ∧ PySem.W.dataLt p q = ltT a b := by
  simp only [Bool.and_eq_true] at h
  obtain ⟨h1, ⟨h2, h3⟩, h4⟩ := h
  obtain ⟨p, e1, p2, p3⟩ := py_datT 60 a h3
  obtain ⟨q, e2, q2, q3⟩ := py_datT 60 b h4
  have al := (alike_dat a b p q e1 e2).trans h1
  have np : p ≠ .none := fun e => by
    subst e
    rw [pyD_inj a .non .none e1 rfl] at h2
    cases h2
  have al2 : PySem.W.alike q p = true := by rw [← PySem.W.alike_comm]; exact al
  exact ⟨p, q, dp_of a v p ha e1, dp_of b w q hb e2, al, al2, np, PySem.W.ne_none_both al np, p3, q3, lt_dat a b p q e1 e2 h1⟩
theorem gives_lt {K : PySem.W.Frag} : GivesB K (fun _ a b => ltF a b) (rLtA K) := by
  intro μ S H x y k v w r hx hy hf Q q
  unfold ltF at hf
  dsimp only at hf
  split at hf
  · cases hf; simp only [RepV] at hx hy; subst hx hy
    exact .inl (.inl ⟨_, _, rfl, rfl, q⟩)
  · cases hf; simp only [RepV] at hx hy; subst hx hy
    exact .inl (.inr ⟨_, _, rfl, rfl, by simpa using q⟩)
  · split at hf
    · rename_i hc
      cases hf
      obtain ⟨p, p', h1, h2, h3, h4, h5, h6, h7, h8, h9⟩ := ord_of hx hy hc
      exact .inr ⟨p, p', h1, h2, h3, h5, h7, by dsimp only; rw [h9]; exact q⟩
    · cases hf
theorem gives_gt {K : PySem.W.Frag} : GivesB K (fun _ a b => ltF b a) (rGtA K) := by
  intro μ S H x y k v w r hx hy hf Q q
  unfold ltF at hf
  dsimp only at hf
  split at hf
  · cases hf; simp only [RepV] at hx hy; subst hx hy
    exact .inl (.inl ⟨_, _, rfl, rfl, q⟩)
  · cases hf; simp only [RepV] at hx hy; subst hx hy
    exact .inl (.inr ⟨_, _, rfl, rfl, by simpa using q⟩)
  · split at hf
    · rename_i hc
      cases hf
      obtain ⟨p, p', h1, h2, h3, h4, h5, h6, h7, h8, h9⟩ := ord_of hy hx hc
      exact .inr ⟨p', p, h2, h1, h4, h6, h8, by dsimp only; rw [h9]; exact q⟩
    · cases hf
theorem gives_le {K : PySem.W.Frag} : GivesB K (fun _ a b => leF a b) (rLeA K) := by
  intro μ S H x y k v w r hx hy hf Q q
  unfold leF at hf
  dsimp only at hf
  split at hf
  · cases hf; simp only [RepV] at hx hy; subst hx hy
    exact .inl (.inl ⟨_, _, rfl, rfl, q⟩)
  · cases hf; simp only [RepV] at hx hy; subst hx hy
    exact .inl (.inr ⟨_, _, rfl, rfl, by simpa using q⟩)
  · split at hf
    · rename_i hc
      cases hf
      have hc' : (alikeT y x && (!nonT y && datT 60 y && datT 60 x)) = true := by
        simp only [Bool.and_eq_true] at hc ⊢
        exact ⟨hc.1, ⟨hc.2.1.1, hc.2.2⟩, hc.2.1.2⟩
      obtain ⟨p, p', h1, h2, h3, h4, h5, h6, h7, h8, h9⟩ := ord_of hy hx hc'
      exact .inr ⟨p', p, h2, h1, h4, h6, h8, by dsimp only; rw [h9]; exact q⟩
    · cases hf
theorem gives_ge {K : PySem.W.Frag} : GivesB K (fun _ a b => leF b a) (rGeA K) := by
  intro μ S H x y k v w r hx hy hf Q q
  unfold leF at hf
  dsimp only at hf
  split at hf
  · cases hf; simp only [RepV] at hx hy; subst hx hy
    exact .inl (.inl ⟨_, _, rfl, rfl, q⟩)
  · cases hf; simp only [RepV] at hx hy; subst hx hy
    exact .inl (.inr ⟨_, _, rfl, rfl, by simpa using q⟩)
  · split at hf
    · rename_i hc
      cases hf
      have hc' : (alikeT x y && (!nonT x && datT 60 x && datT 60 y)) = true := by
        simp only [Bool.and_eq_true] at hc ⊢
        exact ⟨hc.1, ⟨hc.2.1.1, hc.2.2⟩, hc.2.1.2⟩
      obtain ⟨p, p', h1, h2, h3, h4, h5, h6, h7, h8, h9⟩ := ord_of hx hy hc'
      exact .inr ⟨p, p', h1, h2, h3, h5, h7, by dsimp only; rw [h9]; exact q⟩
    · cases hf
abbrev rInA (K : PySem.W.Frag) : R2 := fun x y H Q => (∃ (c : Nat) (z : Str), x = .str ⟨#[c]⟩ ∧ y = .str z ∧ Q (.bl (decide (c ∈ z.cps.toList))) H) ∨ (rIn K false x y H Q ∨ rInT K (fun b => b) x y H Q)
abbrev rNotInA (K : PySem.W.Frag) : R2 := fun x y H Q => (∃ (c : Nat) (z : Str), x = .str ⟨#[c]⟩ ∧ y = .str z ∧ Q (.bl (!decide (c ∈ z.cps.toList))) H) ∨ (rIn K true x y H Q ∨ rInT K (fun b => !b) x y H Q)
theorem any_dat {a : D} {p : PyData} (h : pyD a = some p) : ∀ {ds : List D} {ps : List PyData}, pyDs ds = some ps → (ps.any fun z => PyData.eqv z p) = ds.any fun z => eqT z a
  | [], ps, e => by cases e; rfl
  | d :: ds, ps, e => by
    obtain ⟨q, h3, h4⟩ := Option.bind_eq_some_iff.mp e
    obtain ⟨qr, h5, rfl⟩ := Option.map_eq_some_iff.mp h4
    rw [List.any_cons, List.any_cons, any_dat h h5, eqv_dat d a q p h3 h]
theorem inF_cases {K : PySem.W.Frag} {μ : Mu} {S : St'} {H : Hp} {x y : D} {k : Bool} {v w : V} (r : Rel K μ S H) (hx : RepV K μ S.length H x v) (hy : RepV K μ S.length H y w) (h : inF S x y = .ok k) :
    (∃ (c : Nat) (z : Str), v = .str ⟨#[c]⟩ ∧ w = .str z ∧ decide (c ∈ z.cps.toList) = k) ∨ (∃ p xs, w = .ref p ∧ (SqL K H p xs ∨ SqT K H p xs) ∧ flatV v = true ∧ xs.all flatV = true ∧ inV v xs = k) ∨ ∃ d ds, Dp K H v d ∧ (Dp K H w (.list ds) ∨ Dp K H w (.tuple ds)) ∧ PyData.plain d = true ∧ PyData.plainAll ds = true ∧ d.depth ≤ 60 ∧ (ds.any fun z => PyData.eqv z d) = k := by
  unfold inF at h
  split at h
  · cases h
    simp only [RepV] at hx hy; subst hx hy
    exact .inl ⟨_, _, rfl, rfl, by simp⟩
  · cases h
  · split at h
    · rename_i ds he
      split at h
      · rename_i hs
        cases h
        rw [Bool.and_eq_true] at hs
        obtain ⟨a, vs, rfl, h1, h2⟩ := rd_seqOf r hy he
        obtain ⟨e1, e2⟩ := flat_of hx hs.1
        obtain ⟨e3, e4⟩ := flats_of h2 hs.2
        exact .inr (.inl ⟨a, vs, rfl, h1, e2, e4, by rw [e1, e3]⟩)
      · split at h
        · rename_i hs
          cases h
          rw [Bool.and_eq_true] at hs
          obtain ⟨p, p1, p2, p3⟩ := py_datT 60 _ hs.1
          obtain ⟨ps, q1, q2, q3⟩ := pys_datT 60 _ hs.2
          obtain ⟨a, vs, rfl, h1, h2⟩ := rd_seqOf r hy he
          refine .inr (.inr ⟨p, ps, dp_of _ _ p hx p1, ?_, p2, q2, p3, ?_⟩)
          · rcases h1 with h1 | h1
            · exact .inl (.lst h1 (dps_of _ vs ps h2 q1))
            · exact .inr (.tup h1 (dps_of _ vs ps h2 q1))
          · exact any_dat p1 q1
        · cases h
    · cases h
theorem gives_in {K : PySem.W.Frag} : GivesB K inF (rInA K) := by
  intro μ S H x y k v w r hx hy hf Q q
  rcases inF_cases r hx hy hf with ⟨c, z, h1, h2, h3⟩ | ⟨p, xs, h1, h2, h3, h4, h5⟩ | ⟨d, ds, h1, h2, h3, h4, h5, h6⟩
  · exact .inl ⟨c, z, h1, h2, by rw [h3]; exact q⟩
  · exact .inr (.inl ⟨p, xs, h1, h2, h3, h4, by rw [h5]; exact q⟩)
  · exact .inr (.inr ⟨d, ds, h1, h2, h3, h4, h5, by dsimp only; rw [h6]; exact q⟩)
theorem gives_notIn {K : PySem.W.Frag} : GivesB K (fun S a b => (inF S a b).bind fun r => .ok (!r)) (rNotInA K) := by
  intro μ S H x y k v w r hx hy hf Q q
  obtain ⟨k', e, hf⟩ := R.bind_eq_ok hf
  cases hf
  rcases inF_cases r hx hy e with ⟨c, z, h1, h2, h3⟩ | ⟨p, xs, h1, h2, h3, h4, h5⟩ | ⟨d, ds, h1, h2, h3, h4, h5, h6⟩
  · exact .inl ⟨c, z, h1, h2, by rw [h3]; exact q⟩
  · exact .inr (.inl ⟨p, xs, h1, h2, h3, h4, by rw [h5]; exact q⟩)
  · exact .inr (.inr ⟨d, ds, h1, h2, h3, h4, h5, by dsimp only; rw [h6]; exact q⟩)
theorem isN_of {K : PySem.W.Frag} {μ : Mu} {N : Nat} {H : Hp} {d : D} {v : V} (h : RepV K μ N H d v) : decide (v = .non) = isN d := by
  cases d with
  | non => simp only [RepV] at h; subst h; rfl
  | bl b => simp only [RepV] at h; subst h; rfl
  | int b => simp only [RepV] at h; subst h; rfl
  | str b => simp only [RepV] at h; subst h; rfl
  | tup b => simp only [RepV] at h; obtain ⟨a, vs, rfl, _⟩ := h; rfl
  | lst b => simp only [RepV] at h; obtain ⟨a, vs, rfl, _⟩ := h; rfl
  | dct _ _ => simp only [RepV] at h; obtain ⟨a, vs, rfl, _⟩ := h; rfl
  | loc b => simp only [RepV] at h; obtain ⟨_, rfl⟩ := h; rfl
theorem op_isB {X : Cx} : OpR X (compareOp .Is) (fun x y H Q => ∃ c d, x = .bl c ∧ y = .bl d ∧ Q (.bl (c == d)) H) := by
  intro pins s σ H x y v u Q I rx ry h
  obtain ⟨c, d, rfl, rfl, q⟩ := h
  cases rx
  cases ry
  exact is_bool (fin_bl I q rfl)
theorem op_isNotB {X : Cx} : OpR X (compareOp .IsNot) (fun x y H Q => ∃ c d, x = .bl c ∧ y = .bl d ∧ Q (.bl (c != d)) H) := by
  intro pins s σ H x y v u Q I rx ry h
  obtain ⟨c, d, rfl, rfl, q⟩ := h
  cases rx
  cases ry
  exact isnot_bool (fin_bl I q rfl)
theorem gives_is {K : PySem.W.Frag} : GivesB K (cmpF0 .is_) (fun x y H Q => (y = .non ∧ Q (.bl (decide (x = .non))) H) ∨ ∃ c d, x = .bl c ∧ y = .bl d ∧ Q (.bl (c == d)) H) := by
  intro μ S H x y k v w r hx hy hf Q q
  simp only [cmpF0] at hf
  split at hf
  · cases hf
    simp only [RepV] at hy
    exact .inl ⟨hy, by rw [isN_of hx]; exact q⟩
  · split at hf <;> cases hf
    simp only [RepV] at hx hy
    exact .inr ⟨_, _, hx, hy, q⟩
  · cases hf
theorem gives_isNot {K : PySem.W.Frag} : GivesB K (cmpF0 .isNot) (fun x y H Q => (y = .non ∧ Q (.bl (!decide (x = .non))) H) ∨ ∃ c d, x = .bl c ∧ y = .bl d ∧ Q (.bl (c != d)) H) := by
  intro μ S H x y k v w r hx hy hf Q q
  simp only [cmpF0] at hf
  split at hf
  · cases hf
    simp only [RepV] at hy
    exact .inl ⟨hy, by rw [isN_of hx]; exact q⟩
  · split at hf <;> cases hf
    simp only [RepV] at hx hy
    exact .inr ⟨_, _, hx, hy, q⟩
  · cases hf
def opC : COp → CmpOp
  | .eq => .Eq | .ne => .NotEq | .lt => .Lt | .le => .LtE | .gt => .Gt | .ge => .GtE | .is_ => .Is | .isNot => .IsNot | .in_ => .In | .notIn => .NotIn
/-- every comparison has its rule -/
theorem opC_ok {X : Cx} (hu : X.A.units + 64 < cLine) (op : COp) : ∃ r, OpR X (compareOp (opC op)) r ∧ GivesB X.K (cmpF0 op) r := by
  cases op with
  | eq => exact ⟨_, op_eq.or (op_eqP hu), gives_eq⟩
  | ne => exact ⟨_, op_ne.or (op_neP hu), gives_ne⟩
  | lt => exact ⟨_, (op_lt.or op_lt_str).or (op_ltD hu), gives_lt⟩
  | le => exact ⟨_, (op_le.or op_le_str).or (op_leD hu), gives_le⟩
  | gt => exact ⟨_, (op_gt.or op_gt_str).or (op_gtD hu), gives_gt⟩
  | ge => exact ⟨_, (op_ge.or op_ge_str).or (op_geD hu), gives_ge⟩
  | is_ => exact ⟨_, op_isN.or op_isB, gives_is⟩
  | isNot => exact ⟨_, op_notN.or op_isNotB, gives_isNot⟩
  | in_ => exact ⟨_, op_in_sign.or (op_in_seq.or (op_inT hu)), gives_in⟩
  | notIn => exact ⟨_, op_notIn_sign.or (op_notIn_seq.or (op_notInT hu)), gives_notIn⟩
end TK

/-! TKe: tests, displays, subscripts, calls over the hand layer. -/
namespace TK
open PySem PySem.Spec PyProof.Rows L2
def noSet : Expr → Bool
  | .Set _ _ _ => false
  | _ => true
theorem noSet_ok {e : Expr} {op : CmpOp} (h : noSet e = true) : behindInMarks op e = false := by
  cases e <;> first | rfl | (cases h)
def noStar : Expr → Bool
  | .Starred _ _ => false
  | _ => true
theorem star_cons {e : Expr} {es : List Expr} {env : Env} (h : noStar e = true) : starEach (e :: es) env = (false, eval e env) :: starEach es env := by
  cases e <;> first | rfl | (cases h)
theorem star_any {pos : Pos} {env : Env} : ∀ {es : List Expr}, es.all noStar = true → (backTo pos (starEach es env)).any (·.1) = false
  | [], _ => rfl
  | e :: es, h => by
    rw [List.all_cons, Bool.and_eq_true] at h
    rw [star_cons h.1]
    show (false || (backTo pos (starEach es env)).any (·.1)) = false
    rw [star_any h.2]; rfl
def noSlice : Expr → Bool
  | .Slice _ _ _ _ => false
  | _ => true
theorem plainIx {e : Expr} (h : noSlice e = true) : ∀ o i, subscripted e false o i = operate [o, i] (getItem o i) := by
  intro o i
  cases e <;> first | rfl | (cases h)
section
variable {X : Cx} {a b c : Expr} {fa fb fc : M1} {pos : Pos}
theorem se_cmp {op : COp} (hu : X.A.units + 64 < cLine) (ha : SE X fa a) (hb : SE X fb b) (hn : noSet b = true) :
    SE X (fun env S => (fa env S).bind fun x => (fb env x.2).bind fun y => (cmpF0 op y.2 x.1 y.1).bind fun k => .ok (.bl k, y.2)) (.Compare a [opC op] [b] pos) := by
  obtain ⟨r, ho, hr⟩ := opC_ok hu op
  obtain ⟨ta, tb, h1, h2, h3⟩ := two ha hb
  refine ⟨_, pe_cmpR ho h1 h2 (noSet_ok hn), fun σ H μ env S d S' rl re hf Q q => ?_⟩
  obtain ⟨⟨x, S1⟩, e1, hf⟩ := R.bind_eq_ok hf
  obtain ⟨⟨y, S2⟩, e2, hf⟩ := R.bind_eq_ok hf
  obtain ⟨k, e3, hf⟩ := R.bind_eq_ok hf
  cases hf
  exact h3 σ H μ env S x S1 y _ rl re e1 e2 _ fun v w H' μ' r' x' rv rw' => hr μ' _ H' x y k v w r' rv rw' e3 Q (q _ H' μ' r' x' (by simp only [RepV]))
theorem st_cmp {op : COp} (hu : X.A.units + 64 < cLine) (ha : SE X fa a) (hb : SE X fb b) (hn : noSet b = true) :
    ST X (fun env S => (fa env S).bind fun x => (fb env x.2).bind fun y => (cmpF0 op y.2 x.1 y.1).bind fun k => .ok (k, y.2)) (.Compare a [opC op] [b] pos) := by
  obtain ⟨r, ho, hr⟩ := opC_ok hu op
  obtain ⟨ta, tb, h1, h2, h3⟩ := two ha hb
  refine ⟨_, pt_cmpR ho h1 h2 (noSet_ok hn), fun σ H μ env S d S' rl re hf Q q => ?_⟩
  obtain ⟨⟨x, S1⟩, e1, hf⟩ := R.bind_eq_ok hf
  obtain ⟨⟨y, S2⟩, e2, hf⟩ := R.bind_eq_ok hf
  obtain ⟨k, e3, hf⟩ := R.bind_eq_ok hf
  cases hf
  exact h3 σ H μ env S x S1 y _ rl re e1 e2 _ fun v w H' μ' r' x' rv rw' => hr μ' _ H' x y _ v w r' rv rw' e3 _ ⟨_, rfl, q H' μ' r' x'⟩
theorem chain_marks {o1 o2 : CmpOp} {b c : Expr} (h : noSet c = true) : lastMarks [o1, o2] [b, c] = false := noSet_ok h
theorem se_chain {o1 o2 : COp} (hu : X.A.units + 64 < cLine) (ha : SE X fa a) (hb : SE X fb b) (hc : SE X fc c) (hn : noSet c = true) :
    SE X (fun env S => (fa env S).bind fun x => (fb env x.2).bind fun y => (cmpF0 o1 y.2 x.1 y.1).bind fun k =>
      if k then (fc env y.2).bind fun z => (cmpF0 o2 z.2 y.1 z.1).bind fun k2 => .ok (.bl k2, z.2) else .ok (.bl false, y.2)) (.Compare a [opC o1, opC o2] [b, c] pos) := by
  obtain ⟨r, ho, hr⟩ := opC_ok hu o1
  obtain ⟨r', ho', hr'⟩ := opC_ok hu o2
  obtain ⟨ta, tb, h1, h2, h3⟩ := two ha hb
  obtain ⟨tc, h4, h5⟩ := hc
  refine ⟨_, pe_chain ho ho' h1 h2 h4 (chain_marks hn), fun σ H μ env S d S' rl re hf Q q => ?_⟩
  obtain ⟨⟨x, S1⟩, e1, hf⟩ := R.bind_eq_ok hf
  obtain ⟨⟨y, S2⟩, e2, hf⟩ := R.bind_eq_ok hf
  obtain ⟨k, e3, hf⟩ := R.bind_eq_ok hf
  refine h3 σ H μ env S x S1 y S2 rl re e1 e2 _ fun v w H' μ' r1 x1 rv rw' => hr μ' _ H' x y _ v w r1 rv rw' e3 _ ⟨_, rfl, ?_⟩
  cases k with
  | true =>
    rw [if_pos rfl] at hf ⊢
    obtain ⟨⟨z, S3⟩, e4, hf⟩ := R.bind_eq_ok hf
    obtain ⟨k2, e5, hf⟩ := R.bind_eq_ok hf
    cases hf
    refine h5 σ H' μ' env S2 z _ r1 (re.ext x1) e4 _ fun u H'' μ'' r2 x2 ru => ?_
    exact hr' μ'' _ H'' y z k2 w u r2 (RepV.ext x2 _ _ rw') ru e5 Q (q _ H'' μ'' r2 (x1.trans x2) (by simp only [RepV]))
  | false =>
    rw [if_neg Bool.false_ne_true] at hf ⊢
    cases hf
    exact q _ H' μ' r1 x1 (by simp only [RepV])
theorem st_chain {o1 o2 : COp} (hu : X.A.units + 64 < cLine) (ha : SE X fa a) (hb : SE X fb b) (hc : SE X fc c) (hn : noSet c = true) :
    ST X (fun env S => (fa env S).bind fun x => (fb env x.2).bind fun y => (cmpF0 o1 y.2 x.1 y.1).bind fun k =>
      if k then (fc env y.2).bind fun z => (cmpF0 o2 z.2 y.1 z.1).bind fun k2 => .ok (k2, z.2) else .ok (false, y.2)) (.Compare a [opC o1, opC o2] [b, c] pos) := by
  obtain ⟨r, ho, hr⟩ := opC_ok hu o1
  obtain ⟨r', ho', hr'⟩ := opC_ok hu o2
  obtain ⟨ta, tb, h1, h2, h3⟩ := two ha hb
  obtain ⟨tc, h4, h5⟩ := hc
  refine ⟨_, pt_chain ho ho' h1 h2 h4 (chain_marks hn), fun σ H μ env S d S' rl re hf Q q => ?_⟩
  obtain ⟨⟨x, S1⟩, e1, hf⟩ := R.bind_eq_ok hf
  obtain ⟨⟨y, S2⟩, e2, hf⟩ := R.bind_eq_ok hf
  obtain ⟨k, e3, hf⟩ := R.bind_eq_ok hf
  refine h3 σ H μ env S x S1 y S2 rl re e1 e2 _ fun v w H' μ' r1 x1 rv rw' => hr μ' _ H' x y _ v w r1 rv rw' e3 _ ⟨_, rfl, ?_⟩
  cases k with
  | true =>
    rw [if_pos rfl] at hf ⊢
    obtain ⟨⟨z, S3⟩, e4, hf⟩ := R.bind_eq_ok hf
    obtain ⟨k2, e5, hf⟩ := R.bind_eq_ok hf
    cases hf
    refine h5 σ H' μ' env S2 z _ r1 (re.ext x1) e4 _ fun u H'' μ'' r2 x2 ru => ?_
    exact hr' μ'' _ H'' y z _ w u r2 (RepV.ext x2 _ _ rw') ru e5 _ ⟨_, rfl, q H'' μ'' r2 (x1.trans x2)⟩
  | false =>
    rw [if_neg Bool.false_ne_true] at hf ⊢
    cases hf
    exact ⟨_, rfl, q H' μ' r1 x1⟩
theorem se_neg (ha : SE X fa a) : SE X (fun env S => (fa env S).bind fun x => match x.1 with | .int i => .ok (.int (-i), x.2) | _ => .bad) (.UnaryOp .USub a pos) := by
  obtain ⟨ta, h1, h2⟩ := ha
  refine ⟨_, pe_un un_neg h1, fun σ H μ env S d S' rl re hf Q q => ?_⟩
  obtain ⟨⟨x, S1⟩, e1, hf⟩ := R.bind_eq_ok hf
  dsimp only at hf
  split at hf <;> cases hf
  refine h2 σ H μ env S _ _ rl re e1 _ fun v H' μ' r' x' rv => ?_
  simp only [RepV] at rv
  exact ⟨_, rv, q _ H' μ' r' x' (by simp only [RepV])⟩
theorem se_not (ha : SE X fa a) : SE X (fun env S => (fa env S).bind fun x => match x.1 with | .bl k => .ok (.bl (!k), x.2) | _ => .bad) (.UnaryOp .Not a pos) := by
  obtain ⟨ta, h1, h2⟩ := ha
  refine ⟨_, pe_not h1, fun σ H μ env S d S' rl re hf Q q => ?_⟩
  obtain ⟨⟨x, S1⟩, e1, hf⟩ := R.bind_eq_ok hf
  dsimp only at hf
  split at hf <;> cases hf
  refine h2 σ H μ env S _ _ rl re e1 _ fun v H' μ' r' x' rv => ?_
  simp only [RepV] at rv
  exact ⟨_, rv, q _ H' μ' r' x' (by simp only [RepV])⟩
theorem st_not {f : Env' → St' → R (Bool × St')} (ha : ST X f a) : ST X (fun env S => (f env S).bind fun k => .ok (!k.1, k.2)) (.UnaryOp .Not a pos) := by
  obtain ⟨ta, h1, h2⟩ := ha
  refine ⟨_, pt_not h1, fun σ H μ env S d S' rl re hf Q q => ?_⟩
  obtain ⟨⟨x, S1⟩, e1, hf⟩ := R.bind_eq_ok hf
  cases hf
  exact h2 σ H μ env S _ _ rl re e1 _ q
/-- the truth of a value, as a test -/
def plainT : Expr → Bool
  | .UnaryOp .Not _ _ => false
  | .BoolOp _ _ _ => false
  | .IfExp _ _ _ _ => false
  | .Compare _ _ _ _ => false
  | _ => true
theorem plainT_ok {e : Expr} {env : Env} (h : plainT e = true) : ∀ whole, isTrue e env whole = (do let v ← whole; standAt e.pos; holding [v] (truthy v)) := by
  intro whole
  cases e with
  | UnaryOp op x p => cases op <;> first | rfl | (cases h)
  | BoolOp => cases h
  | IfExp => cases h
  | Compare => cases h
  | _ => rfl
theorem truF_of {K : PySem.W.Frag} {μ : Mu} {S : St'} {H : Hp} {d : D} {k : Bool} {v : V} (r : Rel K μ S H) (h : RepV K μ S.length H d v) (e : truF S d = .ok k) : TruV K v H k := by
  have fin : ∀ ds, seqOf S d = some ds → k = !ds.isEmpty → TruV K v H k := fun ds e1 e2 => by
    obtain ⟨a, vs, rfl, h1, h2⟩ := rd_seqOf r h e1
    have hl := h2.length
    have : ds.isEmpty = vs.isEmpty := by
      cases ds <;> cases vs <;> first | rfl | (simp at hl)
    rw [this] at e2
    rcases h1 with h1 | h1
    · exact .inl ⟨vs, h1, e2⟩
    · exact .inr (.inl ⟨vs, h1, e2⟩)
  cases d with
  | non => simp only [truF, R.ok.injEq] at e; simp only [RepV] at h; subst h; exact e.symm
  | bl b => simp only [truF, R.ok.injEq] at e; simp only [RepV] at h; subst h; exact e.symm
  | int b => simp only [truF, R.ok.injEq] at e; simp only [RepV] at h; subst h; exact e.symm
  | str x =>
    simp only [truF] at e
    split at e
    · rename_i hz
      cases e
      simp only [RepV] at h; subst h
      refine ⟨by rw [ss_len, sizeLine_eq]; exact hz, ?_⟩
      rw [ss_len]
      cases x with
      | nil => rfl
      | cons c r =>
        have : ((c :: r).length : Int) ≠ 0 := by rw [List.length_cons]; omega
        show (!false) = _
        simp [bne]
        omega
    · cases e
  | tup ds => exact fin ds rfl (by simp only [truF, seqOf, R.ok.injEq] at e; exact e.symm)
  | lst ds => exact fin ds rfl (by simp only [truF, seqOf, lstOf, R.ok.injEq] at e; exact e.symm)
  | dct ks vs => simp only [truF, seqOf, lstOf] at e; cases e
  | loc n =>
    simp only [truF] at e
    split at e
    · rename_i ds he
      cases e
      exact fin ds he rfl
    · cases e
theorem st_tru (ha : SE X fa a) (hp : plainT a = true) : ST X (fun env S => (fa env S).bind fun x => (truF x.2 x.1).bind fun k => .ok (k, x.2)) a := by
  obtain ⟨ta, h1, h2⟩ := ha
  refine ⟨_, pt_truth h1 (plainT_ok hp), fun σ H μ env S d S' rl re hf Q q => ?_⟩
  obtain ⟨⟨x, S1⟩, e1, hf⟩ := R.bind_eq_ok hf
  obtain ⟨k, e2, hf⟩ := R.bind_eq_ok hf
  cases hf
  exact h2 σ H μ env S _ _ rl re e1 _ fun v H' μ' r' x' rv => ⟨_, truF_of r' rv e2, q H' μ' r' x'⟩
/-! and, or -/
variable {rest : List Expr} {f g : Env' → St' → R (Bool × St')}
theorem sw_and1 (ha : ST X f a) : SW X (fun env S => (f env S).bind fun k => if k.1 then .ok (true, k.2) else .ok (false, k.2)) (.BoolOp .And [a] pos) := by
  obtain ⟨ta, h1, h2⟩ := ha
  refine ⟨_, pw_and1 h1, fun σ H μ env S d S' rl re hf Q q => ?_⟩
  obtain ⟨⟨x, S1⟩, e1, hf⟩ := R.bind_eq_ok hf
  have e : (x, S1) = (d, S') := by cases x <;> (cases hf; rfl)
  cases e
  exact h2 σ H μ env S _ _ rl re e1 _ q
theorem sw_or1 (ha : ST X f a) : SW X (fun env S => (f env S).bind fun k => if k.1 then .ok (true, k.2) else .ok (false, k.2)) (.BoolOp .Or [a] pos) := by
  obtain ⟨ta, h1, h2⟩ := ha
  refine ⟨_, pw_or1 h1, fun σ H μ env S d S' rl re hf Q q => ?_⟩
  obtain ⟨⟨x, S1⟩, e1, hf⟩ := R.bind_eq_ok hf
  have e : (x, S1) = (d, S') := by cases x <;> (cases hf; rfl)
  cases e
  exact h2 σ H μ env S _ _ rl re e1 _ q
theorem sw_and (ha : ST X f a) (hb : SW X g (.BoolOp .And (b :: rest) pos)) : SW X (fun env S => (f env S).bind fun k => if k.1 then g env k.2 else .ok (false, k.2)) (.BoolOp .And (a :: b :: rest) pos) := by
  obtain ⟨ta, h1, h2⟩ := ha
  obtain ⟨tb, h3, h4⟩ := hb
  refine ⟨_, pw_and h1 h3, fun σ H μ env S d S' rl re hf Q q => ?_⟩
  obtain ⟨⟨x, S1⟩, e1, hf⟩ := R.bind_eq_ok hf
  refine h2 σ H μ env S _ _ rl re e1 _ fun H' μ' r' x' => ?_
  cases x with
  | true =>
    rw [if_pos rfl] at hf ⊢
    exact h4 σ H' μ' env S1 _ _ r' (re.ext x') hf Q fun H'' μ'' r'' x'' => q H'' μ'' r'' (x'.trans x'')
  | false =>
    rw [if_neg Bool.false_ne_true] at hf ⊢
    cases hf
    exact q H' μ' r' x'
theorem sw_or (ha : ST X f a) (hb : SW X g (.BoolOp .Or (b :: rest) pos)) : SW X (fun env S => (f env S).bind fun k => if k.1 then .ok (true, k.2) else g env k.2) (.BoolOp .Or (a :: b :: rest) pos) := by
  obtain ⟨ta, h1, h2⟩ := ha
  obtain ⟨tb, h3, h4⟩ := hb
  refine ⟨_, pw_or h1 h3, fun σ H μ env S d S' rl re hf Q q => ?_⟩
  obtain ⟨⟨x, S1⟩, e1, hf⟩ := R.bind_eq_ok hf
  refine h2 σ H μ env S _ _ rl re e1 _ fun H' μ' r' x' => ?_
  cases x with
  | false =>
    rw [if_neg Bool.false_ne_true] at hf ⊢
    exact h4 σ H' μ' env S1 _ _ r' (re.ext x') hf Q fun H'' μ'' r'' x'' => q H'' μ'' r'' (x'.trans x'')
  | true =>
    rw [if_pos rfl] at hf ⊢
    cases hf
    exact q H' μ' r' x'
/-- .. as values -/
theorem se_one {op : BoolOp} (ha : SE X fa a) : SE X fa (.BoolOp op [a] pos) := let ⟨t, h1, h2⟩ := ha; ⟨t, pe_one h1, h2⟩
theorem se_and (ha : SE X fa a) (hb : SE X fb (.BoolOp .And (b :: rest) pos)) : SE X (fun env S => (fa env S).bind fun x => match x.1 with | .bl true => fb env x.2 | .bl false => .ok (.bl false, x.2) | _ => .bad) (.BoolOp .And (a :: b :: rest) pos) := by
  obtain ⟨ta, h1, h2⟩ := ha
  obtain ⟨tb, h3, h4⟩ := hb
  refine ⟨_, pe_and h1 h3, fun σ H μ env S d S' rl re hf Q q => ?_⟩
  obtain ⟨⟨x, S1⟩, e1, hf⟩ := R.bind_eq_ok hf
  dsimp only at hf
  split at hf
  · refine h2 σ H μ env S _ _ rl re e1 _ fun v H' μ' r' x' rv => ?_
    simp only [RepV] at rv
    refine ⟨_, rv, ?_⟩
    rw [if_pos rfl]
    exact h4 σ H' μ' env S1 _ _ r' (re.ext x') hf Q fun v H'' μ'' r'' x'' => q v H'' μ'' r'' (x'.trans x'')
  · cases hf
    refine h2 σ H μ env S _ _ rl re e1 _ fun v H' μ' r' x' rv => ?_
    simp only [RepV] at rv
    refine ⟨_, rv, ?_⟩
    rw [if_neg Bool.false_ne_true]
    exact q _ H' μ' r' x' (by simp only [RepV])
  · cases hf
theorem se_or (ha : SE X fa a) (hb : SE X fb (.BoolOp .Or (b :: rest) pos)) : SE X (fun env S => (fa env S).bind fun x => match x.1 with | .bl false => fb env x.2 | .bl true => .ok (.bl true, x.2) | _ => .bad) (.BoolOp .Or (a :: b :: rest) pos) := by
  obtain ⟨ta, h1, h2⟩ := ha
  obtain ⟨tb, h3, h4⟩ := hb
  refine ⟨_, pe_or h1 h3, fun σ H μ env S d S' rl re hf Q q => ?_⟩
  obtain ⟨⟨x, S1⟩, e1, hf⟩ := R.bind_eq_ok hf
  dsimp only at hf
  split at hf
  · refine h2 σ H μ env S _ _ rl re e1 _ fun v H' μ' r' x' rv => ?_
    simp only [RepV] at rv
    refine ⟨_, rv, ?_⟩
    rw [if_neg Bool.false_ne_true]
    exact h4 σ H' μ' env S1 _ _ r' (re.ext x') hf Q fun v H'' μ'' r'' x'' => q v H'' μ'' r'' (x'.trans x'')
  · cases hf
    refine h2 σ H μ env S _ _ rl re e1 _ fun v H' μ' r' x' rv => ?_
    simp only [RepV] at rv
    refine ⟨_, rv, ?_⟩
    rw [if_pos rfl]
    exact q _ H' μ' r' x' (by simp only [RepV])
  · cases hf
theorem se_ife (hc : ST X f c) (ha : SE X fa a) (hb : SE X fb b) : SE X (fun env S => (f env S).bind fun k => if k.1 then fa env k.2 else fb env k.2) (.IfExp c a b pos) := by
  obtain ⟨tc, h1, h2⟩ := hc
  obtain ⟨ta, h3, h4⟩ := ha
  obtain ⟨tb, h5, h6⟩ := hb
  refine ⟨_, pe_ifExp h1 h3 h5, fun σ H μ env S d S' rl re hf Q q => ?_⟩
  obtain ⟨⟨x, S1⟩, e1, hf⟩ := R.bind_eq_ok hf
  refine h2 σ H μ env S _ _ rl re e1 _ fun H' μ' r' x' => ?_
  cases x with
  | true =>
    rw [if_pos rfl] at hf ⊢
    exact h4 σ H' μ' env S1 _ _ r' (re.ext x') hf Q fun v H'' μ'' r'' x'' => q v H'' μ'' r'' (x'.trans x'')
  | false =>
    rw [if_neg Bool.false_ne_true] at hf ⊢
    exact h6 σ H' μ' env S1 _ _ r' (re.ext x') hf Q fun v H'' μ'' r'' x'' => q v H'' μ'' r'' (x'.trans x'')
/-! argument lists, displays -/
variable {es : List Expr} {fs : Env' → St' → R (List D × St')}
theorem sa_nil : SA X (fun _ S => .ok ([], S)) [] := by
  refine ⟨_, pa_nil, fun σ H μ env S d S' rl re hf Q q => ?_⟩
  cases hf
  exact q [] H μ rl (Ext.refl rl) (by simp only [RepVs])
theorem sa_cons (ha : SE X fa a) (hs : SA X fs es) (hn : noStar a = true) : SA X (fun env S => (fa env S).bind fun x => (fs env x.2).bind fun y => .ok (x.1 :: y.1, y.2)) (a :: es) := by
  obtain ⟨ta, h1, h2⟩ := ha
  obtain ⟨tb, h3, h4⟩ := hs
  refine ⟨_, pa_cons h1 h3 (star_cons hn), fun σ H μ env S d S' rl re hf Q q => ?_⟩
  obtain ⟨⟨x, S1⟩, e1, hf⟩ := R.bind_eq_ok hf
  obtain ⟨⟨xs, S2⟩, e2, hf⟩ := R.bind_eq_ok hf
  cases hf
  refine h2 σ H μ env S _ _ rl re e1 _ fun v H' μ' r' x' rv => ?_
  refine h4 σ H' μ' env S1 _ _ r' (re.ext x') e2 _ fun vs H'' μ'' r'' x'' rvs => ?_
  exact q (v :: vs) H'' μ'' r'' (x'.trans x'') (by simp only [RepVs]; exact ⟨v, vs, rfl, RepV.ext x'' _ _ rv, rvs⟩)
theorem se_tup {k : Nat} (hs : SA X fs es) : SE X (fun env S => (fs env S).bind fun x => if x.1.length ≤ lim then .ok (.tup x.1, x.2) else .bad) (.Tuple es k pos) := by
  obtain ⟨ta, h1, h2⟩ := hs
  refine ⟨_, pe_tup h1, fun σ H μ env S d S' rl re hf Q q => ?_⟩
  obtain ⟨⟨x, S1⟩, e1, hf⟩ := R.bind_eq_ok hf
  dsimp only at hf
  split at hf <;> cases hf
  rename_i hz
  refine h2 σ H μ env S _ _ rl re e1 _ fun vs H' μ' r' x' rv => ⟨?_, fun p hp => Fin1.tup q r' x' rv p hp⟩
  rw [← rv.length, sizeLine_eq]; exact hz
theorem sf_lst (hs : SA X fs es) : SF X (fun env S => (fs env S).bind fun x => if x.1.length ≤ lim then .ok (.lst x.1, x.2) else .bad) (.List es pos) := by
  obtain ⟨ta, h1, h2⟩ := hs
  refine ⟨_, pe_lst h1, fun σ H μ env S d S' rl re hf Q q => ?_⟩
  obtain ⟨⟨x, S1⟩, e1, hf⟩ := R.bind_eq_ok hf
  dsimp only at hf
  split at hf <;> cases hf
  rename_i hz
  refine h2 σ H μ env S _ _ rl re e1 _ fun vs H' μ' r' x' rv => ⟨?_, fun p hp => q p vs H' μ' r' x' hp rv⟩
  rw [← rv.length, sizeLine_eq]; exact hz
theorem se_lst (hs : SA X fs es) : SE X (fun env S => (fs env S).bind fun x => if x.1.length ≤ lim then .ok (.lst x.1, x.2) else .bad) (.List es pos) := by
  refine (sf_lst hs).se fun env S d S' hf => ?_
  obtain ⟨⟨x, S1⟩, e1, hf⟩ := R.bind_eq_ok hf
  dsimp only at hf
  split at hf <;> cases hf
  exact ⟨_, rfl⟩
/-! subscripts -/
theorem atI_len {α β : Type} {xs : List α} {ys : List β} (h : xs.length = ys.length) (i : Int) : ixN xs.length i = ixN ys.length i := by rw [h]
theorem atI_rep {K : PySem.W.Frag} {μ : Mu} {N : Nat} {H : Hp} {ds : List D} {vs : List V} {i : Int} {d : D} (r : RepVs K μ N H ds vs) (h : atI ds i = some d) : ∃ v, atI vs i = some v ∧ RepV K μ N H d v := by
  unfold atI at h ⊢
  rw [← r.length]
  cases e : ixN ds.length i with
  | none => rw [e] at h; cases h
  | some j =>
    rw [e] at h
    exact r.get h
theorem gives_idx {K : PySem.W.Frag} : Gives K idxF0 (rIx K) := by
  intro μ S H x y d v w r hx hy hf Q q
  unfold idxF0 at hf
  split at hf
  · simp only [RepV] at hy
    subst hy
    split at hf
    · split at hf
      · rename_i hz
        split at hf
        · rename_i c hc
          cases hf
          simp only [RepV] at hx
          subst hx
          exact .inr (.inr ⟨_, _, c, rfl, rfl, by rw [ss_len, sizeLine_eq]; exact hz, by simpa using hc, q _ _ μ r (Ext.refl r) (by simp only [RepV])⟩)
        · cases hf
      · cases hf
    · split at hf
      · rename_i ds he
        split at hf
        · rename_i d' hd
          cases hf
          obtain ⟨a, vs, rfl, h1, h2⟩ := rd_seqOf r hx he
          obtain ⟨v', e1, e2⟩ := atI_rep h2 hd
          rcases h1 with h1 | h1
          · exact .inl ⟨a, vs, _, v', rfl, rfl, h1, e1, q v' H μ r (Ext.refl r) e2⟩
          · exact .inr (.inl ⟨a, vs, _, v', rfl, rfl, h1, e1, q v' H μ r (Ext.refl r) e2⟩)
        · cases hf
      · cases hf
  · cases hf
theorem se_idx (ha : SE X fa a) (hb : SE X fb b) (hn : noSlice b = true) : SE X (fun env S => (fa env S).bind fun x => (fb env x.2).bind fun y => (idxF0 y.2 x.1 y.1).bind fun d => .ok (d, y.2)) (.Subscript a b pos) := by
  obtain ⟨ta, tb, h1, h2, h3⟩ := two ha hb
  refine ⟨_, pe_ix ix_seq h1 h2 (plainIx hn), fun σ H μ env S d S' rl re hf Q q => ?_⟩
  obtain ⟨⟨x, S1⟩, e1, hf⟩ := R.bind_eq_ok hf
  obtain ⟨⟨y, S2⟩, e2, hf⟩ := R.bind_eq_ok hf
  obtain ⟨d', e3, hf⟩ := R.bind_eq_ok hf
  cases hf
  exact h3 σ H μ env S x S1 y _ rl re e1 e2 _ fun v w H' μ' r' x' rv rw' => gives_idx μ' _ H' x y d v w r' rv rw' e3 Q fun v' H'' μ'' a1 a2 a3 => q v' H'' μ'' a1 (x'.trans a2) a3
end
end TK

/-! TKf: slices, calls of defs and built-ins, methods over the hand layer. -/
namespace TK
open PySem PySem.Spec PyProof.Rows L2
section
variable {X : Cx} {a b c : Expr} {fa fb fc : M1} {pos : Pos} {es : List Expr} {fs : Env' → St' → R (List D × St')}
theorem cutV_rep {K : PySem.W.Frag} {μ : Mu} {N : Nat} {H : Hp} {ds : List D} {vs : List V} {lo hi : Option Int} (r : RepVs K μ N H ds vs) : RepVs K μ N H (cutD ds lo hi) (cutV vs lo hi) := by
  unfold cutD cutV
  rw [r.length]
  exact (r.drop _).take _
/-- a slice's part -/
def SO (X : Cx) (fs : Env' → St' → R (List D × St')) (e : Option Expr) : Prop := ∃ t, PO X e t ∧ ∀ σ H μ env S ds o S', Rel X.K μ S H → REnv X.K μ S.length H env σ → fs env S = .ok (ds, S') → optI ds = .ok o → ∀ Q : Option Int → Hp → Prop, FinB X.K μ S H S' (Q o) → t σ H Q
theorem so_none : SO X (fun _ S => .ok ([], S)) none := by
  refine ⟨_, po_none, fun σ H μ env S ds o S' rl re hf ho Q q => ?_⟩
  cases hf
  cases ho
  exact q H μ rl (Ext.refl rl)
theorem so_some (ha : SE X fa a) : SO X (fun env S => (fa env S).bind fun x => (R.ok ([], x.2)).bind fun y => .ok (x.1 :: y.1, y.2)) (some a) := by
  obtain ⟨ta, h1, h2⟩ := ha
  refine ⟨_, po_some h1, fun σ H μ env S ds o S' rl re hf ho Q q => ?_⟩
  obtain ⟨⟨x, S1⟩, e1, hf⟩ := R.bind_eq_ok hf
  cases hf
  refine h2 σ H μ env S _ _ rl re e1 _ fun v H' μ' r' x' rv => ?_
  cases x with
  | int i =>
    cases ho
    simp only [RepV] at rv
    exact ⟨i, rv, q H' μ' r' x'⟩
  | _ => cases ho
abbrev rSlAll (K : PySem.W.Frag) : V → Option Int → Option Int → Hp → VK → Prop := fun x lo hi H Q => (rSlS x lo hi H Q ∨ rSlA K x lo hi H Q) ∨ rSlL K x lo hi H Q
theorem slc_rep {K : PySem.W.Frag} {μ : Mu} {S : St'} {H : Hp} {x d : D} {lo hi : Option Int} {v : V} (r : Rel K μ S H) (h : RepV K μ S.length H x v) (e : slcF S x lo hi = .ok d) {Q : VK} (q : Fin1 K μ S H d S Q) : rSlAll K v lo hi H Q := by
  unfold slcF at e
  split at e
  · split at e
    · rename_i hz
      cases e
      simp only [RepV] at h
      subst h
      refine .inl (.inl ⟨_, rfl, by rw [ss_len, sizeLine_eq]; exact hz, q _ _ μ r (Ext.refl r) ?_⟩)
      simp only [RepV, cutS, cutD, ss_len]
    · cases e
  · cases e
    have h0 := h
    simp only [RepV] at h
    obtain ⟨a, vs, rfl, h1, h2⟩ := h
    refine .inl (.inr ⟨a, vs, rfl, h1.sq, fun hw => ?_, fun hw p hp => Fin1.tup q r (Ext.refl r) (cutV_rep h2) p hp⟩)
    have e1 : cutD ‹List D› lo hi = ‹List D› := by
      unfold cutD
      rw [h2.length, hw.1, hw.2, List.drop_zero, ← h2.length, Nat.sub_zero, List.take_length]
    rw [e1] at q
    exact q _ _ μ r (Ext.refl r) h0
  · split at e
    · rename_i ds he
      cases e
      obtain ⟨a, vs, rfl, h1, h2⟩ := (rd_lstOf r h he).sq
      exact .inr ⟨a, vs, rfl, h1, fun p hp => FinN.of q p _ H μ r (Ext.refl r) hp (cutV_rep h2)⟩
    · cases e
theorem se_slc {lo hi : Option Expr} {fl fh : Env' → St' → R (List D × St')} {p2 : Pos} (ha : SE X fa a) (hl : SO X fl lo) (hh : SO X fh hi) :
    SE X (fun env S => (fa env S).bind fun x => (fl env x.2).bind fun y => (optI y.1).bind fun l => (fh env y.2).bind fun z => (optI z.1).bind fun h => (slcF z.2 x.1 l h).bind fun d => .ok (d, z.2)) (.Subscript a (.Slice lo hi none p2) pos) := by
  obtain ⟨ta, h1, h2⟩ := ha
  obtain ⟨tl, h3, h4⟩ := hl
  obtain ⟨th, h5, h6⟩ := hh
  refine ⟨_, pe_slice ((sl_str.or sl_tupA).or sl_list) h1 h3 h5, fun σ H μ env S d S' rl re hf Q q => ?_⟩
  obtain ⟨⟨x, S1⟩, e1, hf⟩ := R.bind_eq_ok hf
  obtain ⟨⟨y, S2⟩, e2, hf⟩ := R.bind_eq_ok hf
  obtain ⟨l, e3, hf⟩ := R.bind_eq_ok hf
  obtain ⟨⟨z, S3⟩, e4, hf⟩ := R.bind_eq_ok hf
  obtain ⟨h, e5, hf⟩ := R.bind_eq_ok hf
  obtain ⟨d', e6, hf⟩ := R.bind_eq_ok hf
  cases hf
  refine h2 σ H μ env S _ _ rl re e1 _ fun v H1 μ1 r1 x1 rv => ?_
  refine h4 σ H1 μ1 env S1 _ _ _ r1 (re.ext x1) e2 e3 _ fun H2 μ2 r2 x2 => ?_
  refine h6 σ H2 μ2 env S2 _ _ _ r2 ((re.ext x1).ext x2) e4 e5 _ fun H3 μ3 r3 x3 => ?_
  have x03 := (x1.trans x2).trans x3
  exact slc_rep r3 (RepV.ext (x2.trans x3) _ _ rv) e6 fun v' H4 μ4 a1 a2 a3 => q v' H4 μ4 a1 (x03.trans a2) a3
theorem slcF_lst {S : St'} {x : D} {l h : Option Int} {d : List D} (e : slcF S x l h = .ok (.lst d)) : ∃ ds, lstOf S x = some ds ∧ d = cutD ds l h := by
  unfold slcF at e
  split at e
  · split at e <;> cases e
  · cases e
  · split at e <;> cases e
    rename_i he
    exact ⟨_, he, rfl⟩
/-- a slice of a list, as a new one -/
theorem sf_slc {lo hi : Option Expr} {fl fh : Env' → St' → R (List D × St')} {p2 : Pos} (ha : SE X fa a) (hl : SO X fl lo) (hh : SO X fh hi) :
    SF X (fun env S => (fa env S).bind fun x => (fl env x.2).bind fun y => (optI y.1).bind fun l => (fh env y.2).bind fun z => (optI z.1).bind fun h => (slcF z.2 x.1 l h).bind fun d => .ok (d, z.2)) (.Subscript a (.Slice lo hi none p2) pos) := by
  obtain ⟨ta, h1, h2⟩ := ha
  obtain ⟨tl, h3, h4⟩ := hl
  obtain ⟨th, h5, h6⟩ := hh
  refine ⟨_, pe_slice sl_list h1 h3 h5, fun σ H μ env S d S' rl re hf Q q => ?_⟩
  obtain ⟨⟨x, S1⟩, e1, hf⟩ := R.bind_eq_ok hf
  obtain ⟨⟨y, S2⟩, e2, hf⟩ := R.bind_eq_ok hf
  obtain ⟨l, e3, hf⟩ := R.bind_eq_ok hf
  obtain ⟨⟨z, S3⟩, e4, hf⟩ := R.bind_eq_ok hf
  obtain ⟨h, e5, hf⟩ := R.bind_eq_ok hf
  obtain ⟨d', e6, hf⟩ := R.bind_eq_ok hf
  cases hf
  have hl : ∃ ds, lstOf S3 x = some ds ∧ d = cutD ds l h := slcF_lst e6
  obtain ⟨ds, hd, rfl⟩ := hl
  refine h2 σ H μ env S _ _ rl re e1 _ fun v H1 μ1 r1 x1 rv => ?_
  refine h4 σ H1 μ1 env S1 _ _ _ r1 (re.ext x1) e2 e3 _ fun H2 μ2 r2 x2 => ?_
  refine h6 σ H2 μ2 env S2 _ _ _ r2 ((re.ext x1).ext x2) e4 e5 _ fun H3 μ3 r3 x3 => ?_
  have x03 := (x1.trans x2).trans x3
  obtain ⟨a', vs, rfl, k1, k2⟩ := (rd_lstOf r3 (RepV.ext (x2.trans x3) _ _ rv) hd).sq
  exact ⟨a', vs, rfl, k1, fun p hp => q p _ H3 μ3 r3 x03 hp (cutV_rep k2)⟩
/-! calls of defs -/
/-- the promise of a def that computes F -/
def spOf (K : PySem.W.Frag) (F : List D → St' → R (D × St')) : Sp := fun vs H Q _ => ∃ μ S ds d S', Rel K μ S H ∧ RepVs K μ S.length H ds vs ∧ F ds S = .ok (d, S') ∧ Fin1 K μ S H d S' Q
theorem se_call {F : List D → St' → R (D × St')} {k : Nat} {f : Addr} {fd : FuncData} {ps : List Str} {x : Str} {p : Pos} (G : FnOk X.prog X.w X.K X.mg X.base CX0 k f fd ps (spOf X.K F)) (hr : Room k X.A) (hg : Gl X x) (hm : X.mg x = some (.ref f)) (hk : PySem.W.keepIn X.K (.ref f) = true) (hb : Binds X.K fd ps [])
    (hs : SA X fs (a :: es)) (hn : (a :: es).all noStar = true) (hdb : (x == ("__debug__" : Str)) = false) :
    SE X (fun env S => (fs env S).bind fun x => F x.1 x.2) (.Call (.Name x p) (a :: es) [] pos) := by
  obtain ⟨ts, h1, h2⟩ := hs
  rw [List.all_cons, Bool.and_eq_true] at hn
  refine ⟨_, pe_call G hr hg hm hk hb .nil pass0 h1 hdb (star_cons hn.1) (star_any hn.2), fun σ H μ env S d S' rl re hf Q q => ?_⟩
  obtain ⟨⟨ds, S1⟩, e1, hf⟩ := R.bind_eq_ok hf
  refine h2 σ H μ env S _ _ rl re e1 _ fun vs H1 μ1 r1 x1 rv => ?_
  show spOf X.K F (vs ++ []) H1 Q _
  rw [List.append_nil]
  exact ⟨μ1, S1, ds, d, S', r1, rv, hf, fun v H2 μ2 a1 a2 a3 => q v H2 μ2 a1 (x1.trans a2) a3⟩
theorem se_call0 {F : List D → St' → R (D × St')} {k : Nat} {f : Addr} {fd : FuncData} {ps : List Str} {x : Str} {p : Pos} (G : FnOk X.prog X.w X.K X.mg X.base CX0 k f fd ps (spOf X.K F)) (hr : Room k X.A) (hg : Gl X x) (hm : X.mg x = some (.ref f)) (hk : PySem.W.keepIn X.K (.ref f) = true) (hb : Binds X.K fd ps []) (hdb : (x == ("__debug__" : Str)) = false) :
    SE X (fun env S => (R.ok ([], S)).bind fun x => F x.1 x.2) (.Call (.Name x p) [] [] pos) := by
  refine ⟨_, pe_call0 G hr hg hm hk hb .nil pass0 hdb, fun σ H μ env S d S' rl re hf Q q => ?_⟩
  exact ⟨μ, S, [], d, S', rl, by simp only [RepVs]; rfl, hf, q⟩
/-! calls of built-ins -/
/-- a built-in by values -/
def GivesA (K : PySem.W.Frag) (f : St' → List D → R D) (r : List V → Hp → VK → Prop) : Prop := ∀ μ S H ds d vs, Rel K μ S H → RepVs K μ S.length H ds vs → f S ds = .ok d → ∀ Q, Fin1 K μ S H d S Q → r vs H Q
theorem se_callB {id : String} {x : Str} {p : Pos} {f : St' → List D → R D} {r : List V → Hp → VK → Prop} (hc : CallR X (.builtin id) r) (hr : GivesA X.K f r) (hg : Gl X x) (hm : X.mg x = none) (hv : bootBuiltins x = some (.builtin id)) (hs : SA X fs (a :: es)) (hn : (a :: es).all noStar = true)
    (hx : x ≠ "__name__") (hdb : (x == ("__debug__" : Str)) = false) : SE X (fun env S => (fs env S).bind fun x => (f x.2 x.1).bind fun d => .ok (d, x.2)) (.Call (.Name x p) (a :: es) [] pos) := by
  obtain ⟨ts, h1, h2⟩ := hs
  rw [List.all_cons, Bool.and_eq_true] at hn
  refine ⟨_, pe_callB hc hg hm hv h1 hx hdb (star_cons hn.1) (star_any hn.2), fun σ H μ env S d S' rl re hf Q q => ?_⟩
  obtain ⟨⟨ds, S1⟩, e1, hf⟩ := R.bind_eq_ok hf
  obtain ⟨d', e2, hf⟩ := R.bind_eq_ok hf
  cases hf
  refine h2 σ H μ env S _ _ rl re e1 _ fun vs H1 μ1 r1 x1 rv => ?_
  exact hr μ1 _ H1 ds d vs r1 rv e2 Q fun v H2 μ2 a1 a2 a3 => q v H2 μ2 a1 (x1.trans a2) a3
theorem se_callTy {id : String} {x : Str} {p : Pos} {f : St' → List D → R D} {r : List V → Hp → VK → Prop} (hc : CallR X (.type id) r) (hr : GivesA X.K f r) (hg : Gl X x) (hm : X.mg x = none) (hv : bootBuiltins x = some (.type id)) (hs : SA X fs (a :: es)) (hn : (a :: es).all noStar = true)
    (hx : x ≠ "__name__") (hdb : (x == ("__debug__" : Str)) = false) : SE X (fun env S => (fs env S).bind fun x => (f x.2 x.1).bind fun d => .ok (d, x.2)) (.Call (.Name x p) (a :: es) [] pos) := by
  obtain ⟨ts, h1, h2⟩ := hs
  rw [List.all_cons, Bool.and_eq_true] at hn
  refine ⟨_, pe_callTy hc hg hm hv h1 hx hdb (star_cons hn.1) (star_any hn.2), fun σ H μ env S d S' rl re hf Q q => ?_⟩
  obtain ⟨⟨ds, S1⟩, e1, hf⟩ := R.bind_eq_ok hf
  obtain ⟨d', e2, hf⟩ := R.bind_eq_ok hf
  cases hf
  refine h2 σ H μ env S _ _ rl re e1 _ fun vs H1 μ1 r1 x1 rv => ?_
  exact hr μ1 _ H1 ds d vs r1 rv e2 Q fun v H2 μ2 a1 a2 a3 => q v H2 μ2 a1 (x1.trans a2) a3
end
section
variable {K : PySem.W.Frag}
theorem reps1 {μ : Mu} {N : Nat} {H : Hp} {d : D} {vs : List V} (h : RepVs K μ N H [d] vs) : ∃ v, vs = [v] ∧ RepV K μ N H d v := by
  simp only [RepVs] at h
  obtain ⟨v, vr, rfl, h2, rfl⟩ := h
  exact ⟨v, rfl, h2⟩
theorem reps2 {μ : Mu} {N : Nat} {H : Hp} {d e : D} {vs : List V} (h : RepVs K μ N H [d, e] vs) : ∃ v w, vs = [v, w] ∧ RepV K μ N H d v ∧ RepV K μ N H e w := by
  simp only [RepVs] at h
  obtain ⟨v, vr, rfl, h2, w, wr, rfl, h3, rfl⟩ := h
  exact ⟨v, w, rfl, h2, h3⟩
theorem bools_of : ∀ {ds : List D} {bs : List Bool} {μ : Mu} {N : Nat} {H : Hp} {vs : List V}, boolsD ds = some bs → RepVs K μ N H ds vs → vs = bs.map V.bl
  | [], bs, _, _, _, vs, e, h => by
    simp only [boolsD, Option.some.injEq] at e
    simp only [RepVs] at h
    subst e h; rfl
  | d :: ds, bs, _, _, _, vs, e, h => by
    cases d with
    | bl b =>
      simp only [boolsD, Option.map_eq_some_iff] at e
      obtain ⟨bs', e1, rfl⟩ := e
      simp only [RepVs] at h
      obtain ⟨v, vr, rfl, h2, h3⟩ := h
      simp only [RepV] at h2
      rw [h2, bools_of e1 h3]; rfl
    | _ => simp only [boolsD] at e; cases e
theorem ints_of : ∀ {ds : List D} {bs : List Int} {μ : Mu} {N : Nat} {H : Hp} {vs : List V}, intsD ds = some bs → RepVs K μ N H ds vs → vs = bs.map V.int
  | [], bs, _, _, _, vs, e, h => by
    simp only [intsD, Option.some.injEq] at e
    simp only [RepVs] at h
    subst e h; rfl
  | d :: ds, bs, _, _, _, vs, e, h => by
    cases d with
    | int b =>
      simp only [intsD, Option.map_eq_some_iff] at e
      obtain ⟨bs', e1, rfl⟩ := e
      simp only [RepVs] at h
      obtain ⟨v, vr, rfl, h2, h3⟩ := h
      simp only [RepV] at h2
      rw [h2, ints_of e1 h3]; rfl
    | _ => simp only [intsD] at e; cases e
theorem strs_of : ∀ {ds : List D} {bs : List (List Nat)} {μ : Mu} {N : Nat} {H : Hp} {vs : List V}, strsD ds = some bs → RepVs K μ N H ds vs → vs = (bs.map ss).map V.str
  | [], bs, _, _, _, vs, e, h => by
    simp only [strsD, Option.some.injEq] at e
    simp only [RepVs] at h
    subst e h; rfl
  | d :: ds, bs, _, _, _, vs, e, h => by
    cases d with
    | str b =>
      simp only [strsD, Option.map_eq_some_iff] at e
      obtain ⟨bs', e1, rfl⟩ := e
      simp only [RepVs] at h
      obtain ⟨v, vr, rfl, h2, h3⟩ := h
      simp only [RepV] at h2
      rw [h2, strs_of e1 h3]; rfl
    | _ => simp only [strsD] at e; cases e
theorem gives_len : GivesA K (fun S ds => match ds with | [d] => lenF0 S d | _ => .bad) (fun xs H Q => ∃ x n, xs = [x] ∧ LenV K x H n ∧ Q (.int n) H) := by
  intro μ S H ds d vs r rv hf Q q
  simp only [bltF] at hf
  split at hf
  · obtain ⟨v, rfl, rv1⟩ := reps1 rv
    unfold lenF0 at hf
    split at hf
    · split at hf
      · rename_i hz
        cases hf
        simp only [RepV] at rv1
        subst rv1
        exact ⟨_, _, rfl, ⟨by rw [ss_len, sizeLine_eq]; exact hz, (ss_len _).symm⟩, q _ _ μ r (Ext.refl r) (by simp only [RepV])⟩
      · cases hf
    · split at hf
      · rename_i ds' he
        cases hf
        obtain ⟨a, vs, rfl, h1, h2⟩ := rd_seqOf r rv1 he
        refine ⟨_, ds'.length, rfl, ?_, q _ _ μ r (Ext.refl r) (by simp only [RepV])⟩
        rcases h1 with h1 | h1
        · exact .inl ⟨vs, h1, h2.length⟩
        · exact .inr ⟨vs, h1, h2.length⟩
      · cases hf
  · cases hf
theorem gives_abs : GivesA K (bltF .abs) (fun xs H Q => ∃ i, xs = [.int i] ∧ Q (.int (if i < 0 then -i else i)) H) := by
  intro μ S H ds d vs r rv hf Q q
  simp only [bltF] at hf
  split at hf
  · cases hf
    obtain ⟨v, rfl, rv1⟩ := reps1 rv
    simp only [RepV] at rv1
    subst rv1
    exact ⟨_, rfl, q _ _ μ r (Ext.refl r) (by simp only [RepV])⟩
  · cases hf
theorem gives_int : GivesA K (bltF .int) (fun xs H Q => (∃ i, xs = [.int i] ∧ Q (.int i) H) ∨ ∃ k, xs = [.bl k] ∧ Q (.int (if k then 1 else 0)) H) := by
  intro μ S H ds d vs r rv hf Q q
  simp only [bltF] at hf
  split at hf <;> cases hf
  · obtain ⟨v, rfl, rv1⟩ := reps1 rv
    simp only [RepV] at rv1
    subst rv1
    exact .inl ⟨_, rfl, q _ _ μ r (Ext.refl r) (by simp only [RepV])⟩
  · obtain ⟨v, rfl, rv1⟩ := reps1 rv
    simp only [RepV] at rv1
    subst rv1
    exact .inr ⟨_, rfl, q _ _ μ r (Ext.refl r) (by simp only [RepV])⟩
theorem gives_bool : GivesA K (bltF .bool) (fun xs H Q => (∃ i, xs = [.int i] ∧ Q (.bl (i != 0)) H) ∨ ∃ k, xs = [.bl k] ∧ Q (.bl k) H) := by
  intro μ S H ds d vs r rv hf Q q
  simp only [bltF] at hf
  split at hf <;> cases hf
  · obtain ⟨v, rfl, rv1⟩ := reps1 rv
    simp only [RepV] at rv1
    subst rv1
    exact .inl ⟨_, rfl, q _ _ μ r (Ext.refl r) (by simp only [RepV])⟩
  · obtain ⟨v, rfl, rv1⟩ := reps1 rv
    simp only [RepV] at rv1
    subst rv1
    exact .inr ⟨_, rfl, q _ _ μ r (Ext.refl r) (by simp only [RepV])⟩
theorem gives_all : GivesA K (bltF .all) (rAll K) := by
  intro μ S H ds d vs r rv hf Q q
  simp only [bltF] at hf
  split at hf
  · split at hf <;> cases hf
    rename_i bs he
    obtain ⟨v, rfl, rv1⟩ := reps1 rv
    obtain ⟨xs, e1, e2⟩ := Option.bind_eq_some_iff.mp he
    obtain ⟨a, vs, rfl, h1, h2⟩ := (rd_lstOf r rv1 e1).sq
    exact ⟨a, bs, rfl, by rw [← bools_of e2 h2]; exact h1, q _ _ μ r (Ext.refl r) (by simp only [RepV])⟩
  · cases hf
theorem gives_any : GivesA K (bltF .any) (rAny K) := by
  intro μ S H ds d vs r rv hf Q q
  simp only [bltF] at hf
  split at hf
  · split at hf <;> cases hf
    rename_i bs he
    obtain ⟨v, rfl, rv1⟩ := reps1 rv
    obtain ⟨xs, e1, e2⟩ := Option.bind_eq_some_iff.mp he
    obtain ⟨a, vs, rfl, h1, h2⟩ := (rd_lstOf r rv1 e1).sq
    exact ⟨a, bs, rfl, by rw [← bools_of e2 h2]; exact h1, q _ _ μ r (Ext.refl r) (by simp only [RepV])⟩
  · cases hf
theorem gives_sum : GivesA K (bltF .sum) (rSum K) := by
  intro μ S H ds d vs r rv hf Q q
  simp only [bltF] at hf
  split at hf
  · split at hf <;> cases hf
    rename_i bs he
    obtain ⟨v, rfl, rv1⟩ := reps1 rv
    obtain ⟨xs, e1, e2⟩ := Option.bind_eq_some_iff.mp he
    obtain ⟨a, vs, rfl, h1, h2⟩ := (rd_lstOf r rv1 e1).sq
    exact ⟨a, bs, rfl, by rw [← ints_of e2 h2]; exact h1, q _ _ μ r (Ext.refl r) (by simp only [RepV])⟩
  · cases hf
theorem gives_tuple : GivesA K (bltF .tuple) (fun xs H Q => ∃ p ys, xs = [.ref p] ∧ ((SqL K H p ys ∧ ∀ l, H l = none → Q (.ref l) (upd H l (.tup ys))) ∨ (SqT K H p ys ∧ Q (.ref p) H))) := by
  intro μ S H ds d vs r rv hf Q q
  simp only [bltF] at hf
  split at hf
  · cases hf
    obtain ⟨v, rfl, rv1⟩ := reps1 rv
    have rv0 := rv1
    simp only [RepV] at rv1
    obtain ⟨a, ws, rfl, h1, h2⟩ := rv1
    exact ⟨a, ws, rfl, .inr ⟨h1.sq, q _ _ μ r (Ext.refl r) rv0⟩⟩
  · split at hf <;> cases hf
    rename_i ds' he
    obtain ⟨v, rfl, rv1⟩ := reps1 rv
    obtain ⟨a, ws, rfl, h1, h2⟩ := (rd_lstOf r rv1 he).sq
    exact ⟨a, ws, rfl, .inl ⟨h1, fun p hp => Fin1.tup q r (Ext.refl r) h2 p hp⟩⟩
  · cases hf
theorem signs_rep {μ : Mu} {N : Nat} {H : Hp} : ∀ x : List Nat, RepVs K μ N H (signs x) ((ss x).cps.toList.map fun c => V.str ⟨#[c]⟩) := by
  intro x
  show RepVs K μ N H (signs x) (x.toArray.toList.map fun c => V.str ⟨#[c]⟩)
  rw [List.toList_toArray]
  unfold signs
  induction x with
  | nil => simp only [List.map_nil, RepVs]
  | cons c x ih =>
    simp only [List.map_cons, RepVs]
    exact ⟨_, _, rfl, by simp only [RepV], ih⟩
theorem gives_list : GivesA K (bltF .list) (rListA K) := by
  intro μ S H ds d vs r rv hf Q q
  simp only [bltF] at hf
  split at hf
  · split at hf <;> cases hf
    rename_i hz
    obtain ⟨v, rfl, rv1⟩ := reps1 rv
    simp only [RepV] at rv1
    subst rv1
    exact .inr ⟨_, rfl, by rw [ss_len, sizeLine_eq]; exact hz, fun p hp => FinN.of q p _ H μ r (Ext.refl r) hp (signs_rep _)⟩
  · split at hf <;> cases hf
    rename_i ds' he
    obtain ⟨v, rfl, rv1⟩ := reps1 rv
    obtain ⟨a, ws, rfl, h1, h2⟩ := rd_seqOf r rv1 he
    exact .inl ⟨a, ws, rfl, h1, fun p hp => FinN.of q p ws H μ r (Ext.refl r) hp h2⟩
  · cases hf
theorem gives_min2 : GivesA K (bltF .min2) (fun xs H Q => ∃ i j, xs = [.int i, .int j] ∧ Q (.int (if j < i then j else i)) H) := by
  intro μ S H ds d vs r rv hf Q q
  simp only [bltF] at hf
  split at hf <;> cases hf
  obtain ⟨v, w, rfl, h1, h2⟩ := reps2 rv
  simp only [RepV] at h1 h2
  subst h1 h2
  exact ⟨_, _, rfl, q _ _ μ r (Ext.refl r) (by simp only [RepV])⟩
theorem gives_max2 : GivesA K (bltF .max2) (fun xs H Q => ∃ i j, xs = [.int i, .int j] ∧ Q (.int (if j > i then j else i)) H) := by
  intro μ S H ds d vs r rv hf Q q
  simp only [bltF] at hf
  split at hf <;> cases hf
  obtain ⟨v, w, rfl, h1, h2⟩ := reps2 rv
  simp only [RepV] at h1 h2
  subst h1 h2
  exact ⟨_, _, rfl, q _ _ μ r (Ext.refl r) (by simp only [RepV])⟩
theorem gives_strB : GivesA K (bltF .str) (fun xs H Q => ∃ i, xs = [.int i] ∧ i.natAbs.log2 < 1920 ∧ Q (.str (toString i)) H) := by
  intro μ S H ds d vs r rv hf Q q
  simp only [bltF] at hf
  split at hf
  · rename_i i
    split at hf
    · rename_i hz
      cases hf
      obtain ⟨v, rfl, rv1⟩ := reps1 rv
      simp only [RepV] at rv1
      subst rv1
      refine ⟨i, rfl, Nat.lt_of_lt_of_le (PySem.Flt.log2_lt_of (by decide) hz) (by decide), q _ _ μ r (Ext.refl r) ?_⟩
      simp only [RepV]
      rfl
    · cases hf
  · cases hf
theorem gives_min3 : GivesA K (bltF .min3) (rNuC3 nuMin3) := by
  intro μ S H ds d vs r rv hf Q q
  simp only [bltF] at hf
  split at hf
  · rename_i i j k
    cases hf
    simp only [RepVs, RepV] at rv
    obtain ⟨v1, r1, rfl, rfl, v2, r2, rfl, rfl, v3, r3, rfl, rfl, rfl⟩ := rv
    refine ⟨_, _, _, .int (if k < (if j < i then j else i) then k else if j < i then j else i), rfl, ?_, q _ _ μ r (Ext.refl r) (by simp only [RepV])⟩
    by_cases c1 : j < i
    · by_cases c2 : k < j <;> simp [nuMin3, nuMin2, nuLt, nuCB, c1, c2]
    · by_cases c2 : k < i <;> simp [nuMin3, nuMin2, nuLt, nuCB, c1, c2]
  · cases hf
theorem gives_max3 : GivesA K (bltF .max3) (rNuC3 nuMax3) := by
  intro μ S H ds d vs r rv hf Q q
  simp only [bltF] at hf
  split at hf
  · rename_i i j k
    cases hf
    simp only [RepVs, RepV] at rv
    obtain ⟨v1, r1, rfl, rfl, v2, r2, rfl, rfl, v3, r3, rfl, rfl, rfl⟩ := rv
    refine ⟨_, _, _, .int (if k > (if j > i then j else i) then k else if j > i then j else i), rfl, ?_, q _ _ μ r (Ext.refl r) (by simp only [RepV])⟩
    by_cases c1 : j > i
    · by_cases c2 : k > j <;> simp [nuMax3, nuMax2, nuLt, nuCB, c1, c2]
    · by_cases c2 : k > i <;> simp [nuMax3, nuMax2, nuLt, nuCB, c1, c2]
  · cases hf
/-! ### sorting -/
section
variable {α : Type} {lt : α → α → Bool}
theorem insS_perm (x : α) : ∀ l : List α, (insS lt x l).Perm (x :: l)
  | [] => List.Perm.refl _
  | y :: r => by
    unfold insS
    split
    · exact List.Perm.refl _
    · exact ((insS_perm x r).cons y).trans (List.Perm.swap x y r)
theorem isort_perm : ∀ l : List α, (isort lt l).Perm l
  | [] => List.Perm.refl _
  | x :: r => (insS_perm x _).trans ((isort_perm r).cons x)
/-- a total order, strictly -/
structure STot (lt : α → α → Bool) : Prop where
  tr : ∀ x y z, lt y x = false → lt z y = false → lt z x = false
  as : ∀ x y, lt x y = false → lt y x = false → x = y
  ir : ∀ x y, lt x y = true → lt y x = false
theorem insS_pw (O : STot lt) (x : α) : ∀ l : List α, l.Pairwise (fun a b => lt b a = false) → (insS lt x l).Pairwise (fun a b => lt b a = false)
  | [], _ => List.pairwise_singleton _ _
  | y :: r, h => by
    rw [List.pairwise_cons] at h
    unfold insS
    split
    · rename_i hxy
      refine List.pairwise_cons.mpr ⟨fun z hz => ?_, List.pairwise_cons.mpr h⟩
      rcases List.mem_cons.mp hz with rfl | hz
      · exact O.ir _ _ hxy
      · exact O.tr x y z (O.ir _ _ hxy) (h.1 z hz)
    · rename_i hxy
      refine List.pairwise_cons.mpr ⟨fun z hz => ?_, insS_pw O x r h.2⟩
      rcases List.mem_cons.mp ((insS_perm x r).mem_iff.mp hz) with rfl | hz
      · simpa using hxy
      · exact h.1 z hz
theorem isort_pw (O : STot lt) : ∀ l : List α, (isort lt l).Pairwise (fun a b => lt b a = false)
  | [] => List.Pairwise.nil
  | x :: r => insS_pw O x _ (isort_pw O r)
theorem isort_uniq (O : STot lt) {l m : List α} (hp : m.Perm l) (hs : m.Pairwise (fun a b => lt b a = false)) : m = isort lt l :=
  List.Perm.eq_of_pairwise (le := fun a b => lt b a = false) (fun a b _ _ h1 h2 => O.as a b h2 h1) hs (isort_pw O l) (hp.trans (isort_perm l).symm)
end
theorem stot_int : STot (fun i j : Int => decide (i < j)) where
  tr := fun x y z h1 h2 => by simp at h1 h2 ⊢; omega
  as := fun x y h1 h2 => by simp at h1 h2; omega
  ir := fun x y h => by simp at h ⊢; omega
theorem lex_tri : ∀ x y : List Nat, x < y ∨ x = y ∨ y < x
  | [], [] => .inr (.inl rfl)
  | [], b :: y => .inl (List.Lex.nil)
  | a :: x, [] => .inr (.inr List.Lex.nil)
  | a :: x, b :: y => by
    rcases Nat.lt_trichotomy a b with h | h | h
    · exact .inl (List.Lex.rel h)
    · subst h
      rcases lex_tri x y with h | h | h
      · exact .inl (List.Lex.cons h)
      · exact .inr (.inl (by rw [h]))
      · exact .inr (.inr (List.Lex.cons h))
    · exact .inr (.inr (List.Lex.rel h))
theorem stot_str : STot (fun x y : List Nat => decide (x < y)) where
  tr := fun x y z h1 h2 => by
    simp only [decide_eq_false_iff_not] at h1 h2 ⊢
    intro h
    rcases lex_tri y z with q | q | q
    · exact h1 (List.lt_trans q h)
    · exact h1 (by rw [q]; exact h)
    · exact h2 q
  as := fun x y h1 h2 => by
    simp only [decide_eq_false_iff_not] at h1 h2
    rcases lex_tri x y with q | q | q
    · exact absurd q h1
    · exact q
    · exact absurd q h2
  ir := fun x y h => by
    simp only [decide_eq_true_eq, decide_eq_false_iff_not] at h ⊢
    exact fun z => List.lt_irrefl x (List.lt_trans h z)
theorem sortedS_pw : ∀ ys : List Str, PyProof.Rows.sortedS ys = true → (ys.map fun z => z.cps.toList).Pairwise (fun a b => (decide (b < a)) = false)
  | [], _ => List.Pairwise.nil
  | [y], _ => List.pairwise_singleton _ _
  | y :: z :: r, h => by
    have h' : (!PySem.Spec.ltCps z.cps.toList y.cps.toList && PyProof.Rows.sortedS (z :: r)) = true := h
    rw [Bool.and_eq_true, ltCps_eq] at h'
    have ih := sortedS_pw (z :: r) h'.2
    have hzy : decide (z.cps.toList < y.cps.toList) = false := by simpa using h'.1
    rw [List.map_cons]
    refine List.pairwise_cons.mpr ⟨fun w hw => ?_, ih⟩
    rw [List.map_cons] at hw ih
    rcases List.mem_cons.mp hw with rfl | hw
    · exact hzy
    · exact stot_str.tr _ _ _ hzy ((List.pairwise_cons.mp ih).1 w hw)
theorem reps_ints' (μ : Mu) (N : Nat) (H : Hp) : ∀ ns : List Int, RepVs K μ N H (ns.map .int) (ns.map V.int)
  | [] => by simp only [List.map_nil, RepVs]
  | n :: ns => by
    simp only [List.map_cons, RepVs]
    exact ⟨_, _, rfl, by simp only [RepV], reps_ints' μ N H ns⟩
theorem reps_strs (μ : Mu) (N : Nat) (H : Hp) : ∀ ns : List (List Nat), RepVs K μ N H (ns.map .str) ((ns.map ss).map V.str)
  | [] => by simp only [List.map_nil, RepVs]
  | n :: ns => by
    simp only [List.map_cons, RepVs]
    exact ⟨_, _, rfl, by simp only [RepV], reps_strs μ N H ns⟩
/-- what a new list is made of -/
def NewL (K : PySem.W.Frag) (f : St' → List D → R D) (r : List V → Hp → VK → Prop) : Prop := ∀ μ S H ds d vs, Rel K μ S H → RepVs K μ S.length H ds vs → f S ds = .ok (.lst d) → ∀ Q, FinN K μ S H d S Q → r vs H Q
abbrev rSortA (K : PySem.W.Frag) : List V → Hp → VK → Prop := fun xs H Q => rSortedI K xs H Q ∨ (rSortedS K xs H Q ∨ rSortedD K xs H Q)
theorem new_sortD {μ : Mu} {S : St'} {H : Hp} {xs : List D} {a : Addr} {ws : List V} (r : Rel K μ S H) (h1 : SqL K H a ws ∨ SqT K H a ws) (h2 : RepVs K μ S.length H xs ws) (hs : sortT xs = true) {Q : VK} (q : FinN K μ S H (isort ltT xs) S Q) : rSortedD K [.ref a] H Q := by
  obtain ⟨ps, rfl, e2, e3, e4, e5, e6⟩ := sorted_reps hs h2
  exact ⟨a, ps, rfl, h1, e2, e3, e4, e5, fun p hp => q p _ H μ r (Ext.refl r) hp e6⟩
theorem new_sorted : NewL K (bltF .sorted) (rSortA K) := by
  intro μ S H ds d vs r rv hf Q q
  simp only [bltF] at hf
  split at hf
  · obtain ⟨v, rfl, rv1⟩ := reps1 rv
    split at hf <;> cases hf
    rename_i hs
    simp only [RepV] at rv1
    obtain ⟨a, ws, rfl, h1, h2⟩ := rv1
    exact .inr (.inr (new_sortD r (.inr h1.sq) h2 hs q))
  · obtain ⟨v, rfl, rv1⟩ := reps1 rv
    split at hf
    · rename_i xs he
      obtain ⟨a, ws, rfl, h1, h2⟩ := (rd_lstOf r rv1 he).sq
      split at hf
      · rename_i is hi
        cases hf
        have e3 := ints_of hi h2
        subst e3
        refine .inl ⟨a, is, rfl, h1, fun ns' p hp hs hn => ?_⟩
        rw [isort_uniq stot_int hp (hs.imp fun {a b} h => by simp; omega)]
        exact q p _ H μ r (Ext.refl r) hn (reps_ints' _ _ _ _)
      · split at hf
        · rename_i zs hz
          split at hf
          rotate_left
          · split at hf <;> cases hf
            rename_i hs
            exact .inr (.inr (new_sortD r (.inl h1) h2 hs q))
          cases hf
          rename_i h64
          have e3 := strs_of hz h2
          subst e3
          refine .inr (.inl ⟨a, zs.map ss, rfl, h1, by rw [List.length_map]; exact h64, fun ys p hp hs hn => ?_⟩)
          have e4 : ys = (ys.map fun z => z.cps.toList).map ss := by
            rw [List.map_map]
            exact (List.map_id' ys).symm.trans (List.map_congr_left fun z _ => rfl)
          have e5 : (ys.map fun z => z.cps.toList).Perm zs := by
            have := hp.map fun z : Str => z.cps.toList
            rw [List.map_map] at this
            have e6 : zs.map ((fun z : Str => z.cps.toList) ∘ ss) = zs := (List.map_congr_left fun z _ => rfl).trans (List.map_id zs)
            rw [e6] at this
            exact this
          rw [e4, isort_uniq stot_str e5 (sortedS_pw ys hs)]
          exact q p _ H μ r (Ext.refl r) hn (reps_strs _ _ _ _)
        · split at hf <;> cases hf
          rename_i hs
          exact .inr (.inr (new_sortD r (.inl h1) h2 hs q))
    · cases hf
  · cases hf
theorem call_sortA {X : Cx} (hu : X.A.units + 64 < cLine) : CallR X (.builtin "sorted") (rSortA X.K) := by
  intro pins s σ H xs us Q I rv h
  rcases h with h | h | h
  · exact cr_sortedI pins s σ H xs us Q I rv h
  · exact cr_sortedS pins s σ H xs us Q I rv h
  · exact cr_sortedD hu pins s σ H xs us Q I rv h
theorem NewL.gives {f : St' → List D → R D} {r : List V → Hp → VK → Prop} (h : NewL K f r) (hl : ∀ S ds d, f S ds = .ok d → ∃ xs, d = .lst xs) : GivesA K f r := by
  intro μ S H ds d vs rl rv hf Q q
  obtain ⟨xs, rfl⟩ := hl _ _ _ hf
  exact h μ S H ds xs vs rl rv hf Q (FinN.of q)
theorem sorted_lst : ∀ S ds d, bltF .sorted S ds = .ok d → ∃ xs, d = .lst xs := by
  intro S ds d h
  simp only [bltF] at h
  split at h
  · split at h <;> cases h
    exact ⟨_, rfl⟩
  · split at h
    · split at h
      · cases h; exact ⟨_, rfl⟩
      · split at h
        · split at h
          · cases h; exact ⟨_, rfl⟩
          · split at h <;> cases h
            exact ⟨_, rfl⟩
        · split at h <;> cases h
          exact ⟨_, rfl⟩
    · cases h
  · cases h
theorem rd_dctOf {μ : Mu} {S : St'} {H : Hp} {d : D} {kvs : List (D × D)} {v : V} (r : Rel K μ S H) (h : RepV K μ S.length H d v) (e : dctOf S d = some kvs) : ∃ a es, v = .ref a ∧ Rd H a (.dK es) ∧ RepK K μ S.length H kvs es := by
  cases d with
  | dct ks vs =>
    simp only [dctOf, Option.some.injEq] at e
    subst e
    simp only [RepV] at h
    obtain ⟨a, es, rfl, h1, h2, h3⟩ := h
    exact ⟨a, es, rfl, h1.1, repK_zip h2 h3⟩
  | loc n =>
    simp only [dctOf] at e
    simp only [RepV] at h
    obtain ⟨_, rfl⟩ := h
    split at e
    · rename_i q
      cases e
      obtain ⟨ho, e1, q⟩ := r.obj n _ q
      simp only [RepO] at q
      obtain ⟨es, rfl, h1⟩ := q
      exact ⟨_, es, rfl, .inl e1, h1⟩
    · rename_i q
      cases e
      obtain ⟨ho, e1, q⟩ := r.obj n _ q
      simp only [RepO] at q
      obtain ⟨od, es, rfl, h1⟩ := q
      exact ⟨_, es, rfl, .inr ⟨od, e1⟩, h1⟩
    · cases e
  | _ => simp only [dctOf] at e; cases e
theorem key_of {μ : Mu} {N : Nat} {H : Hp} {d : D} {v : V} (h : RepV K μ N H d v) (e : isKey d = true) : ∃ k, keyD d = some k ∧ v = kV k := by
  cases d with
  | int i => simp only [RepV] at h; exact ⟨_, rfl, h⟩
  | str i => simp only [RepV] at h; exact ⟨_, rfl, h⟩
  | _ => cases e
theorem key_rep {μ : Mu} {N : Nat} {H : Hp} {d : D} {k : Key} (h : keyD d = some k) : RepV K μ N H d (kV k) := by
  cases d with
  | int i => cases h; simp only [RepV, kV]
  | str i => cases h; simp only [RepV, kV]
  | _ => cases h
theorem keyEq_iff {x y : D} {a b : Key} (h1 : keyD x = some a) (h2 : keyD y = some b) : keyEq x y = true ↔ a = b := by
  cases x with
  | int i =>
    cases h1
    cases y with
    | int j => cases h2; simp [keyEq]
    | str j => cases h2; simp [keyEq]
    | _ => cases h2
  | str i =>
    cases h1
    cases y with
    | int j => cases h2; simp [keyEq]
    | str j =>
      cases h2
      simp only [keyEq, decide_eq_true_eq, Sum.inr.injEq]
      exact ⟨fun h => by rw [h], ss_inj⟩
    | _ => cases h2
  | _ => cases h1
theorem dget_rep {μ : Mu} {N : Nat} {H : Hp} {x : D} {k : Key} (hk : keyD x = some k) : ∀ {kvs : List (D × D)} {es : List (Key × V)}, RepK K μ N H kvs es → (∀ d, dget kvs x = some d → ∃ v, valV es k = some v ∧ RepV K μ N H d v) ∧ (dget kvs x = none → valV es k = none)
  | [], es, h => by
    simp only [RepK] at h
    subst h
    exact ⟨(fun d e => by cases e), fun _ => valV_nil⟩
  | (y, d) :: r, es, h => by
    simp only [RepK] at h
    obtain ⟨k', v, r', rfl, h2, h3, h4⟩ := h
    have ih := dget_rep hk h4
    simp only [dget]
    by_cases e : keyEq y x = true
    · rw [if_pos e]
      have e2 := (keyEq_iff h2 hk).mp e
      rw [valV_pos (p := (k', v)) e2]
      exact ⟨fun d' e' => ⟨v, rfl, by cases e'; exact h3⟩, (fun z => by cases z)⟩
    · rw [if_neg e]
      have e2 : ¬ k' = k := fun z => e ((keyEq_iff h2 hk).mpr z)
      rw [valV_neg (p := (k', v)) e2]
      exact ih
theorem repK_app {μ : Mu} {N : Nat} {H : Hp} : ∀ {a : List (D × D)} {es : List (Key × V)} {b : List (D × D)} {fs : List (Key × V)}, RepK K μ N H a es → RepK K μ N H b fs → RepK K μ N H (a ++ b) (es ++ fs)
  | [], es, b, fs, h, h' => by
    simp only [RepK] at h
    subst h; exact h'
  | (y, d) :: r, es, b, fs, h, h' => by
    simp only [RepK] at h
    obtain ⟨k', v, r', rfl, h2, h3, h4⟩ := h
    simp only [List.cons_append, RepK]
    exact ⟨k', v, _, rfl, h2, h3, repK_app h4 h'⟩
theorem repK_len {μ : Mu} {N : Nat} {H : Hp} : ∀ {a : List (D × D)} {es : List (Key × V)}, RepK K μ N H a es → a.length = es.length
  | [], es, h => by
    simp only [RepK] at h
    subst h; rfl
  | (y, d) :: r, es, h => by
    simp only [RepK] at h
    obtain ⟨k', v, r', rfl, h2, h3, h4⟩ := h
    rw [List.length_cons, List.length_cons, repK_len h4]
theorem dput_rep {μ : Mu} {N : Nat} {H : Hp} {x d : D} {k : Key} {v : V} {kvs : List (D × D)} {es : List (Key × V)} (hk : keyD x = some k) (h : RepK K μ N H kvs es) (hd : RepV K μ N H d v) : RepK K μ N H (dput kvs x d) (putK es k v) := by
  have g := dget_rep hk h
  have hmap : ∀ {kvs : List (D × D)} {es : List (Key × V)}, RepK K μ N H kvs es → RepK K μ N H (kvs.map (fun p => if keyEq p.1 x = true then (p.1, d) else p)) (es.map (fun kv => if kv.1 = k then (kv.1, v) else kv)) := by
    intro kvs
    induction kvs with
    | nil => intro es h; simp only [RepK] at h; subst h; simp only [List.map_nil, RepK]
    | cons p r ih =>
      intro es h
      obtain ⟨y, d0⟩ := p
      simp only [RepK] at h
      obtain ⟨k', v', r', rfl, h2, h3, h4⟩ := h
      simp only [List.map_cons]
      by_cases e : keyEq y x = true
      · have e2 := (keyEq_iff h2 hk).mp e
        rw [if_pos e, if_pos e2]
        simp only [RepK]
        exact ⟨k', v, _, rfl, h2, hd, ih h4⟩
      · have e2 : ¬ k' = k := fun z => e ((keyEq_iff h2 hk).mpr z)
        rw [if_neg e, if_neg e2]
        simp only [RepK]
        exact ⟨k', v', _, rfl, h2, h3, ih h4⟩
  unfold dput putK
  rw [valV_any]
  cases e : dget kvs x with
  | none =>
    rw [g.2 e]
    simp only [Option.isSome_none, Bool.false_eq_true, if_false]
    exact repK_app h (by simp only [RepK]; exact ⟨k, v, [], rfl, hk, hd, rfl⟩)
  | some d' =>
    obtain ⟨v', e1, _⟩ := g.1 d' e
    rw [e1]
    simp only [Option.isSome_some, if_true]
    exact hmap h
theorem ddrop_rep {μ : Mu} {N : Nat} {H : Hp} {x : D} {k : Key} (hk : keyD x = some k) : ∀ {kvs : List (D × D)} {es : List (Key × V)}, RepK K μ N H kvs es → RepK K μ N H (ddrop kvs x) (dropK es k)
  | [], es, h => by simp only [RepK] at h; subst h; simp only [ddrop, List.filter_nil, RepK, dropK]
  | (y, d) :: r, es, h => by
    simp only [RepK] at h
    obtain ⟨k', v, r', rfl, h2, h3, h4⟩ := h
    have ih := ddrop_rep hk h4
    unfold ddrop dropK at ih ⊢
    by_cases e : keyEq y x = true
    · have e2 := (keyEq_iff h2 hk).mp e
      rw [List.filter_cons_of_neg (by simp [e]), List.filter_cons_of_neg (by simp [e2])]
      exact ih
    · have e2 : ¬ k' = k := fun z => e ((keyEq_iff h2 hk).mpr z)
      rw [List.filter_cons_of_pos (by simp [e]), List.filter_cons_of_pos (by simp [e2])]
      simp only [RepK]
      exact ⟨k', v, _, rfl, h2, h3, ih⟩
theorem dmerge_rep {μ : Mu} {N : Nat} {H : Hp} : ∀ {more kvs : List (D × D)} {ms es : List (Key × V)}, RepK K μ N H more ms → RepK K μ N H kvs es → RepK K μ N H (dmerge kvs more) (mergeK es ms)
  | [], kvs, ms, es, h, h' => by simp only [RepK] at h; subst h; exact h'
  | (y, d) :: r, kvs, ms, es, h, h' => by
    simp only [RepK] at h
    obtain ⟨k', v, r', rfl, h2, h3, h4⟩ := h
    exact dmerge_rep (more := r) (ms := r') (es := putK es k' v) h4 (dput_rep h2 h' h3)
theorem pairs_rep {μ : Mu} {N : Nat} {H : Hp} : ∀ {ds : List D} {kvs : List (D × D)} {vs : List V}, pairsD ds = some kvs → RepVs K μ N H ds vs → ∃ (ps : List Addr) (es : List (Key × V)), vs = ps.map V.ref ∧ Paired (fun p kv => SqT K H p [kV kv.1, kv.2]) ps es ∧ RepK K μ N H kvs es
  | [], kvs, vs, e, h => by
    simp only [pairsD, Option.some.injEq] at e
    simp only [RepVs] at h
    subst e h
    exact ⟨[], [], rfl, .nil, by simp only [RepK]⟩
  | d :: r, kvs, vs, e, h => by
    unfold pairsD at e
    split at e
    · rename_i z; cases z
    · rename_i k v r' z
      cases z
      split at e
      · rename_i hk
        obtain ⟨q, e1, rfl⟩ := Option.map_eq_some_iff.mp e
        simp only [RepVs] at h
        obtain ⟨w, vr, rfl, h2, h3⟩ := h
        obtain ⟨ps, es, rfl, h4, h5⟩ := pairs_rep e1 h3
        simp only [RepV] at h2
        obtain ⟨a, ws, rfl, h6, h7⟩ := h2
        obtain ⟨w1, w2, rfl, h8, h9⟩ := reps2 h7
        obtain ⟨k', e2, rfl⟩ := key_of h8 hk
        refine ⟨a :: ps, (k', w2) :: es, rfl, .cons h6.sq h4, ?_⟩
        simp only [RepK]
        exact ⟨k', w2, es, rfl, e2, h9, h5⟩
      · cases e
    · cases e
abbrev rDictP (K : PySem.W.Frag) : List V → Hp → VK → Prop := fun xs H Q => ∃ (a : Addr) (ps : List Addr) (kvs : List (Key × V)), xs = [.ref a] ∧ SqL K H a (ps.map V.ref) ∧ Paired (fun p kv => SqT K H p [kV kv.1, kv.2]) ps kvs ∧
    ∀ p, H p = none → Q (.ref p) (upd H p (.dK (mergeK [] kvs)))
/-- what a new dict is made of -/
def NewD (K : PySem.W.Frag) (f : St' → List D → R D) (r : List V → Hp → VK → Prop) : Prop := ∀ μ S H ds ks xs vs, Rel K μ S H → RepVs K μ S.length H ds vs → f S ds = .ok (.dct ks xs) → ∀ Q, FinD K μ S H ks xs S Q → r vs H Q
theorem new_dict : NewD K (bltF .dict) (rDictP K) := by
  intro μ S H ds ks xs vs r rv hf Q q
  simp only [bltF] at hf
  split at hf
  · obtain ⟨v, rfl, rv1⟩ := reps1 rv
    split at hf <;> cases hf
    rename_i kvs he
    obtain ⟨ys, e1, e2⟩ := Option.bind_eq_some_iff.mp he
    obtain ⟨a, ws, rfl, h1, h2⟩ := (rd_lstOf r rv1 e1).sq
    obtain ⟨ps, es, rfl, h3, h4⟩ := pairs_rep e2 h2
    have h5 := dmerge_rep (kvs := []) (es := []) h4 (by simp only [RepK])
    obtain ⟨h6, h7⟩ := repK_unzip h5
    exact ⟨a, ps, es, rfl, h1, h3, fun p hp => q p _ H μ r (Ext.refl r) hp h6 h7⟩
  · cases hf
theorem NewD.gives {f : St' → List D → R D} {r : List V → Hp → VK → Prop} (h : NewD K f r) (hl : ∀ S ds d, f S ds = .ok d → ∃ ks xs, d = .dct ks xs) : GivesA K f r := by
  intro μ S H ds d vs rl rv hf Q q
  obtain ⟨ks, xs, rfl⟩ := hl _ _ _ hf
  exact h μ S H ds ks xs vs rl rv hf Q (FinD.of q)
theorem dict_dct : ∀ S ds d, bltF .dict S ds = .ok d → ∃ ks xs, d = .dct ks xs := by
  intro S ds d h
  simp only [bltF] at h
  split at h
  · split at h <;> cases h
    exact ⟨_, _, rfl⟩
  · cases h
theorem keys_reps {μ : Mu} {N : Nat} {H : Hp} : ∀ {kvs : List (D × D)} {es : List (Key × V)}, RepK K μ N H kvs es → RepVs K μ N H (kvs.map (·.1)) (es.map fun kv => kV kv.1)
  | [], es, h => by simp only [RepK] at h; subst h; simp only [List.map_nil, RepVs]
  | (y, d) :: r, es, h => by
    simp only [RepK] at h
    obtain ⟨k', v, r', rfl, h2, h3, h4⟩ := h
    simp only [List.map_cons, RepVs]
    exact ⟨_, _, rfl, key_rep h2, keys_reps h4⟩
theorem keysD_reps {μ : Mu} {N : Nat} {H : Hp} : ∀ {xs : List D} {ks : List Key}, keysD xs = some ks → RepVs K μ N H xs (ks.map kV)
  | [], ks, h => by cases h; simp only [List.map_nil, RepVs]
  | x :: xs, ks, h => by
    simp only [keysD] at h
    obtain ⟨k, e1, e2⟩ := Option.bind_eq_some_iff.mp h
    obtain ⟨ks, e3, rfl⟩ := Option.map_eq_some_iff.mp e2
    simp only [List.map_cons, RepVs]
    exact ⟨_, _, rfl, key_rep e1, keysD_reps e3⟩
/-- a tuple that the store does not hold -/
theorem notLoc_tup {μ : Mu} {S : St'} {H : Hp} (r : Rel K μ S H) {b : Addr} {vs : List V} (h : H b = some (.tup vs)) : NotLoc μ S.length b := by
  refine ⟨fun i hi e => ?_, fun hm => r.hidT b hm vs h⟩
  obtain ⟨ho, e1, q⟩ := r.obj i S[i] (List.getElem?_eq_getElem hi)
  rw [e, h] at e1
  cases e1
  generalize S[i] = o at q
  cases o with
  | lst xs => simp only [RepO] at q; obtain ⟨vs, z, _⟩ := q; cases z
  | dct xs => simp only [RepO] at q; obtain ⟨vs, z, _⟩ := q; cases z
  | dctT xs => simp only [RepO] at q; obtain ⟨vs, z, _⟩ := q; cases z
  | lck xs => simp only [RepO] at q; obtain ⟨od, vs, z, _⟩ := q; cases z
  | lckT xs => simp only [RepO] at q; obtain ⟨od, vs, z, _⟩ := q; cases z
theorem keyT_rep {μ : Mu} {S : St'} {H : Hp} (r : Rel K μ S H) {d : D} {k : List Key} {b : Addr} (h : keyT d = some k) (e : H b = some (.tup (k.map kV))) : RepV K μ S.length H d (.ref b) := by
  cases d with
  | tup xs =>
    simp only [RepV]
    exact ⟨b, _, rfl, .inl ⟨.inl e, notLoc_tup r e⟩, keysD_reps h⟩
  | _ => cases h
theorem keysT_reps {μ : Mu} {S : St'} {H : Hp} (r : Rel K μ S H) : ∀ {kvs : List (D × D)} {es : List (List Key × V)} {bs : List Addr}, RepKT K μ S.length H kvs es → IsKeys H es bs → RepVs K μ S.length H (kvs.map (·.1)) (bs.map V.ref)
  | [], es, bs, h, hb => by simp only [RepKT] at h; subst h; cases hb; simp only [List.map_nil, RepVs]
  | (y, d) :: kvs, es, bs, h, hb => by
    simp only [RepKT] at h
    obtain ⟨k', v, r', rfl, h2, h3, h4⟩ := h
    cases hb with
    | cons e1 e2 =>
      simp only [List.map_cons, RepVs]
      exact ⟨_, _, rfl, keyT_rep r h2 e1, keysT_reps r h4 e2⟩
theorem own_dctT {μ : Mu} {S : St'} {H : Hp} {d : TK.D} {kvs : List (TK.D × TK.D)} {v : V} (r : Rel K μ S H) (h : RepV K μ S.length H d v) (e : ownDctT S d = some kvs) :
    ∃ n es, d = .loc n ∧ n < S.length ∧ S[n]? = some (.dctT kvs) ∧ v = .ref (μ n) ∧ H (μ n) = some (.dT es) ∧ RepKT K μ S.length H kvs es := by
  cases d with
  | loc n =>
    simp only [ownDctT] at e
    split at e <;> cases e
    rename_i hS
    simp only [RepV] at h
    obtain ⟨hn, rfl⟩ := h
    obtain ⟨ho, g1, q1⟩ := r.obj n _ hS
    simp only [RepO] at q1
    obtain ⟨es, rfl, q2⟩ := q1
    exact ⟨n, es, rfl, hn, hS, rfl, g1, q2⟩
  | _ => cases e
abbrev rListD0 : List V → Hp → VK → Prop := fun xs H Q => (∃ (a : Addr) (kvs : List (Key × V)), xs = [.ref a] ∧ Rd H a (.dK kvs) ∧ ∀ p, H p = none → Q (.ref p) (upd H p (.lst (kvs.map fun kv => kV kv.1)))) ∨
  ∃ d kvs, xs = [V.ref d] ∧ Rd H d (.dT kvs) ∧ ∀ p bs, H p = none → IsKeys H kvs bs → Q (.ref p) (upd H p (.lst (bs.map V.ref)))
theorem cr_listDA {X : Cx} (hc : X.calm = true) : CallR X (.type "list") rListD0 := by
  intro pins s σ H xs us Q I r h
  rcases h with h | h
  · exact call_listD hc pins s σ H xs us Q I r h
  · exact call_list_dT hc pins s σ H xs us Q I r h
theorem new_listD : NewL K (bltF .listD) rListD0 := by
  intro μ S H ds d vs r rv hf Q q
  simp only [bltF] at hf
  split at hf
  · split at hf
    · cases hf
      rename_i kvs he
      obtain ⟨v, rfl, rv1⟩ := reps1 rv
      obtain ⟨a, es, rfl, h1, h2⟩ := rd_dctOf r rv1 he
      exact .inl ⟨a, es, rfl, h1, fun p hp => q p _ H μ r (Ext.refl r) hp (keys_reps h2)⟩
    · split at hf <;> cases hf
      rename_i kvs he
      obtain ⟨v, rfl, rv1⟩ := reps1 rv
      obtain ⟨n, es, rfl, hn, hS, rfl, g1, q2⟩ := own_dctT r rv1 he
      exact .inr ⟨μ n, es, rfl, .inl g1, fun p bs hp hb => q p _ H μ r (Ext.refl r) hp (keysT_reps r q2 hb)⟩
  · cases hf
theorem listD_lst : ∀ S ds d, bltF .listD S ds = .ok d → ∃ xs, d = .lst xs := by
  intro S ds d h
  simp only [bltF] at h
  split at h
  · split at h
    · cases h; exact ⟨_, rfl⟩
    · split at h <;> cases h
      exact ⟨_, rfl⟩
  · cases h
theorem foldl_min : ∀ (is : List Int) (i : Int), ((is.foldl (fun m j => if j < m then j else m) i) ∈ i :: is) ∧ ∀ y ∈ i :: is, (is.foldl (fun m j => if j < m then j else m) i) ≤ y
  | [], i => by simp
  | j :: is, i => by
    obtain ⟨h1, h2⟩ := foldl_min is (if j < i then j else i)
    simp only [List.foldl_cons]
    generalize is.foldl (fun m j => if j < m then j else m) (if j < i then j else i) = m at h1 h2
    have h3 := h2 (if j < i then j else i) List.mem_cons_self
    refine ⟨?_, fun y hy => ?_⟩
    · rcases List.mem_cons.mp h1 with h1 | h1
      · rw [h1]; split <;> simp
      · exact List.mem_cons_of_mem _ (List.mem_cons_of_mem _ h1)
    · rcases List.mem_cons.mp hy with rfl | hy
      · split at h3 <;> omega
      · rcases List.mem_cons.mp hy with rfl | hy
        · split at h3 <;> omega
        · exact h2 y (List.mem_cons_of_mem _ hy)
theorem foldl_max : ∀ (is : List Int) (i : Int), ((is.foldl (fun m j => if m < j then j else m) i) ∈ i :: is) ∧ ∀ y ∈ i :: is, y ≤ (is.foldl (fun m j => if m < j then j else m) i)
  | [], i => by simp
  | j :: is, i => by
    obtain ⟨h1, h2⟩ := foldl_max is (if i < j then j else i)
    simp only [List.foldl_cons]
    generalize is.foldl (fun m j => if m < j then j else m) (if i < j then j else i) = m at h1 h2
    have h3 := h2 (if i < j then j else i) List.mem_cons_self
    refine ⟨?_, fun y hy => ?_⟩
    · rcases List.mem_cons.mp h1 with h1 | h1
      · rw [h1]; split <;> simp
      · exact List.mem_cons_of_mem _ (List.mem_cons_of_mem _ h1)
    · rcases List.mem_cons.mp hy with rfl | hy
      · split at h3 <;> omega
      · rcases List.mem_cons.mp hy with rfl | hy
        · split at h3 <;> omega
        · exact h2 y (List.mem_cons_of_mem _ hy)
theorem best_minL {d : D} : ∀ {ds : List D} {p : PyData} {ps : List PyData}, pyD d = some p → pyDs ds = some ps → (∀ a ∈ d :: ds, ∀ b ∈ d :: ds, alikeT a b = true) → pyD (ds.foldl (fun m y => if ltT y m = true then y else m) d) = some (PySem.W.minD p ps) := by
  intro ds
  induction ds generalizing d with
  | nil => intro p ps h1 h2 _; cases h2; exact h1
  | cons e ds ih =>
    intro p ps h1 h2 h
    obtain ⟨q, h3, h4⟩ := Option.bind_eq_some_iff.mp h2
    obtain ⟨qr, h5, rfl⟩ := Option.map_eq_some_iff.mp h4
    have hd : d ∈ d :: e :: ds := List.mem_cons_self
    have he : e ∈ d :: e :: ds := List.mem_cons_of_mem _ List.mem_cons_self
    have sub1 : ∀ x ∈ e :: ds, x ∈ d :: e :: ds := fun x hx => List.mem_cons_of_mem _ hx
    have sub2 : ∀ x ∈ d :: ds, x ∈ d :: e :: ds := fun x hx => by
      rcases List.mem_cons.mp hx with rfl | hx
      · exact hd
      · exact List.mem_cons_of_mem _ (List.mem_cons_of_mem _ hx)
    rw [List.foldl_cons]
    show pyD _ = some ((q :: qr).foldl _ p)
    rw [List.foldl_cons]
    have l1 := lt_dat e d q p h3 h1 (h _ he _ hd)
    by_cases c : ltT e d = true
    · rw [if_pos c, if_pos (l1.trans c)]
      exact ih h3 h5 fun a ha b hb => h a (sub1 a ha) b (sub1 b hb)
    · rw [if_neg c, if_neg (by rw [l1]; exact c)]
      exact ih h1 h5 fun a ha b hb => h a (sub2 a ha) b (sub2 b hb)
theorem minD_ints0 (i : Int) (is : List Int) : PySem.W.minD (.int i) (is.map .int) = .int (is.foldl (fun m j => if j < m then j else m) i) := by
  rw [PySem.W.minD_ints]
  congr 1
  induction is generalizing i with
  | nil => rfl
  | cons j is ih =>
    rw [List.foldl_cons, List.foldl_cons, ← ih]
    congr 1
    show min i j = _
    rw [Int.min_def]
    split <;> split <;> omega
theorem pyDs_ints : ∀ is : List Int, pyDs (is.map D.int) = some (is.map PyData.int)
  | [] => rfl
  | i :: is => by
    simp only [List.map_cons, pyDs, pyD, pyDs_ints is, Option.bind_some, Option.map_some]
theorem depth_ints : ∀ is : List Int, PyData.depthAll (is.map PyData.int) ≤ 1
  | [] => by simp [PyData.depthAll]
  | i :: is => by
    have := depth_ints is
    simp only [List.map_cons, PyData.depthAll, PyData.depth]
    omega
theorem intsD_map : ∀ {ds : List D} {is : List Int}, intsD ds = some is → ds = is.map D.int
  | [], is, h => by cases h; rfl
  | d :: ds, is, h => by
    cases d with
    | int i =>
      simp only [intsD] at h
      obtain ⟨js, e1, rfl⟩ := Option.map_eq_some_iff.mp h
      rw [List.map_cons, intsD_map e1]
    | _ => simp only [intsD] at h; cases h
abbrev rminLA (K : PySem.W.Frag) : List V → Hp → VK → Prop := fun xs H Q => rMin K xs H Q ∨ rBestD K PySem.W.minD xs H Q
theorem gives_minL : GivesA K (bltF .minL) (rminLA K) := by
  intro μ S H ds d vs r rv hf Q q
  simp only [bltF] at hf
  split at hf
  · split at hf
    rotate_left
    · split at hf
      · split at hf <;> cases hf
        rename_i x xs hx hall
        obtain ⟨v, rfl, rv1⟩ := reps1 rv
        obtain ⟨a, ws, rfl, h1, h2⟩ := (rd_lstOf r rv1 hx).sq
        obtain ⟨qs, k1, k2, k3⟩ := pys_datT 50 (x :: xs) (datTs_all fun d hd => (allT_mem hall hd).1)
        obtain ⟨p, p3, p4⟩ := Option.bind_eq_some_iff.mp k1
        obtain ⟨pr, p5, rfl⟩ := Option.map_eq_some_iff.mp p4
        refine .inr ⟨a, ws, p, pr, rfl, h1, dps_of _ _ _ h2 k1, ⟨fun u hu w hw => ?_, fun u hu => ?_⟩, by omega, fun i v hv hb => ?_⟩
        · obtain ⟨d1, m1, e1⟩ := pyDs_mem k1 hu
          obtain ⟨d2, m2, e2⟩ := pyDs_mem k1 hw
          rw [alike_dat d1 d2 u w e1 e2]
          exact (allT_mem hall m1).2.2 d2 m2
        · obtain ⟨d1, m1, e1⟩ := pyDs_mem k1 hu
          rintro rfl
          have hn := (allT_mem hall m1).2.1
          rw [pyD_inj d1 .non .none e1 rfl] at hn
          cases hn
        · obtain ⟨d1, g1, g2⟩ := RepVs.get' h2 hv
          obtain ⟨d2, g3, g4⟩ := pyDs_get k1 hb
          rw [g1] at g3; cases g3
          have := pyD_inj _ _ _ g4 (best_minL p3 p5 fun a ha b hb => (allT_mem hall ha).2.2 b hb)
          subst this
          exact q _ _ μ r (Ext.refl r) g2
      · cases hf
    cases hf
    rename_i i is he
    obtain ⟨v, rfl, rv1⟩ := reps1 rv
    obtain ⟨ys, e1, e2⟩ := Option.bind_eq_some_iff.mp he
    obtain ⟨a, ws, rfl, h1, h2⟩ := (rd_lstOf r rv1 e1).sq
    have e3 := ints_of e2 h2
    subst e3
    refine .inl ⟨a, _, rfl, h1, by simp, fun m hm hle => ?_⟩
    have hmin := foldl_min is i
    have : m = is.foldl (fun m j => if j < m then j else m) i := by
      have h5 := hle _ hmin.1
      have h6 := hmin.2 m hm
      omega
    rw [this]
    exact q _ _ μ r (Ext.refl r) (by simp only [RepV])
  · cases hf
theorem call_minL {X : Cx} (hc : X.calm = true) (hu : X.A.units + 64 < cLine) : CallR X (.builtin "min") (rminLA X.K) := by
  intro pins s σ H xs us Q I rv h
  rcases h with h | h
  · exact cr_min hc pins s σ H xs us Q I rv h
  · exact cr_minD hc hu pins s σ H xs us Q I rv h
theorem best_maxL {d : D} : ∀ {ds : List D} {p : PyData} {ps : List PyData}, pyD d = some p → pyDs ds = some ps → (∀ a ∈ d :: ds, ∀ b ∈ d :: ds, alikeT a b = true) → pyD (ds.foldl (fun m y => if ltT m y = true then y else m) d) = some (PySem.W.maxD p ps) := by
  intro ds
  induction ds generalizing d with
  | nil => intro p ps h1 h2 _; cases h2; exact h1
  | cons e ds ih =>
    intro p ps h1 h2 h
    obtain ⟨q, h3, h4⟩ := Option.bind_eq_some_iff.mp h2
    obtain ⟨qr, h5, rfl⟩ := Option.map_eq_some_iff.mp h4
    have hd : d ∈ d :: e :: ds := List.mem_cons_self
    have he : e ∈ d :: e :: ds := List.mem_cons_of_mem _ List.mem_cons_self
    have sub1 : ∀ x ∈ e :: ds, x ∈ d :: e :: ds := fun x hx => List.mem_cons_of_mem _ hx
    have sub2 : ∀ x ∈ d :: ds, x ∈ d :: e :: ds := fun x hx => by
      rcases List.mem_cons.mp hx with rfl | hx
      · exact hd
      · exact List.mem_cons_of_mem _ (List.mem_cons_of_mem _ hx)
    rw [List.foldl_cons]
    show pyD _ = some ((q :: qr).foldl _ p)
    rw [List.foldl_cons]
    have l1 := lt_dat d e p q h1 h3 (h _ hd _ he)
    by_cases c : ltT d e = true
    · rw [if_pos c, if_pos (l1.trans c)]
      exact ih h3 h5 fun a ha b hb => h a (sub1 a ha) b (sub1 b hb)
    · rw [if_neg c, if_neg (by rw [l1]; exact c)]
      exact ih h1 h5 fun a ha b hb => h a (sub2 a ha) b (sub2 b hb)
abbrev rmaxLA (K : PySem.W.Frag) : List V → Hp → VK → Prop := fun xs H Q => rMax K xs H Q ∨ rBestD K PySem.W.maxD xs H Q
theorem gives_maxL : GivesA K (bltF .maxL) (rmaxLA K) := by
  intro μ S H ds d vs r rv hf Q q
  simp only [bltF] at hf
  split at hf
  · split at hf
    rotate_left
    · split at hf
      · split at hf <;> cases hf
        rename_i x xs hx hall
        obtain ⟨v, rfl, rv1⟩ := reps1 rv
        obtain ⟨a, ws, rfl, h1, h2⟩ := (rd_lstOf r rv1 hx).sq
        obtain ⟨qs, k1, k2, k3⟩ := pys_datT 50 (x :: xs) (datTs_all fun d hd => (allT_mem hall hd).1)
        obtain ⟨p, p3, p4⟩ := Option.bind_eq_some_iff.mp k1
        obtain ⟨pr, p5, rfl⟩ := Option.map_eq_some_iff.mp p4
        refine .inr ⟨a, ws, p, pr, rfl, h1, dps_of _ _ _ h2 k1, ⟨fun u hu w hw => ?_, fun u hu => ?_⟩, by omega, fun i v hv hb => ?_⟩
        · obtain ⟨d1, m1, e1⟩ := pyDs_mem k1 hu
          obtain ⟨d2, m2, e2⟩ := pyDs_mem k1 hw
          rw [alike_dat d1 d2 u w e1 e2]
          exact (allT_mem hall m1).2.2 d2 m2
        · obtain ⟨d1, m1, e1⟩ := pyDs_mem k1 hu
          rintro rfl
          have hn := (allT_mem hall m1).2.1
          rw [pyD_inj d1 .non .none e1 rfl] at hn
          cases hn
        · obtain ⟨d1, g1, g2⟩ := RepVs.get' h2 hv
          obtain ⟨d2, g3, g4⟩ := pyDs_get k1 hb
          rw [g1] at g3; cases g3
          have := pyD_inj _ _ _ g4 (best_maxL p3 p5 fun a ha b hb => (allT_mem hall ha).2.2 b hb)
          subst this
          exact q _ _ μ r (Ext.refl r) g2
      · cases hf
    cases hf
    rename_i i is he
    obtain ⟨v, rfl, rv1⟩ := reps1 rv
    obtain ⟨ys, e1, e2⟩ := Option.bind_eq_some_iff.mp he
    obtain ⟨a, ws, rfl, h1, h2⟩ := (rd_lstOf r rv1 e1).sq
    have e3 := ints_of e2 h2
    subst e3
    refine .inl ⟨a, _, rfl, h1, by simp, fun m hm hle => ?_⟩
    have hmax := foldl_max is i
    have : m = is.foldl (fun m j => if m < j then j else m) i := by
      have h5 := hle _ hmax.1
      have h6 := hmax.2 m hm
      omega
    rw [this]
    exact q _ _ μ r (Ext.refl r) (by simp only [RepV])
  · cases hf
theorem call_maxL {X : Cx} (hc : X.calm = true) (hu : X.A.units + 64 < cLine) : CallR X (.builtin "max") (rmaxLA X.K) := by
  intro pins s σ H xs us Q I rv h
  rcases h with h | h
  · exact cr_max hc pins s σ H xs us Q I rv h
  · exact cr_maxD hc hu pins s σ H xs us Q I rv h
abbrev rLenA (K : PySem.W.Frag) : List V → Hp → VK → Prop := fun xs H Q => (∃ x n, xs = [x] ∧ LenV K x H n ∧ Q (.int n) H) ∨ (∃ a kvs, xs = [V.ref a] ∧ H a = some (.dK kvs) ∧ Q (.int kvs.length) H)
theorem call_lenA {X : Cx} : CallR X (.builtin "len") (rLenA X.K) := by
  intro pins s σ H xs us Q I rv h
  rcases h with h | h
  · exact call_len pins s σ H xs us Q I rv h
  · exact call_lenD pins s σ H xs us Q I rv h
theorem gives_lenA : GivesA K (bltF .len) (rLenA K) := by
  intro μ S H ds d vs r rv hf Q q
  simp only [bltF] at hf
  split at hf
  · rename_i d0
    unfold lenF at hf
    split at hf
    · rename_i kvs he
      cases hf
      obtain ⟨v, rfl, rv1⟩ := reps1 rv
      cases d0 with
      | loc n =>
        simp only [ownDct] at he
        split at he <;> cases he
        rename_i hn
        simp only [RepV] at rv1
        obtain ⟨_, rfl⟩ := rv1
        obtain ⟨ho, e1, q1⟩ := r.obj n _ hn
        simp only [RepO] at q1
        obtain ⟨es, rfl, h1⟩ := q1
        refine .inr ⟨_, es, rfl, e1, ?_⟩
        rw [← repK_len h1]
        exact q _ _ μ r (Ext.refl r) (by simp only [RepV])
      | _ => cases he
    · exact .inl (gives_len μ S H [d0] d vs r rv hf Q q)
  · cases hf
end
def bltName : Blt → Str
  | .len => "len" | .abs => "abs" | .int => "int" | .bool => "bool" | .all => "all" | .any => "any" | .sum => "sum" | .tuple => "tuple" | .list => "list" | .min2 => "min" | .max2 => "max" | .str => "str" | .listD => "list" | .sorted => "sorted" | .dict => "dict" | .minL => "min" | .maxL => "max" | .min3 => "min" | .max3 => "max" | .rep => "list" | .rgT => "tuple" | .rgL => "list" | .minD => "min"
/-- called by its name alone -/
def plainB : Blt → Bool
  | .rep | .rgT | .rgL | .minD => false
  | _ => true
section
variable {X : Cx} {a b c : Expr} {fa fb fc : M1} {pos : Pos} {es : List Expr} {fs : Env' → St' → R (List D × St')}
theorem se_blt {b : Blt} {p : Pos} (hb : plainB b = true) (hu : X.A.units + 64 < cLine) (hc : X.calm = true) (hg : Gl X (bltName b)) (hm : X.mg (bltName b) = none) (hs : SA X fs (a :: es)) (hn : (a :: es).all noStar = true) :
    SE X (fun env S => (fs env S).bind fun x => (bltF b x.2 x.1).bind fun d => .ok (d, x.2)) (.Call (.Name (bltName b) p) (a :: es) [] pos) := by
  cases b with
  | listD => exact se_callTy (cr_listDA hc) (new_listD.gives listD_lst) hg hm (by decide +kernel) hs hn (by decide +kernel) (by decide +kernel)
  | sorted => exact se_callB (call_sortA hu) (new_sorted.gives sorted_lst) hg hm (by decide +kernel) hs hn (by decide +kernel) (by decide +kernel)
  | dict => exact se_callTy (call_dictP hc) (new_dict.gives dict_dct) hg hm (by decide +kernel) hs hn (by decide +kernel) (by decide +kernel)
  | minL => exact se_callB (call_minL hc hu) gives_minL hg hm (by decide +kernel) hs hn (by decide +kernel) (by decide +kernel)
  | maxL => exact se_callB (call_maxL hc hu) gives_maxL hg hm (by decide +kernel) hs hn (by decide +kernel) (by decide +kernel)
  | len => exact se_callB call_lenA gives_lenA hg hm (by decide +kernel) hs hn (by decide +kernel) (by decide +kernel)
  | abs => exact se_callB call_abs gives_abs hg hm (by decide +kernel) hs hn (by decide +kernel) (by decide +kernel)
  | int => exact se_callTy call_int1 gives_int hg hm (by decide +kernel) hs hn (by decide +kernel) (by decide +kernel)
  | bool => exact se_callTy call_bool1 gives_bool hg hm (by decide +kernel) hs hn (by decide +kernel) (by decide +kernel)
  | all => exact se_callB (cr_all hc) gives_all hg hm (by decide +kernel) hs hn (by decide +kernel) (by decide +kernel)
  | any => exact se_callB (cr_any hc) gives_any hg hm (by decide +kernel) hs hn (by decide +kernel) (by decide +kernel)
  | sum => exact se_callB (cr_sum hc) gives_sum hg hm (by decide +kernel) hs hn (by decide +kernel) (by decide +kernel)
  | tuple => exact se_callTy call_tuple_of gives_tuple hg hm (by decide +kernel) hs hn (by decide +kernel) (by decide +kernel)
  | list => exact se_callTy (cr_listA hc) gives_list hg hm (by decide +kernel) hs hn (by decide +kernel) (by decide +kernel)
  | min2 => exact se_callB (call_min2 hc) gives_min2 hg hm (by decide +kernel) hs hn (by decide +kernel) (by decide +kernel)
  | max2 => exact se_callB (call_max2 hc) gives_max2 hg hm (by decide +kernel) hs hn (by decide +kernel) (by decide +kernel)
  | str => exact se_callTy call_str_int gives_strB hg hm (by decide +kernel) hs hn (by decide +kernel) (by decide +kernel)
  | rep => cases hb
  | rgT => cases hb
  | rgL => cases hb
  | minD => cases hb
  | min3 => exact se_callB (call_min3Nu hc) gives_min3 hg hm (by decide +kernel) hs hn (by decide +kernel) (by decide +kernel)
  | max3 => exact se_callB (call_max3Nu hc) gives_max3 hg hm (by decide +kernel) hs hn (by decide +kernel) (by decide +kernel)
/-- min(.., default=None) -/
theorem se_minD {p cp kp pos : Pos} {j : Nat} (hc : X.calm = true) (hu : X.A.units + 64 < cLine) (hg : Gl X "min") (hm : X.mg "min" = none) (hs : SA X fs [a]) (hn : noStar a = true) :
    SE X (fun env S => (fs env S).bind fun x => (bltF .minD x.2 x.1).bind fun d => .ok (d, x.2)) (.Call (.Name "min" p) [a] [⟨some "default", .Constant .none j cp, kp⟩] pos) := by
  obtain ⟨ts, h1, h2⟩ := hs
  refine ⟨_, pe_callBK (cr_minDef hc hu) hg hm (by decide +kernel) h1 (pk_cons pe_non pk_nil) (by decide +kernel) (by decide +kernel) (by rw [star_cons hn]; rfl) (by rw [star_cons hn]; rfl) (by rfl) (by rfl) (by rfl), fun σ H μ env S d S' rl re hf Q q => ?_⟩
  obtain ⟨⟨ds, S1⟩, e1, hf1⟩ := R.bind_eq_ok hf
  obtain ⟨d', e2, hf2⟩ := R.bind_eq_ok hf1
  clear hf hf1
  cases hf2
  refine h2 σ H μ env S _ _ rl re e1 _ fun vs H1 μ1 r1 x1 rv => ?_
  have q1 : Fin1 X.K μ1 S1 H1 d S1 Q := fun v H2 μ2 a1 a2 a3 => q v H2 μ2 a1 (x1.trans a2) a3
  simp only [bltF] at e2
  split at e2
  · split at e2 <;> cases e2
    · rename_i he
      obtain ⟨v, rfl, rv1⟩ := reps1 rv
      obtain ⟨ys, e3, e4⟩ := Option.bind_eq_some_iff.mp he
      obtain ⟨a', ws, rfl, k1, k2⟩ := (rd_lstOf r1 rv1 e3).sq
      have e5 := ints_of e4 k2
      subst e5
      exact ⟨a', _, [], rfl, rfl, k1, .nil, ⟨(fun x hx => by cases hx), (fun x hx => by cases hx)⟩, by simp [PyData.depthAll], fun _ => q1 _ _ μ1 r1 (Ext.refl r1) (by simp only [RepV]), fun d es i v h => by cases h⟩
    · rename_i i is he
      obtain ⟨v, rfl, rv1⟩ := reps1 rv
      obtain ⟨ys, e3, e4⟩ := Option.bind_eq_some_iff.mp he
      obtain ⟨a', ws, rfl, k1, k2⟩ := (rd_lstOf r1 rv1 e3).sq
      obtain rfl := intsD_map e4
      have e5 := ints_of e4 k2
      subst e5
      have hp : pyDs ((i :: is).map D.int) = some ((i :: is).map PyData.int) := pyDs_ints _
      refine ⟨a', _, (i :: is).map PyData.int, rfl, rfl, k1, dps_of _ _ _ k2 hp, ⟨fun x hx y hy => ?_, fun x hx => ?_⟩, ?_, (fun h => by cases h), fun d es j v hd hv hj => ?_⟩
      · obtain ⟨n, _, rfl⟩ := List.mem_map.mp hx
        obtain ⟨m, _, rfl⟩ := List.mem_map.mp hy
        rfl
      · obtain ⟨n, _, rfl⟩ := List.mem_map.mp hx
        exact fun h => by cases h
      · exact Nat.le_trans (depth_ints _) (by decide)
      · cases hd
        rw [minD_ints0] at hj
        rw [List.getElem?_map] at hv hj
        cases hg : (i :: is)[j]? with
        | none => rw [hg] at hj; cases hj
        | some n =>
          rw [hg] at hv hj
          cases hv
          have : n = is.foldl (fun m j => if j < m then j else m) i := by
            have := Option.some.inj hj
            exact PyData.int.inj this
          rw [this]
          exact q1 _ _ μ1 r1 (Ext.refl r1) (by simp only [RepV])
  · cases e2
/-- a built-in that makes a new list -/
theorem sf_bltB {id : String} {x : Str} {p : Pos} {f : St' → List D → R D} {r : List V → Hp → VK → Prop} (hc : CallR X (.builtin id) r) (hr : NewL X.K f r) (hg : Gl X x) (hm : X.mg x = none) (hv : bootBuiltins x = some (.builtin id)) (hs : SA X fs (a :: es)) (hn : (a :: es).all noStar = true)
    (hx : x ≠ "__name__") (hdb : (x == ("__debug__" : Str)) = false) : SF X (fun env S => (fs env S).bind fun x => (f x.2 x.1).bind fun d => .ok (d, x.2)) (.Call (.Name x p) (a :: es) [] pos) := by
  obtain ⟨ts, h1, h2⟩ := hs
  rw [List.all_cons, Bool.and_eq_true] at hn
  refine ⟨_, pe_callB hc hg hm hv h1 hx hdb (star_cons hn.1) (star_any hn.2), fun σ H μ env S d S' rl re hf Q q => ?_⟩
  obtain ⟨⟨ds, S1⟩, e1, hf1⟩ := R.bind_eq_ok hf
  obtain ⟨d', e2, hf2⟩ := R.bind_eq_ok hf1
  clear hf hf1
  cases hf2
  refine h2 σ H μ env S _ _ rl re e1 _ fun vs H1 μ1 r1 x1 rv => ?_
  exact hr μ1 _ H1 ds d vs r1 rv e2 Q fun p ws H2 μ2 a1 a2 a3 a4 => q p ws H2 μ2 a1 (x1.trans a2) a3 a4
theorem sf_bltT {id : String} {x : Str} {p : Pos} {f : St' → List D → R D} {r : List V → Hp → VK → Prop} (hc : CallR X (.type id) r) (hr : NewL X.K f r) (hg : Gl X x) (hm : X.mg x = none) (hv : bootBuiltins x = some (.type id)) (hs : SA X fs (a :: es)) (hn : (a :: es).all noStar = true)
    (hx : x ≠ "__name__") (hdb : (x == ("__debug__" : Str)) = false) : SF X (fun env S => (fs env S).bind fun x => (f x.2 x.1).bind fun d => .ok (d, x.2)) (.Call (.Name x p) (a :: es) [] pos) := by
  obtain ⟨ts, h1, h2⟩ := hs
  rw [List.all_cons, Bool.and_eq_true] at hn
  refine ⟨_, pe_callTy hc hg hm hv h1 hx hdb (star_cons hn.1) (star_any hn.2), fun σ H μ env S d S' rl re hf Q q => ?_⟩
  obtain ⟨⟨ds, S1⟩, e1, hf1⟩ := R.bind_eq_ok hf
  obtain ⟨d', e2, hf2⟩ := R.bind_eq_ok hf1
  clear hf hf1
  cases hf2
  refine h2 σ H μ env S _ _ rl re e1 _ fun vs H1 μ1 r1 x1 rv => ?_
  exact hr μ1 _ H1 ds d vs r1 rv e2 Q fun p ws H2 μ2 a1 a2 a3 a4 => q p ws H2 μ2 a1 (x1.trans a2) a3 a4
theorem sfd_bltT {id : String} {x : Str} {p : Pos} {f : St' → List D → R D} {r : List V → Hp → VK → Prop} (hc : CallR X (.type id) r) (hr : NewD X.K f r) (hg : Gl X x) (hm : X.mg x = none) (hv : bootBuiltins x = some (.type id)) (hs : SA X fs (a :: es)) (hn : (a :: es).all noStar = true)
    (hx : x ≠ "__name__") (hdb : (x == ("__debug__" : Str)) = false) : SFD X (fun env S => (fs env S).bind fun x => (f x.2 x.1).bind fun d => .ok (d, x.2)) (.Call (.Name x p) (a :: es) [] pos) := by
  obtain ⟨ts, h1, h2⟩ := hs
  rw [List.all_cons, Bool.and_eq_true] at hn
  refine ⟨_, pe_callTy hc hg hm hv h1 hx hdb (star_cons hn.1) (star_any hn.2), fun σ H μ env S ks xs S' rl re hf Q q => ?_⟩
  obtain ⟨⟨ds, S1⟩, e1, hf1⟩ := R.bind_eq_ok hf
  obtain ⟨d', e2, hf2⟩ := R.bind_eq_ok hf1
  clear hf hf1
  cases hf2
  refine h2 σ H μ env S _ _ rl re e1 _ fun vs H1 μ1 r1 x1 rv => ?_
  exact hr μ1 _ H1 ds ks xs vs r1 rv e2 Q fun p es H2 μ2 a1 a2 a3 a4 a5 => q p es H2 μ2 a1 (x1.trans a2) a3 a4 a5
/-- list(x), as a new one -/
theorem sf_list {p : Pos} (hc : X.calm = true) (hg : Gl X "list") (hm : X.mg "list" = none) (hs : SA X fs (a :: es)) (hn : (a :: es).all noStar = true) :
    SF X (fun env S => (fs env S).bind fun x => (bltF .list x.2 x.1).bind fun d => .ok (d, x.2)) (.Call (.Name "list" p) (a :: es) [] pos) := by
  obtain ⟨ts, h1, h2⟩ := hs
  rw [List.all_cons, Bool.and_eq_true] at hn
  refine ⟨_, pe_callTy (cr_listA hc) hg hm (by decide +kernel) h1 (by decide +kernel) (by decide +kernel) (star_cons hn.1) (star_any hn.2), fun σ H μ env S d S' rl re hf Q q => ?_⟩
  obtain ⟨⟨ds, S1⟩, e1, hf1⟩ := R.bind_eq_ok hf
  obtain ⟨d', e2, hf2⟩ := R.bind_eq_ok hf1
  clear hf hf1
  cases hf2
  simp only [bltF] at e2
  split at e2
  · split at e2 <;> cases e2
    rename_i hz
    refine h2 σ H μ env S _ _ rl re e1 _ fun vs H1 μ1 r1 x1 rv => ?_
    obtain ⟨v, ev, rv1⟩ := reps1 rv
    simp only [RepV] at rv1
    rw [ev, rv1]
    exact .inr ⟨_, rfl, by rw [ss_len, sizeLine_eq]; exact hz, fun p hp => q p _ H1 μ1 r1 x1 hp (signs_rep _)⟩
  · split at e2 <;> cases e2
    rename_i he
    refine h2 σ H μ env S _ _ rl re e1 _ fun vs H1 μ1 r1 x1 rv => ?_
    obtain ⟨v, ev, rv1⟩ := reps1 rv
    obtain ⟨a', ws, ev2, k1, k2⟩ := rd_seqOf r1 rv1 he
    rw [ev, ev2]
    exact .inl ⟨a', ws, rfl, k1, fun p hp => q p ws H1 μ1 r1 x1 hp k2⟩
  · cases e2
/-! isinstance -/
def tyName : Ty → String
  | .int => "int" | .bool => "bool" | .str => "str" | .tuple => "tuple" | .list => "list" | .dict => "dict"
theorem ty_of {K : PySem.W.Frag} {μ : Mu} {S : St'} {H : Hp} {d : D} {t : Ty} {k : Bool} {v : V} (r : Rel K μ S H) (h : RepV K μ S.length H d v) (e : tyF t S d = .ok k) : ∃ n : String, TyX K H v (.type n) ∧ kitB n (tyName t) = some k := by
  cases d with
  | non => simp only [tyF, R.ok.injEq] at e; simp only [RepV] at h; subst h e; exact ⟨_, .base .non, by cases t <;> decide +kernel⟩
  | bl b => simp only [tyF, R.ok.injEq] at e; simp only [RepV] at h; subst h e; exact ⟨_, .base (.bl b), by cases t <;> decide +kernel⟩
  | int b => simp only [tyF, R.ok.injEq] at e; simp only [RepV] at h; subst h e; exact ⟨_, .base (.int b), by cases t <;> decide +kernel⟩
  | str b => simp only [tyF, R.ok.injEq] at e; simp only [RepV] at h; subst h e; exact ⟨_, .base (.str _), by cases t <;> decide +kernel⟩
  | tup ds =>
    simp only [tyF, R.ok.injEq] at e
    subst e
    simp only [RepV] at h
    obtain ⟨a, vs, rfl, h1, _⟩ := h
    refine ⟨"tuple", ?_, by cases t <;> decide +kernel⟩
    rcases h1 with ⟨h1 | ⟨o, h1⟩, _⟩ | ⟨o, its, n, h1, h2, _⟩
    · exact .base (.tup h1)
    · exact .fTuple h1
    · exact .kTuple h1 h2
  | lst ds =>
    simp only [tyF, R.ok.injEq] at e
    subst e
    simp only [RepV] at h
    obtain ⟨a, vs, rfl, h1, _⟩ := h
    refine ⟨"list", ?_, by cases t <;> decide +kernel⟩
    rcases h1 with ⟨h1 | ⟨o, h1⟩, _⟩ | ⟨o, its, n, h1, h2, _⟩
    · exact .base (.lst h1)
    · exact .base (.frz h1)
    · exact .kList h1 h2
  | dct ks vs =>
    simp only [tyF, R.ok.injEq] at e
    subst e
    simp only [RepV] at h
    obtain ⟨a, es, rfl, h1, _⟩ := h
    refine ⟨"dict", ?_, by cases t <;> decide +kernel⟩
    rcases h1.1 with h1 | ⟨o, h1⟩
    · exact .base (.dK h1)
    · exact .fDict h1
  | loc n =>
    simp only [tyF] at e
    simp only [RepV] at h
    obtain ⟨_, rfl⟩ := h
    split at e
    · rename_i xs he
      cases e
      obtain ⟨ho, e1, q⟩ := r.obj n _ he
      simp only [RepO] at q
      obtain ⟨vs, rfl, _⟩ := q
      exact ⟨"list", .base (.lst e1), by cases t <;> decide +kernel⟩
    · rename_i xs he
      cases e
      obtain ⟨ho, e1, q⟩ := r.obj n _ he
      simp only [RepO] at q
      obtain ⟨vs, rfl, _⟩ := q
      exact ⟨"dict", .base (.dK e1), by cases t <;> decide +kernel⟩
    · rename_i xs he
      cases e
      obtain ⟨ho, e1, q⟩ := r.obj n _ he
      simp only [RepO] at q
      obtain ⟨vs, rfl, _⟩ := q
      exact ⟨"dict", .base (.dT e1), by cases t <;> decide +kernel⟩
    · cases e
    · cases e
    · cases e
theorem se_isi {t : Ty} {p p2 : Pos} (hg : Gl X "isinstance") (hm : X.mg "isinstance" = none) (hg2 : Gl X (tyName t)) (hm2 : X.mg (tyName t) = none) (ha : SE X fa a) (hn : noStar a = true) :
    SE X (fun env S => (fa env S).bind fun x => (tyF t x.2 x.1).bind fun k => .ok (.bl k, x.2)) (.Call (.Name "isinstance" p) [a, .Name (tyName t) p2] [] pos) := by
  obtain ⟨ta, h1, h2⟩ := ha
  have hT : PE X (.Name (tyName t) p2) (tC (.ty (tyName t))) := by
    refine pe_bltn hg2 hm2 (u := .type (tyName t)) ?_ rfl ?_ ?_
    · cases t <;> decide +kernel
    · cases t <;> decide +kernel
    · cases t <;> decide +kernel
  refine ⟨_, pe_callB call_isi hg hm (by decide +kernel) (pa_cons h1 (pa_cons hT pa_nil) (star_cons hn)) (by decide +kernel) (by decide +kernel) (star_cons hn) rfl, fun σ H μ env S d S' rl re hf Q q => ?_⟩
  obtain ⟨⟨x, S1⟩, e1, hf⟩ := R.bind_eq_ok hf
  obtain ⟨k, e2, hf⟩ := R.bind_eq_ok hf
  cases hf
  refine h2 σ H μ env S _ _ rl re e1 _ fun v H1 μ1 r1 x1 rv => ?_
  obtain ⟨n, ty, e⟩ := ty_of r1 rv e2
  exact ⟨v, .ty (tyName t), .type n, .type (tyName t), k, rfl, .ty _, ty, kit_ty e, q _ H1 μ1 r1 x1 (by simp only [RepV])⟩
/-! methods -/
def noCall0 : Expr → Bool
  | .Call (.Name _ _) [] [] _ => false
  | _ => true
theorem attr_base {o : Expr} {name : Str} {env : Env} {w : Sem Value} (h : noCall0 o = true) : attributeBase o name env w = w := by
  unfold attributeBase
  split
  · cases h
  · rfl
end
end TK

/-! TKx: zip of any two of lists, tuples, texts. -/
namespace TK
open PySem PySem.Spec PyProof.Rows L2
inductive SrcK where
  | lst (a : Addr) | tup (a : Addr) | str (x : Str)
def SrcK.v : SrcK → V
  | .lst a => .ref a
  | .tup a => .ref a
  | .str x => .str x
/-- what stands there -/
def SrcK.at (K : PySem.W.Frag) (H : Hp) : SrcK → List V → Prop
  | .lst a, us => SqL K H a us
  | .tup a, us => SqT K H a us
  | .str x, us => us = x.cps.toList.map fun c => V.str ⟨#[c]⟩
/-- an iterator over it -/
def SrcK.it (h : Heap) (it : Addr) : SrcK → Nat → Prop
  | .lst a, i => a ≠ it ∧ h.IsListIter it a i
  | .tup a, i => a ≠ it ∧ h.IsTupleIter it a i
  | .str x, i => (∃ t, h.IsStrIter it (strIterType x) x t i) ∧ i ≤ x.cps.size
def SrcK.off (z : Addr) : SrcK → Prop
  | .lst a => a ≠ z
  | .tup a => a ≠ z
  | .str _ => True
theorem SrcK.inj {X : Cx} {pins : List (Addr × Obj)} {σ : L2.St} {H : Hp} {s : Shared} (I : Inv X pins σ H s) : ∀ (k : SrcK) {us ws : List V}, k.at X.K H us → k.at X.K H ws → us = ws
  | .lst _, _, _, h, h' => I.list_inj h h'
  | .tup _, _, _, h, h' => I.tuple_inj h h'
  | .str _, _, _, h, h' => h.trans h'.symm
theorem SrcK.it_obj {h : Heap} {it : Addr} {i : Nat} : ∀ {k : SrcK}, k.it h it i → ∃ o, h.get? it = some o ∧ ∀ v, o.data ≠ .cell v
  | .lst _, st => let ⟨_, o, ho, _, hd⟩ := st; ⟨o, ho, fun v q => by rw [hd] at q; cases q⟩
  | .tup _, st => let ⟨_, o, ho, _, hd⟩ := st; ⟨o, ho, fun v q => by rw [hd] at q; cases q⟩
  | .str _, st => let ⟨⟨_, o, ho, _, hd⟩, _⟩ := st; ⟨o, ho, fun v q => by rw [hd] at q; cases q⟩
theorem SrcK.it_keep {h h' : Heap} {it : Addr} {i : Nat} (k : ∀ o, h.get? it = some o → h'.get? it = some o) : ∀ {c : SrcK}, c.it h it i → c.it h' it i
  | .lst _, st => ⟨st.1, st.2.at fun o q => k o q⟩
  | .tup _, st => ⟨st.1, st.2.at fun o q => k o q⟩
  | .str _, st => let ⟨⟨t, o, ho, r⟩, l⟩ := st; ⟨⟨t, o, k o ho, r⟩, l⟩
/-- what it draws at this turn -/
structure Now (P : Program) (w : World) (A : Around) (s : Shared) (it : Addr) (k : SrcK) (us : List V) (i : Nat) : Prop where
  ok : ∃ (fp : List Addr) (n : Nat) (Pr : Nat → Value → Prop) (St : Nat → Heap → Prop), Draws P w A it fp n Pr St ∧ St i s.heap ∧ it ∈ fp ∧ (∀ b ∈ fp, b = it ∨ ¬ k.off b) ∧ i ≤ n ∧ (i < us.length → i < n) ∧ (us.length ≤ i → i = n) ∧
    (∀ x, Pr i x → i < us.length → ∃ u, us[i]? = some u ∧ RelV u x) ∧ (∀ h', i < us.length → St (i + 1) h' → k.it h' it (i + 1))
theorem now_of {X : Cx} (hc : X.calm = true) {pins : List (Addr × Obj)} {σ : L2.St} {H : Hp} {s : Shared} (I : Inv X pins σ H s) {it : Addr} {i : Nat} : ∀ {k : SrcK} {us : List V}, k.at X.K H us → k.it s.heap it i → Now X.prog X.w X.A.in1 s it k us i
  | .lst a, us, hq, st => by
    obtain ⟨hne, hit⟩ := st
    obtain ⟨its, rv, p, hz⟩ := I.list hq
    have hl := rv.length
    have hd := I.ok.hd hc
    by_cases hi : i < us.length
    · refine ⟨[it, a], _, _, _, Draws.list (prog := X.prog) (w := X.w) (A := X.A.in1) hd it a hne its.toArray, ⟨hit, p.isList⟩, List.mem_cons_self, fun b hb => ?_, by simp; omega, fun _ => by simp; omega, fun h => by omega, fun x hx _ => ?_, fun h' _ st' => ⟨hne, st'.1⟩⟩
      · rcases List.mem_cons.mp hb with rfl | hb
        · exact .inl rfl
        · rw [List.mem_singleton.mp hb]; exact .inr fun q => q rfl
      · obtain ⟨u, hu⟩ : ∃ u, us[i]? = some u := ⟨us[i], List.getElem?_eq_getElem hi⟩
        obtain ⟨v, hv, ru⟩ := rv.get hu
        have hx' : its[i]? = some x := by simpa using hx
        rw [hv] at hx'; cases hx'
        exact ⟨u, hu, ru⟩
    · refine ⟨[it, a], i, fun _ _ => True, fun j h => j = i ∧ h.IsListIter it a j ∧ h.IsList a its.toArray, {
        live := fun _ _ q => let ⟨o, ho, _⟩ := q.2.1; ⟨o, ho⟩
        frame := fun _ _ _ q kk => ⟨q.1, q.2.1.at fun o y => kk it List.mem_cons_self o y, q.2.2.at fun o y => kk a (List.mem_cons_of_mem _ List.mem_cons_self) o y⟩
        item := fun j _ _ _ lt q _ => absurd q.1 (Nat.ne_of_lt lt)
        done := fun _ _ _ q hE => wpAny_nextOf_list_end hd q.2.1 q.2.2 (by simp; omega) hE }, ⟨rfl, hit, p.isList⟩, List.mem_cons_self, fun b hb => ?_, Nat.le_refl _, fun h => absurd h hi, fun _ => rfl, fun _ _ h => absurd h hi, fun _ h => absurd h hi⟩
      rcases List.mem_cons.mp hb with rfl | hb
      · exact .inl rfl
      · rw [List.mem_singleton.mp hb]; exact .inr fun q => q rfl
  | .tup a, us, hq, st => by
    obtain ⟨hne, hit⟩ := st
    obtain ⟨its, rv, p, hz⟩ := I.tuple hq
    have hl := rv.length
    have hd := I.ok.hd hc
    by_cases hi : i < us.length
    · refine ⟨[it, a], _, _, _, Draws.tuple (prog := X.prog) (w := X.w) (A := X.A.in1) hd it a hne its.toArray, ⟨hit, p⟩, List.mem_cons_self, fun b hb => ?_, by simp; omega, fun _ => by simp; omega, fun h => by omega, fun x hx _ => ?_, fun h' _ st' => ⟨hne, st'.1⟩⟩
      · rcases List.mem_cons.mp hb with rfl | hb
        · exact .inl rfl
        · rw [List.mem_singleton.mp hb]; exact .inr fun q => q rfl
      · obtain ⟨u, hu⟩ : ∃ u, us[i]? = some u := ⟨us[i], List.getElem?_eq_getElem hi⟩
        obtain ⟨v, hv, ru⟩ := rv.get hu
        have hx' : its[i]? = some x := by simpa using hx
        rw [hv] at hx'; cases hx'
        exact ⟨u, hu, ru⟩
    · refine ⟨[it, a], i, fun _ _ => True, fun j h => j = i ∧ h.IsTupleIter it a j ∧ h.IsTuple a its.toArray, {
        live := fun _ _ q => let ⟨o, ho, _⟩ := q.2.1; ⟨o, ho⟩
        frame := fun _ _ _ q kk => ⟨q.1, q.2.1.at fun o y => kk it List.mem_cons_self o y, q.2.2.at fun o y => kk a (List.mem_cons_of_mem _ List.mem_cons_self) o y⟩
        item := fun j _ _ _ lt q _ => absurd q.1 (Nat.ne_of_lt lt)
        done := fun _ _ _ q hE => wpAny_nextOf_tuple_end hd q.2.1 q.2.2 (by simp; omega) hE }, ⟨rfl, hit, p⟩, List.mem_cons_self, fun b hb => ?_, Nat.le_refl _, fun h => absurd h hi, fun _ => rfl, fun _ _ h => absurd h hi, fun _ h => absurd h hi⟩
      rcases List.mem_cons.mp hb with rfl | hb
      · exact .inl rfl
      · rw [List.mem_singleton.mp hb]; exact .inr fun q => q rfl
  | .str x, us, hq, st => by
    obtain ⟨⟨t, hit⟩, hle⟩ := st
    have hq : us = x.cps.toList.map fun c => V.str ⟨#[c]⟩ := hq
    subst hq
    have hd := I.ok.hd hc
    refine ⟨[it], _, _, _, Draws.text (prog := X.prog) (w := X.w) (A := X.A.in1) hd it x t, hit, List.mem_cons_self, fun b hb => .inl (List.mem_singleton.mp hb), hle, fun h => by simpa using h, fun h => by simp at h; omega, fun v hv _ => ?_, fun h' hi st' => ⟨⟨t, st'⟩, by simp at hi; omega⟩⟩
    obtain ⟨c, u, hx, rfl⟩ := hv
    refine ⟨.str ⟨#[c]⟩, ?_, u, rfl⟩
    rw [List.getElem?_map, Array.getElem?_toList, hx]
    rfl
/-- both sources as they stand at each turn, the items in new pairs -/
def ItzG (K : PySem.W.Frag) (k1 k2 : SrcK) : It :=
  ⟨fun i H => ∃ (xs ys : List V) (x y : V), k1.at K H xs ∧ k2.at K H ys ∧ xs[i]? = some x ∧ ys[i]? = some y,
    fun i H v H' => ∃ T x y, v = .ref T ∧ H T = none ∧ H' = upd H T (.tup [x, y]) ∧ (∀ xs, k1.at K H xs → xs[i]? = some x) ∧ ∀ ys, k2.at K H ys → ys[i]? = some y,
    fun i H => ∃ xs ys : List V, k1.at K H xs ∧ k2.at K H ys ∧ (xs.length ≤ i ∨ ys.length ≤ i)⟩
structure Apart5 (k1 k2 : SrcK) (z TI TO i1 i2 : Addr) : Prop where
  TIz : TI ≠ z
  TOz : TO ≠ z
  TITO : TI ≠ TO
  TIi1 : TI ≠ i1
  TIi2 : TI ≠ i2
  zi1 : z ≠ i1
  zi2 : z ≠ i2
  TOi1 : TO ≠ i1
  TOi2 : TO ≠ i2
  i12 : i1 ≠ i2
  off1 : ∀ b, b = z ∨ b = TO ∨ b = i2 → k1.off b
  off2 : ∀ b, b = z ∨ b = TO ∨ b = i1 → k2.off b
theorem sep_of {k1 k2 : SrcK} {z TI TO i1 i2 : Addr} {fp1 fp2 : List Addr} (D : Apart5 k1 k2 z TI TO i1 i2) (m1 : i1 ∈ fp1) (m2 : i2 ∈ fp2) (h1 : ∀ b ∈ fp1, b = i1 ∨ ¬ k1.off b) (h2 : ∀ b ∈ fp2, b = i2 ∨ ¬ k2.off b) : ZipSep2 z TI TO i1 i2 fp1 fp2 where
  TIz := D.TIz
  TOz := D.TOz
  TITO := D.TITO
  TIi1 := D.TIi1
  mem1 := m1
  zf1 := fun h => (h1 z h).elim D.zi1 fun q => q (D.off1 z (.inl rfl))
  Tf1 := fun h => (h1 TO h).elim D.TOi1 fun q => q (D.off1 TO (.inr (.inl rfl)))
  TIi2 := D.TIi2
  mem2 := m2
  zf2 := fun h => (h2 z h).elim D.zi2 fun q => q (D.off2 z (.inl rfl))
  Tf2 := fun h => (h2 TO h).elim D.TOi2 fun q => q (D.off2 TO (.inr (.inl rfl)))
  sep1_2 := fun h => (h2 i1 h).elim D.i12 fun q => q (D.off2 i1 (.inr (.inr rfl)))
  sep2_1 := fun h => (h1 i2 h).elim (fun e => D.i12 e.symm) fun q => q (D.off1 i2 (.inr (.inr rfl)))
theorem turn_zipG {P : Program} {w : World} {K : PySem.W.Frag} {elts : List Expr} {kk : Nat} {tpos : Pos} {k1 k2 : SrcK} {z TI TO i1 i2 : Addr} (D : Apart5 k1 k2 z TI TO i1 i2) :
    Turn P w K (.Tuple elts kk tpos) (ItzG K k1 k2) [z, TI, TO, i1, i2] z (fun i h => IsZip h z TI TO .none ∧ IsTupOf2 h TI (.ref i1) (.ref i2) ∧ (∃ x y, IsTupOf2 h TO x y) ∧ k1.it h i1 i ∧ k2.it h i2 i) where
  mem := by simp
  obj := fun i h st c hc => by
    obtain ⟨hz, hTI, ⟨x, y, hTO⟩, s1, s2⟩ := st
    have e' : c = z ∨ c = TI ∨ c = TO ∨ c = i1 ∨ c = i2 := by simpa using hc
    rcases e' with q | q | q | q | q
    · rw [q]; exact ⟨_, hz, fun v q => nomatch q⟩
    · rw [q]; exact ⟨_, hTI, fun v q => nomatch q⟩
    · rw [q]; exact ⟨_, hTO, fun v q => nomatch q⟩
    · rw [q]; exact SrcK.it_obj s1
    · rw [q]; exact SrcK.it_obj s2
  keep := fun i h h' st k => by
    obtain ⟨hz, hTI, ⟨x, y, hTO⟩, h1, h2⟩ := st
    exact ⟨k z (by simp) _ hz, k TI (by simp) _ hTI, ⟨x, y, k TO (by simp) _ hTO⟩, SrcK.it_keep (fun o q => k i1 (by simp) o q) h1, SrcK.it_keep (fun o q => k i2 (by simp) o q) h2⟩
  item := by
    intro X hP hw hK hc i pins s σ H E I hf st hg
    subst hP hw hK
    obtain ⟨hz, hTI, ⟨x0, y0, hTO⟩, h1, h2⟩ := st
    obtain ⟨xs, ys, x, y, hqx, hqy, hx, hy⟩ := hg
    have lx : i < xs.length := (List.getElem?_eq_some_iff.mp hx).1
    have ly : i < ys.length := (List.getElem?_eq_some_iff.mp hy).1
    obtain ⟨fp1, n1, P1, St1, D1, st1, m1, o1, le1, lt1, _, pr1, nx1⟩ := (now_of hc I hqx h1).ok
    obtain ⟨fp2, n2, P2, St2, D2, st2, m2, o2, le2, lt2, _, pr2, nx2⟩ := (now_of hc I hqy h2).ok
    have S := sep_of D m1 m2 o1 o2
    have hzl : z < s.heap.objs.size := Heap.lt_size hz
    refine wpAny_pyNext_zipD2_item S D1 D2 hz hTI hTO st1 st2 (lt1 lx) (lt2 ly) fun u u2 h' tk q1 q2 z' TO' h1' h2' hT hsz hk => ?_
    obtain ⟨v1, g1, ru⟩ := pr1 u q1 lx
    obtain ⟨v2, g2, ru2⟩ := pr2 u2 q2 ly
    rw [hx] at g1; cases g1
    rw [hy] at g2; cases g2
    refine ⟨_, rfl, wpAny_letOwnedTupleGo_zip (s := { s with heap := h', toks := tk }) z' fun h'' z'' sb => ?_⟩
    have hT2 : h''.get? s.heap.objs.size = some { cls := .type "tuple", data := .seq #[u, u2] } := (sb.2 _ (Nat.ne_of_gt hzl)).trans hT
    have new : ObjOk X.prog X.w (upd H s.heap.objs.size (.tup [x, y])) h'' s.heap.objs.size (.tup [x, y]) :=
      ⟨by show 2 ≤ sizeLine; decide, [u, u2], .cons ru (.cons ru2 .nil), ⟨_, hT2, rfl, _, rfl⟩⟩
    have I1 : Inv X pins σ (upd H s.heap.objs.size (.tup [x, y])) { s with heap := h'', toks := tk } :=
      I.turnedNew (t' := tk) (ch := [z, TI, TO, i1, i2]) (fun c o hb q => (sb.2 c (fun q' => hb (by simp [q']))).trans (hk c o (fun q' => hb (by simp [q'])) (fun q' => hb (by simp [q'])) (fun q' => hb (by simp [q'])) (fun q' => hb (by simp [q'])) q)) hf (Nat.le_refl _) new
    refine ⟨.ref s.heap.objs.size, _, I1, rfl, ⟨_, x, y, rfl, I.hok.fresh (Nat.le_refl _), rfl, fun l hl => by rw [SrcK.inj I k1 hl hqx]; exact hx, fun l hl => by rw [SrcK.inj I k2 hl hqy]; exact hy⟩, ⟨z'', ?_, ⟨u, u2, ?_⟩, ?_, ?_⟩, fun c hcm => ?_⟩
    · exact (sb.2 _ D.TIz).trans (hk _ _ D.TIz D.TITO D.TIi1 D.TIi2 hTI)
    · exact (sb.2 _ D.TOz).trans TO'
    · exact SrcK.it_keep (fun o q => (sb.2 _ (Ne.symm D.zi1)).trans q) (nx1 h' lx h1')
    · exact SrcK.it_keep (fun o q => (sb.2 _ (Ne.symm D.zi2)).trans q) (nx2 h' ly h2')
    · have hlt : c < s.heap.objs.size := by
        have e' : c = z ∨ c = TI ∨ c = TO ∨ c = i1 ∨ c = i2 := by simpa using hcm
        rcases e' with q | q | q | q | q
        · rw [q]; exact hzl
        · rw [q]; exact Heap.lt_size hTI
        · rw [q]; exact Heap.lt_size hTO
        · rw [q]; obtain ⟨_, e1, _⟩ := SrcK.it_obj h1; exact Heap.lt_size e1
        · rw [q]; obtain ⟨_, e2, _⟩ := SrcK.it_obj h2; exact Heap.lt_size e2
      rw [upd_ne (Nat.ne_of_lt hlt)]
      exact (hf c hcm).1
  done := by
    intro X hP hw hK hc i pins s σ H E I hf st hg
    subst hP hw hK
    obtain ⟨hz, hTI, ⟨x0, y0, hTO⟩, h1, h2⟩ := st
    obtain ⟨xs, ys, hqx, hqy, hend⟩ := hg
    obtain ⟨fp1, n1, P1, St1, D1, st1, m1, o1, le1, _, en1, _⟩ := (now_of hc I hqx h1).ok
    obtain ⟨fp2, n2, P2, St2, D2, st2, m2, o2, le2, _, en2, _⟩ := (now_of hc I hqy h2).ok
    have S := sep_of D m1 m2 o1 o2
    exact wpAny_pyNext_zipD2_end S D1 D2 hz hTI hTO st1 st2 le1 le2 (hend.elim (fun q => .inl (en1 q)) fun q => .inr (en2 q)) fun h' tk hk => ⟨rfl, I.turnedL (t' := tk) (ch := [z, TI, TO, i1, i2]) (fun c o hb q =>
      hk c o (fun q' => hb (by simp [q'])) (fun q' => hb (by simp [q'])) (fun q' => hb (by simp [q'])) (fun q' => hb (by simp [q'])) q) hf⟩
  self := fun A i s Q E st h => wpAny_pyIter_zip st.1 h
/-- how its iterator begins -/
theorem begin_of {X : Cx} {pins : List (Addr × Obj)} {σ : L2.St} {H : Hp} {s : Shared} (I : Inv X pins σ H s) : ∀ {k : SrcK} {us : List V} {u : Value}, k.at X.K H us → RelV k.v u →
    ∃ (o : Obj) (Hk : Heap → Prop), Begins u o Hk ∧ Hk s.heap ∧ (∀ b, s.heap.objs.size ≤ b → k.off b) ∧ ∀ h' it, h'.get? it = some o → s.heap.objs.size ≤ it → k.it h' it 0
  | .lst a, us, u, hq, r => by
    cases r
    obtain ⟨its, rv, p, _⟩ := I.list hq
    refine ⟨_, _, begins_list a its.toArray, p.isList, fun b hb => ?_, fun h' it hg hle => ⟨?_, ⟨_, hg, rfl, rfl⟩⟩⟩
    · exact Nat.ne_of_lt (Nat.lt_of_lt_of_le p.lt hb)
    · exact Nat.ne_of_lt (Nat.lt_of_lt_of_le p.lt hle)
  | .tup a, us, u, hq, r => by
    cases r
    obtain ⟨its, rv, p, _⟩ := I.tuple hq
    have hlt : a < s.heap.objs.size := by obtain ⟨_, e, _⟩ := id p; exact Heap.lt_size e
    refine ⟨_, _, begins_tuple a its.toArray, p, fun b hb => ?_, fun h' it hg hle => ⟨?_, ⟨_, hg, rfl, rfl⟩⟩⟩
    · exact Nat.ne_of_lt (Nat.lt_of_lt_of_le hlt hb)
    · exact Nat.ne_of_lt (Nat.lt_of_lt_of_le hlt hle)
  | .str x, us, u, hq, r => by
    obtain ⟨t, rfl⟩ := r
    exact ⟨_, _, begins_text x t, trivial, fun _ _ => trivial, fun h' it hg _ => ⟨⟨t, _, hg, rfl, rfl⟩, Nat.zero_le _⟩⟩
theorem neN {a b : Nat} (h : ¬ (a = b)) : (a : Addr) ≠ (b : Addr) := h
def iZipG (K : PySem.W.Frag) (ta : TA) : TI := fun σ H R => ta σ H fun vs H1 => ∃ (k1 k2 : SrcK) (xs ys : List V), vs = [k1.v, k2.v] ∧ k1.at K H1 xs ∧ k2.at K H1 ys ∧ R (ItzG K k1 k2) H1
theorem pi_zipG {X : Cx} {e e2 : Expr} {ta : TA} {p pos tpos : Pos} {elts : List Expr} {kk : Nat} (hg : Gl X "zip") (hm : X.mg "zip" = none) (ha : PA X [e, e2] ta)
    (hs : starEach [e, e2] X.env = (false, eval e X.env) :: starEach [e2] X.env := by rfl) (hpl : (backTo pos (starEach [e2] X.env)).any (·.1) = false := by rfl) :
    PI X (.Tuple elts kk tpos) (.Call (.Name "zip" p) [e, e2] [] pos) (iZipG X.K ta) := by
  refine ⟨fun pins s σ H R I h => ?_⟩
  refine Call_ (ld_blt I hg hm PyProof.Rows.boot_zip (PyProof.Rows.callWith_type1 (thn (ha.run pos pins s σ H _ I h) fun us s1 ⟨vs, H1, I1, r1, q1⟩ => ?_) hs hpl))
  obtain ⟨k1, k2, xs, ys, ex, hqx, hqy, q⟩ := q1
  subst ex
  cases r1 with
  | cons r rr =>
    cases rr with
    | cons r' rr =>
      cases rr
      have fresh5 : ∀ c, c ∈ [s1.heap.objs.size + 4, s1.heap.objs.size + 2, s1.heap.objs.size + 3, s1.heap.objs.size, s1.heap.objs.size + 1] → FpOk X pins H1 c := fun c hcm => by
        have e' : c = s1.heap.objs.size + 4 ∨ c = s1.heap.objs.size + 2 ∨ c = s1.heap.objs.size + 3 ∨ c = s1.heap.objs.size ∨ c = s1.heap.objs.size + 1 := by simpa using hcm
        have hle : s1.heap.objs.size ≤ c := by
          rcases e' with z | z | z | z | z
          · rw [z]; exact Nat.le_add_right _ _
          · rw [z]; exact Nat.le_add_right _ _
          · rw [z]; exact Nat.le_add_right _ _
          · rw [z]; exact Nat.le_refl _
          · rw [z]; exact Nat.le_add_right _ _
        exact I1.fpOk hle (I1.hok.fresh hle)
      obtain ⟨o1, Hk1, B1, b1, off1, st1⟩ := begin_of I1 hqx r
      obtain ⟨o2, Hk2, B2, b2, off2, st2⟩ := begin_of I1 hqy r'
      refine zip_begins2 B1 B2 b1 b2 fun h' hz hTI hTO g1 g2 hsz hk => wpAny_pyIter_zip hz ?_
      have I2 : Inv X pins σ H1 { s1 with heap := h' } := I1.kept (t' := s1.toks) hk
      have D : Apart5 k1 k2 (s1.heap.objs.size + 4) (s1.heap.objs.size + 2) (s1.heap.objs.size + 3) s1.heap.objs.size (s1.heap.objs.size + 1) := by
        generalize s1.heap.objs.size = n at off1 off2
        refine ⟨neN (by omega), neN (by omega), neN (by omega), neN (by omega), neN (by omega), neN (by omega), neN (by omega), neN (by omega), neN (by omega), neN (by omega), fun b hb => off1 b ?_, fun b hb => off2 b ?_⟩
        · rcases hb with rfl | rfl | rfl
          · exact Nat.le_add_right _ _
          · exact Nat.le_add_right _ _
          · exact Nat.le_add_right _ _
        · rcases hb with rfl | rfl | rfl
          · exact Nat.le_add_right _ _
          · exact Nat.le_add_right _ _
          · exact Nat.le_refl _
      exact ⟨s1.heap.objs.size + 4, [s1.heap.objs.size + 4, s1.heap.objs.size + 2, s1.heap.objs.size + 3, s1.heap.objs.size, s1.heap.objs.size + 1], _, _, H1, rfl, I2, turn_zipG D, ⟨hz, hTI, ⟨_, _, hTO⟩, st1 h' _ g1 (Nat.le_refl _), st2 h' _ g2 (Nat.le_add_right _ _)⟩, fresh5, q⟩
end TK

/-! TKg: methods, what is walked, comprehensions over the hand layer. -/
namespace TK
open PySem PySem.Spec PyProof.Rows L2
section
variable {X : Cx} {a b c o : Expr} {fa fb fc fo : M1} {pos : Pos} {es : List Expr} {fs : Env' → St' → R (List D × St')}
theorem few1 {e : Expr} {cpos : Pos} {env : Env} (h : noStar e = true) : ((backTo cpos (starEach [e] env)).all (fun x => !x.1) && (backToKw cpos (keywordEach [] env)).all (fun x => x.1.isSome)
      && decide (([e] : List Expr).length + ([] : List Keyword).length + (if ([] : List Keyword).isEmpty then 0 else 1) < 30)) = true := by
  rw [star_cons h]; rfl
theorem tyL {K : PySem.W.Frag} {μ : Mu} {S : St'} {H : Hp} {d : D} {v : V} (r : Rel K μ S H) (h : RepV K μ S.length H d v) (e : (lstOf S d).isSome = true) : tyV K "list" v H := by
  obtain ⟨ds, e⟩ := Option.isSome_iff_exists.mp e
  obtain ⟨a, vs, rfl, h1, _⟩ := (rd_lstOf r h e).sq
  exact .inl ⟨rfl, vs, h1⟩
/-- a method of one argument -/
theorem se_mth1 {m : Mth} {T id : String} {name : Str} {r : V → List V → Hp → VK → Prop} {apos cpos : Pos} (pa : PlainAttrs T) (slot : Slot T name id) (hty : typeOf (.builtin id) = pure (.type "method_descriptor")) (hm : MtR X id r)
    (ho : SE X fo o) (ha : SA X fs [a]) (hb : noCall0 o = true) (hl : (apos.endLine == cpos.line) = true) (hn : noStar a = true)
    (hT : ∀ μ S H x v, Rel X.K μ S H → RepV X.K μ S.length H x v → mOk m S x = true → tyV X.K T v H)
    (hr : ∀ μ S H x ys d S' v ws, Rel X.K μ S H → RepV X.K μ S.length H x v → RepVs X.K μ S.length H ys ws → mthF m S x ys = .ok (d, S') → ∀ Q, Fin1 X.K μ S H d S' Q → r v ws H Q) :
    SE X (fun env S => (fo env S).bind fun x => if mOk m x.2 x.1 then (fs env x.2).bind fun y => mthF m y.2 x.1 y.1 else .bad) (.Call (.Attribute o name apos) [a] [] cpos) := by
  obtain ⟨to, h1, h2⟩ := ho
  obtain ⟨ta, h3, h4⟩ := ha
  refine ⟨_, pe_bm pa slot hty hm h1 h3 (attr_base hb) (few1 hn) hl (star_cons hn) rfl, fun σ H μ env S d S' rl re hf Q q => ?_⟩
  obtain ⟨⟨x, S1⟩, e1, hf1⟩ := R.bind_eq_ok hf
  dsimp only at hf1
  split at hf1
  · rename_i hk
    obtain ⟨⟨ys, S2⟩, e2, hf2⟩ := R.bind_eq_ok hf1
    refine h2 σ H μ env S _ _ rl re e1 _ fun v H1 μ1 r1 x1 rv => ?_
    refine ⟨hT μ1 S1 H1 x v r1 rv hk, ?_⟩
    refine h4 σ H1 μ1 env S1 _ _ r1 (re.ext x1) e2 _ fun ws H2 μ2 r2 x2 rw' => ?_
    exact hr μ2 S2 H2 x ys d S' v ws r2 (RepV.ext x2 _ _ rv) rw' hf2 Q fun v' H3 μ3 a1 a2 a3 => q v' H3 μ3 a1 ((x1.trans x2).trans a2) a3
  · cases hf1
theorem fin_append {K : PySem.W.Frag} : ∀ μ S H x ys d S' v ws, Rel K μ S H → RepV K μ S.length H x v → RepVs K μ S.length H ys ws → mthF .append S x ys = .ok (d, S') → ∀ Q, Fin1 K μ S H d S' Q → rAppend v ws H Q := by
  intro μ S H x ys d S' v ws r rv rw' hf Q q
  simp only [mthF] at hf
  split at hf
  · rename_i n d0
    obtain ⟨w, ew, rw1⟩ := reps1 rw'
    split at hf
    · rename_i xs hx
      split at hf
      · rename_i hlt
        cases hf
        have rv0 := rv
        simp only [RepV] at rv0
        obtain ⟨hn, ev⟩ := rv0
        obtain ⟨ho, e1, q1⟩ := r.obj n _ hx
        simp only [RepO] at q1
        obtain ⟨vs, e2, q2⟩ := q1
        subst ev ew e2
        refine ⟨μ n, vs, w, rfl, rfl, e1, by rw [← q2.length, sizeLine_eq]; exact hlt, ?_⟩
        have hR : RepO K μ S.length H (.lst (xs ++ [d0])) (.lst (vs ++ [w])) := by
          simp only [RepO]
          exact ⟨_, rfl, q2.append (by simp only [RepVs]; exact ⟨w, [], rfl, rw1, rfl⟩)⟩
        refine q _ _ μ (Rel.write r hn (fun od u z => by rw [e1] at z; cases z) hR) ?_ (by simp only [RepV])
        have := Ext.write (o := .lst (vs ++ [w])) r hn (fun od u z => by rw [e1] at z; cases z)
        rw [List.length_set]; exact this
      · cases hf
    · cases hf
  · cases hf
theorem se_append {apos cpos : Pos} (ho : SE X fo o) (ha : SA X fs [a]) (hb : noCall0 o = true) (hl : (apos.endLine == cpos.line) = true) (hn : noStar a = true) :
    SE X (fun env S => (fo env S).bind fun x => if mOk .append x.2 x.1 then (fs env x.2).bind fun y => mthF .append y.2 x.1 y.1 else .bad) (.Call (.Attribute o "append" apos) [a] [] cpos) :=
  se_mth1 PySem.F.plainAttrs_list PySem.F.slot_list_append PySem.F.type_list_append mt_append ho ha hb hl hn (fun μ S H x v r h e => tyL r h e) fin_append
theorem fin_extend {K : PySem.W.Frag} : ∀ μ S H x ys d S' v ws, Rel K μ S H → RepV K μ S.length H x v → RepVs K μ S.length H ys ws → mthF .extend S x ys = .ok (d, S') → ∀ Q, Fin1 K μ S H d S' Q → rExtA K v ws H Q := by
  intro μ S H x ys d S' v ws r rv rw' hf Q q
  simp only [mthF] at hf
  split at hf
  · rename_i n d0
    obtain ⟨w, ew, rw1⟩ := reps1 rw'
    split at hf
    · rename_i xs zs hx hz
      split at hf
      · rename_i hlt
        cases hf
        simp only [RepV] at rv
        obtain ⟨hn, ev⟩ := rv
        obtain ⟨ho, e1, q1⟩ := r.obj n _ hx
        simp only [RepO] at q1
        obtain ⟨vs, e2, q2⟩ := q1
        obtain ⟨b, us, e4, hs, q4⟩ := rd_seqOf r rw1 hz
        subst ev ew e2 e4
        refine ⟨μ n, b, vs, us, rfl, rfl, e1, hs, by rw [← q2.length, ← q4.length, sizeLine_eq]; exact hlt, ?_⟩
        have hR : RepO K μ S.length H (.lst (xs ++ zs)) (.lst (vs ++ us)) := by
          simp only [RepO]
          exact ⟨_, rfl, q2.append q4⟩
        refine q _ _ μ (Rel.write r hn (fun od u z => by rw [e1] at z; cases z) hR) ?_ (by simp only [RepV])
        have := Ext.write (o := .lst (vs ++ us)) r hn (fun od u z => by rw [e1] at z; cases z)
        rw [List.length_set]; exact this
      · cases hf
    · cases hf
  · cases hf
theorem se_extend {apos cpos : Pos} (ho : SE X fo o) (ha : SA X fs [a]) (hb : noCall0 o = true) (hl : (apos.endLine == cpos.line) = true) (hn : noStar a = true) :
    SE X (fun env S => (fo env S).bind fun x => if mOk .extend x.2 x.1 then (fs env x.2).bind fun y => mthF .extend y.2 x.1 y.1 else .bad) (.Call (.Attribute o "extend" apos) [a] [] cpos) :=
  se_mth1 PySem.F.plainAttrs_list PySem.F.slot_list_extend PySem.F.type_list_extend mt_extA ho ha hb hl hn (fun μ S H x v r h e => tyL r h e) fin_extend
theorem tyS {K : PySem.W.Frag} {μ : Mu} {S : St'} {H : Hp} {d : D} {v : V} (h : RepV K μ S.length H d v) (e : isStr d = true) : tyV K "str" v H := by
  cases d with
  | str x => simp only [RepV] at h; subst h; exact rfl
  | _ => cases e
theorem join_ss (y : List Nat) : ∀ xs : List (List Nat), Txt.join (ss y) (xs.map ss) = ss (joinN y xs) := by
  intro xs
  rw [TL.join_eq]
  induction xs with
  | nil => rfl
  | cons x r ih =>
    cases r with
    | nil => rfl
    | cons z r =>
      show ss x ++ ss y ++ Str.join (ss y) ((z :: r).map ss) = _
      rw [ih, ss_app, ss_app, List.append_assoc]; rfl
theorem sum_ss (xs : List (List Nat)) : ((xs.map ss).map fun z : Str => z.length) = xs.map List.length := by
  rw [List.map_map]
  exact List.map_congr_left fun x _ => ss_len x
theorem se_join {apos cpos : Pos} (ho : SE X fo o) (ha : SA X fs [a]) (hb : noCall0 o = true) (hl : (apos.endLine == cpos.line) = true) (hn : noStar a = true) :
    SE X (fun env S => (fo env S).bind fun x => if mOk .join x.2 x.1 then (fs env x.2).bind fun y => mthF .join y.2 x.1 y.1 else .bad) (.Call (.Attribute o "join" apos) [a] [] cpos) := by
  refine se_mth1 PySem.F.plainAttrs_str PySem.F.slot_str_join PySem.F.type_str_join mt_join ho ha hb hl hn (fun μ S H x v r h e => tyS h e) ?_
  intro μ S H x ys d S' v ws r rv rw' hf Q q
  simp only [mthF] at hf
  split at hf
  · rename_i y d0
    obtain ⟨w, ew, rw1⟩ := reps1 rw'
    split at hf
    · rename_i xs hx
      split at hf
      · rename_i hlt
        cases hf
        obtain ⟨ds, e1, e2⟩ := Option.bind_eq_some_iff.mp hx
        obtain ⟨p, vs, ev, h1, h2⟩ := rd_seqOf r rw1 e1
        have e3 := strs_of e2 h2
        simp only [RepV] at rv
        subst rv ew ev e3
        refine ⟨_, p, xs.map ss, rfl, rfl, h1, ?_, ?_⟩
        · rw [sum_ss, List.length_map, ss_len]; exact hlt
        · rw [join_ss]
          exact q _ _ μ r (Ext.refl r) (by simp only [RepV])
      · cases hf
    · cases hf
  · cases hf
/-! ### what is walked -/
/-- the iterator gives these items, as long as g holds of the store -/
structure ItOk (K : PySem.W.Frag) (μ0 : Mu) (N0 : Nat) (H0 : Hp) (J : It) (items : List D) (g : St' → Prop) : Prop where
  go : ∀ (i : Nat) H μ S, Rel K μ S H → ExtW μ0 N0 H0 μ S.length H → g S → i < items.length → J.go i H
  yld : ∀ (i : Nat) H μ S x H', Rel K μ S H → ExtW μ0 N0 H0 μ S.length H → g S → i < items.length → J.yld i H x H' → ∃ d, items[i]? = some d ∧ RepV K μ S.length H' d x ∧ Rel K μ S H' ∧ Ext μ S.length H μ S.length H'
  stop : ∀ (i : Nat) H μ S, Rel K μ S H → ExtW μ0 N0 H0 μ S.length H → g S → items.length ≤ i → J.stop i H
def SI (X : Cx) (k : ItK) (fs : Env' → St' → R (List D × St')) (tg iter : Expr) : Prop := ∃ w, PI X tg iter w ∧ ∀ σ H μ env S ds S' r, Rel X.K μ S H → REnv X.K μ S.length H env σ → fs env S = .ok (ds, S') → itF k S' ds = .ok r → ∀ Rq : It → Hp → Prop,
  (∀ J H' μ', Rel X.K μ' S' H' → Ext μ S.length H μ' S'.length H' → ItOk X.K μ' S'.length H' J r.1 r.2 → Rq J H') → w σ H Rq
/-- a source that is read: a list -/
theorem src_list {K : PySem.W.Frag} {μ0 : Mu} {S0 : St'} {H0 : Hp} {d : D} {xs : List D} {v : V} (r0 : Rel K μ0 S0 H0) (h : RepV K μ0 S0.length H0 d v) (e : lstOf S0 d = some xs) : ∃ a, v = .ref a ∧ ∃ vs0, SqL K H0 a vs0 ∧
    ∀ H μ S, Rel K μ S H → ExtW μ0 S0.length H0 μ S.length H → srcOk d xs S → ∃ vs, SqL K H a vs ∧ RepVs K μ S.length H xs vs := by
  obtain ⟨a, vs0, ev, h1, h2⟩ := rd_lstOf r0 h e
  refine ⟨a, ev, vs0, h1, fun H μ S r x g => ?_⟩
  cases d with
  | lst ds =>
    simp only [lstOf, Option.some.injEq] at e
    subst e
    have h' := RepV.extW x _ _ h
    simp only [RepV] at h'
    obtain ⟨a', vs, e1, e2, e3⟩ := h'
    rw [ev] at e1
    cases e1
    exact ⟨vs, e2.sq, e3⟩
  | loc n =>
    have h' := RepV.extW x _ _ h
    obtain ⟨a', vs, e1, e2, e3⟩ := rd_loc r h' (show S[n]? = some (.lst xs) from g)
    rw [ev] at e1
    cases e1
    exact ⟨vs, e2, e3⟩
  | _ => simp only [lstOf] at e; cases e
abbrev iValA (K : PySem.W.Frag) (te : TE) : TI := fun σ H Rq => te σ H fun v H1 => (∃ x, v = .str x ∧ Rq (Its x) H1) ∨ (∃ a, v = .ref a ∧ (∃ xs, SqL K H1 a xs) ∧ Rq (Itl K a) H1) ∨ ∃ a, v = .ref a ∧ (∃ xs, SqT K H1 a xs) ∧ Rq (Itt K a) H1
theorem pi_val {tg e : Expr} {te : TE} (he : PE X e te) : PI X tg e (iValA X.K te) := by
  refine ⟨fun pins s σ H Rq I h => ?_⟩
  refine thn (he.run pins s σ H _ I h) fun v s1 ⟨y, H1, I1, r1, q1⟩ => ?_
  rcases q1 with ⟨x, ex, q⟩ | ⟨a, ea, ⟨xs, hq⟩, q⟩ | ⟨a, ea, ⟨xs, hq⟩, q⟩
  · subst ex
    obtain ⟨t, rfl⟩ := r1
    cases ha : x.cps.all (· < 128)
    · exact wpAny_pyIter_wide ha (pi_one (tk := s1.toks) I1 _ (turn_str _ x t "str_iterator" (.inr rfl)) ⟨_, Heap.get?_push_size _ rfl, rfl, rfl⟩ q)
    · exact wpAny_pyIter_ascii ha (pi_one (tk := s1.toks) I1 _ (turn_str _ x t "str_ascii_iterator" (.inl rfl)) ⟨_, Heap.get?_push_size _ rfl, rfl, rfl⟩ q)
  · subst ea
    cases r1
    obtain ⟨its, rv, p, hz⟩ := I1.list hq
    refine wpAny_pyIter_list p.isList ?_
    refine ⟨s1.heap.objs.size, [s1.heap.objs.size], _, _, H1, rfl, I1.kept (t' := s1.toks) fun b o e => Heap.get?_push_of_some _ e, turn_list a _, ⟨_, Heap.get?_push_size _ rfl, rfl, rfl⟩, fun b hb => ?_, q⟩
    have e : b = s1.heap.objs.size := by simpa using hb
    subst e
    exact I1.fpOk (Nat.le_refl _) (I1.hok.fresh (Nat.le_refl _))
  · subst ea
    cases r1
    obtain ⟨its, rv, p, hz⟩ := I1.tuple hq
    refine wpAny_pyIter_tuple (show s1.heap.IsTuple a its.toArray from p) ?_
    refine ⟨s1.heap.objs.size, [s1.heap.objs.size], _, _, H1, rfl, I1.kept (t' := s1.toks) fun b o e => Heap.get?_push_of_some _ e, turn_tuple a _, ⟨_, Heap.get?_push_size _ rfl, rfl, rfl⟩, fun b hb => ?_, q⟩
    have e : b = s1.heap.objs.size := by simpa using hb
    subst e
    exact I1.fpOk (Nat.le_refl _) (I1.hok.fresh (Nat.le_refl _))
theorem it_str {K : PySem.W.Frag} {μ0 : Mu} {N0 : Nat} {H0 : Hp} (x : List Nat) (g : St' → Prop) : ItOk K μ0 N0 H0 (Its (ss x)) (signs x) g where
  go := fun i H μ S r e _ hi => by
    show i < (ss x).cps.size
    simpa [signs] using hi
  yld := fun i H μ S y H' r e _ hi h => by
    obtain ⟨rfl, c, hc, rfl⟩ := h
    refine ⟨.str [c], ?_, by simp only [RepV], r, Ext.refl r⟩
    have hc' : x[i]? = some c := by simpa using hc
    simp [signs, hc']
  stop := fun i H μ S r e _ hi => by
    show (ss x).cps.size ≤ i
    simpa [signs] using hi
theorem it_tup {K : PySem.W.Frag} {μ0 : Mu} {N0 : Nat} {H0 : Hp} {xs : List D} {v : V} (h : RepV K μ0 N0 H0 (.tup xs) v) (g : St' → Prop) : ∃ a vs, v = .ref a ∧ SqT K H0 a vs ∧ ItOk K μ0 N0 H0 (Itt K a) xs g := by
  have h0 := h
  simp only [RepV] at h0
  obtain ⟨a, vs, ev, h1, h2⟩ := h0
  have src : ∀ {N : Nat} {H : Hp} {μ : Mu}, ExtW μ0 N0 H0 μ N H → ∃ ws, SqT K H a ws ∧ RepVs K μ N H xs ws := fun e => ⟨vs, (e.tat h1).sq, RepVs.extW e _ _ h2⟩
  refine ⟨a, vs, ev, h1.sq, ⟨fun i H μ S r e _ hi => ?_, fun i H μ S y H' r e _ hi hy => ?_, fun i H μ S r e _ hi => ?_⟩⟩
  · obtain ⟨ws, k1, k2⟩ := src e
    obtain ⟨w, k3, _⟩ := k2.get (List.getElem?_eq_getElem hi)
    exact ⟨ws, w, k1, k3⟩
  · obtain ⟨rfl, hy⟩ := hy
    obtain ⟨ws, k1, k2⟩ := src e
    obtain ⟨d, k3, k4⟩ := k2.get' (hy ws k1)
    exact ⟨d, k3, k4, r, Ext.refl r⟩
  · obtain ⟨ws, k1, k2⟩ := src e
    exact ⟨ws, k1, by rw [← k2.length]; exact hi⟩
theorem it_lst {K : PySem.W.Frag} {μ0 : Mu} {S0 : St'} {H0 : Hp} {d : D} {xs : List D} {v : V} (r0 : Rel K μ0 S0 H0) (h : RepV K μ0 S0.length H0 d v) (e0 : lstOf S0 d = some xs) :
    ∃ a vs, v = .ref a ∧ SqL K H0 a vs ∧ ItOk K μ0 S0.length H0 (Itl K a) xs (srcOk d xs) := by
  obtain ⟨a, ev, vs0, h1, src⟩ := src_list r0 h e0
  refine ⟨a, vs0, ev, h1, ⟨fun i H μ S r e g hi => ?_, fun i H μ S y H' r e g hi hy => ?_, fun i H μ S r e g hi => ?_⟩⟩
  · obtain ⟨ws, k1, k2⟩ := src H μ S r e g
    obtain ⟨w, k3, _⟩ := k2.get (List.getElem?_eq_getElem hi)
    exact ⟨ws, w, k1, k3⟩
  · obtain ⟨rfl, hy⟩ := hy
    obtain ⟨ws, k1, k2⟩ := src H' μ S r e g
    obtain ⟨d, k3, k4⟩ := k2.get' (hy ws k1)
    exact ⟨d, k3, k4, r, Ext.refl r⟩
  · obtain ⟨ws, k1, k2⟩ := src H μ S r e g
    exact ⟨ws, k1, by rw [← k2.length]; exact hi⟩
theorem si_val {tg : Expr} (ha : SE X fa a) : SI X .val (fun env S => (fa env S).bind fun x => (R.ok ([], x.2)).bind fun y => .ok (x.1 :: y.1, y.2)) tg a := by
  obtain ⟨ta, h1, h2⟩ := ha
  refine ⟨_, pi_val h1, fun σ H μ env S ds S' r rl re hf hi Rq q => ?_⟩
  obtain ⟨⟨x, S1⟩, e1, hf1⟩ := R.bind_eq_ok hf
  cases hf1
  refine h2 σ H μ env S _ _ rl re e1 _ fun v H1 μ1 r1 x1 rv => ?_
  simp only [itF] at hi
  split at hi
  · cases hi
    simp only [RepV] at rv
    exact .inl ⟨_, rv, q _ H1 μ1 r1 x1 (it_str _ _)⟩
  · cases hi
    obtain ⟨a', vs, ev, k1, k2⟩ := it_tup rv (fun _ => True)
    exact .inr (.inr ⟨a', ev, ⟨vs, k1⟩, q _ H1 μ1 r1 x1 k2⟩)
  · split at hi <;> cases hi
    rename_i xs he
    obtain ⟨a', vs, ev, k1, k2⟩ := it_lst r1 rv he
    exact .inr (.inl ⟨a', ev, ⟨vs, k1⟩, q _ H1 μ1 r1 x1 k2⟩)
theorem it_range {K : PySem.W.Frag} {μ0 : Mu} {N0 : Nat} {H0 : Hp} (lo : Int) (n : Nat) (g : St' → Prop) : ItOk K μ0 N0 H0 (Itr lo n) ((List.range n).map fun (i : Nat) => .int (lo + (i : Int))) g where
  go := fun i H μ S r e _ hi => by
    show i < n
    simpa using hi
  yld := fun i H μ S y H' r e _ hi h => by
    obtain ⟨rfl, rfl⟩ := h
    have hi' : i < n := by simpa using hi
    exact ⟨.int (lo + (i : Int)), by simp [hi'], by simp only [RepV], r, Ext.refl r⟩
  stop := fun i H μ S r e _ hi => by
    show n ≤ i
    simpa using hi
theorem si_range1 {tg : Expr} {p : Pos} (hg : Gl X "range") (hm : X.mg "range" = none) (hs : SA X fs [a]) (hn : noStar a = true) : SI X .range1 fs tg (.Call (.Name "range" p) [a] [] pos) := by
  obtain ⟨ts, h1, h2⟩ := hs
  refine ⟨_, pi_range1 hg hm h1 (star_cons hn), fun σ H μ env S ds S' r rl re hf hi Rq q => ?_⟩
  refine h2 σ H μ env S _ _ rl re hf _ fun vs H1 μ1 r1 x1 rv => ?_
  simp only [itF] at hi
  split at hi <;> first | (cases hi; done) | skip
  rename_i n
  split at hi <;> cases hi
  rename_i hb
  obtain ⟨v, ev, rv1⟩ := reps1 rv
  simp only [RepV] at rv1
  subst ev rv1
  exact ⟨n, rfl, hb.2, hb.1, q _ H1 μ1 r1 x1 (it_range _ _ _)⟩
theorem si_range2 {tg : Expr} {p : Pos} (hg : Gl X "range") (hm : X.mg "range" = none) (hs : SA X fs [a, b]) (hn : noStar a = true) (hn2 : noStar b = true) : SI X .range2 fs tg (.Call (.Name "range" p) [a, b] [] pos) := by
  obtain ⟨ts, h1, h2⟩ := hs
  refine ⟨_, pi_range2 hg hm h1 (by rw [star_cons hn, star_cons hn2]; rfl) (star_cons hn2), fun σ H μ env S ds S' r rl re hf hi Rq q => ?_⟩
  refine h2 σ H μ env S _ _ rl re hf _ fun vs H1 μ1 r1 x1 rv => ?_
  simp only [itF] at hi
  split at hi <;> first | (cases hi; done) | skip
  rename_i m n
  split at hi <;> cases hi
  rename_i hb
  obtain ⟨v, w, ev, rv1, rv2⟩ := reps2 rv
  simp only [RepV] at rv1 rv2
  subst ev rv1 rv2
  exact ⟨m, n, rfl, ⟨hb.1.1, hb.1.2, hb.2.1, hb.2.2⟩, q _ H1 μ1 r1 x1 (it_range _ _ _)⟩
theorem zipIdx_get {α : Type} {xs : List α} {i : Nat} {x : α} (h : xs[i]? = some x) : (xs.zipIdx)[i]? = some (x, i) := by
  rw [List.getElem?_zipIdx, h]; simp
theorem it_enum {K : PySem.W.Frag} {μ0 : Mu} {S0 : St'} {H0 : Hp} {d : D} {xs : List D} {v : V} (r0 : Rel K μ0 S0 H0) (h : RepV K μ0 S0.length H0 d v) (e0 : lstOf S0 d = some xs) :
    ∃ a vs, v = .ref a ∧ SqL K H0 a vs ∧ ItOk K μ0 S0.length H0 (Ite K a) (xs.zipIdx.map fun p => .tup [.int p.2, p.1]) (srcOk d xs) := by
  obtain ⟨a, ev, vs0, h1, src⟩ := src_list r0 h e0
  refine ⟨a, vs0, ev, h1, ⟨fun i H μ S r e g hi => ?_, fun i H μ S y H' r e g hi hy => ?_, fun i H μ S r e g hi => ?_⟩⟩
  · have hi' : i < xs.length := by simpa using hi
    obtain ⟨ws, k1, k2⟩ := src H μ S r e g
    obtain ⟨w, k3, _⟩ := k2.get (List.getElem?_eq_getElem hi')
    exact ⟨ws, w, k1, k3⟩
  · obtain ⟨T, x, rfl, hT, rfl, hx⟩ := hy
    obtain ⟨ws, k1, k2⟩ := src H μ S r e g
    obtain ⟨d', k3, k4⟩ := k2.get' (hx ws k1)
    have xf := Ext.fresh (o := .tup [.int (i : Nat), x]) r hT
    refine ⟨.tup [.int (i : Nat), d'], by rw [List.getElem?_map, zipIdx_get k3]; rfl, ?_, Rel.fresh r hT, xf⟩
    simp only [RepV]
    refine ⟨T, _, rfl, .inl ⟨.inl upd_same, notLoc_fresh r hT⟩, ?_⟩
    simp only [RepVs, RepV]
    exact ⟨_, _, rfl, rfl, _, _, rfl, RepV.ext xf _ _ k4, rfl⟩
  · have hi' : xs.length ≤ i := by simpa using hi
    obtain ⟨ws, k1, k2⟩ := src H μ S r e g
    exact ⟨ws, k1, by rw [← k2.length]; exact hi'⟩
theorem it_enumT {K : PySem.W.Frag} {μ0 : Mu} {N0 : Nat} {H0 : Hp} {xs : List D} {v : V} (h : RepV K μ0 N0 H0 (.tup xs) v) (g : St' → Prop) :
    ∃ a vs, v = .ref a ∧ SqT K H0 a vs ∧ ItOk K μ0 N0 H0 (IteT K a) (xs.zipIdx.map fun p => .tup [.int p.2, p.1]) g := by
  simp only [RepV] at h
  obtain ⟨a, vs0, ev, h1, h2⟩ := h
  have src : ∀ {N : Nat} {H : Hp} {μ : Mu}, ExtW μ0 N0 H0 μ N H → ∃ ws, SqT K H a ws ∧ RepVs K μ N H xs ws := fun e => ⟨vs0, (e.tat h1).sq, RepVs.extW e _ _ h2⟩
  refine ⟨a, vs0, ev, h1.sq, ⟨fun i H μ S r e _ hi => ?_, fun i H μ S y H' r e _ hi hy => ?_, fun i H μ S r e _ hi => ?_⟩⟩
  · have hi' : i < xs.length := by simpa using hi
    obtain ⟨ws, k1, k2⟩ := src e
    obtain ⟨w, k3, _⟩ := k2.get (List.getElem?_eq_getElem hi')
    exact ⟨ws, w, k1, k3⟩
  · obtain ⟨T, x, rfl, hT, rfl, hx⟩ := hy
    obtain ⟨ws, k1, k2⟩ := src e
    obtain ⟨d', k3, k4⟩ := k2.get' (hx ws k1)
    have xf := Ext.fresh (o := .tup [.int (i : Nat), x]) r hT
    refine ⟨.tup [.int (i : Nat), d'], by rw [List.getElem?_map, zipIdx_get k3]; rfl, ?_, Rel.fresh r hT, xf⟩
    simp only [RepV]
    refine ⟨T, _, rfl, .inl ⟨.inl upd_same, notLoc_fresh r hT⟩, ?_⟩
    simp only [RepVs, RepV]
    exact ⟨_, _, rfl, rfl, _, _, rfl, RepV.ext xf _ _ k4, rfl⟩
  · have hi' : xs.length ≤ i := by simpa using hi
    obtain ⟨ws, k1, k2⟩ := src e
    exact ⟨ws, k1, by rw [← k2.length]; exact hi'⟩
theorem si_enum {elts : List Expr} {kk : Nat} {tpos : Pos} {p : Pos} (hg : Gl X "enumerate") (hm : X.mg "enumerate" = none) (hs : SA X fs [a]) (hn : noStar a = true) : SI X .enum fs (.Tuple elts kk tpos) (.Call (.Name "enumerate" p) [a] [] pos) := by
  obtain ⟨ts, h1, h2⟩ := hs
  refine ⟨_, pi_enumA hg hm h1 (star_cons hn), fun σ H μ env S ds S' r rl re hf hi Rq q => ?_⟩
  refine h2 σ H μ env S _ _ rl re hf _ fun vs H1 μ1 r1 x1 rv => ?_
  simp only [itF] at hi
  split at hi <;> first | (cases hi; done) | skip
  rename_i d
  split at hi
  · cases hi
    obtain ⟨v, ev, rv1⟩ := reps1 rv
    obtain ⟨a', ws, ev2, k1, k2⟩ := it_enumT rv1 (fun _ => True)
    subst ev ev2
    exact ⟨a', ws, rfl, .inr ⟨k1, q _ H1 μ1 r1 x1 k2⟩⟩
  · split at hi <;> cases hi
    rename_i xs he
    obtain ⟨v, ev, rv1⟩ := reps1 rv
    obtain ⟨a', ws, ev2, k1, k2⟩ := it_enum r1 rv1 he
    subst ev ev2
    exact ⟨a', ws, rfl, .inl ⟨k1, q _ H1 μ1 r1 x1 k2⟩⟩
theorem zip_get {xs ys : List D} {i : Nat} {x y : D} (h : xs[i]? = some x) (h' : ys[i]? = some y) : ((xs.zip ys).map fun p => D.tup [p.1, p.2])[i]? = some (.tup [x, y]) := by
  rw [List.getElem?_map, List.getElem?_zip_eq_some (z := (x, y)) |>.mpr ⟨h, h'⟩]; rfl
theorem zip_pair {K : PySem.W.Frag} {μ : Mu} {S : St'} {H : Hp} {T : Addr} {x y : V} {d e : D} (r : Rel K μ S H) (hT : H T = none) (h1 : RepV K μ S.length H d x) (h2 : RepV K μ S.length H e y) : RepV K μ S.length (upd H T (.tup [x, y])) (.tup [d, e]) (.ref T) := by
  have xf := Ext.fresh (o := .tup [x, y]) r hT
  simp only [RepV]
  refine ⟨T, _, rfl, .inl ⟨.inl upd_same, notLoc_fresh r hT⟩, ?_⟩
  simp only [RepVs]
  exact ⟨_, _, rfl, RepV.ext xf _ _ h1, _, _, rfl, RepV.ext xf _ _ h2, rfl⟩
/-- a source of a zip -/
theorem src_any {K : PySem.W.Frag} {μ0 : Mu} {S0 : St'} {H0 : Hp} {d : D} {xs : List D} {v : V} (r0 : Rel K μ0 S0 H0) (h : RepV K μ0 S0.length H0 d v) (e : itemsOf S0 d = some xs) : ∃ k : SrcK, v = k.v ∧ (∃ vs0, k.at K H0 vs0) ∧
    ∀ H μ S, Rel K μ S H → ExtW μ0 S0.length H0 μ S.length H → srcOk d xs S → ∃ vs, k.at K H vs ∧ RepVs K μ S.length H xs vs := by
  by_cases ht : ∃ ds, d = .tup ds
  · obtain ⟨ds, rfl⟩ := ht
    simp only [itemsOf, Option.some.injEq] at e
    subst e
    simp only [RepV] at h
    obtain ⟨a, vs0, ev, h1, h2⟩ := h
    exact ⟨.tup a, ev, ⟨vs0, h1.sq⟩, fun H μ S _ x _ => ⟨vs0, (x.tat h1).sq, RepVs.extW x _ _ h2⟩⟩
  · by_cases hs : ∃ x, d = .str x
    · obtain ⟨x, rfl⟩ := hs
      simp only [itemsOf, Option.some.injEq] at e
      subst e
      simp only [RepV] at h
      have go : ∀ (x : List Nat) (μ : Mu) (N : Nat) (H : Hp), RepVs K μ N H (signs x) (x.map fun c => V.str ⟨#[c]⟩) := fun x μ N H => by
        induction x with
        | nil => simp only [signs, List.map_nil, RepVs]
        | cons c x ih =>
          simp only [signs, List.map_cons, RepVs] at ih ⊢
          exact ⟨_, _, rfl, by simp only [RepV], ih⟩
      exact ⟨.str (ss x), h, ⟨_, rfl⟩, fun H μ S _ _ _ => ⟨_, rfl, go x μ S.length H⟩⟩
    · have e' : lstOf S0 d = some xs := by
        cases d with
        | tup ds => exact absurd ⟨ds, rfl⟩ ht
        | str x => exact absurd ⟨x, rfl⟩ hs
        | _ => exact e
      obtain ⟨a, ev, vs0, hv, src⟩ := src_list r0 h e'
      exact ⟨.lst a, ev, ⟨vs0, hv⟩, src⟩
theorem it_zipG {K : PySem.W.Frag} {μ0 : Mu} {S0 : St'} {H0 : Hp} {d e : D} {xs ys : List D} {v w : V} (r0 : Rel K μ0 S0 H0) (h : RepV K μ0 S0.length H0 d v) (e0 : itemsOf S0 d = some xs) (h' : RepV K μ0 S0.length H0 e w) (e0' : itemsOf S0 e = some ys)
    {gd : St' → Prop} (hgd : ∀ S, gd S → srcOk d xs S ∧ srcOk e ys S) :
    ∃ k1 k2 vs ws, v = SrcK.v k1 ∧ w = SrcK.v k2 ∧ k1.at K H0 vs ∧ k2.at K H0 ws ∧ ItOk K μ0 S0.length H0 (ItzG K k1 k2) ((xs.zip ys).map fun p => .tup [p.1, p.2]) gd := by
  obtain ⟨a, ev, ⟨vs0, h1⟩, src⟩ := src_any r0 h e0
  obtain ⟨b, ew, ⟨ws0, h2⟩, src'⟩ := src_any r0 h' e0'
  refine ⟨a, b, vs0, ws0, ev, ew, h1, h2, ⟨fun i H μ S r e g hi => ?_, fun i H μ S y H' r e g hi hy => ?_, fun i H μ S r e g hi => ?_⟩⟩
  · have g := hgd S g
    have hi' : i < xs.length ∧ i < ys.length := by simpa [List.length_zip, Nat.lt_min] using hi
    obtain ⟨ws, k1, k2⟩ := src H μ S r e g.1
    obtain ⟨us, k1', k2'⟩ := src' H μ S r e g.2
    obtain ⟨w1, k3, _⟩ := k2.get (List.getElem?_eq_getElem hi'.1)
    obtain ⟨w2, k3', _⟩ := k2'.get (List.getElem?_eq_getElem hi'.2)
    exact ⟨ws, us, w1, w2, k1, k1', k3, k3'⟩
  · have g := hgd S g
    obtain ⟨T, x, z, rfl, hT, rfl, hx, hz⟩ := hy
    obtain ⟨ws, k1, k2⟩ := src H μ S r e g.1
    obtain ⟨us, k1', k2'⟩ := src' H μ S r e g.2
    obtain ⟨d1, k3, k4⟩ := k2.get' (hx ws k1)
    obtain ⟨d2, k3', k4'⟩ := k2'.get' (hz us k1')
    exact ⟨.tup [d1, d2], zip_get k3 k3', zip_pair r hT k4 k4', Rel.fresh r hT, Ext.fresh r hT⟩
  · have g := hgd S g
    have hi' : xs.length ≤ i ∨ ys.length ≤ i := by
      have : min xs.length ys.length ≤ i := by simpa [List.length_zip] using hi
      omega
    obtain ⟨ws, k1, k2⟩ := src H μ S r e g.1
    obtain ⟨us, k1', k2'⟩ := src' H μ S r e g.2
    exact ⟨ws, us, k1, k1', by rw [← k2.length, ← k2'.length]; exact hi'⟩
theorem si_zip {elts : List Expr} {kk : Nat} {tpos : Pos} {p : Pos} (hg : Gl X "zip") (hm : X.mg "zip" = none) (hs : SA X fs [a, b]) (hn : noStar a = true) (hn2 : noStar b = true) : SI X .zip fs (.Tuple elts kk tpos) (.Call (.Name "zip" p) [a, b] [] pos) := by
  obtain ⟨ts, h1, h2⟩ := hs
  refine ⟨_, pi_zipG hg hm h1 (star_cons hn) (star_any (by rw [List.all_cons, hn2]; rfl)), fun σ H μ env S ds S' r rl re hf hi Rq q => ?_⟩
  refine h2 σ H μ env S _ _ rl re hf _ fun vs H1 μ1 r1 x1 rv => ?_
  simp only [itF] at hi
  split at hi <;> first | (cases hi; done) | skip
  · rename_i xs ys
    cases hi
    obtain ⟨v, w, ev, rv1, rv2⟩ := reps2 rv
    obtain ⟨a', b', vs', ws', e1, e2, k1, k2, k3⟩ := it_zipG r1 rv1 (show itemsOf _ (.tup xs) = some xs from rfl) rv2 (show itemsOf _ (.tup ys) = some ys from rfl) (gd := fun _ => True) (fun _ _ => ⟨trivial, trivial⟩)
    subst ev e1 e2
    exact ⟨a', b', vs', ws', rfl, k1, k2, q _ H1 μ1 r1 x1 k3⟩
  · rename_i d e _
    split at hi <;> cases hi
    rename_i xs ys he he'
    obtain ⟨v, w, ev, rv1, rv2⟩ := reps2 rv
    obtain ⟨a', b', vs', ws', e1, e2, k1, k2, k3⟩ := it_zipG r1 rv1 he rv2 he' (gd := fun S => srcOk d xs S ∧ srcOk e ys S) (fun _ g => g)
    subst ev e1 e2
    exact ⟨a', b', vs', ws', rfl, k1, k2, q _ H1 μ1 r1 x1 k3⟩
end
end TK

/-! TKh: targets, comprehensions over the hand layer. -/
namespace TK
open PySem PySem.Spec PyProof.Rows L2
section
variable {K : PySem.W.Frag} {μ : Mu} {N : Nat} {H : Hp}
theorem REnv.set {env : Env'} {σ : Hst} (r : REnv K μ N H env σ) (i : Nat) {d : D} {v : V} (h : RepV K μ N H d v) : REnv K μ N H (env.set i (some d)) (σ.set i (some v)) where
  len := by rw [List.length_set, List.length_set]; exact r.len
  at_ := fun j e he => by
    by_cases hj : j = i
    · subst hj
      by_cases hl : j < env.length
      · rw [List.getElem?_set_self hl] at he
        cases he
        exact ⟨v, by rw [List.getElem?_set_self (by rw [r.len]; exact hl)], h⟩
      · rw [List.getElem?_eq_none (by rw [List.length_set]; omega)] at he
        cases he
    · rw [List.getElem?_set_ne (Ne.symm hj)] at he ⊢
      exact r.at_ j e he
theorem wipe_get : ∀ (vs : List Nat) (env : Env') (σ : Hst) (i : Nat) (d : D), (wipe' env vs)[i]? = some (some d) → σ.length = env.length → env[i]? = some (some d) ∧ (wipe σ vs)[i]? = σ[i]? := by
  intro vs
  induction vs with
  | nil => intro env σ i d h _; exact ⟨h, rfl⟩
  | cons v vs ih =>
    intro env σ i d h hl
    have hw : wipe' env (v :: vs) = (wipe' env vs).set v none := rfl
    have hw2 : wipe σ (v :: vs) = (wipe σ vs).set v none := rfl
    rw [hw] at h
    by_cases hi : i = v
    · subst hi
      by_cases hb : i < (wipe' env vs).length
      · rw [List.getElem?_set_self hb] at h; cases h
      · rw [List.getElem?_eq_none (by rw [List.length_set]; omega)] at h; cases h
    · rw [List.getElem?_set_ne (Ne.symm hi)] at h
      obtain ⟨h1, h2⟩ := ih env σ i d h hl
      exact ⟨h1, by rw [hw2, List.getElem?_set_ne (Ne.symm hi)]; exact h2⟩
theorem wipe'_length (env : Env') : ∀ vs : List Nat, (wipe' env vs).length = env.length
  | [] => rfl
  | v :: vs => by
    show ((wipe' env vs).set v none).length = _
    rw [List.length_set, wipe'_length env vs]
theorem REnv.wipe {env : Env'} {σ : Hst} (r : REnv K μ N H env σ) (vs : List Nat) : REnv K μ N H (wipe' env vs) (wipe σ vs) where
  len := by rw [wipe_length, wipe'_length]; exact r.len
  at_ := fun i d h => by
    obtain ⟨h1, h2⟩ := wipe_get vs env σ i d h r.len
    obtain ⟨v, e, q⟩ := r.at_ i d h1
    exact ⟨v, by rw [h2]; exact e, q⟩
end
theorem wipe_set {σ : Hst} {vs : List Nat} {i : Nat} {o : Option V} (h : i ∈ vs) : wipe (σ.set i o) vs = wipe σ vs := by
  induction vs with
  | nil => cases h
  | cons v vs ih =>
    show (wipe (σ.set i o) vs).set v none = (wipe σ vs).set v none
    by_cases hm : i ∈ vs
    · rw [ih hm]
    · have e : v = i := by
        rcases List.mem_cons.mp h with e | e
        · exact e.symm
        · exact absurd e hm
      subst e
      have : ∀ ws : List Nat, v ∉ ws → wipe (σ.set v o) ws = (wipe σ ws).set v o := by
        intro ws
        induction ws with
        | nil => intro _; rfl
        | cons w ws ih2 =>
          intro hw
          show (wipe (σ.set v o) ws).set w none = ((wipe σ ws).set w none).set v o
          rw [ih2 fun z => hw (List.mem_cons_of_mem _ z), List.set_comm _ _ fun z : v = w => hw (by rw [z]; exact List.mem_cons_self)]
      rw [this vs hm, List.set_set]
theorem wipe_wipe {σ : Hst} : ∀ (vs ws : List Nat), (∀ i ∈ ws, i ∈ vs) → wipe (wipe σ ws) vs = wipe σ vs
  | vs, [], _ => rfl
  | vs, w :: ws, h => by
    show wipe ((wipe σ ws).set w none) vs = _
    rw [wipe_set (h w List.mem_cons_self), wipe_wipe vs ws fun i hi => h i (List.mem_cons_of_mem _ hi)]
/-- the slots is alone may have changed -/
def Chg (is : List Nat) (σ σ' : Hst) : Prop := ∀ vs : List Nat, (∀ i ∈ is, i ∈ vs) → wipe σ' vs = wipe σ vs
def tgS : Tg → List Nat
  | .one i => [i]
  | .many is => is
/-- a target -/
def SG (X : Cx) (tg : Tg) (e : Expr) : Prop := ∃ t, PG X e t ∧ ∀ v d σ H μ env env' S, Rel X.K μ S H → REnv X.K μ S.length H env σ → RepV X.K μ S.length H d v → setT tg S d env = .ok env' → ∀ Q : Hst → Hp → Prop, (∀ σ', REnv X.K μ S.length H env' σ' → Chg (tgS tg) σ σ' → Q σ' H) → t v σ H Q
def SGs (X : Cx) (is : List Nat) (es : List Expr) : Prop := ∃ t, PGs X es t ∧ ∀ vs ds σ H μ env env' S, Rel X.K μ S H → REnv X.K μ S.length H env σ → RepVs X.K μ S.length H ds vs → setMany is ds env = some env' → ∀ Q : Hst → Hp → Prop, (∀ σ', REnv X.K μ S.length H env' σ' → Chg is σ σ' → Q σ' H) → t vs σ H Q
section
variable {X : Cx} {pos : Pos}
theorem sg_one {i : Nat} {x : Str} (hN : X.N.Nodup) (hi : X.N[i]? = some x) (hx : Loc X.env.scope x) (hf : X.fn x = true ∨ X.env.scope.names.lookup x = some .local) : SG X (.one i) (.Name x pos) := by
  refine ⟨_, pg_name hN hi hx hf, fun v d σ H μ env env' S r re rv hs Q q => ?_⟩
  cases hs
  exact q _ (re.set i rv) fun vs h => wipe_set (h i List.mem_cons_self)
theorem sgs_nil : SGs X [] [] := by
  refine ⟨_, pgs_nil, fun vs ds σ H μ env env' S r re rv hs Q q => ?_⟩
  cases ds with
  | nil =>
    cases hs
    simp only [RepVs] at rv
    exact ⟨rv, q _ re fun _ _ => rfl⟩
  | cons d ds => cases hs
theorem assign_cons {e : Expr} {es : List Expr} {env : Env} (h : noStar e = true) : (assignEach (e :: es) env).map (·.2) = assign e env :: (assignEach es env).map (·.2) := by
  cases e <;> first | rfl | (cases h)
theorem sgs_cons {i : Nat} {is : List Nat} {x : Str} {es : List Expr} (hN : X.N.Nodup) (hi : X.N[i]? = some x) (hx : Loc X.env.scope x) (hf : X.fn x = true ∨ X.env.scope.names.lookup x = some .local) (hr : SGs X is es) : SGs X (i :: is) (.Name x pos :: es) := by
  obtain ⟨t, h1, h2⟩ := hr
  refine ⟨_, pgs_cons (pg_name hN hi hx hf) h1 (assign_cons rfl), fun vs ds σ H μ env env' S r re rv hs Q q => ?_⟩
  cases ds with
  | nil => cases hs
  | cons d ds =>
    simp only [RepVs] at rv
    obtain ⟨v, vr, rfl, rv1, rv2⟩ := rv
    exact ⟨v, vr, rfl, h2 vr ds _ H μ _ env' S r (re.set i rv1) rv2 hs Q fun σ' a1 a2 => q σ' a1 fun ws h => (a2 ws fun j hj => h j (List.mem_cons_of_mem _ hj)).trans (wipe_set (h i List.mem_cons_self))⟩
theorem assignEach_len {env : Env} : ∀ {es : List Expr}, es.all noStar = true → (assignEach es env).length = es.length ∧ (assignEach es env).findIdx? (·.1) = none
  | [], _ => ⟨rfl, rfl⟩
  | e :: es, h => by
    rw [List.all_cons, Bool.and_eq_true] at h
    obtain ⟨h1, h2⟩ := assignEach_len (env := env) h.2
    have : assignEach (e :: es) env = (false, assign e env) :: assignEach es env := by
      have h0 := h.1
      cases e <;> first | rfl | (cases h0)
    rw [this]
    refine ⟨by rw [List.length_cons, List.length_cons, h1], ?_⟩
    rw [List.findIdx?_cons, h2]; rfl
theorem setMany_len : ∀ {is : List Nat} {ds : List D} {env env' : Env'}, setMany is ds env = some env' → ds.length = is.length
  | [], [], _, _, _ => rfl
  | [], _ :: _, _, _, h => by cases h
  | _ :: _, [], _, _, h => by cases h
  | i :: is, d :: ds, env, env', h => by
    rw [List.length_cons, List.length_cons, setMany_len (is := is) (ds := ds) h]
theorem sg_many {is : List Nat} {es : List Expr} {k : Nat} (hc : X.calm = true) (h : SGs X is es) (hn : es.all noStar = true) (hl : es.length = is.length) : SG X (.many is) (.Tuple es k pos) := by
  obtain ⟨t, h1, h2⟩ := h
  obtain ⟨l1, l2⟩ := assignEach_len (env := X.env) hn
  refine ⟨fun v σ H Q => gTup X.K is.length t v σ H Q ∨ gLst X.K is.length t v σ H Q, ⟨fun pins s σ H v u Q I r hw => hw.elim (fun hw => (pg_tup (pos := pos) (k := k) (n := is.length) hc h1 (l1.trans hl) l2).run pins s σ H v u Q I r hw) (fun hw => (pg_lst (pos := pos) (k := k) (n := is.length) hc h1 (l1.trans hl) l2).run pins s σ H v u Q I r hw)⟩, fun v d σ H μ env env' S r re rv hs Q q => ?_⟩
  simp only [setT] at hs
  split at hs
  · rename_i ds
    split at hs <;> cases hs
    rename_i he
    simp only [RepV] at rv
    obtain ⟨a, vs, rfl, k1, k2⟩ := rv
    exact .inl ⟨a, vs, rfl, k1.sq, by rw [← k2.length]; exact setMany_len he, h2 vs ds σ H μ env _ S r re k2 he Q q⟩
  · split at hs
    · rename_i ds hd
      split at hs <;> cases hs
      rename_i he
      obtain ⟨a, vs, rfl, k1, k2⟩ := (rd_lstOf r rv hd).sq
      exact .inr ⟨a, vs, rfl, k1, by rw [← k2.length]; exact setMany_len he, h2 vs ds σ H μ env _ S r re k2 he Q q⟩
    · cases hs
end
/-! ### the readings that say all that is known -/
def tSem (K : PySem.W.Frag) (f : M1) : TE := fun σ H Q => ∃ μ env S d S', Rel K μ S H ∧ REnv K μ S.length H env σ ∧ f env S = .ok (d, S') ∧ Fin1 K μ S H d S' Q
def tSemT (K : PySem.W.Frag) (f : Env' → St' → R (Bool × St')) : TT := fun σ H Q => ∃ μ env S k S', Rel K μ S H ∧ REnv K μ S.length H env σ ∧ f env S = .ok (k, S') ∧ FinB K μ S H S' (Q k)
def tSemG (K : PySem.W.Frag) (tg : Tg) : TG := fun v σ H Q => ∃ d μ env env' S, Rel K μ S H ∧ REnv K μ S.length H env σ ∧ RepV K μ S.length H d v ∧ setT tg S d env = .ok env' ∧ ∀ σ', REnv K μ S.length H env' σ' → Chg (tgS tg) σ σ' → Q σ' H
theorem SE.pe {X : Cx} {f : M1} {e : Expr} (h : SE X f e) : PE X e (tSem X.K f) := by
  obtain ⟨t, h1, h2⟩ := h
  exact ⟨fun pins s σ H Q I ⟨μ, env, S, d, S', r, re, hf, q⟩ => h1.run pins s σ H Q I (h2 σ H μ env S d S' r re hf Q q)⟩
theorem ST.pt {X : Cx} {f : Env' → St' → R (Bool × St')} {e : Expr} (h : ST X f e) : PT X e (tSemT X.K f) := by
  obtain ⟨t, h1, h2⟩ := h
  exact ⟨fun pins s σ H Q I ⟨μ, env, S, d, S', r, re, hf, q⟩ => h1.run pins s σ H Q I (h2 σ H μ env S d S' r re hf Q q)⟩
theorem SG.pg {X : Cx} {tg : Tg} {e : Expr} (h : SG X tg e) : PG X e (tSemG X.K tg) := by
  obtain ⟨t, h1, h2⟩ := h
  exact ⟨fun pins s σ H v u Q I rv ⟨d, μ, env, env', S, r, re, rd, hs, q⟩ => h1.run pins s σ H v u Q I rv (h2 v d σ H μ env env' S r re rd hs Q q)⟩
/-- the tests of a clause -/
def STs (X : Cx) (f : Env' → St' → R (Bool × St')) (es : List Expr) : Prop := PTs X es (tSemT X.K f)
theorem sts_nil {X : Cx} : STs X (fun _ S => .ok (true, S)) [] := by
  refine ⟨fun pins s σ H Q I ⟨μ, env, S, k, S', r, re, hf, q⟩ => ?_⟩
  cases hf
  exact pts_nil.run pins s σ H Q I (q H μ r (Ext.refl r))
theorem sts_one {X : Cx} {f : Env' → St' → R (Bool × St')} {e : Expr} (h : ST X f e) : STs X f [e] := pts_one h.pt
theorem compL_keep {g : St' → Prop} {f : D → St' → R (Option D × St')} : ∀ {xs : List D} {S : St'} {r : List D × St'}, compL g f xs S = .ok r → g S := fun {xs S r} h => by
  cases xs with
  | nil => unfold compL at h; split at h; (assumption); cases h
  | cons x xs => unfold compL at h; split at h; (assumption); cases h
/-- a comprehension's parts and what its reading comes to -/
def SCp (X : Cx) (f : M1) (elt target iter : Expr) (ifs : List Expr) (scope : Scope) : Prop := ∃ (own : List (Str × Nat)) (wi : TI) (g : TG) (tt : TT) (te : TE), PI X target iter wi ∧ BlkOk X.N X.env.scope scope own ∧
  (∀ (s : Shared) (H : Hp) (C : Addr) (cl : List (Str × Addr)) (fp : List Addr), PG (X.blk s H scope (compEnvC scope cl C X.env) fp) target g) ∧
  (∀ (s : Shared) (H : Hp) (C : Addr) (cl : List (Str × Addr)) (fp : List Addr), PTs (X.blk s H scope (compEnvC scope cl C X.env) fp) ifs tt) ∧
  (∀ (s : Shared) (H : Hp) (C : Addr) (cl : List (Str × Addr)) (fp : List Addr), PE (X.blk s H scope (compEnvC scope cl C X.env) fp) elt te) ∧ (∀ x, foldedSetIterable iter X.env x = pure x) ∧
  ∀ σ H μ env S d S', Rel X.K μ S H → REnv X.K μ S.length H env σ → f env S = .ok (.lst d, S') → ∀ Q, FinN X.K μ S H d S' Q → tLc wi g tt te (own.map (·.2)) σ H Q
theorem SCp.sf {X : Cx} {f : M1} {elt target iter : Expr} {ifs : List Expr} {scope : Scope} {pos : Pos} (hc : X.calm = true) (hN : X.N.Nodup) (h : SCp X f elt target iter ifs scope) : SF X f (.ListComp elt [⟨target, iter, ifs, 0⟩] scope pos) := by
  obtain ⟨own, wi, g, tt, te, h1, h2, h3, h4, h5, h6, h7⟩ := h
  exact ⟨_, pe_lc hc hN h1 h2 h3 h4 h5 h6, h7⟩
/-- a comprehension of one clause: a new list -/
theorem sc_comp {X : Cx} {k : ItK} {fs : Env' → St' → R (List D × St')} {tg : Tg} {ft : Env' → St' → R (Bool × St')} {fe : M1} {elt target iter : Expr} {ifs : List Expr} {scope : Scope} {own : List (Str × Nat)}
    (hi : SI X k fs target iter) (ok : BlkOk X.N X.env.scope scope own)
    (hg : ∀ (s : Shared) (H : Hp) (C : Addr) (cl : List (Str × Addr)) (fp : List Addr), SG (X.blk s H scope (compEnvC scope cl C X.env) fp) tg target)
    (ht : ∀ (s : Shared) (H : Hp) (C : Addr) (cl : List (Str × Addr)) (fp : List Addr), STs (X.blk s H scope (compEnvC scope cl C X.env) fp) ft ifs)
    (he : ∀ (s : Shared) (H : Hp) (C : Addr) (cl : List (Str × Addr)) (fp : List Addr), SE (X.blk s H scope (compEnvC scope cl C X.env) fp) fe elt)
    (hs : ∀ x, foldedSetIterable iter X.env x = pure x) (hw : ∀ i ∈ tgS tg, i ∈ own.map (·.2)) :
    SCp X (fun env S => (fs env S).bind fun x => (itF k x.2 x.1).bind fun items => if items.1.length ≤ lim then
      (compL items.2 (compF tg (own.map (·.2)) ft fe env) items.1 x.2).bind fun r => .ok (.lst r.1, r.2) else .bad) elt target iter ifs scope := by
  obtain ⟨w, h1, h2⟩ := hi
  refine ⟨own, w, tSemG X.K tg, tSemT X.K ft, tSem X.K fe, h1, ok, fun s H C cl fp => (hg s H C cl fp).pg, ht, fun s H C cl fp => (he s H C cl fp).pe, hs, fun σ H μ env S d S' rl re hf Q q => ?_⟩
  obtain ⟨⟨ds, S1⟩, e1, hf1⟩ := R.bind_eq_ok hf
  obtain ⟨⟨items, g⟩, e2, hf2⟩ := R.bind_eq_ok hf1
  clear hf hf1
  dsimp only at hf2 e2
  split at hf2
  rotate_left
  · cases hf2
  rename_i hlen
  obtain ⟨⟨out, S2⟩, e3, hf3⟩ := R.bind_eq_ok hf2
  cases hf3
  refine h2 σ H μ env S ds S1 _ rl re e1 e2 _ fun J H1 μ1 r1 x1 ok1 D hD => ?_
  refine ⟨fun i m H => ∃ μ' Sa acc accV rest, m = items.length - i ∧ i ≤ items.length ∧ acc.length ≤ i ∧ Rel X.K μ' Sa H ∧ μ'.hid = D :: μ1.hid ∧ H D = some (.lst accV) ∧ RepVs X.K μ' Sa.length H acc accV ∧ ExtW μ1 S1.length H1 μ' Sa.length H ∧ (∀ a, a ∈ μ1.hid → H a = H1 a) ∧
    compL g (compF tg (own.map (·.2)) ft fe env) (items.drop i) Sa = .ok (rest, S2) ∧ out = acc ++ rest, ⟨items.length, muHide μ1 D, S1, [], [], out, rfl, Nat.zero_le _, Nat.le_refl _, r1.hide hD, rfl, upd_same, by simp only [RepVs], ExtW.hide r1 hD, ?_, e3, rfl⟩, ?_⟩
  · intro a ha
    exact upd_ne fun e => by have := (r1.hid a ha).1; rw [e, hD] at this; cases this
  rintro i m H3 ⟨μ', Sa, acc, accV, rest, rfl, hi, hacc, r3, hh, hDv, rA, xw, kH, hC, rfl⟩
  have hm : D ∈ μ'.hid := by rw [hh]; exact List.mem_cons_self
  have hgS : g Sa := compL_keep hC
  by_cases hlt : i < items.length
  · right
    refine ⟨ok1.go i H3 μ' Sa r3 xw hgS hlt, fun H' => ∃ μ' Sa acc' accV rest', i + 1 ≤ items.length ∧ acc'.length ≤ i + 1 ∧ Rel X.K μ' Sa H' ∧ μ'.hid = D :: μ1.hid ∧ H' D = some (.lst accV) ∧ RepVs X.K μ' Sa.length H' acc' accV ∧ ExtW μ1 S1.length H1 μ' Sa.length H' ∧ (∀ a, a ∈ μ1.hid → H' a = H1 a) ∧
      compL g (compF tg (own.map (·.2)) ft fe env) (items.drop (i + 1)) Sa = .ok (rest', S2) ∧ acc ++ rest = acc' ++ rest', ?_, fun x H4 hy => ?_⟩
    · rintro H' ⟨μ', Sa, acc', accV, rest', h3, h4, h5, h6, h7, h8, h9, h10, h11, h12⟩
      exact ⟨items.length - (i + 1), by omega, μ', Sa, acc', accV, rest', rfl, h3, h4, h5, h6, h7, h8, h9, h10, h11, h12⟩
    · obtain ⟨d, hd, rd, r4, x4⟩ := ok1.yld i H3 μ' Sa x H4 r3 xw hgS hlt hy
      have hdrop : items.drop i = d :: items.drop (i + 1) := by
        have := List.drop_eq_getElem_cons hlt
        rw [List.getElem?_eq_getElem hlt] at hd
        rw [this, Option.some.inj hd]
      rw [hdrop] at hC
      unfold compL at hC
      rw [if_pos hgS] at hC
      obtain ⟨⟨od, Sb⟩, c1, hC⟩ := R.bind_eq_ok hC
      obtain ⟨⟨rest', Sc⟩, c2, hC⟩ := R.bind_eq_ok hC
      obtain ⟨env2, c3, c1⟩ := R.bind_eq_ok c1
      obtain ⟨⟨b, Sd⟩, c4, c1⟩ := R.bind_eq_ok c1
      have rE : REnv X.K μ' Sa.length H4 (wipe' env (own.map (·.2))) (wipe σ (own.map (·.2))) := by
        have h0 : REnv X.K μ1 S1.length H1 env σ := re.ext x1
        have h1 : REnv X.K μ' Sa.length H4 env σ := ⟨h0.len, fun i d h => let ⟨v, a1, a2⟩ := h0.at_ i d h; ⟨v, a1, RepV.extW (xw.trans x4) _ _ a2⟩⟩
        exact h1.wipe _
      refine ⟨d, μ', _, env2, Sa, r4, rE, rd, c3, fun σ2 rE2 hchg => ⟨?_, ?_⟩⟩
      · rw [hchg _ hw]; exact wipe_wipe _ _ fun i hi => hi
      · refine ⟨μ', env2, Sa, b, Sd, r4, rE2, c4, fun H5 μ5 r5 x5 => ?_⟩
        have kH5 : ∀ {H6 : Hp} {μ6 : Mu} {N6 : Nat}, Ext μ' Sa.length H3 μ6 N6 H6 → ∀ a, a ∈ μ1.hid → H6 a = H1 a := fun x6 a ha =>
          (x6.keepH a (by rw [hh]; exact List.mem_cons_of_mem _ ha)).2.trans (kH a ha)
        cases b with
        | true =>
          dsimp only
          rw [if_pos rfl] at c1 ⊢
          obtain ⟨⟨y, Se⟩, c5, c1⟩ := R.bind_eq_ok c1
          cases c1
          refine ⟨μ5, env2, Sd, y, _, r5, rE2.ext x5, c5, fun v H6 μ6 r6 x6 rv => ?_⟩
          have x36 : Ext μ' Sa.length H3 μ6 _ H6 := (x4.trans x5).trans x6
          have hD6 : H6 D = some (.lst accV) := (x36.keepH D hm).2.trans hDv
          have hh6 : μ6.hid = D :: μ1.hid := x36.hid.trans hh
          have hm6 : D ∈ μ6.hid := by rw [hh6]; exact List.mem_cons_self
          have rA6 := RepVs.ext x36 _ _ rA
          have hq : ∀ a, a ≠ D → upd H6 D (.lst (accV ++ [v])) a = H6 a := fun a h => upd_ne h
          cases hC
          refine ⟨accV, hD6, ?_, μ6, _, acc ++ [y], accV ++ [v], rest', hlt, ?_, r6.hidSet hm6, hh6, upd_same, ?_, (xw.trans x36).hidSet hD, ?_, c2, ?_⟩
          · rw [← rA.length, sizeLine_eq]
            have h7 : items.length ≤ 16777216 := hlen
            omega
          · rw [List.length_append, List.length_singleton]; omega
          · exact RepVs.hid hq hm6 _ _ (rA6.append (by simp only [RepVs]; exact ⟨v, [], rfl, rv, rfl⟩))
          · intro a ha
            rw [hq a fun e => by have := (r1.hid a ha).1; rw [e, hD] at this; cases this]
            exact kH5 x36 a ha
          · simp
        | false =>
          dsimp only
          rw [if_neg Bool.false_ne_true] at c1 ⊢
          cases c1
          cases hC
          have x35 : Ext μ' Sa.length H3 μ5 _ H5 := x4.trans x5
          exact ⟨μ5, _, acc, accV, rest', hlt, by omega, r5, x35.hid.trans hh, (x35.keepH D hm).2.trans hDv, RepVs.ext x35 _ _ rA, xw.trans x35, kH5 x35, c2, rfl⟩
  · left
    have e : i = items.length := by omega
    subst e
    refine ⟨ok1.stop _ H3 μ' Sa r3 xw hgS (Nat.le_refl _), ?_⟩
    rw [List.drop_length] at hC
    unfold compL at hC
    rw [if_pos hgS] at hC
    cases hC
    rw [List.append_nil] at q
    have hl : ∀ b ∈ μ1.hid, b ∈ μ'.hid := fun b hb => by rw [hh]; exact List.mem_cons_of_mem _ hb
    have hp : D ∉ μ1.hid := fun z => by have := (r1.hid D z).1; rw [hD] at this; cases this
    have xe : Ext μ1 S1.length H1 (muShow μ' μ1.hid) S2.length (era H3 D) :=
      { le := xw.le, mu := xw.mu, keep := fun a o h n => by rw [era_ne (ne_of_none h hD)]; exact xw.keep a o h n, new := xw.new, some := (Ext.refl r1).some, hid := rfl,
        keepH := fun a ha => ⟨(r1.hid a ha).1, by rw [era_ne fun e => hp (by rw [← e]; exact ha)]; exact kH a ha⟩,
        lock := fun i hi od u h => by rw [era_ne (ne_of_none h hD)]; exact xw.lock i hi od u h }
    have := q D accV (era H3 D) (muShow μ' μ1.hid) (r3.unhide hm hl hp) (x1.trans xe) era_same (rA.unhide hm hl)
    rw [era_upd hDv] at this
    exact this
theorem comp_lst {fs : Env' → St' → R (List D × St')} {k : ItK} {F : Env' → D → St' → R (Option D × St')} : ∀ env S d S', ((fs env S).bind fun x => (itF k x.2 x.1).bind fun items => if items.1.length ≤ lim then
      (compL items.2 (F env) items.1 x.2).bind fun r => R.ok (D.lst r.1, r.2) else R.bad) = R.ok (d, S') → ∃ ds, d = D.lst ds := by
  intro env S d S' hf
  obtain ⟨x, e1, hf⟩ := R.bind_eq_ok hf
  obtain ⟨y, e2, hf⟩ := R.bind_eq_ok hf
  split at hf
  · obtain ⟨z, e3, hf⟩ := R.bind_eq_ok hf
    cases hf
    exact ⟨_, rfl⟩
  · cases hf
end TK

/-! TKi: statements over the hand layer. -/
namespace TK
open PySem PySem.Spec PyProof.Rows L2
abbrev MS := Env' → St' → R (Fl × Env' × St')
/-- what is known at the end of a statement -/
def FinS (K : PySem.W.Frag) (μ : Mu) (S : St') (H : Hp) (fl : Fl) (env' : Env') (S' : St') (D : Ends) : Prop := match fl with
  | .nx => ∀ σ' H' μ', Rel K μ' S' H' → Ext μ S.length H μ' S'.length H' → REnv K μ' S'.length H' env' σ' → D.nx σ' H'
  | .brk => ∀ σ' H' μ', Rel K μ' S' H' → Ext μ S.length H μ' S'.length H' → REnv K μ' S'.length H' env' σ' → D.bk σ' H'
  | .cnt => ∀ σ' H' μ', Rel K μ' S' H' → Ext μ S.length H μ' S'.length H' → REnv K μ' S'.length H' env' σ' → D.ct σ' H'
  | .ret d => ∀ v H' μ', Rel K μ' S' H' → Ext μ S.length H μ' S'.length H' → RepV K μ' S'.length H' d v → D.rt v H'
def SS (X : Cx) (f : MS) (s : Stmt) : Prop := ∃ t, PS X s t ∧ ∀ σ H μ env S fl env' S', Rel X.K μ S H → REnv X.K μ S.length H env σ → f env S = .ok (fl, env', S') → ∀ D : Ends, FinS X.K μ S H fl env' S' D → t D σ H
def SSs (X : Cx) (f : MS) (s : List Stmt) : Prop := ∃ t, PSs X s t ∧ ∀ σ H μ env S fl env' S', Rel X.K μ S H → REnv X.K μ S.length H env σ → f env S = .ok (fl, env', S') → ∀ D : Ends, FinS X.K μ S H fl env' S' D → t D σ H
/-- behind what was before -/
theorem FinS.then {K : PySem.W.Frag} {μ μ1 : Mu} {S S1 : St'} {H H1 : Hp} {fl : Fl} {env' : Env'} {S' : St'} {D : Ends} (x : Ext μ S.length H μ1 S1.length H1) (q : FinS K μ S H fl env' S' D) : FinS K μ1 S1 H1 fl env' S' D := by
  cases fl with
  | nx => exact fun σ' H' μ' a1 a2 a3 => q σ' H' μ' a1 (x.trans a2) a3
  | brk => exact fun σ' H' μ' a1 a2 a3 => q σ' H' μ' a1 (x.trans a2) a3
  | cnt => exact fun σ' H' μ' a1 a2 a3 => q σ' H' μ' a1 (x.trans a2) a3
  | ret d => exact fun σ' H' μ' a1 a2 a3 => q σ' H' μ' a1 (x.trans a2) a3
section
variable {X : Cx} {st : Stmt} {rest : List Stmt} {e o i c : Expr} {fe fo fi : M1} {f g : MS} {pos : Pos}
theorem sss_nil : SSs X (fun env S => .ok (.nx, env, S)) [] := by
  refine ⟨_, pss_nil, fun σ H μ env S fl env' S' r re hf D q => ?_⟩
  cases hf
  exact q σ H μ r (Ext.refl r) re
theorem sss_cons (h1 : SS X f st) (h2 : SSs X g rest) : SSs X (fun env S => (f env S).bind fun x => match x.1 with
    | .nx => g x.2.1 x.2.2
    | fl => .ok (fl, x.2.1, x.2.2)) (st :: rest) := by
  obtain ⟨t1, a1, b1⟩ := h1
  obtain ⟨t2, a2, b2⟩ := h2
  refine ⟨_, pss_cons a1 a2, fun σ H μ env S fl env' S' r re hf D q => ?_⟩
  obtain ⟨⟨fl1, env1, S1⟩, e1, hf⟩ := R.bind_eq_ok hf
  refine b1 σ H μ env S fl1 env1 S1 r re e1 _ ?_
  cases fl1 with
  | nx => exact fun σ' H' μ' r' x' re' => b2 σ' H' μ' env1 S1 fl env' S' r' re' hf D (q.then x')
  | brk => cases hf; exact q
  | cnt => cases hf; exact q
  | ret d => cases hf; exact q
def noComp : Expr → Bool
  | .ListComp _ _ _ _ => false
  | .SetComp _ _ _ _ => false
  | .DictComp _ _ _ _ _ => false
  | _ => true
theorem noComp_ok {e : Expr} {t : Option Expr} {l : Nat} {env : Env} (h : noComp e = true) : swapsWith e t l env = pure false := by
  cases e <;> first | rfl | (cases h)
theorem noComp_sole {e t : Expr} {l : Nat} {env : Env} (h : noComp e = true) : swapsWithSole [t] e l env = pure false := noComp_ok h
theorem ss_expr (he : SE X fe e) (hn : noComp e = true) : SS X (fun env S => (fe env S).bind fun x => .ok (.nx, env, x.2)) (.Expr e pos) := by
  obtain ⟨t, a1, b1⟩ := he
  refine ⟨_, ps_expr a1 (noComp_ok hn), fun σ H μ env S fl env' S' r re hf D q => ?_⟩
  obtain ⟨⟨x, S1⟩, e1, hf⟩ := R.bind_eq_ok hf
  cases hf
  exact b1 σ H μ env S x S1 r re e1 _ fun v H' μ' r' x' rv => q σ H' μ' r' x' (re.ext x')
theorem ss_asg1 {tg : Tg} {i : Nat} {x : Str} {p : Pos} (hN : X.N.Nodup) (hi : X.N[i]? = some x) (hx : Loc X.env.scope x) (hf : X.fn x = true ∨ X.env.scope.names.lookup x = some .local) (he : SE X fe e) (hs : swapsWith e (some (.Name x p)) pos.line X.env = pure false) :
    SS X (fun env S => (fe env S).bind fun x => (setT (.one i) x.2 x.1 env).bind fun env' => .ok (.nx, env', x.2)) (.Assign [.Name x p] e pos) := by
  obtain ⟨t, a1, b1⟩ := he
  refine ⟨_, ps_set hN hi hx a1 hs hf, fun σ H μ env S fl env' S' r re hf D q => ?_⟩
  obtain ⟨⟨x, S1⟩, e1, hf⟩ := R.bind_eq_ok hf
  cases hf
  exact b1 σ H μ env S x S1 r re e1 _ fun v H' μ' r' x' rv => q _ H' μ' r' x' ((re.ext x').set i rv)
def noTup : Expr → Bool
  | .Tuple vs _ _ => vs.all (foldedForSure 8)
  | _ => true
theorem swapped_none {es : List Expr} {k : Nat} {p : Pos} {e : Expr} {env : Env} (h : noTup e = true) : swappedStores [.Tuple es k p] e env = pure none := by
  cases e
  case Tuple vs _ _ =>
    have h' : vs.all (foldedForSure 8) = true := h
    unfold swappedStores
    simp only [h', if_true]
    (repeat' split) <;> rfl
  all_goals rfl
def notLoc (sc : Scope) : Expr → Bool
  | .Name x _ => !decide (sc.names.lookup x = some .local)
  | _ => true
theorem swapped_nl {es : List Expr} {k : Nat} {p : Pos} {e : Expr} {env : Env} (h : es.any (notLoc env.scope) = true) : swappedStores [.Tuple es k p] e env = pure none := by
  cases e
  case Tuple vs _ _ =>
    unfold swappedStores
    have key : ∀ f : Expr → Option Str, (∀ a, notLoc env.scope a = true → f a = none) → ((es.filterMap f).length != es.length) = true := fun f hf => by
      rw [bne_iff_ne, ne_eq, List.filterMap_length_eq_length]
      intro hh
      obtain ⟨a, ha, hb⟩ := List.any_eq_true.mp h
      have := hh a ha
      rw [hf a hb] at this
      cases this
    dsimp only
    rw [key _ ?side]
    case side =>
      intro a hb
      cases a <;> first | rfl | skip
      rename_i x pos
      simp only [notLoc, Bool.not_eq_true', decide_eq_false_iff_not] at hb
      have hk : ¬ env.kindOf x = some .local := hb
      simp [hk]
    simp only [Bool.true_or, if_true]
    (repeat' split) <;> rfl
  all_goals rfl
theorem ss_asgT {is : List Nat} {es : List Expr} {k : Nat} {p : Pos} (hg : SG X (.many is) (.Tuple es k p)) (he : SE X fe e) (hn : noComp e = true) (ht : swappedStores [.Tuple es k p] e X.env = pure none) :
    SS X (fun env S => (fe env S).bind fun x => (setT (.many is) x.2 x.1 env).bind fun env' => .ok (.nx, env', x.2)) (.Assign [.Tuple es k p] e pos) := by
  obtain ⟨t, a1, b1⟩ := he
  obtain ⟨t2, a2, b2⟩ := hg
  refine ⟨_, ps_asg a1 a2 (noComp_sole hn) ht rfl, fun σ H μ env S fl env' S' r re hf D q => ?_⟩
  obtain ⟨⟨x, S1⟩, e1, hf⟩ := R.bind_eq_ok hf
  obtain ⟨env2, e2, hf⟩ := R.bind_eq_ok hf
  cases hf
  refine b1 σ H μ env S x S1 r re e1 _ fun v H' μ' r' x' rv => ?_
  exact b2 v x σ H' μ' env env' S1 r' (re.ext x') rv e2 _ fun σ' re' _ => q σ' H' μ' r' x' re'
/-- a, b = e1, e2 -/
theorem swapped_two {x y : Str} {px py pt : Pos} {kt k2 : Nat} {pt2 : Pos} {a b : Expr} {env : Env} (hk : env.blockKind = .function) (hx : env.scope.names.lookup x = some .local) (hy : env.scope.names.lookup y = some .local) (hxy : ¬ x = y) (hl : (px.line == py.line) = true)
    (sa : noStar a = true) (sb : noStar b = true) (hf : (foldedForSure 8 a && foldedForSure 8 b) = false) (hc : (constantsAlone 8 a && constantsAlone 8 b) = false) :
    swappedStores [.Tuple [.Name x px, .Name y py] kt pt] (.Tuple [a, b] k2 pt2) env = pure (some [x, y]) := by
  have hx' : env.kindOf x = some .local := hx
  have hy' : env.kindOf y = some .local := hy
  have e1 : px.line = py.line := by simpa using hl
  have hyx : ¬ y = x := fun z => hxy z.symm
  have q2 : [a, b].all (foldedForSure 8) = false := by simpa [List.all_cons] using hf
  have q3 : [a, b].all (constantsAlone 8) = false := by simpa [List.all_cons] using hc
  have q4 : (Expr.Name x px).pos.line = py.line := e1
  unfold swappedStores
  simp [q2, q3, q4, e1, hk, List.filterMap_cons, hx', hy', List.eraseDups_cons, hyx, hxy]
  clear hf hc q2 q3
  intro h
  exfalso
  rcases h with h | h
  · cases a <;> first | (cases h; done) | (cases sa; done)
  · cases b <;> first | (cases h; done) | (cases sb; done)
theorem ss_par {i j : Nat} {x y : Str} {a b : Expr} {fs : Env' → St' → R (List D × St')} {px py pt : Pos} {kt k2 : Nat} {pt2 : Pos} (hc : X.calm = true) (hN : X.N.Nodup) (hi : X.N[i]? = some x) (hj : X.N[j]? = some y) (hij : i ≠ j)
    (hx : X.env.scope.names.lookup x = some .local) (hy : X.env.scope.names.lookup y = some .local) (ha : SA X fs [a, b])
    (hw : swappedStores [.Tuple [.Name x px, .Name y py] kt pt] (.Tuple [a, b] k2 pt2) X.env = pure (some [x, y])) :
    SS X (fun env S => ((fs env S).bind fun x => if x.1.length ≤ lim then .ok (.tup x.1, x.2) else .bad).bind fun x => (setT (.many [i, j]) x.2 x.1 env).bind fun env' => .ok (.nx, env', x.2)) (.Assign [.Tuple [.Name x px, .Name y py] kt pt] (.Tuple [a, b] k2 pt2) pos) := by
  obtain ⟨t, a1, b1⟩ := ha
  refine ⟨_, ps_par hc hN hi hj hij hx hy a1 hw, fun σ H μ env S fl env' S' r re hf D q => ?_⟩
  obtain ⟨⟨z, S1⟩, e1, hf⟩ := R.bind_eq_ok hf
  obtain ⟨⟨ds, S2⟩, e2, hf2⟩ := R.bind_eq_ok e1
  split at hf2 <;> cases hf2
  obtain ⟨env2, e3, hf⟩ := R.bind_eq_ok hf
  cases hf
  refine b1 σ H μ env S ds _ r re e2 _ fun vs H1 μ1 r1 x1 rv => ?_
  simp only [setT] at e3
  split at e3 <;> cases e3
  rename_i hm
  match ds, hm with
  | [d1, d2], hm =>
    cases hm
    obtain ⟨v, w, rfl, h1, h2⟩ := reps2 rv
    exact ⟨v, w, rfl, q _ H1 μ1 r1 x1 (((re.ext x1).set i h1).set j h2)⟩
/-- a, b, c = e1, e2, e3 -/
theorem swapped_three {x y z : Str} {px py pz pt : Pos} {kt k2 : Nat} {pt2 : Pos} {a b d : Expr} {env : Env} (hk : env.blockKind = .function) (hx : env.scope.names.lookup x = some .local) (hy : env.scope.names.lookup y = some .local) (hz : env.scope.names.lookup z = some .local)
    (hxy : ¬ x = y) (hxz : ¬ x = z) (hyz : ¬ y = z) (hl : (px.line == py.line) = true) (hl2 : (px.line == pz.line) = true)
    (sa : noStar a = true) (sb : noStar b = true) (sd : noStar d = true) (hf : (foldedForSure 8 a && (foldedForSure 8 b && foldedForSure 8 d)) = false) (hc : (constantsAlone 8 a && (constantsAlone 8 b && constantsAlone 8 d)) = false) :
    swappedStores [.Tuple [.Name x px, .Name y py, .Name z pz] kt pt] (.Tuple [a, b, d] k2 pt2) env = pure (some [x, y, z]) := by
  have hx' : env.kindOf x = some .local := hx
  have hy' : env.kindOf y = some .local := hy
  have hz' : env.kindOf z = some .local := hz
  have e1 : px.line = py.line := by simpa using hl
  have e2 : px.line = pz.line := by simpa using hl2
  have n1 : ¬ y = x := fun z => hxy z.symm
  have n2 : ¬ z = x := fun z => hxz z.symm
  have n3 : ¬ z = y := fun z => hyz z.symm
  have q2 : [a, b, d].all (foldedForSure 8) = false := by simpa [List.all_cons] using hf
  have q3 : [a, b, d].all (constantsAlone 8) = false := by simpa [List.all_cons] using hc
  have q4 : (Expr.Name x px).pos.line = px.line := rfl
  unfold swappedStores
  simp [q2, q3, q4, ← e1, ← e2, hk, List.filterMap_cons, hx', hy', hz', List.eraseDups_cons, n1, n2, n3, hxy, hxz, hyz]
  clear hf hc q2 q3
  intro h
  exfalso
  rcases h with h | h | h
  · cases a <;> first | (cases h; done) | (cases sa; done)
  · cases b <;> first | (cases h; done) | (cases sb; done)
  · cases d <;> first | (cases h; done) | (cases sd; done)
theorem ss_par3 {i j l : Nat} {x y z : Str} {a b d : Expr} {fs : Env' → St' → R (List D × St')} {px py pz pt : Pos} {kt k2 : Nat} {pt2 : Pos} (hc : X.calm = true) (hN : X.N.Nodup) (hi : X.N[i]? = some x) (hj : X.N[j]? = some y) (hl : X.N[l]? = some z) (hij : i ≠ j) (hil : i ≠ l) (hjl : j ≠ l)
    (hx : X.env.scope.names.lookup x = some .local) (hy : X.env.scope.names.lookup y = some .local) (hz : X.env.scope.names.lookup z = some .local) (ha : SA X fs [a, b, d])
    (hw : swappedStores [.Tuple [.Name x px, .Name y py, .Name z pz] kt pt] (.Tuple [a, b, d] k2 pt2) X.env = pure (some [x, y, z])) :
    SS X (fun env S => ((fs env S).bind fun x => if x.1.length ≤ lim then .ok (.tup x.1, x.2) else .bad).bind fun x => (setT (.many [i, j, l]) x.2 x.1 env).bind fun env' => .ok (.nx, env', x.2)) (.Assign [.Tuple [.Name x px, .Name y py, .Name z pz] kt pt] (.Tuple [a, b, d] k2 pt2) pos) := by
  obtain ⟨t, a1, b1⟩ := ha
  refine ⟨_, ps_par3 hc hN hi hj hl hij hil hjl hx hy hz a1 hw, fun σ H μ env S fl env' S' r re hf D q => ?_⟩
  obtain ⟨⟨z, S1⟩, e1, hf⟩ := R.bind_eq_ok hf
  obtain ⟨⟨ds, S2⟩, e2, hf2⟩ := R.bind_eq_ok e1
  split at hf2 <;> cases hf2
  obtain ⟨env2, e3, hf⟩ := R.bind_eq_ok hf
  cases hf
  refine b1 σ H μ env S ds _ r re e2 _ fun vs H1 μ1 r1 x1 rv => ?_
  simp only [setT] at e3
  split at e3 <;> cases e3
  rename_i hm
  match ds, hm with
  | [d1, d2, d3], hm =>
    cases hm
    simp only [RepVs] at rv
    obtain ⟨u, ur, rfl, h1, v, vr, rfl, h2, w, wr, rfl, h3, rfl⟩ := rv
    exact ⟨u, v, w, rfl, q _ H1 μ1 r1 x1 ((((re.ext x1).set i h1).set j h2).set l h3)⟩
theorem assign_sub {o i : Expr} {p : Pos} {env : Env} (h : noSlice i = true) : ∀ v, assign (.Subscript o i p) env v = (do
      let ov ← holding [v] (eval o env)
      let iv ← holding [v, ov] (eval i env)
      standAt p
      holding [v, ov, iv] (setItem ov iv v)
      release [v, ov, iv] []) := by
  intro v
  cases i <;> first | rfl | (cases h)
def SEof (X : Cx) (f : M1) (t : TE) : Prop := ∀ σ H μ env S d S', Rel X.K μ S H → REnv X.K μ S.length H env σ → f env S = .ok (d, S') → ∀ Q, Fin1 X.K μ S H d S' Q → t σ H Q
theorem gsub_ok {to ti : TE} (b2 : SEof X fo to) (b3 : SEof X fi ti) {σ : L2.St} {H1 : Hp} {μ1 : Mu} {env : Env'} {S1 S2 S3 S4 : St'} {d x y : D} {v : V} (r1 : Rel X.K μ1 S1 H1) (re : REnv X.K μ1 S1.length H1 env σ) (rv : RepV X.K μ1 S1.length H1 d v)
    (e2 : fo env S1 = .ok (x, S2)) (e3 : fi env S2 = .ok (y, S3)) (e4 : setixL S3 x y d = .ok S4) {Q : L2.St → Hp → Prop} (q : ∀ H' μ', Rel X.K μ' S4 H' → Ext μ1 S1.length H1 μ' S4.length H' → Q σ H') : gSub to ti rSetL v σ H1 Q := by
  refine b2 σ H1 μ1 env S1 x S2 r1 re e2 _ fun w H2 μ2 r2 x2 rw' => ?_
  refine b3 σ H2 μ2 env S2 y S3 r2 (re.ext x2) e3 _ fun u H3 μ3 r3 x3 ru => ?_
  have x13 := x2.trans x3
  simp only [setixL] at e4
  split at e4
  · rename_i n
    split at e4
    · rename_i xs k hx
      split at e4 <;> cases e4
      rename_i j hj
      have rw3 := RepV.ext x3 _ _ rw'
      have rv3 := RepV.ext (x2.trans x3) _ _ rv
      simp only [RepV] at rw3 ru
      obtain ⟨hn3, ew⟩ := rw3
      obtain ⟨ho, e5, q1⟩ := r3.obj n _ hx
      simp only [RepO] at q1
      obtain ⟨vs, e6, q2⟩ := q1
      subst ew e6 ru
      refine ⟨μ3 n, vs, k, j, rfl, rfl, e5, by rw [← q2.length]; exact hj, ?_⟩
      have hR : RepO X.K μ3 S3.length H3 (.lst (xs.set j d)) (.lst (vs.set j v)) := by
        simp only [RepO]
        exact ⟨_, rfl, q2.set j rv3⟩
      have nf : ∀ od u, H3 (μ3 n) ≠ some (.frz od u) := fun od u z => by rw [e5] at z; cases z
      have xw := Ext.write (o := .lst (vs.set j v)) r3 hn3 nf
      refine q _ μ3 (Rel.write r3 hn3 nf hR) ?_
      rw [List.length_set]; exact x13.trans xw
    · cases e4
  · cases e4
/-- a[i], b[j] = .. -/
theorem ss_setix2 {o2 i2 : Expr} {fo2 fi2 : M1} {p p2 pt : Pos} {k : Nat} (hc : X.calm = true) (ho : SE X fo o) (hi : SE X fi i) (ho2 : SE X fo2 o2) (hi2 : SE X fi2 i2) (he : SE X fe e) (hn : noComp e = true) (hl : noSlice i = true) (hl2 : noSlice i2 = true) :
    SS X (fun env S => (fe env S).bind fun v => (pairF v.1).bind fun ab => (fo env v.2).bind fun x => (fi env x.2).bind fun y => (setixL y.2 x.1 y.1 ab.1).bind fun S1 => (fo2 env S1).bind fun z => (fi2 env z.2).bind fun w => (setixL w.2 z.1 w.1 ab.2).bind fun S2 => .ok (.nx, env, S2)) (.Assign [.Tuple [.Subscript o i p, .Subscript o2 i2 p2] k pt] e pos) := by
  obtain ⟨te, a1, b1⟩ := he
  obtain ⟨to, a2, b2⟩ := ho
  obtain ⟨ti, a3, b3⟩ := hi
  obtain ⟨to2, a4, b4⟩ := ho2
  obtain ⟨ti2, a5, b5⟩ := hi2
  refine ⟨_, ps_asg a1 (pg_tup (n := 2) hc (pgs_cons (pg_sub a2 a3 set_list (assign_sub hl)) (pgs_cons (pg_sub a4 a5 set_list (assign_sub hl2)) pgs_nil))) (noComp_sole hn) (swapped_nl rfl) rfl, fun σ H μ env S fl env' S' r re hf D q => ?_⟩
  obtain ⟨⟨d, S1⟩, e1, hf1⟩ := R.bind_eq_ok hf
  obtain ⟨⟨da, db⟩, e0, hf1⟩ := R.bind_eq_ok hf1
  obtain ⟨⟨x, S2⟩, e2, hf2⟩ := R.bind_eq_ok hf1
  obtain ⟨⟨y, S3⟩, e3, hf3⟩ := R.bind_eq_ok hf2
  obtain ⟨S4, e4, hf4⟩ := R.bind_eq_ok hf3
  obtain ⟨⟨z, S5⟩, e5, hf5⟩ := R.bind_eq_ok hf4
  obtain ⟨⟨w, S6⟩, e6, hf6⟩ := R.bind_eq_ok hf5
  obtain ⟨S7, e7, hf7⟩ := R.bind_eq_ok hf6
  clear hf hf1 hf2 hf3 hf4 hf5 hf6
  cases hf7
  refine b1 σ H μ env S d S1 r re e1 _ fun v H1 μ1 r1 x1 rv => ?_
  unfold pairF at e0
  dsimp only at e0
  split at e0 <;> cases e0
  simp only [RepV] at rv
  obtain ⟨a, vs, rfl, k1, k2⟩ := rv
  simp only [RepVs] at k2
  obtain ⟨va, vr, rfl, ra, vb, vr2, rfl, rb, rfl⟩ := k2
  refine ⟨a, _, rfl, k1.sq, rfl, va, _, rfl, ?_⟩
  refine gsub_ok b2 b3 r1 (re.ext x1) ra e2 e3 e4 fun H2 μ2 r2 x2 => ?_
  refine ⟨vb, _, rfl, ?_⟩
  refine gsub_ok b4 b5 r2 ((re.ext x1).ext x2) (RepV.ext x2 _ _ rb) e5 e6 e7 fun H3 μ3 r3 x3 => ?_
  exact ⟨rfl, q σ H3 μ3 r3 ((x1.trans x2).trans x3) (((re.ext x1).ext x2).ext x3)⟩
theorem ss_setixL {p : Pos} (ho : SE X fo o) (hi : SE X fi i) (he : SE X fe e) (hn : noComp e = true) (hl : noSlice i = true) :
    SS X (fun env S => (fe env S).bind fun v => (fo env v.2).bind fun x => (fi env x.2).bind fun y => (setixL y.2 x.1 y.1 v.1).bind fun S' => .ok (.nx, env, S')) (.Assign [.Subscript o i p] e pos) := by
  obtain ⟨te, a1, b1⟩ := he
  obtain ⟨to, a2, b2⟩ := ho
  obtain ⟨ti, a3, b3⟩ := hi
  refine ⟨_, ps_asg a1 (pg_sub a2 a3 set_list (assign_sub hl)) (noComp_sole hn) rfl rfl, fun σ H μ env S fl env' S' r re hf D q => ?_⟩
  obtain ⟨⟨d, S1⟩, e1, hf1⟩ := R.bind_eq_ok hf
  obtain ⟨⟨x, S2⟩, e2, hf2⟩ := R.bind_eq_ok hf1
  obtain ⟨⟨y, S3⟩, e3, hf3⟩ := R.bind_eq_ok hf2
  obtain ⟨S4, e4, hf4⟩ := R.bind_eq_ok hf3
  clear hf hf1 hf2 hf3
  cases hf4
  refine b1 σ H μ env S d S1 r re e1 _ fun v H1 μ1 r1 x1 rv => ?_
  refine b2 σ H1 μ1 env S1 x S2 r1 (re.ext x1) e2 _ fun w H2 μ2 r2 x2 rw' => ?_
  refine b3 σ H2 μ2 env S2 y S3 r2 ((re.ext x1).ext x2) e3 _ fun u H3 μ3 r3 x3 ru => ?_
  have x13 := (x1.trans x2).trans x3
  simp only [setixL] at e4
  split at e4
  · rename_i n
    split at e4
    · rename_i xs k hx
      split at e4 <;> cases e4
      rename_i j hj
      have rw3 := RepV.ext x3 _ _ rw'
      have rv3 := RepV.ext (x2.trans x3) _ _ rv
      simp only [RepV] at rw3 ru
      obtain ⟨hn3, ew⟩ := rw3
      obtain ⟨ho, e5, q1⟩ := r3.obj n _ hx
      simp only [RepO] at q1
      obtain ⟨vs, e6, q2⟩ := q1
      subst ew e6 ru
      refine ⟨μ3 n, vs, k, j, rfl, rfl, e5, by rw [← q2.length]; exact hj, ?_⟩
      have hR : RepO X.K μ3 S3.length H3 (.lst (xs.set j d)) (.lst (vs.set j v)) := by
        simp only [RepO]
        exact ⟨_, rfl, q2.set j rv3⟩
      have nf : ∀ od u, H3 (μ3 n) ≠ some (.frz od u) := fun od u z => by rw [e5] at z; cases z
      have xw := Ext.write (o := .lst (vs.set j v)) r3 hn3 nf
      refine q σ _ μ3 (Rel.write r3 hn3 nf hR) ?_ ?_
      · rw [List.length_set]; exact x13.trans xw
      · rw [List.length_set]; exact (re.ext x13).ext xw
    · cases e4
  · cases e4
theorem own_dct {K : PySem.W.Frag} {μ : Mu} {S : St'} {H : Hp} {d : TK.D} {kvs : List (TK.D × TK.D)} {v : V} (r : Rel K μ S H) (h : RepV K μ S.length H d v) (e : ownDct S d = some kvs) :
    ∃ n es, d = .loc n ∧ n < S.length ∧ S[n]? = some (.dct kvs) ∧ v = .ref (μ n) ∧ H (μ n) = some (.dK es) ∧ RepK K μ S.length H kvs es := by
  cases d with
  | loc n =>
    simp only [ownDct] at e
    split at e <;> cases e
    rename_i hn
    simp only [RepV] at h
    obtain ⟨h0, rfl⟩ := h
    obtain ⟨ho, e1, q1⟩ := r.obj n _ hn
    simp only [RepO] at q1
    obtain ⟨es, rfl, h1⟩ := q1
    exact ⟨n, es, rfl, h0, hn, rfl, e1, h1⟩
  | _ => cases e
/-- d[k] = v -/
theorem ss_setixD {p : Pos} (hu : X.A.units + 1 < cLine) (ho : SE X fo o) (hi : SE X fi i) (he : SE X fe e) (hn : noComp e = true) :
    SS X (fun env S => (fe env S).bind fun v => (fo env v.2).bind fun x => (fi env x.2).bind fun y => (match ownDct y.2 x.1 with
      | some kvs => setixD y.2 kvs x.1 y.1 v.1
      | none => .bad).bind fun S' => .ok (.nx, env, S')) (.Assign [.Subscript o i p] e pos) := by
  obtain ⟨te, a1, b1⟩ := he
  obtain ⟨to, a2, b2⟩ := ho
  obtain ⟨ti, a3, b3⟩ := hi
  refine ⟨_, ps_dput hu a2 a3 a1 (noComp_ok hn), fun σ H μ env S fl env' S' r re hf D q => ?_⟩
  obtain ⟨⟨d, S1⟩, e1, hf1⟩ := R.bind_eq_ok hf
  obtain ⟨⟨x, S2⟩, e2, hf2⟩ := R.bind_eq_ok hf1
  obtain ⟨⟨y, S3⟩, e3, hf3⟩ := R.bind_eq_ok hf2
  obtain ⟨S4, e4, hf4⟩ := R.bind_eq_ok hf3
  clear hf hf1 hf2 hf3
  cases hf4
  refine b1 σ H μ env S d S1 r re e1 _ fun v H1 μ1 r1 x1 rv => ?_
  refine b2 σ H1 μ1 env S1 x S2 r1 (re.ext x1) e2 _ fun w H2 μ2 r2 x2 rw' => ?_
  refine b3 σ H2 μ2 env S2 y S3 r2 ((re.ext x1).ext x2) e3 _ fun u H3 μ3 r3 x3 ru => ?_
  have x13 := (x1.trans x2).trans x3
  dsimp only at e4
  split at e4
  · rename_i kvs hk
    obtain ⟨n, es, rfl, hn3, hS, rfl, e5, q2⟩ := own_dct r3 (RepV.ext x3 _ _ rw') hk
    simp only [setixD] at e4
    split at e4 <;> cases e4
    rename_i hc
    obtain ⟨k, k1, rfl⟩ := key_of ru hc.1
    have rv3 := RepV.ext (x2.trans x3) _ _ rv
    have hR : RepO X.K μ3 S3.length H3 (.dct (dput kvs y d)) (.dK (putK es k v)) := by
      simp only [RepO]
      exact ⟨_, rfl, dput_rep k1 q2 rv3⟩
    have hlen : es.length < sizeLine := by
      rw [← repK_len q2, sizeLine_eq]; exact hc.2
    have nf : ∀ od u, H3 (μ3 n) ≠ some (.frz od u) := fun od u z => by rw [e5] at z; cases z
    have xw := Ext.write (o := .dK (putK es k v)) r3 hn3 nf
    refine ⟨μ3 n, _, rfl, DPut.k e5 hlen, q σ _ μ3 (Rel.write r3 hn3 nf hR) ?_ ?_⟩
    · rw [List.length_set]; exact x13.trans xw
    · rw [List.length_set]; exact (re.ext x13).ext xw
  · cases e4
/-- one of two rules -/
theorem SS.alt {f f1 f2 : MS} {s : Stmt} (a : SS X f1 s) (b : SS X f2 s) (h : ∀ env S r, f env S = .ok r → f1 env S = .ok r ∨ f2 env S = .ok r) : SS X f s := by
  obtain ⟨t1, p1, q1⟩ := a
  obtain ⟨t2, p2, q2⟩ := b
  refine ⟨fun D σ H => t1 D σ H ∨ t2 D σ H, ⟨fun pins s σ H D I z => z.elim (p1.run pins s σ H D I) (p2.run pins s σ H D I)⟩, fun σ H μ env S fl env' S' r re hf D q => ?_⟩
  rcases h env S _ hf with z | z
  · exact .inl (q1 σ H μ env S _ _ _ r re z D q)
  · exact .inr (q2 σ H μ env S _ _ _ r re z D q)
theorem SS.hole {s : Stmt} : SS X (fun _ _ => .bad) s := by
  refine ⟨fun _ _ _ => False, ⟨fun pins s σ H D I z => z.elim⟩, fun σ H μ env S fl env' S' r re hf D q => ?_⟩
  cases hf
theorem ss_setix {p : Pos} (hu : X.A.units + 1 < cLine) (ho : SE X fo o) (hi : SE X fi i) (he : SE X fe e) (hn : noComp e = true) (hl : noSlice i = true) :
    SS X (fun env S => (fe env S).bind fun v => (fo env v.2).bind fun x => (fi env x.2).bind fun y => (setixF y.2 x.1 y.1 v.1).bind fun S' => .ok (.nx, env, S')) (.Assign [.Subscript o i p] e pos) := by
  refine SS.alt (ss_setixL ho hi he hn hl) (ss_setixD hu ho hi he hn) fun env S r hf => ?_
  obtain ⟨⟨d, S1⟩, e1, hf1⟩ := R.bind_eq_ok hf
  obtain ⟨⟨x, S2⟩, e2, hf2⟩ := R.bind_eq_ok hf1
  obtain ⟨⟨y, S3⟩, e3, hf3⟩ := R.bind_eq_ok hf2
  obtain ⟨S4, e4, hf4⟩ := R.bind_eq_ok hf3
  unfold setixF at e4
  cases ho : ownDct S3 x with
  | none =>
    rw [ho] at e4
    left
    rw [e1, R.bind_ok, e2, R.bind_ok, e3, R.bind_ok]
    dsimp only at e4 ⊢
    rw [e4]; exact hf4
  | some kvs =>
    rw [ho] at e4
    right
    rw [e1, R.bind_ok, e2, R.bind_ok, e3, R.bind_ok, ho]
    dsimp only at e4 ⊢
    rw [e4]; exact hf4
abbrev rAugA : R2 := fun x y H Q => rI0 (fun i j => .int (i + j)) x y H Q ∨ ∃ i j, x = .str i ∧ y = .str j ∧ i.length + j.length ≤ sizeLine ∧ Q (.str (i ++ j)) H
theorem ip_addA : PIp X .Add rAugA := fun pins s σ H x y v u Q I rx ry h => (iop_add.or iop_add_str) pins s σ H x y v u Q I rx ry h
theorem ip_subA : PIp X .Sub (rI0 fun i j => .int (i - j)) := fun pins s σ H x y v u Q I rx ry h => iop_sub pins s σ H x y v u Q I rx ry h
theorem aug_ok {op : BOp} : ∃ r, PIp X (opB op) r ∧ ∀ μ S H x y d v w, Rel X.K μ S H → RepV X.K μ S.length H x v → RepV X.K μ S.length H y w → augF op x y = .ok d → ∀ Q, Fin1 X.K μ S H d S Q → r v w H Q := by
  cases op with
  | add =>
    refine ⟨_, ip_addA, fun μ S H x y d v w r hx hy hf Q q => ?_⟩
    unfold augF at hf
    split at hf
    · cases hf
      simp only [RepV] at hx hy
      subst hx hy
      exact .inl ⟨_, _, rfl, rfl, q _ _ μ r (Ext.refl r) (by simp only [RepV])⟩
    · split at hf <;> cases hf
      rename_i hz
      simp only [RepV] at hx hy
      subst hx hy
      exact .inr ⟨_, _, rfl, rfl, by rw [ss_len, ss_len, sizeLine_eq]; exact hz, q _ _ μ r (Ext.refl r) (by simp only [RepV, ss_app])⟩
    · rename_i h; cases h
    · cases hf
  | sub =>
    refine ⟨_, ip_subA, fun μ S H x y d v w r hx hy hf Q q => ?_⟩
    unfold augF at hf
    split at hf
    · rename_i h; cases h
    · rename_i h; cases h
    · cases hf
      simp only [RepV] at hx hy
      subst hx hy
      exact ⟨_, _, rfl, rfl, q _ _ μ r (Ext.refl r) (by simp only [RepV])⟩
    · cases hf
  | _ => exact ⟨fun _ _ _ _ => False, fun pins s σ H x y v u Q I rx ry h => h.elim, fun μ S H x y d v w r hx hy hf Q q => by
      unfold augF at hf
      split at hf <;> first | (rename_i h; cases h; done) | cases hf⟩
theorem ss_aug {op : BOp} {i : Nat} {x : Str} {p : Pos} (hN : X.N.Nodup) (hi : X.N[i]? = some x) (hx : Loc X.env.scope x) (hfn : X.fn x = true ∨ X.env.scope.names.lookup x = some .local) (he : SE X fe e) :
    SS X (fun env S => match env[i]? with
    | some (some d) => (fe env S).bind fun x => (augF op d x.1).bind fun r => .ok (.nx, env.set i (some r), x.2)
    | _ => .bad) (.AugAssign (.Name x p) (opB op) e pos) := by
  obtain ⟨t, a1, b1⟩ := he
  obtain ⟨r0, ho, hr⟩ := aug_ok (X := X) (op := op)
  refine ⟨_, ps_aug hN hi hx a1 ho hfn, fun σ H μ env S fl env' S' r re hf D q => ?_⟩
  dsimp only at hf
  split at hf
  · rename_i d hd
    obtain ⟨⟨y, S1⟩, e1, hf⟩ := R.bind_eq_ok hf
    obtain ⟨z, e2, hf⟩ := R.bind_eq_ok hf
    cases hf
    obtain ⟨v, hv, rv⟩ := re.at_ i d hd
    refine ⟨v, hv, b1 σ H μ env S y S1 r re e1 _ fun w H' μ' r' x' rw' => ?_⟩
    refine hr μ' _ H' d y z v w r' (RepV.ext x' _ _ rv) rw' e2 _ fun u H'' μ'' r'' x'' ru => ?_
    exact q _ H'' μ'' r'' (x'.trans x'') (((re.ext x').ext x'').set i ru)
  · cases hf
theorem aug_sub {i : Expr} (h : noSlice i = true) : ∀ ov iv new, augStore i ov iv new = (do holding [new, ov, iv] (setItem ov iv new); release [new, ov, iv] []; pure .next) := by
  cases i <;> first | (intros; rfl) | cases h
/-- o[i] op= e, a list -/
theorem ss_augix {op : BOp} {p : Pos} (ho : SE X fo o) (hi : SE X fi i) (he : SE X fe e) (hl : noSlice i = true) :
    SS X (fun env S => (fo env S).bind fun x => (fi env x.2).bind fun y => (idxL y.2 x.1 y.1).bind fun u => (fe env y.2).bind fun v => (augF op u v.1).bind fun w => (setixL v.2 x.1 y.1 w).bind fun S' => .ok (.nx, env, S')) (.AugAssign (.Subscript o i p) (opB op) e pos) := by
  obtain ⟨te, a1, b1⟩ := he
  obtain ⟨to, a2, b2⟩ := ho
  obtain ⟨ti, a3, b3⟩ := hi
  obtain ⟨r0, hop, hr⟩ := aug_ok (X := X) (op := op)
  refine ⟨_, ps_augS a2 a3 get_list a1 hop set_list (aug_sub hl), fun σ H μ env S fl env' S' r re hf D q => ?_⟩
  obtain ⟨⟨x, S1⟩, e1, hf1⟩ := R.bind_eq_ok hf
  obtain ⟨⟨y, S2⟩, e2, hf2⟩ := R.bind_eq_ok hf1
  obtain ⟨u, e3, hf3⟩ := R.bind_eq_ok hf2
  obtain ⟨⟨v, S3⟩, e4, hf4⟩ := R.bind_eq_ok hf3
  obtain ⟨w, e5, hf5⟩ := R.bind_eq_ok hf4
  obtain ⟨S4, e6, hf6⟩ := R.bind_eq_ok hf5
  clear hf hf1 hf2 hf3 hf4 hf5
  cases hf6
  refine b2 σ H μ env S x S1 r re e1 _ fun xv H1 μ1 r1 x1 rx => ?_
  refine b3 σ H1 μ1 env S1 y S2 r1 (re.ext x1) e2 _ fun yv H2 μ2 r2 x2 ry => ?_
  dsimp only at e3 e4 e5 e6
  unfold idxL at e3
  split at e3
  rotate_left
  · cases e3
  rename_i k
  split at e3
  rotate_left
  · cases e3
  rename_i ds hds
  split at e3
  rotate_left
  · cases e3
  rename_i d hd
  cases e3
  have rx2 := RepV.ext x2 _ _ rx
  obtain ⟨a, vs, ev, h1, h2⟩ := rd_lstOf r2 rx2 hds
  obtain ⟨v', k1, k2⟩ := atI_rep h2 hd
  simp only [RepV] at ry
  refine ⟨a, vs, k, v', ev, ry, h1, k1, ?_⟩
  refine b1 σ H2 μ2 env S2 v S3 r2 ((re.ext x1).ext x2) e4 _ fun wv H3 μ3 r3 x3 rw3 => ?_
  refine hr μ3 S3 H3 _ v w v' wv r3 (RepV.ext x3 _ _ k2) rw3 e5 _ fun nv H4 μ4 r4 x4 rn => ?_
  have x14 := ((x1.trans x2).trans x3).trans x4
  simp only [setixL] at e6
  split at e6
  · rename_i n
    split at e6
    · rename_i xs k' hx hk
      cases hk
      split at e6 <;> cases e6
      rename_i j hj
      have rw4 := RepV.ext (x3.trans x4) _ _ rx2
      simp only [RepV] at rw4
      obtain ⟨hn3, ew⟩ := rw4
      obtain ⟨ho, e5', q1⟩ := r4.obj n _ hx
      simp only [RepO] at q1
      obtain ⟨vs', e6', q2⟩ := q1
      subst e6'
      refine ⟨μ4 n, vs', _, j, ew, ry, e5', by rw [← q2.length]; exact hj, ?_⟩
      have hR : RepO X.K μ4 S3.length H4 (.lst (xs.set j w)) (.lst (vs'.set j nv)) := by
        simp only [RepO]
        exact ⟨_, rfl, q2.set j rn⟩
      have nf : ∀ od u, H4 (μ4 n) ≠ some (.frz od u) := fun od u z => by rw [e5'] at z; cases z
      have xw := Ext.write (o := .lst (vs'.set j nv)) r4 hn3 nf
      refine q σ _ μ4 (Rel.write r4 hn3 nf hR) ?_ ?_
      · rw [List.length_set]; exact x14.trans xw
      · rw [List.length_set]; exact (re.ext x14).ext xw
    · cases e6
  · cases e6
variable {fc : Env' → St' → R (Bool × St')}
theorem ss_if {a b : List Stmt} (hc : ST X fc c) (ha : SSs X f a) (hb : SSs X g b) : SS X (fun env S => (fc env S).bind fun k => if k.1 then f env k.2 else g env k.2) (.If c a b pos) := by
  obtain ⟨tc, a1, b1⟩ := hc
  obtain ⟨ta, a2, b2⟩ := ha
  obtain ⟨tb, a3, b3⟩ := hb
  refine ⟨_, ps_if a1 a2 a3, fun σ H μ env S fl env' S' r re hf D q => ?_⟩
  obtain ⟨⟨k, S1⟩, e1, hf⟩ := R.bind_eq_ok hf
  refine b1 σ H μ env S k S1 r re e1 _ fun H' μ' r' x' => ?_
  cases k with
  | true =>
    rw [if_pos rfl] at hf ⊢
    exact b2 σ H' μ' env S1 fl env' S' r' (re.ext x') hf D (q.then x')
  | false =>
    rw [if_neg Bool.false_ne_true] at hf ⊢
    exact b3 σ H' μ' env S1 fl env' S' r' (re.ext x') hf D (q.then x')
theorem ss_ret (he : SE X fe e) : SS X (fun env S => (fe env S).bind fun x => .ok (.ret x.1, env, x.2)) (.Return (some e) pos) := by
  obtain ⟨t, a1, b1⟩ := he
  refine ⟨_, ps_ret a1, fun σ H μ env S fl env' S' r re hf D q => ?_⟩
  obtain ⟨⟨x, S1⟩, e1, hf⟩ := R.bind_eq_ok hf
  cases hf
  exact b1 σ H μ env S x S1 r re e1 _ fun v H' μ' r' x' rv => q v H' μ' r' x' rv
theorem ss_retN : SS X (fun env S => .ok (.ret .non, env, S)) (.Return none pos) := by
  refine ⟨_, ps_retN, fun σ H μ env S fl env' S' r re hf D q => ?_⟩
  cases hf
  exact q _ H μ r (Ext.refl r) (by simp only [RepV])
theorem ss_pass : SS X (fun env S => .ok (.nx, env, S)) (.Pass pos) := by
  refine ⟨_, ps_pass, fun σ H μ env S fl env' S' r re hf D q => ?_⟩
  cases hf
  exact q σ H μ r (Ext.refl r) re
theorem ss_brk : SS X (fun env S => .ok (.brk, env, S)) (.Break pos) := by
  refine ⟨_, ps_break, fun σ H μ env S fl env' S' r re hf D q => ?_⟩
  cases hf
  exact q σ H μ r (Ext.refl r) re
theorem ss_cnt : SS X (fun env S => .ok (.cnt, env, S)) (.Continue pos) := by
  refine ⟨_, ps_continue, fun σ H μ env S fl env' S' r re hf D q => ?_⟩
  cases hf
  exact q σ H μ r (Ext.refl r) re
theorem ss_while {b : List Stmt} {n : Nat} (hp : PassesOwn (model X.prog X.w) X.A X.env X.xe) (hc : ST X fc c) (hb : SSs X f b) : SS X (fun env S => whileL fc f n env S) (.While c b [] pos) := by
  obtain ⟨tc, a1, b1⟩ := hc
  obtain ⟨tb, a2, b2⟩ := hb
  refine ⟨_, ps_while hp a1 a2, fun σ H μ env S fl env' S' r re hf D q => ?_⟩
  refine ⟨fun m σ1 H1 => ∃ μ1 env1 S1, Rel X.K μ1 S1 H1 ∧ REnv X.K μ1 S1.length H1 env1 σ1 ∧ Ext μ S.length H μ1 S1.length H1 ∧ whileL fc f m env1 S1 = .ok (fl, env', S'), ⟨n, μ, env, S, r, re, Ext.refl r, hf⟩, ?_⟩
  rintro m σ1 H1 ⟨μ1, env1, S1, r1, re1, x1, hw⟩
  cases m with
  | zero => cases hw
  | succ m =>
    unfold whileL at hw
    obtain ⟨⟨k, S2⟩, e1, hw⟩ := R.bind_eq_ok hw
    refine b1 σ1 H1 μ1 env1 S1 k S2 r1 re1 e1 _ fun H2 μ2 r2 x2 => ?_
    cases k with
    | false =>
      dsimp only
      rw [if_neg Bool.false_ne_true] at hw ⊢
      cases hw
      exact q σ1 H2 μ2 r2 (x1.trans x2) (re1.ext x2)
    | true =>
      dsimp only
      rw [if_pos rfl] at hw ⊢
      obtain ⟨⟨fl2, env2, S3⟩, e2, hw⟩ := R.bind_eq_ok hw
      refine ⟨fun σ' H' => ∃ μ1 env1 S1, Rel X.K μ1 S1 H' ∧ REnv X.K μ1 S1.length H' env1 σ' ∧ Ext μ S.length H μ1 S1.length H' ∧ whileL fc f m env1 S1 = .ok (fl, env', S'), fun σ' H' h => ⟨m, Nat.lt_succ_self _, h⟩, ?_⟩
      refine b2 σ1 H2 μ2 env1 S2 fl2 env2 S3 r2 (re1.ext x2) e2 _ ?_
      cases fl2 with
      | nx => exact fun σ' H' μ' r' x' re' => ⟨μ', env2, S3, r', re', (x1.trans x2).trans x', hw⟩
      | cnt => exact fun σ' H' μ' r' x' re' => ⟨μ', env2, S3, r', re', (x1.trans x2).trans x', hw⟩
      | brk =>
        cases hw
        exact fun σ' H' μ' r' x' re' => q σ' H' μ' r' ((x1.trans x2).trans x') re'
      | ret d =>
        cases hw
        exact fun v H' μ' r' x' rv => q v H' μ' r' ((x1.trans x2).trans x') rv
theorem forL_keep {g : St' → Prop} {f : D → MS} {xs : List D} {env : Env'} {S : St'} {r : Fl × Env' × St'} (h : forL g f xs env S = .ok r) : g S := by
  cases xs with
  | nil => unfold forL at h; split at h; (assumption); cases h
  | cons x xs => unfold forL at h; split at h; (assumption); cases h
/-- a source of a walk -/
def SIg (X : Cx) (F : Env' → St' → R ((List TK.D × (St' → Prop)) × St')) (tg iter : Expr) : Prop := ∃ w, PI X tg iter w ∧ ∀ σ H μ env S r S', Rel X.K μ S H → REnv X.K μ S.length H env σ → F env S = .ok (r, S') → ∀ Rq : It → Hp → Prop,
  (∀ J H' μ', Rel X.K μ' S' H' → Ext μ S.length H μ' S'.length H' → ItOk X.K μ' S'.length H' J r.1 r.2 → Rq J H') → w σ H Rq
theorem SI.gn {k : ItK} {fs : Env' → St' → R (List TK.D × St')} {target iter : Expr} (h : SI X k fs target iter) : SIg X (fun env S => (fs env S).bind fun x => (itF k x.2 x.1).bind fun r => .ok (r, x.2)) target iter := by
  obtain ⟨w, a1, b1⟩ := h
  refine ⟨w, a1, fun σ H μ env S r S' rl re hf Rq q => ?_⟩
  obtain ⟨⟨ds, S1⟩, e1, hf⟩ := R.bind_eq_ok hf
  obtain ⟨items, e2, hf⟩ := R.bind_eq_ok hf
  cases hf
  exact b1 σ H μ env S ds _ _ rl re e1 e2 Rq q
theorem ss_forG {tg : Tg} {F : Env' → St' → R ((List TK.D × (St' → Prop)) × St')} {target iter : Expr} {b : List Stmt} (hp : PassesOwn (model X.prog X.w) X.A X.env X.xe) (hc : X.calm = true) (hi : SIg X F target iter) (hg : SG X tg target) (hb : SSs X f b) (hs : ∀ x, foldedSetIterable iter X.env x = pure x) :
    SS X (fun env S => (F env S).bind fun r => forL r.1.2 (turnF tg f) r.1.1 env r.2) (.For target iter b [] pos) := by
  obtain ⟨w, a1, b1⟩ := hi
  obtain ⟨tb, a2, b2⟩ := hb
  refine ⟨_, ps_for hp hc a1 hg.pg a2 hs, fun σ H μ env S fl env' S' r re hf D0 q => ?_⟩
  obtain ⟨⟨⟨items, g⟩, S1⟩, e1, hf2⟩ := R.bind_eq_ok hf
  clear hf
  dsimp only at hf2
  refine b1 σ H μ env S _ S1 r re e1 _ fun J H1 μ1 r1 x1 ok1 => ?_
  refine ⟨fun i m σ2 H2 => ∃ μ2 env2 S2, m = items.length - i ∧ i ≤ items.length ∧ Rel X.K μ2 S2 H2 ∧ REnv X.K μ2 S2.length H2 env2 σ2 ∧ Ext μ1 S1.length H1 μ2 S2.length H2 ∧ forL g (turnF tg f) (items.drop i) env2 S2 = .ok (fl, env', S'),
    ⟨items.length, μ1, env, S1, rfl, Nat.zero_le _, r1, re.ext x1, Ext.refl r1, hf2⟩, ?_⟩
  rintro i m σ2 H2 ⟨μ2, env2, S2, rfl, hi, r2, re2, x2, hF⟩
  have hgS := forL_keep hF
  by_cases hlt : i < items.length
  · right
    refine ⟨ok1.go i H2 μ2 S2 r2 x2.w hgS hlt, fun σ' H' => ∃ μ2 env2 S2, Rel X.K μ2 S2 H' ∧ REnv X.K μ2 S2.length H' env2 σ' ∧ Ext μ1 S1.length H1 μ2 S2.length H' ∧ forL g (turnF tg f) (items.drop (i + 1)) env2 S2 = .ok (fl, env', S'), ?_, fun x H3 hy => ?_⟩
    · rintro σ' H' ⟨μ3, env3, S3, h1, h2, h3, h4⟩
      exact ⟨items.length - (i + 1), by omega, μ3, env3, S3, rfl, hlt, h1, h2, h3, h4⟩
    · obtain ⟨d, hd, rd, r3, x3⟩ := ok1.yld i H2 μ2 S2 x H3 r2 x2.w hgS hlt hy
      have hdrop : items.drop i = d :: items.drop (i + 1) := by
        have := List.drop_eq_getElem_cons hlt
        rw [List.getElem?_eq_getElem hlt] at hd
        rw [this, Option.some.inj hd]
      rw [hdrop] at hF
      unfold forL at hF
      rw [if_pos hgS] at hF
      obtain ⟨⟨fl3, env3, S3⟩, c1, hF⟩ := R.bind_eq_ok hF
      obtain ⟨env4, c2, c1⟩ := R.bind_eq_ok c1
      refine ⟨d, μ2, env2, env4, S2, r3, re2.ext x3, rd, c2, fun σ4 re4 _ => ?_⟩
      have x13 := x2.trans x3
      refine b2 σ4 H3 μ2 env4 S2 fl3 env3 S3 r3 re4 c1 _ ?_
      cases fl3 with
      | nx => exact fun σ' H' μ' r' x' re' => ⟨μ', env3, S3, r', re', x13.trans x', hF⟩
      | cnt => exact fun σ' H' μ' r' x' re' => ⟨μ', env3, S3, r', re', x13.trans x', hF⟩
      | brk =>
        cases hF
        exact fun σ' H' μ' r' x' re' => q σ' H' μ' r' ((x1.trans x13).trans x') re'
      | ret d =>
        cases hF
        exact fun v H' μ' r' x' rv => q v H' μ' r' ((x1.trans x13).trans x') rv
  · left
    have e : i = items.length := by omega
    subst e
    refine ⟨ok1.stop _ H2 μ2 S2 r2 x2.w hgS (Nat.le_refl _), ?_⟩
    rw [List.drop_length] at hF
    unfold forL at hF
    rw [if_pos hgS] at hF
    cases hF
    exact q σ2 H2 μ2 r2 (x1.trans x2) re2
theorem ss_for {tg : Tg} {k : ItK} {fs : Env' → St' → R (List TK.D × St')} {target iter : Expr} {b : List Stmt} (hp : PassesOwn (model X.prog X.w) X.A X.env X.xe) (hc : X.calm = true) (hi : SI X k fs target iter) (hg : SG X tg target) (hb : SSs X f b) (hs : ∀ x, foldedSetIterable iter X.env x = pure x) :
    SS X (fun env S => (fs env S).bind fun x => (itF k x.2 x.1).bind fun items => forL items.2 (turnF tg f) items.1 env x.2) (.For target iter b [] pos) := by
  have h := ss_forG hp hc hi.gn hg hb hs (pos := pos)
  have e : (fun env S => ((fs env S).bind fun x => (itF k x.2 x.1).bind fun r => R.ok (r, x.2)).bind fun r => forL r.1.2 (turnF tg f) r.1.1 env r.2) = fun env S => (fs env S).bind fun x => (itF k x.2 x.1).bind fun items => forL items.2 (turnF tg f) items.1 env x.2 := by
    funext env S
    cases fs env S with
    | ok x =>
      rw [R.bind_ok, R.bind_ok]
      cases itF k x.2 x.1 with
      | ok y => rfl
      | exc c S => rfl
      | bad => rfl
    | exc c S => rfl
    | bad => rfl
  rw [e] at h
  exact h
end
end TK

/-! TKr: dicts, more methods, more walks over the hand layer. -/
namespace TK
open PySem PySem.Spec PyProof.Rows L2
section
variable {X : Cx} {a b c o e : Expr} {fa fb fc fo : M1} {pos : Pos} {es : List Expr} {fs : Env' → St' → R (List D × St')}
/-! ### d[k], k in d -/
theorem se_dget (hu : X.A.units + 1 < cLine) (ha : SE X fa a) (hb : SE X fb b) (hn : noSlice b = true) : SE X (fun env S => (fa env S).bind fun x => (fb env x.2).bind fun y => (match dctOf y.2 x.1 with
    | some kvs => idxD kvs y.1
    | none => .bad).bind fun d => .ok (d, y.2)) (.Subscript a b pos) := by
  obtain ⟨ta, h1, h2⟩ := ha
  obtain ⟨tb, h3, h4⟩ := hb
  refine ⟨_, pe_dget hu h1 h3 (plainIx hn), fun σ H μ env S d S' rl re hf Q q => ?_⟩
  obtain ⟨⟨x, S1⟩, e1, hf1⟩ := R.bind_eq_ok hf
  obtain ⟨⟨y, S2⟩, e2, hf2⟩ := R.bind_eq_ok hf1
  obtain ⟨d', e3, hf3⟩ := R.bind_eq_ok hf2
  clear hf hf1 hf2
  cases hf3
  refine h2 σ H μ env S _ _ rl re e1 _ fun v H1 μ1 r1 x1 rv => ?_
  refine h4 σ H1 μ1 env S1 _ _ r1 (re.ext x1) e2 _ fun w H2 μ2 r2 x2 rw' => ?_
  dsimp only at e3
  split at e3
  · rename_i kvs hk
    obtain ⟨p, es, rfl, g1, g2⟩ := rd_dctOf r2 (RepV.ext x2 _ _ rv) hk
    unfold idxD at e3
    split at e3
    · rename_i hkey
      split at e3 <;> cases e3
      rename_i hd
      obtain ⟨k, k1, rfl⟩ := key_of rw' hkey
      obtain ⟨v', k2, k3⟩ := (dget_rep k1 g2).1 _ hd
      exact ⟨p, v', rfl, .inl ⟨es, k, g1, rfl, k2.symm⟩, q v' H2 μ2 r2 (x1.trans x2) k3⟩
    · cases e3
  · cases e3
theorem se_idxA (hu : X.A.units + 1 < cLine) (ha : SE X fa a) (hb : SE X fb b) (hn : noSlice b = true) : SE X (fun env S => (fa env S).bind fun x => (fb env x.2).bind fun y => (idxF y.2 x.1 y.1).bind fun d => .ok (d, y.2)) (.Subscript a b pos) := by
  refine SE.alt (se_idx ha hb hn) (se_dget hu ha hb hn) fun env S r hf => ?_
  obtain ⟨⟨x, S1⟩, e1, hf1⟩ := R.bind_eq_ok hf
  obtain ⟨⟨y, S2⟩, e2, hf2⟩ := R.bind_eq_ok hf1
  unfold idxF at hf2
  rw [e1, R.bind_ok, R.bind_ok, e2, R.bind_ok, R.bind_ok]
  dsimp only at hf2 ⊢
  cases ho : dctOf S2 x with
  | none => rw [ho] at hf2; exact .inl hf2
  | some kvs => rw [ho] at hf2; exact .inr hf2
/-- a rule of tests from a rule of values -/
theorem ST.alt {f f1 f2 : Env' → St' → R (Bool × St')} {e : Expr} (a : ST X f1 e) (b : ST X f2 e) (h : ∀ env S r, f env S = .ok r → f1 env S = .ok r ∨ f2 env S = .ok r) : ST X f e := by
  obtain ⟨t1, p1, q1⟩ := a
  obtain ⟨t2, p2, q2⟩ := b
  refine ⟨fun σ H Q => t1 σ H Q ∨ t2 σ H Q, ⟨fun pins s σ H Q I z => z.elim (p1.run pins s σ H Q I) (p2.run pins s σ H Q I)⟩, fun σ H μ env S d S' r re hf Q q => ?_⟩
  rcases h env S _ hf with z | z
  · exact .inl (q1 σ H μ env S _ _ r re z Q q)
  · exact .inr (q2 σ H μ env S _ _ r re z Q q)
theorem dget_opt {K : PySem.W.Frag} {μ : Mu} {S : St'} {H : Hp} {x y : D} {kvs : List (D × D)} {v w : V} (r : Rel K μ S H) (rv : RepV K μ S.length H x v) (rw' : RepV K μ S.length H y w) (hk : dctOf S x = some kvs) (hkey : isKey y = true) :
    ∃ p ov, v = .ref p ∧ DGet H p w ov ∧ ov.isSome = (dget kvs y).isSome ∧ (∀ d, dget kvs y = some d → ∃ u, ov = some u ∧ RepV K μ S.length H d u) ∧ IsD H p := by
  obtain ⟨p, es, rfl, g1, g2⟩ := rd_dctOf r rv hk
  obtain ⟨k, k1, rfl⟩ := key_of rw' hkey
  have g := dget_rep k1 g2
  refine ⟨p, valV es k, rfl, .inl ⟨es, k, g1, rfl, rfl⟩, ?_, g.1, .inl ⟨es, g1⟩⟩
  cases e : dget kvs y with
  | none => rw [g.2 e]; rfl
  | some d => obtain ⟨u, e2, _⟩ := g.1 d e; rw [e2]; rfl
def tDInG (g : Bool → Bool) (ty td : TE) : TE := fun σ H Q => ty σ H fun y H1 => td σ H1 fun x H2 => ∃ a o, x = .ref a ∧ DGet H2 a y o ∧ Q (.bl (g o.isSome)) H2
theorem pc_dinG {op : CmpOp} (hop : op = .In ∨ op = .NotIn) {ta tb : TE} (hu : X.A.units + 1 < cLine) (h1 : PE X a ta) (h2 : PE X b tb) : PC X op a b (tDInG (fun k => if op = .In then k else !k) ta tb) := by
  rcases hop with rfl | rfl
  · exact pc_din hu h1 h2
  · exact pc_dnotin hu h1 h2
def dinF (op : CmpOp) (S : St') (x y : D) : R Bool := match dctOf S y with
  | some kvs => if isKey x = true then .ok (if op = .In then (dget kvs x).isSome else !(dget kvs x).isSome) else .bad
  | none => .bad
theorem din_read {op : CmpOp} {ta tb : TE} (h2 : ∀ σ H μ env S d S', Rel X.K μ S H → REnv X.K μ S.length H env σ → fa env S = .ok (d, S') → ∀ Q, Fin1 X.K μ S H d S' Q → ta σ H Q)
    (h4 : ∀ σ H μ env S d S', Rel X.K μ S H → REnv X.K μ S.length H env σ → fb env S = .ok (d, S') → ∀ Q, Fin1 X.K μ S H d S' Q → tb σ H Q) {σ : Hst} {H : Hp} {μ : Mu} {env : Env'} {S : St'} {x y : D} {S1 S2 : St'} {k : Bool}
    (rl : Rel X.K μ S H) (re : REnv X.K μ S.length H env σ) (e1 : fa env S = .ok (x, S1)) (e2 : fb env S1 = .ok (y, S2)) (e3 : dinF op S2 x y = .ok k) {Q : VK} (q : ∀ H' μ', Rel X.K μ' S2 H' → Ext μ S.length H μ' S2.length H' → Q (.bl k) H') :
    tDInG (fun k => if op = .In then k else !k) ta tb σ H Q := by
  refine h2 σ H μ env S _ _ rl re e1 _ fun v H1 μ1 r1 x1 rv => ?_
  refine h4 σ H1 μ1 env S1 _ _ r1 (re.ext x1) e2 _ fun w H2 μ2 r2 x2 rw' => ?_
  unfold dinF at e3
  split at e3
  · rename_i kvs hk
    split at e3 <;> cases e3
    rename_i hkey
    obtain ⟨p, ov, rfl, g1, g2, _⟩ := dget_opt r2 rw' (RepV.ext x2 _ _ rv) hk hkey
    refine ⟨p, ov, rfl, g1, ?_⟩
    rw [g2]
    exact q H2 μ2 r2 (x1.trans x2)
  · cases e3
theorem se_din {op : CmpOp} (hop : op = .In ∨ op = .NotIn) (hu : X.A.units + 1 < cLine) (ha : SE X fa a) (hb : SE X fb b) (hn : noSet b = true) :
    SE X (fun env S => (fa env S).bind fun x => (fb env x.2).bind fun y => (dinF op y.2 x.1 y.1).bind fun k => .ok (.bl k, y.2)) (.Compare a [op] [b] pos) := by
  obtain ⟨ta, h1, h2⟩ := ha
  obtain ⟨tb, h3, h4⟩ := hb
  refine ⟨_, pe_cmp (pc_dinG hop hu h1 h3) (noSet_ok hn), fun σ H μ env S d S' rl re hf Q q => ?_⟩
  obtain ⟨⟨x, S1⟩, e1, hf1⟩ := R.bind_eq_ok hf
  obtain ⟨⟨y, S2⟩, e2, hf2⟩ := R.bind_eq_ok hf1
  obtain ⟨k, e3, hf3⟩ := R.bind_eq_ok hf2
  clear hf hf1 hf2
  cases hf3
  exact din_read h2 h4 rl re e1 e2 e3 fun H' μ' r' x' => q _ H' μ' r' x' (by simp only [RepV])
theorem st_din {op : CmpOp} (hop : op = .In ∨ op = .NotIn) (hu : X.A.units + 1 < cLine) (ha : SE X fa a) (hb : SE X fb b) (hn : noSet b = true) :
    ST X (fun env S => (fa env S).bind fun x => (fb env x.2).bind fun y => (dinF op y.2 x.1 y.1).bind fun k => .ok (k, y.2)) (.Compare a [op] [b] pos) := by
  obtain ⟨ta, h1, h2⟩ := ha
  obtain ⟨tb, h3, h4⟩ := hb
  refine ⟨_, pt_cmp (pc_dinG hop hu h1 h3) (noSet_ok hn), fun σ H μ env S d S' rl re hf Q q => ?_⟩
  obtain ⟨⟨x, S1⟩, e1, hf1⟩ := R.bind_eq_ok hf
  obtain ⟨⟨y, S2⟩, e2, hf2⟩ := R.bind_eq_ok hf1
  obtain ⟨k, e3, hf3⟩ := R.bind_eq_ok hf2
  clear hf hf1 hf2
  cases hf3
  exact din_read h2 h4 rl re e1 e2 e3 fun H' μ' r' x' => ⟨_, rfl, q H' μ' r' x'⟩
theorem cmpF_alt {op : COp} {S : St'} {x y : D} {k : Bool} (h : cmpF op S x y = .ok k) : cmpF0 op S x y = .ok k ∨ ((opC op = .In ∨ opC op = .NotIn) ∧ dinF (opC op) S x y = .ok k) := by
  unfold cmpF at h
  split at h
  · split at h
    · rename_i kvs hk
      right
      refine ⟨.inl rfl, ?_⟩
      unfold inD at h
      unfold dinF
      rw [hk]
      exact h
    · exact .inl h
  · split at h
    · rename_i kvs hk
      right
      refine ⟨.inr rfl, ?_⟩
      unfold inD at h
      unfold dinF
      rw [hk]
      dsimp only
      split at h
      · rename_i hkey
        rw [if_pos hkey]
        exact h
      · cases h
    · exact .inl h
  · exact .inl h
theorem se_cmpA {op : COp} (hu : X.A.units + 64 < cLine) (ha : SE X fa a) (hb : SE X fb b) (hn : noSet b = true) :
    SE X (fun env S => (fa env S).bind fun x => (fb env x.2).bind fun y => (cmpF op y.2 x.1 y.1).bind fun k => .ok (.bl k, y.2)) (.Compare a [opC op] [b] pos) := by
  have hu1 : X.A.units + 1 < cLine := Nat.lt_of_le_of_lt (Nat.add_le_add_left (by decide) _) hu
  by_cases hop : opC op = .In ∨ opC op = .NotIn
  · refine SE.alt (se_cmp hu ha hb hn) (se_din hop hu1 ha hb hn) fun env S r hf => ?_
    obtain ⟨⟨x, S1⟩, e1, hf1⟩ := R.bind_eq_ok hf
    obtain ⟨⟨y, S2⟩, e2, hf2⟩ := R.bind_eq_ok hf1
    obtain ⟨k, e3, hf3⟩ := R.bind_eq_ok hf2
    rw [e1, R.bind_ok, R.bind_ok, e2, R.bind_ok, R.bind_ok]
    dsimp only at e3 hf3 ⊢
    rcases cmpF_alt e3 with z | z
    · left; rw [z]; exact hf3
    · right; rw [z.2]; exact hf3
  · have e : cmpF op = cmpF0 op := by
      cases op with
      | in_ => exact absurd (.inl rfl) hop
      | notIn => exact absurd (.inr rfl) hop
      | _ => rfl
    rw [e]
    exact se_cmp hu ha hb hn
theorem st_cmpA {op : COp} (hu : X.A.units + 64 < cLine) (ha : SE X fa a) (hb : SE X fb b) (hn : noSet b = true) :
    ST X (fun env S => (fa env S).bind fun x => (fb env x.2).bind fun y => (cmpF op y.2 x.1 y.1).bind fun k => .ok (k, y.2)) (.Compare a [opC op] [b] pos) := by
  have hu1 : X.A.units + 1 < cLine := Nat.lt_of_le_of_lt (Nat.add_le_add_left (by decide) _) hu
  by_cases hop : opC op = .In ∨ opC op = .NotIn
  · refine ST.alt (st_cmp hu ha hb hn) (st_din hop hu1 ha hb hn) fun env S r hf => ?_
    obtain ⟨⟨x, S1⟩, e1, hf1⟩ := R.bind_eq_ok hf
    obtain ⟨⟨y, S2⟩, e2, hf2⟩ := R.bind_eq_ok hf1
    obtain ⟨k, e3, hf3⟩ := R.bind_eq_ok hf2
    rw [e1, R.bind_ok, R.bind_ok, e2, R.bind_ok, R.bind_ok]
    dsimp only at e3 hf3 ⊢
    rcases cmpF_alt e3 with z | z
    · left; rw [z]; exact hf3
    · right; rw [z.2]; exact hf3
  · have e : cmpF op = cmpF0 op := by
      cases op with
      | in_ => exact absurd (.inl rfl) hop
      | notIn => exact absurd (.inr rfl) hop
      | _ => rfl
    rw [e]
    exact st_cmp hu ha hb hn
end
end TK

/-! TKs: more methods over the hand layer. -/
namespace TK
open PySem PySem.Spec PyProof.Rows L2
section
open StrLaws
theorem occ_stay (s sub : Str) (hi : Nat) : ∀ (l : List Nat) (st : Array Nat × Nat), st.fst.size = 1 → (forIn l st (occBody s sub hi 1)).run.fst = st.fst
  | [], st, h => rfl
  | a :: l, st, h => by
    rw [List.forIn_cons]
    have : occBody s sub hi 1 a st = pure (ForInStep.yield (st.fst, st.snd)) := by
      unfold occBody
      rw [if_neg (by rintro ⟨⟨⟨z, _⟩, _⟩, _⟩; omega)]
    rw [this]
    exact occ_stay s sub hi l st h
theorem occ_first (s sub : Str) (hi : Nat) (i0 : Nat) (post : List Nat) (h0 : i0 + sub.length ≤ hi ∧ Builtin.Str.subAt s sub i0 = true) : ∀ (pre : List Nat), (∀ i ∈ pre, ¬ (i + sub.length ≤ hi ∧ Builtin.Str.subAt s sub i = true)) →
    (forIn (pre ++ i0 :: post) ((#[] : Array Nat), 0) (occBody s sub hi 1)).run.fst = #[i0]
  | [], _ => by
    rw [List.nil_append, List.forIn_cons]
    have : occBody s sub hi 1 i0 ((#[] : Array Nat), 0) = pure (ForInStep.yield (#[i0], i0 + sub.length)) := by
      unfold occBody
      rw [if_pos ⟨⟨⟨by simp, Nat.zero_le _⟩, h0.1⟩, h0.2⟩]
      rfl
    rw [this]
    exact occ_stay s sub hi post _ rfl
  | a :: pre, h => by
    rw [List.cons_append, List.forIn_cons]
    have : occBody s sub hi 1 a ((#[] : Array Nat), 0) = pure (ForInStep.yield (#[], 0)) := by
      unfold occBody
      rw [if_neg (by rintro ⟨⟨_, z1⟩, z2⟩; exact h a List.mem_cons_self ⟨z1, z2⟩)]
    rw [this]
    exact occ_first s sub hi i0 post h0 pre fun i hi => h i (List.mem_cons_of_mem _ hi)
theorem idxOf_get {c : Nat} : ∀ {x : List Nat}, c ∈ x → x[x.idxOf c]? = some c ∧ ∀ i, i < x.idxOf c → x[i]? ≠ some c
  | [], h => by cases h
  | a :: x, h => by
    by_cases e : a = c
    · subst e
      rw [List.idxOf_cons_self]
      exact ⟨rfl, fun i hi => absurd hi (Nat.not_lt_zero _)⟩
    · have hm : c ∈ x := by
        rcases List.mem_cons.mp h with z | z
        · exact absurd z.symm e
        · exact z
      obtain ⟨h1, h2⟩ := idxOf_get hm
      have e0 : (a :: x).idxOf c = x.idxOf c + 1 := by rw [List.idxOf_cons, beq_false_of_ne e]; rfl
      rw [e0]
      refine ⟨h1, fun i hi => ?_⟩
      cases i with
      | zero => simp [e]
      | succ i =>
        rw [List.getElem?_cons_succ]
        exact h2 i (by omega)
theorem occ_one {x : List Nat} {c : Nat} (h : c ∈ x) : Builtin.Str.occurrences (ss x) (ss [c]) 0 (ss x).length 1 = [x.idxOf c] := by
  obtain ⟨h1, h2⟩ := idxOf_get h
  have hlt : x.idxOf c < x.length := (List.getElem?_eq_some_iff.mp h1).1
  rw [occ_eq, ss_len]
  have e : List.range' 0 (x.length + 1 - 0) = List.range' 0 (x.idxOf c) ++ x.idxOf c :: List.range' (x.idxOf c + 1) (x.length - x.idxOf c) := by
    rw [show x.length + 1 - 0 = x.idxOf c + (1 + (x.length - x.idxOf c)) by omega, ← List.range'_append_1, Nat.zero_add, ← List.range'_append_1]
    rfl
  have g : ∀ i, (i + (ss [c]).length ≤ (ss x).length ∧ Builtin.Str.subAt (ss x) (ss [c]) i = true) ↔ x[i]? = some c := fun i => by
    have := subAt_one (ss x) c i
    simpa using this
  rw [ss_len x] at g
  rw [e, occ_first _ _ _ _ _ ((g _).mpr h1) _ fun i hi z => h2 i (by have := List.mem_range'_1.mp hi; omega) ((g i).mp z)]
end
section
variable {X : Cx} {a b c o : Expr} {fa fb fc fo : M1} {pos : Pos} {es : List Expr} {fs : Env' → St' → R (List D × St')}
theorem few_all {es : List Expr} {cpos : Pos} {env : Env} (h : es.all noStar = true) (hl : es.length < 30) : ((backTo cpos (starEach es env)).all (fun x => !x.1) && (backToKw cpos (keywordEach [] env)).all (fun x => x.1.isSome)
      && decide (es.length + ([] : List Keyword).length + (if ([] : List Keyword).isEmpty then 0 else 1) < 30)) = true := by
  have e : ∀ {es : List Expr}, es.all noStar = true → (backTo cpos (starEach es env)).all (fun x => !x.1) = true := by
    intro es h
    have := star_any (pos := cpos) (env := env) h
    rw [List.all_eq_true]
    intro x hx
    have h2 := List.any_eq_false.mp this x hx
    simpa using h2
  rw [e h]
  simp only [Bool.true_and, List.length_nil, Nat.add_zero, List.isEmpty_nil, if_true]
  rw [Bool.and_eq_true]
  exact ⟨rfl, by simpa using hl⟩
abbrev MHas (K : PySem.W.Frag) (m : Mth) (r : V → List V → Hp → VK → Prop) : Prop := ∀ μ S H x ys d S' v ws, Rel K μ S H → RepV K μ S.length H x v → RepVs K μ S.length H ys ws → mthF m S x ys = .ok (d, S') → ∀ Q, Fin1 K μ S H d S' Q → r v ws H Q
/-- a method of some arguments -/
theorem se_mthN {m : Mth} {T id : String} {name : Str} {r : V → List V → Hp → VK → Prop} {apos cpos : Pos} (pa : PlainAttrs T) (slot : Slot T name id) (hty : typeOf (.builtin id) = pure (.type "method_descriptor")) (hm : MtR X id r)
    (ho : SE X fo o) (ha : SA X fs (a :: es)) (hb : noCall0 o = true) (hl : (apos.endLine == cpos.line) = true) (hn : (a :: es).all noStar = true) (h30 : (a :: es).length < 30)
    (hT : ∀ μ S H x v, Rel X.K μ S H → RepV X.K μ S.length H x v → mOk m S x = true → tyV X.K T v H) (hr : MHas X.K m r) :
    SE X (fun env S => (fo env S).bind fun x => if mOk m x.2 x.1 then (fs env x.2).bind fun y => mthF m y.2 x.1 y.1 else .bad) (.Call (.Attribute o name apos) (a :: es) [] cpos) := by
  obtain ⟨to, h1, h2⟩ := ho
  obtain ⟨ta, h3, h4⟩ := ha
  have hn' := hn
  rw [List.all_cons, Bool.and_eq_true] at hn'
  refine ⟨_, pe_bm pa slot hty hm h1 h3 (attr_base hb) (few_all hn h30) hl (star_cons hn'.1) (star_any hn'.2), fun σ H μ env S d S' rl re hf Q q => ?_⟩
  obtain ⟨⟨x, S1⟩, e1, hf1⟩ := R.bind_eq_ok hf
  dsimp only at hf1
  split at hf1
  · rename_i hk
    obtain ⟨⟨ys, S2⟩, e2, hf2⟩ := R.bind_eq_ok hf1
    refine h2 σ H μ env S _ _ rl re e1 _ fun v H1 μ1 r1 x1 rv => ?_
    refine ⟨hT μ1 S1 H1 x v r1 rv hk, ?_⟩
    refine h4 σ H1 μ1 env S1 _ _ r1 (re.ext x1) e2 _ fun ws H2 μ2 r2 x2 rw' => ?_
    exact hr μ2 S2 H2 x ys d S' v ws r2 (RepV.ext x2 _ _ rv) rw' hf2 Q fun v' H3 μ3 a1 a2 a3 => q v' H3 μ3 a1 ((x1.trans x2).trans a2) a3
  · cases hf1
/-- a method of no arguments -/
theorem se_mth0 {m : Mth} {T id : String} {name : Str} {r : V → List V → Hp → VK → Prop} {apos cpos : Pos} (pa : PlainAttrs T) (slot : Slot T name id) (hty : typeOf (.builtin id) = pure (.type "method_descriptor")) (hm : MtR X id r)
    (ho : SE X fo o) (hb : noCall0 o = true) (hl : (apos.endLine == cpos.line) = true)
    (hT : ∀ μ S H x v, Rel X.K μ S H → RepV X.K μ S.length H x v → mOk m S x = true → tyV X.K T v H) (hr : MHas X.K m r) :
    SE X (fun env S => (fo env S).bind fun x => if mOk m x.2 x.1 then (R.ok ([], x.2)).bind fun y => mthF m y.2 x.1 y.1 else .bad) (.Call (.Attribute o name apos) [] [] cpos) := by
  obtain ⟨to, h1, h2⟩ := ho
  refine ⟨_, pe_bm0 pa slot hty hm h1 (attr_base hb) hl, fun σ H μ env S d S' rl re hf Q q => ?_⟩
  obtain ⟨⟨x, S1⟩, e1, hf1⟩ := R.bind_eq_ok hf
  dsimp only at hf1
  split at hf1
  · rename_i hk
    rw [R.bind_ok] at hf1
    refine h2 σ H μ env S _ _ rl re e1 _ fun v H1 μ1 r1 x1 rv => ?_
    refine ⟨hT μ1 S1 H1 x v r1 rv hk, ?_⟩
    exact hr μ1 S1 H1 x [] d S' v [] r1 rv (by simp only [RepVs]) hf1 Q fun v' H3 μ3 a1 a2 a3 => q v' H3 μ3 a1 (x1.trans a2) a3
  · cases hf1
end
section
variable {K : PySem.W.Frag}
theorem reps0 {μ : Mu} {N : Nat} {H : Hp} {vs : List V} (h : RepVs K μ N H [] vs) : vs = [] := by simpa only [RepVs] using h
theorem ascii_all {x : List Nat} (h : x.all (fun c => decide (c < 128)) = true) : ∀ c ∈ (ss x).cps.toList, c < 128 := fun c hc => by
  have := List.all_eq_true.mp h c (by simpa using hc)
  simpa using this
theorem has_lower : MHas K .lower (fun x xs H Q => ∃ a, x = .str a ∧ xs = [] ∧ a.length ≤ 5592405 ∧ Q (.str (Txt.lower a)) H) := by
  intro μ S H x ys d S' v ws r rv rw' hf Q q
  simp only [mthF] at hf
  split at hf
  · split at hf <;> cases hf
    rename_i x hc
    simp only [RepV] at rv
    refine ⟨_, rv, reps0 rw', by rw [ss_len]; exact hc.1, q _ _ μ r (Ext.refl r) ?_⟩
    simp only [RepV]
    rw [lower_ascii (ascii_all hc.2)]
    simp
  · cases hf
theorem has_upper : MHas K .upper (fun x xs H Q => ∃ a, x = .str a ∧ xs = [] ∧ a.length ≤ 5592405 ∧ Q (.str (Txt.upper a)) H) := by
  intro μ S H x ys d S' v ws r rv rw' hf Q q
  simp only [mthF] at hf
  split at hf
  · split at hf <;> cases hf
    rename_i x hc
    simp only [RepV] at rv
    refine ⟨_, rv, reps0 rw', by rw [ss_len]; exact hc.1, q _ _ μ r (Ext.refl r) ?_⟩
    simp only [RepV]
    rw [upper_ascii (ascii_all hc.2)]
    simp
  · cases hf
theorem sub_ss (x y : List Nat) (i : Nat) : Builtin.Str.subAt (ss x) (ss y) i = decide ((x.drop i).take y.length = y) := by
  rw [StrLaws.subAt_eq, ss_len]
  show ((x.drop i).take y.length == y) = _
  rw [Bool.beq_eq_decide_eq]
theorem has_starts : MHas K .starts (fun x xs H Q => ∃ a b, x = .str a ∧ xs = [.str b] ∧ Q (.bl (Txt.startswith a b)) H) := by
  intro μ S H x ys d S' v ws r rv rw' hf Q q
  simp only [mthF] at hf
  split at hf
  · cases hf
    rename_i x y
    obtain ⟨w, rfl, rw1⟩ := reps1 rw'
    simp only [RepV] at rv rw1
    subst rw1
    refine ⟨_, _, rv, rfl, q _ _ μ r (Ext.refl r) ?_⟩
    simp only [RepV]
    congr 1
    unfold Txt.startswith
    rw [sub_ss, ss_len, ss_len, List.drop_zero, Nat.zero_add]
    by_cases h : x.take y.length = y
    · have : y.length ≤ x.length := by rw [← h, List.length_take]; omega
      simp [h, this]
    · simp [h]
  · cases hf
theorem has_startsAt : MHas K .startsAt (fun x xs H Q => ∃ (a b : Str) (i : Int), x = .str a ∧ xs = [.str b, .int i] ∧ Q (.bl (Txt.startswith3 a b i)) H) := by
  intro μ S H x ys d S' v ws r rv rw' hf Q q
  simp only [mthF] at hf
  split at hf
  · split at hf <;> cases hf
    rename_i x y i hc
    obtain ⟨w, w2, rfl, rw1, rw2⟩ := reps2 rw'
    simp only [RepV] at rv rw1 rw2
    subst rw1 rw2
    refine ⟨_, _, _, rv, rfl, q _ _ μ r (Ext.refl r) ?_⟩
    simp only [RepV]
    congr 1
    unfold Txt.startswith3
    have e : fromIndex (ss x).length i = i.toNat := by
      unfold fromIndex
      rw [if_neg (by omega)]
      omega
    rw [e, sub_ss, ss_len, ss_len]
    by_cases h : (x.drop i.toNat).take y.length = y
    · have h2 := congrArg List.length h
      rw [List.length_take, List.length_drop] at h2
      have : i.toNat + y.length ≤ x.length := by omega
      simp [h, this]
    · simp [h]
  · cases hf
theorem has_ends : MHas K .ends (fun x xs H Q => ∃ a b, x = .str a ∧ xs = [.str b] ∧ Q (.bl (Txt.endswith a b)) H) := by
  intro μ S H x ys d S' v ws r rv rw' hf Q q
  simp only [mthF] at hf
  split at hf
  · cases hf
    rename_i x y
    obtain ⟨w, rfl, rw1⟩ := reps1 rw'
    simp only [RepV] at rv rw1
    subst rw1
    refine ⟨_, _, rv, rfl, q _ _ μ r (Ext.refl r) ?_⟩
    simp only [RepV]
    congr 1
    unfold Txt.endswith
    rw [sub_ss, ss_len, ss_len, Nat.zero_add]
    by_cases h : y.length ≤ x.length
    · have : (x.drop (x.length - y.length)).take y.length = x.drop (x.length - y.length) := by
        rw [List.take_of_length_le]
        rw [List.length_drop]; omega
      simp [h, this]
    · simp [h]
  · cases hf
theorem has_sindex : MHas K .sindex (fun x xs H Q => ∃ a b i rest, x = .str a ∧ xs = [.str b] ∧ Builtin.Str.occurrences a b 0 a.length 1 = i :: rest ∧ Q (.int (i : Nat)) H) := by
  intro μ S H x ys d S' v ws r rv rw' hf Q q
  simp only [mthF] at hf
  split at hf
  · split at hf <;> cases hf
    rename_i x c hc
    obtain ⟨w, rfl, rw1⟩ := reps1 rw'
    simp only [RepV] at rv rw1
    subst rw1
    exact ⟨_, _, _, [], rv, rfl, occ_one hc, q _ _ μ r (Ext.refl r) (by simp only [RepV])⟩
  · cases hf
/-- a thing of the store written by a method -/
theorem fin_write {μ : Mu} {S : St'} {H : Hp} {n : Nat} {d : D} {v : V} {o : O} {ho : HO} {Q : VK} (r : Rel K μ S H) (hn : n < S.length) (nf : ∀ od u, H (μ n) ≠ some (.frz od u)) (hR : RepO K μ S.length H o ho) (q : Fin1 K μ S H d (S.set n o) Q)
    (rv : RepV K μ S.length H d v) : Q v (upd H (μ n) ho) := by
  have xw := Ext.write (o := ho) r hn nf
  refine q _ _ μ (Rel.write r hn nf hR) ?_ ?_
  · rw [List.length_set]; exact xw
  · rw [List.length_set]; exact RepV.ext xw _ _ rv
theorem own_lst {μ : Mu} {S : St'} {H : Hp} {n : Nat} {xs : List D} {v : V} (r : Rel K μ S H) (h : RepV K μ S.length H (.loc n) v) (hx : S[n]? = some (.lst xs)) :
    ∃ vs, n < S.length ∧ v = .ref (μ n) ∧ H (μ n) = some (.lst vs) ∧ RepVs K μ S.length H xs vs ∧ ∀ od u, H (μ n) ≠ some (.frz od u) := by
  simp only [RepV] at h
  obtain ⟨hn, rfl⟩ := h
  obtain ⟨ho, e1, q1⟩ := r.obj n _ hx
  simp only [RepO] at q1
  obtain ⟨vs, rfl, h1⟩ := q1
  exact ⟨vs, hn, rfl, e1, h1, fun od u z => by rw [e1] at z; cases z⟩
theorem has_pop0 : MHas K .pop0 rPop := by
  intro μ S H x ys d S' v ws r rv rw' hf Q q
  simp only [mthF] at hf
  split at hf
  · split at hf
    · rename_i n xs hx
      split at hf <;> cases hf
      rename_i hd
      obtain ⟨vs, hn, rfl, e1, h1, nf⟩ := own_lst r rv hx
      rw [List.getLast?_eq_getElem?] at hd
      obtain ⟨u, hu, ru⟩ := h1.get hd
      refine ⟨_, vs, u, rfl, reps0 rw', e1, by rw [← h1.length]; exact hu, fin_write r hn nf ?_ q ru⟩
      simp only [RepO]
      refine ⟨_, rfl, ?_⟩
      rw [List.dropLast_eq_take, List.dropLast_eq_take, h1.length]
      exact h1.take _
    · cases hf
  · cases hf
theorem repVs_erase : ∀ {ds : List D} {vs : List V} (i : Nat) {μ : Mu} {N : Nat} {H : Hp}, RepVs K μ N H ds vs → RepVs K μ N H (ds.eraseIdx i) (vs.eraseIdx i) := fun {ds vs} i {μ N H} h => by
  rw [List.eraseIdx_eq_take_drop_succ, List.eraseIdx_eq_take_drop_succ]
  exact (h.take i).append (h.drop (i + 1))
theorem has_popAt : MHas K .popAt rPopAt := by
  intro μ S H x ys d S' v ws r rv rw' hf Q q
  simp only [mthF] at hf
  split at hf
  · split at hf
    · rename_i n i _ xs hx
      split at hf
      · rename_i hc
        split at hf <;> cases hf
        rename_i hd
        obtain ⟨vs, hn, rfl, e1, h1, nf⟩ := own_lst r rv hx
        obtain ⟨w, rfl, rw1⟩ := reps1 rw'
        simp only [RepV] at rw1
        subst rw1
        obtain ⟨u, hu, ru⟩ := h1.get hd
        have hlt : i.toNat < vs.length := (List.getElem?_eq_some_iff.mp hu).1
        refine ⟨_, vs, i, i.toNat, u, rfl, rfl, e1, by omega, by omega, seqIndex_of hc.1 (by omega), hu, fin_write r hn nf ?_ q ru⟩
        simp only [RepO]
        exact ⟨_, rfl, repVs_erase _ h1⟩
      · cases hf
    · cases hf
  · cases hf
theorem has_insert : MHas K .insert (fun x vs H Q => ∃ (l : Addr) (xs : List V) (i : Int) (y : V), x = .ref l ∧ vs = [.int i, y] ∧ H l = some (.lst xs) ∧ xs.length < sizeLine ∧ 0 ≤ i ∧ i < 2 ^ 63 ∧ Q .non (upd H l (.lst (xs.take i.toNat ++ [y] ++ xs.drop i.toNat)))) := by
  intro μ S H x ys d S' v ws r rv rw' hf Q q
  simp only [mthF] at hf
  split at hf
  · split at hf
    · rename_i n i d0 _ xs hx
      split at hf <;> cases hf
      rename_i hc
      obtain ⟨vs, hn, rfl, e1, h1, nf⟩ := own_lst r rv hx
      obtain ⟨w, w2, rfl, rw1, rw2⟩ := reps2 rw'
      simp only [RepV] at rw1
      subst rw1
      refine ⟨_, vs, i, w2, rfl, rfl, e1, by rw [← h1.length, sizeLine_eq]; exact hc.1, hc.2.1, by omega, fin_write r hn nf ?_ q (by simp only [RepV])⟩
      simp only [RepO]
      exact ⟨_, rfl, ((h1.take _).append (by simp only [RepVs]; exact ⟨w2, [], rfl, rw2, rfl⟩)).append (h1.drop _)⟩
    · cases hf
  · cases hf
theorem has_lindex : MHas K .lindex (rIndex K) := by
  intro μ S H x ys d S' v ws r rv rw' hf Q q
  simp only [mthF] at hf
  split at hf
  · rename_i o ds' xs d0 he
    split at hf
    · rename_i hfl
      split at hf <;> cases hf
      rename_i j hj
      rw [Bool.and_eq_true] at hfl
      obtain ⟨w, rfl, rw1⟩ := reps1 rw'
      obtain ⟨a, vs, rfl, h1, h2⟩ := (rd_lstOf r rv he).sq
      obtain ⟨e3, e4⟩ := flats_of h2 hfl.2
      obtain ⟨e1, e2⟩ := flat_of rw1 hfl.1
      rw [← e3, ← e1] at hj
      obtain ⟨hlt, hp, hno⟩ := List.findIdx?_eq_some_iff_getElem.mp hj
      · refine ⟨a, vs, w, j, vs[j], rfl, rfl, h1, e2, e4, List.getElem?_eq_getElem hlt, hp, fun m z hm hz => ?_, q _ _ μ r (Ext.refl r) (by simp only [RepV])⟩
        have := hno m hm
        rw [List.getElem?_eq_getElem (by omega)] at hz
        cases hz
        simpa using this
    · cases hf
  · cases hf
end
section
variable {X : Cx} {a b c o : Expr} {fa fb fc fo : M1} {pos : Pos} {es : List Expr} {fs : Env' → St' → R (List D × St')}
theorem m1_of {m : Str} {apos cpos : Pos} (hb : noCall0 o = true) (hl : (apos.endLine == cpos.line) = true) (hn : noStar a = true) : L2.M1 X o m apos a cpos where
  base := attr_base hb
  few := few1 hn
  line := hl
  trees := by rw [star_cons hn]; rfl
theorem m2_of {m : Str} {apos cpos : Pos} (hb : noCall0 o = true) (hl : (apos.endLine == cpos.line) = true) (hn : noStar a = true) (hn2 : noStar b = true) : L2.M2 X o m apos a b cpos where
  base := attr_base hb
  few := by rw [star_cons hn, star_cons hn2]; rfl
  line := hl
  trees := by rw [star_cons hn, star_cons hn2]; rfl
theorem get1F {S : St'} {x y : D} {r : D × St'} (h : mthF .get1 S x [y] = .ok r) : ∃ kvs, dctOf S x = some kvs ∧ isKey y = true ∧ r = ((dget kvs y).getD .non, S) := by
  simp only [mthF] at h
  split at h
  · rename_i kvs k e1 e2
    cases e2
    split at h <;> cases h
    rename_i hk
    exact ⟨kvs, e1, hk, rfl⟩
  · cases h
theorem get2F {S : St'} {x y z : D} {r : D × St'} (h : mthF .get2 S x [y, z] = .ok r) : ∃ kvs, dctOf S x = some kvs ∧ isKey y = true ∧ r = ((dget kvs y).getD z, S) := by
  simp only [mthF] at h
  split at h
  · rename_i kvs k d e1 e2
    cases e2
    split at h <;> cases h
    rename_i hk
    exact ⟨kvs, e1, hk, rfl⟩
  · cases h
/-- d.get(k) -/
theorem se_get1 {apos cpos : Pos} (hu : X.A.units + 1 < cLine) (ho : SE X fo o) (ha : SE X fa a) (hb : noCall0 o = true) (hl : (apos.endLine == cpos.line) = true) (hn : noStar a = true) :
    SE X (fun env S => (fo env S).bind fun x => if mOk .get1 x.2 x.1 then ((fa env x.2).bind fun x => (R.ok ([], x.2)).bind fun y => .ok (x.1 :: y.1, y.2)).bind fun y => mthF .get1 y.2 x.1 y.1 else .bad) (.Call (.Attribute o "get" apos) [a] [] cpos) := by
  obtain ⟨to, h1, h2⟩ := ho
  obtain ⟨ta, h3, h4⟩ := ha
  refine ⟨_, pe_dget1 hu h1 h3 (m1_of hb hl hn), fun σ H μ env S d S' rl re hf Q q => ?_⟩
  obtain ⟨⟨x, S1⟩, e1, hf1⟩ := R.bind_eq_ok hf
  dsimp only at hf1
  split at hf1
  · rename_i hk
    obtain ⟨⟨ys, S2⟩, e2, hf2⟩ := R.bind_eq_ok hf1
    obtain ⟨⟨y, S3⟩, e3, hf3⟩ := R.bind_eq_ok e2
    cases hf3
    obtain ⟨kvs, k1, k2, k3⟩ := get1F hf2
    cases k3
    refine h2 σ H μ env S _ _ rl re e1 _ fun v H1 μ1 r1 x1 rv => ?_
    have hD : ∃ a, v = .ref a ∧ IsD H1 a := by
      simp only [mOk] at hk
      obtain ⟨kv, hk⟩ := Option.isSome_iff_exists.mp hk
      obtain ⟨p, es, rfl, g1, _⟩ := rd_dctOf r1 rv hk
      exact ⟨p, rfl, .inl ⟨es, g1⟩⟩
    obtain ⟨p, rfl, hp⟩ := hD
    refine ⟨p, rfl, hp, ?_⟩
    refine h4 σ H1 μ1 env S1 _ _ r1 (re.ext x1) e3 _ fun w H2 μ2 r2 x2 rw' => ?_
    obtain ⟨p', ov, ep, g1, _, g3, _⟩ := dget_opt r2 (RepV.ext x2 _ _ rv) rw' k1 k2
    cases ep
    refine ⟨ov, g1, q _ H2 μ2 r2 (x1.trans x2) ?_⟩
    cases e : dget kvs y with
    | none =>
      have : ov = none := by
        cases ov with
        | none => rfl
        | some u => rename_i g2; rw [e] at g2; cases g2
      rw [this]
      simp only [Option.getD_none, RepV]
    | some d0 =>
      obtain ⟨u, rfl, ru⟩ := g3 d0 e
      exact ru
  · cases hf1
/-- d.get(k, x) -/
theorem se_get2 {apos cpos : Pos} (hu : X.A.units + 1 < cLine) (ho : SE X fo o) (ha : SE X fa a) (hb' : SE X fb b) (hb : noCall0 o = true) (hl : (apos.endLine == cpos.line) = true) (hn : noStar a = true) (hn2 : noStar b = true) :
    SE X (fun env S => (fo env S).bind fun x => if mOk .get2 x.2 x.1 then ((fa env x.2).bind fun x => ((fb env x.2).bind fun x => (R.ok ([], x.2)).bind fun y => .ok (x.1 :: y.1, y.2)).bind fun y => .ok (x.1 :: y.1, y.2)).bind fun y => mthF .get2 y.2 x.1 y.1 else .bad) (.Call (.Attribute o "get" apos) [a, b] [] cpos) := by
  obtain ⟨to, h1, h2⟩ := ho
  obtain ⟨ta, h3, h4⟩ := ha
  obtain ⟨tb, h5, h6⟩ := hb'
  refine ⟨_, pe_dget2 hu h1 h3 h5 (m2_of hb hl hn hn2), fun σ H μ env S d S' rl re hf Q q => ?_⟩
  obtain ⟨⟨x, S1⟩, e1, hf1⟩ := R.bind_eq_ok hf
  dsimp only at hf1
  split at hf1
  · rename_i hk
    obtain ⟨⟨ys, S2⟩, e2, hf2⟩ := R.bind_eq_ok hf1
    obtain ⟨⟨y, S3⟩, e3, hf3⟩ := R.bind_eq_ok e2
    obtain ⟨⟨zs, S4⟩, e4, hf4⟩ := R.bind_eq_ok hf3
    obtain ⟨⟨z, S5⟩, e5, hf5⟩ := R.bind_eq_ok e4
    cases hf5
    cases hf4
    obtain ⟨kvs, k1, k2, k3⟩ := get2F hf2
    cases k3
    refine h2 σ H μ env S _ _ rl re e1 _ fun v H1 μ1 r1 x1 rv => ?_
    have hD : ∃ a, v = .ref a ∧ IsD H1 a := by
      simp only [mOk] at hk
      obtain ⟨kv, hk⟩ := Option.isSome_iff_exists.mp hk
      obtain ⟨p, es, rfl, g1, _⟩ := rd_dctOf r1 rv hk
      exact ⟨p, rfl, .inl ⟨es, g1⟩⟩
    obtain ⟨p, rfl, hp⟩ := hD
    refine ⟨p, rfl, hp, ?_⟩
    refine h4 σ H1 μ1 env S1 _ _ r1 (re.ext x1) e3 _ fun w H2 μ2 r2 x2 rw' => ?_
    refine h6 σ H2 μ2 env S3 _ _ r2 ((re.ext x1).ext x2) e5 _ fun u H3 μ3 r3 x3 ru => ?_
    obtain ⟨p', ov, ep, g1, g2, g3, _⟩ := dget_opt r3 (RepV.ext (x2.trans x3) _ _ rv) (RepV.ext x3 _ _ rw') k1 k2
    cases ep
    refine ⟨ov, g1, q _ H3 μ3 r3 ((x1.trans x2).trans x3) ?_⟩
    cases e : dget kvs y with
    | none =>
      have : ov = none := by
        cases ov with
        | none => rfl
        | some u => rw [e] at g2; cases g2
      rw [this]
      exact ru
    | some d0 =>
      obtain ⟨u, rfl, ru⟩ := g3 d0 e
      exact ru
  · cases hf1
/-- d.pop(k, x) -/
theorem se_dpop2 {apos cpos : Pos} (ho : SE X fo o) (ha : SE X fa a) (hb' : SE X fb b) (hb : noCall0 o = true) (hl : (apos.endLine == cpos.line) = true) (hn : noStar a = true) (hn2 : noStar b = true) :
    SE X (fun env S => (fo env S).bind fun x => if mOk .dpop2 x.2 x.1 then ((fa env x.2).bind fun x => ((fb env x.2).bind fun x => (R.ok ([], x.2)).bind fun y => .ok (x.1 :: y.1, y.2)).bind fun y => .ok (x.1 :: y.1, y.2)).bind fun y => mthF .dpop2 y.2 x.1 y.1 else .bad) (.Call (.Attribute o "pop" apos) [a, b] [] cpos) := by
  obtain ⟨to, h1, h2⟩ := ho
  obtain ⟨ta, h3, h4⟩ := ha
  obtain ⟨tb, h5, h6⟩ := hb'
  refine ⟨_, pe_dpop2 h1 h3 h5 (m2_of hb hl hn hn2), fun σ H μ env S d S' rl re hf Q q => ?_⟩
  obtain ⟨⟨x, S1⟩, e1, hf1⟩ := R.bind_eq_ok hf
  dsimp only at hf1
  split at hf1
  · rename_i hk
    obtain ⟨⟨ys, S2⟩, e2, hf2⟩ := R.bind_eq_ok hf1
    obtain ⟨⟨y, S3⟩, e3, hf3⟩ := R.bind_eq_ok e2
    obtain ⟨⟨zs, S4⟩, e4, hf4⟩ := R.bind_eq_ok hf3
    obtain ⟨⟨z, S5⟩, e5, hf5⟩ := R.bind_eq_ok e4
    cases hf5
    cases hf4
    refine h2 σ H μ env S _ _ rl re e1 _ fun v H1 μ1 r1 x1 rv => ?_
    have hD : ∃ a, v = .ref a ∧ IsD H1 a := by
      simp only [mOk] at hk
      obtain ⟨kv, hk⟩ := Option.isSome_iff_exists.mp hk
      obtain ⟨p, es, rfl, g1, _⟩ := rd_dctOf r1 rv hk
      exact ⟨p, rfl, .inl ⟨es, g1⟩⟩
    obtain ⟨p, rfl, hp⟩ := hD
    refine ⟨p, rfl, hp, ?_⟩
    refine h4 σ H1 μ1 env S1 _ _ r1 (re.ext x1) e3 _ fun w H2 μ2 r2 x2 rw' => ?_
    refine h6 σ H2 μ2 env S3 _ _ r2 ((re.ext x1).ext x2) e5 _ fun u H3 μ3 r3 x3 ru => ?_
    have rv3 := RepV.ext (x2.trans x3) _ _ rv
    have rw3 := RepV.ext x3 _ _ rw'
    simp only [mthF] at hf2
    split at hf2
    · rename_i n y' z' e6
      cases e6
      split at hf2
      · rename_i kvs hS
        have hown : ownDct S5 (.loc n) = some kvs := by simp only [ownDct, hS]
        obtain ⟨n', es, en, hn3, _, ev, e8, g2⟩ := own_dct r3 rv3 hown
        cases en
        cases ev
        split at hf2
        · rename_i hkey
          obtain ⟨k, k1, rfl⟩ := key_of rw3 hkey
          have g := dget_rep k1 g2
          have nf : ∀ od u, H3 (μ3 n) ≠ some (.frz od u) := fun od u z => by rw [e8] at z; cases z
          have x13 := (x1.trans x2).trans x3
          refine ⟨es, k, e8, rfl, fun v0 hv0 => ?_, fun hv0 => ?_⟩
          · split at hf2 <;> cases hf2
            · rename_i hd
              obtain ⟨v1, g5, g6⟩ := g.1 _ hd
              rw [hv0] at g5
              cases g5
              refine fin_write (o := .dct (ddrop kvs y)) r3 hn3 nf ?_ (fun v' H4 μ4 a1 a2 a3 => q v' H4 μ4 a1 (x13.trans a2) a3) g6
              simp only [RepO]
              exact ⟨_, rfl, ddrop_rep k1 g2⟩
            · rw [g.2 ‹dget kvs y = none›] at hv0; cases hv0
          · split at hf2 <;> cases hf2
            · rename_i hd
              obtain ⟨v1, g5, g6⟩ := g.1 _ hd
              rw [hv0] at g5; cases g5
            · exact q _ H3 μ3 r3 x13 ru
        · cases hf2
      · cases hf2
    · cases hf2
  · cases hf1
end
end TK

/-! TKy: t[::-1] of tuples. -/
namespace HT
open PySem PySem.Spec PyProof.Rows
section
variable {prog : Program} {w : World} {A : Around} {E : Value → Shared → Prop} {s : Shared}
theorem adjust_rev (n : Nat) : Builtin.Slice.sliceAdjust none none (-1) (n : Int) = ((n : Int) - 1, -1) := by
  have h1 : ((-1 : Int) < 0) := by omega
  unfold Builtin.Slice.sliceAdjust
  simp only [h1, if_true]
theorem places_rev (n : Nat) : Builtin.Slice.slicePlaces ((n : Int) - 1) (-1) (-1) = n := by
  unfold Builtin.Slice.slicePlaces
  have h1 : ¬ ((-1 : Int) > 0) := by omega
  simp only [h1, if_false]
  split
  · rw [show (- -1 : Int) = 1 by decide, Int.ediv_one]; omega
  · omega
theorem sliceApplied_rev {sl : Addr} {vl vu vs : Value} {n : Nat} {Q : Int × Int × Nat → Shared → Prop} (hs : s.heap.IsSliceOf sl vl vu vs) (pl : IsPart vl none) (pu : IsPart vu none) (ps : IsPart vs (some (-1)))
    (h : Q ((n : Int) - 1, -1, n) s) : wpAny (model prog w) A (Builtin.Slice.sliceApplied (.ref sl) (pure (n : Int))) Q E s := by
  obtain ⟨os, hos, hcs, hds⟩ := id hs
  unfold Builtin.Slice.sliceApplied Builtin.Slice.sliceFields
  refine wpAny_bind (wpAny_bind (wpAny_field hos hds (x := vl) rfl (wpAny_bind (wpAny_field hos hds (x := vu) rfl (wpAny_bind (wpAny_field hos hds (x := vs) rfl (wpAny_pure ?_)))))))
  refine wpAny_bind (slicePart_ ps ?_)
  show wpAny _ _ (if ((-1 : Int) == 0) = true then _ else _) _ _ s
  rw [if_neg (by decide)]
  refine wpAny_bind (slicePart_ pl (wpAny_bind (slicePart_ pu (wpAny_bind (wpAny_pure ?_)))))
  show wpAny _ _ (match Builtin.Slice.sliceAdjust none none (-1) (n : Int) with | (lo, hi) => pure (lo, (-1 : Int), Builtin.Slice.slicePlaces lo hi (-1))) _ _ s
  rw [adjust_rev n]
  show wpAny _ _ (pure ((n : Int) - 1, (-1 : Int), Builtin.Slice.slicePlaces ((n : Int) - 1) (-1) (-1))) _ _ s
  rw [places_rev]
  exact wpAny_pure h
theorem pick_rev (xs : Array Value) : ((List.range xs.size).filterMap fun (m : Nat) => xs[((xs.size : Int) - 1 + (m : Int) * -1).toNat]?).toArray = xs.toList.reverse.toArray := by
  congr 1
  have e : (List.range xs.size).filterMap (fun (m : Nat) => xs[((xs.size : Int) - 1 + (m : Int) * -1).toNat]?) = ((List.range xs.size).map fun k => xs.size - 1 - k).filterMap (xs[·]?) := by
    rw [List.filterMap_map]
    congr 1
    funext m
    show xs[((xs.size : Int) - 1 + (m : Int) * -1).toNat]? = xs[xs.size - 1 - m]?
    congr 1
    omega
  rw [e, PySem.W.krv_range, List.filterMap_reverse, PySem.W.krv_all]
theorem getItem_tuple_rev {t sl : Addr} {items : Array Value} {vl vu vs : Value} {Q : Value → Shared → Prop} (ht : IsTup s.heap t items) (hs : s.heap.IsSliceOf sl vl vu vs) (pl : IsPart vl none) (pu : IsPart vu none) (ps : IsPart vs (some (-1)))
    (h : Q (.ref s.heap.objs.size) { s with heap := s.heap.push { cls := .type "tuple", data := .seq items.toList.reverse.toArray } })
    (hsz : items.size ≤ sizeLine) : wpAny (model prog w) A (getItem (.ref t) (.ref sl)) Q E s := by
  have htake : sizeOk (.seq items.toList.reverse.toArray) := by
    show items.toList.reverse.toArray.size ≤ sizeLine
    rw [List.size_toArray, List.length_reverse, Array.length_toList]
    exact hsz
  obtain ⟨os, hos, hcs, hds⟩ := id hs
  have hTs : s.TypeIs (.ref sl) "slice" := ⟨os, hos, hcs⟩
  unfold getItem
  try with_reducible refine wpAny_holding ?_
  first | refine wpAny_bind (wpAny_pure ?_) | skip
  refine wpAny_bind (wpAny_sequenceKey ht.typeIs (by decide) ?_)
  refine wpAny_bind (wpAny_callSpecial?_slot (name := Str.ofString "__getitem__") ht.typeIs PyProof.Rows.slot_tuple_getitem
    (wpAny_call_entry PyProof.Rows.slot_tuple_getitem ht.typeIs entry_tuple_getitem ?_ (args_tuple_getitem _ _)))
  show wpAny _ _ (Builtin.Tuple.tupleItemsOf (.ref t) >>= _) _ _ s
  refine wpAny_bind (tupleItemsOf_ ht ?_)
  refine wpAny_bind (wpAny_typeOf hTs ?_)
  rw [if_pos (by decide)]
  refine wpAny_bind (sliceApplied_rev hs pl pu ps ?_)
  have hno : ¬ ((((items.size : Int) - 1) == 0 && (-1 : Int) == 1 && items.size == items.size) = true) := by
    intro q
    rw [Bool.and_eq_true, Bool.and_eq_true] at q
    have q1 : (-1 : Int) = 1 := eq_of_beq q.1.2
    omega
  show wpAny _ _ (if (((items.size : Int) - 1) == 0 && (-1 : Int) == 1 && items.size == items.size) = true then _ else _) _ _ s
  rw [if_neg hno, pick_rev]
  first
    | exact wpAny_bind (m := Builtin.Tuple.tupleExact _) (wpAny_newObj_type (wpAny_pure ⟨_, rfl, wpAny_pure h⟩) htake)
    | exact wpAny_bind (m := Builtin.Tuple.tupleExact _) (wpAny_newObj_type (wpAny_bind (wpAny_pure (wpAny_pure ⟨_, rfl, wpAny_pure h⟩))) htake)
    | exact wpAny_bind (wpAny_bind (m := Builtin.Tuple.tupleExact _) (wpAny_newObj_type (wpAny_pure (wpAny_pure ⟨_, rfl, wpAny_pure h⟩)) htake))
    | exact wpAny_bind (wpAny_bind (m := Builtin.Tuple.tupleExact _) (wpAny_newObj_type (wpAny_pure ⟨_, rfl, wpAny_pure h⟩) htake))
end
end HT
namespace L2
open PySem PySem.Spec PyProof.Rows
section
variable {X : Cx} {e : Expr} {te : TE} {pos : Pos}
def tRevT (K : PySem.W.Frag) (te : TE) : TE := fun σ H Q => te σ H fun x H1 => ∃ a xs, x = .ref a ∧ ((SqL K H1 a xs ∧ ∀ p, H1 p = none → Q (.ref p) (upd H1 p (.lst xs.reverse))) ∨ (SqT K H1 a xs ∧ ∀ p, H1 p = none → Q (.ref p) (upd H1 p (.tup xs.reverse))))
theorem pe_revT {k : Nat} {p1 p2 p3 pos : Pos} (he : PE X e te) : PE X (.Subscript e (.Slice none none (some (.UnaryOp .USub (.Constant (.int 1) k p1) p2)) p3) pos) (tRevT X.K te) := by
  refine ⟨fun pins s σ H Q I h => ?_⟩
  refine Subscript_ (thn (he.run pins s σ H _ I h) fun v s1 ⟨x, H1, I1, r1, q1⟩ => ?_)
  obtain ⟨a, xs, ex, hx⟩ := q1
  subst ex
  cases r1
  have hst : PO X (some (.UnaryOp .USub (.Constant (.int 1) k p1) p2)) (tPart (tUn (rU fun i => .int (-i)) (tC (.int 1)))) := po_some (pe_un un_neg pe_int)
  refine wpAny_Slice (thn (po_none.run pins s1 σ H1 (fun o H2 => o = none ∧ H2 = H1) I1 ⟨rfl, rfl⟩) fun vl s2 ⟨l, H2, I2, pl, el, e2⟩ => ?_)
  subst el e2
  refine thn (po_none.run pins s2 σ H2 (fun o H3 => o = none ∧ H3 = H2) I2 ⟨rfl, rfl⟩) fun vu s3 ⟨u, H3, I3, pu, eu, e3⟩ => ?_
  subst eu e3
  refine thn (hst.run pins s3 σ H3 (fun o H4 => o = some (-1) ∧ H4 = H3) I3 ⟨1, rfl, -1, rfl, rfl, rfl⟩) fun vs s4 ⟨o, H4, I4, ps, eo, e4⟩ => ?_
  subst eo e4
  have I5 : Inv X pins σ H4 { s4 with heap := s4.heap.push { cls := .type "slice", data := .fields #[vl, vu, vs] } } := I4.kept (t' := s4.toks) fun b ob q => Heap.get?_push_of_some _ q
  show wpAny (model X.prog X.w) X.A (subscriptTail e (.Slice none none (some (.UnaryOp .USub (.Constant (.int 1) k p1) p2)) p3) (.ref a) (.ref s4.heap.objs.size)) (EP X pins σ Q) X.xe { s4 with heap := s4.heap.push { cls := .type "slice", data := .fields #[vl, vu, vs] } }
  rcases hx with ⟨hx, q⟩ | ⟨hx, q⟩
  · obtain ⟨its, r, ht, hz⟩ := I5.list hx
    have hlen := r.length
    refine tail_any (ops := [.ref a, .ref s4.heap.objs.size]) ht.isList.typeIs (PySem.slot_list_getitem.lookup) ?_ (by with_unfolding_all rfl)
    refine wpAny_getItem_list_slice ht.isList (Heap.IsSliceOf.new _ vl vu vs) pl pu ps (by decide) ?_ (by rw [List.size_toArray]; omega)
    rw [PySem.W.krv_pick]
    refine ⟨.ref _, _, I5.laid (t' := s4.toks) (o := .lst xs.reverse) (fun b ob q => Heap.get?_push_of_some _ q) (Nat.le_refl _) ?_, rfl, q _ (I5.hok.fresh (Nat.le_refl _))⟩
    exact ⟨by rw [List.length_reverse]; exact hz, _, 0, r.reverse, Heap.get?_push_size _ rfl⟩
  · obtain ⟨its, r, ht, hz⟩ := I5.tuple hx
    refine tail_any (ops := [.ref a, .ref s4.heap.objs.size]) ht.typeIs (PyProof.Rows.slot_tuple_getitem.lookup) ?_ (by with_unfolding_all rfl)
    refine HT.getItem_tuple_rev ht (Heap.IsSliceOf.new _ vl vu vs) pl pu ps ?_ (by rw [List.size_toArray, ← r.length]; exact hz)
    refine ⟨.ref _, _, I5.laid (t' := s4.toks) (o := .tup xs.reverse) (fun b ob q => Heap.get?_push_of_some _ q) (Nat.le_refl _) ?_, rfl, q _ (I5.hok.fresh (Nat.le_refl _))⟩
    exact ⟨by rw [List.length_reverse]; exact hz, _, r.reverse, IsTup.new _ _⟩
end
end L2

/-! TKt: reversed slices, displays of dicts, more walks. -/
namespace TK
open PySem PySem.Spec PyProof.Rows L2
theorem RepVs.rev {K : PySem.W.Frag} {μ : Mu} {N : Nat} {H : Hp} : ∀ {ds : List D} {vs : List V}, RepVs K μ N H ds vs → RepVs K μ N H ds.reverse vs.reverse
  | [], vs, h => by
    simp only [RepVs] at h
    subst h; simp only [List.reverse_nil, RepVs]
  | d :: ds, vs, h => by
    simp only [RepVs] at h
    obtain ⟨v, vr, rfl, h2, h3⟩ := h
    rw [List.reverse_cons, List.reverse_cons]
    exact (RepVs.rev h3).append (by simp only [RepVs]; exact ⟨v, [], rfl, h2, rfl⟩)
section
variable {X : Cx} {a b c o e : Expr} {fa fb fc fo : M1} {pos : Pos} {es : List Expr} {fs : Env' → St' → R (List D × St')}
theorem sf_rev {k : Nat} {p1 p2 p3 : Pos} (ha : SE X fa a) : SF X (fun env S => (fa env S).bind fun x => (revF x.2 x.1).bind fun d => .ok (d, x.2)) (.Subscript a (.Slice none none (some (.UnaryOp .USub (.Constant (.int 1) k p1) p2)) p3) pos) := by
  obtain ⟨ta, h1, h2⟩ := ha
  refine ⟨_, pe_revL h1, fun σ H μ env S d S' rl re hf Q q => ?_⟩
  obtain ⟨⟨x, S1⟩, e1, hf1⟩ := R.bind_eq_ok hf
  obtain ⟨d', e2, hf2⟩ := R.bind_eq_ok hf1
  clear hf hf1
  cases hf2
  unfold revF at e2
  split at e2
  · rename_i ds hd
    cases e2
    refine h2 σ H μ env S _ _ rl re e1 _ fun v H' μ' r' x' rv => ?_
    obtain ⟨p, vs, rfl, k1, k2⟩ := (rd_lstOf r' rv hd).sq
    exact ⟨p, vs, rfl, k1, fun l hl => q l _ H' μ' r' x' hl k2.rev⟩
  · split at e2 <;> cases e2
theorem se_revT {k : Nat} {p1 p2 p3 : Pos} (ha : SE X fa a) : SE X (fun env S => (fa env S).bind fun x => (revF x.2 x.1).bind fun d => .ok (d, x.2)) (.Subscript a (.Slice none none (some (.UnaryOp .USub (.Constant (.int 1) k p1) p2)) p3) pos) := by
  obtain ⟨ta, h1, h2⟩ := ha
  refine ⟨_, pe_revT h1, fun σ H μ env S d S' rl re hf Q q => ?_⟩
  obtain ⟨⟨x, S1⟩, e1, hf1⟩ := R.bind_eq_ok hf
  obtain ⟨d', e2, hf2⟩ := R.bind_eq_ok hf1
  clear hf hf1
  cases hf2
  refine h2 σ H μ env S _ _ rl re e1 _ fun v H' μ' r' x' rv => ?_
  unfold revF at e2
  dsimp only at e2
  split at e2
  · rename_i ds hd
    cases e2
    obtain ⟨p, vs, rfl, k1, k2⟩ := (rd_lstOf r' rv hd).sq
    exact ⟨p, vs, rfl, .inl ⟨k1, fun p hp => FinN.of q p _ H' μ' r' x' hp k2.rev⟩⟩
  · split at e2 <;> cases e2
    simp only [RepV] at rv
    obtain ⟨p, vs, rfl, k1, k2⟩ := rv
    exact ⟨p, vs, rfl, .inr ⟨k1.sq, fun p hp => Fin1.tup q r' x' k2.rev p hp⟩⟩
/-! ### displays of dicts -/
theorem sfd_empty : SFD X (fun _ S => .ok (frzD [], S)) (.Dict [] [] pos) := by
  refine ⟨_, pe_dnewK, fun σ H μ env S ks ds S' rl re hf Q q => ?_⟩
  cases hf
  exact fun p hp => q p [] H μ rl (Ext.refl rl) hp rfl (by simp only [List.map_nil, RepVs])
/-- the parts of a display -/
def SP (X : Cx) (p : Pos) (f : Env' → St' → R (List D × St')) (ks : List (Option Expr)) (vs : List Expr) : Prop := ∃ trs, PPs X p ks vs trs ∧ ∀ σ H μ env S ds S', Rel X.K μ S H → REnv X.K μ S.length H env σ → f env S = .ok (ds, S') → ∀ kvs, alterD ds = some kvs → ∀ Q : List (V × V) → Hp → Prop,
  (∀ es H' μ', Rel X.K μ' S' H' → Ext μ S.length H μ' S'.length H' → RepK X.K μ' S'.length H' kvs es → Q (es.map fun kv => (kV kv.1, kv.2)) H') → tPairs trs σ H Q
theorem sp_nil {p : Pos} : SP X p (fun _ S => .ok ([], S)) [] [] := by
  refine ⟨[], pps_nil, fun σ H μ env S ds S' rl re hf kvs hk Q q => ?_⟩
  cases hf
  cases hk
  exact q [] H μ rl (Ext.refl rl) (by simp only [RepK])
theorem sp_cons {p : Pos} {ks : List (Option Expr)} {vs : List Expr} (ha : SE X fa a) (hb : SE X fb b) (hr : SP X p fs ks vs) :
    SP X p (fun env S => (fa env S).bind fun x => ((fb env x.2).bind fun x => (fs env x.2).bind fun y => .ok (x.1 :: y.1, y.2)).bind fun y => .ok (x.1 :: y.1, y.2)) (some a :: ks) (b :: vs) := by
  obtain ⟨ta, h1, h2⟩ := ha
  obtain ⟨tb, h3, h4⟩ := hb
  obtain ⟨trs, h5, h6⟩ := hr
  refine ⟨_, pps_cons h1 h3 h5, fun σ H μ env S ds S' rl re hf kvs hk Q q => ?_⟩
  obtain ⟨⟨x, S1⟩, e1, hf1⟩ := R.bind_eq_ok hf
  obtain ⟨⟨ys, S2⟩, e2, hf2⟩ := R.bind_eq_ok hf1
  obtain ⟨⟨y, S3⟩, e3, hf3⟩ := R.bind_eq_ok e2
  obtain ⟨⟨zs, S4⟩, e4, hf4⟩ := R.bind_eq_ok hf3
  cases hf4
  cases hf2
  have hk' : (if isKey x = true then (alterD zs).map fun q => (x, y) :: q else none) = some kvs := hk
  split at hk'
  · rename_i hkey
    obtain ⟨r, hr1, rfl⟩ := Option.map_eq_some_iff.mp hk'
    refine h2 σ H μ env S _ _ rl re e1 _ fun v H1 μ1 r1 x1 rv => ?_
    refine h4 σ H1 μ1 env S1 _ _ r1 (re.ext x1) e3 _ fun w H2 μ2 r2 x2 rw' => ?_
    refine h6 σ H2 μ2 env S3 _ _ r2 ((re.ext x1).ext x2) e4 _ hr1 _ fun es H3 μ3 r3 x3 rk => ?_
    obtain ⟨k, k1, rfl⟩ := key_of rv hkey
    refine q ((k, w) :: es) H3 μ3 r3 ((x1.trans x2).trans x3) ?_
    simp only [RepK]
    exact ⟨k, w, es, rfl, k1, RepV.ext x3 _ _ rw', rk⟩
  · cases hk'
theorem RepK.hid' {K : PySem.W.Frag} {μ : Mu} {N : Nat} {H : Hp} {p : Addr} {l : List Addr} {kvs : List (D × D)} {es : List (Key × V)} (hm : p ∈ μ.hid) (hl : ∀ b ∈ l, b ∈ μ.hid) (h : RepK K μ N H kvs es) : RepK K (muShow μ l) N (era H p) kvs es :=
  RepK.show hl _ _ (RepK.hid (fun a h => era_ne h) hm _ _ h)
theorem sfd_disp {ks : List (Option Expr)} {vs : List Expr} (hs : SP X pos fs ks vs) (hall : ks.all (·.isSome) = true) (hl : ks.length = vs.length) (h0 : ks ≠ []) (h15 : ks.length ≤ 15) :
    SFD X (fun env S => (fs env S).bind fun x => match alterD x.1 with
    | some kvs => if kvs.length ≤ 15 then .ok (frzD (dmerge [] kvs), x.2) else .bad
    | none => .bad) (.Dict ks vs pos) := by
  obtain ⟨trs, h1, h2⟩ := hs
  refine ⟨_, pe_disp h1 hall hl h0 h15, fun σ H μ env S ks ds S' rl re hf Q q => ?_⟩
  obtain ⟨⟨xs, S1⟩, e1, hf1⟩ := R.bind_eq_ok hf
  clear hf
  dsimp only at hf1
  split at hf1
  · rename_i kvs hk
    split at hf1 <;> cases hf1
    rename_i hlen
    intro p hp
    have r0 := rl.hide (o := .dK []) hp
    have xw := ExtW.hide (o := .dK []) rl hp
    have re0 : REnv X.K (muHide μ p) S.length (upd H p (.dK [])) env σ := ⟨re.len, fun i d h => let ⟨v, a1, a2⟩ := re.at_ i d h; ⟨v, a1, RepV.hide hp _ _ a2⟩⟩
    refine h2 σ _ (muHide μ p) env S xs _ r0 re0 e1 kvs hk _ fun es H2 μ2 r2 x2 rk => ?_
    have hm0 : p ∈ (muHide μ p).hid := List.mem_cons_self
    have hH2 : H2 p = some (.dK []) := (x2.keepH p hm0).2.trans upd_same
    have hhid : μ2.hid = p :: μ.hid := x2.hid
    have hm : p ∈ μ2.hid := by rw [hhid]; exact List.mem_cons_self
    have hlh : ∀ b ∈ μ.hid, b ∈ μ2.hid := fun b hb => by rw [hhid]; exact List.mem_cons_of_mem _ hb
    have hpn : p ∉ μ.hid := fun z => by have := (rl.hid p z).1; rw [hp] at this; cases this
    have r3 := r2.unhide hm hlh hpn
    have rk3 := RepK.hid' hm hlh rk
    have h5 := dmerge_rep (kvs := []) (es := []) rk3 (by simp only [RepK])
    obtain ⟨h6, h7⟩ := repK_unzip h5
    have xe : Ext μ S.length H (muShow μ2 μ.hid) S'.length (era H2 p) :=
      { le := x2.le, mu := x2.mu
        keep := fun a o h n => by
          rw [era_ne (ne_of_none h hp)]
          exact x2.keep a o (by rw [upd_ne (ne_of_none h hp)]; exact h) (notLoc_hide hp h n)
        new := fun i h1 h2 => by
          have := x2.new i h1 h2
          by_cases e : μ2 i = p
          · show H (μ2 i) = none
            rw [e]; exact hp
          · rw [upd_ne e] at this; exact this
        some := (Ext.refl rl).some
        hid := rfl
        keepH := fun a ha => ⟨(rl.hid a ha).1, by
          have hap : a ≠ p := fun e => hpn (by rw [← e]; exact ha)
          rw [era_ne hap, (x2.keepH a (List.mem_cons_of_mem _ ha)).2, upd_ne hap]⟩
        lock := fun i hi od u h => by
          rw [era_ne (ne_of_none h hp)]
          exact x2.lock i hi od u (by show upd H p _ (μ i) = _; rw [upd_ne (ne_of_none h hp)]; exact h) }
    refine ⟨hH2, es, rfl, by rw [← repK_len rk]; exact hlen, ?_⟩
    have := q p _ (era H2 p) (muShow μ2 μ.hid) r3 xe era_same h6 h7
    have eq : upd (era H2 p) p (HO.dK (mergeK [] es)) = upd H2 p (HO.dK (mergeK [] es)) := by
      funext b
      by_cases e : b = p
      · rw [e, upd_same, upd_same]
      · rw [upd_ne e, upd_ne e, era_ne e]
    rw [eq] at this
    exact this
  · cases hf1
theorem disp_dct : ∀ env S d S', ((fs env S).bind fun x => match alterD x.1 with
    | some kvs => if kvs.length ≤ 15 then R.ok (frzD (dmerge [] kvs), x.2) else .bad
    | none => .bad) = .ok (d, S') → ∃ ks ds, d = .dct ks ds := by
  intro env S d S' hf
  obtain ⟨⟨xs, S1⟩, e1, hf1⟩ := R.bind_eq_ok hf
  dsimp only at hf1
  split at hf1
  · split at hf1 <;> cases hf1
    exact ⟨_, _, rfl⟩
  · cases hf1
/-! ### walks -/
theorem it_rangeC {K : PySem.W.Frag} {μ0 : Mu} {N0 : Nat} {H0 : Hp} (lo : Int) (n : Nat) (g : St' → Prop) : ItOk K μ0 N0 H0 (Itc lo (-1) n) ((List.range n).map fun (i : Nat) => .int (lo - (i : Int))) g where
  go := fun i H μ S r e _ hi => by
    show i < n
    simpa using hi
  yld := fun i H μ S y H' r e _ hi h => by
    obtain ⟨rfl, rfl⟩ := h
    have hi' : i < n := by simpa using hi
    refine ⟨.int (lo - (i : Int)), by simp [hi'], ?_, r, Ext.refl r⟩
    simp only [RepV]
    congr 1
    omega
  stop := fun i H μ S r e _ hi => by
    show n ≤ i
    simpa using hi
theorem reps3 {K : PySem.W.Frag} {μ : Mu} {N : Nat} {H : Hp} {d e f : D} {vs : List V} (h : RepVs K μ N H [d, e, f] vs) : ∃ v w u, vs = [v, w, u] ∧ RepV K μ N H d v ∧ RepV K μ N H e w ∧ RepV K μ N H f u := by
  simp only [RepVs] at h
  obtain ⟨v, vr, rfl, h2, w, wr, rfl, h3, u, ur, rfl, h4, rfl⟩ := h
  exact ⟨v, w, u, rfl, h2, h3, h4⟩
theorem si_range3 {tg : Expr} {p : Pos} (hg : Gl X "range") (hm : X.mg "range" = none) (hs : SA X fs [a, b, c]) (hn : noStar a = true) (hn2 : noStar b = true) (hn3 : noStar c = true) : SI X .range3 fs tg (.Call (.Name "range" p) [a, b, c] [] pos) := by
  obtain ⟨ts, h1, h2⟩ := hs
  refine ⟨_, pi_range3 hg hm h1 (star_cons hn) (by rw [star_cons hn2, star_cons hn3]; rfl), fun σ H μ env S ds S' r rl re hf hi Rq q => ?_⟩
  refine h2 σ H μ env S _ _ rl re hf _ fun vs H1 μ1 r1 x1 rv => ?_
  simp only [itF] at hi
  split at hi <;> first | (cases hi; done) | skip
  rename_i m n s
  split at hi <;> cases hi
  rename_i hb
  obtain ⟨v, w, u, ev, rv1, rv2, rv3⟩ := reps3 rv
  simp only [RepV] at rv1 rv2 rv3
  obtain ⟨⟨⟨b1, b2⟩, b3, b4⟩, rfl⟩ := hb
  subst ev rv1 rv2 rv3
  exact ⟨m, n, -1, _, rfl, RgC.neg b1 b2 b3 b4, q _ H1 μ1 r1 x1 (it_rangeC _ _ _)⟩
theorem it_rev {K : PySem.W.Frag} {μ0 : Mu} {S0 : St'} {H0 : Hp} {d : D} {xs : List D} {v : V} (r0 : Rel K μ0 S0 H0) (h : RepV K μ0 S0.length H0 d v) (e0 : lstOf S0 d = some xs) :
    ∃ a vs, v = .ref a ∧ SqL K H0 a vs ∧ vs.length = xs.length ∧ ItOk K μ0 S0.length H0 (Itv K a xs.length) xs.reverse (srcOk d xs) := by
  obtain ⟨a, ev, vs0, h1, src⟩ := src_list r0 h e0
  obtain ⟨a', vs1, ev', h1', h2'⟩ := (rd_lstOf r0 h e0).sq
  rw [ev] at ev'
  cases ev'
  refine ⟨a, vs1, ev, h1', h2'.length.symm, ⟨fun i H μ S r e g hi => ?_, fun i H μ S y H' r e g hi hy => ?_, fun i H μ S r e g hi => ?_⟩⟩
  · rw [List.length_reverse] at hi
    obtain ⟨ws, k1, k2⟩ := src H μ S r e g
    obtain ⟨w, k3, _⟩ := k2.get (List.getElem?_eq_getElem (l := xs) (i := xs.length - 1 - i) (by omega))
    exact ⟨hi, ws, w, k1, k3⟩
  · rw [List.length_reverse] at hi
    obtain ⟨rfl, hy⟩ := hy
    obtain ⟨ws, k1, k2⟩ := src H' μ S r e g
    obtain ⟨d, k3, k4⟩ := k2.get' (hy ws k1)
    exact ⟨d, by rw [List.getElem?_reverse hi]; exact k3, k4, r, Ext.refl r⟩
  · rw [List.length_reverse] at hi
    exact hi
theorem si_rev {tg : Expr} {p : Pos} (hg : Gl X "reversed") (hm : X.mg "reversed" = none) (hs : SA X fs [a]) (hn : noStar a = true) : SI X .revL fs tg (.Call (.Name "reversed" p) [a] [] pos) := by
  obtain ⟨ts, h1, h2⟩ := hs
  refine ⟨_, pi_reversed hg hm h1 (by rw [star_cons hn]; rfl), fun σ H μ env S ds S' r rl re hf hi Rq q => ?_⟩
  refine h2 σ H μ env S _ _ rl re hf _ fun vs H1 μ1 r1 x1 rv => ?_
  simp only [itF] at hi
  split at hi <;> first | (cases hi; done) | skip
  split at hi <;> cases hi
  rename_i xs he
  obtain ⟨v, ev, rv1⟩ := reps1 rv
  obtain ⟨p', vs', ev', k1, k2, k3⟩ := it_rev r1 rv1 he
  subst ev ev'
  rw [← k2] at k3
  exact ⟨p', vs', rfl, k1, q _ H1 μ1 r1 x1 k3⟩
theorem si_revR1 {tg : Expr} {p p2 pos2 : Pos} (hg : Gl X "reversed") (hm : X.mg "reversed" = none) (hg2 : Gl X "range") (hm2 : X.mg "range" = none) (hs : SA X fs [a]) (h1' : ∃ f, fs = (fun env S => (f env S).bind fun x => (R.ok ([], x.2)).bind fun y => .ok (x.1 :: y.1, y.2)) ∧ SE X f a) (hn : noStar a = true) :
    SI X .revR1 fs tg (.Call (.Name "reversed" p) [.Call (.Name "range" p2) [a] [] pos2] [] pos) := by
  obtain ⟨f, rfl, ta, h1, h2⟩ := h1'
  refine ⟨_, pi_revR hg hm (prg_1 hg2 hm2 h1 (star_cons hn)), fun σ H μ env S ds S' r rl re hf hi Rq q => ?_⟩
  obtain ⟨⟨x, S1⟩, e1, hf1⟩ := R.bind_eq_ok hf
  cases hf1
  refine h2 σ H μ env S _ _ rl re e1 _ fun v H1 μ1 r1 x1 rv => ?_
  simp only [itF] at hi
  split at hi <;> first | (cases hi; done) | skip
  rename_i n hx
  cases hx
  split at hi <;> cases hi
  rename_i hb
  simp only [RepV] at rv
  subst rv
  refine ⟨n, rfl, by decide, by decide, by omega, hb.1, ?_⟩
  have e : (0 : Int) + (((n - 0).toNat : Nat) : Int) - 1 = n - 1 := by omega
  rw [e, show (n - 0).toNat = n.toNat by omega]
  exact q _ H1 μ1 r1 x1 (it_rangeC _ _ _)
/-! ### walks over a dict -/
theorem repK_get {K : PySem.W.Frag} {μ : Mu} {N : Nat} {H : Hp} : ∀ {kvs : List (D × D)} {es : List (Key × V)} {i : Nat} {k : Key} {v : V}, RepK K μ N H kvs es → es[i]? = some (k, v) → ∃ x d, kvs[i]? = some (x, d) ∧ keyD x = some k ∧ RepV K μ N H d v
  | [], es, i, k, v, h, e => by
    simp only [RepK] at h
    subst h
    cases e
  | (y, d) :: r, es, 0, k, v, h, e => by
    simp only [RepK] at h
    obtain ⟨k', v', r', rfl, h2, h3, h4⟩ := h
    cases e
    exact ⟨y, d, rfl, h2, h3⟩
  | (y, d) :: r, es, i + 1, k, v, h, e => by
    simp only [RepK] at h
    obtain ⟨k', v', r', rfl, h2, h3, h4⟩ := h
    exact repK_get (kvs := r) (es := r') h4 e
/-- the iterator of a kind -/
def diTg (k : DIt) (tg : Expr) : Bool := match k, tg with
  | .items, .Tuple _ _ _ => true
  | .items, _ => false
  | _, _ => true
def diIt (k : DIt) (d : Addr) (o : Obj) (es : List (Key × V)) : It := match k with
  | .keys => Itk d o es
  | .vals => Itd d o es
  | .items => Iti d o es
theorem di_len (k : DIt) (kvs : List (D × D)) : (ditF k kvs).length = kvs.length := by
  cases k <;> simp [ditF]
theorem it_dict {K : PySem.W.Frag} {μ0 : Mu} {N0 : Nat} {H0 : Hp} {n : Nat} {kvs : List (D × D)} {es : List (Key × V)} {od : Obj} (k : DIt) (hn : n < N0) (h0 : H0 (μ0 n) = some (.frz od (.dK es))) :
    ItOk K μ0 N0 H0 (diIt k (μ0 n) od es) (ditF k kvs) (isLck n kvs) := by
  have key : ∀ {H μ S}, Rel K μ S H → ExtW μ0 N0 H0 μ S.length H → isLck n kvs S → H (μ0 n) = some (.frz od (.dK es)) ∧ RepK K μ S.length H kvs es := fun {H μ S} r e g => by
    have h1 := e.lock n hn od _ h0
    obtain ⟨ho, e1, q⟩ := r.obj n _ g
    simp only [RepO] at q
    obtain ⟨od', es', rfl, q⟩ := q
    rw [e.mu n hn, h1] at e1
    cases e1
    exact ⟨h1, q⟩
  refine ⟨fun i H μ S r e g hi => ?_, fun i H μ S y H' r e g hi hy => ?_, fun i H μ S r e g hi => ?_⟩
  · obtain ⟨h1, h2⟩ := key r e g
    rw [di_len, repK_len h2] at hi
    cases k <;> exact ⟨h1, hi⟩
  · obtain ⟨h1, h2⟩ := key r e g
    cases k with
    | keys =>
      obtain ⟨rfl, k', v', e1, rfl⟩ := hy
      obtain ⟨x, d, e2, e3, e4⟩ := repK_get h2 e1
      exact ⟨x, by simp [ditF, e2], key_rep e3, r, Ext.refl r⟩
    | vals =>
      obtain ⟨rfl, k', e1⟩ := hy
      obtain ⟨x, d, e2, e3, e4⟩ := repK_get h2 e1
      exact ⟨d, by simp [ditF, e2], e4, r, Ext.refl r⟩
    | items =>
      obtain ⟨T, k', v', e1, rfl, hT, rfl⟩ := hy
      obtain ⟨x, d, e2, e3, e4⟩ := repK_get h2 e1
      have xe := Ext.fresh (o := .tup [kV k', v']) r hT
      refine ⟨.tup [x, d], by simp [ditF, e2], ?_, r.fresh hT, xe⟩
      simp only [RepV]
      refine ⟨T, [kV k', v'], rfl, .inl ⟨.inl upd_same, notLoc_fresh r hT⟩, ?_⟩
      simp only [RepVs]
      exact ⟨_, _, rfl, key_rep e3, _, _, rfl, RepV.ext xe _ _ e4, rfl⟩
  · obtain ⟨h1, h2⟩ := key r e g
    rw [di_len, repK_len h2] at hi
    cases k <;> exact ⟨h1, hi⟩
def diEx (k : DIt) (x : Str) (p ap cp : Pos) : Expr := match k with
  | .keys => .Name x p
  | .vals => .Call (.Attribute (.Name x p) "values" ap) [] [] cp
  | .items => .Call (.Attribute (.Name x p) "items" ap) [] [] cp
theorem pi_dict {k : DIt} {i : Nat} {x : Str} {p ap cp : Pos} {tg : Expr} (hN : X.N[i]? = some x) (hv : Vis X.env.scope x) (hd : (x == ("__debug__" : Str)) = false) (hcd : (x == ("__classdict__" : Str)) = false) (ht : diTg k tg = true) (hl : (ap.endLine == cp.line) = true) :
    PI X tg (diEx k x p ap cp) (fun σ H R => ∃ d o es, σ[i]? = some (some (.ref d)) ∧ H d = some (.frz o (.dK es)) ∧ R (diIt k d o es) H) := by
  have hx : PE X (.Name x p) (tVar i) := pe_var hN hv hd hcd
  cases k with
  | keys =>
    refine ⟨fun pins s σ H R I ⟨d, o, es, h1, h2, h3⟩ => (pi_keys hx).run pins s σ H R I ⟨_, h1, d, o, rfl, .inl ⟨es, h2, h3⟩⟩⟩
  | vals =>
    refine ⟨fun pins s σ H R I ⟨d, o, es, h1, h2, h3⟩ => (pi_values hx (attr_base rfl) hl).run pins s σ H R I ⟨_, h1, d, o, es, rfl, h2, h3⟩⟩
  | items =>
    cases tg with
    | Tuple elts kk tpos => exact ⟨fun pins s σ H R I ⟨d, o, es, h1, h2, h3⟩ => (pi_items hx (attr_base rfl) hl).run pins s σ H R I ⟨_, h1, d, o, es, rfl, h2, h3⟩⟩
    | _ => cases ht
/-- for .. in a dict that is locked -/
theorem ss_forL {tg : Tg} {k : DIt} {i : Nat} {x : Str} {p ap cp : Pos} {target : Expr} {b : List Stmt} {f : MS} (hp : PassesOwn (model X.prog X.w) X.A X.env X.xe) (hc : X.calm = true) (hN : X.N[i]? = some x) (hv : Vis X.env.scope x) (hd : (x == ("__debug__" : Str)) = false) (hcd : (x == ("__classdict__" : Str)) = false)
    (ht : diTg k target = true) (hl : (ap.endLine == cp.line) = true) (hg : SG X tg target) (hb : SSs X f b) :
    SS X (fun env S => (match env[i]? with
      | some (some (.loc n)) => (match S[n]? with
        | some (.lck kvs) => R.ok ((ditF k kvs, isLck n kvs), S)
        | _ => .bad)
      | _ => .bad).bind fun r => forL r.1.2 (turnF tg f) r.1.1 env r.2) (.For target (diEx k x p ap cp) b [] pos) := by
  refine ss_forG hp hc ⟨_, pi_dict hN hv hd hcd ht hl, fun σ H μ env S r S' rl re hf Rq q => ?_⟩ hg hb (by intro y; cases k <;> rfl)
  dsimp only at hf
  split at hf
  · rename_i n he
    split at hf <;> cases hf
    rename_i kvs hS
    obtain ⟨v, hv, rv⟩ := re.at_ i _ he
    simp only [RepV] at rv
    obtain ⟨hn, rfl⟩ := rv
    obtain ⟨ho, e1, q1⟩ := rl.obj n _ hS
    simp only [RepO] at q1
    obtain ⟨od, es, rfl, _⟩ := q1
    exact ⟨μ n, od, es, hv, e1, q _ H μ rl (Ext.refl rl) (it_dict k hn e1)⟩
  · cases hf
theorem ss_forD {tg : Tg} {k : DIt} {i : Nat} {x : Str} {p ap cp : Pos} {target : Expr} {b : List Stmt} {f : MS} (hp : PassesOwn (model X.prog X.w) X.A X.env X.xe) (hc : X.calm = true) (hN : X.N[i]? = some x) (hv : Vis X.env.scope x) (hd : (x == ("__debug__" : Str)) = false) (hcd : (x == ("__classdict__" : Str)) = false)
    (ht : diTg k target = true) (hl : (ap.endLine == cp.line) = true) (hg : SG X tg target) (hb : SSs X f b) :
    SS X (fun env S => (lckF S env[i]?).bind fun p => (forL (isLck p.1 p.2) (turnF tg f) (ditF k p.2) env (S.set p.1 (.lck p.2))).bind fun r => lckE p.1 p.2 r) (.For target (diEx k x p ap cp) b [] pos) := by
  obtain ⟨t, h1, h2⟩ := ss_forL (pos := pos) (p := p) (ap := ap) (cp := cp) hp hc hN hv hd hcd ht hl hg hb
  refine ⟨_, ps_lock h1, fun σ H μ env S fl env' S' r re hf D q => ?_⟩
  obtain ⟨⟨n, kvs⟩, e1, hf1⟩ := R.bind_eq_ok hf
  obtain ⟨⟨fl1, env1, S1⟩, e2, hf2⟩ := R.bind_eq_ok hf1
  clear hf hf1
  unfold lckE at hf2
  split at hf2 <;> cases hf2
  rename_i hlk
  dsimp only at q hlk e2 e1
  unfold lckF at e1
  split at e1
  · rename_i n' he
    split at e1 <;> cases e1
    rename_i hS
    obtain ⟨v, hv', rv⟩ := re.at_ i _ he
    simp only [RepV] at rv
    obtain ⟨hn, rfl⟩ := rv
    obtain ⟨ho, g1, q1⟩ := r.obj n _ hS
    simp only [RepO] at q1
    obtain ⟨es, rfl, q2⟩ := q1
    have nf : ∀ od u, H (μ n) ≠ some (.frz od u) := fun od u z => by rw [g1] at z; cases z
    refine ⟨μ n, .dK es, g1, trivial, fun od => ?_⟩
    have r1 : Rel X.K μ (S.set n (.lck kvs)) (upd H (μ n) (.frz od (.dK es))) := Rel.write r hn nf (by simp only [RepO]; exact ⟨od, es, rfl, q2⟩)
    have x1 : Ext μ S.length H μ (S.set n (.lck kvs)).length (upd H (μ n) (.frz od (.dK es))) := by rw [List.length_set]; exact Ext.write r hn nf
    have hS1 : (S.set n (.lck kvs))[n]? = some (.lck kvs) := List.getElem?_set_self hn
    -- what is known behind the walk
    have fin : ∀ (H' : Hp) (μ' : Mu), Rel X.K μ' S1 H' → Ext μ (S.set n (.lck kvs)).length (upd H (μ n) (.frz od (.dK es))) μ' S1.length H' →
        H' (μ n) = some (.frz od (.dK es)) ∧ Rel X.K μ' (S1.set n (.dct kvs)) (upd H' (μ n) (.dK es)) ∧ Ext μ S.length H μ' (S1.set n (.dct kvs)).length (upd H' (μ n) (.dK es)) ∧ ExtW0 μ' S1.length H' μ' (S1.set n (.dct kvs)).length (upd H' (μ n) (.dK es)) := by
      intro H' μ' r' x'
      have hn' : n < (S.set n (.lck kvs)).length := by rw [List.length_set]; exact hn
      have k1 := x'.lock n hn' od _ upd_same
      have hmu := x'.mu n hn'
      obtain ⟨ho, k2, k3⟩ := r'.obj n _ hlk
      simp only [RepO] at k3
      obtain ⟨od', es', rfl, k4⟩ := k3
      rw [hmu, k1] at k2
      cases k2
      have hn1 : n < S1.length := Nat.lt_of_lt_of_le hn' x'.le
      have w := Rel.write0 (o := .dct kvs) (ho := .dK es) r' hn1 (by simp only [RepO]; exact ⟨es, rfl, k4⟩)
      rw [hmu] at w
      have e0 := ExtW0.write (o := .dK es) r' hn1
      rw [hmu] at e0
      refine ⟨k1, w, ?_, by rw [List.length_set]; exact e0⟩
      have xx := x1.trans x'
      exact
        { le := by rw [List.length_set]; exact xx.le
          mu := xx.mu
          keep := fun a o h nl => by rw [upd_ne (fun e => nl.1 n hn e.symm)]; exact xx.keep a o h nl
          new := fun i a b => xx.new i a (by rw [List.length_set] at b; exact b)
          some := xx.some
          hid := xx.hid
          keepH := fun a ha => ⟨(xx.keepH a ha).1, by rw [upd_ne (fun e => (r.hid a ha).2 n hn e.symm)]; exact (xx.keepH a ha).2⟩
          lock := fun i hi od' u h => by
            rw [upd_ne (fun e => nf od' u (by rw [← e]; exact h))]
            exact xx.lock i hi od' u h }
    refine h2 σ _ μ env (S.set n (.lck kvs)) fl1 env1 S1 r1 (re.ext x1) (by dsimp only; rw [he]; dsimp only; rw [hS1]; exact e2) _ ?_
    have rE : ∀ {H' : Hp} {μ' : Mu} {σ' : Hst}, ExtW0 μ' S1.length H' μ' (S1.set n (.dct kvs)).length (upd H' (μ n) (.dK es)) → REnv X.K μ' S1.length H' env1 σ' → REnv X.K μ' (S1.set n (.dct kvs)).length (upd H' (μ n) (.dK es)) env1 σ' :=
      fun {H' μ' σ'} e0 re' => ⟨re'.len, fun j d h => let ⟨v, a1, a2⟩ := re'.at_ j d h; ⟨v, a1, RepV.ext0 e0 _ _ a2⟩⟩
    cases fl1 with
    | nx => exact fun σ' H' μ' r' x' re' => let ⟨k1, k2, k3, k4⟩ := fin H' μ' r' x'; ⟨k1, q σ' _ μ' k2 k3 (rE k4 re')⟩
    | brk => exact fun σ' H' μ' r' x' re' => let ⟨k1, k2, k3, k4⟩ := fin H' μ' r' x'; ⟨k1, q σ' _ μ' k2 k3 (rE k4 re')⟩
    | cnt => exact fun σ' H' μ' r' x' re' => let ⟨k1, k2, k3, k4⟩ := fin H' μ' r' x'; ⟨k1, q σ' _ μ' k2 k3 (rE k4 re')⟩
    | ret d => exact fun v H' μ' r' x' rv => let ⟨k1, k2, k3, k4⟩ := fin H' μ' r' x'; ⟨k1, q v _ μ' k2 k3 (RepV.ext0 k4 _ _ rv)⟩
  · cases e1
end
end TK

/-! TKz: dicts keyed by tuples. -/
namespace TK
open PySem PySem.Spec PyProof.Rows L2
theorem keysEq_iff : ∀ {xs ys : List D} {a b : List Key}, keysD xs = some a → keysD ys = some b → (keysEq xs ys = true ↔ a = b)
  | [], [], a, b, h1, h2 => by cases h1; cases h2; simp [keysEq]
  | [], y :: ys, a, b, h1, h2 => by
    cases h1
    simp only [keysD] at h2
    obtain ⟨k, e1, e2⟩ := Option.bind_eq_some_iff.mp h2
    obtain ⟨ks, e3, rfl⟩ := Option.map_eq_some_iff.mp e2
    simp [keysEq]
  | x :: xs, [], a, b, h1, h2 => by
    cases h2
    simp only [keysD] at h1
    obtain ⟨k, e1, e2⟩ := Option.bind_eq_some_iff.mp h1
    obtain ⟨ks, e3, rfl⟩ := Option.map_eq_some_iff.mp e2
    simp [keysEq]
  | x :: xs, y :: ys, a, b, h1, h2 => by
    simp only [keysD] at h1 h2
    obtain ⟨k, e1, e2⟩ := Option.bind_eq_some_iff.mp h1
    obtain ⟨ks, e3, rfl⟩ := Option.map_eq_some_iff.mp e2
    obtain ⟨l, f1, f2⟩ := Option.bind_eq_some_iff.mp h2
    obtain ⟨ls, f3, rfl⟩ := Option.map_eq_some_iff.mp f2
    have q1 := keyEq_iff e1 f1
    have q2 := keysEq_iff e3 f3
    simp only [keysEq, Bool.and_eq_true, List.cons.injEq, q1, q2]
theorem keyEqT_iff {x y : D} {a b : List Key} (h1 : keyT x = some a) (h2 : keyT y = some b) : keyEqT x y = true ↔ a = b := by
  cases x with
  | tup xs =>
    cases y with
    | tup ys => exact keysEq_iff h1 h2
    | _ => cases h2
  | _ => cases h1
section
variable {K : PySem.W.Frag}
theorem dgetT_rep {μ : Mu} {N : Nat} {H : Hp} {x : D} {k : List Key} (hk : keyT x = some k) : ∀ {kvs : List (D × D)} {es : List (List Key × V)}, RepKT K μ N H kvs es → (∀ d, dgetT kvs x = some d → ∃ v, valV es k = some v ∧ RepV K μ N H d v) ∧ (dgetT kvs x = none → valV es k = none)
  | [], es, h => by
    simp only [RepKT] at h
    subst h
    exact ⟨(fun d e => by cases e), fun _ => valV_nil⟩
  | (y, d) :: r, es, h => by
    simp only [RepKT] at h
    obtain ⟨k', v, r', rfl, h2, h3, h4⟩ := h
    have ih := dgetT_rep hk h4
    simp only [dgetT]
    by_cases e : keyEqT y x = true
    · rw [if_pos e]
      have e2 := (keyEqT_iff h2 hk).mp e
      rw [valV_pos (p := (k', v)) e2]
      exact ⟨fun d' e' => ⟨v, rfl, by cases e'; exact h3⟩, (fun z => by cases z)⟩
    · rw [if_neg e]
      have e2 : ¬ k' = k := fun z => e ((keyEqT_iff h2 hk).mpr z)
      rw [valV_neg (p := (k', v)) e2]
      exact ih
theorem repKT_app {μ : Mu} {N : Nat} {H : Hp} : ∀ {a : List (D × D)} {es : List (List Key × V)} {b : List (D × D)} {fs : List (List Key × V)}, RepKT K μ N H a es → RepKT K μ N H b fs → RepKT K μ N H (a ++ b) (es ++ fs)
  | [], es, b, fs, h, h' => by
    simp only [RepKT] at h
    subst h; exact h'
  | (y, d) :: r, es, b, fs, h, h' => by
    simp only [RepKT] at h
    obtain ⟨k', v, r', rfl, h2, h3, h4⟩ := h
    simp only [List.cons_append, RepKT]
    exact ⟨k', v, _, rfl, h2, h3, repKT_app h4 h'⟩
theorem repKT_len {μ : Mu} {N : Nat} {H : Hp} : ∀ {a : List (D × D)} {es : List (List Key × V)}, RepKT K μ N H a es → a.length = es.length
  | [], es, h => by
    simp only [RepKT] at h
    subst h; rfl
  | (y, d) :: r, es, h => by
    simp only [RepKT] at h
    obtain ⟨k', v, r', rfl, h2, h3, h4⟩ := h
    rw [List.length_cons, List.length_cons, repKT_len h4]
theorem dputT_rep {μ : Mu} {N : Nat} {H : Hp} {x d : D} {k : List Key} {v : V} {kvs : List (D × D)} {es : List (List Key × V)} (hk : keyT x = some k) (h : RepKT K μ N H kvs es) (hd : RepV K μ N H d v) : RepKT K μ N H (dputT kvs x d) (putK es k v) := by
  have g := dgetT_rep hk h
  have hmap : ∀ {kvs : List (D × D)} {es : List (List Key × V)}, RepKT K μ N H kvs es → RepKT K μ N H (kvs.map (fun p => if keyEqT p.1 x = true then (p.1, d) else p)) (es.map (fun kv => if kv.1 = k then (kv.1, v) else kv)) := by
    intro kvs
    induction kvs with
    | nil => intro es h; simp only [RepKT] at h; subst h; simp only [List.map_nil, RepKT]
    | cons p r ih =>
      intro es h
      obtain ⟨y, d0⟩ := p
      simp only [RepKT] at h
      obtain ⟨k', v', r', rfl, h2, h3, h4⟩ := h
      simp only [List.map_cons]
      by_cases e : keyEqT y x = true
      · have e2 := (keyEqT_iff h2 hk).mp e
        rw [if_pos e, if_pos e2]
        simp only [RepKT]
        exact ⟨k', v, _, rfl, h2, hd, ih h4⟩
      · have e2 : ¬ k' = k := fun z => e ((keyEqT_iff h2 hk).mpr z)
        rw [if_neg e, if_neg e2]
        simp only [RepKT]
        exact ⟨k', v', _, rfl, h2, h3, ih h4⟩
  unfold dputT putK
  rw [valV_any]
  cases e : dgetT kvs x with
  | none =>
    rw [g.2 e]
    simp only [Option.isSome_none, Bool.false_eq_true, if_false]
    exact repKT_app h (by simp only [RepKT]; exact ⟨k, v, [], rfl, hk, hd, rfl⟩)
  | some d' =>
    obtain ⟨v', e1, _⟩ := g.1 d' e
    rw [e1]
    simp only [Option.isSome_some, if_true]
    exact hmap h
end
section
variable {X : Cx} {pos : Pos}
/-- a new dict whose keys are tuples -/
theorem se_newT : SE X (fun _ S => .ok (.loc S.length, S ++ [.dctT []])) (.Dict [] [] pos) := by
  refine ⟨_, pe_dnewT, fun σ H μ env S d S' r re hf Q q => ?_⟩
  cases hf
  intro p hp
  refine q _ _ (muAdd μ S.length p) (Rel.alloc r hp (by simp only [RepO]; exact ⟨[], rfl, by simp only [RepKT]⟩)) ?_ ?_
  · have := Ext.alloc (o := .dT []) r hp
    rw [List.length_append, List.length_singleton]; exact this
  · simp only [RepV]
    refine ⟨by rw [List.length_append, List.length_singleton]; omega, by rw [muAdd_new]⟩
theorem keys_all : ∀ {ks : List D}, ks.all isKey = true → ∃ k, keysD ks = some k
  | [], _ => ⟨[], rfl⟩
  | x :: xs, h => by
    rw [List.all_cons, Bool.and_eq_true] at h
    obtain ⟨k, hk⟩ := keys_all h.2
    cases x with
    | int i => exact ⟨_, by simp only [keysD, keyD, Option.bind, hk, Option.map]; rfl⟩
    | str i => exact ⟨_, by simp only [keysD, keyD, Option.bind, hk, Option.map]; rfl⟩
    | _ => cases h.1
theorem keysD_vals {K : PySem.W.Frag} {μ : Mu} {N : Nat} {H : Hp} : ∀ {xs : List D} {ks : List Key} {vs : List V}, keysD xs = some ks → RepVs K μ N H xs vs → vs = ks.map kV
  | [], ks, vs, h, r => by cases h; simp only [RepVs] at r; exact r
  | x :: xs, ks, vs, h, r => by
    simp only [keysD] at h
    obtain ⟨k, e1, e2⟩ := Option.bind_eq_some_iff.mp h
    obtain ⟨ks, e3, rfl⟩ := Option.map_eq_some_iff.mp e2
    simp only [RepVs] at r
    obtain ⟨v, vr, rfl, r1, r2⟩ := r
    have hk : isKey x = true := by cases x <;> first | rfl | cases e1
    obtain ⟨k', e4, rfl⟩ := key_of r1 hk
    rw [e1] at e4
    cases e4
    rw [List.map_cons, ← keysD_vals e3 r2]
variable {a b o e : Expr} {fa fo fe : M1} {es : List Expr} {fs : Env' → St' → R (List D × St')}
/-- o[k1, k2] = e -/
theorem ss_setT {k : Nat} {p pt : Pos} (hu : X.A.units + 1 < cLine) (ho : SE X fo o) (hi : SA X fs es) (he : SE X fe e) (hn : noComp e = true) :
    SS X (fun env S => (fe env S).bind fun v => (fo env v.2).bind fun x => (fs env x.2).bind fun y => (setTF y.2 x.1 y.1 v.1).bind fun S' => .ok (.nx, env, S')) (.Assign [.Subscript o (.Tuple es k pt) p] e pos) := by
  obtain ⟨te, a1, b1⟩ := he
  obtain ⟨to, a2, b2⟩ := ho
  obtain ⟨ti, a3, b3⟩ := hi
  refine ⟨_, ps_dput hu a2 (pe_tup (pos := pt) (x1 := k) a3) a1 (noComp_ok hn), fun σ H μ env S fl env' S' r re hf D q => ?_⟩
  obtain ⟨⟨d, S1⟩, e1, hf1⟩ := R.bind_eq_ok hf
  obtain ⟨⟨x, S2⟩, e2, hf2⟩ := R.bind_eq_ok hf1
  obtain ⟨⟨y, S3⟩, e3, hf3⟩ := R.bind_eq_ok hf2
  obtain ⟨S4, e4, hf4⟩ := R.bind_eq_ok hf3
  clear hf hf1 hf2 hf3
  cases hf4
  refine b1 σ H μ env S d S1 r re e1 _ fun v H1 μ1 r1 x1 rv => ?_
  refine b2 σ H1 μ1 env S1 x S2 r1 (re.ext x1) e2 _ fun w H2 μ2 r2 x2 rw' => ?_
  refine b3 σ H2 μ2 env S2 y S3 r2 ((re.ext x1).ext x2) e3 _ fun us H3 μ3 r3 x3 ru => ?_
  simp only [setTF] at e4
  split at e4
  rotate_left
  · cases e4
  rename_i n
  split at e4
  rotate_left
  · cases e4
  rename_i kvs hS
  split at e4 <;> cases e4
  rename_i hc
  obtain ⟨hc1, hc2, hc3⟩ := hc
  obtain ⟨k', hk⟩ := keys_all hc1
  have hus := keysD_vals hk ru
  refine ⟨by rw [← ru.length, sizeLine_eq]; exact hc3, fun p hp => ?_⟩
  have x13 := (x1.trans x2).trans x3
  have xf := Ext.fresh (o := .tup us) r3 hp
  have rf := r3.fresh (o := .tup us) hp
  have rw3 := RepV.ext (x3.trans xf) _ _ rw'
  have rv3 := RepV.ext ((x2.trans x3).trans xf) _ _ rv
  simp only [RepV] at rw3
  obtain ⟨hn3, rfl⟩ := rw3
  obtain ⟨ho, g1, q1⟩ := rf.obj n _ hS
  simp only [RepO] at q1
  obtain ⟨es', rfl, q2⟩ := q1
  have hR : RepO X.K μ3 S3.length (upd H3 p (.tup us)) (.dctT (dputT kvs (.tup y) d)) (.dT (putK es' k' v)) := by
    simp only [RepO]
    exact ⟨_, rfl, dputT_rep (x := .tup y) hk q2 rv3⟩
  have hlen : es'.length < sizeLine := by
    rw [← repKT_len q2, sizeLine_eq]; exact hc2
  have nf : ∀ od u, upd H3 p (.tup us) (μ3 n) ≠ some (.frz od u) := fun od u z => by rw [g1] at z; cases z
  have xw := Ext.write (o := .dT (putK es' k' v)) rf hn3 nf
  refine ⟨μ3 n, _, rfl, DPut.t g1 (by rw [upd_same, hus]) hlen, q σ _ μ3 (Rel.write rf hn3 nf hR) ?_ ?_⟩
  · rw [List.length_set]; exact (x13.trans xf).trans xw
  · rw [List.length_set]; exact ((re.ext x13).ext xf).ext xw
theorem repKT_get {K : PySem.W.Frag} {μ : Mu} {N : Nat} {H : Hp} : ∀ {kvs : List (D × D)} {es : List (List Key × V)} {i : Nat} {k : List Key} {v : V}, RepKT K μ N H kvs es → es[i]? = some (k, v) → ∃ x d, kvs[i]? = some (x, d) ∧ keyT x = some k ∧ RepV K μ N H d v
  | [], es, i, k, v, h, e => by
    simp only [RepKT] at h
    subst h
    cases e
  | (y, d) :: r, es, 0, k, v, h, e => by
    simp only [RepKT] at h
    obtain ⟨k', v', r', rfl, h2, h3, h4⟩ := h
    cases e
    exact ⟨y, d, rfl, h2, h3⟩
  | (y, d) :: r, es, i + 1, k, v, h, e => by
    simp only [RepKT] at h
    obtain ⟨k', v', r', rfl, h2, h3, h4⟩ := h
    exact repKT_get (kvs := r) (es := r') h4 e
theorem it_dictT {K : PySem.W.Frag} {μ0 : Mu} {N0 : Nat} {H0 : Hp} {n : Nat} {kvs : List (D × D)} {es : List (List Key × V)} {od : Obj} (hn : n < N0) (h0 : H0 (μ0 n) = some (.frz od (.dT es))) :
    ItOk K μ0 N0 H0 (Itkt (μ0 n) od es) (kvs.map (·.1)) (isLckT n kvs) := by
  have key : ∀ {H μ S}, Rel K μ S H → ExtW μ0 N0 H0 μ S.length H → isLckT n kvs S → H (μ0 n) = some (.frz od (.dT es)) ∧ RepKT K μ S.length H kvs es := fun {H μ S} r e g => by
    have h1 := e.lock n hn od _ h0
    obtain ⟨ho, e1, q⟩ := r.obj n _ g
    simp only [RepO] at q
    obtain ⟨od', es', rfl, q⟩ := q
    rw [e.mu n hn, h1] at e1
    cases e1
    exact ⟨h1, q⟩
  refine ⟨fun i H μ S r e g hi => ?_, fun i H μ S y H' r e g hi hy => ?_, fun i H μ S r e g hi => ?_⟩
  · obtain ⟨h1, h2⟩ := key r e g
    rw [List.length_map, repKT_len h2] at hi
    exact ⟨h1, hi⟩
  · obtain ⟨h1, h2⟩ := key r e g
    obtain ⟨rfl, k', v', b, e1, rfl, hb⟩ := hy
    obtain ⟨x, d, e2, e3, e4⟩ := repKT_get h2 e1
    exact ⟨x, by simp [e2], keyT_rep r e3 hb, r, Ext.refl r⟩
  · obtain ⟨h1, h2⟩ := key r e g
    rw [List.length_map, repKT_len h2] at hi
    exact ⟨h1, hi⟩
theorem pi_dictT {i : Nat} {x : Str} {p : Pos} {tg : Expr} (hN : X.N[i]? = some x) (hv : Vis X.env.scope x) (hd : (x == ("__debug__" : Str)) = false) (hcd : (x == ("__classdict__" : Str)) = false) :
    PI X tg (.Name x p) (fun σ H R => ∃ d o es, σ[i]? = some (some (.ref d)) ∧ H d = some (.frz o (.dT es)) ∧ R (Itkt d o es) H) := by
  have hx : PE X (.Name x p) (tVar i) := pe_var hN hv hd hcd
  exact ⟨fun pins s σ H R I ⟨d, o, es, h1, h2, h3⟩ => (pi_keys hx).run pins s σ H R I ⟨_, h1, d, o, rfl, .inr ⟨es, h2, h3⟩⟩⟩
/-- .. over anything that is walked -/
theorem sc_compG {X : Cx} {F : Env' → St' → R ((List TK.D × (St' → Prop)) × St')} {tg : Tg} {ft : Env' → St' → R (Bool × St')} {fe : M1} {elt target iter : Expr} {ifs : List Expr} {scope : Scope} {own : List (Str × Nat)}
    (hi : SIg X F target iter) (ok : BlkOk X.N X.env.scope scope own)
    (hg : ∀ (s : Shared) (H : Hp) (C : Addr) (cl : List (Str × Addr)) (fp : List Addr), SG (X.blk s H scope (compEnvC scope cl C X.env) fp) tg target)
    (ht : ∀ (s : Shared) (H : Hp) (C : Addr) (cl : List (Str × Addr)) (fp : List Addr), STs (X.blk s H scope (compEnvC scope cl C X.env) fp) ft ifs)
    (he : ∀ (s : Shared) (H : Hp) (C : Addr) (cl : List (Str × Addr)) (fp : List Addr), SE (X.blk s H scope (compEnvC scope cl C X.env) fp) fe elt)
    (hs : ∀ x, foldedSetIterable iter X.env x = pure x) (hw : ∀ i ∈ tgS tg, i ∈ own.map (·.2)) :
    SCp X (fun env S => (F env S).bind fun z => if z.1.1.length ≤ lim then
      (compL z.1.2 (compF tg (own.map (·.2)) ft fe env) z.1.1 z.2).bind fun r => .ok (.lst r.1, r.2) else .bad) elt target iter ifs scope := by
  obtain ⟨w, h1, h2⟩ := hi
  refine ⟨own, w, tSemG X.K tg, tSemT X.K ft, tSem X.K fe, h1, ok, fun s H C cl fp => (hg s H C cl fp).pg, ht, fun s H C cl fp => (he s H C cl fp).pe, hs, fun σ H μ env S d S' rl re hf Q q => ?_⟩
  obtain ⟨⟨⟨items, g⟩, S1⟩, e1, hf2⟩ := R.bind_eq_ok hf
  clear hf
  dsimp only at hf2
  split at hf2
  rotate_left
  · cases hf2
  rename_i hlen
  obtain ⟨⟨out, S2⟩, e3, hf3⟩ := R.bind_eq_ok hf2
  cases hf3
  refine h2 σ H μ env S _ S1 rl re e1 _ fun J H1 μ1 r1 x1 ok1 D hD => ?_
  refine ⟨fun i m H => ∃ μ' Sa acc accV rest, m = items.length - i ∧ i ≤ items.length ∧ acc.length ≤ i ∧ Rel X.K μ' Sa H ∧ μ'.hid = D :: μ1.hid ∧ H D = some (.lst accV) ∧ RepVs X.K μ' Sa.length H acc accV ∧ ExtW μ1 S1.length H1 μ' Sa.length H ∧ (∀ a, a ∈ μ1.hid → H a = H1 a) ∧
    compL g (compF tg (own.map (·.2)) ft fe env) (items.drop i) Sa = .ok (rest, S2) ∧ out = acc ++ rest, ⟨items.length, muHide μ1 D, S1, [], [], out, rfl, Nat.zero_le _, Nat.le_refl _, r1.hide hD, rfl, upd_same, by simp only [RepVs], ExtW.hide r1 hD, ?_, e3, rfl⟩, ?_⟩
  · intro a ha
    exact upd_ne fun e => by have := (r1.hid a ha).1; rw [e, hD] at this; cases this
  rintro i m H3 ⟨μ', Sa, acc, accV, rest, rfl, hi, hacc, r3, hh, hDv, rA, xw, kH, hC, rfl⟩
  have hm : D ∈ μ'.hid := by rw [hh]; exact List.mem_cons_self
  have hgS : g Sa := compL_keep hC
  by_cases hlt : i < items.length
  · right
    refine ⟨ok1.go i H3 μ' Sa r3 xw hgS hlt, fun H' => ∃ μ' Sa acc' accV rest', i + 1 ≤ items.length ∧ acc'.length ≤ i + 1 ∧ Rel X.K μ' Sa H' ∧ μ'.hid = D :: μ1.hid ∧ H' D = some (.lst accV) ∧ RepVs X.K μ' Sa.length H' acc' accV ∧ ExtW μ1 S1.length H1 μ' Sa.length H' ∧ (∀ a, a ∈ μ1.hid → H' a = H1 a) ∧
      compL g (compF tg (own.map (·.2)) ft fe env) (items.drop (i + 1)) Sa = .ok (rest', S2) ∧ acc ++ rest = acc' ++ rest', ?_, fun x H4 hy => ?_⟩
    · rintro H' ⟨μ', Sa, acc', accV, rest', h3, h4, h5, h6, h7, h8, h9, h10, h11, h12⟩
      exact ⟨items.length - (i + 1), by omega, μ', Sa, acc', accV, rest', rfl, h3, h4, h5, h6, h7, h8, h9, h10, h11, h12⟩
    · obtain ⟨d, hd, rd, r4, x4⟩ := ok1.yld i H3 μ' Sa x H4 r3 xw hgS hlt hy
      have hdrop : items.drop i = d :: items.drop (i + 1) := by
        have := List.drop_eq_getElem_cons hlt
        rw [List.getElem?_eq_getElem hlt] at hd
        rw [this, Option.some.inj hd]
      rw [hdrop] at hC
      unfold compL at hC
      rw [if_pos hgS] at hC
      obtain ⟨⟨od, Sb⟩, c1, hC⟩ := R.bind_eq_ok hC
      obtain ⟨⟨rest', Sc⟩, c2, hC⟩ := R.bind_eq_ok hC
      obtain ⟨env2, c3, c1⟩ := R.bind_eq_ok c1
      obtain ⟨⟨b, Sd⟩, c4, c1⟩ := R.bind_eq_ok c1
      have rE : REnv X.K μ' Sa.length H4 (wipe' env (own.map (·.2))) (wipe σ (own.map (·.2))) := by
        have h0 : REnv X.K μ1 S1.length H1 env σ := re.ext x1
        have h1 : REnv X.K μ' Sa.length H4 env σ := ⟨h0.len, fun i d h => let ⟨v, a1, a2⟩ := h0.at_ i d h; ⟨v, a1, RepV.extW (xw.trans x4) _ _ a2⟩⟩
        exact h1.wipe _
      refine ⟨d, μ', _, env2, Sa, r4, rE, rd, c3, fun σ2 rE2 hchg => ⟨?_, ?_⟩⟩
      · rw [hchg _ hw]; exact wipe_wipe _ _ fun i hi => hi
      · refine ⟨μ', env2, Sa, b, Sd, r4, rE2, c4, fun H5 μ5 r5 x5 => ?_⟩
        have kH5 : ∀ {H6 : Hp} {μ6 : Mu} {N6 : Nat}, Ext μ' Sa.length H3 μ6 N6 H6 → ∀ a, a ∈ μ1.hid → H6 a = H1 a := fun x6 a ha =>
          (x6.keepH a (by rw [hh]; exact List.mem_cons_of_mem _ ha)).2.trans (kH a ha)
        cases b with
        | true =>
          dsimp only
          rw [if_pos rfl] at c1 ⊢
          obtain ⟨⟨y, Se⟩, c5, c1⟩ := R.bind_eq_ok c1
          cases c1
          refine ⟨μ5, env2, Sd, y, _, r5, rE2.ext x5, c5, fun v H6 μ6 r6 x6 rv => ?_⟩
          have x36 : Ext μ' Sa.length H3 μ6 _ H6 := (x4.trans x5).trans x6
          have hD6 : H6 D = some (.lst accV) := (x36.keepH D hm).2.trans hDv
          have hh6 : μ6.hid = D :: μ1.hid := x36.hid.trans hh
          have hm6 : D ∈ μ6.hid := by rw [hh6]; exact List.mem_cons_self
          have rA6 := RepVs.ext x36 _ _ rA
          have hq : ∀ a, a ≠ D → upd H6 D (.lst (accV ++ [v])) a = H6 a := fun a h => upd_ne h
          cases hC
          refine ⟨accV, hD6, ?_, μ6, _, acc ++ [y], accV ++ [v], rest', hlt, ?_, r6.hidSet hm6, hh6, upd_same, ?_, (xw.trans x36).hidSet hD, ?_, c2, ?_⟩
          · rw [← rA.length, sizeLine_eq]
            have h7 : items.length ≤ 16777216 := hlen
            omega
          · rw [List.length_append, List.length_singleton]; omega
          · exact RepVs.hid hq hm6 _ _ (rA6.append (by simp only [RepVs]; exact ⟨v, [], rfl, rv, rfl⟩))
          · intro a ha
            rw [hq a fun e => by have := (r1.hid a ha).1; rw [e, hD] at this; cases this]
            exact kH5 x36 a ha
          · simp
        | false =>
          dsimp only
          rw [if_neg Bool.false_ne_true] at c1 ⊢
          cases c1
          cases hC
          have x35 : Ext μ' Sa.length H3 μ5 _ H5 := x4.trans x5
          exact ⟨μ5, _, acc, accV, rest', hlt, by omega, r5, x35.hid.trans hh, (x35.keepH D hm).2.trans hDv, RepVs.ext x35 _ _ rA, xw.trans x35, kH5 x35, c2, rfl⟩
  · left
    have e : i = items.length := by omega
    subst e
    refine ⟨ok1.stop _ H3 μ' Sa r3 xw hgS (Nat.le_refl _), ?_⟩
    rw [List.drop_length] at hC
    unfold compL at hC
    rw [if_pos hgS] at hC
    cases hC
    rw [List.append_nil] at q
    have hl : ∀ b ∈ μ1.hid, b ∈ μ'.hid := fun b hb => by rw [hh]; exact List.mem_cons_of_mem _ hb
    have hp : D ∉ μ1.hid := fun z => by have := (r1.hid D z).1; rw [hD] at this; cases this
    have xe : Ext μ1 S1.length H1 (muShow μ' μ1.hid) S2.length (era H3 D) :=
      { le := xw.le, mu := xw.mu, keep := fun a o h n => by rw [era_ne (ne_of_none h hD)]; exact xw.keep a o h n, new := xw.new, some := (Ext.refl r1).some, hid := rfl,
        keepH := fun a ha => ⟨(r1.hid a ha).1, by rw [era_ne fun e => hp (by rw [← e]; exact ha)]; exact kH a ha⟩,
        lock := fun i hi od u h => by rw [era_ne (ne_of_none h hD)]; exact xw.lock i hi od u h }
    have := q D accV (era H3 D) (muShow μ' μ1.hid) (r3.unhide hm hl hp) (x1.trans xe) era_same (rA.unhide hm hl)
    rw [era_upd hDv] at this
    exact this
theorem upd_comm {H : Hp} {a b : Addr} {o u : HO} (h : a ≠ b) : upd (upd H a o) b u = upd (upd H b u) a o := by
  funext c
  unfold upd
  by_cases e1 : c = a <;> by_cases e2 : c = b
  · exact absurd (e1.symm.trans e2) h
  · simp [e1, h]
  · simp [e2, Ne.symm h]
  · simp [e1, e2]
noncomputable def wlkT (i : Nat) (env : Env') (S : St') : R ((List D × (St' → Prop)) × St') := match env[i]? with
      | some (some (.loc n)) => (match S[n]? with
        | some (.lckT kvs) => R.ok ((kvs.map (·.1), isLckT n kvs), S)
        | _ => .bad)
      | _ => .bad
theorem wlkT_at {i n : Nat} {env : Env'} {S : St'} {kvs : List (D × D)} (he : env[i]? = some (some (.loc n))) (hS : S[n]? = some (.dctT kvs)) : wlkT i env (S.set n (.lckT kvs)) = .ok ((kvs.map (·.1), isLckT n kvs), S.set n (.lckT kvs)) := by
  have hn := (List.getElem?_eq_some_iff.mp hS).1
  unfold wlkT
  rw [he]
  dsimp only
  rw [List.getElem?_set_self hn]
noncomputable def cmpLT (i : Nat) (tg : Tg) (own : List Nat) (ft : Env' → St' → R (Bool × St')) (fe : M1) (env : Env') (S : St') : R (D × St') := (wlkT i env S).bind fun z => if z.1.1.length ≤ lim then
      (compL z.1.2 (compF tg own ft fe env) z.1.1 z.2).bind fun r => .ok (.lst r.1, r.2) else .bad
theorem cmpLT_lst {i : Nat} {tg : Tg} {own : List Nat} {ft : Env' → St' → R (Bool × St')} {fe : M1} : ∀ env S d S', cmpLT i tg own ft fe env S = .ok (d, S') → ∃ ds, d = .lst ds := by
  intro env S d S' h
  obtain ⟨z, e1, h⟩ := R.bind_eq_ok h
  split at h
  · obtain ⟨r, e2, h⟩ := R.bind_eq_ok h
    cases h
    exact ⟨_, rfl⟩
  · cases h
theorem sig_T {i : Nat} {x : Str} {p : Pos} {target : Expr} (hN : X.N[i]? = some x) (hv : Vis X.env.scope x) (hd : (x == ("__debug__" : Str)) = false) (hcd : (x == ("__classdict__" : Str)) = false) : SIg X (wlkT i) target (.Name x p) := by
  refine ⟨_, pi_dictT hN hv hd hcd, fun σ H μ env S r S' rl re hf Rq q => ?_⟩
  unfold wlkT at hf
  split at hf
  · rename_i n he
    split at hf <;> cases hf
    rename_i kvs hS
    obtain ⟨v, hv, rv⟩ := re.at_ i _ he
    simp only [RepV] at rv
    obtain ⟨hn, rfl⟩ := rv
    obtain ⟨ho, e1, q1⟩ := rl.obj n _ hS
    simp only [RepO] at q1
    obtain ⟨od, es, rfl, _⟩ := q1
    exact ⟨μ n, od, es, hv, e1, q _ H μ rl (Ext.refl rl) (it_dictT hn e1)⟩
  · cases hf
/-- .. over a dict with tuple keys that is locked -/
theorem scp_dictT {i : Nat} {x : Str} {p : Pos} {tg : Tg} {ft : Env' → St' → R (Bool × St')} {fe : M1} {elt target : Expr} {ifs : List Expr} {scope : Scope} {own : List (Str × Nat)} (hN : X.N[i]? = some x) (hv : Vis X.env.scope x) (hd : (x == ("__debug__" : Str)) = false) (hcd : (x == ("__classdict__" : Str)) = false)
    (ok : BlkOk X.N X.env.scope scope own)
    (hg : ∀ (s : Shared) (H : Hp) (C : Addr) (cl : List (Str × Addr)) (fp : List Addr), SG (X.blk s H scope (compEnvC scope cl C X.env) fp) tg target)
    (ht : ∀ (s : Shared) (H : Hp) (C : Addr) (cl : List (Str × Addr)) (fp : List Addr), STs (X.blk s H scope (compEnvC scope cl C X.env) fp) ft ifs)
    (he : ∀ (s : Shared) (H : Hp) (C : Addr) (cl : List (Str × Addr)) (fp : List Addr), SE (X.blk s H scope (compEnvC scope cl C X.env) fp) fe elt)
    (hw : ∀ i ∈ tgS tg, i ∈ own.map (·.2)) :
    SCp X (cmpLT i tg (own.map (·.2)) ft fe) elt target (.Name x p) ifs scope := by
  have hS : SIg X (wlkT i) target (.Name x p) := sig_T hN hv hd hcd
  exact sc_compG hS ok hg ht he (fun _ => rfl) hw
/-- .. over a dict with tuple keys, locked the while -/
theorem se_compD {i : Nat} {x : Str} {p pos : Pos} {tg : Tg} {ft : Env' → St' → R (Bool × St')} {fe : M1} {elt target : Expr} {ifs : List Expr} {scope : Scope} {own : List (Str × Nat)} (hc : X.calm = true) (hND : X.N.Nodup) (hN : X.N[i]? = some x) (hv : Vis X.env.scope x) (hd : (x == ("__debug__" : Str)) = false) (hcd : (x == ("__classdict__" : Str)) = false)
    (ok : BlkOk X.N X.env.scope scope own)
    (hg : ∀ (s : Shared) (H : Hp) (C : Addr) (cl : List (Str × Addr)) (fp : List Addr), SG (X.blk s H scope (compEnvC scope cl C X.env) fp) tg target)
    (ht : ∀ (s : Shared) (H : Hp) (C : Addr) (cl : List (Str × Addr)) (fp : List Addr), STs (X.blk s H scope (compEnvC scope cl C X.env) fp) ft ifs)
    (he : ∀ (s : Shared) (H : Hp) (C : Addr) (cl : List (Str × Addr)) (fp : List Addr), SE (X.blk s H scope (compEnvC scope cl C X.env) fp) fe elt)
    (hw : ∀ i ∈ tgS tg, i ∈ own.map (·.2)) :
    SF X (fun env S => (lckTF S env[i]?).bind fun p => if p.2.length ≤ lim then (compL (isLckT p.1 p.2) (compF tg (own.map (·.2)) ft fe env) (p.2.map (·.1)) (S.set p.1 (.lckT p.2))).bind fun r => lckTE p.1 p.2 r else .bad) (.ListComp elt [⟨target, .Name x p, ifs, 0⟩] scope pos) := by
  obtain ⟨t, h1, h2⟩ := (scp_dictT hN hv hd hcd ok hg ht he hw).sf (pos := pos) hc hND
  refine ⟨_, pe_lock h1, fun σ H μ env S d S' r re hf Q q => ?_⟩
  obtain ⟨⟨n, kvs⟩, e1, hf1⟩ := R.bind_eq_ok hf
  dsimp only at hf1
  split at hf1
  rotate_left
  · cases hf1
  rename_i hlen
  obtain ⟨⟨out, S1⟩, e2, hf2⟩ := R.bind_eq_ok hf1
  clear hf hf1
  unfold lckTE at hf2
  split at hf2 <;> cases hf2
  rename_i hlk
  dsimp only at q hlk e2 e1
  unfold lckTF at e1
  split at e1
  rotate_left
  · cases e1
  rename_i n' he
  split at e1 <;> cases e1
  rename_i hSn
  obtain ⟨v, hv', rv⟩ := re.at_ i _ he
  simp only [RepV] at rv
  obtain ⟨hn, rfl⟩ := rv
  obtain ⟨ho, g1, q1⟩ := r.obj n _ hSn
  simp only [RepO] at q1
  obtain ⟨es, rfl, q2⟩ := q1
  have nf : ∀ od u, H (μ n) ≠ some (.frz od u) := fun od u z => by rw [g1] at z; cases z
  refine ⟨μ n, .dT es, g1, trivial, fun od => ?_⟩
  have r1 : Rel X.K μ (S.set n (.lckT kvs)) (upd H (μ n) (.frz od (.dT es))) := Rel.write r hn nf (by simp only [RepO]; exact ⟨od, es, rfl, q2⟩)
  have x1 : Ext μ S.length H μ (S.set n (.lckT kvs)).length (upd H (μ n) (.frz od (.dT es))) := by rw [List.length_set]; exact Ext.write r hn nf
  have hS1 : (S.set n (.lckT kvs))[n]? = some (.lckT kvs) := List.getElem?_set_self hn
  refine h2 σ _ μ env (S.set n (.lckT kvs)) out S1 r1 (re.ext x1) (by unfold cmpLT; rw [wlkT_at he hSn]; dsimp only [R.bind]; rw [if_pos (by rw [List.length_map]; exact hlen), e2]) _ ?_
  intro pp ws H' μ' r' x' hp rws
  have hn' : n < (S.set n (.lckT kvs)).length := by rw [List.length_set]; exact hn
  have k1 := x'.lock n hn' od _ upd_same
  have hmu := x'.mu n hn'
  obtain ⟨ho, k2, k3⟩ := r'.obj n _ hlk
  simp only [RepO] at k3
  obtain ⟨od', es', rfl, k4⟩ := k3
  rw [hmu, k1] at k2
  cases k2
  have hn1 : n < S1.length := Nat.lt_of_lt_of_le hn' x'.le
  have w := Rel.write0 (o := .dctT kvs) (ho := .dT es) r' hn1 (by simp only [RepO]; exact ⟨es, rfl, k4⟩)
  rw [hmu] at w
  have e0 := ExtW0.write (o := .dT es) r' hn1
  rw [hmu] at e0
  have hne : μ n ≠ pp := fun e => by rw [← e, k1] at hp; cases hp
  have xx := x1.trans x'
  have xf : Ext μ S.length H μ' (S1.set n (.dctT kvs)).length (upd H' (μ n) (.dT es)) :=
    { le := by rw [List.length_set]; exact xx.le
      mu := xx.mu
      keep := fun a o h nl => by rw [upd_ne (fun e => nl.1 n hn e.symm)]; exact xx.keep a o h nl
      new := fun i a b => xx.new i a (by rw [List.length_set] at b; exact b)
      some := xx.some
      hid := xx.hid
      keepH := fun a ha => ⟨(xx.keepH a ha).1, by rw [upd_ne (fun e => (r.hid a ha).2 n hn e.symm)]; exact (xx.keepH a ha).2⟩
      lock := fun i hi od' u h => by
        rw [upd_ne (fun e => nf od' u (by rw [← e]; exact h))]
        exact xx.lock i hi od' u h }
  refine ⟨by rw [upd_ne hne]; exact k1, ?_⟩
  have := q pp ws (upd H' (μ n) (.dT es)) μ' w xf (by rw [upd_ne hne.symm]; exact hp) (by rw [List.length_set]; exact RepVs.ext0 e0 _ _ rws)
  rw [upd_comm hne] at this
  exact this
theorem lckTF_ok {S : St'} {d : Option (Option D)} {n : Nat} {kvs : List (D × D)} (h : lckTF S d = .ok (n, kvs)) : d = some (some (.loc n)) ∧ S[n]? = some (.dctT kvs) := by
  unfold lckTF at h
  split at h
  · split at h <;> cases h
    rename_i hS
    exact ⟨rfl, hS⟩
  · cases h
/-- a statement with a dict locked -/
theorem ss_lockT {fL : MS} {s : Stmt} (i : Nat) (h : SS X fL s) : SS X (fun env S => (lckTF S env[i]?).bind fun p => (fL env (S.set p.1 (.lckT p.2))).bind fun r => lckTS p.1 p.2 r) s := by
  obtain ⟨t, h1, h2⟩ := h
  refine ⟨_, ps_lock h1, fun σ H μ env S fl env' S' r re hf D q => ?_⟩
  obtain ⟨⟨n, kvs⟩, e1, hf1⟩ := R.bind_eq_ok hf
  obtain ⟨⟨fl1, env1, S1⟩, e2, hf2⟩ := R.bind_eq_ok hf1
  clear hf hf1
  unfold lckTS at hf2
  split at hf2 <;> cases hf2
  rename_i hlk
  dsimp only at q hlk e2 e1
  obtain ⟨he, hS⟩ := lckTF_ok e1
  obtain ⟨v, hv', rv⟩ := re.at_ i _ he
  simp only [RepV] at rv
  obtain ⟨hn, rfl⟩ := rv
  obtain ⟨ho, g1, q1⟩ := r.obj n _ hS
  simp only [RepO] at q1
  obtain ⟨es, rfl, q2⟩ := q1
  have nf : ∀ od u, H (μ n) ≠ some (.frz od u) := fun od u z => by rw [g1] at z; cases z
  refine ⟨μ n, .dT es, g1, trivial, fun od => ?_⟩
  have r1 : Rel X.K μ (S.set n (.lckT kvs)) (upd H (μ n) (.frz od (.dT es))) := Rel.write r hn nf (by simp only [RepO]; exact ⟨od, es, rfl, q2⟩)
  have x1 : Ext μ S.length H μ (S.set n (.lckT kvs)).length (upd H (μ n) (.frz od (.dT es))) := by rw [List.length_set]; exact Ext.write r hn nf
  -- what is known behind the walk
  have fin : ∀ (H' : Hp) (μ' : Mu), Rel X.K μ' S1 H' → Ext μ (S.set n (.lckT kvs)).length (upd H (μ n) (.frz od (.dT es))) μ' S1.length H' →
      H' (μ n) = some (.frz od (.dT es)) ∧ Rel X.K μ' (S1.set n (.dctT kvs)) (upd H' (μ n) (.dT es)) ∧ Ext μ S.length H μ' (S1.set n (.dctT kvs)).length (upd H' (μ n) (.dT es)) ∧ ExtW0 μ' S1.length H' μ' (S1.set n (.dctT kvs)).length (upd H' (μ n) (.dT es)) := by
    intro H' μ' r' x'
    have hn' : n < (S.set n (.lckT kvs)).length := by rw [List.length_set]; exact hn
    have k1 := x'.lock n hn' od _ upd_same
    have hmu := x'.mu n hn'
    obtain ⟨ho, k2, k3⟩ := r'.obj n _ hlk
    simp only [RepO] at k3
    obtain ⟨od', es', rfl, k4⟩ := k3
    rw [hmu, k1] at k2
    cases k2
    have hn1 : n < S1.length := Nat.lt_of_lt_of_le hn' x'.le
    have w := Rel.write0 (o := .dctT kvs) (ho := .dT es) r' hn1 (by simp only [RepO]; exact ⟨es, rfl, k4⟩)
    rw [hmu] at w
    have e0 := ExtW0.write (o := .dT es) r' hn1
    rw [hmu] at e0
    refine ⟨k1, w, ?_, by rw [List.length_set]; exact e0⟩
    have xx := x1.trans x'
    exact
      { le := by rw [List.length_set]; exact xx.le
        mu := xx.mu
        keep := fun a o h nl => by rw [upd_ne (fun e => nl.1 n hn e.symm)]; exact xx.keep a o h nl
        new := fun i a b => xx.new i a (by rw [List.length_set] at b; exact b)
        some := xx.some
        hid := xx.hid
        keepH := fun a ha => ⟨(xx.keepH a ha).1, by rw [upd_ne (fun e => (r.hid a ha).2 n hn e.symm)]; exact (xx.keepH a ha).2⟩
        lock := fun i hi od' u h => by
          rw [upd_ne (fun e => nf od' u (by rw [← e]; exact h))]
          exact xx.lock i hi od' u h }
  refine h2 σ _ μ env (S.set n (.lckT kvs)) fl1 env1 S1 r1 (re.ext x1) e2 _ ?_
  have rE : ∀ {H' : Hp} {μ' : Mu} {σ' : Hst}, ExtW0 μ' S1.length H' μ' (S1.set n (.dctT kvs)).length (upd H' (μ n) (.dT es)) → REnv X.K μ' S1.length H' env1 σ' → REnv X.K μ' (S1.set n (.dctT kvs)).length (upd H' (μ n) (.dT es)) env1 σ' :=
    fun {H' μ' σ'} e0 re' => ⟨re'.len, fun j d h => let ⟨v, a1, a2⟩ := re'.at_ j d h; ⟨v, a1, RepV.ext0 e0 _ _ a2⟩⟩
  cases fl1 with
  | nx => exact fun σ' H' μ' r' x' re' => let ⟨k1, k2, k3, k4⟩ := fin H' μ' r' x'; ⟨k1, q σ' _ μ' k2 k3 (rE k4 re')⟩
  | brk => exact fun σ' H' μ' r' x' re' => let ⟨k1, k2, k3, k4⟩ := fin H' μ' r' x'; ⟨k1, q σ' _ μ' k2 k3 (rE k4 re')⟩
  | cnt => exact fun σ' H' μ' r' x' re' => let ⟨k1, k2, k3, k4⟩ := fin H' μ' r' x'; ⟨k1, q σ' _ μ' k2 k3 (rE k4 re')⟩
  | ret d => exact fun v H' μ' r' x' rv => let ⟨k1, k2, k3, k4⟩ := fin H' μ' r' x'; ⟨k1, q v _ μ' k2 k3 (RepV.ext0 k4 _ _ rv)⟩
/-- for .. in a dict with tuple keys -/
theorem ss_forT {tg : Tg} {i : Nat} {x : Str} {p : Pos} {target : Expr} {b : List Stmt} {f : MS} (hp : PassesOwn (model X.prog X.w) X.A X.env X.xe) (hc : X.calm = true) (hN : X.N[i]? = some x) (hv : Vis X.env.scope x) (hd : (x == ("__debug__" : Str)) = false) (hcd : (x == ("__classdict__" : Str)) = false)
    (hg : SG X tg target) (hb : SSs X f b) :
    SS X (fun env S => (lckTF S env[i]?).bind fun p => (forL (isLckT p.1 p.2) (turnF tg f) (p.2.map (·.1)) env (S.set p.1 (.lckT p.2))).bind fun r => lckTS p.1 p.2 r) (.For target (.Name x p) b [] pos) := by
  have h := ss_lockT i (ss_forG hp hc (sig_T (p := p) (target := target) hN hv hd hcd) hg hb (fun _ => rfl) (pos := pos))
  refine SS.alt h h fun env S r hf => .inl ?_
  obtain ⟨⟨n, kvs⟩, e1, hf⟩ := R.bind_eq_ok hf
  obtain ⟨he, hS⟩ := lckTF_ok e1
  rw [e1]
  dsimp only [R.bind]
  rw [wlkT_at he hS]
  exact hf
/-- name = [.. for .. in d], the store made within -/
theorem cmpT_asg {i j : Nat} {tg : Tg} {own : List Nat} {ft : Env' → St' → R (Bool × St')} {fe : M1} {s : Stmt}
    (h : SS X (fun env S => (cmpLT i tg own ft fe env S).bind fun x => (setT (.one j) x.2 x.1 env).bind fun env' => .ok (.nx, env', x.2)) s) :
    SS X (fun env S => ((lckTF S env[i]?).bind fun p => if p.2.length ≤ lim then (compL (isLckT p.1 p.2) (compF tg own ft fe env) (p.2.map (·.1)) (S.set p.1 (.lckT p.2))).bind fun r => lckTE p.1 p.2 r else .bad).bind fun x => (setT (.one j) x.2 x.1 env).bind fun env' => .ok (.nx, env', x.2)) s := by
  have h := ss_lockT i h
  refine SS.alt h h fun env S r hf => .inl ?_
  obtain ⟨⟨d, S2⟩, e1, hf⟩ := R.bind_eq_ok hf
  obtain ⟨⟨n, kvs⟩, e2, e1⟩ := R.bind_eq_ok e1
  obtain ⟨he, hS⟩ := lckTF_ok e2
  dsimp only at e1
  split at e1
  rotate_left
  · cases e1
  rename_i hlen
  obtain ⟨⟨out, S1⟩, e3, e1⟩ := R.bind_eq_ok e1
  unfold lckTE at e1
  split at e1 <;> cases e1
  have hlk : isLckT n kvs S1 := by assumption
  cases hf
  dsimp only
  rw [e2]
  dsimp only [R.bind]
  unfold cmpLT
  rw [wlkT_at he hS]
  dsimp only [R.bind]
  rw [if_pos (by rw [List.length_map]; exact hlen), e3]
  dsimp only [R.bind, setT]
  unfold lckTS
  rw [if_pos hlk]
theorem compT_lst {i : Nat} {tg : Tg} {own : List Nat} {ft : Env' → St' → R (Bool × St')} {fe : M1} : ∀ env S d S', ((lckTF S env[i]?).bind fun p => if p.2.length ≤ lim then (compL (isLckT p.1 p.2) (compF tg own ft fe env) (p.2.map (·.1)) (S.set p.1 (.lckT p.2))).bind fun r => lckTE p.1 p.2 r else R.bad) = R.ok (d, S') → ∃ ds, d = D.lst ds := by
  intro env S d S' h
  obtain ⟨z, e1, h⟩ := R.bind_eq_ok h
  split at h
  · obtain ⟨r, e2, h⟩ := R.bind_eq_ok h
    unfold lckTE at h
    split at h <;> cases h
    exact ⟨_, rfl⟩
  · cases h
end
end TK

/-! TKw: parts one by one; [..] * n, ranges as values. -/
namespace TK
open PySem PySem.Spec PyProof.Rows L2
def evsM : List M1 → Env' → St' → R (List D × St')
  | [], _, S => .ok ([], S)
  | f :: fs, env, S => (f env S).bind fun x => (evsM fs env x.2).bind fun y => .ok (x.1 :: y.1, y.2)
inductive SEs (X : Cx) : List M1 → List Expr → Prop where
  | nil : SEs X [] []
  | cons {f : M1} {fs : List M1} {a : Expr} {as : List Expr} (h : SE X f a) (hs : SEs X fs as) : SEs X (f :: fs) (a :: as)
theorem SEs.sa {X : Cx} : ∀ {fs : List M1} {xs : List Expr}, SEs X fs xs → xs.all noStar = true → SA X (evsM fs) xs
  | _, _, .nil, _ => sa_nil
  | _, _, .cons h hs, hn => by
    rw [List.all_cons, Bool.and_eq_true] at hn
    exact sa_cons h (hs.sa hn.2) hn.1
theorem SEs.app {X : Cx} {b : Expr} : ∀ {fs : List M1} {xs : List Expr}, SEs X fs (xs ++ [b]) → ∃ gs g, fs = gs ++ [g] ∧ SEs X gs xs ∧ SE X g b
  | _, [], .cons h .nil => ⟨[], _, rfl, .nil, h⟩
  | _, x :: xs, .cons h hs => by
    obtain ⟨gs, g, rfl, h1, h2⟩ := hs.app
    exact ⟨_ :: gs, g, rfl, .cons h h1, h2⟩
theorem evsM_app (g : M1) : ∀ (gs : List M1) (env : Env') (S : St') (ds : List D) (S' : St'), evsM (gs ++ [g]) env S = .ok (ds, S') → ∃ es S1 d, evsM gs env S = .ok (es, S1) ∧ g env S1 = .ok (d, S') ∧ ds = es ++ [d]
  | [], env, S, ds, S', h => by
    obtain ⟨⟨x, S1⟩, e1, h⟩ := R.bind_eq_ok h
    cases h
    exact ⟨[], S, x, rfl, e1, rfl⟩
  | f :: gs, env, S, ds, S', h => by
    obtain ⟨⟨x, S1⟩, e1, h⟩ := R.bind_eq_ok h
    obtain ⟨⟨ys, S2⟩, e2, h⟩ := R.bind_eq_ok h
    cases h
    obtain ⟨es, S3, d, e3, e4, e5⟩ := evsM_app g gs env S1 ys S2 e2
    have e5 : ys = es ++ [d] := e5
    subst e5
    refine ⟨x :: es, S3, d, ?_, e4, rfl⟩
    show ((f env S).bind fun x => (evsM gs env x.2).bind fun y => R.ok (x.1 :: y.1, y.2)) = _
    rw [e1, R.bind_ok, e3, R.bind_ok]
section
variable {X : Cx} {a b c o e : Expr} {fa fb fc fo : M1} {pos : Pos} {es xs : List Expr} {fs : List M1}
theorem sf_rep {p : Pos} (hs : SEs X fs (xs ++ [b])) (hn : xs.all noStar = true) : SF X (fun env S => (evsM fs env S).bind fun x => (bltF .rep x.2 x.1).bind fun d => .ok (d, x.2)) (.BinOp (.List xs p) .Mult b pos) := by
  obtain ⟨gs, g, rfl, h0, h4'⟩ := hs.app
  obtain ⟨ts, h1, h2⟩ := h0.sa hn
  obtain ⟨tb, h3, h4⟩ := h4'
  refine ⟨_, pe_op op_rep (pe_lst h1) h3, fun σ H μ env S d S' rl re hf Q q => ?_⟩
  obtain ⟨⟨es, S2⟩, e12, hf1⟩ := R.bind_eq_ok hf
  obtain ⟨d', e3, hf3⟩ := R.bind_eq_ok hf1
  clear hf hf1
  obtain ⟨ds, S1, y, e1, e2, e5⟩ := evsM_app g gs env S es S2 e12
  have e5 : es = ds ++ [y] := e5
  subst e5
  cases hf3
  dsimp only [bltF, repF] at e3
  rw [List.getLast?_concat, List.dropLast_concat] at e3
  split at e3
  · rename_i k hy
    cases hy
    split at e3 <;> cases e3
    rename_i hk
    have hk2 : ds.length ≤ 16 := by
      have := hk.2
      rw [List.length_append, List.length_singleton] at this
      omega
    refine h2 σ H μ env S _ _ rl re e1 _ fun vs H1 μ1 r1 x1 rv => ?_
    have hl := rv.length
    refine ⟨by rw [← hl, sizeLine_eq]; omega, fun l hlN => ?_⟩
    have r2 := Rel.fresh (o := .lst vs) r1 hlN
    have x2 := Ext.fresh (o := .lst vs) r1 hlN
    refine h4 σ _ μ1 env S1 _ _ r2 (re.ext (x1.trans x2)) e2 _ fun w H3 μ3 r3 x3 rw' => ?_
    simp only [RepV] at rw'
    subst rw'
    have hkeep : H3 l = some (.lst vs) := x3.keep l _ upd_same (notLoc_fresh r1 hlN)
    refine ⟨l, k, vs, rfl, rfl, hkeep, by omega, by omega, ?_, fun p hp => ?_⟩
    · rw [← hl, sizeLine_eq]
      have : ds.length * k.toNat ≤ 16 * 1000000 := Nat.mul_le_mul hk2 (by omega)
      omega
    · exact q p _ H3 μ3 r3 (x1.trans (x2.trans x3)) hp (repVs_rep (RepVs.ext (x2.trans x3) _ _ rv) k.toNat)
  · cases e3
theorem repF_lst {S : St'} {ds : List D} {d : D} (h : bltF .rep S ds = .ok d) : ∃ xs, d = .lst xs := by
  dsimp only [bltF, repF] at h
  split at h
  · split at h <;> cases h
    exact ⟨_, rfl⟩
  · cases h
theorem rgL_lst {S : St'} {ds : List D} {d : D} (h : bltF .rgL S ds = .ok d) : ∃ xs, d = .lst xs := by
  dsimp only [bltF] at h
  obtain ⟨xs, _, e⟩ := R.bind_eq_ok h
  cases e
  exact ⟨xs, rfl⟩
theorem reps_rg {K : PySem.W.Frag} {μ : Mu} {N : Nat} {H : Hp} (i j : Int) : RepVs K μ N H (rgD i j) (rgV i j) := by
  unfold rgD rgV
  generalize List.range (j - i).toNat = l
  induction l with
  | nil => simp only [List.map_nil, RepVs]
  | cons k l ih =>
    simp only [List.map_cons, RepVs]
    exact ⟨_, _, rfl, by simp only [RepV], ih⟩
theorem rg_ok {i j : Int} (h : (-1000000 ≤ i ∧ i ≤ 1000000) ∧ (-1000000 ≤ j ∧ j ≤ 1000000)) : RgOk i j := ⟨by omega, by omega, by omega, by omega, by omega⟩
/-- range(..) within list(..), tuple(..) -/
theorem prg_of {p2 pos2 : Pos} (hg2 : Gl X "range") (hm2 : X.mg "range" = none) (hs : SEs X fs xs) (hl : xs.length = 1 ∨ xs.length = 2) (hn : xs.all noStar = true) :
    ∃ t, PRg X (.Call (.Name "range" p2) xs [] pos2) t ∧ ∀ σ H μ env S ds S' ns, Rel X.K μ S H → REnv X.K μ S.length H env σ → evsM fs env S = .ok (ds, S') → rgF ds = .ok ns → ∀ Q : Int → Int → Hp → Prop,
      (∀ i j H' μ', Rel X.K μ' S' H' → Ext μ S.length H μ' S'.length H' → RgOk i j → RepVs X.K μ' S'.length H' ns (rgV i j) → Q i j H') → t σ H Q := by
  cases hs with
  | nil => rcases hl with h | h <;> cases h
  | cons h1 hs =>
    rw [List.all_cons, Bool.and_eq_true] at hn
    cases hs with
    | nil =>
      obtain ⟨ta, h1, h2⟩ := h1
      refine ⟨_, prg_1 hg2 hm2 h1 (star_cons hn.1), fun σ H μ env S ds S' ns rl re e hf Q q => ?_⟩
      obtain ⟨⟨x, S1⟩, e1, hf1⟩ := R.bind_eq_ok e
      cases hf1
      dsimp only at hf
      unfold rgF at hf
      split at hf
      · rename_i j hj
        cases hj
        split at hf <;> cases hf
        rename_i hk
        refine h2 σ H μ env S _ S1 rl re e1 _ fun v H' μ' r' x' rv => ?_
        simp only [RepV] at rv
        subst rv
        exact ⟨j, rfl, q 0 j H' μ' r' x' (rg_ok ⟨by omega, hk⟩) (reps_rg 0 j)⟩
      · rename_i hj; cases hj
      · cases hf
    | cons h3 hs =>
      rw [List.all_cons, Bool.and_eq_true] at hn
      cases hs with
      | nil =>
        obtain ⟨ta, tb, k1, k2, k3⟩ := two h1 h3
        refine ⟨_, prg_2 hg2 hm2 k1 k2 (star_cons hn.1) (star_cons hn.2.1) (star_any (by rw [List.all_cons, hn.2.1]; rfl)), fun σ H μ env S ds S' ns rl re e hf Q q => ?_⟩
        obtain ⟨⟨x, S1⟩, e1, hf1⟩ := R.bind_eq_ok e
        obtain ⟨⟨ys, S2⟩, e2, hf2⟩ := R.bind_eq_ok hf1
        cases hf2
        obtain ⟨⟨y, S3⟩, e3, hf3⟩ := R.bind_eq_ok e2
        cases hf3
        dsimp only at hf
        unfold rgF at hf
        split at hf
        · rename_i hj; cases hj
        · rename_i i j hj
          cases hj
          split at hf <;> cases hf
          rename_i hk
          refine k3 σ H μ env S _ S1 _ S3 rl re e1 e3 _ fun v w H' μ' r' x' rv rw' => ?_
          simp only [RepV] at rv rw'
          subst rv rw'
          exact ⟨i, j, rfl, rfl, q i j H' μ' r' x' (rg_ok hk) (reps_rg i j)⟩
        · cases hf
      | cons h5 hs => rcases hl with h | h <;> simp at h
theorem sf_rgL {p p2 pos2 : Pos} (hc : X.calm = true) (hg : Gl X "list") (hm : X.mg "list" = none) (hg2 : Gl X "range") (hm2 : X.mg "range" = none) (hs : SEs X fs xs) (hl : xs.length = 1 ∨ xs.length = 2) (hn : xs.all noStar = true) :
    SF X (fun env S => (evsM fs env S).bind fun x => (bltF .rgL x.2 x.1).bind fun d => .ok (d, x.2)) (.Call (.Name "list" p) [.Call (.Name "range" p2) xs [] pos2] [] pos) := by
  obtain ⟨t, h1, h2⟩ := prg_of hg2 hm2 hs hl hn
  refine ⟨_, pe_listRg hc hg hm h1, fun σ H μ env S d S' rl re hf Q q => ?_⟩
  obtain ⟨⟨ds, S1⟩, e1, hf1⟩ := R.bind_eq_ok hf
  obtain ⟨d', e3, hf3⟩ := R.bind_eq_ok hf1
  clear hf hf1
  cases hf3
  dsimp only [bltF] at e3
  obtain ⟨ns, e4, e5⟩ := R.bind_eq_ok e3
  cases e5
  exact h2 σ H μ env S ds _ _ rl re e1 e4 _ fun i j H' μ' r' x' ho rv => ⟨ho, fun p hp => q p _ H' μ' r' x' hp rv⟩
theorem se_rgT {p p2 pos2 : Pos} (hc : X.calm = true) (hg : Gl X "tuple") (hm : X.mg "tuple" = none) (hg2 : Gl X "range") (hm2 : X.mg "range" = none) (hs : SEs X fs xs) (hl : xs.length = 1 ∨ xs.length = 2) (hn : xs.all noStar = true) :
    SE X (fun env S => (evsM fs env S).bind fun x => (bltF .rgT x.2 x.1).bind fun d => .ok (d, x.2)) (.Call (.Name "tuple" p) [.Call (.Name "range" p2) xs [] pos2] [] pos) := by
  obtain ⟨t, h1, h2⟩ := prg_of hg2 hm2 hs hl hn
  refine ⟨_, pe_tupRg hc hg hm h1, fun σ H μ env S d S' rl re hf Q q => ?_⟩
  obtain ⟨⟨ds, S1⟩, e1, hf1⟩ := R.bind_eq_ok hf
  obtain ⟨d', e3, hf3⟩ := R.bind_eq_ok hf1
  clear hf hf1
  cases hf3
  dsimp only [bltF] at e3
  obtain ⟨ns, e4, e5⟩ := R.bind_eq_ok e3
  cases e5
  exact h2 σ H μ env S ds _ ns rl re e1 e4 _ fun i j H' μ' r' x' ho rv => ⟨ho, fun p hp => Fin1.tup q r' x' rv p hp⟩
end
end TK

/-! TKj: is a text of the small tongue what the syntax says? And then it means that. -/
namespace TK
open PySem PySem.Spec PyProof.Rows L2

structure Glob where
  fns : List Str
  gls : List Str
structure SC where
  N : List Str
  sc : Scope
  fs : Scope
  G : Glob
def bltNames : List Str := ["len", "abs", "int", "bool", "all", "any", "sum", "tuple", "list", "min", "max", "str", "dict", "isinstance", "range", "enumerate", "zip", "sorted", "set", "reversed"]
structure GOk (c : SC) (Γ : Ctx) (X : Cx) : Prop where
  N : X.N = c.N
  nd : c.N.Nodup
  dbg : ∀ x ∈ c.N, (x == ("__debug__" : Str)) = false ∧ (x == ("__classdict__" : Str)) = false
  sc : X.env.scope = c.sc
  fs : ∀ x, c.fs.names.lookup x = some .cell → X.fn x = true
  calm : X.calm = true
  po : PassesOwn (model X.prog X.w) X.A X.env X.xe
  units : X.A.units + 65 < cLine
  blt : ∀ x ∈ bltNames, X.mg x = none
  fns : ∀ (i : Nat) (nm : Str), c.G.fns[i]? = some nm → (nm == ("__debug__" : Str)) = false ∧ ∃ k f fd ps, X.mg nm = some (.ref f) ∧ PySem.W.keepIn X.K (.ref f) = true ∧ L2.Binds X.K fd ps [] ∧ FnOk X.prog X.w X.K X.mg X.base CX0 k f fd ps (spOf X.K (Γ.fn i)) ∧ Room k X.A
  gls : ∀ (i : Nat) (nm : Str), c.G.gls[i]? = some nm → (nm == ("__debug__" : Str)) = false ∧ ∃ u v, X.mg nm = some u ∧ RelV v u ∧ ∀ μ N H, RepV X.K μ N H (Γ.gl i) v
section
variable {c : SC} {Γ : Ctx} {X : Cx}
def isGl (c : SC) (x : Str) : Bool := decide (c.sc.names.lookup x = some .globalImplicit)
theorem GOk.gl (h : GOk c Γ X) {x : Str} (e : isGl c x = true) : Gl X x := by
  show X.env.scope.names.lookup x = some .globalImplicit
  rw [h.sc]; exact of_decide_eq_true e
def vis (c : SC) (i : Nat) (x : Str) : Bool := decide (c.N[i]? = some x) && (match c.sc.names.lookup x with | some .local => true | some .cell => true | some .free => true | _ => false)
theorem GOk.vis (h : GOk c Γ X) {i : Nat} {x : Str} (e : vis c i x = true) : X.N[i]? = some x ∧ Vis X.env.scope x ∧ (x == ("__debug__" : Str)) = false ∧ (x == ("__classdict__" : Str)) = false := by
  unfold TK.vis at e
  rw [Bool.and_eq_true] at e
  have e1 := of_decide_eq_true e.1
  refine ⟨by rw [h.N]; exact e1, ?_, h.dbg x (List.mem_of_getElem? e1)⟩
  unfold Vis
  rw [h.sc]
  have e2 := e.2
  split at e2
  · rename_i q; exact .inl q
  · rename_i q; exact .inr (.inl q)
  · rename_i q; exact .inr (.inr q)
  · cases e2
/-- a name that is stored -/
def sto (c : SC) (i : Nat) (x : Str) : Bool := decide (c.N[i]? = some x) && (match c.sc.names.lookup x with | some .local => true | some .cell => decide (c.fs.names.lookup x = some .cell) | _ => false)
theorem GOk.sto (h : GOk c Γ X) {i : Nat} {x : Str} (e : sto c i x = true) : X.N[i]? = some x ∧ L2.Loc X.env.scope x ∧ (X.fn x = true ∨ X.env.scope.names.lookup x = some .local) := by
  unfold TK.sto at e
  rw [Bool.and_eq_true] at e
  refine ⟨by rw [h.N]; exact of_decide_eq_true e.1, ?_⟩
  unfold L2.Loc
  rw [h.sc]
  have e2 := e.2
  split at e2
  · rename_i q; exact ⟨.inl q, .inr q⟩
  · rename_i q; exact ⟨.inr q, .inl (h.fs x (of_decide_eq_true e2))⟩
  · cases e2
/-- the block of a comprehension -/
def blkSC (c : SC) (scope : Scope) : SC := { c with sc := relS scope c.sc, fs := scope }
theorem GOk.blk (h : GOk c Γ X) (scope : Scope) (s : Shared) (H : Hp) (C : Addr) (cl : List (Str × Addr)) (fp : List Addr) : GOk (blkSC c scope) Γ (X.blk s H scope (compEnvC scope cl C X.env) fp) where
  N := h.N
  nd := h.nd
  dbg := h.dbg
  sc := by
    show relabel scope X.env = relS scope c.sc
    rw [← h.sc]; rfl
  fs := fun x e => by
    show (scope.names.lookup x == some .cell) = true
    have e' : scope.names.lookup x = some .cell := e
    rw [e']; rfl
  calm := h.calm
  po := PassesOwn.never
  units := h.units
  blt := h.blt
  fns := h.fns
  gls := h.gls
end
def beqB (op : BOp) (o : Operator) : Bool := match op, o with
  | .add, .Add => true | .sub, .Sub => true | .mul, .Mult => true | .fdiv, .FloorDiv => true | .mod, .Mod => true | .pow, .Pow => true | _, _ => false
theorem beqB_ok {op : BOp} {o : Operator} (h : beqB op o = true) : o = opB op := by
  cases op <;> cases o <;> first | rfl | (cases h)
def beqC (op : COp) (o : CmpOp) : Bool := match op, o with
  | .eq, .Eq => true | .ne, .NotEq => true | .lt, .Lt => true | .le, .LtE => true | .gt, .Gt => true | .ge, .GtE => true | .is_, .Is => true | .isNot, .IsNot => true | .in_, .In => true | .notIn, .NotIn => true | _, _ => false
theorem beqC_ok {op : COp} {o : CmpOp} (h : beqC op o = true) : o = opC op := by
  cases op <;> cases o <;> first | rfl | (cases h)
/-- the parts that a source asks to be reckoned -/
def itArgs (c : SC) (k : ItK) (tg iter : Expr) : Option (List Expr) := match k with
  | .val => some [iter]
  | .range1 => match iter with
    | .Call (.Name x _) [a] [] _ => if decide (x = ("range" : Str)) && isGl c "range" && noStar a then some [a] else none
    | _ => none
  | .range2 => match iter with
    | .Call (.Name x _) [a, b] [] _ => if decide (x = ("range" : Str)) && isGl c "range" && noStar a && noStar b then some [a, b] else none
    | _ => none
  | .range3 => match iter with
    | .Call (.Name x _) [a, b, d] [] _ => if decide (x = ("range" : Str)) && isGl c "range" && noStar a && noStar b && noStar d then some [a, b, d] else none
    | _ => none
  | .revL => match iter with
    | .Call (.Name x _) [a] [] _ => if decide (x = ("reversed" : Str)) && isGl c "reversed" && noStar a then some [a] else none
    | _ => none
  | .revR1 => match iter with
    | .Call (.Name x _) [.Call (.Name y _) [a] [] _] [] _ => if decide (x = ("reversed" : Str)) && isGl c "reversed" && decide (y = ("range" : Str)) && isGl c "range" && noStar a then some [a] else none
    | _ => none
  | .enum => match tg, iter with
    | .Tuple _ _ _, .Call (.Name x _) [a] [] _ => if decide (x = ("enumerate" : Str)) && isGl c "enumerate" && noStar a then some [a] else none
    | _, _ => none
  | .zip => match tg, iter with
    | .Tuple _ _ _, .Call (.Name x _) [a, b] [] _ => if decide (x = ("zip" : Str)) && isGl c "zip" && noStar a && noStar b then some [a, b] else none
    | _, _ => none
def chkTg (c : SC) (tg : Tg) (e : Expr) : Bool := match tg, e with
  | .one i, .Name x _ => sto c i x
  | .many is, .Tuple es _ _ => go is es
  | _, _ => false
where go : List Nat → List Expr → Bool
  | [], [] => true
  | i :: is, .Name x _ :: es => sto c i x && go is es
  | _, _ => false
def noFold : Expr → Bool
  | .Set _ _ _ => false
  | _ => true
theorem noFold_ok {e : Expr} {env : Env} (h : noFold e = true) : ∀ x, foldedSetIterable e env x = pure x := by
  intro x
  cases e <;> first | rfl | (cases h)
def nmIs (c : SC) (i : Nat) (iter : Expr) : Bool := match iter with
  | .Name y _ => vis c i y
  | _ => false
theorem nmIs_ok {c : SC} {i : Nat} {iter : Expr} (h : nmIs c i iter = true) : ∃ y p, iter = .Name y p ∧ vis c i y = true := by
  cases iter with
  | Name y p => exact ⟨y, p, rfl, h⟩
  | _ => cases h
def ownL (c : SC) (own : List Nat) : List (Str × Nat) := own.map fun i => (c.N.getD i Str.empty, i)
theorem ownL_map (c : SC) (own : List Nat) : (ownL c own).map (·.2) = own := by
  unfold ownL
  rw [List.map_map]
  exact List.map_id _
def chkM : Mth → Str → Bool
  | .append, n => decide (n = ("append" : Str))
  | .extend, n => decide (n = ("extend" : Str))
  | .join, n => decide (n = ("join" : Str))
  | .lower, n => decide (n = ("lower" : Str))
  | .upper, n => decide (n = ("upper" : Str))
  | .startsAt, n => decide (n = ("startswith" : Str))
  | .starts, n => decide (n = ("startswith" : Str))
  | .ends, n => decide (n = ("endswith" : Str))
  | .sindex, n => decide (n = ("index" : Str))
  | .lindex, n => decide (n = ("index" : Str))
  | .pop0, n => decide (n = ("pop" : Str))
  | .popAt, n => decide (n = ("pop" : Str))
  | .dpop2, n => decide (n = ("pop" : Str))
  | .insert, n => decide (n = ("insert" : Str))
  | .get1, n => decide (n = ("get" : Str))
  | .get2, n => decide (n = ("get" : Str))
def mArgs : Mth → Nat
  | .append | .extend | .join | .starts | .ends | .sindex | .lindex | .popAt | .get1 => 1
  | .lower | .upper | .pop0 => 0
  | .startsAt | .insert | .get2 | .dpop2 => 2
def plainArgs (c : SC) (b : Blt) (e : Expr) : Option (List Expr) := match e with
  | .Call (.Name x _) xs [] _ => if plainB b && decide (x = bltName b) && isGl c x && !xs.isEmpty then some xs else none
  | _ => none
/-- the parts that a built-in's call hands on -/
def bltArgs (c : SC) (b : Blt) (e : Expr) : Option (List Expr) := match b with
  | .rep => match e with
    | .BinOp (.List xs _) .Mult b _ => some (xs ++ [b])
    | _ => none
  | .rgT => match e with
    | .Call (.Name x _) [.Call (.Name y _) xs [] _] [] _ => if decide (x = ("tuple" : Str)) && isGl c "tuple" && decide (y = ("range" : Str)) && isGl c "range" && (decide (xs.length = 1) || decide (xs.length = 2)) then some xs else none
    | _ => none
  | .rgL => match e with
    | .Call (.Name x _) [.Call (.Name y _) xs [] _] [] _ => if decide (x = ("list" : Str)) && isGl c "list" && decide (y = ("range" : Str)) && isGl c "range" && (decide (xs.length = 1) || decide (xs.length = 2)) then some xs else none
    | _ => none
  | .minD => match e with
    | .Call (.Name x _) [a] [⟨some k, .Constant .none _ _, _⟩] _ => if decide (x = ("min" : Str)) && isGl c "min" && decide (k = ("default" : Str)) then some [a] else none
    | _ => none
  | b => plainArgs c b e
def newB : Blt → Bool
  | .list | .listD | .sorted | .rep | .rgL => true
  | _ => false
mutual
def chk (c : SC) : IE → Expr → Bool
  | .var i, e => match e with
    | .Name x _ => vis c i x
    | _ => false
  | .cst d, e => match e, d with
    | .Constant (.int j) _ _, .int i => decide (i = j)
    | .Constant (.bool j) _ _, .bl i => decide (i = j)
    | .Constant (.str x) _ _, .str l => decide (x = ss l)
    | .Constant .none _ _, .non => true
    | _, _ => false
  | .glb g, e => match e with
    | .Name x _ => decide (c.G.gls[g]? = some x) && isGl c x
    | _ => false
  | .bin op a b, e => match e with
    | .BinOp l o r _ => beqB op o && chk c a l && chk c b r
    | _ => false
  | .neg a, e => match e with
    | .UnaryOp .USub x _ => chk c a x
    | _ => false
  | .not_ a, e => match e with
    | .UnaryOp .Not x _ => chk c a x
    | _ => false
  | .tru _, _ => false
  | .and_ es, e => match e with
    | .BoolOp .And xs _ => chkL c es xs && !xs.isEmpty
    | _ => false
  | .or_ es, e => match e with
    | .BoolOp .Or xs _ => chkL c es xs && !xs.isEmpty
    | _ => false
  | .cmp op a b, e => match e with
    | .Compare l [o] [r] _ => beqC op o && chk c a l && chk c b r && noSet r
    | _ => false
  | .chain o1 o2 a b d, e => match e with
    | .Compare l [p1, p2] [m, r] _ => beqC o1 p1 && beqC o2 p2 && chk c a l && chk c b m && chk c d r && noSet r
    | _ => false
  | .ife t a b, e => match e with
    | .IfExp x y z _ => chkT c t x && chk c a y && chk c b z
    | _ => false
  | .tup es, e => match e with
    | .Tuple xs _ _ => chkL c es xs && xs.all noStar
    | _ => false
  | .lst es, e => match e with
    | .List xs _ => chkL c es xs && xs.all noStar
    | _ => false
  | .own a, e => chkF c a e
  | .idx a b, e => match e with
    | .Subscript x y _ => chk c a x && chk c b y && noSlice y
    | _ => false
  | .slc a lo hi, e => match e with
    | .Subscript x (.Slice l h none _) _ => chk c a x && chkO c lo l && chkO c hi h
    | _ => false
  | .call f es, e => match e with
    | .Call (.Name x _) xs [] _ => decide (c.G.fns[f]? = some x) && isGl c x && chkL c es xs && xs.all noStar
    | _ => false
  | .blt b es, e => match bltArgs c b e with
    | some xs => chkL c es xs && xs.all noStar
    | none => false
  | .isi t a, e => match e with
    | .Call (.Name x _) [y, .Name z _] [] _ => decide (x = ("isinstance" : Str)) && isGl c x && decide (z = Str.ofString (tyName t)) && isGl c z && chk c a y && noStar y
    | _ => false
  | .mth m a es, e => match e with
    | .Call (.Attribute o n ap) xs [] cp => chkM m n && chk c a o && chkL c es xs && noCall0 o && (ap.endLine == cp.line) && xs.all noStar && decide (xs.length = mArgs m)
    | _ => false
  | .comp own elt tg k es cs, e => match e with
    | .ListComp x [⟨target, iter, ifs, 0⟩] scope _ => blkC c.N c.sc scope (ownL c own) && chkTg (blkSC c scope) tg target && (tgS tg).all (fun i => own.contains i) && noFold iter && chk (blkSC c scope) elt x && chkTs (blkSC c scope) cs ifs &&
      (match itArgs c k target iter with | some xs => chkL c es xs | none => false)
    | _ => false
  | .hole, _ => true
  | .slr a, e => match e with
    | .Subscript x (.Slice none none (some (.UnaryOp .USub (.Constant (.int 1) _ _) _)) _) _ => chk c a x
    | _ => false
  | .dct es, e => match e with
    | .Dict ks vs _ => chkP c es ks vs && decide (ks.length ≤ 15)
    | _ => false
  | .ownD a, e => chkFD c a e
  | .ownT, e => match e with
    | .Dict [] [] _ => true
    | _ => false
  | .compD own elt tg i cs, e => match e with
    | .ListComp x [⟨target, iter, ifs, 0⟩] scope _ => blkC c.N c.sc scope (ownL c own) && chkTg (blkSC c scope) tg target && (tgS tg).all (fun i => own.contains i) && nmIs c i iter && chk (blkSC c scope) elt x && chkTs (blkSC c scope) cs ifs
    | _ => false
/-- the parts of a display -/
def chkP (c : SC) : List IE → List (Option Expr) → List Expr → Bool
  | [], ks, vs => ks.isEmpty && vs.isEmpty
  | [_], _, _ => false
  | k :: v :: r, ks, vs => match ks, vs with
    | some x :: ks, y :: vs => chk c k x && chk c v y && chkP c r ks vs
    | _, _ => false
/-- a new dict -/
def chkFD (c : SC) : IE → Expr → Bool
  | .dct es, e => match e with
    | .Dict ks vs _ => chkP c es ks vs && decide (ks.length ≤ 15)
    | _ => false
  | .blt .dict es, e => match e with
    | .Call (.Name x _) xs [] _ => decide (x = ("dict" : Str)) && isGl c x && chkL c es xs && xs.all noStar && !xs.isEmpty
    | _ => false
  | _, _ => false
/-- a new list -/
def chkF (c : SC) : IE → Expr → Bool
  | .bin .add a b, e => match e with
    | .BinOp l .Add r _ => chk c a l && chk c b r
    | _ => false
  | .lst es, e => match e with
    | .List xs _ => chkL c es xs && xs.all noStar
    | _ => false
  | .slc a lo hi, e => match e with
    | .Subscript x (.Slice l h none _) _ => chk c a x && chkO c lo l && chkO c hi h
    | _ => false
  | .slr a, e => match e with
    | .Subscript x (.Slice none none (some (.UnaryOp .USub (.Constant (.int 1) _ _) _)) _) _ => chk c a x
    | _ => false
  | .compD own elt tg i cs, e => match e with
    | .ListComp x [⟨target, iter, ifs, 0⟩] scope _ => blkC c.N c.sc scope (ownL c own) && chkTg (blkSC c scope) tg target && (tgS tg).all (fun i => own.contains i) && nmIs c i iter && chk (blkSC c scope) elt x && chkTs (blkSC c scope) cs ifs
    | _ => false
  | .blt b es, e => newB b && (match bltArgs c b e with
    | some xs => chkL c es xs && xs.all noStar
    | none => false)
  | .comp own elt tg k es cs, e => match e with
    | .ListComp x [⟨target, iter, ifs, 0⟩] scope _ => blkC c.N c.sc scope (ownL c own) && chkTg (blkSC c scope) tg target && (tgS tg).all (fun i => own.contains i) && noFold iter && chk (blkSC c scope) elt x && chkTs (blkSC c scope) cs ifs &&
      (match itArgs c k target iter with | some xs => chkL c es xs | none => false)
    | _ => false
  | _, _ => false
def chkL (c : SC) : List IE → List Expr → Bool
  | [], xs => xs.isEmpty
  | a :: as, xs => match xs with
    | x :: xs => chk c a x && chkL c as xs
    | [] => false
def chkO (c : SC) : List IE → Option Expr → Bool
  | [], o => o.isNone
  | [a], o => match o with
    | some x => chk c a x
    | none => false
  | _, _ => false
def chkT (c : SC) : IE → Expr → Bool
  | .cmp op a b, e => match e with
    | .Compare l [o] [r] _ => beqC op o && chk c a l && chk c b r && noSet r
    | _ => false
  | .chain o1 o2 a b d, e => match e with
    | .Compare l [p1, p2] [m, r] _ => beqC o1 p1 && beqC o2 p2 && chk c a l && chk c b m && chk c d r && noSet r
    | _ => false
  | .not_ a, e => match e with
    | .UnaryOp .Not x _ => chkT c a x
    | _ => false
  | .and_ es, e => match e with
    | .BoolOp .And xs _ => chkTL c es xs && !xs.isEmpty
    | _ => false
  | .or_ es, e => match e with
    | .BoolOp .Or xs _ => chkTL c es xs && !xs.isEmpty
    | _ => false
  | .tru a, e => chk c a e && plainT e
  | _, _ => false
def chkTL (c : SC) : List IE → List Expr → Bool
  | [], xs => xs.isEmpty
  | a :: as, xs => match xs with
    | x :: xs => chkT c a x && chkTL c as xs
    | [] => false
def chkTs (c : SC) : List IE → List Expr → Bool
  | [], xs => xs.isEmpty
  | [a], xs => match xs with
    | [x] => chkT c a x
    | _ => false
  | _, _ => false
end
def chkI (c : SC) (k : ItK) (es : List IE) (tg iter : Expr) : Bool := match itArgs c k tg iter with
  | some xs => chkL c es xs
  | none => false
end TK

/-! TKk: a checked text means what the evaluator says. -/
namespace TK
open PySem PySem.Spec PyProof.Rows L2
section
variable {Γ : Ctx}
theorem blt_mem (b : Blt) : bltName b ∈ bltNames := by cases b <;> decide +kernel
theorem dbg_blt (b : Blt) : (bltName b == ("__debug__" : Str)) = false := by cases b <;> decide +kernel
theorem isEmpty_ne {α : Type} {xs : List α} (h : (!xs.isEmpty) = true) : ∃ x r, xs = x :: r := by
  cases xs with
  | nil => cases h
  | cons x r => exact ⟨x, r, rfl⟩
theorem sg_of {c : SC} {X : Cx} (ok : GOk c Γ X) {tg : Tg} {e : Expr} (h : chkTg c tg e = true) : SG X tg e := by
  unfold chkTg at h
  split at h
  · obtain ⟨h1, h2, h3⟩ := ok.sto h
    exact sg_one (by rw [ok.N]; exact ok.nd) h1 h2 h3
  · rename_i is es k p
    have go : ∀ (is : List Nat) (es : List Expr), chkTg.go c is es = true → SGs X is es ∧ es.all noStar = true ∧ es.length = is.length := by
      intro is
      induction is with
      | nil =>
        intro es h
        cases es with
        | nil => exact ⟨sgs_nil, rfl, rfl⟩
        | cons e es => cases h
      | cons i is ih =>
        intro es h
        cases es with
        | nil => cases h
        | cons e es =>
          cases e with
          | Name x p =>
            have h' : (sto c i x && chkTg.go c is es) = true := h
            rw [Bool.and_eq_true] at h'
            obtain ⟨h1, h2, h3⟩ := ok.sto h'.1
            obtain ⟨k1, k2, k3⟩ := ih es h'.2
            exact ⟨sgs_cons (by rw [ok.N]; exact ok.nd) h1 h2 h3 k1, by rw [List.all_cons, k2]; rfl, by rw [List.length_cons, List.length_cons, k3]⟩
          | _ => cases h
    obtain ⟨k1, k2, k3⟩ := go is es h
    exact sg_many ok.calm k1 k2 k3
  · cases h
theorem evs_cons (a : IE) (as : List IE) : evs Γ (a :: as) = fun env S => (ev Γ a env S).bind fun x => (evs Γ as env x.2).bind fun y => .ok (x.1 :: y.1, y.2) := by
  funext env S; simp only [evs]
theorem evs_nil : evs Γ [] = fun _ S => .ok ([], S) := by funext env S; simp only [evs]
theorem evs_one (a : IE) : evs Γ [a] = fun env S => (ev Γ a env S).bind fun x => (R.ok ([], x.2)).bind fun y => .ok (x.1 :: y.1, y.2) := by
  rw [evs_cons, evs_nil]
/-- sources of loops -/
theorem si_of {c : SC} {X : Cx} (ok : GOk c Γ X) {k : ItK} {es : List IE} {tg iter : Expr} {xs : List Expr} (hi : itArgs c k tg iter = some xs) (hs : SA X (evs Γ es) xs) (h1 : k = .val → ∃ a, es = [a] ∧ SE X (ev Γ a) iter) (h2' : k = .revR1 → ∃ a x, es = [a] ∧ xs = [x] ∧ SE X (ev Γ a) x) : SI X k (evs Γ es) tg iter := by
  have rg : ∀ x ∈ bltNames, X.mg x = none := ok.blt
  unfold itArgs at hi
  split at hi
  · obtain ⟨a, rfl, h2⟩ := h1 rfl
    rw [evs_one]
    exact si_val h2
  · split at hi
    · split at hi <;> cases hi
      rename_i hb
      simp only [Bool.and_eq_true, decide_eq_true_eq] at hb
      obtain ⟨⟨rfl, h2⟩, h3⟩ := hb
      exact si_range1 (ok.gl h2) (rg _ (by decide +kernel)) hs h3
    · cases hi
  · split at hi
    · split at hi <;> cases hi
      rename_i hb
      simp only [Bool.and_eq_true, decide_eq_true_eq] at hb
      obtain ⟨⟨⟨rfl, h2⟩, h3⟩, h4⟩ := hb
      exact si_range2 (ok.gl h2) (rg _ (by decide +kernel)) hs h3 h4
    · cases hi
  · split at hi
    · split at hi <;> cases hi
      rename_i hb
      simp only [Bool.and_eq_true, decide_eq_true_eq] at hb
      obtain ⟨⟨⟨⟨rfl, h2⟩, h3⟩, h4⟩, h5⟩ := hb
      exact si_range3 (ok.gl h2) (rg _ (by decide +kernel)) hs h3 h4 h5
    · cases hi
  · split at hi
    · split at hi <;> cases hi
      rename_i hb
      simp only [Bool.and_eq_true, decide_eq_true_eq] at hb
      obtain ⟨⟨rfl, h2⟩, h3⟩ := hb
      exact si_rev (ok.gl h2) (rg _ (by decide +kernel)) hs h3
    · cases hi
  · split at hi
    · split at hi <;> cases hi
      rename_i hb
      simp only [Bool.and_eq_true, decide_eq_true_eq] at hb
      obtain ⟨⟨⟨⟨rfl, h2⟩, rfl⟩, h4⟩, h5⟩ := hb
      obtain ⟨a, x, rfl, ex, h6⟩ := h2' rfl
      cases ex
      exact si_revR1 (ok.gl h2) (rg _ (by decide +kernel)) (ok.gl h4) (rg _ (by decide +kernel)) hs ⟨_, evs_one a, h6⟩ h5
    · cases hi
  · split at hi
    · split at hi <;> cases hi
      rename_i hb
      simp only [Bool.and_eq_true, decide_eq_true_eq] at hb
      obtain ⟨⟨rfl, h2⟩, h3⟩ := hb
      exact si_enum (ok.gl h2) (rg _ (by decide +kernel)) hs h3
    · cases hi
  · split at hi
    · split at hi <;> cases hi
      rename_i hb
      simp only [Bool.and_eq_true, decide_eq_true_eq] at hb
      obtain ⟨⟨⟨rfl, h2⟩, h3⟩, h4⟩ := hb
      exact si_zip (ok.gl h2) (rg _ (by decide +kernel)) hs h3 h4
    · cases hi
theorem itArgs_star {c : SC} {k : ItK} {tg iter : Expr} {xs : List Expr} (hi : itArgs c k tg iter = some xs) (hk : k ≠ .val) : xs.all noStar = true := by
  unfold itArgs at hi
  split at hi
  · exact absurd rfl hk
  · split at hi
    · split at hi <;> cases hi
      rename_i hb
      simp only [Bool.and_eq_true, decide_eq_true_eq] at hb
      rw [List.all_cons, hb.2]; rfl
    · cases hi
  · split at hi
    · split at hi <;> cases hi
      rename_i hb
      simp only [Bool.and_eq_true, decide_eq_true_eq] at hb
      rw [List.all_cons, List.all_cons, hb.2, hb.1.2]; rfl
    · cases hi
  · split at hi
    · split at hi <;> cases hi
      rename_i hb
      simp only [Bool.and_eq_true, decide_eq_true_eq] at hb
      rw [List.all_cons, List.all_cons, List.all_cons, hb.2, hb.1.2, hb.1.1.2]; rfl
    · cases hi
  · split at hi
    · split at hi <;> cases hi
      rename_i hb
      simp only [Bool.and_eq_true, decide_eq_true_eq] at hb
      rw [List.all_cons, hb.2]; rfl
    · cases hi
  · split at hi
    · split at hi <;> cases hi
      rename_i hb
      simp only [Bool.and_eq_true, decide_eq_true_eq] at hb
      rw [List.all_cons, hb.2]; rfl
    · cases hi
  · split at hi
    · split at hi <;> cases hi
      rename_i hb
      simp only [Bool.and_eq_true, decide_eq_true_eq] at hb
      rw [List.all_cons, hb.2]; rfl
    · cases hi
  · split at hi
    · split at hi <;> cases hi
      rename_i hb
      simp only [Bool.and_eq_true, decide_eq_true_eq] at hb
      rw [List.all_cons, List.all_cons, hb.2, hb.1.2]; rfl
    · cases hi
theorem bltF_list {S : St'} {ds : List D} {d : D} (h : bltF .list S ds = .ok d) : ∃ xs, d = .lst xs := by
  simp only [bltF] at h
  split at h
  · split at h <;> cases h
    exact ⟨_, rfl⟩
  · split at h <;> cases h
    exact ⟨_, rfl⟩
  · cases h
theorem itArgs_rev {c : SC} {tg iter : Expr} {xs : List Expr} (hi : itArgs c .revR1 tg iter = some xs) : ∃ z, xs = [z] := by
  simp only [itArgs] at hi
  split at hi
  · split at hi <;> cases hi
    exact ⟨_, rfl⟩
  · cases hi
theorem chkP_len : ∀ (es : List IE) (c : SC) (ks : List (Option Expr)) (vs : List Expr), chkP c es ks vs = true → ks.length = vs.length ∧ ks.all (·.isSome) = true ∧ (ks = [] → es = [] ∧ vs = [])
  | [], c, ks, vs, h => by
    simp only [chkP, Bool.and_eq_true, List.isEmpty_iff] at h
    obtain ⟨rfl, rfl⟩ := h
    exact ⟨rfl, rfl, fun _ => ⟨rfl, rfl⟩⟩
  | [_], c, ks, vs, h => by simp only [chkP] at h; cases h
  | k :: v :: r, c, ks, vs, h => by
    simp only [chkP] at h
    split at h
    · simp only [Bool.and_eq_true] at h
      obtain ⟨h1, h2, h3⟩ := chkP_len r c _ _ h.2
      exact ⟨by rw [List.length_cons, List.length_cons, h1], by rw [List.all_cons, h2]; rfl, fun z => by cases z⟩
    · cases h
theorem sfd_of_disp {X : Cx} {es : List IE} {p : Pos} {ks : List (Option Expr)} {vs : List Expr} (hs : SP X p (evs Γ es) ks vs) (h15 : ks.length ≤ 15) (hl : ks.length = vs.length ∧ ks.all (·.isSome) = true ∧ (ks = [] → es = [] ∧ vs = [])) :
    SFD X (fun env S => (evs Γ es env S).bind fun x => match alterD x.1 with
    | some kvs => if kvs.length ≤ 15 then .ok (frzD (dmerge [] kvs), x.2) else .bad
    | none => .bad) (.Dict ks vs p) := by
  by_cases h0 : ks = []
  · obtain ⟨rfl, rfl⟩ := hl.2.2 h0
    subst h0
    rw [evs_nil]
    exact sfd_empty
  · exact sfd_disp hs hl.2.1 hl.1 h0 h15
theorem evsM_eq : ∀ es : List IE, evsM (es.map (ev Γ)) = evs Γ es
  | [] => by funext env S; simp only [List.map_nil, evsM, evs]
  | e :: es => by
    have ih := evsM_eq es
    funext env S
    simp only [List.map_cons, evsM, evs, ih]
theorem SEs.evs {X : Cx} {es : List IE} {xs : List Expr} (h : SEs X (es.map (ev Γ)) xs) (hn : xs.all noStar = true) : SA X (evs Γ es) xs := by
  rw [← evsM_eq]; exact h.sa hn
section
variable {X : Cx} {es : List IE} {xs : List Expr} {b : Expr} {p p2 pos pos2 : Pos}
theorem sf_repE (hs : SEs X (es.map (ev Γ)) (xs ++ [b])) (hn : xs.all noStar = true) : SF X (fun env S => (TK.evs Γ es env S).bind fun x => (bltF .rep x.2 x.1).bind fun d => .ok (d, x.2)) (.BinOp (.List xs p) .Mult b pos) := by
  have := sf_rep (p := p) (pos := pos) hs hn
  rwa [evsM_eq] at this
theorem sf_rgLE (hc : X.calm = true) (hg : Gl X "list") (hm : X.mg "list" = none) (hg2 : Gl X "range") (hm2 : X.mg "range" = none) (hs : SEs X (es.map (ev Γ)) xs) (hl : xs.length = 1 ∨ xs.length = 2) (hn : xs.all noStar = true) :
    SF X (fun env S => (TK.evs Γ es env S).bind fun x => (bltF .rgL x.2 x.1).bind fun d => .ok (d, x.2)) (.Call (.Name "list" p) [.Call (.Name "range" p2) xs [] pos2] [] pos) := by
  have := sf_rgL (p := p) (p2 := p2) (pos := pos) (pos2 := pos2) hc hg hm hg2 hm2 hs hl hn
  rwa [evsM_eq] at this
theorem se_rgTE (hc : X.calm = true) (hg : Gl X "tuple") (hm : X.mg "tuple" = none) (hg2 : Gl X "range") (hm2 : X.mg "range" = none) (hs : SEs X (es.map (ev Γ)) xs) (hl : xs.length = 1 ∨ xs.length = 2) (hn : xs.all noStar = true) :
    SE X (fun env S => (TK.evs Γ es env S).bind fun x => (bltF .rgT x.2 x.1).bind fun d => .ok (d, x.2)) (.Call (.Name "tuple" p) [.Call (.Name "range" p2) xs [] pos2] [] pos) := by
  have := se_rgT (p := p) (p2 := p2) (pos := pos) (pos2 := pos2) hc hg hm hg2 hm2 hs hl hn
  rwa [evsM_eq] at this
end
/-- a built-in's call -/
theorem se_bltX {c : SC} {X : Cx} (ok : GOk c Γ X) {b : Blt} {es : List IE} {e : Expr} {xs : List Expr} (hb : bltArgs c b e = some xs) (hs : SEs X (es.map (ev Γ)) xs) (hn : xs.all noStar = true) :
    SE X (fun env S => (TK.evs Γ es env S).bind fun x => (bltF b x.2 x.1).bind fun d => .ok (d, x.2)) e := by
  have hu := Nat.lt_of_succ_lt ok.units
  have gen : plainArgs c b e = some xs → SE X (fun env S => (TK.evs Γ es env S).bind fun x => (bltF b x.2 x.1).bind fun d => .ok (d, x.2)) e := fun h => by
    unfold plainArgs at h
    split at h
    · split at h <;> cases h
      rename_i h1
      simp only [Bool.and_eq_true, decide_eq_true_eq] at h1
      obtain ⟨⟨⟨h0, rfl⟩, h2⟩, h3⟩ := h1
      obtain ⟨y, r, rfl⟩ := isEmpty_ne h3
      exact se_blt h0 hu ok.calm (ok.gl h2) (ok.blt _ (blt_mem b)) (hs.evs hn) hn
    · cases h
  cases b with
  | rep =>
    simp only [bltArgs] at hb
    split at hb <;> cases hb
    rw [List.all_append, Bool.and_eq_true] at hn
    exact (sf_repE hs hn.1).se fun env S d S' h => by
      obtain ⟨⟨ds, S1⟩, e1, h1⟩ := R.bind_eq_ok h
      obtain ⟨d', e2, h2⟩ := R.bind_eq_ok h1
      cases h2
      exact repF_lst e2
  | rgT =>
    simp only [bltArgs] at hb
    split at hb
    · split at hb <;> cases hb
      rename_i h1
      simp only [Bool.and_eq_true, Bool.or_eq_true, decide_eq_true_eq] at h1
      obtain ⟨⟨⟨⟨rfl, h2⟩, rfl⟩, h4⟩, h5⟩ := h1
      exact se_rgTE ok.calm (ok.gl h2) (ok.blt _ (by decide +kernel)) (ok.gl h4) (ok.blt _ (by decide +kernel)) hs h5 hn
    · cases hb
  | rgL =>
    simp only [bltArgs] at hb
    split at hb
    · split at hb <;> cases hb
      rename_i h1
      simp only [Bool.and_eq_true, Bool.or_eq_true, decide_eq_true_eq] at h1
      obtain ⟨⟨⟨⟨rfl, h2⟩, rfl⟩, h4⟩, h5⟩ := h1
      exact (sf_rgLE ok.calm (ok.gl h2) (ok.blt _ (by decide +kernel)) (ok.gl h4) (ok.blt _ (by decide +kernel)) hs h5 hn).se fun env S d S' h => by
        obtain ⟨⟨ds, S1⟩, e1, h1⟩ := R.bind_eq_ok h
        obtain ⟨d', e2, h2⟩ := R.bind_eq_ok h1
        cases h2
        exact rgL_lst e2
    · cases hb
  | minD =>
    simp only [bltArgs] at hb
    split at hb
    · split at hb <;> cases hb
      rename_i h1
      simp only [Bool.and_eq_true, decide_eq_true_eq] at h1
      obtain ⟨⟨rfl, h2⟩, rfl⟩ := h1
      exact se_minD ok.calm hu (ok.gl h2) (ok.blt _ (by decide +kernel)) (hs.evs hn) (by rw [List.all_cons, Bool.and_eq_true] at hn; exact hn.1)
    · cases hb
  | _ => exact gen hb
/-- a built-in's call that makes a new list -/
theorem sf_bltX {c : SC} {X : Cx} (ok : GOk c Γ X) {b : Blt} {es : List IE} {e : Expr} {xs : List Expr} (h0 : newB b = true) (hb : bltArgs c b e = some xs) (hs : SEs X (es.map (ev Γ)) xs) (hn : xs.all noStar = true) :
    SF X (fun env S => (TK.evs Γ es env S).bind fun x => (bltF b x.2 x.1).bind fun d => .ok (d, x.2)) e := by
  have hu := Nat.lt_of_succ_lt ok.units
  have gen : plainArgs c b e = some xs → ∃ y r p, e = .Call (.Name (bltName b) p) (y :: r) [] e.pos ∧ xs = y :: r ∧ Gl X (bltName b) := fun h => by
    unfold plainArgs at h
    split at h
    · split at h <;> cases h
      rename_i h1
      simp only [Bool.and_eq_true, decide_eq_true_eq] at h1
      obtain ⟨⟨⟨h0, rfl⟩, h2⟩, h3⟩ := h1
      obtain ⟨y, r, rfl⟩ := isEmpty_ne h3
      exact ⟨y, r, _, rfl, rfl, ok.gl h2⟩
    · cases h
  cases b with
  | rep =>
    simp only [bltArgs] at hb
    split at hb <;> cases hb
    rw [List.all_append, Bool.and_eq_true] at hn
    exact sf_repE hs hn.1
  | rgL =>
    simp only [bltArgs] at hb
    split at hb
    · split at hb <;> cases hb
      rename_i h1
      simp only [Bool.and_eq_true, Bool.or_eq_true, decide_eq_true_eq] at h1
      obtain ⟨⟨⟨⟨rfl, h2⟩, rfl⟩, h4⟩, h5⟩ := h1
      exact sf_rgLE ok.calm (ok.gl h2) (ok.blt _ (by decide +kernel)) (ok.gl h4) (ok.blt _ (by decide +kernel)) hs h5 hn
    · cases hb
  | list =>
    obtain ⟨y, r, p, e1, rfl, hg⟩ := gen hb
    rw [e1]
    exact sf_list ok.calm hg (ok.blt _ (by decide +kernel)) (hs.evs hn) hn
  | listD =>
    obtain ⟨y, r, p, e1, rfl, hg⟩ := gen hb
    rw [e1]
    exact sf_bltT (cr_listDA ok.calm) new_listD hg (ok.blt _ (by decide +kernel)) (by decide +kernel) (hs.evs hn) hn (by decide +kernel) (by decide +kernel)
  | sorted =>
    obtain ⟨y, r, p, e1, rfl, hg⟩ := gen hb
    rw [e1]
    exact sf_bltB (call_sortA hu) new_sorted hg (ok.blt _ (by decide +kernel)) (by decide +kernel) (hs.evs hn) hn (by decide +kernel) (by decide +kernel)
  | _ => cases h0
mutual
theorem se_of : ∀ (ie : IE) (c : SC) (X : Cx) (e : Expr), GOk c Γ X → chk c ie e = true → SE X (ev Γ ie) e
  | .var i, c, X, e, ok, h => by
    simp only [chk] at h
    split at h
    · obtain ⟨h1, h2, h3, h4⟩ := ok.vis h
      have : ev Γ (.var i) = fun env S => match env[i]? with | some (some d) => .ok (d, S) | _ => .bad := by funext env S; simp only [ev] <;> rfl
      rw [this]
      exact se_var h1 h2 h3 h4
    · cases h
  | .cst d, c, X, e, ok, h => by
    have : ev Γ (.cst d) = fun env S => .ok (d, S) := by funext env S; simp only [ev]
    rw [this]
    simp only [chk] at h
    split at h
    · have := of_decide_eq_true h; subst this; exact se_int
    · have := of_decide_eq_true h; subst this; exact se_bl
    · exact se_str (of_decide_eq_true h)
    · exact se_non
    · cases h
  | .glb g, c, X, e, ok, h => by
    have : ev Γ (.glb g) = fun env S => .ok (Γ.gl g, S) := by funext env S; simp only [ev]
    rw [this]
    simp only [chk] at h
    split at h
    · rw [Bool.and_eq_true] at h
      obtain ⟨h1, u, v, h2, h3, h4⟩ := ok.gls g _ (of_decide_eq_true h.1)
      exact se_glb (ok.gl h.2) h2 h3 h4 h1
    · cases h
  | .bin op a b, c, X, e, ok, h => by
    have : ev Γ (.bin op a b) = fun env S => (ev Γ a env S).bind fun x => (ev Γ b env x.2).bind fun y => (binF op y.2 x.1 y.1).bind fun d => .ok (d, y.2) := by funext env S; simp only [ev]
    rw [this]
    simp only [chk] at h
    split at h
    · simp only [Bool.and_eq_true] at h
      obtain ⟨⟨h1, h2⟩, h3⟩ := h
      rw [beqB_ok h1]
      exact se_binop (se_of a c X _ ok h2) (se_of b c X _ ok h3)
    · cases h
  | .neg a, c, X, e, ok, h => by
    have : ev Γ (.neg a) = fun env S => (ev Γ a env S).bind fun x => match x.1 with | .int i => .ok (.int (-i), x.2) | _ => .bad := by funext env S; simp only [ev] <;> rfl
    rw [this]
    simp only [chk] at h
    split at h
    · exact se_neg (se_of a c X _ ok h)
    · cases h
  | .not_ a, c, X, e, ok, h => by
    have : ev Γ (.not_ a) = fun env S => (ev Γ a env S).bind fun x => match x.1 with | .bl k => .ok (.bl (!k), x.2) | _ => .bad := by funext env S; simp only [ev] <;> rfl
    rw [this]
    simp only [chk] at h
    split at h
    · exact se_not (se_of a c X _ ok h)
    · cases h
  | .tru a, c, X, e, ok, h => by simp only [chk] at h; cases h
  | .and_ es, c, X, e, ok, h => by
    have : ev Γ (.and_ es) = evAnd Γ es := by funext env S; simp only [ev]
    rw [this]
    simp only [chk] at h
    split at h
    · rw [Bool.and_eq_true] at h
      exact sand_of es c X _ _ ok h.1 h.2
    · cases h
  | .or_ es, c, X, e, ok, h => by
    have : ev Γ (.or_ es) = evOr Γ es := by funext env S; simp only [ev]
    rw [this]
    simp only [chk] at h
    split at h
    · rw [Bool.and_eq_true] at h
      exact sor_of es c X _ _ ok h.1 h.2
    · cases h
  | .cmp op a b, c, X, e, ok, h => by
    have : ev Γ (.cmp op a b) = fun env S => (ev Γ a env S).bind fun x => (ev Γ b env x.2).bind fun y => (cmpF op y.2 x.1 y.1).bind fun k => .ok (.bl k, y.2) := by funext env S; simp only [ev]
    rw [this]
    simp only [chk] at h
    split at h
    · simp only [Bool.and_eq_true] at h
      obtain ⟨⟨⟨h1, h2⟩, h3⟩, h4⟩ := h
      rw [beqC_ok h1]
      exact se_cmpA (Nat.lt_of_succ_lt ok.units) (se_of a c X _ ok h2) (se_of b c X _ ok h3) h4
    · cases h
  | .chain o1 o2 a b d, c, X, e, ok, h => by
    have : ev Γ (.chain o1 o2 a b d) = fun env S => (ev Γ a env S).bind fun x => (ev Γ b env x.2).bind fun y => (cmpF0 o1 y.2 x.1 y.1).bind fun k =>
      if k then (ev Γ d env y.2).bind fun z => (cmpF0 o2 z.2 y.1 z.1).bind fun k2 => .ok (.bl k2, z.2) else .ok (.bl false, y.2) := by funext env S; simp only [ev]
    rw [this]
    simp only [chk] at h
    split at h
    · simp only [Bool.and_eq_true] at h
      obtain ⟨⟨⟨⟨⟨h1, h2⟩, h3⟩, h4⟩, h5⟩, h6⟩ := h
      rw [beqC_ok h1, beqC_ok h2]
      exact se_chain (Nat.lt_of_succ_lt ok.units) (se_of a c X _ ok h3) (se_of b c X _ ok h4) (se_of d c X _ ok h5) h6
    · cases h
  | .ife t a b, c, X, e, ok, h => by
    have : ev Γ (.ife t a b) = fun env S => (evT Γ t env S).bind fun k => if k.1 then ev Γ a env k.2 else ev Γ b env k.2 := by funext env S; simp only [ev]
    rw [this]
    simp only [chk] at h
    split at h
    · simp only [Bool.and_eq_true] at h
      exact se_ife (st_of t c X _ ok h.1.1) (se_of a c X _ ok h.1.2) (se_of b c X _ ok h.2)
    · cases h
  | .tup es, c, X, e, ok, h => by
    have : ev Γ (.tup es) = fun env S => (evs Γ es env S).bind fun x => if x.1.length ≤ lim then .ok (.tup x.1, x.2) else .bad := by funext env S; simp only [ev]
    rw [this]
    simp only [chk] at h
    split at h
    · rw [Bool.and_eq_true] at h
      exact se_tup ((ses_of es c X _ ok h.1).evs h.2)
    · cases h
  | .lst es, c, X, e, ok, h => by
    have : ev Γ (.lst es) = fun env S => (evs Γ es env S).bind fun x => if x.1.length ≤ lim then .ok (.lst x.1, x.2) else .bad := by funext env S; simp only [ev]
    rw [this]
    simp only [chk] at h
    split at h
    · rw [Bool.and_eq_true] at h
      exact se_lst ((ses_of es c X _ ok h.1).evs h.2)
    · cases h
  | .own a, c, X, e, ok, h => by
    have : ev Γ (.own a) = fun env S => (ev Γ a env S).bind fun x => allocL x.2 x.1 := by funext env S; simp only [ev]
    rw [this]
    simp only [chk] at h
    exact (sf_of a c X _ ok h).own
  | .idx a b, c, X, e, ok, h => by
    have : ev Γ (.idx a b) = fun env S => (ev Γ a env S).bind fun x => (ev Γ b env x.2).bind fun y => (idxF y.2 x.1 y.1).bind fun d => .ok (d, y.2) := by funext env S; simp only [ev]
    rw [this]
    simp only [chk] at h
    split at h
    · simp only [Bool.and_eq_true] at h
      exact se_idxA (by have := ok.units; omega) (se_of a c X _ ok h.1.1) (se_of b c X _ ok h.1.2) h.2
    · cases h
  | .slc a lo hi, c, X, e, ok, h => by
    have : ev Γ (.slc a lo hi) = fun env S => (ev Γ a env S).bind fun x => (evs Γ lo env x.2).bind fun y => (optI y.1).bind fun l => (evs Γ hi env y.2).bind fun z => (optI z.1).bind fun h => (slcF z.2 x.1 l h).bind fun d => .ok (d, z.2) := by funext env S; simp only [ev]
    rw [this]
    simp only [chk] at h
    split at h
    · simp only [Bool.and_eq_true] at h
      exact se_slc (se_of a c X _ ok h.1.1) (so_of lo c X _ ok h.1.2) (so_of hi c X _ ok h.2)
    · cases h
  | .call f es, c, X, e, ok, h => by
    have : ev Γ (.call f es) = fun env S => (evs Γ es env S).bind fun x => Γ.fn f x.1 x.2 := by funext env S; simp only [ev]
    rw [this]
    simp only [chk] at h
    split at h
    · rename_i x p xs q
      simp only [Bool.and_eq_true] at h
      obtain ⟨⟨⟨h1, h2⟩, h3⟩, h4⟩ := h
      obtain ⟨k0, k, g, fd, ps, k1, k2, k3, k4, k5⟩ := ok.fns f _ (of_decide_eq_true h1)
      cases xs with
      | nil =>
        cases es with
        | nil => rw [evs_nil]; exact se_call0 k4 k5 (ok.gl h2) k1 k2 k3 k0
        | cons a as => simp only [chkL] at h3; cases h3
      | cons x xs => exact se_call k4 k5 (ok.gl h2) k1 k2 k3 ((ses_of es c X _ ok h3).evs h4) h4 k0
    · cases h
  | .blt b es, c, X, e, ok, h => by
    have : ev Γ (.blt b es) = fun env S => (evs Γ es env S).bind fun x => (bltF b x.2 x.1).bind fun d => .ok (d, x.2) := by funext env S; simp only [ev]
    rw [this]
    simp only [chk] at h
    split at h
    · rename_i xs hb
      rw [Bool.and_eq_true] at h
      exact se_bltX ok hb (ses_of es c X xs ok h.1) h.2
    · cases h
  | .isi t a, c, X, e, ok, h => by
    have : ev Γ (.isi t a) = fun env S => (ev Γ a env S).bind fun x => (tyF t x.2 x.1).bind fun k => .ok (.bl k, x.2) := by funext env S; simp only [ev]
    rw [this]
    simp only [chk] at h
    split at h
    · simp only [Bool.and_eq_true, decide_eq_true_eq] at h
      obtain ⟨⟨⟨⟨⟨rfl, h2⟩, rfl⟩, h4⟩, h5⟩, h6⟩ := h
      exact se_isi (ok.gl h2) (ok.blt _ (by decide +kernel)) (ok.gl h4) (ok.blt _ (by cases t <;> decide +kernel)) (se_of a c X _ ok h5) h6
    · cases h
  | .mth m a es, c, X, e, ok, h => by
    have : ev Γ (.mth m a es) = fun env S => (ev Γ a env S).bind fun x => if mOk m x.2 x.1 then (evs Γ es env x.2).bind fun y => mthF m y.2 x.1 y.1 else .bad := by funext env S; simp only [ev]
    rw [this]
    simp only [chk] at h
    split at h
    · rename_i o n ap xs cp
      simp only [Bool.and_eq_true, decide_eq_true_eq] at h
      obtain ⟨⟨⟨⟨⟨⟨h1, h2⟩, h3⟩, h4⟩, h5⟩, h6⟩, h7⟩ := h
      have hA := ((ses_of es c X _ ok h3).evs h6)
      have hO := se_of a c X _ ok h2
      have hu : X.A.units + 1 < cLine := by have := ok.units; omega
      match xs, h3, h6, h7, hA with
      | [], h3, h6, h7, hA =>
        have e0 : es = [] := by
          cases es with
          | nil => rfl
          | cons z zs => simp only [chkL] at h3; cases h3
        subst e0
        rw [evs_nil]
        cases m with
        | lower => have h1 := of_decide_eq_true h1; subst h1; exact se_mth0 F.plainAttrs_str F.slot_str_lower F.type_str_lower mt_lower hO h4 h5 (fun μ S H x v r h e => tyS h e) has_lower
        | upper => have h1 := of_decide_eq_true h1; subst h1; exact se_mth0 F.plainAttrs_str F.slot_str_upper F.type_str_upper mt_upper hO h4 h5 (fun μ S H x v r h e => tyS h e) has_upper
        | pop0 => have h1 := of_decide_eq_true h1; subst h1; exact se_mth0 F.plainAttrs_list F.slot_list_pop F.type_list_pop mt_pop hO h4 h5 (fun μ S H x v r h e => tyL r h e) has_pop0
        | _ => cases h7
      | [x1], h3, h6, h7, hA =>
        obtain ⟨a1, rfl, hc1⟩ : ∃ a1, es = [a1] ∧ chk c a1 x1 = true := by
          cases es with
          | nil => simp only [chkL] at h3; cases h3
          | cons z zs =>
            simp only [chkL, Bool.and_eq_true] at h3
            cases zs with
            | nil => exact ⟨z, rfl, h3.1⟩
            | cons w ws => have := h3.2; simp only [chkL] at this; cases this
        have hn1 : noStar x1 = true := by rw [List.all_cons, Bool.and_eq_true] at h6; exact h6.1
        cases m with
        | append => have h1 := of_decide_eq_true h1; subst h1; exact se_append hO hA h4 h5 hn1
        | extend => have h1 := of_decide_eq_true h1; subst h1; exact se_extend hO hA h4 h5 hn1
        | join => have h1 := of_decide_eq_true h1; subst h1; exact se_join hO hA h4 h5 hn1
        | starts => have h1 := of_decide_eq_true h1; subst h1; exact se_mthN F.plainAttrs_str F.slot_str_startswith F.type_str_startswith mt_startswith hO hA h4 h5 h6 (by simp) (fun μ S H x v r h e => tyS h e) has_starts
        | ends => have h1 := of_decide_eq_true h1; subst h1; exact se_mthN F.plainAttrs_str F.slot_str_endswith F.type_str_endswith mt_endswith hO hA h4 h5 h6 (by simp) (fun μ S H x v r h e => tyS h e) has_ends
        | sindex => have h1 := of_decide_eq_true h1; subst h1; exact se_mthN F.plainAttrs_str F.slot_str_index F.type_str_index mt_sindex hO hA h4 h5 h6 (by simp) (fun μ S H x v r h e => tyS h e) has_sindex
        | lindex => have h1 := of_decide_eq_true h1; subst h1; exact se_mthN F.plainAttrs_list F.slot_list_index F.type_list_index mt_index hO hA h4 h5 h6 (by simp) (fun μ S H x v r h e => tyL r h e) has_lindex
        | popAt => have h1 := of_decide_eq_true h1; subst h1; exact se_mthN F.plainAttrs_list F.slot_list_pop F.type_list_pop mt_popAt hO hA h4 h5 h6 (by simp) (fun μ S H x v r h e => tyL r h e) has_popAt
        | get1 => have h1 := of_decide_eq_true h1; subst h1; rw [evs_one]; exact se_get1 hu hO (se_of a1 c X _ ok hc1) h4 h5 hn1
        | _ => cases h7
      | [x1, x2], h3, h6, h7, hA =>
        obtain ⟨a1, a2, rfl, hc1, hc2⟩ : ∃ a1 a2, es = [a1, a2] ∧ chk c a1 x1 = true ∧ chk c a2 x2 = true := by
          cases es with
          | nil => simp only [chkL] at h3; cases h3
          | cons z zs =>
            simp only [chkL, Bool.and_eq_true] at h3
            cases zs with
            | nil => have := h3.2; simp only [chkL] at this; cases this
            | cons w ws =>
              have h3' := h3.2
              simp only [chkL, Bool.and_eq_true] at h3'
              cases ws with
              | nil => exact ⟨z, w, rfl, h3.1, h3'.1⟩
              | cons y ys => have := h3'.2; simp only [chkL] at this; cases this
        have hn := h6
        simp only [List.all_cons, Bool.and_eq_true] at hn
        have e2 : evs Γ [a1, a2] = fun env S => (ev Γ a1 env S).bind fun x => ((ev Γ a2 env x.2).bind fun x => (R.ok ([], x.2)).bind fun y => .ok (x.1 :: y.1, y.2)).bind fun y => .ok (x.1 :: y.1, y.2) := by
          rw [evs_cons, evs_one]
        cases m with
        | startsAt => have h1 := of_decide_eq_true h1; subst h1; exact se_mthN F.plainAttrs_str F.slot_str_startswith F.type_str_startswith mt_startswith3 hO hA h4 h5 h6 (by simp) (fun μ S H x v r h e => tyS h e) has_startsAt
        | insert => have h1 := of_decide_eq_true h1; subst h1; exact se_mthN F.plainAttrs_list F.slot_list_insert F.type_list_insert mt_insert hO hA h4 h5 h6 (by simp) (fun μ S H x v r h e => tyL r h e) has_insert
        | get2 => have h1 := of_decide_eq_true h1; subst h1; rw [e2]; exact se_get2 hu hO (se_of a1 c X _ ok hc1) (se_of a2 c X _ ok hc2) h4 h5 hn.1 hn.2.1
        | dpop2 => have h1 := of_decide_eq_true h1; subst h1; rw [e2]; exact se_dpop2 hO (se_of a1 c X _ ok hc1) (se_of a2 c X _ ok hc2) h4 h5 hn.1 hn.2.1
        | _ => cases h7
      | _ :: _ :: _ :: _, h3, h6, h7, hA => cases m <;> cases h7
    · cases h
  | .hole, c, X, e, ok, h => by
    have : ev Γ .hole = fun _ _ => .bad := by funext env S; simp only [ev]
    rw [this]
    exact SE.hole
  | .slr a, c, X, e, ok, h => by
    have : ev Γ (.slr a) = fun env S => (ev Γ a env S).bind fun x => (revF x.2 x.1).bind fun d => .ok (d, x.2) := by funext env S; simp only [ev]
    rw [this]
    simp only [chk] at h
    split at h
    · exact se_revT (se_of a c X _ ok h)
    · cases h
  | .dct es, c, X, e, ok, h => by
    have hE : ev Γ (.dct es) = fun env S => (evs Γ es env S).bind fun x => match alterD x.1 with
    | some kvs => if kvs.length ≤ 15 then .ok (frzD (dmerge [] kvs), x.2) else .bad
    | none => .bad := by funext env S; simp only [ev] <;> rfl
    simp only [chk] at h
    split at h
    · rename_i ks vs p
      rw [Bool.and_eq_true, decide_eq_true_eq] at h
      rw [hE]
      exact (sfd_of_disp (sp_of es c X p _ _ ok h.1) h.2 (chkP_len es c ks vs h.1)).se disp_dct
    · cases h
  | .ownD a, c, X, e, ok, h => by
    have : ev Γ (.ownD a) = fun env S => (ev Γ a env S).bind fun x => allocD x.2 x.1 := by funext env S; simp only [ev]
    rw [this]
    simp only [chk] at h
    exact (sfd_of a c X _ ok h).own
  | .ownT, c, X, e, ok, h => by
    have : ev Γ .ownT = fun _ S => .ok (.loc S.length, S ++ [.dctT []]) := by funext env S; simp only [ev]
    rw [this]
    simp only [chk] at h
    split at h
    · exact se_newT
    · cases h
  | .compD own elt tg i cs, c, X, e, ok, h => by
    have hE : ev Γ (.compD own elt tg i cs) = fun env S => (lckTF S env[i]?).bind fun p => if p.2.length ≤ lim then
      (compL (isLckT p.1 p.2) (compF tg own (evTs Γ cs) (ev Γ elt) env) (p.2.map (·.1)) (S.set p.1 (.lckT p.2))).bind fun r => lckTE p.1 p.2 r else .bad := by funext env S; simp only [ev]
    rw [hE]
    simp only [chk] at h
    split at h
    · rename_i x target iter ifs scope p
      simp only [Bool.and_eq_true] at h
      obtain ⟨⟨⟨⟨⟨h1, h2⟩, h3⟩, h4⟩, h5⟩, h6⟩ := h
      obtain ⟨y, py, rfl, h4⟩ := nmIs_ok h4
      have hok : BlkOk X.N X.env.scope scope (ownL c own) := by rw [ok.N, ok.sc]; exact blkOk_by h1
      have hw : ∀ i ∈ tgS tg, i ∈ (ownL c own).map (·.2) := fun i hi => by
        rw [ownL_map]
        exact List.contains_iff_mem.mp (List.all_eq_true.mp h3 i hi)
      obtain ⟨k1, k2, k3, k4⟩ := ok.vis h4
      have := se_compD (p := py) (pos := p) ok.calm (by rw [ok.N]; exact ok.nd) k1 k2 k3 k4 hok (fun s H C cl fp => sg_of (ok.blk scope s H C cl fp) h2) (fun s H C cl fp => sts_of cs (blkSC c scope) _ ifs (ok.blk scope s H C cl fp) h6) (fun s H C cl fp => se_of elt (blkSC c scope) _ x (ok.blk scope s H C cl fp) h5) hw
      rw [ownL_map] at this
      exact this.se compT_lst
    · cases h
  | .comp own elt tg k es cs, c, X, e, ok, h => by
    have hE : ev Γ (.comp own elt tg k es cs) = fun env S => (evs Γ es env S).bind fun x => (itF k x.2 x.1).bind fun items => if items.1.length ≤ lim then
      (compL items.2 (compF tg own (evTs Γ cs) (ev Γ elt) env) items.1 x.2).bind fun r => .ok (.lst r.1, r.2) else .bad := by funext env S; simp only [ev]
    rw [hE]
    simp only [chk] at h
    split at h
    · rename_i x target iter ifs scope p
      simp only [Bool.and_eq_true] at h
      obtain ⟨⟨⟨⟨⟨⟨h1, h2⟩, h3⟩, h4⟩, h5⟩, h6⟩, h7⟩ := h
      split at h7
      · rename_i xs hx
        have hok : BlkOk X.N X.env.scope scope (ownL c own) := by rw [ok.N, ok.sc]; exact blkOk_by h1
        have hw : ∀ i ∈ tgS tg, i ∈ (ownL c own).map (·.2) := fun i hi => by
          rw [ownL_map]
          exact List.contains_iff_mem.mp (List.all_eq_true.mp h3 i hi)
        have hR : k = .revR1 → ∃ a x, es = [a] ∧ xs = [x] ∧ SE X (ev Γ a) x := fun hk => by
          subst hk
          obtain ⟨z, rfl⟩ := itArgs_rev hx
          cases es with
          | nil => simp only [chkL] at h7; cases h7
          | cons a as =>
            simp only [chkL, Bool.and_eq_true] at h7
            cases as with
            | nil => exact ⟨a, z, rfl, rfl, se_of a c X _ ok h7.1⟩
            | cons b bs => have := h7.2; simp only [chkL] at this; cases this
        have hS : SI X k (evs Γ es) target iter := by
          cases k with
          | val =>
            have hx' := hx
            simp only [itArgs] at hx'
            cases hx'
            cases es with
            | nil => simp only [chkL] at h7; cases h7
            | cons a as =>
              cases as with
              | nil =>
                simp only [chkL, Bool.and_eq_true] at h7
                have hSE := se_of a c X _ ok h7.1
                rw [evs_one]
                exact si_val hSE
              | cons b bs => simp only [chkL, Bool.and_eq_true] at h7; cases h7.2
          | _ => exact si_of ok hx (((ses_of es c X _ ok h7).evs (itArgs_star hx (by intro z; cases z)))) (fun z => by cases z) hR
        have := (sc_comp hS hok (fun s H C cl fp => sg_of (ok.blk scope s H C cl fp) h2) (fun s H C cl fp => sts_of cs (blkSC c scope) _ ifs (ok.blk scope s H C cl fp) h6) (fun s H C cl fp => se_of elt (blkSC c scope) _ x (ok.blk scope s H C cl fp) h5) (noFold_ok h4) hw).sf (pos := p) ok.calm (by rw [ok.N]; exact ok.nd)
        rw [ownL_map] at this
        exact this.se comp_lst
      · cases h7
    · cases h
theorem sf_of : ∀ (ie : IE) (c : SC) (X : Cx) (e : Expr), GOk c Γ X → chkF c ie e = true → SF X (ev Γ ie) e
  | .bin op a b, c, X, e, ok, h => by
    have : ev Γ (.bin op a b) = fun env S => (ev Γ a env S).bind fun x => (ev Γ b env x.2).bind fun y => (binF op y.2 x.1 y.1).bind fun d => .ok (d, y.2) := by funext env S; simp only [ev]
    rw [this]
    cases op with
    | add =>
      simp only [chkF] at h
      split at h
      · simp only [Bool.and_eq_true] at h
        exact sf_cat (se_of a c X _ ok h.1) (se_of b c X _ ok h.2)
      · cases h
    | _ => simp only [chkF] at h; cases h
  | .lst es, c, X, e, ok, h => by
    have : ev Γ (.lst es) = fun env S => (evs Γ es env S).bind fun x => if x.1.length ≤ lim then .ok (.lst x.1, x.2) else .bad := by funext env S; simp only [ev]
    rw [this]
    simp only [chkF] at h
    split at h
    · rw [Bool.and_eq_true] at h
      exact sf_lst ((ses_of es c X _ ok h.1).evs h.2)
    · cases h
  | .slc a lo hi, c, X, e, ok, h => by
    have : ev Γ (.slc a lo hi) = fun env S => (ev Γ a env S).bind fun x => (evs Γ lo env x.2).bind fun y => (optI y.1).bind fun l => (evs Γ hi env y.2).bind fun z => (optI z.1).bind fun h => (slcF z.2 x.1 l h).bind fun d => .ok (d, z.2) := by funext env S; simp only [ev]
    rw [this]
    simp only [chkF] at h
    split at h
    · simp only [Bool.and_eq_true] at h
      exact sf_slc (se_of a c X _ ok h.1.1) (so_of lo c X _ ok h.1.2) (so_of hi c X _ ok h.2)
    · cases h
  | .slr a, c, X, e, ok, h => by
    have : ev Γ (.slr a) = fun env S => (ev Γ a env S).bind fun x => (revF x.2 x.1).bind fun d => .ok (d, x.2) := by funext env S; simp only [ev]
    rw [this]
    simp only [chkF] at h
    split at h
    · exact sf_rev (se_of a c X _ ok h)
    · cases h
  | .blt b es, c, X, e, ok, h => by
    have : ev Γ (.blt b es) = fun env S => (evs Γ es env S).bind fun x => (bltF b x.2 x.1).bind fun d => .ok (d, x.2) := by funext env S; simp only [ev]
    rw [this]
    simp only [chkF, Bool.and_eq_true] at h
    obtain ⟨h0, h⟩ := h
    split at h
    · rename_i xs hb
      rw [Bool.and_eq_true] at h
      exact sf_bltX ok h0 hb (ses_of es c X xs ok h.1) h.2
    · cases h
  | .compD own elt tg i cs, c, X, e, ok, h => by
    have hE : ev Γ (.compD own elt tg i cs) = fun env S => (lckTF S env[i]?).bind fun p => if p.2.length ≤ lim then
      (compL (isLckT p.1 p.2) (compF tg own (evTs Γ cs) (ev Γ elt) env) (p.2.map (·.1)) (S.set p.1 (.lckT p.2))).bind fun r => lckTE p.1 p.2 r else .bad := by funext env S; simp only [ev]
    rw [hE]
    simp only [chkF] at h
    split at h
    · rename_i x target iter ifs scope p
      simp only [Bool.and_eq_true] at h
      obtain ⟨⟨⟨⟨⟨h1, h2⟩, h3⟩, h4⟩, h5⟩, h6⟩ := h
      obtain ⟨y, py, rfl, h4⟩ := nmIs_ok h4
      have hok : BlkOk X.N X.env.scope scope (ownL c own) := by rw [ok.N, ok.sc]; exact blkOk_by h1
      have hw : ∀ i ∈ tgS tg, i ∈ (ownL c own).map (·.2) := fun i hi => by
        rw [ownL_map]
        exact List.contains_iff_mem.mp (List.all_eq_true.mp h3 i hi)
      obtain ⟨k1, k2, k3, k4⟩ := ok.vis h4
      have := se_compD (p := py) (pos := p) ok.calm (by rw [ok.N]; exact ok.nd) k1 k2 k3 k4 hok (fun s H C cl fp => sg_of (ok.blk scope s H C cl fp) h2) (fun s H C cl fp => sts_of cs (blkSC c scope) _ ifs (ok.blk scope s H C cl fp) h6) (fun s H C cl fp => se_of elt (blkSC c scope) _ x (ok.blk scope s H C cl fp) h5) hw
      rw [ownL_map] at this
      exact this
    · cases h
  | .comp own elt tg k es cs, c, X, e, ok, h => by
    have hE : ev Γ (.comp own elt tg k es cs) = fun env S => (evs Γ es env S).bind fun x => (itF k x.2 x.1).bind fun items => if items.1.length ≤ lim then
      (compL items.2 (compF tg own (evTs Γ cs) (ev Γ elt) env) items.1 x.2).bind fun r => .ok (.lst r.1, r.2) else .bad := by funext env S; simp only [ev]
    rw [hE]
    simp only [chkF] at h
    split at h
    · rename_i x target iter ifs scope p
      simp only [Bool.and_eq_true] at h
      obtain ⟨⟨⟨⟨⟨⟨h1, h2⟩, h3⟩, h4⟩, h5⟩, h6⟩, h7⟩ := h
      split at h7
      · rename_i xs hx
        have hok : BlkOk X.N X.env.scope scope (ownL c own) := by rw [ok.N, ok.sc]; exact blkOk_by h1
        have hw : ∀ i ∈ tgS tg, i ∈ (ownL c own).map (·.2) := fun i hi => by
          rw [ownL_map]
          exact List.contains_iff_mem.mp (List.all_eq_true.mp h3 i hi)
        have hR : k = .revR1 → ∃ a x, es = [a] ∧ xs = [x] ∧ SE X (ev Γ a) x := fun hk => by
          subst hk
          obtain ⟨z, rfl⟩ := itArgs_rev hx
          cases es with
          | nil => simp only [chkL] at h7; cases h7
          | cons a as =>
            simp only [chkL, Bool.and_eq_true] at h7
            cases as with
            | nil => exact ⟨a, z, rfl, rfl, se_of a c X _ ok h7.1⟩
            | cons b bs => have := h7.2; simp only [chkL] at this; cases this
        have hS : SI X k (evs Γ es) target iter := by
          cases k with
          | val =>
            have hx' := hx
            simp only [itArgs] at hx'
            cases hx'
            cases es with
            | nil => simp only [chkL] at h7; cases h7
            | cons a as =>
              cases as with
              | nil =>
                simp only [chkL, Bool.and_eq_true] at h7
                have hSE := se_of a c X _ ok h7.1
                rw [evs_one]
                exact si_val hSE
              | cons b bs => simp only [chkL, Bool.and_eq_true] at h7; cases h7.2
          | _ => exact si_of ok hx (((ses_of es c X _ ok h7).evs (itArgs_star hx (by intro z; cases z)))) (fun z => by cases z) hR
        have := (sc_comp hS hok (fun s H C cl fp => sg_of (ok.blk scope s H C cl fp) h2) (fun s H C cl fp => sts_of cs (blkSC c scope) _ ifs (ok.blk scope s H C cl fp) h6) (fun s H C cl fp => se_of elt (blkSC c scope) _ x (ok.blk scope s H C cl fp) h5) (noFold_ok h4) hw).sf (pos := p) ok.calm (by rw [ok.N]; exact ok.nd)
        rw [ownL_map] at this
        exact this
      · cases h7
    · cases h
  | .var _, c, X, e, ok, h => by simp only [chkF] at h; cases h
  | .cst _, c, X, e, ok, h => by simp only [chkF] at h; cases h
  | .glb _, c, X, e, ok, h => by simp only [chkF] at h; cases h
  | .neg _, c, X, e, ok, h => by simp only [chkF] at h; cases h
  | .not_ _, c, X, e, ok, h => by simp only [chkF] at h; cases h
  | .tru _, c, X, e, ok, h => by simp only [chkF] at h; cases h
  | .and_ _, c, X, e, ok, h => by simp only [chkF] at h; cases h
  | .or_ _, c, X, e, ok, h => by simp only [chkF] at h; cases h
  | .cmp _ _ _, c, X, e, ok, h => by simp only [chkF] at h; cases h
  | .chain _ _ _ _ _, c, X, e, ok, h => by simp only [chkF] at h; cases h
  | .ife _ _ _, c, X, e, ok, h => by simp only [chkF] at h; cases h
  | .tup _, c, X, e, ok, h => by simp only [chkF] at h; cases h
  | .own _, c, X, e, ok, h => by simp only [chkF] at h; cases h
  | .idx _ _, c, X, e, ok, h => by simp only [chkF] at h; cases h
  | .call _ _, c, X, e, ok, h => by simp only [chkF] at h; cases h
  | .isi _ _, c, X, e, ok, h => by simp only [chkF] at h; cases h
  | .mth _ _ _, c, X, e, ok, h => by simp only [chkF] at h; cases h
  | .hole, c, X, e, ok, h => by simp only [chkF] at h; cases h
  | .dct _, c, X, e, ok, h => by simp only [chkF] at h; cases h
  | .ownD _, c, X, e, ok, h => by simp only [chkF] at h; cases h
  | .ownT, c, X, e, ok, h => by simp only [chkF] at h; cases h
theorem sp_of : ∀ (es : List IE) (c : SC) (X : Cx) (p : Pos) (ks : List (Option Expr)) (vs : List Expr), GOk c Γ X → chkP c es ks vs = true → SP X p (evs Γ es) ks vs
  | [], c, X, p, ks, vs, ok, h => by
    simp only [chkP, Bool.and_eq_true, List.isEmpty_iff] at h
    obtain ⟨rfl, rfl⟩ := h
    rw [evs_nil]
    exact sp_nil
  | [_], c, X, p, ks, vs, ok, h => by simp only [chkP] at h; cases h
  | k :: v :: r, c, X, p, ks, vs, ok, h => by
    simp only [chkP] at h
    split at h
    · simp only [Bool.and_eq_true] at h
      have := sp_cons (se_of k c X _ ok h.1.1) (se_of v c X _ ok h.1.2) (sp_of r c X p _ _ ok h.2)
      rw [evs_cons, evs_cons]
      exact this
    · cases h
theorem sfd_of : ∀ (ie : IE) (c : SC) (X : Cx) (e : Expr), GOk c Γ X → chkFD c ie e = true → SFD X (ev Γ ie) e
  | .dct es, c, X, e, ok, h => by
    have hE : ev Γ (.dct es) = fun env S => (evs Γ es env S).bind fun x => match alterD x.1 with
    | some kvs => if kvs.length ≤ 15 then .ok (frzD (dmerge [] kvs), x.2) else .bad
    | none => .bad := by funext env S; simp only [ev] <;> rfl
    simp only [chkFD] at h
    split at h
    · rename_i ks vs p
      rw [Bool.and_eq_true, decide_eq_true_eq] at h
      rw [hE]
      exact sfd_of_disp (sp_of es c X p _ _ ok h.1) h.2 (chkP_len es c ks vs h.1)
    · cases h
  | .blt b es, c, X, e, ok, h => by
    have : ev Γ (.blt b es) = fun env S => (evs Γ es env S).bind fun x => (bltF b x.2 x.1).bind fun d => .ok (d, x.2) := by funext env S; simp only [ev]
    rw [this]
    cases b with
    | dict =>
      simp only [chkFD] at h
      split at h
      · rename_i x p xs q
        simp only [Bool.and_eq_true] at h
        obtain ⟨⟨⟨⟨h1, h2⟩, h3⟩, h4⟩, h5⟩ := h
        have h1 := of_decide_eq_true h1
        subst h1
        obtain ⟨y, r, rfl⟩ := isEmpty_ne h5
        exact sfd_bltT (call_dictP ok.calm) new_dict (ok.gl h2) (ok.blt _ (by decide +kernel)) (by decide +kernel) ((ses_of es c X _ ok h3).evs h4) h4 (by decide +kernel) (by decide +kernel)
      · cases h
    | _ => simp only [chkFD] at h; cases h
  | .var _, c, X, e, ok, h => by simp only [chkFD] at h; cases h
  | .cst _, c, X, e, ok, h => by simp only [chkFD] at h; cases h
  | .glb _, c, X, e, ok, h => by simp only [chkFD] at h; cases h
  | .bin _ _ _, c, X, e, ok, h => by simp only [chkFD] at h; cases h
  | .neg _, c, X, e, ok, h => by simp only [chkFD] at h; cases h
  | .not_ _, c, X, e, ok, h => by simp only [chkFD] at h; cases h
  | .tru _, c, X, e, ok, h => by simp only [chkFD] at h; cases h
  | .and_ _, c, X, e, ok, h => by simp only [chkFD] at h; cases h
  | .or_ _, c, X, e, ok, h => by simp only [chkFD] at h; cases h
  | .cmp _ _ _, c, X, e, ok, h => by simp only [chkFD] at h; cases h
  | .chain _ _ _ _ _, c, X, e, ok, h => by simp only [chkFD] at h; cases h
  | .ife _ _ _, c, X, e, ok, h => by simp only [chkFD] at h; cases h
  | .tup _, c, X, e, ok, h => by simp only [chkFD] at h; cases h
  | .lst _, c, X, e, ok, h => by simp only [chkFD] at h; cases h
  | .own _, c, X, e, ok, h => by simp only [chkFD] at h; cases h
  | .ownD _, c, X, e, ok, h => by simp only [chkFD] at h; cases h
  | .idx _ _, c, X, e, ok, h => by simp only [chkFD] at h; cases h
  | .slc _ _ _, c, X, e, ok, h => by simp only [chkFD] at h; cases h
  | .slr _, c, X, e, ok, h => by simp only [chkFD] at h; cases h
  | .call _ _, c, X, e, ok, h => by simp only [chkFD] at h; cases h
  | .isi _ _, c, X, e, ok, h => by simp only [chkFD] at h; cases h
  | .mth _ _ _, c, X, e, ok, h => by simp only [chkFD] at h; cases h
  | .comp _ _ _ _ _ _, c, X, e, ok, h => by simp only [chkFD] at h; cases h
  | .ownT, c, X, e, ok, h => by simp only [chkFD] at h; cases h
  | .compD _ _ _ _ _, c, X, e, ok, h => by simp only [chkFD] at h; cases h
  | .hole, c, X, e, ok, h => by simp only [chkFD] at h; cases h
theorem ses_of : ∀ (es : List IE) (c : SC) (X : Cx) (xs : List Expr), GOk c Γ X → chkL c es xs = true → SEs X (es.map (ev Γ)) xs
  | [], c, X, xs, ok, h => by
    simp only [chkL, List.isEmpty_iff] at h
    subst h
    exact .nil
  | a :: as, c, X, xs, ok, h => by
    simp only [chkL] at h
    split at h
    · rw [Bool.and_eq_true] at h
      exact .cons (se_of a c X _ ok h.1) (ses_of as c X _ ok h.2)
    · cases h
theorem so_of : ∀ (es : List IE) (c : SC) (X : Cx) (o : Option Expr), GOk c Γ X → chkO c es o = true → SO X (evs Γ es) o
  | [], c, X, o, ok, h => by
    simp only [chkO, Option.isNone_iff_eq_none] at h
    subst h
    rw [evs_nil]
    exact so_none
  | [a], c, X, o, ok, h => by
    simp only [chkO] at h
    split at h
    · rw [evs_one]
      exact so_some (se_of a c X _ ok h)
    · cases h
  | a :: b :: as, c, X, o, ok, h => by simp only [chkO] at h; cases h
theorem st_of : ∀ (ie : IE) (c : SC) (X : Cx) (e : Expr), GOk c Γ X → chkT c ie e = true → ST X (evT Γ ie) e
  | .cmp op a b, c, X, e, ok, h => by
    have : evT Γ (.cmp op a b) = fun env S => (ev Γ a env S).bind fun x => (ev Γ b env x.2).bind fun y => (cmpF op y.2 x.1 y.1).bind fun k => .ok (k, y.2) := by funext env S; simp only [evT]
    rw [this]
    simp only [chkT] at h
    split at h
    · simp only [Bool.and_eq_true] at h
      obtain ⟨⟨⟨h1, h2⟩, h3⟩, h4⟩ := h
      rw [beqC_ok h1]
      exact st_cmpA (Nat.lt_of_succ_lt ok.units) (se_of a c X _ ok h2) (se_of b c X _ ok h3) h4
    · cases h
  | .chain o1 o2 a b d, c, X, e, ok, h => by
    have : evT Γ (.chain o1 o2 a b d) = fun env S => (ev Γ a env S).bind fun x => (ev Γ b env x.2).bind fun y => (cmpF0 o1 y.2 x.1 y.1).bind fun k =>
      if k then (ev Γ d env y.2).bind fun z => (cmpF0 o2 z.2 y.1 z.1).bind fun k2 => .ok (k2, z.2) else .ok (false, y.2) := by funext env S; simp only [evT]
    rw [this]
    simp only [chkT] at h
    split at h
    · simp only [Bool.and_eq_true] at h
      obtain ⟨⟨⟨⟨⟨h1, h2⟩, h3⟩, h4⟩, h5⟩, h6⟩ := h
      rw [beqC_ok h1, beqC_ok h2]
      exact st_chain (Nat.lt_of_succ_lt ok.units) (se_of a c X _ ok h3) (se_of b c X _ ok h4) (se_of d c X _ ok h5) h6
    · cases h
  | .not_ a, c, X, e, ok, h => by
    have : evT Γ (.not_ a) = fun env S => (evT Γ a env S).bind fun k => .ok (!k.1, k.2) := by funext env S; simp only [evT]
    rw [this]
    simp only [chkT] at h
    split at h
    · exact st_not (st_of a c X _ ok h)
    · cases h
  | .tru a, c, X, e, ok, h => by
    have : evT Γ (.tru a) = fun env S => (ev Γ a env S).bind fun x => (truF x.2 x.1).bind fun k => .ok (k, x.2) := by funext env S; simp only [evT]
    rw [this]
    simp only [chkT, Bool.and_eq_true] at h
    exact st_tru (se_of a c X _ ok h.1) h.2
  | .and_ es, c, X, e, ok, h => by
    have : evT Γ (.and_ es) = evTAnd Γ es := by funext env S; simp only [evT]
    rw [this]
    simp only [chkT] at h
    split at h
    · rw [Bool.and_eq_true] at h
      exact (stand_of es c X _ _ ok h.1 h.2).st
    · cases h
  | .or_ es, c, X, e, ok, h => by
    have : evT Γ (.or_ es) = evTOr Γ es := by funext env S; simp only [evT]
    rw [this]
    simp only [chkT] at h
    split at h
    · rw [Bool.and_eq_true] at h
      exact (stor_of es c X _ _ ok h.1 h.2).st
    · cases h
  | .var _, c, X, e, ok, h => by simp only [chkT] at h; cases h
  | .cst _, c, X, e, ok, h => by simp only [chkT] at h; cases h
  | .glb _, c, X, e, ok, h => by simp only [chkT] at h; cases h
  | .bin _ _ _, c, X, e, ok, h => by simp only [chkT] at h; cases h
  | .neg _, c, X, e, ok, h => by simp only [chkT] at h; cases h
  | .lst _, c, X, e, ok, h => by simp only [chkT] at h; cases h
  | .ife _ _ _, c, X, e, ok, h => by simp only [chkT] at h; cases h
  | .tup _, c, X, e, ok, h => by simp only [chkT] at h; cases h
  | .own _, c, X, e, ok, h => by simp only [chkT] at h; cases h
  | .idx _ _, c, X, e, ok, h => by simp only [chkT] at h; cases h
  | .slc _ _ _, c, X, e, ok, h => by simp only [chkT] at h; cases h
  | .call _ _, c, X, e, ok, h => by simp only [chkT] at h; cases h
  | .blt _ _, c, X, e, ok, h => by simp only [chkT] at h; cases h
  | .isi _ _, c, X, e, ok, h => by simp only [chkT] at h; cases h
  | .mth _ _ _, c, X, e, ok, h => by simp only [chkT] at h; cases h
  | .comp _ _ _ _ _ _, c, X, e, ok, h => by simp only [chkT] at h; cases h
  | .ownT, c, X, e, ok, h => by simp only [chkT] at h; cases h
  | .compD _ _ _ _ _, c, X, e, ok, h => by simp only [chkT] at h; cases h
  | .hole, c, X, e, ok, h => by simp only [chkT] at h; cases h
  | .slr _, c, X, e, ok, h => by simp only [chkT] at h; cases h
  | .dct _, c, X, e, ok, h => by simp only [chkT] at h; cases h
  | .ownD _, c, X, e, ok, h => by simp only [chkT] at h; cases h
theorem stand_of : ∀ (es : List IE) (c : SC) (X : Cx) (xs : List Expr) (p : Pos), GOk c Γ X → chkTL c es xs = true → (!xs.isEmpty) = true → SW X (evTAnd Γ es) (.BoolOp .And xs p)
  | [], c, X, xs, p, ok, h, hn => by
    simp only [chkTL] at h
    rw [h] at hn; cases hn
  | a :: as, c, X, xs, p, ok, h, hn => by
    have hE : evTAnd Γ (a :: as) = fun env S => (evT Γ a env S).bind fun k => if k.1 then evTAnd Γ as env k.2 else .ok (false, k.2) := by funext env S; simp only [evTAnd]
    simp only [chkTL] at h
    split at h
    · rename_i x ys
      rw [Bool.and_eq_true] at h
      rw [hE]
      cases as with
      | nil =>
        have h2 := h.2
        simp only [chkTL, List.isEmpty_iff] at h2
        subst h2
        have e : evTAnd Γ [] = fun _ S => .ok (true, S) := by funext env S; simp only [evTAnd]
        rw [e]
        exact sw_and1 (st_of a c X _ ok h.1)
      | cons b bs =>
        cases ys with
        | nil => have h2 := h.2; simp only [chkTL] at h2; cases h2
        | cons y ys => exact sw_and (st_of a c X _ ok h.1) (stand_of (b :: bs) c X (y :: ys) p ok h.2 rfl)
    · cases h
theorem stor_of : ∀ (es : List IE) (c : SC) (X : Cx) (xs : List Expr) (p : Pos), GOk c Γ X → chkTL c es xs = true → (!xs.isEmpty) = true → SW X (evTOr Γ es) (.BoolOp .Or xs p)
  | [], c, X, xs, p, ok, h, hn => by
    simp only [chkTL] at h
    rw [h] at hn; cases hn
  | a :: as, c, X, xs, p, ok, h, hn => by
    have hE : evTOr Γ (a :: as) = fun env S => (evT Γ a env S).bind fun k => if k.1 then .ok (true, k.2) else evTOr Γ as env k.2 := by funext env S; simp only [evTOr]
    simp only [chkTL] at h
    split at h
    · rename_i x ys
      rw [Bool.and_eq_true] at h
      rw [hE]
      cases as with
      | nil =>
        have h2 := h.2
        simp only [chkTL, List.isEmpty_iff] at h2
        subst h2
        have e : evTOr Γ [] = fun _ S => .ok (false, S) := by funext env S; simp only [evTOr]
        rw [e]
        exact sw_or1 (st_of a c X _ ok h.1)
      | cons b bs =>
        cases ys with
        | nil => have h2 := h.2; simp only [chkTL] at h2; cases h2
        | cons y ys => exact sw_or (st_of a c X _ ok h.1) (stor_of (b :: bs) c X (y :: ys) p ok h.2 rfl)
    · cases h
theorem sand_of : ∀ (es : List IE) (c : SC) (X : Cx) (xs : List Expr) (p : Pos), GOk c Γ X → chkL c es xs = true → (!xs.isEmpty) = true → SE X (evAnd Γ es) (.BoolOp .And xs p)
  | [], c, X, xs, p, ok, h, hn => by
    simp only [chkL] at h
    rw [h] at hn; cases hn
  | [a], c, X, xs, p, ok, h, hn => by
    have hE : evAnd Γ [a] = ev Γ a := by funext env S; simp only [evAnd]
    simp only [chkL] at h
    split at h
    · rw [Bool.and_eq_true, List.isEmpty_iff] at h
      rw [hE, h.2]
      exact se_one (se_of a c X _ ok h.1)
    · cases h
  | a :: b :: bs, c, X, xs, p, ok, h, hn => by
    have hE : evAnd Γ (a :: b :: bs) = fun env S => (ev Γ a env S).bind fun x => match x.1 with | .bl true => evAnd Γ (b :: bs) env x.2 | .bl false => .ok (.bl false, x.2) | _ => .bad := by funext env S; simp only [evAnd] <;> rfl
    cases xs with
    | nil => cases hn
    | cons x ys =>
      have h' : (chk c a x && chkL c (b :: bs) ys) = true := h
      rw [Bool.and_eq_true] at h'
      rw [hE]
      cases ys with
      | nil => have h2 := h'.2; simp only [chkL] at h2; cases h2
      | cons y ys => exact se_and (se_of a c X _ ok h'.1) (sand_of (b :: bs) c X (y :: ys) p ok h'.2 rfl)
theorem sor_of : ∀ (es : List IE) (c : SC) (X : Cx) (xs : List Expr) (p : Pos), GOk c Γ X → chkL c es xs = true → (!xs.isEmpty) = true → SE X (evOr Γ es) (.BoolOp .Or xs p)
  | [], c, X, xs, p, ok, h, hn => by
    simp only [chkL] at h
    rw [h] at hn; cases hn
  | [a], c, X, xs, p, ok, h, hn => by
    have hE : evOr Γ [a] = ev Γ a := by funext env S; simp only [evOr]
    simp only [chkL] at h
    split at h
    · rw [Bool.and_eq_true, List.isEmpty_iff] at h
      rw [hE, h.2]
      exact se_one (se_of a c X _ ok h.1)
    · cases h
  | a :: b :: bs, c, X, xs, p, ok, h, hn => by
    have hE : evOr Γ (a :: b :: bs) = fun env S => (ev Γ a env S).bind fun x => match x.1 with | .bl false => evOr Γ (b :: bs) env x.2 | .bl true => .ok (.bl true, x.2) | _ => .bad := by funext env S; simp only [evOr] <;> rfl
    cases xs with
    | nil => cases hn
    | cons x ys =>
      have h' : (chk c a x && chkL c (b :: bs) ys) = true := h
      rw [Bool.and_eq_true] at h'
      rw [hE]
      cases ys with
      | nil => have h2 := h'.2; simp only [chkL] at h2; cases h2
      | cons y ys => exact se_or (se_of a c X _ ok h'.1) (sor_of (b :: bs) c X (y :: ys) p ok h'.2 rfl)
theorem sts_of : ∀ (es : List IE) (c : SC) (X : Cx) (xs : List Expr), GOk c Γ X → chkTs c es xs = true → STs X (evTs Γ es) xs
  | [], c, X, xs, ok, h => by
    have e : evTs Γ [] = fun _ S => .ok (true, S) := by funext env S; simp only [evTs]
    simp only [chkTs, List.isEmpty_iff] at h
    rw [e, h]
    exact sts_nil
  | [a], c, X, xs, ok, h => by
    have e : evTs Γ [a] = evT Γ a := by funext env S; simp only [evTs]
    simp only [chkTs] at h
    split at h
    · rw [e]
      exact sts_one (st_of a c X _ ok h)
    · cases h
  | a :: b :: bs, c, X, xs, ok, h => by simp only [chkTs] at h; cases h
end
end
end TK

/-! TKl: statements, bodies, whole programs. -/
namespace TK
open PySem PySem.Spec PyProof.Rows L2
/-- name = [..] where the store is made within the comprehension -/
theorem ss_comp {X : Cx} {f : M1} {elt target iter : Expr} {ifs : List Expr} {scope : Scope} {pos spos p : Pos} {i : Nat} {y : Str} (hc : X.calm = true) (hN : X.N.Nodup) (hy : X.N[i]? = some y) (hyl : X.env.scope.names.lookup y = some .local)
    (hsw : swapsWith (.ListComp elt [⟨target, iter, ifs, 0⟩] scope pos) (some (.Name y p)) spos.line X.env = pure true) (h : SCp X f elt target iter ifs scope) (hl : ∀ env S d S', f env S = .ok (d, S') → ∃ ds, d = .lst ds) :
    SS X (fun env S => (f env S).bind fun x => (setT (.one i) x.2 x.1 env).bind fun env' => .ok (.nx, env', x.2)) (.Assign [.Name y p] (.ListComp elt [⟨target, iter, ifs, 0⟩] scope pos) spos) := by
  obtain ⟨own, wi, g, tt, te, h1, h2, h3, h4, h5, h6, h7⟩ := h
  refine ⟨_, ps_setLc hc hN hy hyl hsw h1 h2 h3 h4 h5 h6, fun σ H μ env S fl env' S' r re hf D q => ?_⟩
  obtain ⟨⟨x, S1⟩, e1, hf⟩ := R.bind_eq_ok hf
  cases hf
  obtain ⟨ds, rfl⟩ := hl _ _ _ _ e1
  refine h7 σ H μ env S ds S1 r re e1 _ (FinN.of fun v H' μ' r' x' rv => ?_)
  exact q _ H' μ' r' x' ((re.ext x').set i rv)
theorem ss_compO {X : Cx} {f : M1} {elt target iter : Expr} {ifs : List Expr} {scope : Scope} {pos spos p : Pos} {i : Nat} {y : Str} (hc : X.calm = true) (hN : X.N.Nodup) (hy : X.N[i]? = some y) (hyl : X.env.scope.names.lookup y = some .local)
    (hsw : swapsWith (.ListComp elt [⟨target, iter, ifs, 0⟩] scope pos) (some (.Name y p)) spos.line X.env = pure true) (h : SCp X f elt target iter ifs scope) :
    SS X (fun env S => ((f env S).bind fun x => allocL x.2 x.1).bind fun x => (setT (.one i) x.2 x.1 env).bind fun env' => .ok (.nx, env', x.2)) (.Assign [.Name y p] (.ListComp elt [⟨target, iter, ifs, 0⟩] scope pos) spos) := by
  obtain ⟨own, wi, g, tt, te, h1, h2, h3, h4, h5, h6, h7⟩ := h
  refine ⟨_, ps_setLc hc hN hy hyl hsw h1 h2 h3 h4 h5 h6, fun σ H μ env S fl env' S' r re hf D q => ?_⟩
  obtain ⟨⟨x, S1⟩, e1, hf⟩ := R.bind_eq_ok hf
  obtain ⟨⟨d1, S2⟩, e2, e3⟩ := R.bind_eq_ok e1
  have hd : ∃ ds, d1 = .lst ds := by
    cases d1 with
    | lst ds => exact ⟨ds, rfl⟩
    | _ => cases e3
  obtain ⟨ds, rfl⟩ := hd
  cases e3
  cases hf
  refine h7 σ H μ env S ds S2 r re e2 _ fun p vs H' μ' r' x' hp rv => ?_
  have xa := Ext.alloc (o := .lst vs) r' hp
  have hx : Ext μ S.length H (muAdd μ' S2.length p) (S2 ++ [O.lst ds]).length (upd H' p (HO.lst vs)) := by
    rw [List.length_append, List.length_singleton]; exact x'.trans xa
  refine q _ _ (muAdd μ' S2.length p) (Rel.alloc r' hp (by simp only [RepO]; exact ⟨vs, rfl, rv⟩)) hx ((re.ext hx).set i ?_)
  simp only [RepV]
  exact ⟨by rw [List.length_append, List.length_singleton]; omega, by rw [muAdd_new]⟩
/-- is the store made within? -/
def swapB (c : SC) (e : Expr) (t : Str) (p : Pos) : Bool := match e with
  | .ListComp _ _ scope vp => decide (c.sc.names.lookup t = some .local) && (p.line == vp.line) && !(scope.names.any fun (n, k) => n == t && (k == .local || k == .cell))
  | _ => false
def plainV : Expr → Bool
  | .SetComp _ _ _ _ => false
  | .DictComp _ _ _ _ _ => false
  | _ => true
theorem swap_no {c : SC} {Γ : Ctx} {X : Cx} (ok : GOk c Γ X) {e : Expr} {t : Str} {p : Pos} {l : Nat} (h : swapB c e t p = false) (hp : plainV e = true) : swapsWith e (some (.Name t p)) l X.env = pure false := by
  cases e with
  | ListComp elt gs scope vp =>
    show (pure (X.env.blockKind == .function && X.env.kindOf t == some .local && p.line == vp.line && !(scope.names.any fun (n, k) => n == t && (k == .local || k == .cell))) : Sem Bool) = pure false
    congr 1
    have e1 : (X.env.kindOf t == some .local) = decide (c.sc.names.lookup t = some .local) := by
      show (X.env.scope.names.lookup t == some .local) = _
      rw [ok.sc]
      by_cases q : c.sc.names.lookup t = some .local
      · rw [q]; rfl
      · rw [decide_eq_false q]
        exact beq_eq_false_iff_ne.mpr q
    rw [e1]
    have h' : (decide (c.sc.names.lookup t = some .local) && (p.line == vp.line) && !(scope.names.any fun (n, k) => n == t && (k == .local || k == .cell))) = false := h
    have e2 : ∀ a b c d : Bool, (a && b && c && d) = (a && (b && c && d)) := by decide
    rw [e2, h', Bool.and_false]
  | SetComp => cases hp
  | DictComp => cases hp
  | _ => rfl
theorem swap_yes {c : SC} {Γ : Ctx} {X : Cx} (ok : GOk c Γ X) (hk : X.env.scope.kind = .function) {elt : Expr} {gs : List Comprehension} {scope : Scope} {vp : Pos} {t : Str} {p : Pos} {l : Nat} (h : swapB c (.ListComp elt gs scope vp) t p = true) :
    X.env.scope.names.lookup t = some .local ∧ swapsWith (.ListComp elt gs scope vp) (some (.Name t p)) l X.env = pure true := by
  unfold swapB at h
  simp only [Bool.and_eq_true, decide_eq_true_eq] at h
  obtain ⟨⟨h1, h2⟩, h3⟩ := h
  rw [← ok.sc] at h1
  exact ⟨h1, sw_true hk h1 h2 (by simpa using h3)⟩
/-- a comprehension's check, by parts -/
def chkC (c : SC) (ie : IE) (e : Expr) : Bool := match ie with
  | .comp own elt tg k es cs => chk c (.comp own elt tg k es cs) e
  | .own (.comp own elt tg k es cs) => chk c (.comp own elt tg k es cs) e
  | .compD own elt tg i cs => chk c (.compD own elt tg i cs) e
  | _ => false
def chkDi (c : SC) (k : DIt) (i : Nat) (iter : Expr) : Bool := match k with
  | .keys => match iter with
    | .Name x _ => vis c i x
    | _ => false
  | .vals => match iter with
    | .Call (.Attribute (.Name x _) nm ap) [] [] cp => decide (nm = ("values" : Str)) && vis c i x && (ap.endLine == cp.line)
    | _ => false
  | .items => match iter with
    | .Call (.Attribute (.Name x _) nm ap) [] [] cp => decide (nm = ("items" : Str)) && vis c i x && (ap.endLine == cp.line)
    | _ => false
theorem chkDi_ok {c : SC} {k : DIt} {i : Nat} {iter : Expr} (h : chkDi c k i iter = true) : ∃ x p ap cp, iter = diEx k x p ap cp ∧ vis c i x = true ∧ (ap.endLine == cp.line) = true := by
  unfold chkDi at h
  split at h
  · split at h
    · rename_i x p
      exact ⟨x, p, ⟨0, 0, 0, 0⟩, ⟨0, 0, 0, 0⟩, rfl, h, rfl⟩
    · cases h
  · split at h
    · simp only [Bool.and_eq_true, decide_eq_true_eq] at h
      obtain ⟨⟨rfl, h2⟩, h3⟩ := h
      exact ⟨_, _, _, _, rfl, h2, h3⟩
    · cases h
  · split at h
    · simp only [Bool.and_eq_true, decide_eq_true_eq] at h
      obtain ⟨⟨rfl, h2⟩, h3⟩ := h
      exact ⟨_, _, _, _, rfl, h2, h3⟩
    · cases h
/-- a, b = e1, e2 -/
def parS (c : SC) (is : List Nat) (a : IE) (t e : Expr) : Bool := match is, a, t, e with
  | [i, j], .tup [p, q], .Tuple [.Name x px, .Name y py] _ _, .Tuple [u, v] _ _ =>
    decide (c.N[i]? = some x) && decide (c.N[j]? = some y) && decide (i ≠ j) && decide (c.sc.names.lookup x = some .local) && decide (c.sc.names.lookup y = some .local) && decide (¬ x = y) && (px.line == py.line) &&
      noStar u && noStar v && !(foldedForSure 8 u && foldedForSure 8 v) && !(constantsAlone 8 u && constantsAlone 8 v) && chkL c [p, q] [u, v]
  | [i, j, l], .tup [p, q, r], .Tuple [.Name x px, .Name y py, .Name z pz] _ _, .Tuple [u, v, w] _ _ =>
    decide (c.N[i]? = some x) && decide (c.N[j]? = some y) && decide (c.N[l]? = some z) && decide (i ≠ j) && decide (i ≠ l) && decide (j ≠ l) && decide (c.sc.names.lookup x = some .local) && decide (c.sc.names.lookup y = some .local) && decide (c.sc.names.lookup z = some .local) &&
      decide (¬ x = y) && decide (¬ x = z) && decide (¬ y = z) && (px.line == py.line) && (px.line == pz.line) && noStar u && noStar v && noStar w &&
      !(foldedForSure 8 u && (foldedForSure 8 v && foldedForSure 8 w)) && !(constantsAlone 8 u && (constantsAlone 8 v && constantsAlone 8 w)) && chkL c [p, q, r] [u, v, w]
  | _, _, _, _ => false
mutual
def chkS (c : SC) : IS → Stmt → Bool
  | .expr a, s => match s with
    | .Expr e _ => chk c a e && noComp e
    | _ => false
  | .asg tg a, s => match s with
    | .Assign [t] e _ => (match tg with
      | .one i => (match t with
        | .Name x p => sto c i x && (if swapB c e x p then chkC c a e else chk c a e && plainV e)
        | _ => false)
      | .many is => (match t with
        | .Tuple ts _ _ => (chkTg c (.many is) t && chk c a e && noComp e && (noTup e || ts.any (notLoc c.sc))) || parS c is a t e
        | _ => false))
    | _ => false
  | .setix o i a, s => match s with
    | .Assign [.Subscript x y _] e _ => chk c o x && chk c i y && chk c a e && noComp e && noSlice y
    | _ => false
  | .aug i op a, s => match s with
    | .AugAssign (.Name x _) o e _ => sto c i x && beqB op o && chk c a e
    | _ => false
  | .if_ t a b, s => match s with
    | .If e x y _ => chkT c t e && chkSs c a x && chkSs c b y
    | _ => false
  | .while_ t b, s => match s with
    | .While e x [] _ => chkT c t e && chkSs c b x
    | _ => false
  | .for_ tg k es b, s => match s with
    | .For target iter x [] _ => chkTg c tg target && noFold iter && chkI c k es target iter && chkSs c b x
    | _ => false
  | .ret a, s => match s with
    | .Return (some e) _ => chk c a e
    | _ => false
  | .retN, s => match s with
    | .Return none _ => true
    | _ => false
  | .pass, s => match s with
    | .Pass _ => true
    | _ => false
  | .brk, s => match s with
    | .Break _ => true
    | _ => false
  | .cnt, s => match s with
    | .Continue _ => true
    | _ => false
  | .hole, _ => true
  | .forD tg k i b, s => match s with
    | .For target iter x [] _ => chkTg c tg target && diTg k target && chkDi c k i iter && chkSs c b x
    | _ => false
  | .setix2 o i o2 i2 a, s => match s with
    | .Assign [.Tuple [.Subscript x y _, .Subscript x2 y2 _] _ _] e _ => chk c o x && chk c i y && chk c o2 x2 && chk c i2 y2 && chk c a e && noComp e && noSlice y && noSlice y2
    | _ => false
  | .setT o ks a, s => match s with
    | .Assign [.Subscript x (.Tuple ys _ _) _] e _ => chk c o x && chkL c ks ys && ys.all noStar && chk c a e && noComp e
    | _ => false
  | .forT tg i b, s => match s with
    | .For target iter x [] _ => chkTg c tg target && nmIs c i iter && chkSs c b x
    | _ => false
  | .augix o i op a, s => match s with
    | .AugAssign (.Subscript x y _) o2 e _ => chk c o x && chk c i y && beqB op o2 && chk c a e && noSlice y
    | _ => false
def chkSs (c : SC) : List IS → List Stmt → Bool
  | [], xs => xs.isEmpty
  | a :: as, xs => match xs with
    | x :: xs => chkS c a x && chkSs c as xs
    | [] => false
end
section
variable {Γ : Ctx}
theorem rev_args {c : SC} {X : Cx} (ok : GOk c Γ X) {es : List IE} {tg iter : Expr} {xs : List Expr} (hx : itArgs c .revR1 tg iter = some xs) (h : chkL c es xs = true) : ∃ a x, es = [a] ∧ xs = [x] ∧ SE X (ev Γ a) x := by
  obtain ⟨z, rfl⟩ := itArgs_rev hx
  cases es with
  | nil => simp only [chkL] at h; cases h
  | cons a as =>
    simp only [chkL, Bool.and_eq_true] at h
    cases as with
    | nil => exact ⟨a, z, rfl, rfl, se_of a c X _ ok h.1⟩
    | cons b bs => have := h.2; simp only [chkL] at this; cases this
theorem si_ofI {c : SC} {X : Cx} (ok : GOk c Γ X) {k : ItK} {es : List IE} {tg iter : Expr} (h : chkI c k es tg iter = true) : SI X k (evs Γ es) tg iter := by
  unfold chkI at h
  split at h
  · rename_i xs hx
    cases k with
    | val =>
      have hx' := hx
      simp only [itArgs] at hx'
      cases hx'
      cases es with
      | nil => simp only [chkL] at h; cases h
      | cons a as =>
        cases as with
        | nil =>
          simp only [chkL, Bool.and_eq_true] at h
          rw [evs_one]
          exact si_val (se_of a c X _ ok h.1)
        | cons b bs => simp only [chkL, Bool.and_eq_true] at h; cases h.2
    | _ => exact si_of ok hx ((ses_of es c X _ ok h).evs (itArgs_star hx (by intro z; cases z))) (fun z => by cases z) (fun hk => by
        cases hk <;> exact rev_args ok hx h)
  · cases h
theorem sc_of {c : SC} {X : Cx} (ok : GOk c Γ X) {own : List Nat} {elt : IE} {tg : Tg} {k : ItK} {es cs : List IE} {x target iter : Expr} {ifs : List Expr} {scope : Scope} {p : Pos} (h : chk c (.comp own elt tg k es cs) (.ListComp x [⟨target, iter, ifs, 0⟩] scope p) = true) :
    SCp X (ev Γ (.comp own elt tg k es cs)) x target iter ifs scope := by
  have hE : ev Γ (.comp own elt tg k es cs) = fun env S => (evs Γ es env S).bind fun x => (itF k x.2 x.1).bind fun items => if items.1.length ≤ lim then
      (compL items.2 (compF tg own (evTs Γ cs) (ev Γ elt) env) items.1 x.2).bind fun r => .ok (.lst r.1, r.2) else .bad := by funext env S; simp only [ev]
  rw [hE]
  simp only [chk, Bool.and_eq_true] at h
  obtain ⟨⟨⟨⟨⟨⟨h1, h2⟩, h3⟩, h4⟩, h5⟩, h6⟩, h7⟩ := h
  have hok : BlkOk X.N X.env.scope scope (ownL c own) := by rw [ok.N, ok.sc]; exact blkOk_by h1
  have hw : ∀ i ∈ tgS tg, i ∈ (ownL c own).map (·.2) := fun i hi => by
    rw [ownL_map]
    exact List.contains_iff_mem.mp (List.all_eq_true.mp h3 i hi)
  have hS : SI X k (evs Γ es) target iter := si_ofI ok (by unfold chkI; exact h7)
  have := sc_comp hS hok (fun s H C cl fp => sg_of (ok.blk scope s H C cl fp) h2) (fun s H C cl fp => sts_of cs (blkSC c scope) _ ifs (ok.blk scope s H C cl fp) h6) (fun s H C cl fp => se_of elt (blkSC c scope) _ x (ok.blk scope s H C cl fp) h5) (noFold_ok h4) hw
  rw [ownL_map] at this
  exact this
theorem scD_of {c : SC} {X : Cx} (ok : GOk c Γ X) {own : List Nat} {elt : IE} {tg : Tg} {i : Nat} {cs : List IE} {x target : Expr} {y : Str} {py : Pos} {ifs : List Expr} {scope : Scope} {p : Pos} (h : chk c (.compD own elt tg i cs) (.ListComp x [⟨target, .Name y py, ifs, 0⟩] scope p) = true) :
    SCp X (cmpLT i tg own (evTs Γ cs) (ev Γ elt)) x target (.Name y py) ifs scope := by
  simp only [chk, Bool.and_eq_true] at h
  obtain ⟨⟨⟨⟨⟨h1, h2⟩, h3⟩, h4⟩, h5⟩, h6⟩ := h
  obtain ⟨y', py', hh, h4⟩ := nmIs_ok h4
  cases hh
  have hok : BlkOk X.N X.env.scope scope (ownL c own) := by rw [ok.N, ok.sc]; exact blkOk_by h1
  have hw : ∀ i ∈ tgS tg, i ∈ (ownL c own).map (·.2) := fun i hi => by
    rw [ownL_map]
    exact List.contains_iff_mem.mp (List.all_eq_true.mp h3 i hi)
  obtain ⟨k1, k2, k3, k4⟩ := ok.vis h4
  have := scp_dictT (p := py) k1 k2 k3 k4 hok (fun s H C cl fp => sg_of (ok.blk scope s H C cl fp) h2) (fun s H C cl fp => sts_of cs (blkSC c scope) _ ifs (ok.blk scope s H C cl fp) h6) (fun s H C cl fp => se_of elt (blkSC c scope) _ x (ok.blk scope s H C cl fp) h5) hw
  rw [ownL_map] at this
  exact this
theorem compD_is {c : SC} {own : List Nat} {elt : IE} {tg : Tg} {i : Nat} {cs : List IE} {e : Expr} (h : chk c (.compD own elt tg i cs) e = true) : ∃ x target y py ifs scope p, e = .ListComp x [⟨target, .Name y py, ifs, 0⟩] scope p := by
  simp only [chk] at h
  split at h
  · simp only [Bool.and_eq_true] at h
    obtain ⟨y, py, rfl, _⟩ := nmIs_ok h.1.1.2
    exact ⟨_, _, _, _, _, _, _, rfl⟩
  · cases h
theorem comp_is {c : SC} {own : List Nat} {elt : IE} {tg : Tg} {k : ItK} {es cs : List IE} {e : Expr} (h : chk c (.comp own elt tg k es cs) e = true) : ∃ x target iter ifs scope p, e = .ListComp x [⟨target, iter, ifs, 0⟩] scope p := by
  simp only [chk] at h
  split at h
  · exact ⟨_, _, _, _, _, _, rfl⟩
  · cases h
theorem ev_comp_lst {own : List Nat} {elt : IE} {tg : Tg} {k : ItK} {es cs : List IE} : ∀ env S d S', ev Γ (.comp own elt tg k es cs) env S = .ok (d, S') → ∃ ds, d = .lst ds := by
  intro env S d S' h
  have hE : ev Γ (.comp own elt tg k es cs) = fun env S => (evs Γ es env S).bind fun x => (itF k x.2 x.1).bind fun items => if items.1.length ≤ lim then
      (compL items.2 (compF tg own (evTs Γ cs) (ev Γ elt) env) items.1 x.2).bind fun r => .ok (.lst r.1, r.2) else .bad := by funext env S; simp only [ev]
  rw [hE] at h
  exact comp_lst env S d S' h
mutual
theorem ss_of : ∀ (is : IS) (c : SC) (X : Cx) (s : Stmt), GOk c Γ X → X.env.scope.kind = .function → chkS c is s = true → SS X (ex Γ is) s
  | .expr a, c, X, s, ok, hk, h => by
    have : ex Γ (.expr a) = fun env S => (ev Γ a env S).bind fun x => .ok (.nx, env, x.2) := by funext env S; simp only [ex]
    rw [this]
    simp only [chkS] at h
    split at h
    · rw [Bool.and_eq_true] at h
      exact ss_expr (se_of a c X _ ok h.1) h.2
    · cases h
  | .asg tg a, c, X, s, ok, hk, h => by
    have : ex Γ (.asg tg a) = fun env S => (ev Γ a env S).bind fun x => (setT tg x.2 x.1 env).bind fun env' => .ok (.nx, env', x.2) := by funext env S; simp only [ex]
    rw [this]
    simp only [chkS] at h
    split at h
    · rename_i t e spos
      cases tg with
      | one i =>
        dsimp only at h
        split at h
        · rename_i x p
          rw [Bool.and_eq_true] at h
          obtain ⟨h0, h⟩ := h
          obtain ⟨h1, h2, h3⟩ := ok.sto h0
          by_cases hb : swapB c e x p = true
          · rw [if_pos hb] at h
            unfold chkC at h
            split at h
            · obtain ⟨y, target, iter, ifs, scope, vp, rfl⟩ := comp_is h
              obtain ⟨k1, k2⟩ := swap_yes ok hk (l := spos.line) hb
              exact ss_comp ok.calm (by rw [ok.N]; exact ok.nd) h1 k1 k2 (sc_of ok h) ev_comp_lst
            · obtain ⟨y, target, iter, ifs, scope, vp, rfl⟩ := comp_is h
              obtain ⟨k1, k2⟩ := swap_yes ok hk (l := spos.line) hb
              have e2 : ∀ (z : IE), ev Γ (.own z) = fun env S => (ev Γ z env S).bind fun x => allocL x.2 x.1 := fun z => by funext env S; simp only [ev]
              rw [e2]
              exact ss_compO ok.calm (by rw [ok.N]; exact ok.nd) h1 k1 k2 (sc_of ok h)
            · rename_i own elt tg i cs
              obtain ⟨y, target, w, wp, ifs, scope, vp, rfl⟩ := compD_is h
              obtain ⟨k1, k2⟩ := swap_yes ok hk (l := spos.line) hb
              have e2 : ev Γ (.compD own elt tg i cs) = fun env S => (lckTF S env[i]?).bind fun p => if p.2.length ≤ lim then
                (compL (isLckT p.1 p.2) (compF tg own (evTs Γ cs) (ev Γ elt) env) (p.2.map (·.1)) (S.set p.1 (.lckT p.2))).bind fun r => lckTE p.1 p.2 r else .bad := by funext env S; simp only [ev]
              rw [e2]
              exact cmpT_asg (ss_comp ok.calm (by rw [ok.N]; exact ok.nd) h1 k1 k2 (scD_of ok h) cmpLT_lst)
            · cases h
          · rw [if_neg hb] at h
            rw [Bool.and_eq_true] at h
            exact ss_asg1 (tg := .one i) (by rw [ok.N]; exact ok.nd) h1 h2 h3 (se_of a c X _ ok h.1) (swap_no ok (by simpa using hb) h.2)
        · cases h
      | many is =>
        dsimp only at h
        split at h
        · rw [Bool.or_eq_true] at h
          rcases h with h | h
          · simp only [Bool.and_eq_true] at h
            exact ss_asgT (sg_of ok h.1.1.1) (se_of a c X _ ok h.1.1.2) h.1.2 ((Bool.or_eq_true _ _ ▸ h.2).elim swapped_none fun h2 => swapped_nl (by rw [ok.sc]; exact h2))
          · unfold parS at h
            split at h
            · rename_i i j p q x px y py k1 p1 u v k2 p2 heq
              cases heq
              simp only [Bool.and_eq_true, decide_eq_true_eq, Bool.not_eq_true'] at h
              obtain ⟨⟨⟨⟨⟨⟨⟨⟨⟨⟨⟨h1, h2⟩, h3⟩, h4⟩, h5⟩, h6⟩, h7⟩, h8⟩, h9⟩, h10⟩, h11⟩, h12⟩ := h
              have hx : X.env.scope.names.lookup x = some .local := by rw [ok.sc]; exact h4
              have hy : X.env.scope.names.lookup y = some .local := by rw [ok.sc]; exact h5
              have hb : X.env.blockKind = .function := by unfold Env.blockKind; rw [hk]; rfl
              have e0 : ev Γ (.tup [p, q]) = fun env S => (evs Γ [p, q] env S).bind fun x => if x.1.length ≤ lim then .ok (.tup x.1, x.2) else .bad := by funext env S; simp only [ev]
              rw [e0]
              exact ss_par ok.calm (by rw [ok.N]; exact ok.nd) (by rw [ok.N]; exact h1) (by rw [ok.N]; exact h2) h3 hx hy
                ((ses_of [p, q] c X _ ok h12).evs (by simp only [List.all_cons, List.all_nil, h8, h9]; rfl)) (swapped_two hb hx hy h6 h7 h8 h9 h10 h11)
            · rename_i i j l p q r x px y py z pz k1 p1 u v w k2 p2 heq
              cases heq
              simp only [Bool.and_eq_true, decide_eq_true_eq, Bool.not_eq_true'] at h
              obtain ⟨⟨⟨⟨⟨⟨⟨⟨⟨⟨⟨⟨⟨⟨⟨⟨⟨⟨⟨h1, h2⟩, h3⟩, h4⟩, h5⟩, h6⟩, h7⟩, h8⟩, h9⟩, h10⟩, h11⟩, h12⟩, h13⟩, h14⟩, h15⟩, h16⟩, h17⟩, h18⟩, h19⟩, h20⟩ := h
              have hx : X.env.scope.names.lookup x = some .local := by rw [ok.sc]; exact h7
              have hy : X.env.scope.names.lookup y = some .local := by rw [ok.sc]; exact h8
              have hz : X.env.scope.names.lookup z = some .local := by rw [ok.sc]; exact h9
              have hb : X.env.blockKind = .function := by unfold Env.blockKind; rw [hk]; rfl
              have e0 : ev Γ (.tup [p, q, r]) = fun env S => (evs Γ [p, q, r] env S).bind fun x => if x.1.length ≤ lim then .ok (.tup x.1, x.2) else .bad := by funext env S; simp only [ev]
              rw [e0]
              exact ss_par3 ok.calm (by rw [ok.N]; exact ok.nd) (by rw [ok.N]; exact h1) (by rw [ok.N]; exact h2) (by rw [ok.N]; exact h3) h4 h5 h6 hx hy hz
                ((ses_of [p, q, r] c X _ ok h20).evs (by simp only [List.all_cons, List.all_nil, h15, h16, h17]; rfl)) (swapped_three hb hx hy hz h10 h11 h12 h13 h14 h15 h16 h17 h18 h19)
            · cases h
        · cases h
    · cases h
  | .setix o i a, c, X, s, ok, hk, h => by
    have : ex Γ (.setix o i a) = fun env S => (ev Γ a env S).bind fun v => (ev Γ o env v.2).bind fun x => (ev Γ i env x.2).bind fun y => (setixF y.2 x.1 y.1 v.1).bind fun S' => .ok (.nx, env, S') := by funext env S; simp only [ex]
    rw [this]
    simp only [chkS] at h
    split at h
    · simp only [Bool.and_eq_true] at h
      obtain ⟨⟨⟨⟨h1, h2⟩, h3⟩, h4⟩, h5⟩ := h
      exact ss_setix (by have := ok.units; omega) (se_of o c X _ ok h1) (se_of i c X _ ok h2) (se_of a c X _ ok h3) h4 h5
    · cases h
  | .aug i op a, c, X, s, ok, hk, h => by
    have : ex Γ (.aug i op a) = fun env S => match env[i]? with
    | some (some d) => (ev Γ a env S).bind fun x => (augF op d x.1).bind fun r => .ok (.nx, env.set i (some r), x.2)
    | _ => .bad := by funext env S; simp only [ex] <;> rfl
    rw [this]
    simp only [chkS] at h
    split at h
    · simp only [Bool.and_eq_true] at h
      obtain ⟨⟨h1, h2⟩, h3⟩ := h
      obtain ⟨k1, k2, k3⟩ := ok.sto h1
      rw [beqB_ok h2]
      exact ss_aug (by rw [ok.N]; exact ok.nd) k1 k2 k3 (se_of a c X _ ok h3)
    · cases h
  | .if_ t a b, c, X, s, ok, hk, h => by
    have : ex Γ (.if_ t a b) = fun env S => (evT Γ t env S).bind fun k => if k.1 then exs Γ a env k.2 else exs Γ b env k.2 := by funext env S; simp only [ex]
    rw [this]
    simp only [chkS] at h
    split at h
    · simp only [Bool.and_eq_true] at h
      exact ss_if (st_of t c X _ ok h.1.1) (sss_of a c X _ ok hk h.1.2) (sss_of b c X _ ok hk h.2)
    · cases h
  | .while_ t b, c, X, s, ok, hk, h => by
    have : ex Γ (.while_ t b) = fun env S => whileL (evT Γ t) (exs Γ b) Γ.fuel env S := by funext env S; simp only [ex]
    rw [this]
    simp only [chkS] at h
    split at h
    · simp only [Bool.and_eq_true] at h
      exact ss_while ok.po (st_of t c X _ ok h.1) (sss_of b c X _ ok hk h.2)
    · cases h
  | .for_ tg k es b, c, X, s, ok, hk, h => by
    have : ex Γ (.for_ tg k es b) = fun env S => (evs Γ es env S).bind fun x => (itF k x.2 x.1).bind fun items => forL items.2 (turnF tg (exs Γ b)) items.1 env x.2 := by funext env S; simp only [ex]
    rw [this]
    simp only [chkS] at h
    split at h
    · simp only [Bool.and_eq_true] at h
      obtain ⟨⟨⟨h1, h2⟩, h3⟩, h4⟩ := h
      exact ss_for ok.po ok.calm (si_ofI ok h3) (sg_of ok h1) (sss_of b c X _ ok hk h4) (noFold_ok h2)
    · cases h
  | .ret a, c, X, s, ok, hk, h => by
    have : ex Γ (.ret a) = fun env S => (ev Γ a env S).bind fun x => .ok (.ret x.1, env, x.2) := by funext env S; simp only [ex]
    rw [this]
    simp only [chkS] at h
    split at h
    · exact ss_ret (se_of a c X _ ok h)
    · cases h
  | .retN, c, X, s, ok, hk, h => by
    have : ex Γ .retN = fun env S => .ok (.ret .non, env, S) := by funext env S; simp only [ex]
    rw [this]
    simp only [chkS] at h
    split at h
    · exact ss_retN
    · cases h
  | .pass, c, X, s, ok, hk, h => by
    have : ex Γ .pass = fun env S => .ok (.nx, env, S) := by funext env S; simp only [ex]
    rw [this]
    simp only [chkS] at h
    split at h
    · exact ss_pass
    · cases h
  | .brk, c, X, s, ok, hk, h => by
    have : ex Γ .brk = fun env S => .ok (.brk, env, S) := by funext env S; simp only [ex]
    rw [this]
    simp only [chkS] at h
    split at h
    · exact ss_brk
    · cases h
  | .cnt, c, X, s, ok, hk, h => by
    have : ex Γ .cnt = fun env S => .ok (.cnt, env, S) := by funext env S; simp only [ex]
    rw [this]
    simp only [chkS] at h
    split at h
    · exact ss_cnt
    · cases h
  | .hole, c, X, s, ok, hk, h => by
    have : ex Γ .hole = fun _ _ => .bad := by funext env S; simp only [ex]
    rw [this]
    exact SS.hole
  | .forD tg k i b, c, X, s, ok, hk, h => by
    have : ex Γ (.forD tg k i b) = fun env S => (lckF S env[i]?).bind fun p => (forL (isLck p.1 p.2) (turnF tg (exs Γ b)) (ditF k p.2) env (S.set p.1 (.lck p.2))).bind fun r => lckE p.1 p.2 r := by funext env S; simp only [ex]
    rw [this]
    simp only [chkS] at h
    split at h
    · simp only [Bool.and_eq_true] at h
      obtain ⟨⟨⟨h1, h2⟩, h3⟩, h4⟩ := h
      obtain ⟨x, p, ap, cp, rfl, h5, h6⟩ := chkDi_ok h3
      obtain ⟨k1, k2, k3, k4⟩ := ok.vis h5
      exact ss_forD ok.po ok.calm k1 k2 k3 k4 h2 h6 (sg_of ok h1) (sss_of b c X _ ok hk h4)
    · cases h
  | .setT o ks a, c, X, s, ok, hk, h => by
    have : ex Γ (.setT o ks a) = fun env S => (ev Γ a env S).bind fun v => (ev Γ o env v.2).bind fun x => (evs Γ ks env x.2).bind fun y => (setTF y.2 x.1 y.1 v.1).bind fun S' => .ok (.nx, env, S') := by funext env S; simp only [ex]
    rw [this]
    simp only [chkS] at h
    split at h
    · simp only [Bool.and_eq_true] at h
      obtain ⟨⟨⟨⟨h1, h2⟩, h3⟩, h4⟩, h5⟩ := h
      exact ss_setT (by have := ok.units; omega) (se_of o c X _ ok h1) ((ses_of ks c X _ ok h2).evs h3) (se_of a c X _ ok h4) h5
    · cases h
  | .forT tg i b, c, X, s, ok, hk, h => by
    have : ex Γ (.forT tg i b) = fun env S => (lckTF S env[i]?).bind fun p => (forL (isLckT p.1 p.2) (turnF tg (exs Γ b)) (p.2.map (·.1)) env (S.set p.1 (.lckT p.2))).bind fun r => lckTS p.1 p.2 r := by funext env S; simp only [ex]
    rw [this]
    simp only [chkS] at h
    split at h
    · simp only [Bool.and_eq_true] at h
      obtain ⟨⟨h1, h2⟩, h3⟩ := h
      obtain ⟨y, py, rfl, h2⟩ := nmIs_ok h2
      obtain ⟨k1, k2, k3, k4⟩ := ok.vis h2
      exact ss_forT ok.po ok.calm k1 k2 k3 k4 (sg_of ok h1) (sss_of b c X _ ok hk h3)
    · cases h
  | .setix2 o i o2 i2 a, c, X, s, ok, hk, h => by
    have : ex Γ (.setix2 o i o2 i2 a) = fun env S => (ev Γ a env S).bind fun v => (pairF v.1).bind fun ab => (ev Γ o env v.2).bind fun x => (ev Γ i env x.2).bind fun y => (setixL y.2 x.1 y.1 ab.1).bind fun S1 => (ev Γ o2 env S1).bind fun z => (ev Γ i2 env z.2).bind fun w => (setixL w.2 z.1 w.1 ab.2).bind fun S2 => .ok (.nx, env, S2) := by funext env S; simp only [ex]
    rw [this]
    simp only [chkS] at h
    split at h
    · simp only [Bool.and_eq_true] at h
      obtain ⟨⟨⟨⟨⟨⟨⟨h1, h2⟩, h3⟩, h4⟩, h5⟩, h6⟩, h7⟩, h8⟩ := h
      exact ss_setix2 ok.calm (se_of o c X _ ok h1) (se_of i c X _ ok h2) (se_of o2 c X _ ok h3) (se_of i2 c X _ ok h4) (se_of a c X _ ok h5) h6 h7 h8
    · cases h
  | .augix o i op a, c, X, s, ok, hk, h => by
    have : ex Γ (.augix o i op a) = fun env S => (ev Γ o env S).bind fun x => (ev Γ i env x.2).bind fun y => (idxL y.2 x.1 y.1).bind fun u => (ev Γ a env y.2).bind fun v => (augF op u v.1).bind fun w => (setixL v.2 x.1 y.1 w).bind fun S' => .ok (.nx, env, S') := by funext env S; simp only [ex]
    rw [this]
    simp only [chkS] at h
    split at h
    · simp only [Bool.and_eq_true] at h
      obtain ⟨⟨⟨⟨h1, h2⟩, h3⟩, h4⟩, h5⟩ := h
      rw [beqB_ok h3]
      exact ss_augix (se_of o c X _ ok h1) (se_of i c X _ ok h2) (se_of a c X _ ok h4) h5
    · cases h
theorem sss_of : ∀ (is : List IS) (c : SC) (X : Cx) (s : List Stmt), GOk c Γ X → X.env.scope.kind = .function → chkSs c is s = true → SSs X (exs Γ is) s
  | [], c, X, s, ok, hk, h => by
    have : exs Γ [] = fun env S => .ok (.nx, env, S) := by funext env S; simp only [exs]
    rw [this]
    simp only [chkSs, List.isEmpty_iff] at h
    rw [h]
    exact sss_nil
  | a :: as, c, X, s, ok, hk, h => by
    have : exs Γ (a :: as) = fun env S => (ex Γ a env S).bind fun x => match x.1 with
    | .nx => exs Γ as x.2.1 x.2.2
    | f => .ok (f, x.2.1, x.2.2) := by funext env S; simp only [exs] <;> rfl
    rw [this]
    simp only [chkSs] at h
    split at h
    · rw [Bool.and_eq_true] at h
      exact sss_cons (ss_of a c X _ ok hk h.1) (sss_of as c X _ ok hk h.2)
    · cases h
end
end
end TK

/-! TKm: defs and whole programs. -/
namespace TK
open PySem PySem.Spec PyProof.Rows L2
def scopeB (N ps : List Str) (sc : Scope) : Bool := (match sc.kind with | .function => true | _ => false) && !sc.isCoroutine && !sc.isGenerator && decide N.Nodup &&
  (ps.all fun x => match sc.names.lookup x with | some .local => true | some .cell => true | _ => false) && (sc.names.all fun y => match y.2 with | .free => false | _ => true)
theorem scope_ok {N : List Str} {n : Nat} {sc : Scope} (h : scopeB N (N.take n) sc = true) : FnScope N (N.take n) sc := by
  unfold scopeB at h
  simp only [Bool.and_eq_true, decide_eq_true_eq] at h
  obtain ⟨⟨⟨⟨⟨h1, h2⟩, h3⟩, h4⟩, h5⟩, h6⟩ := h
  refine ⟨?_, by simpa using h2, by simpa using h3, h4, ?_, fun x hx => ?_, fun y hy e => ?_⟩
  · split at h1
    · assumption
    · cases h1
  · rw [List.length_take, List.take_eq_take_iff]; omega
  · have := List.all_eq_true.mp h5 x hx
    split at this
    · rename_i q; exact .inl q
    · rename_i q; exact .inr q
    · cases this
  · have := List.all_eq_true.mp h6 y hy
    rw [e] at this
    cases this
def chkFn (G : Glob) (f : FnI) (st : Stmt) : Bool := scopeB f.N (f.N.take f.ps) (defScope st) && decide (f.ps ≤ f.N.length) && (f.N.all fun x => !(x == ("__debug__" : Str)) && !(x == ("__classdict__" : Str))) && chkSs ⟨f.N, defScope st, defScope st, G⟩ f.body (defBody st)
/-- a def of the text at f with its checked body -/
structure Known (P : Program) (w : World) (K : PySem.W.Frag) (mg : Str → Option Value) (base : Heap) (k : Nat) (nm : Str) (F : List D → St' → R (D × St')) : Prop where
  dbg : (nm == ("__debug__" : Str)) = false
  ok : ∃ f fd ps, mg nm = some (.ref f) ∧ PySem.W.keepIn K (.ref f) = true ∧ L2.Binds K fd ps [] ∧ FnOk P w K mg base CX0 k f fd ps (spOf K F)
structure KnownG (K : PySem.W.Frag) (mg : Str → Option Value) (nm : Str) (d : D) : Prop where
  dbg : (nm == ("__debug__" : Str)) = false
  ok : ∃ u v, mg nm = some u ∧ RelV v u ∧ ∀ μ N H, RepV K μ N H d v
section
variable {P : Program} {w : World} {K : PySem.W.Frag} {mg : Str → Option Value} {base : Heap}
theorem start_rep {μ : Mu} {N0 : Nat} {H : Hp} {ds : List D} {vs : List V} (N : List Str) (r : RepVs K μ N0 H ds vs) (hl : ds.length ≤ N.length) : REnv K μ N0 H (ds.map some ++ List.replicate (N.length - ds.length) none) (L2.start N vs) where
  len := by
    unfold L2.start
    rw [← r.length]; simp [r.length]
  at_ := fun i d h => by
    have hi : i < ds.length := by
      by_cases hi : i < ds.length
      · exact hi
      · rw [List.getElem?_append_right (by simpa using hi), List.getElem?_replicate] at h
        split at h <;> cases h
    rw [List.getElem?_append_left (by simpa using hi), List.getElem?_map] at h
    have hd : ds[i]? = some d := by
      cases e : ds[i]? with
      | none => rw [e] at h; cases h
      | some x => rw [e] at h; cases h; rfl
    obtain ⟨v, hv, rv⟩ := r.get hd
    refine ⟨v, ?_, rv⟩
    unfold L2.start
    rw [List.getElem?_append_left (by rw [List.length_map, ← r.length]; exact hi), List.getElem?_map, hv]; rfl
theorem run_ok {nm : Str} {st : Stmt} {f : Addr} {fd : FuncData} {fi : FnI} {G : Glob} {Γ : Ctx} {k : Nat} (Fd : Fun K nm nm st f fd) (hc : chkFn G fi st = true) (hblt : ∀ x ∈ bltNames, mg x = none)
    (hfns : ∀ (i : Nat) (nm : Str), G.fns[i]? = some nm → Known P w K mg base k nm (Γ.fn i)) (hgls : ∀ (i : Nat) (nm : Str), G.gls[i]? = some nm → KnownG K mg nm (Γ.gl i)) :
    FnOk P w K mg base CX0 (k + 1) f fd (fi.N.take fi.ps) (spOf K (run Γ fi)) := by
  unfold chkFn at hc
  simp only [Bool.and_eq_true, decide_eq_true_eq] at hc
  obtain ⟨⟨⟨h1, h2⟩, h3⟩, h4⟩ := hc
  have S := scope_ok h1
  have hr : ∀ {ds : List D} {S0 : St'} {r}, run Γ fi ds S0 = .ok r → ds.length = fi.ps := fun {ds S0 r} h => by
    unfold run at h
    split at h
    · assumption
    · cases h
  refine Fd.ok S (fun vs H Q E h => ?_) (fun cdv A outer s H vs Q E hrm h => ?_)
  · obtain ⟨μ, S0, ds, d, S', r, rv, hf, q⟩ := h
    rw [← rv.length, hr hf, List.length_take]; omega
  · obtain ⟨μ, S0, ds, d, S', r, rv, hf, q⟩ := h
    have hlen := hr hf
    have ok : GOk ⟨fi.N, defScope st, defScope st, G⟩ Γ (cxOf CX0 P w K mg base fi.N nm (defScope st) f cdv A outer s H E).nox := {
      N := rfl
      nd := S.nd
      dbg := fun x hx => by
        have := List.all_eq_true.mp h3 x hx
        simpa using this
      sc := rfl
      fs := fun _ _ => rfl
      calm := rfl
      po := PassesOwn.never
      units := by
        have := hrm.un
        show (A.deeper (envOfC nm (defScope st) s.heap.objs.size f cdv)).units + 65 < cLine
        omega
      blt := hblt
      fns := fun i nm hi => by
        have Kn := hfns i nm hi
        obtain ⟨f, fd, ps, a1, a2, a3, a4⟩ := Kn.ok
        exact ⟨Kn.dbg, k, f, fd, ps, a1, a2, a3, a4, hrm⟩
      gls := fun i nm hi => ⟨(hgls i nm hi).dbg, (hgls i nm hi).ok⟩ }
    obtain ⟨t, a1, b1⟩ := sss_of fi.body _ _ _ ok S.kind h4
    refine ⟨t, a1, ?_⟩
    unfold run at hf
    rw [if_pos hlen] at hf
    obtain ⟨⟨fl, env', S1⟩, e1, hf⟩ := R.bind_eq_ok hf
    refine b1 _ H μ _ S0 fl env' S1 r (start_rep fi.N rv (by omega)) e1 _ ?_
    cases fl with
    | nx =>
      cases hf
      exact fun σ' H' μ' r' x' re' => q _ H' μ' r' x' (by simp only [RepV])
    | ret d' =>
      cases hf
      exact fun v H' μ' r' x' rv' => q v H' μ' r' x' rv'
    | brk => cases hf
    | cnt => cases hf
end
/-! ### what a def leaves behind is forgotten -/
mutual
def below (N : Nat) : D → Bool
  | .loc n => decide (n < N)
  | .tup ds => belows N ds
  | .lst ds => belows N ds
  | .dct _ ds => belows N ds
  | _ => true
def belows (N : Nat) : List D → Bool
  | [] => true
  | d :: ds => below N d && belows N ds
end
def belowO (N : Nat) : O → Bool
  | .lst ds => belows N ds
  | .dct kvs => belows N (kvs.map (·.2))
  | .dctT kvs => belows N (kvs.map (·.2))
  | .lck kvs => belows N (kvs.map (·.2))
  | .lckT kvs => belows N (kvs.map (·.2))
section
variable {K : PySem.W.Frag} {μ : Mu} {N N' : Nat} {H : Hp}
theorem NotLoc.mono {a : Addr} (h : NotLoc μ N' a) (hl : N ≤ N') : NotLoc μ N a := ⟨fun i hi => h.1 i (Nat.lt_of_lt_of_le hi hl), h.2⟩
mutual
theorem RepV.cut (hl : N ≤ N') : ∀ (d : D) (v : V), below N d = true → RepV K μ N' H d v → RepV K μ N H d v
  | .non, _, _, h => by simpa only [RepV] using h
  | .bl b, _, _, h => by simpa only [RepV] using h
  | .int i, _, _, h => by simpa only [RepV] using h
  | .str x, _, _, h => by simpa only [RepV] using h
  | .tup ds, v, hb, h => by
    simp only [RepV] at h ⊢
    simp only [below] at hb
    obtain ⟨a, vs, h1, h2, h3⟩ := h
    refine ⟨a, vs, h1, ?_, RepVs.cut hl ds vs hb h3⟩
    rcases h2 with h2 | h2
    · exact .inl ⟨h2.1, h2.2.mono hl⟩
    · exact .inr h2
  | .lst ds, v, hb, h => by
    simp only [RepV] at h ⊢
    simp only [below] at hb
    obtain ⟨a, vs, h1, h2, h3⟩ := h
    refine ⟨a, vs, h1, ?_, RepVs.cut hl ds vs hb h3⟩
    rcases h2 with h2 | h2
    · exact .inl ⟨h2.1, h2.2.mono hl⟩
    · exact .inr h2
  | .dct ks ds, v, hb, h => by
    simp only [RepV] at h ⊢
    simp only [below] at hb
    obtain ⟨a, es, h1, h2, h3, h4⟩ := h
    exact ⟨a, es, h1, ⟨h2.1, h2.2.mono hl⟩, h3, RepVs.cut hl ds _ hb h4⟩
  | .loc n, v, hb, h => by
    simp only [RepV] at h ⊢
    simp only [below, decide_eq_true_eq] at hb
    exact ⟨hb, h.2⟩
theorem RepVs.cut (hl : N ≤ N') : ∀ (ds : List D) (vs : List V), belows N ds = true → RepVs K μ N' H ds vs → RepVs K μ N H ds vs
  | [], _, _, h => by simpa only [RepVs] using h
  | d :: ds, vs, hb, h => by
    simp only [RepVs] at h ⊢
    simp only [belows, Bool.and_eq_true] at hb
    obtain ⟨v, vr, h1, h2, h3⟩ := h
    exact ⟨v, vr, h1, RepV.cut hl d v hb.1 h2, RepVs.cut hl ds vr hb.2 h3⟩
end
mutual
theorem RepV.below : ∀ (d : D) (v : V), RepV K μ N H d v → below N d = true
  | .non, _, h => by simp only [TK.below]
  | .bl b, _, h => by simp only [TK.below]
  | .int i, _, h => by simp only [TK.below]
  | .str x, _, h => by simp only [TK.below]
  | .tup ds, v, h => by
    simp only [RepV] at h
    simp only [TK.below]
    obtain ⟨a, vs, h1, h2, h3⟩ := h
    exact RepVs.below ds vs h3
  | .lst ds, v, h => by
    simp only [RepV] at h
    simp only [TK.below]
    obtain ⟨a, vs, h1, h2, h3⟩ := h
    exact RepVs.below ds vs h3
  | .dct ks ds, v, h => by
    simp only [RepV] at h
    simp only [TK.below]
    obtain ⟨a, es, h1, h2, h3, h4⟩ := h
    exact RepVs.below ds _ h4
  | .loc n, v, h => by
    simp only [RepV] at h
    simp only [TK.below, decide_eq_true_eq]
    exact h.1
theorem RepVs.below : ∀ (ds : List D) (vs : List V), RepVs K μ N H ds vs → belows N ds = true
  | [], _, h => by simp only [belows]
  | d :: ds, vs, h => by
    simp only [RepVs] at h
    simp only [belows, Bool.and_eq_true]
    obtain ⟨v, vr, h1, h2, h3⟩ := h
    exact ⟨RepV.below d v h2, RepVs.below ds vr h3⟩
end
mutual
theorem below_mono (hl : N ≤ N') : ∀ d : D, below N d = true → below N' d = true
  | .non, _ => by simp only [TK.below]
  | .bl b, _ => by simp only [TK.below]
  | .int i, _ => by simp only [TK.below]
  | .str x, _ => by simp only [TK.below]
  | .tup ds, h => by simp only [TK.below] at h ⊢; exact belows_mono hl ds h
  | .lst ds, h => by simp only [TK.below] at h ⊢; exact belows_mono hl ds h
  | .dct ks ds, h => by simp only [TK.below] at h ⊢; exact belows_mono hl ds h
  | .loc n, h => by simp only [TK.below, decide_eq_true_eq] at h ⊢; omega
theorem belows_mono (hl : N ≤ N') : ∀ ds : List D, belows N ds = true → belows N' ds = true
  | [], _ => by simp only [belows]
  | d :: ds, h => by
    simp only [belows, Bool.and_eq_true] at h ⊢
    exact ⟨below_mono hl d h.1, belows_mono hl ds h.2⟩
end
theorem belowO_mono (hl : N ≤ N') : ∀ o : O, belowO N o = true → belowO N' o = true
  | .lst ds, h => belows_mono hl ds h
  | .dct kvs, h => belows_mono hl _ h
  | .dctT kvs, h => belows_mono hl _ h
  | .lck kvs, h => belows_mono hl _ h
  | .lckT kvs, h => belows_mono hl _ h
theorem RepK.cut (hl : N ≤ N') : ∀ (kvs : List (D × D)) (es : List (Key × V)), belows N (kvs.map (·.2)) = true → RepK K μ N' H kvs es → RepK K μ N H kvs es
  | [], _, _, h => by simpa only [RepK] using h
  | (k, d) :: r, es, hb, h => by
    simp only [RepK] at h ⊢
    simp only [List.map_cons, belows, Bool.and_eq_true] at hb
    obtain ⟨k', v, r', h1, h2, h3, h4⟩ := h
    exact ⟨k', v, r', h1, h2, RepV.cut hl d v hb.1 h3, RepK.cut hl r r' hb.2 h4⟩
theorem RepKT.cut (hl : N ≤ N') : ∀ (kvs : List (D × D)) (es : List (List Key × V)), belows N (kvs.map (·.2)) = true → RepKT K μ N' H kvs es → RepKT K μ N H kvs es
  | [], _, _, h => by simpa only [RepKT] using h
  | (k, d) :: r, es, hb, h => by
    simp only [RepKT] at h ⊢
    simp only [List.map_cons, belows, Bool.and_eq_true] at hb
    obtain ⟨k', v, r', h1, h2, h3, h4⟩ := h
    exact ⟨k', v, r', h1, h2, RepV.cut hl d v hb.1 h3, RepKT.cut hl r r' hb.2 h4⟩
theorem RepO.cut (hl : N ≤ N') : ∀ (o : O) (ho : HO), belowO N o = true → RepO K μ N' H o ho → RepO K μ N H o ho
  | .lst ds, _, hb, h => by
    simp only [RepO] at h ⊢
    obtain ⟨vs, h1, h2⟩ := h
    exact ⟨vs, h1, RepVs.cut hl ds vs hb h2⟩
  | .dct kvs, _, hb, h => by
    simp only [RepO] at h ⊢
    obtain ⟨vs, h1, h2⟩ := h
    exact ⟨vs, h1, RepK.cut hl kvs vs hb h2⟩
  | .dctT kvs, _, hb, h => by
    simp only [RepO] at h ⊢
    obtain ⟨vs, h1, h2⟩ := h
    exact ⟨vs, h1, RepKT.cut hl kvs vs hb h2⟩
  | .lck kvs, _, hb, h => by
    simp only [RepO] at h ⊢
    obtain ⟨od, vs, h1, h2⟩ := h
    exact ⟨od, vs, h1, RepK.cut hl kvs vs hb h2⟩
  | .lckT kvs, _, hb, h => by
    simp only [RepO] at h ⊢
    obtain ⟨od, vs, h1, h2⟩ := h
    exact ⟨od, vs, h1, RepKT.cut hl kvs vs hb h2⟩
theorem RepK.below : ∀ (kvs : List (D × D)) (es : List (Key × V)), RepK K μ N H kvs es → belows N (kvs.map (·.2)) = true
  | [], _, h => by simp only [List.map_nil, belows]
  | (k, d) :: r, es, h => by
    simp only [RepK] at h
    simp only [List.map_cons, belows, Bool.and_eq_true]
    obtain ⟨k', v, r', h1, h2, h3, h4⟩ := h
    exact ⟨RepV.below d v h3, RepK.below r r' h4⟩
theorem RepKT.below : ∀ (kvs : List (D × D)) (es : List (List Key × V)), RepKT K μ N H kvs es → belows N (kvs.map (·.2)) = true
  | [], _, h => by simp only [List.map_nil, belows]
  | (k, d) :: r, es, h => by
    simp only [RepKT] at h
    simp only [List.map_cons, belows, Bool.and_eq_true]
    obtain ⟨k', v, r', h1, h2, h3, h4⟩ := h
    exact ⟨RepV.below d v h3, RepKT.below r r' h4⟩
theorem RepO.below : ∀ (o : O) (ho : HO), RepO K μ N H o ho → belowO N o = true
  | .lst ds, _, h => by
    simp only [RepO] at h
    obtain ⟨vs, h1, h2⟩ := h
    exact RepVs.below ds vs h2
  | .dct kvs, _, h => by
    simp only [RepO] at h
    obtain ⟨vs, h1, h2⟩ := h
    exact RepK.below kvs vs h2
  | .dctT kvs, _, h => by
    simp only [RepO] at h
    obtain ⟨vs, h1, h2⟩ := h
    exact RepKT.below kvs vs h2
  | .lck kvs, _, h => by
    simp only [RepO] at h
    obtain ⟨od, vs, h1, h2⟩ := h
    exact RepK.below kvs vs h2
  | .lckT kvs, _, h => by
    simp only [RepO] at h
    obtain ⟨od, vs, h1, h2⟩ := h
    exact RepKT.below kvs vs h2
end
/-- what comes back, once what is left behind is forgotten: itself, or a list that nobody will change any more -/
inductive Weak (N : Nat) (S : St') : D → D → Prop where
  | same {d : D} (h : below N d = true) : Weak N S d d
  | thaw {n : Nat} {xs : List D} (hn : N ≤ n) (h : S[n]? = some (.lst xs)) (hb : belows N xs = true) : Weak N S (.loc n) (.lst xs)
  | thawD {n : Nat} {kvs : List (D × D)} (hn : N ≤ n) (h : S[n]? = some (.dct kvs)) (hb : belows N (kvs.map (·.2)) = true) : Weak N S (.loc n) (frzD kvs)
/-- the store's things are what they were, or speak of things of the store alone -/
structure Keeps (S S' : St') : Prop where
  le : S.length ≤ S'.length
  ob : ∀ (i : Nat) (o : O), S'[i]? = some o → S[i]? = some o ∨ belowO S'.length o = true
theorem Keeps.refl (S : St') : Keeps S S := ⟨Nat.le_refl _, fun _ _ h => .inl h⟩
/-- a body does what is said of it -/
def Impl (Γ : Ctx) (fi : FnI) (F : List D → St' → R (D × St')) : Prop := ∀ ds S d S', F ds S = .ok (d, S') → ∃ d0 G, run Γ fi ds S = .ok (d0, S' ++ G) ∧ Weak S'.length (S' ++ G) d0 d ∧ Keeps S S'
theorem sp_impl {K : PySem.W.Frag} {Γ : Ctx} {fi : FnI} {F : List D → St' → R (D × St')} (h : Impl Γ fi F) : ∀ vs H Q E, spOf K F vs H Q E → spOf K (run Γ fi) vs H Q E := by
  rintro vs H Q E ⟨μ, S, ds, d, S', r, rv, hf, q⟩
  obtain ⟨d0, G, h1, h2, h3⟩ := h ds S d S' hf
  refine ⟨μ, S, ds, d0, S' ++ G, r, rv, h1, fun v H' μ' r' x' rd => ?_⟩
  have hl : S'.length ≤ (S' ++ G).length := by rw [List.length_append]; omega
  have rS : Rel K μ' S' H' := r'.drop fun i o ho hi q => by
    refine RepO.cut hl o ho ?_ q
    rcases h3.ob i o hi with z | z
    · obtain ⟨ho0, _, q0⟩ := r.obj i o z
      exact belowO_mono h3.le o (RepO.below o ho0 q0)
    · exact z
  have xS : Ext μ S.length H μ' S'.length H' :=
    { le := h3.le, mu := x'.mu, keep := x'.keep, new := fun i a b => x'.new i a (by omega), some := x'.some, hid := x'.hid, keepH := x'.keepH, lock := x'.lock }
  refine q v H' μ' rS xS ?_
  cases h2 with
  | same hb => exact RepV.cut hl d v hb rd
  | thaw hn hs hb =>
    rename_i n xs
    obtain ⟨ho, e1, q1⟩ := r'.obj n _ hs
    simp only [RepO] at q1
    obtain ⟨ws, rfl, q2⟩ := q1
    simp only [RepV] at rd ⊢
    have hn' : n < (S' ++ G).length := (List.getElem?_eq_some_iff.mp hs).1
    refine ⟨μ' n, ws, rd.2, .inl ⟨.inl e1, fun i hi e => ?_, fun hm => (r'.hid _ hm).2 n hn' rfl⟩, RepVs.cut hl xs ws hb q2⟩
    have := r'.inj i n (by omega) hn' e
    omega
  | thawD hn hs hb =>
    rename_i n kvs
    obtain ⟨ho, e1, q1⟩ := r'.obj n _ hs
    simp only [RepO] at q1
    obtain ⟨es, rfl, q2⟩ := q1
    obtain ⟨q3, q4⟩ := repK_unzip q2
    simp only [RepV] at rd
    unfold frzD
    simp only [RepV]
    have hn' : n < (S' ++ G).length := (List.getElem?_eq_some_iff.mp hs).1
    refine ⟨μ' n, es, rd.2, ⟨.inl e1, fun i hi e => ?_, fun hm => (r'.hid _ hm).2 n hn' rfl⟩, q3, RepVs.cut hl _ _ hb q4⟩
    have := r'.inj i n (by omega) hn' e
    omega
/-- a whole program: by levels -/
structure Defd (K : PySem.W.Frag) (mg : Str → Option Value) (G : Glob) (gl : Nat → D) (fuel : Nat) (F : Nat → Nat → List D → St' → R (D × St')) (i : Nat) (nm : Str) : Prop where
  dbg : (nm == ("__debug__" : Str)) = false
  ok : ∃ f fd st fi, mg nm = some (.ref f) ∧ Fun K nm nm st f fd ∧ L2.Binds K fd (fi.N.take fi.ps) [] ∧ chkFn G fi st = true ∧ ∀ L, Impl ⟨F L, gl, fuel⟩ fi (F (L + 1) i)
theorem prog_ok {P : Program} {w : World} {K : PySem.W.Frag} {mg : Str → Option Value} {base : Heap} {G : Glob} {gl : Nat → D} {fuel : Nat} {F : Nat → Nat → List D → St' → R (D × St')}
    (h0 : ∀ i ds S r, F 0 i ds S ≠ .ok r) (hblt : ∀ x ∈ bltNames, mg x = none) (hd : ∀ (i : Nat) (nm : Str), G.fns[i]? = some nm → Defd K mg G gl fuel F i nm) (hgls : ∀ (i : Nat) (nm : Str), G.gls[i]? = some nm → KnownG K mg nm (gl i)) :
    ∀ (L : Nat) (i : Nat) (nm : Str), G.fns[i]? = some nm → Known P w K mg base L nm (F L i) := by
  intro L
  induction L with
  | zero =>
    intro i nm hi
    obtain ⟨f, fd, st, fi, a1, a2, a3, a4, a5⟩ := (hd i nm hi).ok
    have no : ∀ {vs H Q E}, ¬ spOf K (F 0 i) vs H Q E := fun {vs H Q E} ⟨μ, S, ds, d, S', r, rv, hf, q⟩ => h0 _ _ _ _ hf
    exact ⟨(hd i nm hi).dbg, f, fd, _, a1, a2.kp, a3, ⟨fun vs H Q E h => absurd h no, fun A outer s H args us vs Q E hr he hb hv hs => absurd hs no⟩⟩
  | succ L ih =>
    intro i nm hi
    obtain ⟨f, fd, st, fi, a1, a2, a3, a4, a5⟩ := (hd i nm hi).ok
    exact ⟨(hd i nm hi).dbg, f, fd, _, a1, a2.kp, a3, (run_ok (Γ := ⟨F L, gl, fuel⟩) a2 a4 hblt ih hgls).imp (sp_impl (a5 L))⟩
end TK

/-! TKn: what a program computes, by levels; lists that a def made for itself come back frozen. -/
namespace TK
open PySem PySem.Spec PyProof.Rows L2
open Classical in
/-- a def's own things forgotten -/
noncomputable def tidy (S : St') (x : D × St') : D × St' :=
  if Keeps S (x.2.take S.length) then (if below S.length x.1 = true then (x.1, x.2.take S.length) else match x.1 with
    | .loc n => (match x.2[n]? with
      | some (.lst xs) => if S.length ≤ n ∧ belows S.length xs = true then (.lst xs, x.2.take S.length) else x
      | some (.dct kvs) => if S.length ≤ n ∧ belows S.length (kvs.map (·.2)) = true then (frzD kvs, x.2.take S.length) else x
      | _ => x)
    | _ => x) else x
noncomputable def semF (fs : List (FnI × Bool)) (gl : Nat → D) (fuel : Nat) : Nat → Nat → List D → St' → R (D × St')
  | 0, _, _, _ => .bad
  | L + 1, i, ds, S => match fs[i]? with
    | some (fi, true) => run ⟨semF fs gl fuel L, gl, fuel⟩ fi ds S
    | some (fi, false) => (run ⟨semF fs gl fuel L, gl, fuel⟩ fi ds S).bind fun x => .ok (tidy S x)
    | none => .bad
section
variable {P : Program} {w : World} {K : PySem.W.Frag} {mg : Str → Option Value} {base : Heap}
theorem fin_weak {μ : Mu} {S : St'} {H : Hp} {d d0 : D} {S' G : St'} {Q : VK} (r : Rel K μ S H) (h2 : Weak S'.length (S' ++ G) d0 d) (h3 : Keeps S S') (q : Fin1 K μ S H d S' Q) : Fin1 K μ S H d0 (S' ++ G) Q := by
  intro v H' μ' r' x' rd
  have hl : S'.length ≤ (S' ++ G).length := by rw [List.length_append]; omega
  have rS : Rel K μ' S' H' := r'.drop fun i o ho hi q => by
    refine RepO.cut hl o ho ?_ q
    rcases h3.ob i o hi with z | z
    · obtain ⟨ho0, _, q0⟩ := r.obj i o z
      exact belowO_mono h3.le o (RepO.below o ho0 q0)
    · exact z
  have xS : Ext μ S.length H μ' S'.length H' :=
    { le := h3.le, mu := x'.mu, keep := x'.keep, new := fun i a b => x'.new i a (by omega), some := x'.some, hid := x'.hid, keepH := x'.keepH, lock := x'.lock }
  refine q v H' μ' rS xS ?_
  cases h2 with
  | same hb => exact RepV.cut hl d v hb rd
  | thaw hn hs hb =>
    rename_i n xs
    obtain ⟨ho, e1, q1⟩ := r'.obj n _ hs
    simp only [RepO] at q1
    obtain ⟨ws, rfl, q2⟩ := q1
    simp only [RepV] at rd ⊢
    have hn' : n < (S' ++ G).length := (List.getElem?_eq_some_iff.mp hs).1
    refine ⟨μ' n, ws, rd.2, .inl ⟨.inl e1, fun i hi e => ?_, fun hm => (r'.hid _ hm).2 n hn' rfl⟩, RepVs.cut hl xs ws hb q2⟩
    have := r'.inj i n (by omega) hn' e
    omega
  | thawD hn hs hb =>
    rename_i n kvs
    obtain ⟨ho, e1, q1⟩ := r'.obj n _ hs
    simp only [RepO] at q1
    obtain ⟨es, rfl, q2⟩ := q1
    obtain ⟨q3, q4⟩ := repK_unzip q2
    simp only [RepV] at rd
    unfold frzD
    simp only [RepV]
    have hn' : n < (S' ++ G).length := (List.getElem?_eq_some_iff.mp hs).1
    refine ⟨μ' n, es, rd.2, ⟨.inl e1, fun i hi e => ?_, fun hm => (r'.hid _ hm).2 n hn' rfl⟩, q3, RepVs.cut hl _ _ hb q4⟩
    have := r'.inj i n (by omega) hn' e
    omega
theorem fin_tidy {μ : Mu} {S : St'} {H : Hp} {x : D × St'} {Q : VK} (r : Rel K μ S H) (q : Fin1 K μ S H (tidy S x).1 (tidy S x).2 Q) : Fin1 K μ S H x.1 x.2 Q := by
  obtain ⟨d0, S2⟩ := x
  unfold tidy at q
  dsimp only at q ⊢
  by_cases hk : Keeps S (S2.take S.length)
  · have hlen : (S2.take S.length).length = S.length := Nat.le_antisymm (by rw [List.length_take]; omega) hk.le
    have hS : S2.take S.length ++ S2.drop S.length = S2 := List.take_append_drop _ _
    rw [if_pos hk] at q
    by_cases hb : below S.length d0 = true
    · rw [if_pos hb] at q
      have := fin_weak (G := S2.drop S.length) (d0 := d0) r (.same (by rw [hlen]; exact hb)) hk q
      rwa [hS] at this
    · rw [if_neg hb] at q
      split at q
      · rename_i n
        split at q
        · rename_i xs hn
          by_cases h : S.length ≤ n ∧ belows S.length xs = true
          · rw [if_pos h] at q
            have := fin_weak (G := S2.drop S.length) (d0 := .loc n) r (.thaw (by rw [hlen]; exact h.1) (by rw [hS]; exact hn) (by rw [hlen]; exact h.2)) hk q
            rwa [hS] at this
          · rw [if_neg h] at q; exact q
        · rename_i kvs hn
          by_cases h : S.length ≤ n ∧ belows S.length (kvs.map (·.2)) = true
          · rw [if_pos h] at q
            have := fin_weak (G := S2.drop S.length) (d0 := .loc n) r (.thawD (by rw [hlen]; exact h.1) (by rw [hS]; exact hn) (by rw [hlen]; exact h.2)) hk q
            rwa [hS] at this
          · rw [if_neg h] at q; exact q
        · exact q
      · exact q
  · rw [if_neg hk] at q; exact q
/-- what there is to know of a def of the program -/
structure DefIs (K : PySem.W.Frag) (mg : Str → Option Value) (G : Glob) (fi : FnI) : Prop where
  dbg : (fi.name == ("__debug__" : Str)) = false
  ok : ∃ f fd st, mg fi.name = some (.ref f) ∧ Fun K fi.name fi.name st f fd ∧ L2.Binds K fd (fi.N.take fi.ps) [] ∧ chkFn G fi st = true
theorem sem_known {fs : List (FnI × Bool)} {gls : List Str} {gl : Nat → D} {fuel : Nat} (hblt : ∀ x ∈ bltNames, mg x = none)
    (hd : ∀ x ∈ fs, DefIs K mg ⟨fs.map (·.1.name), gls⟩ x.1) (hgls : ∀ (i : Nat) (nm : Str), gls[i]? = some nm → KnownG K mg nm (gl i)) :
    ∀ (L : Nat) (i : Nat) (nm : Str), (fs.map (·.1.name))[i]? = some nm → Known P w K mg base L nm (semF fs gl fuel L i) := by
  intro L
  induction L with
  | zero =>
    intro i nm hi
    rw [List.getElem?_map] at hi
    cases e : fs[i]? with
    | none => rw [e] at hi; cases hi
    | some x =>
      rw [e] at hi
      cases hi
      have hx := hd x (List.mem_of_getElem? e)
      obtain ⟨f, fd, st, a1, a2, a3, a4⟩ := hx.ok
      have no : ∀ {vs H Q E}, ¬ spOf K (semF fs gl fuel 0 i) vs H Q E := fun {vs H Q E} ⟨μ, S, ds, d, S', r, rv, hf, q⟩ => by
        unfold semF at hf; cases hf
      exact ⟨hx.dbg, f, fd, _, a1, a2.kp, a3, ⟨fun vs H Q E h => absurd h no, fun A outer s H args us vs Q E hr he hb hv hs => absurd hs no⟩⟩
  | succ L ih =>
    intro i nm hi
    rw [List.getElem?_map] at hi
    cases e : fs[i]? with
    | none => rw [e] at hi; cases hi
    | some x =>
      rw [e] at hi
      cases hi
      have hx := hd x (List.mem_of_getElem? e)
      obtain ⟨fi, raw⟩ := x
      obtain ⟨f, fd, st, a1, a2, a3, a4⟩ := hx.ok
      refine ⟨hx.dbg, f, fd, _, a1, a2.kp, a3, (run_ok (Γ := ⟨semF fs gl fuel L, gl, fuel⟩) a2 a4 hblt ih hgls).imp ?_⟩
      rintro vs H Q E ⟨μ, S, ds, d, S', r, rv, hf, q⟩
      unfold semF at hf
      rw [e] at hf
      cases raw with
      | true => exact ⟨μ, S, ds, d, S', r, rv, hf, q⟩
      | false =>
        obtain ⟨x, e1, hf⟩ := R.bind_eq_ok hf
        have hf : tidy S x = (d, S') := R.ok.inj hf
        refine ⟨μ, S, ds, x.1, x.2, r, rv, e1, fin_tidy r ?_⟩
        rw [hf]; exact q
end
end TK

/-! TKo: the end of a law. -/
namespace TK
open PySem PySem.Spec PyProof.Rows L2
section
variable {K : PySem.W.Frag} {mg : Str → Option Value} {h : Heap}
theorem def_is {G : Glob} {fi : FnI} (nm : Str) (st : Stmt) (X : K.In h) (N : h.Ns mainGlobals mg) (en : fi.name = nm) (dbg : (nm == ("__debug__" : Str)) = false)
    {f : Addr} {oc : Value} {od an : Option Addr} {osl : Array (Option Value)} {kV doc pm cdv ct : Value}
    (a : PySem.W.nsIn K mainGlobals nm = some (some (.ref f))) (l : K.lookup f = some ⟨oc, od, .func (PySem.W.fnOf nm nm (defArgs st) (defBody st) (defScope st) .none kV doc pm an cdv ct), osl⟩)
    (c : PySem.W.codeIn K cdv nm = true) (k : PySem.W.keepIn K (.ref f) = true)
    (hb : ∀ (kV doc pm : Value) (an : Option Addr) (cdv ct : Value) (us : List Value), us.length = (fi.N.take fi.ps).length → bindArgs (PySem.W.fnOf nm nm (defArgs st) (defBody st) (defScope st) .none kV doc pm an cdv ct) ⟨us, []⟩ = pure ((fi.N.take fi.ps).zip us))
    (hc : chkFn G fi st = true) : DefIs K mg G fi := by
  subst en
  have F := fun_mk (st := st) l c k
  exact ⟨dbg, f, _, st, PySem.W.mg_of X N a, F, F.binds hb, hc⟩
/-- every def of the text is known -/
inductive DefsIs (K : PySem.W.Frag) (mg : Str → Option Value) (G : Glob) : List (FnI × Bool) → Prop where
  | nil : DefsIs K mg G []
  | cons {x : FnI × Bool} {r : List (FnI × Bool)} (a : DefIs K mg G x.1) (b : DefsIs K mg G r) : DefsIs K mg G (x :: r)
theorem DefsIs.all {G : Glob} : ∀ {fs : List (FnI × Bool)}, DefsIs K mg G fs → ∀ x ∈ fs, DefIs K mg G x.1
  | [], _, x, hx => by cases hx
  | y :: r, .cons a b, x, hx => by
    rcases List.mem_cons.mp hx with rfl | hx
    · exact a
    · exact b.all x hx
inductive NoNames (K : PySem.W.Frag) : List Str → Prop where
  | nil : NoNames K []
  | cons {x : Str} {r : List Str} (a : PySem.W.nsIn K mainGlobals x = some none) (b : NoNames K r) : NoNames K (x :: r)
theorem NoNames.all (X : K.In h) (N : h.Ns mainGlobals mg) : ∀ {l : List Str}, NoNames K l → ∀ x ∈ l, mg x = none
  | [], _, x, hx => by cases hx
  | y :: r, .cons a b, x, hx => by
    rcases List.mem_cons.mp hx with rfl | hx
    · exact PySem.W.mg_none_of X N a
    · exact b.all X N x hx
inductive GlsAre (K : PySem.W.Frag) (mg : Str → Option Value) : List (Str × D) → Prop where
  | nil : GlsAre K mg []
  | cons {x : Str × D} {r : List (Str × D)} (a : KnownG K mg x.1 x.2) (b : GlsAre K mg r) : GlsAre K mg (x :: r)
def glOf (gs : List (Str × D)) (i : Nat) : D := match gs[i]? with
  | some x => x.2
  | none => .non
theorem GlsAre.all : ∀ {gs : List (Str × D)}, GlsAre K mg gs → ∀ (i : Nat) (nm : Str), (gs.map (·.1))[i]? = some nm → KnownG K mg nm (glOf gs i)
  | [], _, i, nm, h => by cases h
  | y :: r, .cons a b, 0, nm, h => by cases h; exact a
  | y :: r, .cons a b, i + 1, nm, h => b.all i nm h
theorem gl_str (nm : Str) (x : List Nat) {t : Tok} (X : K.In h) (N : h.Ns mainGlobals mg) (dbg : (nm == ("__debug__" : Str)) = false) (a : PySem.W.nsIn K mainGlobals nm = some (some (.str (ss x) t))) : KnownG K mg nm (.str x) :=
  ⟨dbg, _, .str (ss x), PySem.W.mg_of X N a, ⟨_, rfl⟩, fun _ _ _ => by simp only [RepV]⟩
theorem gl_int (nm : Str) (x : Int) {t : Tok} (X : K.In h) (N : h.Ns mainGlobals mg) (dbg : (nm == ("__debug__" : Str)) = false) (a : PySem.W.nsIn K mainGlobals nm = some (some (.int x t))) : KnownG K mg nm (.int x) :=
  ⟨dbg, _, .int x, PySem.W.mg_of X N a, ⟨_, rfl⟩, fun _ _ _ => by simp only [RepV]⟩
theorem reps_ints (μ : Mu) (N : Nat) (H : Hp) : ∀ ns : List Int, RepVs K μ N H (ns.map .int) (ns.map V.int)
  | [] => by simp only [List.map_nil, RepVs]
  | n :: ns => by
    simp only [List.map_cons, RepVs]
    exact ⟨_, _, rfl, by simp only [RepV], reps_ints μ N H ns⟩
/-- the law's def at the script -/
theorem law_mk {l : PySem.W.OpenLaw} {w : World} {fa : Addr} {fs : List (FnI × Bool)} {gs : List (Str × D)} (L : Nat) (lf : FnI) (st : Stmt) (x : Str) (X : K.In h) (N : h.Ns mainGlobals mg) (hfa : mg "law" = some (.ref fa))
    (hN : lf.N.take lf.ps = [x])
    {f : Addr} {oc : Value} {od an : Option Addr} {osl : Array (Option Value)} {kV doc pm cdv ct : Value}
    (a : PySem.W.nsIn K mainGlobals "law" = some (some (.ref f))) (lk : K.lookup f = some ⟨oc, od, .func (PySem.W.fnOf "law" "law" (defArgs st) (defBody st) (defScope st) .none kV doc pm an cdv ct), osl⟩)
    (c : PySem.W.codeIn K cdv "law" = true) (k : PySem.W.keepIn K (.ref f) = true)
    (hb : ∀ (s : Shared) (v : Value), BindsTo s (PySem.W.fnOf "law" "law" (defArgs st) (defBody st) (defScope st) .none kV doc pm an cdv ct) ⟨[v], []⟩ [(x, v)])
    (hc : chkFn ⟨fs.map (·.1.name), gs.map (·.1)⟩ lf st = true)
    (hblt : NoNames K bltNames) (hd : DefsIs K mg ⟨fs.map (·.1.name), gs.map (·.1)⟩ fs) (hg : GlsAre K mg gs) :
    ∃ fd : FuncData, (∀ (s : Shared) (v : Value), BindsTo s fd ⟨[v], []⟩ [(x, v)]) ∧ ∀ base : Heap, K.In base → base.Ns mainGlobals mg → FnOk l.prog w K mg base CX0 (L + 1) fa fd [x] (spOf K (run ⟨semF fs (glOf gs) 100000000000 L, glOf gs, 100000000000⟩ lf)) := by
  have e := hfa.symm.trans (PySem.W.mg_of X N a)
  cases e
  have F := fun_mk (st := st) lk c k
  refine ⟨_, hb, fun base _ _ => ?_⟩
  have hk := sem_known (P := l.prog) (w := w) (base := base) (fuel := 100000000000) (gl := glOf gs) (hblt.all X N) hd.all hg.all
  have := run_ok (Γ := ⟨semF fs (glOf gs) 100000000000 L, glOf gs, 100000000000⟩) F hc (hblt.all X N) (hk L) hg.all
  rw [hN] at this
  exact this
/-- the law's own asking -/
theorem law_sp {K : PySem.W.Frag} {F : List D → St' → R (D × St')} {H : Hp} {a : Addr} {ns : List Int} (hS : SqL K H a (ns.map V.int)) (hF : ∃ S', F [.lst (ns.map .int)] [] = .ok (.bl true, S')) :
    spOf K F [.ref a] H (fun v _ => v = .bl true) fun _ _ _ => False := by
  obtain ⟨S', hF⟩ := hF
  refine ⟨⟨fun _ => 0, []⟩, [], [.lst (ns.map .int)], .bl true, S', ⟨fun i j hi => absurd hi (Nat.not_lt_zero _), (fun i o hi => by cases hi), (fun a ha => by cases ha), (fun a ha => by cases ha)⟩, ?_, hF, fun v H' μ' r' x' rv => ?_⟩
  · simp only [RepVs, RepV]
    refine ⟨_, _, rfl, ⟨a, ns.map V.int, rfl, ?_, reps_ints _ _ _ ns⟩, rfl⟩
    rcases hS with hS | hS
    · exact .inl ⟨hS, fun i hi => absurd hi (Nat.not_lt_zero _), fun hm => by cases hm⟩
    · exact .inr hS
  · simpa only [RepV] using rv
end
end TK

/-! Lb1: the draws that most laws make. -/
namespace TK
open PySem PySem.Spec PyProof.Rows L2
/-! ### words for reckoning -/
@[simp] theorem ty_beq (a b : Ty) : (a == b) = decide (a = b) := rfl
noncomputable def turnB (Γ : Ctx) (tg : Tg) (b : List IS) (d : D) (env : Env') (S : St') : R (Fl × Env' × St') := turnF tg (exs Γ b) d env S
noncomputable def compB (Γ : Ctx) (tg : Tg) (own : List Nat) (c : List IE) (elt : IE) (env : Env') (d : D) (S : St') : R (Option D × St') := compF tg own (evTs Γ c) (ev Γ elt) env d S
noncomputable def whileB (Γ : Ctx) (c : IE) (b : List IS) (n : Nat) (env : Env') (S : St') : R (Fl × Env' × St') := whileL (evT Γ c) (exs Γ b) n env S
theorem turnB_eq (Γ : Ctx) (tg : Tg) (b : List IS) (d : D) (env : Env') (S : St') : turnB Γ tg b d env S = (setT tg S d env).bind fun env2 => exs Γ b env2 S := rfl
theorem compB_eq (Γ : Ctx) (tg : Tg) (own : List Nat) (c : List IE) (elt : IE) (env : Env') (d : D) (S : St') : compB Γ tg own c elt env d S = (setT tg S d (wipe' env own)).bind fun env2 => (evTs Γ c env2 S).bind fun t => if t.1 then (ev Γ elt env2 t.2).bind fun y => .ok (some y.1, y.2) else .ok (none, t.2) := rfl
theorem whileB_zero (Γ : Ctx) (c : IE) (b : List IS) (env : Env') (S : St') : whileB Γ c b 0 env S = .bad := rfl
theorem whileB_succ (Γ : Ctx) (c : IE) (b : List IS) (n : Nat) (env : Env') (S : St') : whileB Γ c b (n + 1) env S = (evT Γ c env S).bind fun k => if k.1 then (exs Γ b env k.2).bind fun r => (match r.1 with
    | .nx => whileB Γ c b n r.2.1 r.2.2
    | .cnt => whileB Γ c b n r.2.1 r.2.2
    | .brk => .ok (.nx, r.2.1, r.2.2)
    | .ret d => .ok (.ret d, r.2.1, r.2.2)) else .ok (.nx, env, k.2) := rfl
theorem ex_for (Γ : Ctx) (tg : Tg) (k : ItK) (es : List IE) (b : List IS) (env : Env') (S : St') : ex Γ (.for_ tg k es b) env S = (evs Γ es env S).bind fun x => (itF k x.2 x.1).bind fun items => forL items.2 (turnB Γ tg b) items.1 env x.2 := by rw [ex.eq_7]; rfl
theorem ex_while (Γ : Ctx) (c : IE) (b : List IS) (env : Env') (S : St') : ex Γ (.while_ c b) env S = whileB Γ c b Γ.fuel env S := by rw [ex.eq_6]; rfl
noncomputable def forDB (Γ : Ctx) (tg : Tg) (b : List IS) (n : Nat) (kvs : List (D × D)) (k : DIt) (env : Env') (S : St') : R (Fl × Env' × St') := (forL (isLck n kvs) (turnB Γ tg b) (ditF k kvs) env (S.set n (.lck kvs))).bind fun r => lckE n kvs r
theorem ex_forD (Γ : Ctx) (tg : Tg) (k : DIt) (i : Nat) (b : List IS) (env : Env') (S : St') : ex Γ (.forD tg k i b) env S = (lckF S env[i]?).bind fun p => forDB Γ tg b p.1 p.2 k env S := by rw [ex.eq_14]; rfl
theorem ev_comp (Γ : Ctx) (own : List Nat) (elt : IE) (tg : Tg) (k : ItK) (es c : List IE) (env : Env') (S : St') : ev Γ (.comp own elt tg k es c) env S = (evs Γ es env S).bind fun x => (itF k x.2 x.1).bind fun items => if items.1.length ≤ lim then
      (compL items.2 (compB Γ tg own c elt env) items.1 x.2).bind fun r => .ok (.lst r.1, r.2) else .bad := by rw [ev.eq_22]; rfl

noncomputable def compDB (Γ : Ctx) (tg : Tg) (own : List Nat) (c : List IE) (elt : IE) (n : Nat) (kvs : List (D × D)) (env : Env') (S : St') : R (D × St') := if kvs.length ≤ lim then
      (compL (isLckT n kvs) (compB Γ tg own c elt env) (kvs.map (·.1)) (S.set n (.lckT kvs))).bind fun r => lckTE n kvs r else .bad
theorem ev_compD (Γ : Ctx) (own : List Nat) (elt : IE) (tg : Tg) (i : Nat) (c : List IE) (env : Env') (S : St') : ev Γ (.compD own elt tg i c) env S = (lckTF S env[i]?).bind fun p => compDB Γ tg own c elt p.1 p.2 env S := by rw [ev.eq_25]; rfl
noncomputable def forTB (Γ : Ctx) (tg : Tg) (b : List IS) (n : Nat) (kvs : List (D × D)) (env : Env') (S : St') : R (Fl × Env' × St') := (forL (isLckT n kvs) (turnB Γ tg b) (kvs.map (·.1)) env (S.set n (.lckT kvs))).bind fun r => lckTS n kvs r
theorem ex_forT (Γ : Ctx) (tg : Tg) (i : Nat) (b : List IS) (env : Env') (S : St') : ex Γ (.forT tg i b) env S = (lckTF S env[i]?).bind fun p => forTB Γ tg b p.1 p.2 env S := by rw [ex.eq_18]; rfl
theorem ev_var (Γ : Ctx) (i : Nat) (env : Env') (S : St') : ev Γ (.var i) env S = (match env[i]? with | some (some d) => .ok (d, S) | _ => .bad) := by simp only [ev] <;> rfl
abbrev M61 : Int := 2305843009213693951
def potN (c : Int) : Int := 2 * (if c < 0 then -c else c) + (if decide (c < 0) = true then 1 else 0)
def potF (c s : Int) : Int × Int := if potN c ≥ 10 ^ 18 then (potN c, s) else (0, (s * 1000003 + potN c + 7) % M61)
def potO (q : Int × Int) : O := .lst [.int q.1, .int q.2]
def mixF (b : Int) : Int := (b * 1181783497276652981 + 12345678910987) % M61
def takeF (m : Int) (q : Int × Int) : Int × (Int × Int) := if q.1 > 0 then (q.1 % m, (q.1 / m, q.2)) else
  (mixF q.2 % 2147483629 * (mixF q.2 / 2147483629 + 48271) % M61 / 1009 % m, (q.1, mixF q.2))
theorem takeF_lt {m : Int} (h : 0 < m) (q : Int × Int) : 0 ≤ (takeF m q).1 ∧ (takeF m q).1 < m := by
  unfold takeF
  split
  · exact ⟨Int.emod_nonneg _ (by omega), Int.emod_lt_of_pos _ h⟩
  · exact ⟨Int.emod_nonneg _ (by omega), Int.emod_lt_of_pos _ h⟩
def i_law_pot : FnI := ⟨"_law_pot", 2, ["_law_cell", "_law_seed_here", "_law_number"],
  [.asg (.one 2) (.bin .add (.bin .mul (.cst (.int 2)) (.blt .abs [(.var 0)])) (.blt .int [(.cmp .lt (.var 0) (.cst (.int 0)))])), .if_ (.cmp .ge (.var 2) (.bin .pow (.cst (.int 10)) (.cst (.int 18)))) [.ret (.own (.lst [(.var 2), (.var 1)]))] [], .ret (.own (.lst [(.cst (.int 0)), (.bin .mod (.bin .add (.bin .add (.bin .mul (.var 1) (.cst (.int 1000003))) (.var 2)) (.cst (.int 7))) (.cst (.int 2305843009213693951)))]))]⟩
/- 5 _law_take -/
def i_law_take : FnI := ⟨"_law_take", 2, ["_law_pot_here", "_law_many", "_law_twice", "_law_value"],
  [.if_ (.cmp .gt (.idx (.var 0) (.cst (.int 0))) (.cst (.int 0))) [.asg (.one 3) (.bin .mod (.idx (.var 0) (.cst (.int 0))) (.var 1)), .setix (.var 0) (.cst (.int 0)) (.bin .fdiv (.idx (.var 0) (.cst (.int 0))) (.var 1)), .ret (.var 3)] [], .setix (.var 0) (.cst (.int 1)) (.bin .mod (.bin .add (.bin .mul (.idx (.var 0) (.cst (.int 1))) (.cst (.int 1181783497276652981))) (.cst (.int 12345678910987))) (.cst (.int 2305843009213693951))), .asg (.one 2) (.bin .mod (.bin .mul (.bin .mod (.idx (.var 0) (.cst (.int 1))) (.cst (.int 2147483629))) (.bin .add (.bin .fdiv (.idx (.var 0) (.cst (.int 1))) (.cst (.int 2147483629))) (.cst (.int 48271)))) (.cst (.int 2305843009213693951))), .ret (.bin .mod (.bin .fdiv (.var 2) (.cst (.int 1009))) (.var 1))]⟩
def spPot : List D → St' → R (D × St')
  | [.int c, .int s], S => .ok (.loc S.length, S ++ [potO (potF c s)])
  | _, _ => .bad
theorem run_pot (Γ : Ctx) (c s : Int) (S : St') : run Γ i_law_pot [.int c, .int s] S = .ok (.loc S.length, S ++ [potO (potF c s)]) := by
  by_cases h1 : c < 0
  · by_cases h2 : (1000000000000000000 : Int) ≤ 2 * -c + 1
    · simp [i_law_pot, run, wipe', exs, ex.eq_1, ex.eq_2, ex.eq_3, ex.eq_4, ex.eq_5, ex.eq_8, ex.eq_9, ex.eq_10, ex.eq_11, ex.eq_12, ex.eq_16, idxL, ex_for, ex_while, ev.eq_1, ev.eq_2, ev.eq_3, ev.eq_4, ev.eq_5, ev.eq_6, ev.eq_7, ev.eq_8, ev.eq_9, ev.eq_10, ev.eq_11, ev.eq_12, ev.eq_13, ev.eq_14, ev.eq_15, ev.eq_16, ev.eq_17, ev.eq_18, ev.eq_19, ev.eq_20, ev.eq_21, ev.eq_23, ev.eq_24, ev.eq_27, ev.eq_28, ev_comp, ex.eq_17, ex_forT, ev_compD, ex_forD, cmpF0, idxF0, idxD, inD, dctOf, ownDct, setixL, setixD, lenF0, revF, alterD, pairsD, isKey, allocD, lckF, evs, evT, evTs, evTAnd, evTOr, evAnd, evOr, binF, addF, augF, cmpF, eqF, ltF, leF, inF, isN, bltF, repF, rgF, lenF, tyF, truF, setT, setMany, mulOk, divOk, allocL, idxF, slcF, optI, seqOf, lstOf, atI, ixN, setixF, mthF, mOk, isStr, itF, itemsOf, srcOk, lim, potF, potO, potN, h1, h2]
    · simp [i_law_pot, run, wipe', exs, ex.eq_1, ex.eq_2, ex.eq_3, ex.eq_4, ex.eq_5, ex.eq_8, ex.eq_9, ex.eq_10, ex.eq_11, ex.eq_12, ex.eq_16, idxL, ex_for, ex_while, ev.eq_1, ev.eq_2, ev.eq_3, ev.eq_4, ev.eq_5, ev.eq_6, ev.eq_7, ev.eq_8, ev.eq_9, ev.eq_10, ev.eq_11, ev.eq_12, ev.eq_13, ev.eq_14, ev.eq_15, ev.eq_16, ev.eq_17, ev.eq_18, ev.eq_19, ev.eq_20, ev.eq_21, ev.eq_23, ev.eq_24, ev.eq_27, ev.eq_28, ev_comp, ex.eq_17, ex_forT, ev_compD, ex_forD, cmpF0, idxF0, idxD, inD, dctOf, ownDct, setixL, setixD, lenF0, revF, alterD, pairsD, isKey, allocD, lckF, evs, evT, evTs, evTAnd, evTOr, evAnd, evOr, binF, addF, augF, cmpF, eqF, ltF, leF, inF, isN, bltF, repF, rgF, lenF, tyF, truF, setT, setMany, mulOk, divOk, allocL, idxF, slcF, optI, seqOf, lstOf, atI, ixN, setixF, mthF, mOk, isStr, itF, itemsOf, srcOk, lim, potF, potO, potN, h1, h2]
  · by_cases h2 : (1000000000000000000 : Int) ≤ 2 * c
    · simp [i_law_pot, run, wipe', exs, ex.eq_1, ex.eq_2, ex.eq_3, ex.eq_4, ex.eq_5, ex.eq_8, ex.eq_9, ex.eq_10, ex.eq_11, ex.eq_12, ex.eq_16, idxL, ex_for, ex_while, ev.eq_1, ev.eq_2, ev.eq_3, ev.eq_4, ev.eq_5, ev.eq_6, ev.eq_7, ev.eq_8, ev.eq_9, ev.eq_10, ev.eq_11, ev.eq_12, ev.eq_13, ev.eq_14, ev.eq_15, ev.eq_16, ev.eq_17, ev.eq_18, ev.eq_19, ev.eq_20, ev.eq_21, ev.eq_23, ev.eq_24, ev.eq_27, ev.eq_28, ev_comp, ex.eq_17, ex_forT, ev_compD, ex_forD, cmpF0, idxF0, idxD, inD, dctOf, ownDct, setixL, setixD, lenF0, revF, alterD, pairsD, isKey, allocD, lckF, evs, evT, evTs, evTAnd, evTOr, evAnd, evOr, binF, addF, augF, cmpF, eqF, ltF, leF, inF, isN, bltF, repF, rgF, lenF, tyF, truF, setT, setMany, mulOk, divOk, allocL, idxF, slcF, optI, seqOf, lstOf, atI, ixN, setixF, mthF, mOk, isStr, itF, itemsOf, srcOk, lim, potF, potO, potN, h1, h2]
    · simp [i_law_pot, run, wipe', exs, ex.eq_1, ex.eq_2, ex.eq_3, ex.eq_4, ex.eq_5, ex.eq_8, ex.eq_9, ex.eq_10, ex.eq_11, ex.eq_12, ex.eq_16, idxL, ex_for, ex_while, ev.eq_1, ev.eq_2, ev.eq_3, ev.eq_4, ev.eq_5, ev.eq_6, ev.eq_7, ev.eq_8, ev.eq_9, ev.eq_10, ev.eq_11, ev.eq_12, ev.eq_13, ev.eq_14, ev.eq_15, ev.eq_16, ev.eq_17, ev.eq_18, ev.eq_19, ev.eq_20, ev.eq_21, ev.eq_23, ev.eq_24, ev.eq_27, ev.eq_28, ev_comp, ex.eq_17, ex_forT, ev_compD, ex_forD, cmpF0, idxF0, idxD, inD, dctOf, ownDct, setixL, setixD, lenF0, revF, alterD, pairsD, isKey, allocD, lckF, evs, evT, evTs, evTAnd, evTOr, evAnd, evOr, binF, addF, augF, cmpF, eqF, ltF, leF, inF, isN, bltF, repF, rgF, lenF, tyF, truF, setT, setMany, mulOk, divOk, allocL, idxF, slcF, optI, seqOf, lstOf, atI, ixN, setixF, mthF, mOk, isStr, itF, itemsOf, srcOk, lim, potF, potO, potN, h1, h2]
theorem run_take (Γ : Ctx) (p : Nat) (m : Int) (q : Int × Int) (S : St') (h : S[p]? = some (potO q)) (h1 : 0 < m) (h2 : m < 2 ^ 200) : run Γ i_law_take [.loc p, .int m] S = .ok (.int (takeF m q).1, S.set p (potO (takeF m q).2)) := by
  obtain ⟨a, b⟩ := q
  have hp : p < S.length := (List.getElem?_eq_some_iff.mp h).1
  have h : S[p]? = some (O.lst [.int a, .int b]) := h
  have hs : ∀ o : O, (S.set p o)[p]? = some o := fun o => by simp [hp]
  have h3 : m < 1606938044258990275541962092341162602522202993782792835301376 := h2
  have l1 : ∀ x : Int, -18446744073709551616 < x % 2147483629 := fun x => by have := Int.emod_nonneg x (show (2147483629 : Int) ≠ 0 by decide); omega
  have l2 : ∀ x : Int, x % 2147483629 < 18446744073709551616 := fun x => by have := Int.emod_lt_of_pos x (show (0 : Int) < 2147483629 by decide); omega
  by_cases h0 : 0 < a
  · simp [i_law_take, run, wipe', exs, ex.eq_1, ex.eq_2, ex.eq_3, ex.eq_4, ex.eq_5, ex.eq_8, ex.eq_9, ex.eq_10, ex.eq_11, ex.eq_12, ex.eq_16, idxL, ex_for, ex_while, ev.eq_1, ev.eq_2, ev.eq_3, ev.eq_4, ev.eq_5, ev.eq_6, ev.eq_7, ev.eq_8, ev.eq_9, ev.eq_10, ev.eq_11, ev.eq_12, ev.eq_13, ev.eq_14, ev.eq_15, ev.eq_16, ev.eq_17, ev.eq_18, ev.eq_19, ev.eq_20, ev.eq_21, ev.eq_23, ev.eq_24, ev.eq_27, ev.eq_28, ev_comp, ex.eq_17, ex_forT, ev_compD, ex_forD, cmpF0, idxF0, idxD, inD, dctOf, ownDct, setixL, setixD, lenF0, revF, alterD, pairsD, isKey, allocD, lckF, evs, evT, evTs, evTAnd, evTOr, evAnd, evOr, binF, addF, augF, cmpF, eqF, ltF, leF, inF, isN, bltF, repF, rgF, lenF, tyF, truF, setT, setMany, mulOk, divOk, allocL, idxF, slcF, optI, seqOf, lstOf, atI, ixN, setixF, mthF, mOk, isStr, itF, itemsOf, srcOk, lim, h, h0, h1, h3, hs, takeF, potO]
  · simp [i_law_take, run, wipe', exs, ex.eq_1, ex.eq_2, ex.eq_3, ex.eq_4, ex.eq_5, ex.eq_8, ex.eq_9, ex.eq_10, ex.eq_11, ex.eq_12, ex.eq_16, idxL, ex_for, ex_while, ev.eq_1, ev.eq_2, ev.eq_3, ev.eq_4, ev.eq_5, ev.eq_6, ev.eq_7, ev.eq_8, ev.eq_9, ev.eq_10, ev.eq_11, ev.eq_12, ev.eq_13, ev.eq_14, ev.eq_15, ev.eq_16, ev.eq_17, ev.eq_18, ev.eq_19, ev.eq_20, ev.eq_21, ev.eq_23, ev.eq_24, ev.eq_27, ev.eq_28, ev_comp, ex.eq_17, ex_forT, ev_compD, ex_forD, cmpF0, idxF0, idxD, inD, dctOf, ownDct, setixL, setixD, lenF0, revF, alterD, pairsD, isKey, allocD, lckF, evs, evT, evTs, evTAnd, evTOr, evAnd, evOr, binF, addF, augF, cmpF, eqF, ltF, leF, inF, isN, bltF, repF, rgF, lenF, tyF, truF, setT, setMany, mulOk, divOk, allocL, idxF, slcF, optI, seqOf, lstOf, atI, ixN, setixF, mthF, mOk, isStr, itF, itemsOf, srcOk, lim, h, h0, h1, h3, hs, takeF, potO, mixF, l1, l2]
end TK

/-! Lb2: loops and comprehensions in plain Lean; more helpers that most laws have. -/
namespace TK
open PySem PySem.Spec PyProof.Rows L2
theorem forL_rel {g : St' → Prop} {f : D → MS} (Pr : List D → Env' → St' → Prop) (hs : ∀ x xs env S, Pr (x :: xs) env S → g S ∧ ∃ env' S', f x env S = .ok (.nx, env', S') ∧ Pr xs env' S') (he : ∀ env S, Pr [] env S → g S) :
    ∀ (items : List D) (env : Env') (S : St'), Pr items env S → ∃ env' S', forL g f items env S = .ok (.nx, env', S') ∧ Pr [] env' S' := by
  intro items
  induction items with
  | nil =>
    intro env S h
    refine ⟨env, S, ?_, h⟩
    unfold forL
    rw [if_pos (he env S h)]
  | cons x xs ih =>
    intro env S h
    obtain ⟨hg, env1, S1, e1, h1⟩ := hs x xs env S h
    obtain ⟨env2, S2, e2, h2⟩ := ih env1 S1 h1
    refine ⟨env2, S2, ?_, h2⟩
    unfold forL
    rw [if_pos hg, e1]
    exact e2
theorem forL_gen {g : St' → Prop} {f : D → MS} {items : List D} {env : Env'} {S : St'} {r : R (Fl × Env' × St')} (h : forL g f items env S = r) (Pr : List D → Env' → St' → Prop) (h0 : Pr items env S) (hs : ∀ x xs env S, Pr (x :: xs) env S → g S ∧ ∃ env' S', f x env S = .ok (.nx, env', S') ∧ Pr xs env' S') (he : ∀ env S, Pr [] env S → g S) :
    ∃ env' S', r = .ok (.nx, env', S') ∧ Pr [] env' S' := h ▸ forL_rel Pr hs he items env S h0
theorem compL_pure {β : Type} {g : St' → Prop} {f : D → St' → R (Option D × St')} {S : St'} (k : β → D) (h : β → Option D) (hg : g S) : ∀ l : List β, (∀ a ∈ l, f (k a) S = .ok (h a, S)) → compL g f (l.map k) S = .ok (l.filterMap h, S)
  | [], _ => by
    show compL g f [] S = _
    unfold compL
    rw [if_pos hg]; rfl
  | a :: l, hf => by
    show compL g f (k a :: l.map k) S = _
    unfold compL
    rw [if_pos hg, hf a List.mem_cons_self, R.bind_ok]
    show (compL g f (l.map k) S).bind _ = _
    rw [compL_pure k h hg l fun b hb => hf b (List.mem_cons_of_mem _ hb), R.bind_ok]
    cases e : h a with
    | none => rw [List.filterMap_cons_none e]
    | some d => rw [List.filterMap_cons_some e]
theorem compL_map {β : Type} {g : St' → Prop} {f : D → St' → R (Option D × St')} {S : St'} (k : β → D) (h : β → D) (hg : g S) (l : List β) (hf : ∀ a ∈ l, f (k a) S = .ok (some (h a), S)) : compL g f (l.map k) S = .ok (l.map h, S) := by
  rw [compL_pure k (fun a => some (h a)) hg l hf]
  congr 2
  induction l with
  | nil => rfl
  | cons a l ih => exact congrArg (h a :: ·) (ih fun b hb => hf b (List.mem_cons_of_mem _ hb))
theorem cutD_take {α : Type} (xs : List α) (k : Nat) : cutD xs none (some (k : Int)) = xs.take k := by
  unfold cutD
  rw [HT.sIx_none, HT.sIx_nat, List.drop_zero, Nat.sub_zero]
  by_cases h : k ≤ xs.length
  · rw [Nat.min_eq_left h]
  · rw [Nat.min_eq_right (by omega), List.take_length, List.take_of_length_le (by omega)]
theorem cutD_drop {α : Type} (xs : List α) (k : Nat) : cutD xs (some (k : Int)) none = xs.drop k := by
  unfold cutD
  rw [HT.sIx_none, HT.sIx_nat]
  by_cases h : k ≤ xs.length
  · rw [Nat.min_eq_left h, List.take_of_length_le (by rw [List.length_drop]; omega)]
  · rw [Nat.min_eq_right (by omega), List.drop_length, List.drop_of_length_le (by omega), List.take_nil]
/-! ### the seed -/
def i_law_seed : FnI := ⟨"_law_seed", 1, ["_law_script", "_law_seed_here", "_law_cell"],
  [.asg (.one 1) (.cst (.int 1000003)), .for_ (.one 2) .val [(.slc (.var 0) [] [(.cst (.int 63))])] [.asg (.one 1) (.bin .mod (.bin .add (.bin .add (.bin .mul (.var 1) (.cst (.int 7368787))) (.bin .mod (.var 2) (.bin .pow (.cst (.int 10)) (.cst (.int 30))))) (.cst (.int 11))) (.cst (.int 2305843009213693951)))], .ret (.var 1)]⟩
def seedS (s n : Int) : Int := (s * 7368787 + n % 10 ^ 30 + 11) % M61
theorem run_seed (Γ : Ctx) (ns : List Int) (S : St') : ∃ s, run Γ i_law_seed [.lst (ns.map .int)] S = .ok (.int s, S) := by
  have hc : cutD (ns.map D.int) none (some 63) = (ns.take 63).map D.int := by
    rw [List.map_take]; exact cutD_take (ns.map D.int) 63
  simp [i_law_seed, run, wipe', exs, ex.eq_1, ex.eq_2, ex.eq_3, ex.eq_4, ex.eq_5, ex.eq_8, ex.eq_9, ex.eq_10, ex.eq_11, ex.eq_12, ex.eq_16, idxL, ex_for, ex_while, ev.eq_1, ev.eq_2, ev.eq_3, ev.eq_4, ev.eq_5, ev.eq_6, ev.eq_7, ev.eq_8, ev.eq_9, ev.eq_10, ev.eq_11, ev.eq_12, ev.eq_13, ev.eq_14, ev.eq_15, ev.eq_16, ev.eq_17, ev.eq_18, ev.eq_19, ev.eq_20, ev.eq_21, ev.eq_23, ev.eq_24, ev.eq_27, ev.eq_28, ev_comp, ex.eq_17, ex_forT, ev_compD, ex_forD, cmpF0, idxF0, idxD, inD, dctOf, ownDct, setixL, setixD, lenF0, revF, alterD, pairsD, isKey, allocD, lckF, evs, evT, evTs, evTAnd, evTOr, evAnd, evOr, binF, addF, augF, cmpF, eqF, ltF, leF, inF, isN, bltF, repF, rgF, lenF, tyF, truF, setT, setMany, mulOk, divOk, allocL, idxF, slcF, optI, seqOf, lstOf, atI, ixN, setixF, mthF, mOk, isStr, itF, itemsOf, srcOk, lim]
  rw [hc]
  generalize hg : forL _ _ _ _ _ = r
  obtain ⟨env', S', rfl, rfl, a, s, o, ms, rfl, _⟩ := forL_gen hg (fun rest env S' => S' = S ∧ ∃ (a : D) (s : Int) (o : Option D) (ms : List Int), env = [some a, some (.int s), o] ∧ rest = ms.map .int) ⟨rfl, _, _, _, ns.take 63, rfl, rfl⟩ (by
    rintro x xs env S' ⟨rfl, a, s, o, ms, rfl, hx⟩
    cases ms with
    | nil => cases hx
    | cons n ms =>
      cases hx
      refine ⟨trivial, [some a, some (.int (seedS s n)), some (.int n)], S', ?_, rfl, a, _, _, ms, rfl, rfl⟩
      simp [turnB_eq, run, wipe', exs, ex.eq_1, ex.eq_2, ex.eq_3, ex.eq_4, ex.eq_5, ex.eq_8, ex.eq_9, ex.eq_10, ex.eq_11, ex.eq_12, ex.eq_16, idxL, ex_for, ex_while, ev.eq_1, ev.eq_2, ev.eq_3, ev.eq_4, ev.eq_5, ev.eq_6, ev.eq_7, ev.eq_8, ev.eq_9, ev.eq_10, ev.eq_11, ev.eq_12, ev.eq_13, ev.eq_14, ev.eq_15, ev.eq_16, ev.eq_17, ev.eq_18, ev.eq_19, ev.eq_20, ev.eq_21, ev.eq_23, ev.eq_24, ev.eq_27, ev.eq_28, ev_comp, ex.eq_17, ex_forT, ev_compD, ex_forD, cmpF0, idxF0, idxD, inD, dctOf, ownDct, setixL, setixD, lenF0, revF, alterD, pairsD, isKey, allocD, lckF, evs, evT, evTs, evTAnd, evTOr, evAnd, evOr, binF, addF, augF, cmpF, eqF, ltF, leF, inF, isN, bltF, repF, rgF, lenF, tyF, truF, setT, setMany, mulOk, divOk, allocL, idxF, slcF, optI, seqOf, lstOf, atI, ixN, setixF, mthF, mOk, isStr, itF, itemsOf, srcOk, lim, seedS]) fun env S' h => trivial
  exact ⟨s, by simp⟩
end TK

/-! Lb3: alike kind by kind; a drawn text. -/
namespace TK
open PySem PySem.Spec PyProof.Rows L2
/-! ### _law_same -/
def i_law_same (f_law_same : Nat) : FnI := ⟨"_law_same", 2, ["_law_told", "_law_due", "_law_one", "_law_other"],
  [.if_ (.tru (.isi .tuple (.var 1))) [.if_ (.or_ [(.not_ (.tru (.isi .tuple (.var 0)))), (.cmp .ne (.blt .len [(.var 0)]) (.blt .len [(.var 1)]))]) [.ret (.cst (.bl false))] [], .ret (.blt .all [(.comp [2, 3] (.call f_law_same [(.var 2), (.var 3)]) (.many [2, 3]) .zip [(.var 0), (.var 1)] [])])] [], .if_ (.tru (.isi .bool (.var 1))) [.ret (.and_ [(.isi .bool (.var 0)), (.cmp .eq (.var 0) (.var 1))])] [], .if_ (.tru (.isi .str (.var 1))) [.ret (.and_ [(.isi .str (.var 0)), (.cmp .eq (.var 0) (.var 1))])] [], .ret (.and_ [(.isi .int (.var 0)), (.not_ (.isi .bool (.var 0))), (.cmp .eq (.var 0) (.var 1))])]⟩
mutual
/-- data of tuples, truths, texts and whole numbers, n deep at most -/
def plainD : Nat → D → Bool
  | 0, _ => false
  | n + 1, .tup ds => plainDs n ds && decide (ds.length ≤ lim)
  | _ + 1, .bl _ => true
  | _ + 1, .str _ => true
  | _ + 1, .int _ => true
  | _ + 1, _ => false
def plainDs : Nat → List D → Bool
  | _, [] => true
  | n, d :: ds => plainD n d && plainDs n ds
end
/-- it tells True of equal ones -/
def SameOk (n : Nat) (F : List D → St' → R (D × St')) : Prop := ∀ d S, plainD n d = true → F [d, d] S = .ok (.bl true, S)
theorem plainDs_mem {n : Nat} : ∀ {ds : List D}, plainDs n ds = true → ∀ d ∈ ds, plainD n d = true
  | [], _, d, h => by cases h
  | x :: ds, h, d, hm => by
    simp only [plainDs, Bool.and_eq_true] at h
    rcases List.mem_cons.mp hm with rfl | hm
    · exact h.1
    · exact plainDs_mem h.2 d hm
theorem zip_self : ∀ ds : List D, ((ds.zip ds).map fun p : D × D => D.tup [p.1, p.2]) = ds.map fun d => D.tup [d, d]
  | [] => rfl
  | d :: ds => by rw [List.zip_cons_cons, List.map_cons, List.map_cons, zip_self ds]
theorem bools_true : ∀ ds : List D, boolsD (ds.map fun _ => D.bl true) = some (ds.map fun _ => true)
  | [] => rfl
  | d :: ds => by
    show (boolsD (ds.map fun _ => D.bl true)).map _ = _
    rw [bools_true ds]; rfl
theorem run_same (Γ : Ctx) (f n : Nat) (d : D) (S : St') (hf : SameOk n (Γ.fn f)) (h : plainD (n + 1) d = true) : run Γ (i_law_same f) [d, d] S = .ok (.bl true, S) := by
  cases d with
  | bl b => simp [i_law_same, run, wipe', exs, ex.eq_1, ex.eq_2, ex.eq_3, ex.eq_4, ex.eq_5, ex.eq_8, ex.eq_9, ex.eq_10, ex.eq_11, ex.eq_12, ex.eq_16, idxL, ex_for, ex_while, ev.eq_1, ev.eq_2, ev.eq_3, ev.eq_4, ev.eq_5, ev.eq_6, ev.eq_7, ev.eq_8, ev.eq_9, ev.eq_10, ev.eq_11, ev.eq_12, ev.eq_13, ev.eq_14, ev.eq_15, ev.eq_16, ev.eq_17, ev.eq_18, ev.eq_19, ev.eq_20, ev.eq_21, ev.eq_23, ev.eq_24, ev.eq_27, ev.eq_28, ev_comp, ex.eq_17, ex_forT, ev_compD, ex_forD, cmpF0, idxF0, idxD, inD, dctOf, ownDct, setixL, setixD, lenF0, revF, alterD, pairsD, isKey, allocD, lckF, evs, evT, evTs, evTAnd, evTOr, evAnd, evOr, binF, addF, augF, cmpF, eqF, ltF, leF, inF, isN, bltF, repF, rgF, lenF, tyF, truF, setT, setMany, mulOk, divOk, allocL, idxF, slcF, optI, seqOf, lstOf, atI, ixN, setixF, mthF, mOk, isStr, itF, itemsOf, srcOk, lim]
  | str b => simp [i_law_same, run, wipe', exs, ex.eq_1, ex.eq_2, ex.eq_3, ex.eq_4, ex.eq_5, ex.eq_8, ex.eq_9, ex.eq_10, ex.eq_11, ex.eq_12, ex.eq_16, idxL, ex_for, ex_while, ev.eq_1, ev.eq_2, ev.eq_3, ev.eq_4, ev.eq_5, ev.eq_6, ev.eq_7, ev.eq_8, ev.eq_9, ev.eq_10, ev.eq_11, ev.eq_12, ev.eq_13, ev.eq_14, ev.eq_15, ev.eq_16, ev.eq_17, ev.eq_18, ev.eq_19, ev.eq_20, ev.eq_21, ev.eq_23, ev.eq_24, ev.eq_27, ev.eq_28, ev_comp, ex.eq_17, ex_forT, ev_compD, ex_forD, cmpF0, idxF0, idxD, inD, dctOf, ownDct, setixL, setixD, lenF0, revF, alterD, pairsD, isKey, allocD, lckF, evs, evT, evTs, evTAnd, evTOr, evAnd, evOr, binF, addF, augF, cmpF, eqF, ltF, leF, inF, isN, bltF, repF, rgF, lenF, tyF, truF, setT, setMany, mulOk, divOk, allocL, idxF, slcF, optI, seqOf, lstOf, atI, ixN, setixF, mthF, mOk, isStr, itF, itemsOf, srcOk, lim]
  | int b => simp [i_law_same, run, wipe', exs, ex.eq_1, ex.eq_2, ex.eq_3, ex.eq_4, ex.eq_5, ex.eq_8, ex.eq_9, ex.eq_10, ex.eq_11, ex.eq_12, ex.eq_16, idxL, ex_for, ex_while, ev.eq_1, ev.eq_2, ev.eq_3, ev.eq_4, ev.eq_5, ev.eq_6, ev.eq_7, ev.eq_8, ev.eq_9, ev.eq_10, ev.eq_11, ev.eq_12, ev.eq_13, ev.eq_14, ev.eq_15, ev.eq_16, ev.eq_17, ev.eq_18, ev.eq_19, ev.eq_20, ev.eq_21, ev.eq_23, ev.eq_24, ev.eq_27, ev.eq_28, ev_comp, ex.eq_17, ex_forT, ev_compD, ex_forD, cmpF0, idxF0, idxD, inD, dctOf, ownDct, setixL, setixD, lenF0, revF, alterD, pairsD, isKey, allocD, lckF, evs, evT, evTs, evTAnd, evTOr, evAnd, evOr, binF, addF, augF, cmpF, eqF, ltF, leF, inF, isN, bltF, repF, rgF, lenF, tyF, truF, setT, setMany, mulOk, divOk, allocL, idxF, slcF, optI, seqOf, lstOf, atI, ixN, setixF, mthF, mOk, isStr, itF, itemsOf, srcOk, lim]
  | tup ds =>
    simp only [plainD, Bool.and_eq_true, decide_eq_true_eq] at h
    have hC := compL_map (g := fun _ => True) (S := S) (f := compB Γ (.many [2, 3]) [2, 3] [] (.call f [(.var 2), (.var 3)]) [some (.tup ds), some (.tup ds), none, none]) (fun d => D.tup [d, d]) (fun _ => .bl true) trivial ds fun d hd => by
      simp [compB_eq, run, wipe', exs, ex.eq_1, ex.eq_2, ex.eq_3, ex.eq_4, ex.eq_5, ex.eq_8, ex.eq_9, ex.eq_10, ex.eq_11, ex.eq_12, ex.eq_16, idxL, ex_for, ex_while, ev.eq_1, ev.eq_2, ev.eq_3, ev.eq_4, ev.eq_5, ev.eq_6, ev.eq_7, ev.eq_8, ev.eq_9, ev.eq_10, ev.eq_11, ev.eq_12, ev.eq_13, ev.eq_14, ev.eq_15, ev.eq_16, ev.eq_17, ev.eq_18, ev.eq_19, ev.eq_20, ev.eq_21, ev.eq_23, ev.eq_24, ev.eq_27, ev.eq_28, ev_comp, ex.eq_17, ex_forT, ev_compD, ex_forD, cmpF0, idxF0, idxD, inD, dctOf, ownDct, setixL, setixD, lenF0, revF, alterD, pairsD, isKey, allocD, lckF, evs, evT, evTs, evTAnd, evTOr, evAnd, evOr, binF, addF, augF, cmpF, eqF, ltF, leF, inF, isN, bltF, repF, rgF, lenF, tyF, truF, setT, setMany, mulOk, divOk, allocL, idxF, slcF, optI, seqOf, lstOf, atI, ixN, setixF, mthF, mOk, isStr, itF, itemsOf, srcOk, lim, hf d S (plainDs_mem h.1 d hd)]
    rw [← zip_self] at hC
    have hl : ds.length ≤ 16777216 := h.2
    simp [i_law_same, run, wipe', exs, ex.eq_1, ex.eq_2, ex.eq_3, ex.eq_4, ex.eq_5, ex.eq_8, ex.eq_9, ex.eq_10, ex.eq_11, ex.eq_12, ex.eq_16, idxL, ex_for, ex_while, ev.eq_1, ev.eq_2, ev.eq_3, ev.eq_4, ev.eq_5, ev.eq_6, ev.eq_7, ev.eq_8, ev.eq_9, ev.eq_10, ev.eq_11, ev.eq_12, ev.eq_13, ev.eq_14, ev.eq_15, ev.eq_16, ev.eq_17, ev.eq_18, ev.eq_19, ev.eq_20, ev.eq_21, ev.eq_23, ev.eq_24, ev.eq_27, ev.eq_28, ev_comp, ex.eq_17, ex_forT, ev_compD, ex_forD, cmpF0, idxF0, idxD, inD, dctOf, ownDct, setixL, setixD, lenF0, revF, alterD, pairsD, isKey, allocD, lckF, evs, evT, evTs, evTAnd, evTOr, evAnd, evOr, binF, addF, augF, cmpF, eqF, ltF, leF, inF, isN, bltF, repF, rgF, lenF, tyF, truF, setT, setMany, mulOk, divOk, allocL, idxF, slcF, optI, seqOf, lstOf, atI, ixN, setixF, mthF, mOk, isStr, itF, itemsOf, srcOk, lim, hl]
    rw [hC]
    simp [run, wipe', exs, ex.eq_1, ex.eq_2, ex.eq_3, ex.eq_4, ex.eq_5, ex.eq_8, ex.eq_9, ex.eq_10, ex.eq_11, ex.eq_12, ex.eq_16, idxL, ex_for, ex_while, ev.eq_1, ev.eq_2, ev.eq_3, ev.eq_4, ev.eq_5, ev.eq_6, ev.eq_7, ev.eq_8, ev.eq_9, ev.eq_10, ev.eq_11, ev.eq_12, ev.eq_13, ev.eq_14, ev.eq_15, ev.eq_16, ev.eq_17, ev.eq_18, ev.eq_19, ev.eq_20, ev.eq_21, ev.eq_23, ev.eq_24, ev.eq_27, ev.eq_28, ev_comp, ex.eq_17, ex_forT, ev_compD, ex_forD, cmpF0, idxF0, idxD, inD, dctOf, ownDct, setixL, setixD, lenF0, revF, alterD, pairsD, isKey, allocD, lckF, evs, evT, evTs, evTAnd, evTOr, evAnd, evOr, binF, addF, augF, cmpF, eqF, ltF, leF, inF, isN, bltF, repF, rgF, lenF, tyF, truF, setT, setMany, mulOk, divOk, allocL, idxF, slcF, optI, seqOf, lstOf, atI, ixN, setixF, mthF, mOk, isStr, itF, itemsOf, srcOk, lim, bools_true]
  | non => simp only [plainD] at h; cases h
  | lst ds => simp only [plainD] at h; cases h
  | dct ks ds => simp only [plainD] at h; cases h
  | loc m => simp only [plainD] at h; cases h
theorem sameOk (Γ : Ctx) (f n : Nat) (hf : SameOk n (Γ.fn f)) : SameOk (n + 1) (run Γ (i_law_same f)) := fun d S h => run_same Γ f n d S hf h
theorem plain_zero {F : List D → St' → R (D × St')} : SameOk 0 F := fun d S h => by
  cases d <;> simp [plainD] at h
end TK

/-! Lb4: draws that change a pot; drawn texts. -/
namespace TK
open PySem PySem.Spec PyProof.Rows L2
abbrev FnD := List D → St' → R (D × St')
theorem sem_raw {fs : List (FnI × Bool)} {gl : Nat → D} {fuel L i : Nat} {fi : FnI} (h : fs[i]? = some (fi, true)) : semF fs gl fuel (L + 1) i = run ⟨semF fs gl fuel L, gl, fuel⟩ fi := by
  funext ds S
  simp only [semF, h]
theorem sem_tidy {fs : List (FnI × Bool)} {gl : Nat → D} {fuel L i : Nat} {fi : FnI} (h : fs[i]? = some (fi, false)) (ds : List D) (S : St') : semF fs gl fuel (L + 1) i ds S = (run ⟨semF fs gl fuel L, gl, fuel⟩ fi ds S).bind fun x => .ok (tidy S x) := by
  simp only [semF, h]
theorem same_sem {fs : List (FnI × Bool)} {gl : Nat → D} {fuel i : Nat} (h : fs[i]? = some (i_law_same i, true)) : ∀ L, SameOk L (semF fs gl fuel L i)
  | 0 => plain_zero
  | L + 1 => by
    rw [sem_raw h]
    exact sameOk _ _ _ (same_sem h L)
def PotOk (F : FnD) : Prop := ∀ c s S, F [.int c, .int s] S = .ok (.loc S.length, S ++ [potO (potF c s)])
def TakeOk (F : FnD) : Prop := ∀ p q m S, S[p]? = some (potO q) → 0 < m → m < 2 ^ 200 → F [.loc p, .int m] S = .ok (.int (takeF m q).1, S.set p (potO (takeF m q).2))
def SeedOk (F : FnD) : Prop := ∀ (ns : List Int) S, ∃ s, F [.lst (ns.map .int)] S = .ok (.int s, S)
theorem potOk (Γ : Ctx) : PotOk (run Γ i_law_pot) := fun c s S => run_pot Γ c s S
theorem takeOk (Γ : Ctx) : TakeOk (run Γ i_law_take) := fun p q m S h h1 h2 => run_take Γ p m q S h h1 h2
theorem seedOk (Γ : Ctx) : SeedOk (run Γ i_law_seed) := fun ns S => run_seed Γ ns S

/-! ### what a reading comes to -/
def W {α : Type} (r : R α) (Q : α → Prop) : Prop := match r with
  | .ok a => Q a
  | _ => False
theorem W_ok {α : Type} (a : α) (Q : α → Prop) : W (.ok a) Q = Q a := rfl
theorem W_bad {α : Type} (Q : α → Prop) : W (R.bad : R α) Q = False := rfl
theorem W_bind {α β : Type} (r : R α) (k : α → R β) (Q : β → Prop) : W (r.bind k) Q = W r (fun a => W (k a) Q) := by cases r <;> rfl
theorem W_mono {α : Type} {r : R α} {Q Q' : α → Prop} (h : W r Q) (hq : ∀ a, Q a → Q' a) : W r Q' := by
  cases r with
  | ok a => exact hq a h
  | exc e => exact h
  | bad => exact h
theorem W_of {α : Type} {r : R α} {a : α} {Q : α → Prop} (h : r = .ok a) (q : Q a) : W r Q := by rw [h]; exact q
theorem W_ex {α : Type} {r : R α} {Q : α → Prop} (h : W r Q) : ∃ a, r = .ok a ∧ Q a := by
  cases r with
  | ok a => exact ⟨a, rfl, h⟩
  | exc e => exact h.elim
  | bad => exact h.elim
theorem W_eq {α : Type} {r : R α} {a : α} (h : W r (fun b => b = a)) : r = .ok a := by
  obtain ⟨b, h1, rfl⟩ := W_ex h
  exact h1
abbrev Fes := Fl × Env' × St'
noncomputable def kSeq (Γ : Ctx) (r : List IS) (Q : Fes → Prop) (x : Fes) : Prop := match x.1 with
  | .nx => W (exs Γ r x.2.1 x.2.2) Q
  | f => Q (f, x.2.1, x.2.2)
def kRet (Q : D × St' → Prop) (x : Fes) : Prop := match x.1 with
  | .ret d => Q (d, x.2.2)
  | .nx => Q (.non, x.2.2)
  | _ => False
section
variable (Γ : Ctx) (r : List IS) (Q : Fes → Prop) (Q1 : D × St' → Prop) (env : Env') (S : St') (d : D)
theorem kSeq_nx : kSeq Γ r Q (.nx, env, S) = W (exs Γ r env S) Q := rfl
theorem kSeq_ret : kSeq Γ r Q (.ret d, env, S) = Q (.ret d, env, S) := rfl
theorem kSeq_brk : kSeq Γ r Q (.brk, env, S) = Q (.brk, env, S) := rfl
theorem kSeq_cnt : kSeq Γ r Q (.cnt, env, S) = Q (.cnt, env, S) := rfl
theorem kRet_ret : kRet Q1 (.ret d, env, S) = Q1 (d, S) := rfl
theorem kRet_nx : kRet Q1 (.nx, env, S) = Q1 (.non, S) := rfl
theorem W_exs_nil : W (exs Γ [] env S) Q = Q (.nx, env, S) := by simp only [exs] <;> rfl
theorem W_exs_cons (s : IS) : W (exs Γ (s :: r) env S) Q = W (ex Γ s env S) (kSeq Γ r Q) := by
  simp only [exs, W_bind]
  congr 1
  funext x
  obtain ⟨f, e, S⟩ := x
  cases f <;> rfl
end
theorem W_run {Γ : Ctx} {fi : FnI} {args : List D} {S : St'} {Q : D × St' → Prop} (hl : args.length = fi.ps) (h : W (exs Γ fi.body (args.map some ++ List.replicate (fi.N.length - args.length) none) S) (kRet Q)) : W (run Γ fi args S) Q := by
  unfold run
  rw [if_pos hl, W_bind]
  refine W_mono h fun x hx => ?_
  obtain ⟨f, e, S⟩ := x
  cases f
  · exact hx
  · exact hx
  · exact hx.elim
  · exact hx.elim
/-- a loop by what stands ahead of each turn -/
theorem W_forL {g : St' → Prop} {f : D → MS} {Q : Fes → Prop} (I : List D → Env' → St' → Prop)
    (hs : ∀ x xs env S, I (x :: xs) env S → g S ∧ W (f x env S) (fun r => match r.1 with
      | .nx => I xs r.2.1 r.2.2
      | .cnt => I xs r.2.1 r.2.2
      | .brk => Q (.nx, r.2.1, r.2.2)
      | .ret d => Q (.ret d, r.2.1, r.2.2)))
    (he : ∀ env S, I [] env S → g S ∧ Q (.nx, env, S)) : ∀ (items : List D) (env : Env') (S : St'), I items env S → W (forL g f items env S) Q
  | [], env, S, h => by
    unfold forL
    rw [if_pos (he env S h).1]
    exact (he env S h).2
  | x :: xs, env, S, h => by
    unfold forL
    rw [if_pos (hs x xs env S h).1, W_bind]
    refine W_mono (hs x xs env S h).2 fun r hr => ?_
    obtain ⟨fl, e, S1⟩ := r
    cases fl with
    | nx => exact W_forL I hs he xs e S1 hr
    | cnt => exact W_forL I hs he xs e S1 hr
    | brk => exact hr
    | ret d => exact hr
theorem W_for {g : St' → Prop} {f : D → MS} {Q : Fes → Prop} {items : List D} {env : Env'} {S : St'} (I : List D → Env' → St' → Prop) (h0 : I items env S)
    (hs : ∀ x xs env S, I (x :: xs) env S → g S ∧ W (f x env S) (fun r => match r.1 with
      | .nx => I xs r.2.1 r.2.2
      | .cnt => I xs r.2.1 r.2.2
      | .brk => Q (.nx, r.2.1, r.2.2)
      | .ret d => Q (.ret d, r.2.1, r.2.2)))
    (he : ∀ env S, I [] env S → g S ∧ Q (.nx, env, S)) : W (forL g f items env S) Q := W_forL I hs he items env S h0
theorem W_compL {g : St' → Prop} {f : D → St' → R (Option D × St')} (I : List D → List D → St' → Prop)
    (hs : ∀ x xs acc S, I (x :: xs) acc S → g S ∧ W (f x S) (fun r => I xs (match r.1 with | some d => acc ++ [d] | none => acc) r.2)) (he : ∀ acc S, I [] acc S → g S) :
    ∀ (items acc : List D) (S : St') (Q : List D × St' → Prop), I items acc S → (∀ out S', I [] (acc ++ out) S' → Q (out, S')) → W (compL g f items S) Q
  | [], acc, S, Q, h, q => by
    unfold compL
    rw [if_pos (he acc S h)]
    exact q [] S (by rw [List.append_nil]; exact h)
  | x :: xs, acc, S, Q, h, q => by
    unfold compL
    rw [if_pos (hs x xs acc S h).1, W_bind]
    refine W_mono (hs x xs acc S h).2 fun r hr => ?_
    obtain ⟨od, S1⟩ := r
    rw [W_bind]
    cases od with
    | none => exact W_compL I hs he xs acc S1 _ hr fun out S' hI => q out S' hI
    | some d => exact W_compL I hs he xs (acc ++ [d]) S1 _ hr fun out S' hI => q (d :: out) S' (by rw [List.append_assoc] at hI; exact hI)
theorem W_comp {g : St' → Prop} {f : D → St' → R (Option D × St')} {items : List D} {S : St'} {Q : List D × St' → Prop} (I : List D → List D → St' → Prop) (h0 : I items [] S)
    (hs : ∀ x xs acc S, I (x :: xs) acc S → g S ∧ W (f x S) (fun r => I xs (match r.1 with | some d => acc ++ [d] | none => acc) r.2)) (he : ∀ acc S, I [] acc S → g S ∧ Q (acc, S)) : W (compL g f items S) Q :=
  W_compL I hs (fun acc S h => (he acc S h).1) items [] S Q h0 fun out S' hI => (he out S' hI).2
/-- a drawn index -/
theorem take_nat {m : Int} (h : 0 < m) (q : Int × Int) : ∃ k : Nat, (takeF m q).1 = (k : Int) ∧ (k : Int) < m := by
  have := takeF_lt h q
  exact ⟨(takeF m q).1.toNat, by omega, by omega⟩
theorem atI_get {α : Type} {xs : List α} {i : Int} (h0 : 0 ≤ i) (h1 : i < xs.length) : ∃ x, atI xs i = some x ∧ x ∈ xs := by
  obtain ⟨k, rfl⟩ : ∃ k : Nat, i = (k : Int) := ⟨i.toNat, by omega⟩
  have hk : k < xs.length := by omega
  exact ⟨xs[k], atI_nat (List.getElem?_eq_getElem hk), List.getElem_mem hk⟩
theorem W_idx_lst {S : St'} {ds : List D} {i : Int} {Q : D → Prop} (h0 : 0 ≤ i) (h1 : i < ds.length) (k : ∀ d ∈ ds, Q d) : W (idxF S (.lst ds) (.int i)) Q := by
  obtain ⟨d, hd, hm⟩ := atI_get h0 h1
  exact W_of (a := d) (by simp [idxF, dctOf, idxF0, seqOf, lstOf, hd]) (k d hm)
theorem W_idx_tup {S : St'} {ds : List D} {i : Int} {Q : D → Prop} (h0 : 0 ≤ i) (h1 : i < ds.length) (k : ∀ d ∈ ds, Q d) : W (idxF S (.tup ds) (.int i)) Q := by
  obtain ⟨d, hd, hm⟩ := atI_get h0 h1
  exact W_of (a := d) (by simp [idxF, dctOf, idxF0, seqOf, lstOf, hd]) (k d hm)
theorem W_idx_str {S : St'} {x : List Nat} {i : Int} {Q : D → Prop} (hl : x.length ≤ lim) (h0 : 0 ≤ i) (h1 : i < x.length) (k : ∀ c ∈ x, Q (.str [c])) : W (idxF S (.str x) (.int i)) Q := by
  obtain ⟨c, hd, hm⟩ := atI_get h0 h1
  have hl : x.length ≤ 16777216 := hl
  exact W_of (a := .str [c]) (by simp [idxF, dctOf, idxF0, hl, hd, lim]) (k c hm)
theorem goods {P : Nat → Prop} : ∀ ds : List D, (∀ d ∈ ds, ∃ c, d = .str [c] ∧ P c) → ∃ cs : List Nat, ds = cs.map (fun c => .str [c]) ∧ ∀ c ∈ cs, P c
  | [], _ => ⟨[], rfl, fun c hc => by cases hc⟩
  | d :: ds, h => by
    obtain ⟨c, rfl, hc⟩ := h d List.mem_cons_self
    obtain ⟨cs, rfl, hcs⟩ := goods ds fun d hd => h d (List.mem_cons_of_mem _ hd)
    exact ⟨c :: cs, rfl, fun x hx => by
      rcases List.mem_cons.mp hx with rfl | hx
      · exact hc
      · exact hcs x hx⟩
theorem strsD_ones : ∀ cs : List Nat, strsD (cs.map fun c => D.str [c]) = some (cs.map fun c => [c])
  | [] => rfl
  | c :: cs => by
    show (strsD (cs.map fun c => D.str [c])).map _ = _
    rw [strsD_ones cs]; rfl
theorem joinN_ones : ∀ cs : List Nat, joinN [] (cs.map fun c => [c]) = cs
  | [] => rfl
  | [c] => rfl
  | c :: d :: cs => by
    show [c] ++ ([] ++ joinN [] ((d :: cs).map fun c => [c])) = _
    rw [joinN_ones (d :: cs)]; rfl
theorem sum_ones : ∀ cs : List Nat, ((cs.map fun c => [c]).map List.length).sum = cs.length
  | [] => rfl
  | c :: cs => by
    rw [List.map_cons, List.map_cons, List.sum_cons, sum_ones cs]; simp; omega
/-- a sign of the drawn texts -/
def okC (c : Nat) : Prop := c = 10 ∨ 32 ≤ c ∧ c < 127
theorem set_at (S : St') (o o' : O) : (S ++ [o]).set S.length o' = S ++ [o'] := by simp
theorem pot_at (S : St') (o : O) : (S ++ [o])[S.length]? = some o := by simp
def PotAt (S : St') (p : Nat) (S' : St') : Prop := ∃ q, S' = S.set p (potO q)
def TextOk (F : FnD) : Prop := ∀ p q S (Q : D × St' → Prop), S[p]? = some (potO q) → (∀ x q', x.length ≤ 400 → (∀ c ∈ x, okC c) → Q (.str x, S.set p (potO q'))) → W (F [.loc p] S) Q
def t_law_text (N : List Str) (f_law_take : Nat) : FnI := ⟨"_law_text", 1, N,
  [.asg (.one 1) (.cst (.str [32, 33, 34, 35, 36, 38, 39, 40, 41, 42, 43, 44, 45, 46, 47, 48, 49, 50, 51, 52, 53, 54, 55, 56, 57, 58, 59, 60, 61, 62, 63, 64, 65, 66, 67, 68, 69, 70, 71, 72, 73, 74, 75, 76, 77, 78, 79, 80, 81, 82, 83, 84, 85, 86, 87, 88, 89, 90, 91, 92, 93, 94, 95, 96])), .asg (.one 1) (.bin .add (.var 1) (.cst (.str [97, 98, 99, 100, 101, 102, 103, 104, 105, 106, 107, 108, 109, 110, 111, 112, 113, 114, 115, 116, 117, 118, 119, 120, 121, 122, 123, 124, 125, 126, 10]))), .asg (.one 2) (.idx (.lst [(.cst (.str [97, 98])), (.cst (.str [97, 98, 46, 32, 10])), (.cst (.str [97, 66, 49, 32, 46, 44, 45, 10])), (.var 1)]) (.call f_law_take [(.var 0), (.cst (.int 4))])), .asg (.one 3) (.call f_law_take [(.var 0), (.idx (.lst [(.cst (.int 4)), (.cst (.int 13)), (.cst (.int 61)), (.cst (.int 25)), (.cst (.int 13)), (.cst (.int 61)), (.cst (.int 25)), (.cst (.int 401))]) (.call f_law_take [(.var 0), (.cst (.int 8))]))]), .ret (.mth .join (.cst (.str [])) [(.comp [4] (.idx (.var 2) (.call f_law_take [(.var 0), (.blt .len [(.var 2)])])) (.one 4) .range1 [(.var 3)] [])])]⟩
/-- good signs, told as a test -/
def okB (y : List Nat) : Bool := y.all fun c => c == 10 || (decide (32 ≤ c) && decide (c < 127))
theorem okB_ok {y : List Nat} (h : okB y = true) : ∀ c ∈ y, okC c := fun c hc => by
  have := List.all_eq_true.mp h c hc
  simp at this
  unfold okC
  omega
theorem textOk (Γ : Ctx) (f : Nat) (N : List Str) (hN : N.length = 5) (hT : TakeOk (Γ.fn f)) : TextOk (run Γ (t_law_text N f)) := by
  intro p q S Q hp k
  have hpl : p < S.length := (List.getElem?_eq_some_iff.mp hp).1
  have hs : ∀ o : O, (S.set p o)[p]? = some o := fun o => by simp [hpl]
  have t1 := hT p q 4 S hp (by decide) (by decide)
  have b1 := takeF_lt (m := 4) (by decide) q
  generalize takeF 4 q = r1 at t1 b1
  obtain ⟨k1, q1⟩ := r1
  have t2 := hT p q1 8 (S.set p (potO q1)) (hs _) (by decide) (by decide)
  have b2 := takeF_lt (m := 8) (by decide) q1
  generalize takeF 8 q1 = r2 at t2 b2
  obtain ⟨k2, q2⟩ := r2
  simp only [List.set_set] at t2
  dsimp only at b1 b2 t1 t2
  refine W_run rfl ?_
  simp [t_law_text, hN, pot_at, set_at, W_ok, W_bad, W_bind, W_exs_nil, W_exs_cons, kSeq_nx, kSeq_ret, kSeq_brk, kSeq_cnt, kRet_ret, kRet_nx, wipe', ex.eq_1, ex.eq_2, ex.eq_3, ex.eq_4, ex.eq_5, ex.eq_8, ex.eq_9, ex.eq_10, ex.eq_11, ex.eq_12, ex.eq_16, idxL, ex_for, ex_while, ev.eq_1, ev.eq_2, ev.eq_3, ev.eq_4, ev.eq_5, ev.eq_6, ev.eq_7, ev.eq_8, ev.eq_9, ev.eq_10, ev.eq_11, ev.eq_12, ev.eq_13, ev.eq_14, ev.eq_15, ev.eq_16, ev.eq_17, ev.eq_18, ev.eq_19, ev.eq_20, ev.eq_21, ev.eq_23, ev.eq_24, ev.eq_27, ev.eq_28, ev_comp, ex.eq_17, ex_forT, ev_compD, ex_forD, cmpF0, idxF0, idxD, inD, dctOf, ownDct, setixL, setixD, lenF0, revF, alterD, pairsD, isKey, allocD, lckF, evs, evT, evTs, evTAnd, evTOr, evAnd, evOr, binF, addF, augF, cmpF, eqF, ltF, leF, inF, isN, bltF, repF, rgF, lenF, tyF, truF, setT, setMany, mulOk, divOk, allocL, slcF, optI, seqOf, lstOf, ixN, setixF, mthF, mOk, isStr, itF, itemsOf, srcOk, lim, t1, t2]
  refine W_idx_lst b1.1 (by simp; omega) fun d hd => ?_
  obtain ⟨y, rfl, hy, hy1, hy2⟩ : ∃ y, d = .str y ∧ okB y = true ∧ 0 < y.length ∧ y.length ≤ 100 := by
    simp only [List.mem_cons, List.not_mem_nil, or_false] at hd
    rcases hd with rfl | rfl | rfl | rfl <;> exact ⟨_, rfl, by decide, by decide, by decide⟩
  refine W_idx_lst b2.1 (by simp; omega) fun d hd => ?_
  obtain ⟨m, rfl, hm0, hm1⟩ : ∃ m, d = .int m ∧ 0 < m ∧ m ≤ 401 := by
    simp only [List.mem_cons, List.not_mem_nil, or_false] at hd
    rcases hd with rfl | rfl | rfl | rfl | rfl | rfl | rfl | rfl <;> exact ⟨_, rfl, by decide, by decide⟩
  have t3 := hT p q2 m (S.set p (potO q2)) (hs _) hm0 (by omega)
  have b3 := takeF_lt hm0 q2
  generalize takeF m q2 = r3 at t3 b3
  obtain ⟨k3, q3⟩ := r3
  simp only [List.set_set] at t3
  dsimp only at b3 t3
  have hk3 : k3 < 4611686018427387904 := by omega
  have hk3' : -4611686018427387904 ≤ k3 := by omega
  have hk3l : k3.toNat ≤ 16777216 := by omega
  simp [pot_at, set_at, W_ok, W_bad, W_bind, W_exs_nil, W_exs_cons, kSeq_nx, kSeq_ret, kSeq_brk, kSeq_cnt, kRet_ret, kRet_nx, wipe', ex.eq_1, ex.eq_2, ex.eq_3, ex.eq_4, ex.eq_5, ex.eq_8, ex.eq_9, ex.eq_10, ex.eq_11, ex.eq_12, ex.eq_16, idxL, ex_for, ex_while, ev.eq_1, ev.eq_2, ev.eq_3, ev.eq_4, ev.eq_5, ev.eq_6, ev.eq_7, ev.eq_8, ev.eq_9, ev.eq_10, ev.eq_11, ev.eq_12, ev.eq_13, ev.eq_14, ev.eq_15, ev.eq_16, ev.eq_17, ev.eq_18, ev.eq_19, ev.eq_20, ev.eq_21, ev.eq_23, ev.eq_24, ev.eq_27, ev.eq_28, ev_comp, ex.eq_17, ex_forT, ev_compD, ex_forD, cmpF0, idxF0, idxD, inD, dctOf, ownDct, setixL, setixD, lenF0, revF, alterD, pairsD, isKey, allocD, lckF, evs, evT, evTs, evTAnd, evTOr, evAnd, evOr, binF, addF, augF, cmpF, eqF, ltF, leF, inF, isN, bltF, repF, rgF, lenF, tyF, truF, setT, setMany, mulOk, divOk, allocL, slcF, optI, seqOf, lstOf, ixN, setixF, mthF, mOk, isStr, itF, itemsOf, srcOk, lim, t3, hk3, hk3', hk3l]
  have hyl : y.length ≤ 16777216 := by omega
  have hyz : (0 : Int) < y.length := by omega
  refine W_comp (fun xs acc S' => PotAt S p S' ∧ acc.length + xs.length = k3.toNat ∧ ∃ cs : List Nat, acc = cs.map (fun c => D.str [c]) ∧ ∀ c ∈ cs, okC c) ⟨⟨q3, rfl⟩, by simp, [], rfl, by simp⟩ ?_ ?_
  · rintro x xs acc S' ⟨⟨q', rfl⟩, hl, cs, rfl, hcs⟩
    refine ⟨trivial, ?_⟩
    have t4 := hT p q' y.length (S.set p (potO q')) (hs _) hyz (by omega)
    have b4 := takeF_lt hyz q'
    generalize takeF y.length q' = r4 at t4 b4
    obtain ⟨k4, q4⟩ := r4
    simp only [List.set_set] at t4
    dsimp only at b4 t4
    simp [compB_eq, pot_at, set_at, W_ok, W_bad, W_bind, W_exs_nil, W_exs_cons, kSeq_nx, kSeq_ret, kSeq_brk, kSeq_cnt, kRet_ret, kRet_nx, wipe', ex.eq_1, ex.eq_2, ex.eq_3, ex.eq_4, ex.eq_5, ex.eq_8, ex.eq_9, ex.eq_10, ex.eq_11, ex.eq_12, ex.eq_16, idxL, ex_for, ex_while, ev.eq_1, ev.eq_2, ev.eq_3, ev.eq_4, ev.eq_5, ev.eq_6, ev.eq_7, ev.eq_8, ev.eq_9, ev.eq_10, ev.eq_11, ev.eq_12, ev.eq_13, ev.eq_14, ev.eq_15, ev.eq_16, ev.eq_17, ev.eq_18, ev.eq_19, ev.eq_20, ev.eq_21, ev.eq_23, ev.eq_24, ev.eq_27, ev.eq_28, ev_comp, ex.eq_17, ex_forT, ev_compD, ex_forD, cmpF0, idxF0, idxD, inD, dctOf, ownDct, setixL, setixD, lenF0, revF, alterD, pairsD, isKey, allocD, lckF, evs, evT, evTs, evTAnd, evTOr, evAnd, evOr, binF, addF, augF, cmpF, eqF, ltF, leF, inF, isN, bltF, repF, rgF, lenF, tyF, truF, setT, setMany, mulOk, divOk, allocL, slcF, optI, seqOf, lstOf, ixN, setixF, mthF, mOk, isStr, itF, itemsOf, srcOk, lim, hyl, t4]
    refine W_idx_str hyl b4.1 b4.2 fun c hc => ?_
    refine ⟨⟨q4, rfl⟩, by simp at hl ⊢; omega, cs ++ [c], by simp, fun c' h' => ?_⟩
    rcases List.mem_append.mp h' with h' | h'
    · exact hcs c' h'
    · rw [List.mem_singleton.mp h']; exact okB_ok hy c hc
  · rintro acc S' ⟨⟨q', rfl⟩, hl, cs, rfl, hcs⟩
    refine ⟨trivial, ?_⟩
    have hlen : cs.length ≤ 400 := by simp at hl; omega
    have hlen2 : cs.length ≤ 16777216 := by omega
    simp only [strsD_ones, sum_ones, joinN_ones, if_pos hlen2]
    exact k cs q' hlen hcs
end TK

/-! Lb5: loops over ranges and rows, while loops, own things that are forgotten. -/
namespace TK
open PySem PySem.Spec PyProof.Rows L2
theorem tidy_app {S G : St'} {d : D} (h : below S.length d = true) : tidy S (d, S ++ G) = (d, S) := by
  unfold tidy
  have e : List.take S.length (S ++ G) = S := List.take_left
  simp only [e]
  have kk : Keeps S (List.take S.length (S ++ G)) := by rw [e]; exact Keeps.refl S
  rw [if_pos kk, if_pos h]
theorem tidy_self {S : St'} {d : D} (h : below S.length d = true) : tidy S (d, S) = (d, S) := by
  have := tidy_app (G := []) h
  rwa [List.append_nil] at this
theorem tidy_thaw {S G : St'} {n : Nat} {xs : List D} (hn : S.length ≤ n) (h : (S ++ G)[n]? = some (.lst xs)) (hb : belows S.length xs = true) : tidy S (.loc n, S ++ G) = (.lst xs, S) := by
  unfold tidy
  have e : List.take S.length (S ++ G) = S := List.take_left
  simp only [e, h]
  have kk : Keeps S (List.take S.length (S ++ G)) := by rw [e]; exact Keeps.refl S
  rw [if_pos kk, if_neg (by simp [below]; omega), if_pos ⟨hn, hb⟩]
theorem below_strs (n : Nat) : ∀ xs : List (List Nat), belows n (xs.map .str) = true
  | [] => by simp [belows]
  | x :: xs => by simp [belows, below, below_strs n xs]
theorem below_ints (n : Nat) : ∀ xs : List Int, belows n (xs.map .int) = true
  | [] => by simp [belows]
  | x :: xs => by simp [belows, below, below_ints n xs]
theorem W_for_map {β : Type} {g : St' → Prop} {f : D → MS} {Q : Fes → Prop} (k : β → D) (I : List β → Env' → St' → Prop)
    (hs : ∀ x xs env S, I (x :: xs) env S → g S ∧ W (f (k x) env S) (fun r => match r.1 with
      | .nx => I xs r.2.1 r.2.2
      | .cnt => I xs r.2.1 r.2.2
      | .brk => Q (.nx, r.2.1, r.2.2)
      | .ret d => Q (.ret d, r.2.1, r.2.2)))
    (he : ∀ env S, I [] env S → g S ∧ Q (.nx, env, S)) (items : List β) {env : Env'} {S : St'} (h0 : I items env S) : W (forL g f (items.map k) env S) Q := by
  refine W_for (fun xs env S => ∃ ys : List β, xs = ys.map k ∧ I ys env S) ⟨items, rfl, h0⟩ ?_ ?_
  · rintro x xs env S ⟨ys, e, h⟩
    cases ys with
    | nil => cases e
    | cons y ys =>
      cases e
      obtain ⟨h1, h2⟩ := hs y ys env S h
      refine ⟨h1, W_mono h2 fun r hr => ?_⟩
      obtain ⟨fl, e, S1⟩ := r
      cases fl with
      | nx => exact ⟨ys, rfl, hr⟩
      | cnt => exact ⟨ys, rfl, hr⟩
      | brk => exact hr
      | ret d => exact hr
  · rintro env S ⟨ys, e, h⟩
    cases ys with
    | nil => exact he env S h
    | cons y ys => cases e
theorem W_comp_map {β : Type} {g : St' → Prop} {f : D → St' → R (Option D × St')} {Q : List D × St' → Prop} (k : β → D) (I : List β → List D → St' → Prop)
    (hs : ∀ x xs acc S, I (x :: xs) acc S → g S ∧ W (f (k x) S) (fun r => I xs (match r.1 with | some d => acc ++ [d] | none => acc) r.2)) (he : ∀ acc S, I [] acc S → g S ∧ Q (acc, S)) (items : List β) {S : St'} (h0 : I items [] S) : W (compL g f (items.map k) S) Q := by
  refine W_comp (fun xs acc S => ∃ ys : List β, xs = ys.map k ∧ I ys acc S) ⟨items, rfl, h0⟩ ?_ ?_
  · rintro x xs acc S ⟨ys, e, h⟩
    cases ys with
    | nil => cases e
    | cons y ys =>
      cases e
      obtain ⟨h1, h2⟩ := hs y ys acc S h
      exact ⟨h1, W_mono h2 fun r hr => ⟨ys, rfl, hr⟩⟩
  · rintro acc S ⟨ys, e, h⟩
    cases ys with
    | nil => exact he acc S h
    | cons y ys => cases e
/-- for i in range(n) -/
theorem W_range {g : St' → Prop} {f : D → MS} {Q : Fes → Prop} (n : Nat) (I : Nat → Env' → St' → Prop)
    (hs : ∀ i env S, i < n → I i env S → g S ∧ W (f (.int (i : Int)) env S) (fun r => match r.1 with
      | .nx => I (i + 1) r.2.1 r.2.2
      | .cnt => I (i + 1) r.2.1 r.2.2
      | .brk => Q (.nx, r.2.1, r.2.2)
      | .ret d => Q (.ret d, r.2.1, r.2.2)))
    (he : ∀ env S, I n env S → g S ∧ Q (.nx, env, S)) {env : Env'} {S : St'} (h0 : I 0 env S) : W (forL g f ((List.range n).map fun i : Nat => D.int (i : Int)) env S) Q := by
  rw [List.range_eq_range']
  refine W_for_map (fun i : Nat => D.int (i : Int)) (fun ys env S => ∃ i k, ys = List.range' i k ∧ i + k = n ∧ I i env S) ?_ ?_ _ ⟨0, n, rfl, by omega, h0⟩
  · rintro x xs env S ⟨i, k, e, hk, h⟩
    cases k with
    | zero => cases e
    | succ k =>
      rw [List.range'_succ] at e
      obtain ⟨rfl, rfl⟩ := List.cons.inj e
      obtain ⟨h1, h2⟩ := hs x env S (by omega) h
      refine ⟨h1, W_mono h2 fun r hr => ?_⟩
      obtain ⟨fl, e, S1⟩ := r
      cases fl with
      | nx => exact ⟨x + 1, k, rfl, by omega, hr⟩
      | cnt => exact ⟨x + 1, k, rfl, by omega, hr⟩
      | brk => exact hr
      | ret d => exact hr
  · rintro env S ⟨i, k, e, hk, h⟩
    cases k with
    | succ k => rw [List.range'_succ] at e; cases e
    | zero =>
      have en : i = n := by omega
      exact he env S (en ▸ h)
/-- while: I at a measure -/
theorem W_while {Γ : Ctx} {c : IE} {b : List IS} {Q : Fes → Prop} (I : Nat → Env' → St' → Prop)
    (hs : ∀ m env S, I m env S → W (evT Γ c env S) (fun k => if k.1 = true then W (exs Γ b env k.2) (fun r => match r.1 with
      | .nx => ∃ m', m' < m ∧ I m' r.2.1 r.2.2
      | .cnt => ∃ m', m' < m ∧ I m' r.2.1 r.2.2
      | .brk => Q (.nx, r.2.1, r.2.2)
      | .ret d => Q (.ret d, r.2.1, r.2.2)) else Q (.nx, env, k.2))) : ∀ (n m : Nat) (env : Env') (S : St'), m < n → I m env S → W (whileB Γ c b n env S) Q
  | 0, m, env, S, h, _ => absurd h (Nat.not_lt_zero _)
  | n + 1, m, env, S, h, hI => by
    rw [whileB_succ, W_bind]
    refine W_mono (hs m env S hI) fun k hk => ?_
    by_cases hb : k.1 = true
    · rw [if_pos hb] at hk ⊢
      rw [W_bind]
      refine W_mono hk fun r hr => ?_
      obtain ⟨fl, e, S1⟩ := r
      cases fl with
      | nx => obtain ⟨m', hm, hi⟩ := hr; exact W_while I hs n m' e S1 (by omega) hi
      | cnt => obtain ⟨m', hm, hi⟩ := hr; exact W_while I hs n m' e S1 (by omega) hi
      | brk => exact hr
      | ret d => exact hr
    · rw [if_neg hb] at hk ⊢
      exact hk
theorem it_range1 {S : St'} (n : Nat) (h : n ≤ 16777216) : itF .range1 S [.int (n : Int)] = .ok ((List.range n).map fun i : Nat => D.int (i : Int), fun _ => True) := by
  have h2 : (n : Int) < 2 ^ 62 ∧ -(2 ^ 62) ≤ (n : Int) := by constructor <;> omega
  have e : (fun i : Nat => D.int (0 + (i : Int))) = fun i : Nat => D.int (i : Int) := by funext i; rw [Int.zero_add]
  unfold itF
  dsimp only
  rw [if_pos h2, e, Int.toNat_natCast]
theorem le_one (a b : Nat) : leF (.str [a]) (.str [b]) = .ok (decide (a ≤ b)) := by
  simp only [leF]
  congr 1
  have : ([b] < [a]) ↔ b < a := by
    rw [List.cons_lt_cons_iff]; simp
  by_cases h : a ≤ b
  · rw [decide_eq_true h, decide_eq_false (fun z => by have := this.mp z; omega)]; rfl
  · rw [decide_eq_false h, decide_eq_true (this.mpr (by omega))]; rfl
theorem idx_str {S : St'} {x : List Nat} {i c : Nat} (hl : x.length ≤ lim) (h : x[i]? = some c) : idxF S (.str x) (.int (i : Int)) = .ok (.str [c]) := by
  have hl : x.length ≤ 16777216 := hl
  simp [idxF, dctOf, idxF0, lim, hl, atI_nat h]
theorem cutD_mid {α : Type} (xs : List α) (i k : Nat) (h : i + k ≤ xs.length) : cutD xs (some (i : Int)) (some ((i : Int) + k)) = (xs.drop i).take k := by
  unfold cutD
  rw [show ((i : Int) + k) = ((i + k : Nat) : Int) by omega, HT.sIx_nat, HT.sIx_nat, Nat.min_eq_left (show i ≤ xs.length by omega), Nat.min_eq_left h]
  congr 1
  omega
end TK

/-! Lb6: draws by what they leave: a number below, the pot alone changed. -/
namespace TK
open PySem PySem.Spec PyProof.Rows L2
def IsPot (S : St') (p : Nat) : Prop := ∃ q, S[p]? = some (potO q)
/-- the pot alone may have changed -/
def PotS (p : Nat) (S S' : St') : Prop := ∃ o : Option (Int × Int), S' = (match o with | some q => S.set p (potO q) | none => S)
theorem IsPot.lt {S : St'} {p : Nat} (h : IsPot S p) : p < S.length := let ⟨_, h⟩ := h; (List.getElem?_eq_some_iff.mp h).1
theorem PotS.refl (p : Nat) (S : St') : PotS p S S := ⟨none, rfl⟩
theorem PotS.set (p : Nat) (S : St') (q : Int × Int) : PotS p S (S.set p (potO q)) := ⟨some q, rfl⟩
theorem PotS.trans {p : Nat} {S S1 S2 : St'} (a : PotS p S S1) (b : PotS p S1 S2) : PotS p S S2 := by
  obtain ⟨o, rfl⟩ := a
  obtain ⟨o', rfl⟩ := b
  cases o' with
  | none => exact ⟨o, rfl⟩
  | some q => exact ⟨some q, by cases o <;> simp⟩
theorem PotS.len {p : Nat} {S S1 : St'} (a : PotS p S S1) : S1.length = S.length := by
  obtain ⟨o, rfl⟩ := a
  cases o <;> simp
theorem PotS.pot {p : Nat} {S S1 : St'} (a : PotS p S S1) (h : IsPot S p) : IsPot S1 p := by
  obtain ⟨o, rfl⟩ := a
  cases o with
  | none => exact h
  | some q => exact ⟨q, by simp [h.lt]⟩
theorem PotS.get {p j : Nat} {S S1 : St'} (a : PotS p S S1) (hj : j ≠ p) : S1[j]? = S[j]? := by
  obtain ⟨o, rfl⟩ := a
  cases o with
  | none => rfl
  | some q => exact List.getElem?_set_ne (Ne.symm hj)
theorem PotS.app {p : Nat} {S G S1 : St'} (hp : p < S.length) (a : PotS p (S ++ G) S1) : ∃ S0, PotS p S S0 ∧ S1 = S0 ++ G := by
  obtain ⟨o, rfl⟩ := a
  cases o with
  | none => exact ⟨S, .refl _ _, rfl⟩
  | some q => exact ⟨S.set p (potO q), .set _ _ _, List.set_append_left _ _ hp⟩
theorem PotS.appR {p : Nat} {S S0 : St'} (G : St') (hp : p < S.length) (a : PotS p S S0) : PotS p (S ++ G) (S0 ++ G) := by
  obtain ⟨o, rfl⟩ := a
  cases o with
  | none => exact .refl _ _
  | some q => exact ⟨some q, (List.set_append_left _ _ hp).symm⟩
theorem IsPot.app {S : St'} {p : Nat} (h : IsPot S p) (G : St') : IsPot (S ++ G) p := by
  obtain ⟨q, h⟩ := h
  exact ⟨q, by rw [List.getElem?_append_left (List.getElem?_eq_some_iff.mp h).1]; exact h⟩
theorem isPot_new (S : St') (q : Int × Int) : IsPot (S ++ [potO q]) S.length := ⟨q, pot_at _ _⟩
theorem W_take {F : FnD} (hT : TakeOk F) {p : Nat} {m : Int} {S : St'} {Q : D × St' → Prop} (hp : IsPot S p) (hm : 0 < m) (hm2 : m < 2 ^ 200) (k : ∀ (i : Nat) S', (i : Int) < m → PotS p S S' → IsPot S' p → Q (.int (i : Int), S')) : W (F [.loc p, .int m] S) Q := by
  obtain ⟨q, hq⟩ := hp
  obtain ⟨i, hi, hlt⟩ := take_nat hm q
  refine W_of (hT p q m S hq hm hm2) ?_
  rw [hi]
  exact k i _ hlt (.set _ _ _) ((PotS.set p S (takeF m q).2).pot ⟨q, hq⟩)
/-- a def that draws from a pot: what it tells is good -/
def DrawOk (F : FnD) (good : D → Prop) : Prop := ∀ p S (Q : D × St' → Prop), IsPot S p → (∀ d S', good d → PotS p S S' → IsPot S' p → Q (d, S')) → W (F [.loc p] S) Q
def GoodText (n : Nat) (d : D) : Prop := ∃ x : List Nat, d = .str x ∧ x.length ≤ n ∧ ∀ c ∈ x, okC c
theorem TextOk.draw {F : FnD} (h : TextOk F) : DrawOk F (GoodText 400) := fun p S Q ⟨q, hq⟩ k =>
  h p q S Q hq fun x q' h1 h2 => k _ _ ⟨x, rfl, h1, h2⟩ (.set _ _ _) ((PotS.set p S q').pot ⟨q, hq⟩)
theorem W_if {α : Type} {c : Prop} {inst : Decidable c} {a b : R α} {Q : α → Prop} (h : c) (k : W a Q) : W (if c then a else b) Q := by rw [if_pos h]; exact k
theorem W_no {α : Type} {c : Prop} {inst : Decidable c} {a b : R α} {Q : α → Prop} (h : ¬ c) (k : W b Q) : W (if c then a else b) Q := by rw [if_neg h]; exact k
theorem W_ixL {S : St'} {ds : List D} {i : Nat} {Q : D → Prop} (h : i < ds.length) (k : ∀ d ∈ ds, Q d) : W (idxF S (.lst ds) (.int (i : Int))) Q := W_idx_lst (by omega) (by omega) k
theorem W_ixT {S : St'} {ds : List D} {i : Nat} {Q : D → Prop} (h : i < ds.length) (k : ∀ d ∈ ds, Q d) : W (idxF S (.tup ds) (.int (i : Int))) Q := W_idx_tup (by omega) (by omega) k
theorem W_ixS {S : St'} {x : List Nat} {i : Nat} {Q : D → Prop} (hl : x.length ≤ lim) (h : i < x.length) (k : ∀ c ∈ x, Q (.str [c])) : W (idxF S (.str x) (.int (i : Int))) Q := W_idx_str hl (by omega) (by omega) k
theorem ix_str {S : St'} {x : List Nat} {i c : Nat} (hl : x.length ≤ lim) (h : x[i]? = some c) : idxF S (.str x) (.int (i : Int)) = .ok (.str [c]) := idx_str hl h
/-- a comprehension that draws -/
theorem W_compN {g : St' → Prop} {f : D → St' → R (Option D × St')} {items : List D} {S : St'} {Q : List D × St' → Prop} (p : Nat) (good : D → Prop) (hg : ∀ S, g S) (hp : IsPot S p)
    (hs : ∀ x ∈ items, ∀ S', PotS p S S' → IsPot S' p → W (f x S') (fun r => ∃ d, r.1 = some d ∧ good d ∧ PotS p S' r.2)) (hq : ∀ ds S', ds.length = items.length → (∀ d ∈ ds, good d) → PotS p S S' → IsPot S' p → Q (ds, S')) : W (compL g f items S) Q := by
  refine W_comp (fun xs acc S' => (∀ x ∈ xs, x ∈ items) ∧ PotS p S S' ∧ acc.length + xs.length = items.length ∧ ∀ d ∈ acc, good d) ⟨fun _ h => h, .refl _ _, by simp, by simp⟩ ?_ ?_
  · rintro x xs acc S' ⟨h1, h2, h3, h4⟩
    refine ⟨hg _, W_mono (hs x (h1 x List.mem_cons_self) S' h2 (h2.pot hp)) ?_⟩
    rintro ⟨od, S1⟩ ⟨d, rfl, hd, hS⟩
    refine ⟨fun y hy => h1 y (List.mem_cons_of_mem _ hy), h2.trans hS, by simp at h3 ⊢; omega, fun e he => ?_⟩
    rcases List.mem_append.mp he with he | he
    · exact h4 e he
    · rw [List.mem_singleton.mp he]; exact hd
  · rintro acc S' ⟨_, h2, h3, h4⟩
    exact ⟨hg _, hq acc S' (by simpa using h3) h4 h2 (h2.pot hp)⟩
/-- the signs of some texts of one sign -/
theorem ones_of {P : Nat → Prop} {ds : List D} (h : ∀ d ∈ ds, ∃ c, d = .str [c] ∧ P c) : ∃ cs : List Nat, ds = cs.map (fun c => .str [c]) ∧ (∀ c ∈ cs, P c) ∧ cs.length = ds.length ∧ strsD ds = some (cs.map fun c => [c]) := by
  obtain ⟨cs, rfl, hc⟩ := goods ds h
  exact ⟨cs, rfl, hc, by simp, strsD_ones cs⟩
theorem strsD_strs : ∀ xs : List (List Nat), strsD (xs.map .str) = some xs
  | [] => rfl
  | x :: xs => by
    show (strsD (xs.map .str)).map _ = _
    rw [strsD_strs xs]; rfl
theorem boolsD_bls {α : Type} (p : α → Bool) : ∀ xs : List α, boolsD (xs.map fun x => D.bl (p x)) = some (xs.map p)
  | [] => rfl
  | x :: xs => by
    show (boolsD (xs.map fun x => D.bl (p x))).map _ = _
    rw [boolsD_bls p xs]; rfl
theorem intsD_ints : ∀ xs : List Int, intsD (xs.map .int) = some xs
  | [] => rfl
  | x :: xs => by
    show (intsD (xs.map .int)).map _ = _
    rw [intsD_ints xs]; rfl
theorem compL_filt {β : Type} {g : St' → Prop} {f : D → St' → R (Option D × St')} {S : St'} (k : β → D) (p : β → Bool) (h : β → D) (hg : g S) (l : List β) (hf : ∀ a ∈ l, f (k a) S = .ok (if p a then some (h a) else none, S)) : compL g f (l.map k) S = .ok ((l.filter p).map h, S) := by
  rw [compL_pure k (fun a => if p a then some (h a) else none) hg l hf]
  congr 2
  clear hf
  induction l with
  | nil => rfl
  | cons a l ih =>
    by_cases e : p a = true
    · rw [List.filterMap_cons_some (b := h a) (by simp [e]), List.filter_cons_of_pos e, List.map_cons, ih]
    · rw [List.filterMap_cons_none (by simp [e]), List.filter_cons_of_neg e, ih]
theorem pyDs_strs : ∀ xs : List (List Nat), pyDs (xs.map .str) = some (xs.map fun x => .str (ss x))
  | [] => rfl
  | x :: xs => by
    show ((some (PyData.str (ss x))).bind fun p => (pyDs (xs.map .str)).map fun ps => p :: ps) = _
    rw [pyDs_strs xs]; rfl
/-! ### == of data -/
mutual
/-- data, n deep at most -/
def dat : Nat → D → Bool
  | _, .non => true
  | _, .bl _ => true
  | _, .int _ => true
  | _, .str x => x.all (fun c => decide (c < 0x110000))
  | n + 1, .tup ds => dats n ds
  | n + 1, .lst ds => dats n ds
  | _, _ => false
def dats : Nat → List D → Bool
  | _, [] => true
  | n, d :: ds => dat n d && dats n ds
end
mutual
theorem datT_dat : ∀ (n : Nat) (d : D), dat n d = true → datT n d = true
  | _, .non, _ => by simp only [datT]
  | _, .bl b, _ => by simp only [datT]
  | _, .int b, _ => by simp only [datT]
  | _, .str x, _ => by simp only [datT]
  | 0, .tup ds, h => by simp only [dat] at h; cases h
  | 0, .lst ds, h => by simp only [dat] at h; cases h
  | n + 1, .tup ds, h => by
    simp only [dat] at h
    simp only [datT]
    exact datTs_dat n ds h
  | n + 1, .lst ds, h => by
    simp only [dat] at h
    simp only [datT]
    exact datTs_dat n ds h
  | _, .dct _ _, h => by simp only [dat] at h; cases h
  | _, .loc _, h => by simp only [dat] at h; cases h
theorem datTs_dat : ∀ (n : Nat) (ds : List D), dats n ds = true → datTs n ds = true
  | _, [], _ => by simp only [datTs]
  | n, d :: ds, h => by
    simp only [dats, Bool.and_eq_true] at h
    simp only [datTs, Bool.and_eq_true]
    exact ⟨datT_dat n d h.1, datTs_dat n ds h.2⟩
end
mutual
theorem datT_mono : ∀ (n m : Nat) (d : D), n ≤ m → datT n d = true → datT m d = true
  | _, _, .non, _, _ => by simp only [datT]
  | _, _, .bl b, _, _ => by simp only [datT]
  | _, _, .int b, _, _ => by simp only [datT]
  | _, _, .str x, _, _ => by simp only [datT]
  | 0, _, .tup ds, _, h => by simp only [datT] at h; cases h
  | 0, _, .lst ds, _, h => by simp only [datT] at h; cases h
  | n + 1, 0, .tup ds, hn, h => by omega
  | n + 1, 0, .lst ds, hn, h => by omega
  | n + 1, m + 1, .tup ds, hn, h => by
    simp only [datT] at h ⊢
    exact datTs_mono n m ds (by omega) h
  | n + 1, m + 1, .lst ds, hn, h => by
    simp only [datT] at h ⊢
    exact datTs_mono n m ds (by omega) h
  | _, _, .dct _ _, _, h => by simp only [datT] at h; cases h
  | _, _, .loc _, _, h => by simp only [datT] at h; cases h
theorem datTs_mono : ∀ (n m : Nat) (ds : List D), n ≤ m → datTs n ds = true → datTs m ds = true
  | _, _, [], _, _ => by simp only [datTs]
  | n, m, d :: ds, hn, h => by
    simp only [datTs, Bool.and_eq_true] at h ⊢
    exact ⟨datT_mono n m d hn h.1, datTs_mono n m ds hn h.2⟩
end
theorem frzS_dat {S : St'} {n : Nat} {d : D} (h : datT n d = true) : frzS S d = d := by
  cases d with
  | loc m => simp only [datT] at h; cases h
  | _ => rfl
/-- == of data -/
theorem eqF_datT {S : St'} {n : Nat} {a b : D} (hn : n ≤ 60) (ha : datT n a = true) (hb : datT n b = true) : eqF S a b = .ok (eqT a b) := by
  have ha' := datT_mono n 60 a hn ha
  have hb' := datT_mono n 60 b hn hb
  unfold eqF
  split <;> first
    | rfl
    | (simp only [eqT]; first | rfl | (congr 1; exact (Bool.beq_eq_decide_eq _ _).symm))
    | (rw [frzS_dat ha', frzS_dat hb', ha', hb']; rfl)
theorem eqF_dat {S : St'} {n : Nat} {a b : D} (hn : n ≤ 60) (ha : dat n a = true) (hb : dat n b = true) : eqF S a b = .ok (eqT a b) :=
  eqF_datT hn (datT_dat n a ha) (datT_dat n b hb)
mutual
/-- no truths within: == is being the same -/
def nob : D → Bool
  | .bl _ => false
  | .tup ds => nobs ds
  | .lst ds => nobs ds
  | .dct _ _ => false
  | .loc _ => false
  | _ => true
def nobs : List D → Bool
  | [] => true
  | d :: ds => nob d && nobs ds
end
mutual
theorem eqT_nob : ∀ (a b : D), nob a = true → nob b = true → (eqT a b = true ↔ a = b)
  | .non, b, h1, h2 => by cases b <;> simp [eqT, nob] at h1 h2 ⊢
  | .int _, b, h1, h2 => by cases b <;> simp [eqT, nob] at h1 h2 ⊢
  | .str _, b, h1, h2 => by cases b <;> simp [eqT, nob] at h1 h2 ⊢
  | .bl _, b, h1, h2 => by simp [nob] at h1
  | .tup xs, b, h1, h2 => by
    cases b with
    | tup ys =>
      simp only [nob] at h1 h2
      simp only [eqT, D.tup.injEq]
      exact eqTs_nob xs ys h1 h2
    | _ => simp [eqT, nob] at h2 ⊢
  | .lst xs, b, h1, h2 => by
    cases b with
    | lst ys =>
      simp only [nob] at h1 h2
      simp only [eqT, D.lst.injEq]
      exact eqTs_nob xs ys h1 h2
    | _ => simp [eqT, nob] at h2 ⊢
  | .dct _ _, b, h1, h2 => by simp [nob] at h1
  | .loc _, b, h1, h2 => by simp [nob] at h1
theorem eqTs_nob : ∀ (xs ys : List D), nobs xs = true → nobs ys = true → (eqTs xs ys = true ↔ xs = ys)
  | [], [], _, _ => by simp [eqTs]
  | [], _ :: _, _, _ => by simp [eqTs]
  | _ :: _, [], _, _ => by simp [eqTs]
  | x :: xs, y :: ys, h1, h2 => by
    simp only [nobs, Bool.and_eq_true] at h1 h2
    simp only [eqTs, Bool.and_eq_true, List.cons.injEq]
    rw [eqT_nob x y h1.1 h2.1, eqTs_nob xs ys h1.2 h2.2]
end
theorem eqF_nob {S : St'} {n : Nat} {a b : D} (hn : n ≤ 60) (ha : dat n a = true) (hb : dat n b = true) (h1 : nob a = true) (h2 : nob b = true) : ∃ k : Bool, eqF S a b = .ok k ∧ (k = true ↔ a = b) :=
  ⟨eqT a b, eqF_dat hn ha hb, eqT_nob a b h1 h2⟩
theorem okC_dat {x : List Nat} (h : ∀ c ∈ x, okC c) : x.all (fun c => decide (c < 0x110000)) = true := List.all_eq_true.mpr fun c hc => by
  have := h c hc
  unfold okC at this
  simp; omega
theorem lt_one (a b : Nat) : ltF (.str [a]) (.str [b]) = .ok (decide (a < b)) := by
  simp only [ltF]
  congr 1
  have : ([a] < [b]) ↔ a < b := by
    rw [List.cons_lt_cons_iff]; simp
  exact decide_eq_decide.mpr this
theorem lt_int (a b : Int) : ltF (.int a) (.int b) = .ok (decide (a < b)) := rfl
theorem le_int (a b : Int) : leF (.int a) (.int b) = .ok (decide (a ≤ b)) := rfl
theorem add_int (S : St') (a b : Int) : addF S (.int a) (.int b) = .ok (.int (a + b)) := rfl
theorem add_str (S : St') (a b : List Nat) : addF S (.str a) (.str b) = if a.length + b.length ≤ 16777216 then .ok (.str (a ++ b)) else .bad := rfl
theorem add_tup (S : St') (a b : List D) : addF S (.tup a) (.tup b) = if a.length + b.length ≤ 16777216 then .ok (.tup (a ++ b)) else .bad := rfl
theorem add_lst (S : St') (a b : List D) : addF S (.lst a) (.lst b) = if a.length + b.length ≤ 16777216 then .ok (.lst (a ++ b)) else .bad := rfl
theorem add_locL (S : St') (n : Nat) (b : List D) : addF S (.loc n) (.lst b) = match S[n]? with
  | some (.lst a) => if a.length + b.length ≤ 16777216 then .ok (.lst (a ++ b)) else .bad
  | _ => .bad := by
  simp only [addF, lstOf]
  cases h : S[n]? with
  | none => rfl
  | some o => cases o <;> rfl
theorem add_Lloc (S : St') (n : Nat) (a : List D) : addF S (.lst a) (.loc n) = match S[n]? with
  | some (.lst b) => if a.length + b.length ≤ 16777216 then .ok (.lst (a ++ b)) else .bad
  | _ => .bad := by
  simp only [addF, lstOf]
  cases h : S[n]? with
  | none => rfl
  | some o => cases o <;> rfl
theorem add_ll (S : St') (n m : Nat) : addF S (.loc n) (.loc m) = match S[n]?, S[m]? with
  | some (.lst a), some (.lst b) => if a.length + b.length ≤ 16777216 then .ok (.lst (a ++ b)) else .bad
  | _, _ => .bad := by
  simp only [addF, lstOf]
  cases h : S[n]? with
  | none => rfl
  | some o =>
    cases h' : S[m]? with
    | none => cases o <;> rfl
    | some o' => cases o <;> cases o' <;> rfl
theorem slc_str (S : St') (x : List Nat) (lo hi : Option Int) : slcF S (.str x) lo hi = if x.length ≤ 16777216 then .ok (.str (cutD x lo hi)) else .bad := rfl
theorem slc_tup (S : St') (x : List D) (lo hi : Option Int) : slcF S (.tup x) lo hi = .ok (.tup (cutD x lo hi)) := rfl
theorem slc_lst (S : St') (x : List D) (lo hi : Option Int) : slcF S (.lst x) lo hi = .ok (.lst (cutD x lo hi)) := rfl
theorem slc_loc (S : St') (n : Nat) (lo hi : Option Int) : slcF S (.loc n) lo hi = match S[n]? with
  | some (.lst x) => .ok (.lst (cutD x lo hi))
  | _ => .bad := by
  simp only [slcF, lstOf]
  cases S[n]? with
  | none => rfl
  | some o => cases o <;> rfl
theorem alloc_lst (S : St') (xs : List D) : allocL S (.lst xs) = .ok (.loc S.length, S ++ [.lst xs]) := rfl
theorem alloc_dct (S : St') (ks vs : List D) : allocD S (.dct ks vs) = .ok (.loc S.length, S ++ [.dct (ks.zip vs)]) := rfl
theorem len_str (S : St') (x : List Nat) : lenF S (.str x) = if x.length ≤ 16777216 then .ok (.int x.length) else .bad := rfl
theorem len_tup (S : St') (x : List D) : lenF S (.tup x) = .ok (.int x.length) := rfl
theorem len_lst (S : St') (x : List D) : lenF S (.lst x) = .ok (.int x.length) := rfl
theorem len_loc (S : St') (n : Nat) : lenF S (.loc n) = match S[n]? with
  | some (.lst x) => .ok (.int x.length)
  | some (.dct x) => .ok (.int x.length)
  | _ => .bad := by
  unfold lenF
  simp only [ownDct, lenF0, seqOf, lstOf]
  cases S[n]? with
  | none => rfl
  | some o => cases o <;> rfl
theorem tru_bl (S : St') (b : Bool) : truF S (.bl b) = .ok b := rfl
theorem tru_int (S : St') (b : Int) : truF S (.int b) = .ok (b != 0) := rfl
theorem tru_non (S : St') : truF S .non = .ok false := rfl
theorem tru_str (S : St') (x : List Nat) : truF S (.str x) = if x.length ≤ 16777216 then .ok (!x.isEmpty) else .bad := rfl
theorem tru_tup (S : St') (x : List D) : truF S (.tup x) = .ok (!x.isEmpty) := rfl
theorem tru_lst (S : St') (x : List D) : truF S (.lst x) = .ok (!x.isEmpty) := rfl
theorem tru_loc (S : St') (n : Nat) : truF S (.loc n) = match S[n]? with
  | some (.lst x) => .ok (!x.isEmpty)
  | _ => .bad := by
  simp only [truF, seqOf, lstOf]
  cases S[n]? with
  | none => rfl
  | some o => cases o <;> rfl
theorem ty_non (S : St') (t : Ty) : tyF t S .non = .ok false := rfl
theorem ty_bl (S : St') (t : Ty) (b : Bool) : tyF t S (.bl b) = .ok (decide (t = .bool) || decide (t = .int)) := rfl
theorem ty_int (S : St') (t : Ty) (b : Int) : tyF t S (.int b) = .ok (decide (t = .int)) := rfl
theorem ty_str (S : St') (t : Ty) (b : List Nat) : tyF t S (.str b) = .ok (decide (t = .str)) := rfl
theorem ty_tup (S : St') (t : Ty) (b : List D) : tyF t S (.tup b) = .ok (decide (t = .tuple)) := rfl
theorem ty_lst (S : St') (t : Ty) (b : List D) : tyF t S (.lst b) = .ok (decide (t = .list)) := rfl
theorem ty_dct (S : St') (t : Ty) (b c : List D) : tyF t S (.dct b c) = .ok (decide (t = .dict)) := rfl
theorem setT_one (i : Nat) (S : St') (d : D) (env : Env') : setT (.one i) S d env = .ok (env.set i (some d)) := rfl
theorem setT_manyL (is : List Nat) (S : St') (ds : List D) (env : Env') : setT (.many is) S (.lst ds) env = match setMany is ds env with
  | some e => .ok e
  | none => .bad := rfl
theorem setT_many (is : List Nat) (S : St') (ds : List D) (env : Env') : setT (.many is) S (.tup ds) env = match setMany is ds env with
  | some e => .ok e
  | none => .bad := rfl
theorem in_str1 (S : St') (c : Nat) (y : List Nat) : inF S (.str [c]) (.str y) = .ok (decide (c ∈ y)) := rfl
theorem inV_strs (x : List Nat) : ∀ zs : List (List Nat), inV (.str (ss x)) ((zs.map D.str).map vD) = decide (x ∈ zs)
  | [] => rfl
  | z :: zs => by
    show (eqV (.str (ss z)) (.str (ss x)) || inV (.str (ss x)) ((zs.map D.str).map vD)) = _
    rw [inV_strs x zs]
    show ((ss z == ss x) || _) = _
    rw [beq_ss]
    simp [List.mem_cons, eq_comm]
theorem flat_strs : ∀ zs : List (List Nat), (zs.map D.str).all flatD = true
  | [] => rfl
  | z :: zs => by
    show (true && (zs.map D.str).all flatD) = true
    rw [flat_strs zs]; rfl
theorem in_tupS (S : St') (x : List Nat) (zs : List (List Nat)) : inF S (.str x) (.tup (zs.map .str)) = .ok (decide (x ∈ zs)) := by
  have : inF S (.str x) (.tup (zs.map .str)) = if flatD (.str x) && (zs.map D.str).all flatD then .ok (inV (vD (.str x)) ((zs.map D.str).map vD)) else (if datT 60 (.str x) && datTs 60 (zs.map D.str) then .ok ((zs.map D.str).any fun z => eqT z (.str x)) else .bad) := by
    cases x with
    | nil => rfl
    | cons c r => cases r <;> rfl
  rw [this, flat_strs]
  simp only [flatD, Bool.and_self, if_true, vD, inV_strs]
theorem in_lstS (S : St') (x : List Nat) (zs : List (List Nat)) : inF S (.str x) (.lst (zs.map .str)) = .ok (decide (x ∈ zs)) := by
  have : inF S (.str x) (.lst (zs.map .str)) = if flatD (.str x) && (zs.map D.str).all flatD then .ok (inV (vD (.str x)) ((zs.map D.str).map vD)) else (if datT 60 (.str x) && datTs 60 (zs.map D.str) then .ok ((zs.map D.str).any fun z => eqT z (.str x)) else .bad) := by
    cases x with
    | nil => rfl
    | cons c r => cases r <;> rfl
  rw [this, flat_strs]
  simp only [flatD, Bool.and_self, if_true, vD, inV_strs]
theorem eq_int (S : St') (a b : Int) : eqF S (.int a) (.int b) = .ok (decide (a = b)) := rfl
theorem eq_str (S : St') (a b : List Nat) : eqF S (.str a) (.str b) = .ok (decide (a = b)) := rfl
theorem eq_bl (S : St') (a b : Bool) : eqF S (.bl a) (.bl b) = .ok (decide (a = b)) := rfl
theorem eq_non (S : St') : eqF S .non .non = .ok true := rfl
theorem eq_ni (S : St') (i : Int) : eqF S .non (.int i) = .ok false := rfl
theorem eq_in (S : St') (i : Int) : eqF S (.int i) .non = .ok false := rfl
theorem eq_ns (S : St') (i : List Nat) : eqF S .non (.str i) = .ok false := rfl
theorem eq_sn (S : St') (i : List Nat) : eqF S (.str i) .non = .ok false := rfl
theorem eq_nil_ones (S : St') (xs : List Nat) (h : ∀ c ∈ xs, c < 0x110000) : eqF S (.lst (xs.map fun c => D.str [c])) (.lst []) = .ok xs.isEmpty := by
  have hd : ∀ xs : List Nat, (∀ c ∈ xs, c < 0x110000) → dats 0 (xs.map fun c => D.str [c]) = true := by
    intro xs
    induction xs with
    | nil => intro _; rfl
    | cons c xs ih =>
      intro h
      simp only [List.map_cons, dats, dat, Bool.and_eq_true, List.all_cons, List.all_nil, decide_eq_true_eq]
      exact ⟨⟨h c List.mem_cons_self, trivial⟩, ih fun c hc => h c (List.mem_cons_of_mem _ hc)⟩
  rw [eqF_dat (n := 1) (by decide) (by simp only [dat]; exact hd xs h) rfl]
  cases xs <;> rfl
theorem mem_small (c : Nat) : c ∈ [97, 98, 99, 100, 101, 102, 103, 104, 105, 106, 107, 108, 109, 110, 111, 112, 113, 114, 115, 116, 117, 118, 119, 120, 121, 122] ↔ 97 ≤ c ∧ c ≤ 122 := by
  rw [show [97, 98, 99, 100, 101, 102, 103, 104, 105, 106, 107, 108, 109, 110, 111, 112, 113, 114, 115, 116, 117, 118, 119, 120, 121, 122] = List.range' 97 26 by decide, List.mem_range'_1]; omega
theorem mem_great (c : Nat) : c ∈ [65, 66, 67, 68, 69, 70, 71, 72, 73, 74, 75, 76, 77, 78, 79, 80, 81, 82, 83, 84, 85, 86, 87, 88, 89, 90] ↔ 65 ≤ c ∧ c ≤ 90 := by
  rw [show [65, 66, 67, 68, 69, 70, 71, 72, 73, 74, 75, 76, 77, 78, 79, 80, 81, 82, 83, 84, 85, 86, 87, 88, 89, 90] = List.range' 65 26 by decide, List.mem_range'_1]; omega
theorem mem_figures (c : Nat) : c ∈ [48, 49, 50, 51, 52, 53, 54, 55, 56, 57] ↔ 48 ≤ c ∧ c ≤ 57 := by
  rw [show [48, 49, 50, 51, 52, 53, 54, 55, 56, 57] = List.range' 48 10 by decide, List.mem_range'_1]; omega
/-! ### names -/
def lowB (c : Nat) : Bool := decide (97 ≤ c) && decide (c ≤ 122)
def nmB (x : List Nat) : Bool := decide (1 ≤ x.length) && decide (x.length ≤ 8) && x.all lowB
def nmD : D → Bool
  | .str x => nmB x
  | _ => false
/-- no thing of the store, no long text -/
def SmallD : D → Prop
  | .str x => x.length ≤ 1000000 ∧ ∀ c ∈ x, c < 0x110000
  | .loc _ => False
  | _ => True
def NameOk (F : FnD) : Prop := ∀ d S, SmallD d → F [d] S = .ok (.bl (nmD d), S)
def t_is_name (N : List Str) (g_MOST_LETTERS : Nat) (g_LETTERS : Nat) : FnI := ⟨"is_name", 1, N,
  [.if_ (.or_ [(.not_ (.tru (.isi .str (.var 0)))), (.not_ (.chain .le .le (.cst (.int 1)) (.blt .len [(.var 0)]) (.glb g_MOST_LETTERS)))]) [.ret (.cst (.bl false))] [], .ret (.blt .all [(.comp [1] (.cmp .in_ (.var 1) (.glb g_LETTERS)) (.one 1) .val [(.var 0)] [])])]⟩
theorem nameOk (Γ : Ctx) (N : List Str) (hN : N.length = 2) (g0 g1 : Nat) (h0 : Γ.gl g0 = .int 8) (s : List Nat) (h1 : Γ.gl g1 = .str s) (hs : s = [97, 98, 99, 100, 101, 102, 103, 104, 105, 106, 107, 108, 109, 110, 111, 112, 113, 114, 115, 116, 117, 118, 119, 120, 121, 122]) : NameOk (run Γ (t_is_name N g0 g1)) := by
  intro d S hd
  have hm : ∀ c, decide (c ∈ s) = lowB c := fun c => by
    rw [hs, Bool.eq_iff_iff]
    simp only [decide_eq_true_eq, lowB, Bool.and_eq_true]
    exact mem_small c
  cases d with
  | str x =>
    have hd1 : x.length ≤ 1000000 := hd.1
    have hl : x.length ≤ 16777216 := by omega
    have hC := compL_map (g := fun _ => True) (S := S) (f := compB Γ (.one 1) [1] [] (.cmp .in_ (.var 1) (.glb g1)) [some (.str x), none]) (fun c => D.str [c]) (fun c => .bl (lowB c)) trivial x fun c _ => by
      simp [compB_eq, run, wipe', exs, ex.eq_1, ex.eq_2, ex.eq_3, ex.eq_4, ex.eq_5, ex.eq_8, ex.eq_9, ex.eq_10, ex.eq_11, ex.eq_12, ex.eq_16, idxL, ex_for, ex_while, ev.eq_1, ev.eq_2, ev.eq_3, ev.eq_4, ev.eq_5, ev.eq_6, ev.eq_7, ev.eq_8, ev.eq_9, ev.eq_10, ev.eq_11, ev.eq_12, ev.eq_13, ev.eq_14, ev.eq_15, ev.eq_16, ev.eq_17, ev.eq_18, ev.eq_19, ev.eq_20, ev.eq_21, ev.eq_23, ev.eq_24, ev.eq_27, ev.eq_28, ev_comp, ex.eq_17, ex_forT, ev_compD, ex_forD, cmpF0, idxF0, idxD, inD, dctOf, ownDct, setixL, setixD, lenF0, revF, alterD, pairsD, isKey, allocD, lckF, evs, evT, evTs, evTAnd, evTOr, evAnd, evOr, binF, addF, augF, cmpF, eqF, ltF, leF, inF, isN, bltF, repF, rgF, lenF, tyF, truF, setT, setMany, mulOk, divOk, allocL, idxF, slcF, optI, seqOf, lstOf, atI, ixN, setixF, mthF, mOk, isStr, itF, itemsOf, srcOk, lim, h1, hm]
    by_cases a : 1 ≤ x.length <;> by_cases b : x.length ≤ 8
    · have a' : (1 : Int) ≤ x.length := by omega
      have b' : (x.length : Int) ≤ 8 := by omega
      simp [t_is_name, hN, run, wipe', exs, ex.eq_1, ex.eq_2, ex.eq_3, ex.eq_4, ex.eq_5, ex.eq_8, ex.eq_9, ex.eq_10, ex.eq_11, ex.eq_12, ex.eq_16, idxL, ex_for, ex_while, ev.eq_1, ev.eq_2, ev.eq_3, ev.eq_4, ev.eq_5, ev.eq_6, ev.eq_7, ev.eq_8, ev.eq_9, ev.eq_10, ev.eq_11, ev.eq_12, ev.eq_13, ev.eq_14, ev.eq_15, ev.eq_16, ev.eq_17, ev.eq_18, ev.eq_19, ev.eq_20, ev.eq_21, ev.eq_23, ev.eq_24, ev.eq_27, ev.eq_28, ev_comp, ex.eq_17, ex_forT, ev_compD, ex_forD, cmpF0, idxF0, idxD, inD, dctOf, ownDct, setixL, setixD, lenF0, revF, alterD, pairsD, isKey, allocD, lckF, evs, evT, evTs, evTAnd, evTOr, evAnd, evOr, binF, addF, augF, cmpF, eqF, ltF, leF, inF, isN, bltF, repF, rgF, lenF, tyF, truF, setT, setMany, mulOk, divOk, allocL, idxF, slcF, optI, seqOf, lstOf, atI, ixN, setixF, mthF, mOk, isStr, itF, itemsOf, srcOk, lim, hl, h0, a', b', signs]
      rw [hC]
      simp [boolsD_bls, run, wipe', exs, ex.eq_1, ex.eq_2, ex.eq_3, ex.eq_4, ex.eq_5, ex.eq_8, ex.eq_9, ex.eq_10, ex.eq_11, ex.eq_12, ex.eq_16, idxL, ex_for, ex_while, ev.eq_1, ev.eq_2, ev.eq_3, ev.eq_4, ev.eq_5, ev.eq_6, ev.eq_7, ev.eq_8, ev.eq_9, ev.eq_10, ev.eq_11, ev.eq_12, ev.eq_13, ev.eq_14, ev.eq_15, ev.eq_16, ev.eq_17, ev.eq_18, ev.eq_19, ev.eq_20, ev.eq_21, ev.eq_23, ev.eq_24, ev.eq_27, ev.eq_28, ev_comp, ex.eq_17, ex_forT, ev_compD, ex_forD, cmpF0, idxF0, idxD, inD, dctOf, ownDct, setixL, setixD, lenF0, revF, alterD, pairsD, isKey, allocD, lckF, evs, evT, evTs, evTAnd, evTOr, evAnd, evOr, binF, addF, augF, cmpF, eqF, ltF, leF, inF, isN, bltF, repF, rgF, lenF, tyF, truF, setT, setMany, mulOk, divOk, allocL, idxF, slcF, optI, seqOf, lstOf, atI, ixN, setixF, mthF, mOk, isStr, itF, itemsOf, srcOk, lim, nmD, nmB, a, b, List.all_map]
    · have b' : ¬ (x.length : Int) ≤ 8 := by omega
      have a' : (1 : Int) ≤ x.length := by omega
      simp [t_is_name, hN, run, wipe', exs, ex.eq_1, ex.eq_2, ex.eq_3, ex.eq_4, ex.eq_5, ex.eq_8, ex.eq_9, ex.eq_10, ex.eq_11, ex.eq_12, ex.eq_16, idxL, ex_for, ex_while, ev.eq_1, ev.eq_2, ev.eq_3, ev.eq_4, ev.eq_5, ev.eq_6, ev.eq_7, ev.eq_8, ev.eq_9, ev.eq_10, ev.eq_11, ev.eq_12, ev.eq_13, ev.eq_14, ev.eq_15, ev.eq_16, ev.eq_17, ev.eq_18, ev.eq_19, ev.eq_20, ev.eq_21, ev.eq_23, ev.eq_24, ev.eq_27, ev.eq_28, ev_comp, ex.eq_17, ex_forT, ev_compD, ex_forD, cmpF0, idxF0, idxD, inD, dctOf, ownDct, setixL, setixD, lenF0, revF, alterD, pairsD, isKey, allocD, lckF, evs, evT, evTs, evTAnd, evTOr, evAnd, evOr, binF, addF, augF, cmpF, eqF, ltF, leF, inF, isN, bltF, repF, rgF, lenF, tyF, truF, setT, setMany, mulOk, divOk, allocL, idxF, slcF, optI, seqOf, lstOf, atI, ixN, setixF, mthF, mOk, isStr, itF, itemsOf, srcOk, lim, hl, h0, a', b', nmD, nmB, b]
    · have a' : ¬ (1 : Int) ≤ x.length := by omega
      simp [t_is_name, hN, run, wipe', exs, ex.eq_1, ex.eq_2, ex.eq_3, ex.eq_4, ex.eq_5, ex.eq_8, ex.eq_9, ex.eq_10, ex.eq_11, ex.eq_12, ex.eq_16, idxL, ex_for, ex_while, ev.eq_1, ev.eq_2, ev.eq_3, ev.eq_4, ev.eq_5, ev.eq_6, ev.eq_7, ev.eq_8, ev.eq_9, ev.eq_10, ev.eq_11, ev.eq_12, ev.eq_13, ev.eq_14, ev.eq_15, ev.eq_16, ev.eq_17, ev.eq_18, ev.eq_19, ev.eq_20, ev.eq_21, ev.eq_23, ev.eq_24, ev.eq_27, ev.eq_28, ev_comp, ex.eq_17, ex_forT, ev_compD, ex_forD, cmpF0, idxF0, idxD, inD, dctOf, ownDct, setixL, setixD, lenF0, revF, alterD, pairsD, isKey, allocD, lckF, evs, evT, evTs, evTAnd, evTOr, evAnd, evOr, binF, addF, augF, cmpF, eqF, ltF, leF, inF, isN, bltF, repF, rgF, lenF, tyF, truF, setT, setMany, mulOk, divOk, allocL, idxF, slcF, optI, seqOf, lstOf, atI, ixN, setixF, mthF, mOk, isStr, itF, itemsOf, srcOk, lim, hl, h0, a', nmD, nmB, a]
    · have a' : ¬ (1 : Int) ≤ x.length := by omega
      simp [t_is_name, hN, run, wipe', exs, ex.eq_1, ex.eq_2, ex.eq_3, ex.eq_4, ex.eq_5, ex.eq_8, ex.eq_9, ex.eq_10, ex.eq_11, ex.eq_12, ex.eq_16, idxL, ex_for, ex_while, ev.eq_1, ev.eq_2, ev.eq_3, ev.eq_4, ev.eq_5, ev.eq_6, ev.eq_7, ev.eq_8, ev.eq_9, ev.eq_10, ev.eq_11, ev.eq_12, ev.eq_13, ev.eq_14, ev.eq_15, ev.eq_16, ev.eq_17, ev.eq_18, ev.eq_19, ev.eq_20, ev.eq_21, ev.eq_23, ev.eq_24, ev.eq_27, ev.eq_28, ev_comp, ex.eq_17, ex_forT, ev_compD, ex_forD, cmpF0, idxF0, idxD, inD, dctOf, ownDct, setixL, setixD, lenF0, revF, alterD, pairsD, isKey, allocD, lckF, evs, evT, evTs, evTAnd, evTOr, evAnd, evOr, binF, addF, augF, cmpF, eqF, ltF, leF, inF, isN, bltF, repF, rgF, lenF, tyF, truF, setT, setMany, mulOk, divOk, allocL, idxF, slcF, optI, seqOf, lstOf, atI, ixN, setixF, mthF, mOk, isStr, itF, itemsOf, srcOk, lim, hl, h0, a', nmD, nmB, a]
  | loc n => exact hd.elim
  | _ => simp [t_is_name, hN, run, wipe', exs, ex.eq_1, ex.eq_2, ex.eq_3, ex.eq_4, ex.eq_5, ex.eq_8, ex.eq_9, ex.eq_10, ex.eq_11, ex.eq_12, ex.eq_16, idxL, ex_for, ex_while, ev.eq_1, ev.eq_2, ev.eq_3, ev.eq_4, ev.eq_5, ev.eq_6, ev.eq_7, ev.eq_8, ev.eq_9, ev.eq_10, ev.eq_11, ev.eq_12, ev.eq_13, ev.eq_14, ev.eq_15, ev.eq_16, ev.eq_17, ev.eq_18, ev.eq_19, ev.eq_20, ev.eq_21, ev.eq_23, ev.eq_24, ev.eq_27, ev.eq_28, ev_comp, ex.eq_17, ex_forT, ev_compD, ex_forD, cmpF0, idxF0, idxD, inD, dctOf, ownDct, setixL, setixD, lenF0, revF, alterD, pairsD, isKey, allocD, lckF, evs, evT, evTs, evTAnd, evTOr, evAnd, evOr, binF, addF, augF, cmpF, eqF, ltF, leF, inF, isN, bltF, repF, rgF, lenF, tyF, truF, setT, setMany, mulOk, divOk, allocL, idxF, slcF, optI, seqOf, lstOf, atI, ixN, setixF, mthF, mOk, isStr, itF, itemsOf, srcOk, lim, nmD]
/-- what the laws walk over -/
theorem enum_cells (ns : List Int) : ∀ x ∈ (D.int 3 :: D.int 4 :: (ns.take 61).map D.int).zipIdx.map (fun p : D × Nat => D.tup [.int p.2, p.1]), ∃ k c : Int, x = .tup [.int k, .int c] := by
  intro x hx
  obtain ⟨⟨d, k⟩, hm, rfl⟩ := List.mem_map.mp hx
  have hd := List.fst_mem_of_mem_zipIdx hm
  dsimp only at hd
  rcases List.mem_cons.mp hd with rfl | hd
  · exact ⟨k, 3, rfl⟩
  rcases List.mem_cons.mp hd with rfl | hd
  · exact ⟨k, 4, rfl⟩
  obtain ⟨c, _, rfl⟩ := List.mem_map.mp hd
  exact ⟨k, c, rfl⟩
theorem cut61 (ns : List Int) : cutD (ns.map D.int) none (some 61) = (ns.take 61).map D.int := by
  rw [List.map_take]; exact cutD_take (ns.map D.int) 61
/-! ### own things forgotten, the pot changed -/
theorem tidy_keeps {S S0 G : St'} {d : D} (hl : S0.length = S.length) (hk : Keeps S S0) (h : below S.length d = true) : tidy S (d, S0 ++ G) = (d, S0) := by
  unfold tidy
  have e : List.take S.length (S0 ++ G) = S0 := by rw [← hl]; exact List.take_left
  simp only [e]
  rw [if_pos (by rw [e]; exact hk), if_pos h]
theorem PotS.keeps {p : Nat} {S S0 : St'} (h : PotS p S S0) : Keeps S S0 := by
  obtain ⟨o, rfl⟩ := h
  cases o with
  | none => exact Keeps.refl S
  | some q =>
    refine ⟨by simp, fun i o ho => ?_⟩
    by_cases hi : i = p
    · subst hi
      by_cases hl : i < S.length
      · right
        dsimp only at ho
        rw [List.getElem?_set_self hl] at ho
        cases ho
        rfl
      · dsimp only at ho
        rw [List.getElem?_eq_none (by simp; omega)] at ho
        cases ho
    · left
      dsimp only at ho
      rw [List.getElem?_set_ne (Ne.symm hi)] at ho
      exact ho
theorem tidy_pot {p : Nat} {S S0 G : St'} {d : D} (hS : PotS p S S0) (h : below S.length d = true) : tidy S (d, S0 ++ G) = (d, S0) := tidy_keeps hS.len hS.keeps h
theorem zip_unzip : ∀ kvs : List (D × D), (kvs.map (·.1)).zip (kvs.map (·.2)) = kvs
  | [] => rfl
  | p :: r => by rw [List.map_cons, List.map_cons, List.zip_cons_cons, zip_unzip r]
/-- a list without twins within another one is no longer -/
theorem pigeon {α : Type} [DecidableEq α] : ∀ (l m : List α), l.Nodup → (∀ x ∈ l, x ∈ m) → l.length ≤ m.length
  | [], m, _, _ => Nat.zero_le _
  | x :: l, m, hn, h => by
    rw [List.nodup_cons] at hn
    have hx : x ∈ m := h x List.mem_cons_self
    have ih := pigeon l (m.erase x) hn.2 fun y hy => (List.mem_erase_of_ne (fun e => hn.1 (by rw [← e]; exact hy))).mpr (h y (List.mem_cons_of_mem _ hy))
    rw [List.length_erase_of_mem hx] at ih
    have : 0 < m.length := List.length_pos_of_mem hx
    rw [List.length_cons]
    omega
/-- a walk over a dict that is locked -/
theorem W_forDB {Γ : Ctx} {tg : Tg} {b : List IS} {n : Nat} {kvs : List (D × D)} {k : DIt} {env : Env'} {S : St'} {Q : Fes → Prop} (I : List D → Env' → St' → Prop) (h0 : I (ditF k kvs) env (S.set n (.lck kvs)))
    (hs : ∀ x xs env S, I (x :: xs) env S → S[n]? = some (.lck kvs) ∧ W (turnB Γ tg b x env S) (fun r => match r.1 with
      | .nx => I xs r.2.1 r.2.2
      | .cnt => I xs r.2.1 r.2.2
      | .brk => r.2.2[n]? = some (.lck kvs) ∧ Q (.nx, r.2.1, r.2.2.set n (.dct kvs))
      | .ret d => r.2.2[n]? = some (.lck kvs) ∧ Q (.ret d, r.2.1, r.2.2.set n (.dct kvs))))
    (he : ∀ env S, I [] env S → S[n]? = some (.lck kvs) ∧ Q (.nx, env, S.set n (.dct kvs))) : W (forDB Γ tg b n kvs k env S) Q := by
  unfold forDB
  rw [W_bind]
  have fin : ∀ (fl : Fl) (env : Env') (S : St'), S[n]? = some (.lck kvs) → Q (fl, env, S.set n (.dct kvs)) → W (lckE n kvs (fl, env, S)) Q := fun fl env S h q => by
    unfold lckE
    exact W_if h q
  refine W_for I h0 (fun x xs env S h => ?_) (fun env S h => ⟨(he env S h).1, fin _ _ _ (he env S h).1 (he env S h).2⟩)
  obtain ⟨h1, h2⟩ := hs x xs env S h
  refine ⟨h1, W_mono h2 fun r hr => ?_⟩
  obtain ⟨fl, e, S1⟩ := r
  cases fl with
  | nx => exact hr
  | cnt => exact hr
  | brk => exact fin _ _ _ hr.1 hr.2
  | ret d => exact fin _ _ _ hr.1 hr.2
end TK

/-! LP: pots of any make: draws by what they leave. -/
namespace TK
open PySem PySem.Spec PyProof.Rows L2
theorem blt_tl (S : St') (xs : List D) : bltF .tuple S [.lst xs] = .ok (.tup xs) := rfl
theorem blt_tt (S : St') (xs : List D) : bltF .tuple S [.tup xs] = .ok (.tup xs) := rfl
theorem blt_ll (S : St') (xs : List D) : bltF .list S [.lst xs] = .ok (.lst xs) := rfl
theorem blt_lt (S : St') (xs : List D) : bltF .list S [.tup xs] = .ok (.lst xs) := rfl
theorem blt_ib (S : St') (k : Bool) : bltF .int S [.bl k] = .ok (.int (if k then 1 else 0)) := rfl
theorem blt_ii (S : St') (k : Int) : bltF .int S [.int k] = .ok (.int k) := rfl
theorem blt_tloc (S : St') (n : Nat) : bltF .tuple S [.loc n] = match lstOf S (.loc n) with
  | some ds => .ok (.tup ds)
  | none => .bad := rfl
theorem blt_lloc (S : St') (n : Nat) : bltF .list S [.loc n] = match seqOf S (.loc n) with
  | some ds => .ok (.lst ds)
  | none => .bad := rfl
theorem blt_m2 (S : St') (i j : Int) : bltF .min2 S [.int i, .int j] = .ok (.int (if j < i then j else i)) := rfl
theorem blt_M2 (S : St') (i j : Int) : bltF .max2 S [.int i, .int j] = .ok (.int (if j > i then j else i)) := rfl
theorem blt_len (S : St') (d : D) : bltF .len S [d] = lenF S d := rfl
/-- the arguments as a variable: so that no elaborator walks the program -/
theorem W_runA {Γ : Ctx} {fi : FnI} {args l : List D} {S : St'} {Q : D × St' → Prop} (e : args = l) (hl : l.length = fi.ps) (h : W (exs Γ fi.body (l.map some ++ List.replicate (fi.N.length - l.length) none) S) (kRet Q)) : W (run Γ fi args S) Q := by
  subst e; exact W_run hl h
/-- one thing of the store alone may have changed -/
def Only (p : Nat) (S S' : St') : Prop := ∃ o, S' = S.set p o
theorem Only.refl {p : Nat} {S : St'} (h : p < S.length) : Only p S S := ⟨S[p], by rw [List.set_getElem_self]⟩
theorem Only.set (p : Nat) (S : St') (o : O) : Only p S (S.set p o) := ⟨o, rfl⟩
theorem Only.trans {p : Nat} {S S1 S2 : St'} (a : Only p S S1) (b : Only p S1 S2) : Only p S S2 := by
  obtain ⟨o, rfl⟩ := a
  obtain ⟨o', rfl⟩ := b
  exact ⟨o', by simp⟩
theorem Only.len {p : Nat} {S S1 : St'} (a : Only p S S1) : S1.length = S.length := by
  obtain ⟨o, rfl⟩ := a
  simp
theorem Only.get {p j : Nat} {S S1 : St'} (a : Only p S S1) (hj : j ≠ p) : S1[j]? = S[j]? := by
  obtain ⟨o, rfl⟩ := a
  exact List.getElem?_set_ne (Ne.symm hj)
theorem Only.app {p : Nat} {S G S1 : St'} (hp : p < S.length) (a : Only p (S ++ G) S1) : ∃ S0, Only p S S0 ∧ S1 = S0 ++ G := by
  obtain ⟨o, rfl⟩ := a
  exact ⟨S.set p o, .set _ _ _, List.set_append_left _ _ hp⟩
theorem Only.appR {p : Nat} {S S0 : St'} (G : St') (hp : p < S.length) (a : Only p S S0) : Only p (S ++ G) (S0 ++ G) := by
  obtain ⟨o, rfl⟩ := a
  exact ⟨o, (List.set_append_left _ _ hp).symm⟩
/-- a kind of pots, by how much was drawn -/
structure PotK (PP : Nat → O → Prop) : Prop where
  mono : ∀ k k' o, PP k o → k ≤ k' → PP k' o
  below : ∀ k o N, PP k o → belowO N o = true
def IsP (PP : Nat → O → Prop) (k : Nat) (S : St') (p : Nat) : Prop := ∃ o, S[p]? = some o ∧ PP k o
section
variable {PP : Nat → O → Prop}
theorem IsP.lt {k : Nat} {S : St'} {p : Nat} (h : IsP PP k S p) : p < S.length := let ⟨_, h, _⟩ := h; (List.getElem?_eq_some_iff.mp h).1
theorem IsP.mono (K : PotK PP) {k k' : Nat} {S : St'} {p : Nat} (h : IsP PP k S p) (hk : k ≤ k') : IsP PP k' S p := let ⟨o, h1, h2⟩ := h; ⟨o, h1, K.mono _ _ _ h2 hk⟩
theorem IsP.app {k : Nat} {S : St'} {p : Nat} (h : IsP PP k S p) (G : St') : IsP PP k (S ++ G) p := by
  obtain ⟨q, h, h2⟩ := h
  exact ⟨q, by rw [List.getElem?_append_left (List.getElem?_eq_some_iff.mp h).1]; exact h, h2⟩
theorem IsP.cut {k : Nat} {S G : St'} {p : Nat} (h : IsP PP k (S ++ G) p) (hp : p < S.length) : IsP PP k S p := by
  obtain ⟨q, h, h2⟩ := h
  exact ⟨q, by rw [List.getElem?_append_left hp] at h; exact h, h2⟩
theorem IsP.set {k : Nat} {S : St'} {p j : Nat} {o : O} (h : IsP PP k S p) (hj : j ≠ p) : IsP PP k (S.set j o) p := by
  obtain ⟨q, h, h2⟩ := h
  exact ⟨q, by rw [List.getElem?_set_ne hj]; exact h, h2⟩
theorem IsP.new {k : Nat} {o : O} (S : St') (h : PP k o) : IsP PP k (S ++ [o]) S.length := ⟨o, pot_at _ _, h⟩
theorem Only.keeps (K : PotK PP) {k p : Nat} {S S0 : St'} (h : Only p S S0) (hp : IsP PP k S0 p) : Keeps S S0 := by
  refine ⟨by rw [h.len]; exact Nat.le_refl _, fun i o ho => ?_⟩
  by_cases hi : i = p
  · subst hi
    obtain ⟨q, h1, h2⟩ := hp
    rw [h1] at ho; cases ho
    exact .inr (K.below _ _ _ h2)
  · exact .inl (by rw [← h.get hi]; exact ho)
/-- own things forgotten, the pot changed -/
theorem tidyP (K : PotK PP) {k p : Nat} {S S0 G : St'} {d : D} (hS : Only p S S0) (hp : IsP PP k S0 p) (h : below S.length d = true) : tidy S (d, S0 ++ G) = (d, S0) := tidy_keeps hS.len (hS.keeps K hp) h
theorem tidyP_thaw (K : PotK PP) {k p : Nat} {S S0 G : St'} {n : Nat} {xs : List D} (hS : Only p S S0) (hp : IsP PP k S0 p) (hn : S.length ≤ n) (h : (S0 ++ G)[n]? = some (.lst xs)) (hb : belows S.length xs = true) : tidy S (.loc n, S0 ++ G) = (.lst xs, S0) := by
  unfold tidy
  have e : List.take S.length (S0 ++ G) = S0 := by rw [← hS.len]; exact List.take_left
  simp only [e, h]
  have kk : Keeps S (List.take S.length (S0 ++ G)) := by rw [e]; exact hS.keeps K hp
  rw [if_pos kk, if_neg (by simp [below]; omega), if_pos ⟨hn, hb⟩]
/-- a def that draws below a number -/
def NextOk (PP : Nat → O → Prop) (F : FnD) : Prop := ∀ (k p : Nat) (m : Int) (S : St') (Q : D × St' → Prop), k < 1000000 → IsP PP k S p → 0 < m → m < 2 ^ 200 → (∀ (i : Nat) (S' : St'), (i : Int) < m → Only p S S' → IsP PP (k + 1) S' p → Q (.int (i : Int), S')) → W (F [.loc p, .int m] S) Q
theorem W_next {F : FnD} (hN : NextOk PP F) {k p : Nat} {m : Int} {S : St'} {Q : D × St' → Prop} (hk : k < 1000000) (hp : IsP PP k S p) (hm : 0 < m) (hm2 : m < 2 ^ 200) (q : ∀ (i : Nat) (S' : St'), (i : Int) < m → Only p S S' → IsP PP (k + 1) S' p → Q (.int (i : Int), S')) : W (F [.loc p, .int m] S) Q := hN k p m S Q hk hp hm hm2 q
/-- a def that draws c times at most: what it tells is good -/
def DrawP (PP : Nat → O → Prop) (c : Nat) (F : FnD) (as : List D) (good : D → Prop) : Prop := ∀ (k p : Nat) (S : St') (Q : D × St' → Prop), k + c ≤ 1000000 → IsP PP k S p → (∀ (d : D) (S' : St'), good d → Only p S S' → IsP PP (k + c) S' p → Q (d, S')) → W (F (.loc p :: as) S) Q
/-- a comprehension that draws -/
theorem W_compP {g : St' → Prop} {f : D → St' → R (Option D × St')} {items : List D} {S : St'} {Q : List D × St' → Prop} (c k p : Nat) (good : D → Prop) (hg : ∀ S, g S) (hp : IsP PP k S p)
    (hs : ∀ x ∈ items, ∀ k' S', k' + c ≤ k + c * items.length → Only p S S' → IsP PP k' S' p → W (f x S') (fun r => ∃ d, r.1 = some d ∧ good d ∧ Only p S' r.2 ∧ IsP PP (k' + c) r.2 p)) (hq : ∀ ds S', ds.length = items.length → (∀ d ∈ ds, good d) → Only p S S' → IsP PP (k + c * items.length) S' p → Q (ds, S')) : W (compL g f items S) Q := by
  refine W_comp (fun xs acc S' => (∀ x ∈ xs, x ∈ items) ∧ Only p S S' ∧ IsP PP (k + c * acc.length) S' p ∧ acc.length + xs.length = items.length ∧ ∀ d ∈ acc, good d) ⟨fun _ h => h, .refl hp.lt, by simpa using hp, by simp, by simp⟩ ?_ ?_
  · rintro x xs acc S' ⟨h1, h2, h5, h3, h4⟩
    have hle : c * (acc.length + 1) ≤ c * items.length := Nat.mul_le_mul_left c (by rw [List.length_cons] at h3; omega)
    rw [Nat.mul_add, Nat.mul_one] at hle
    refine ⟨hg _, W_mono (hs x (h1 x List.mem_cons_self) (k + c * acc.length) S' (by omega) h2 h5) ?_⟩
    rintro ⟨od, S1⟩ ⟨d, rfl, hd, hS, hP⟩
    refine ⟨fun y hy => h1 y (List.mem_cons_of_mem _ hy), h2.trans hS, ?_, by simp at h3 ⊢; omega, fun e he => ?_⟩
    · dsimp only
      rw [List.length_append, List.length_singleton, Nat.mul_add, Nat.mul_one, ← Nat.add_assoc]
      exact hP
    · rcases List.mem_append.mp he with he | he
      · exact h4 e he
      · rw [List.mem_singleton.mp he]; exact hd
  · rintro acc S' ⟨_, h2, h5, h3, h4⟩
    have h3 : acc.length = items.length := by simpa using h3
    exact ⟨hg _, hq acc S' h3 h4 h2 (by rw [← h3]; exact h5)⟩
end
end TK

/-! LW: words, cores, sizes; the laws' own runs. -/
namespace TK
open PySem PySem.Spec PyProof.Rows L2
def i_words_of (g_SMALL : Nat) (g_GREAT : Nat) (g_FIGURES : Nat) : FnI := ⟨"words_of", 1, ["text", "runs", "run", "sign"],
  [.asg (.one 1) (.own (.lst [])), .asg (.one 2) (.cst (.str [])), .for_ (.one 3) .val [(.var 0)] [.if_ (.or_ [(.cmp .in_ (.var 3) (.glb g_SMALL)), (.cmp .in_ (.var 3) (.glb g_GREAT)), (.cmp .in_ (.var 3) (.glb g_FIGURES))]) [.asg (.one 2) (.bin .add (.var 2) (.var 3))] [.if_ (.cmp .ne (.var 2) (.cst (.str []))) [.expr (.mth .append (.var 1) [(.var 2)]), .asg (.one 2) (.cst (.str []))] []]], .if_ (.cmp .ne (.var 2) (.cst (.str []))) [.expr (.mth .append (.var 1) [(.var 2)])] [], .ret (.blt .tuple [(.var 1)])]⟩
def i_cores_of (f_words_of : Nat) : FnI := ⟨"cores_of", 1, ["text", "word"],
  [.ret (.blt .tuple [(.comp [1] (.mth .lower (.var 1) []) (.one 1) .val [(.call f_words_of [(.var 0)])] [])])]⟩
def i_law_is_sign : FnI := ⟨"_law_is_sign", 1, ["_law_sign"],
  [.ret (.or_ [(.chain .le .le (.cst (.str [97])) (.var 0) (.cst (.str [122]))), (.chain .le .le (.cst (.str [65])) (.var 0) (.cst (.str [90]))), (.chain .le .le (.cst (.str [48])) (.var 0) (.cst (.str [57])))])]⟩
def i_law_runs (f_law_is_sign : Nat) : FnI := ⟨"_law_runs", 1, ["_law_text_here", "_law_runs_here", "_law_begin", "_law_end"],
  [.asg (.one 1) (.own (.lst [])), .for_ (.one 2) .range1 [(.blt .len [(.var 0)])] [.if_ (.and_ [(.tru (.call f_law_is_sign [(.idx (.var 0) (.var 2))])), (.or_ [(.cmp .eq (.var 2) (.cst (.int 0))), (.not_ (.tru (.call f_law_is_sign [(.idx (.var 0) (.bin .sub (.var 2) (.cst (.int 1))))])))])]) [.asg (.one 3) (.var 2), .while_ (.and_ [(.cmp .lt (.var 3) (.blt .len [(.var 0)])), (.tru (.call f_law_is_sign [(.idx (.var 0) (.var 3))]))]) [.asg (.one 3) (.bin .add (.var 3) (.cst (.int 1)))], .expr (.mth .append (.var 1) [(.slc (.var 0) [(.var 2)] [(.var 3)])])] []], .ret (.blt .tuple [(.var 1)])]⟩
def al (c : Nat) : Bool := (decide (97 ≤ c) && decide (c ≤ 122)) || (decide (65 ≤ c) && decide (c ≤ 90)) || (decide (48 ≤ c) && decide (c ≤ 57))
def runsFrom : Bool → List Nat → List (List Nat)
  | _, [] => []
  | prev, c :: r => if al c && !prev then ((c :: r).takeWhile al) :: runsFrom (al c) r else runsFrom (al c) r
def wFrom (rs : List (List Nat)) (r x : List Nat) : List (List Nat) := if r = [] then rs ++ runsFrom false x else rs ++ (r ++ x.takeWhile al) :: runsFrom true x
theorem wFrom_al {c : Nat} (h : al c = true) (rs : List (List Nat)) (r x : List Nat) : wFrom rs (r ++ [c]) x = wFrom rs r (c :: x) := by
  unfold wFrom
  by_cases hr : r = []
  · simp [hr, runsFrom, h, List.takeWhile_cons]
  · simp [hr, runsFrom, h, List.takeWhile_cons]
theorem wFrom_no {c : Nat} (h : al c = false) (rs : List (List Nat)) (r x : List Nat) : wFrom (if r = [] then rs else rs ++ [r]) [] x = wFrom rs r (c :: x) := by
  unfold wFrom
  by_cases hr : r = []
  · simp [hr, runsFrom, h]
  · simp [hr, runsFrom, h, List.takeWhile_cons]
def IsSignOk (F : FnD) : Prop := ∀ c S, F [.str [c]] S = .ok (.bl (al c), S)
def WordsOk (F : FnD) : Prop := ∀ x S, x.length ≤ 1000 → F [.str x] S = .ok (.tup ((runsFrom false x).map .str), S)
theorem isSignOk (Γ : Ctx) : IsSignOk (run Γ i_law_is_sign) := by
  intro c S
  refine W_eq (W_run rfl ?_)
  simp only [i_law_is_sign]
  by_cases h1 : 97 ≤ c <;> by_cases h2 : c ≤ 122 <;> by_cases h3 : 65 ≤ c <;> by_cases h4 : c ≤ 90 <;> by_cases h5 : 48 ≤ c <;> by_cases h6 : c ≤ 57 <;> first | omega | simp [pot_at, set_at, W_ok, W_bad, W_bind, W_exs_nil, W_exs_cons, kSeq_nx, kSeq_ret, kSeq_brk, kSeq_cnt, kRet_ret, kRet_nx, wipe', ex.eq_1, ex.eq_2, ex.eq_3, ex.eq_4, ex.eq_5, ex.eq_8, ex.eq_9, ex.eq_10, ex.eq_11, ex.eq_12, ex.eq_16, idxL, ex_for, ex_while, ev.eq_1, ev.eq_2, ev.eq_3, ev.eq_4, ev.eq_5, ev.eq_6, ev.eq_7, ev.eq_8, ev.eq_9, ev.eq_10, ev.eq_11, ev.eq_12, ev.eq_13, ev.eq_14, ev.eq_15, ev.eq_16, ev.eq_17, ev.eq_18, ev.eq_19, ev.eq_20, ev.eq_21, ev.eq_23, ev.eq_24, ev.eq_27, ev.eq_28, ev_comp, ex.eq_17, ex_forT, ev_compD, ex_forD, cmpF0, idxF0, idxD, inD, dctOf, ownDct, setixL, setixD, lenF0, revF, alterD, pairsD, isKey, allocD, lckF, evs, evT, evTs, evTAnd, evTOr, evAnd, evOr, binF, addF, augF, cmpF, eqF, ltF, inF, isN, bltF, repF, rgF, lenF, tyF, truF, setT, setMany, mulOk, divOk, allocL, slcF, optI, seqOf, lstOf, ixN, setixF, mthF, mOk, isStr, itF, itemsOf, srcOk, lim, le_one, h1, h2, h3, h4, h5, h6, al]
theorem wordsOk (Γ : Ctx) (g0 g1 g2 : Nat) (s0 s1 s2 : List Nat) (hg0 : Γ.gl g0 = .str s0) (hg1 : Γ.gl g1 = .str s1) (hg2 : Γ.gl g2 = .str s2)
    (hs : ∀ c, al c = true ↔ c ∈ s0 ∨ c ∈ s1 ∨ c ∈ s2) (x : List Nat) (S : St') (hx : x.length ≤ 1000) : ∃ G, run Γ (i_words_of g0 g1 g2) [.str x] S = .ok (.tup ((runsFrom false x).map .str), S ++ G) := by
  suffices h : W (run Γ (i_words_of g0 g1 g2) [.str x] S) (fun r => ∃ G, r = (.tup ((runsFrom false x).map .str), S ++ G)) by
    obtain ⟨r, h, G, rfl⟩ := W_ex h
    exact ⟨G, h⟩
  refine W_run rfl ?_
  simp [i_words_of, pot_at, set_at, W_ok, W_bad, W_bind, W_exs_nil, W_exs_cons, kSeq_nx, kSeq_ret, kSeq_brk, kSeq_cnt, kRet_ret, kRet_nx, wipe', ex.eq_1, ex.eq_2, ex.eq_3, ex.eq_4, ex.eq_5, ex.eq_8, ex.eq_9, ex.eq_10, ex.eq_11, ex.eq_12, ex.eq_16, idxL, ex_for, ex_while, ev.eq_1, ev.eq_2, ev.eq_3, ev.eq_4, ev.eq_5, ev.eq_6, ev.eq_7, ev.eq_8, ev.eq_9, ev.eq_10, ev.eq_11, ev.eq_12, ev.eq_13, ev.eq_14, ev.eq_15, ev.eq_16, ev.eq_17, ev.eq_18, ev.eq_19, ev.eq_20, ev.eq_21, ev.eq_23, ev.eq_24, ev.eq_27, ev.eq_28, ev_comp, ex.eq_17, ex_forT, ev_compD, ex_forD, cmpF0, idxF0, idxD, inD, dctOf, ownDct, setixL, setixD, lenF0, revF, alterD, pairsD, isKey, allocD, lckF, evs, evT, evTs, evTAnd, evTOr, evAnd, evOr, binF, addF, augF, cmpF, eqF, ltF, leF, inF, isN, bltF, repF, rgF, lenF, tyF, truF, setT, setMany, mulOk, divOk, allocL, slcF, optI, seqOf, lstOf, ixN, setixF, mthF, mOk, isStr, itF, itemsOf, srcOk, lim, signs]
  refine W_for_map (fun c => D.str [c]) (fun ys env S' => ∃ (rs : List (List Nat)) (r : List Nat) (o : Option D), S' = S ++ [.lst (rs.map .str)] ∧ env = [some (.str x), some (.loc S.length), some (.str r), o] ∧ wFrom rs r ys = runsFrom false x ∧ rs.length + r.length + ys.length ≤ x.length) ?_ ?_ x ⟨[], [], none, rfl, rfl, by simp [wFrom], by simp⟩
  · rintro c ys env S' ⟨rs, r, o, rfl, rfl, hw, hl⟩
    refine ⟨trivial, ?_⟩
    have l1 : r.length + 1 ≤ 16777216 := by simp at hl; omega
    have l2 : rs.length < 16777216 := by simp at hl; omega
    by_cases ha : al c = true
    · have w1 := wFrom_al ha rs r ys
      by_cases m0 : c ∈ s0
      · simp [turnB_eq, pot_at, set_at, W_ok, W_bad, W_bind, W_exs_nil, W_exs_cons, kSeq_nx, kSeq_ret, kSeq_brk, kSeq_cnt, kRet_ret, kRet_nx, wipe', ex.eq_1, ex.eq_2, ex.eq_3, ex.eq_4, ex.eq_5, ex.eq_8, ex.eq_9, ex.eq_10, ex.eq_11, ex.eq_12, ex.eq_16, idxL, ex_for, ex_while, ev.eq_1, ev.eq_2, ev.eq_3, ev.eq_4, ev.eq_5, ev.eq_6, ev.eq_7, ev.eq_8, ev.eq_9, ev.eq_10, ev.eq_11, ev.eq_12, ev.eq_13, ev.eq_14, ev.eq_15, ev.eq_16, ev.eq_17, ev.eq_18, ev.eq_19, ev.eq_20, ev.eq_21, ev.eq_23, ev.eq_24, ev.eq_27, ev.eq_28, ev_comp, ex.eq_17, ex_forT, ev_compD, ex_forD, cmpF0, idxF0, idxD, inD, dctOf, ownDct, setixL, setixD, lenF0, revF, alterD, pairsD, isKey, allocD, lckF, evs, evT, evTs, evTAnd, evTOr, evAnd, evOr, binF, addF, augF, cmpF, eqF, ltF, leF, inF, isN, bltF, repF, rgF, lenF, tyF, truF, setT, setMany, mulOk, divOk, allocL, slcF, optI, seqOf, lstOf, ixN, setixF, mthF, mOk, isStr, itF, itemsOf, srcOk, lim, hg0, hg1, hg2, m0, l1]
        exact ⟨rs, rfl, w1.trans hw, by simp at hl ⊢; omega⟩
      · by_cases m1 : c ∈ s1
        · simp [turnB_eq, pot_at, set_at, W_ok, W_bad, W_bind, W_exs_nil, W_exs_cons, kSeq_nx, kSeq_ret, kSeq_brk, kSeq_cnt, kRet_ret, kRet_nx, wipe', ex.eq_1, ex.eq_2, ex.eq_3, ex.eq_4, ex.eq_5, ex.eq_8, ex.eq_9, ex.eq_10, ex.eq_11, ex.eq_12, ex.eq_16, idxL, ex_for, ex_while, ev.eq_1, ev.eq_2, ev.eq_3, ev.eq_4, ev.eq_5, ev.eq_6, ev.eq_7, ev.eq_8, ev.eq_9, ev.eq_10, ev.eq_11, ev.eq_12, ev.eq_13, ev.eq_14, ev.eq_15, ev.eq_16, ev.eq_17, ev.eq_18, ev.eq_19, ev.eq_20, ev.eq_21, ev.eq_23, ev.eq_24, ev.eq_27, ev.eq_28, ev_comp, ex.eq_17, ex_forT, ev_compD, ex_forD, cmpF0, idxF0, idxD, inD, dctOf, ownDct, setixL, setixD, lenF0, revF, alterD, pairsD, isKey, allocD, lckF, evs, evT, evTs, evTAnd, evTOr, evAnd, evOr, binF, addF, augF, cmpF, eqF, ltF, leF, inF, isN, bltF, repF, rgF, lenF, tyF, truF, setT, setMany, mulOk, divOk, allocL, slcF, optI, seqOf, lstOf, ixN, setixF, mthF, mOk, isStr, itF, itemsOf, srcOk, lim, hg0, hg1, hg2, m0, m1, l1]
          exact ⟨rs, rfl, w1.trans hw, by simp at hl ⊢; omega⟩
        · have m2 : c ∈ s2 := by have := (hs c).mp ha; simpa [m0, m1] using this
          simp [turnB_eq, pot_at, set_at, W_ok, W_bad, W_bind, W_exs_nil, W_exs_cons, kSeq_nx, kSeq_ret, kSeq_brk, kSeq_cnt, kRet_ret, kRet_nx, wipe', ex.eq_1, ex.eq_2, ex.eq_3, ex.eq_4, ex.eq_5, ex.eq_8, ex.eq_9, ex.eq_10, ex.eq_11, ex.eq_12, ex.eq_16, idxL, ex_for, ex_while, ev.eq_1, ev.eq_2, ev.eq_3, ev.eq_4, ev.eq_5, ev.eq_6, ev.eq_7, ev.eq_8, ev.eq_9, ev.eq_10, ev.eq_11, ev.eq_12, ev.eq_13, ev.eq_14, ev.eq_15, ev.eq_16, ev.eq_17, ev.eq_18, ev.eq_19, ev.eq_20, ev.eq_21, ev.eq_23, ev.eq_24, ev.eq_27, ev.eq_28, ev_comp, ex.eq_17, ex_forT, ev_compD, ex_forD, cmpF0, idxF0, idxD, inD, dctOf, ownDct, setixL, setixD, lenF0, revF, alterD, pairsD, isKey, allocD, lckF, evs, evT, evTs, evTAnd, evTOr, evAnd, evOr, binF, addF, augF, cmpF, eqF, ltF, leF, inF, isN, bltF, repF, rgF, lenF, tyF, truF, setT, setMany, mulOk, divOk, allocL, slcF, optI, seqOf, lstOf, ixN, setixF, mthF, mOk, isStr, itF, itemsOf, srcOk, lim, hg0, hg1, hg2, m0, m1, m2, l1]
          exact ⟨rs, rfl, w1.trans hw, by simp at hl ⊢; omega⟩
    · have hn : al c = false := by simpa using ha
      have w1 := wFrom_no hn rs r ys
      have m := fun z => ha ((hs c).mpr z)
      have m0 : ¬ c ∈ s0 := fun z => m (.inl z)
      have m1 : ¬ c ∈ s1 := fun z => m (.inr (.inl z))
      have m2 : ¬ c ∈ s2 := fun z => m (.inr (.inr z))
      by_cases hr : r = []
      · simp only [hr, if_true] at w1
        simp [turnB_eq, pot_at, set_at, W_ok, W_bad, W_bind, W_exs_nil, W_exs_cons, kSeq_nx, kSeq_ret, kSeq_brk, kSeq_cnt, kRet_ret, kRet_nx, wipe', ex.eq_1, ex.eq_2, ex.eq_3, ex.eq_4, ex.eq_5, ex.eq_8, ex.eq_9, ex.eq_10, ex.eq_11, ex.eq_12, ex.eq_16, idxL, ex_for, ex_while, ev.eq_1, ev.eq_2, ev.eq_3, ev.eq_4, ev.eq_5, ev.eq_6, ev.eq_7, ev.eq_8, ev.eq_9, ev.eq_10, ev.eq_11, ev.eq_12, ev.eq_13, ev.eq_14, ev.eq_15, ev.eq_16, ev.eq_17, ev.eq_18, ev.eq_19, ev.eq_20, ev.eq_21, ev.eq_23, ev.eq_24, ev.eq_27, ev.eq_28, ev_comp, ex.eq_17, ex_forT, ev_compD, ex_forD, cmpF0, idxF0, idxD, inD, dctOf, ownDct, setixL, setixD, lenF0, revF, alterD, pairsD, isKey, allocD, lckF, evs, evT, evTs, evTAnd, evTOr, evAnd, evOr, binF, addF, augF, cmpF, eqF, ltF, leF, inF, isN, bltF, repF, rgF, lenF, tyF, truF, setT, setMany, mulOk, divOk, allocL, slcF, optI, seqOf, lstOf, ixN, setixF, mthF, mOk, isStr, itF, itemsOf, srcOk, lim, hg0, hg1, hg2, m0, m1, m2, hr]
        exact ⟨rs, rfl, w1.trans (by rw [hr] at hw; exact hw), by simp at hl ⊢; omega⟩
      · simp only [hr, if_false] at w1
        have r1 : 1 ≤ r.length := by cases r with | nil => exact absurd rfl hr | cons a b => simp
        simp [turnB_eq, pot_at, set_at, W_ok, W_bad, W_bind, W_exs_nil, W_exs_cons, kSeq_nx, kSeq_ret, kSeq_brk, kSeq_cnt, kRet_ret, kRet_nx, wipe', ex.eq_1, ex.eq_2, ex.eq_3, ex.eq_4, ex.eq_5, ex.eq_8, ex.eq_9, ex.eq_10, ex.eq_11, ex.eq_12, ex.eq_16, idxL, ex_for, ex_while, ev.eq_1, ev.eq_2, ev.eq_3, ev.eq_4, ev.eq_5, ev.eq_6, ev.eq_7, ev.eq_8, ev.eq_9, ev.eq_10, ev.eq_11, ev.eq_12, ev.eq_13, ev.eq_14, ev.eq_15, ev.eq_16, ev.eq_17, ev.eq_18, ev.eq_19, ev.eq_20, ev.eq_21, ev.eq_23, ev.eq_24, ev.eq_27, ev.eq_28, ev_comp, ex.eq_17, ex_forT, ev_compD, ex_forD, cmpF0, idxF0, idxD, inD, dctOf, ownDct, setixL, setixD, lenF0, revF, alterD, pairsD, isKey, allocD, lckF, evs, evT, evTs, evTAnd, evTOr, evAnd, evOr, binF, addF, augF, cmpF, eqF, ltF, leF, inF, isN, bltF, repF, rgF, lenF, tyF, truF, setT, setMany, mulOk, divOk, allocL, slcF, optI, seqOf, lstOf, ixN, setixF, mthF, mOk, isStr, itF, itemsOf, srcOk, lim, hg0, hg1, hg2, m0, m1, m2, hr, l2]
        exact ⟨rs ++ [r], by simp, w1.trans hw, by simp at hl ⊢; omega⟩
  · rintro env S' ⟨rs, r, o, rfl, rfl, hw, hl⟩
    refine ⟨trivial, ?_⟩
    have l2 : rs.length < 16777216 := by simp at hl; omega
    by_cases hr : r = []
    · simp [pot_at, set_at, W_ok, W_bad, W_bind, W_exs_nil, W_exs_cons, kSeq_nx, kSeq_ret, kSeq_brk, kSeq_cnt, kRet_ret, kRet_nx, wipe', ex.eq_1, ex.eq_2, ex.eq_3, ex.eq_4, ex.eq_5, ex.eq_8, ex.eq_9, ex.eq_10, ex.eq_11, ex.eq_12, ex.eq_16, idxL, ex_for, ex_while, ev.eq_1, ev.eq_2, ev.eq_3, ev.eq_4, ev.eq_5, ev.eq_6, ev.eq_7, ev.eq_8, ev.eq_9, ev.eq_10, ev.eq_11, ev.eq_12, ev.eq_13, ev.eq_14, ev.eq_15, ev.eq_16, ev.eq_17, ev.eq_18, ev.eq_19, ev.eq_20, ev.eq_21, ev.eq_23, ev.eq_24, ev.eq_27, ev.eq_28, ev_comp, ex.eq_17, ex_forT, ev_compD, ex_forD, cmpF0, idxF0, idxD, inD, dctOf, ownDct, setixL, setixD, lenF0, revF, alterD, pairsD, isKey, allocD, lckF, evs, evT, evTs, evTAnd, evTOr, evAnd, evOr, binF, addF, augF, cmpF, eqF, ltF, leF, inF, isN, bltF, repF, rgF, lenF, tyF, truF, setT, setMany, mulOk, divOk, allocL, slcF, optI, seqOf, lstOf, ixN, setixF, mthF, mOk, isStr, itF, itemsOf, srcOk, lim, hr]
      simp [wFrom, hr, runsFrom] at hw
      rw [hw]
    · simp [pot_at, set_at, W_ok, W_bad, W_bind, W_exs_nil, W_exs_cons, kSeq_nx, kSeq_ret, kSeq_brk, kSeq_cnt, kRet_ret, kRet_nx, wipe', ex.eq_1, ex.eq_2, ex.eq_3, ex.eq_4, ex.eq_5, ex.eq_8, ex.eq_9, ex.eq_10, ex.eq_11, ex.eq_12, ex.eq_16, idxL, ex_for, ex_while, ev.eq_1, ev.eq_2, ev.eq_3, ev.eq_4, ev.eq_5, ev.eq_6, ev.eq_7, ev.eq_8, ev.eq_9, ev.eq_10, ev.eq_11, ev.eq_12, ev.eq_13, ev.eq_14, ev.eq_15, ev.eq_16, ev.eq_17, ev.eq_18, ev.eq_19, ev.eq_20, ev.eq_21, ev.eq_23, ev.eq_24, ev.eq_27, ev.eq_28, ev_comp, ex.eq_17, ex_forT, ev_compD, ex_forD, cmpF0, idxF0, idxD, inD, dctOf, ownDct, setixL, setixD, lenF0, revF, alterD, pairsD, isKey, allocD, lckF, evs, evT, evTs, evTAnd, evTOr, evAnd, evOr, binF, addF, augF, cmpF, eqF, ltF, leF, inF, isN, bltF, repF, rgF, lenF, tyF, truF, setT, setMany, mulOk, divOk, allocL, slcF, optI, seqOf, lstOf, ixN, setixF, mthF, mOk, isStr, itF, itemsOf, srcOk, lim, hr, l2]
      simp [wFrom, hr, runsFrom] at hw
      simp [← hw]
theorem tw_get {α : Type} (p : α → Bool) : ∀ (l : List α) (j : Nat), j < (l.takeWhile p).length → ∃ c, l[j]? = some c ∧ p c = true
  | [], j, h => by simp at h
  | a :: l, j, h => by
    by_cases ha : p a = true
    · cases j with
      | zero => exact ⟨a, rfl, ha⟩
      | succ j =>
        rw [List.takeWhile_cons, if_pos ha, List.length_cons] at h
        obtain ⟨c, h1, h2⟩ := tw_get p l j (by omega)
        exact ⟨c, by simpa using h1, h2⟩
    · rw [List.takeWhile_cons, if_neg ha] at h
      simp at h
theorem tw_end {α : Type} (p : α → Bool) : ∀ (l : List α), (l.takeWhile p).length = l.length ∨ ∃ c, l[(l.takeWhile p).length]? = some c ∧ p c = false
  | [] => .inl rfl
  | a :: l => by
    by_cases ha : p a = true
    · rw [List.takeWhile_cons, if_pos ha, List.length_cons]
      rcases tw_end p l with h | ⟨c, h1, h2⟩
      · left; rw [h]; rfl
      · right; exact ⟨c, by simpa using h1, h2⟩
    · rw [List.takeWhile_cons, if_neg ha]
      right
      exact ⟨a, rfl, by simpa using ha⟩
theorem tw_len {α : Type} (p : α → Bool) : ∀ (l : List α), (l.takeWhile p).length ≤ l.length
  | [] => by simp
  | a :: l => by
    by_cases ha : p a = true
    · rw [List.takeWhile_cons, if_pos ha, List.length_cons, List.length_cons]
      have := tw_len p l
      omega
    · rw [List.takeWhile_cons, if_neg ha]; simp
theorem tw_take {α : Type} (p : α → Bool) : ∀ (l : List α), l.take (l.takeWhile p).length = l.takeWhile p
  | [] => rfl
  | a :: l => by
    by_cases ha : p a = true
    · rw [List.takeWhile_cons, if_pos ha, List.length_cons, List.take_succ_cons, tw_take p l]
    · rw [List.takeWhile_cons, if_neg ha]; rfl
def prevAt (x : List Nat) (i : Nat) : Bool := if i = 0 then false else match x[i - 1]? with
  | some c => al c
  | none => false
def RInv (x : List Nat) (S : St') (i : Nat) (env : Env') (S' : St') : Prop := ∃ (acc : List (List Nat)) (o2 o3 : Option D), S' = S ++ [.lst (acc.map .str)] ∧ env = [some (.str x), some (.loc S.length), o2, o3] ∧ acc ++ runsFrom (prevAt x i) (x.drop i) = runsFrom false x ∧ acc.length ≤ i
def RInv2 (x : List Nat) (S : St') (acc : List (List Nat)) (i k : Nat) (m : Nat) (env : Env') (S' : St') : Prop := m ≤ k ∧ S' = S ++ [.lst (acc.map .str)] ∧ env = [some (.str x), some (.loc S.length), some (.int i), some (.int ((i + (k - m) : Nat) : Int))]
theorem runs_while (Γ : Ctx) (f : Nat) (hf : ∀ c S, Γ.fn f [D.str [c]] S = R.ok (D.bl (al c), S)) (hfuel : Γ.fuel = 100000000000) (x : List Nat) (S : St') (hx : x.length ≤ 1000) (hx2 : x.length ≤ 16777216) (acc : List (List Nat)) (i : Nat) (hi : i < x.length) : ∀ Q : Fes → Prop, (∀ env S', RInv2 x S acc i ((x.drop i).takeWhile al).length 0 env S' → Q (.nx, env, S')) → W (whileB Γ (IE.and_ [IE.cmp COp.lt (IE.var 3) (IE.blt Blt.len [IE.var 0]), (IE.call f [(IE.var 0).idx (IE.var 3)]).tru]) [IS.asg (Tg.one 3) (IE.bin BOp.add (IE.var 3) (IE.cst (D.int 1)))] Γ.fuel [some (.str x), some (.loc S.length), some (.int i), some (.int i)] (S ++ [.lst (acc.map .str)])) Q := by
  intro Q hQ
  have tl : ((x.drop i).takeWhile al).length ≤ x.length := Nat.le_trans (tw_len al _) (by rw [List.length_drop]; omega)
  refine W_while (RInv2 x S acc i ((x.drop i).takeWhile al).length) ?_ Γ.fuel ((x.drop i).takeWhile al).length _ _ (by rw [hfuel]; omega) ⟨Nat.le_refl _, rfl, by simp⟩
  rintro m env S' ⟨hm, rfl, rfl⟩
  cases m with
  | zero =>
    have hq := hQ _ _ ⟨Nat.zero_le _, rfl, rfl⟩
    rw [Nat.sub_zero] at hq ⊢
    rcases tw_end al (x.drop i) with h | ⟨e, h1, h2⟩
    · rw [List.length_drop] at h
      have h3 : i + ((x.drop i).takeWhile al).length = x.length := by omega
      rw [h3] at hq ⊢
      simp [pot_at, set_at, W_ok, W_bad, W_bind, W_exs_nil, W_exs_cons, kSeq_nx, kSeq_ret, kSeq_brk, kSeq_cnt, kRet_ret, kRet_nx, wipe', ex.eq_1, ex.eq_2, ex.eq_3, ex.eq_4, ex.eq_5, ex.eq_8, ex.eq_9, ex.eq_10, ex.eq_11, ex.eq_12, ex.eq_16, idxL, ex_for, ex_while, ev.eq_1, ev.eq_2, ev.eq_3, ev.eq_4, ev.eq_5, ev.eq_6, ev.eq_7, ev.eq_8, ev.eq_9, ev.eq_10, ev.eq_11, ev.eq_12, ev.eq_13, ev.eq_14, ev.eq_15, ev.eq_16, ev.eq_17, ev.eq_18, ev.eq_19, ev.eq_20, ev.eq_21, ev.eq_23, ev.eq_24, ev.eq_27, ev.eq_28, ev_comp, ex.eq_17, ex_forT, ev_compD, ex_forD, cmpF0, idxF0, idxD, inD, dctOf, ownDct, setixL, setixD, lenF0, revF, alterD, pairsD, isKey, allocD, lckF, evs, evT, evTs, evTAnd, evTOr, evAnd, evOr, binF, addF, augF, cmpF, eqF, ltF, leF, inF, isN, bltF, repF, rgF, lenF, tyF, truF, setT, setMany, mulOk, divOk, allocL, slcF, optI, seqOf, lstOf, ixN, setixF, mthF, mOk, isStr, itF, itemsOf, srcOk, lim, hx2]
      simpa using hq
    · rw [List.getElem?_drop] at h1
      have h4 := (List.getElem?_eq_some_iff.mp h1).1
      generalize hk : i + ((x.drop i).takeWhile al).length = k at hq h1 h4 ⊢
      have hkx : ∀ S, idxF S (.str x) (.int (k : Int)) = .ok (.str [e]) := fun S => idx_str hx2 h1
      simp [pot_at, set_at, W_ok, W_bad, W_bind, W_exs_nil, W_exs_cons, kSeq_nx, kSeq_ret, kSeq_brk, kSeq_cnt, kRet_ret, kRet_nx, wipe', ex.eq_1, ex.eq_2, ex.eq_3, ex.eq_4, ex.eq_5, ex.eq_8, ex.eq_9, ex.eq_10, ex.eq_11, ex.eq_12, ex.eq_16, idxL, ex_for, ex_while, ev.eq_1, ev.eq_2, ev.eq_3, ev.eq_4, ev.eq_5, ev.eq_6, ev.eq_7, ev.eq_8, ev.eq_9, ev.eq_10, ev.eq_11, ev.eq_12, ev.eq_13, ev.eq_14, ev.eq_15, ev.eq_16, ev.eq_17, ev.eq_18, ev.eq_19, ev.eq_20, ev.eq_21, ev.eq_23, ev.eq_24, ev.eq_27, ev.eq_28, ev_comp, ex.eq_17, ex_forT, ev_compD, ex_forD, cmpF0, idxF0, idxD, inD, dctOf, ownDct, setixL, setixD, lenF0, revF, alterD, pairsD, isKey, allocD, lckF, evs, evT, evTs, evTAnd, evTOr, evAnd, evOr, binF, addF, augF, cmpF, eqF, ltF, leF, inF, isN, bltF, repF, rgF, lenF, tyF, truF, setT, setMany, mulOk, divOk, allocL, slcF, optI, seqOf, lstOf, ixN, setixF, mthF, mOk, isStr, itF, itemsOf, srcOk, lim, hx2, h4, hkx, hf, h2]
      exact hq
  | succ m =>
    obtain ⟨e, h1, h2⟩ := tw_get al (x.drop i) (((x.drop i).takeWhile al).length - (m + 1)) (by omega)
    rw [List.getElem?_drop] at h1
    have h4 := (List.getElem?_eq_some_iff.mp h1).1
    have hk2 : i + (((x.drop i).takeWhile al).length - m) = i + (((x.drop i).takeWhile al).length - (m + 1)) + 1 := by omega
    generalize hk : i + (((x.drop i).takeWhile al).length - (m + 1)) = k at h1 h4 hk2 ⊢
    have hkx : ∀ S, idxF S (.str x) (.int (k : Int)) = .ok (.str [e]) := fun S => idx_str hx2 h1
    simp [pot_at, set_at, W_ok, W_bad, W_bind, W_exs_nil, W_exs_cons, kSeq_nx, kSeq_ret, kSeq_brk, kSeq_cnt, kRet_ret, kRet_nx, wipe', ex.eq_1, ex.eq_2, ex.eq_3, ex.eq_4, ex.eq_5, ex.eq_8, ex.eq_9, ex.eq_10, ex.eq_11, ex.eq_12, ex.eq_16, idxL, ex_for, ex_while, ev.eq_1, ev.eq_2, ev.eq_3, ev.eq_4, ev.eq_5, ev.eq_6, ev.eq_7, ev.eq_8, ev.eq_9, ev.eq_10, ev.eq_11, ev.eq_12, ev.eq_13, ev.eq_14, ev.eq_15, ev.eq_16, ev.eq_17, ev.eq_18, ev.eq_19, ev.eq_20, ev.eq_21, ev.eq_23, ev.eq_24, ev.eq_27, ev.eq_28, ev_comp, ex.eq_17, ex_forT, ev_compD, ex_forD, cmpF0, idxF0, idxD, inD, dctOf, ownDct, setixL, setixD, lenF0, revF, alterD, pairsD, isKey, allocD, lckF, evs, evT, evTs, evTAnd, evTOr, evAnd, evOr, binF, addF, augF, cmpF, eqF, ltF, leF, inF, isN, bltF, repF, rgF, lenF, tyF, truF, setT, setMany, mulOk, divOk, allocL, slcF, optI, seqOf, lstOf, ixN, setixF, mthF, mOk, isStr, itF, itemsOf, srcOk, lim, hx2, h4, hkx, hf, h2]
    exact ⟨m, by omega, by omega, rfl, by rw [hk2]; rfl⟩
theorem runs_fin (Γ : Ctx) (x : List Nat) (S : St') (hx2 : x.length ≤ 16777216) (acc : List (List Nat)) (la : acc.length < 16777216) (i : Nat) (hi : i < x.length) (c : Nat) (hdrop : x.drop i = c :: x.drop (i + 1)) (hp : prevAt x (i + 1) = al c) (hacc : acc ++ runsFrom (prevAt x i) (c :: x.drop (i + 1)) = runsFrom false x) (hlen : acc.length ≤ i) (ha : al c = true) (hpf : prevAt x i = false) : ∀ env S' (Q : Fes → Prop), RInv2 x S acc i ((x.drop i).takeWhile al).length 0 env S' → (∀ env S', RInv x S (i + 1) env S' → Q (.nx, env, S')) → W (exs Γ [.expr (.mth .append (.var 1) [(.slc (.var 0) [(.var 2)] [(.var 3)])])] env S') Q := by
  rintro env S' Q ⟨_, rfl, rfl⟩ hQ
  have hcut : cutD x (some (i : Int)) (some ((i : Int) + (((x.drop i).takeWhile al).length : Nat))) = (x.drop i).takeWhile al := by
    rw [cutD_mid _ _ _ (by have := tw_len al (x.drop i); rw [List.length_drop] at this; omega), tw_take]
  simp [pot_at, set_at, W_ok, W_bad, W_bind, W_exs_nil, W_exs_cons, kSeq_nx, kSeq_ret, kSeq_brk, kSeq_cnt, kRet_ret, kRet_nx, wipe', ex.eq_1, ex.eq_2, ex.eq_3, ex.eq_4, ex.eq_5, ex.eq_8, ex.eq_9, ex.eq_10, ex.eq_11, ex.eq_12, ex.eq_16, idxL, ex_for, ex_while, ev.eq_1, ev.eq_2, ev.eq_3, ev.eq_4, ev.eq_5, ev.eq_6, ev.eq_7, ev.eq_8, ev.eq_9, ev.eq_10, ev.eq_11, ev.eq_12, ev.eq_13, ev.eq_14, ev.eq_15, ev.eq_16, ev.eq_17, ev.eq_18, ev.eq_19, ev.eq_20, ev.eq_21, ev.eq_23, ev.eq_24, ev.eq_27, ev.eq_28, ev_comp, ex.eq_17, ex_forT, ev_compD, ex_forD, cmpF0, idxF0, idxD, inD, dctOf, ownDct, setixL, setixD, lenF0, revF, alterD, pairsD, isKey, allocD, lckF, evs, evT, evTs, evTAnd, evTOr, evAnd, evOr, binF, addF, augF, cmpF, eqF, ltF, leF, inF, isN, bltF, repF, rgF, lenF, tyF, truF, setT, setMany, mulOk, divOk, allocL, slcF, optI, seqOf, lstOf, ixN, setixF, mthF, mOk, isStr, itF, itemsOf, srcOk, lim, hx2, hcut, la]
  refine hQ _ _ ⟨acc ++ [(x.drop i).takeWhile al], _, _, by simp, rfl, ?_, by simp; omega⟩
  rw [← hacc, hp, hdrop]
  simp [runsFrom, ha, hpf]
theorem runsOk (Γ : Ctx) (f : Nat) (hf : IsSignOk (Γ.fn f)) (hfuel : Γ.fuel = 100000000000) (x : List Nat) (S : St') (hx : x.length ≤ 1000) : ∃ G, run Γ (i_law_runs f) [.str x] S = .ok (.tup ((runsFrom false x).map .str), S ++ G) := by
  suffices h : W (run Γ (i_law_runs f) [.str x] S) (fun r => ∃ G, r = (.tup ((runsFrom false x).map .str), S ++ G)) by
    obtain ⟨r, h, G, rfl⟩ := W_ex h
    exact ⟨G, h⟩
  have hx2 : x.length ≤ 16777216 := by omega
  simp only [IsSignOk] at hf
  refine W_run rfl ?_
  simp [i_law_runs, pot_at, set_at, W_ok, W_bad, W_bind, W_exs_nil, W_exs_cons, kSeq_nx, kSeq_ret, kSeq_brk, kSeq_cnt, kRet_ret, kRet_nx, wipe', ex.eq_1, ex.eq_2, ex.eq_3, ex.eq_4, ex.eq_5, ex.eq_8, ex.eq_9, ex.eq_10, ex.eq_11, ex.eq_12, ex.eq_16, idxL, ex_for, ex_while, ev.eq_1, ev.eq_2, ev.eq_3, ev.eq_4, ev.eq_5, ev.eq_6, ev.eq_7, ev.eq_8, ev.eq_9, ev.eq_10, ev.eq_11, ev.eq_12, ev.eq_13, ev.eq_14, ev.eq_15, ev.eq_16, ev.eq_17, ev.eq_18, ev.eq_19, ev.eq_20, ev.eq_21, ev.eq_23, ev.eq_24, ev.eq_27, ev.eq_28, ev_comp, ex.eq_17, ex_forT, ev_compD, ex_forD, cmpF0, idxF0, idxD, inD, dctOf, ownDct, setixL, setixD, lenF0, revF, alterD, pairsD, isKey, allocD, lckF, evs, evT, evTs, evTAnd, evTOr, evAnd, evOr, binF, addF, augF, cmpF, eqF, ltF, leF, inF, isN, bltF, repF, rgF, lenF, tyF, truF, setT, setMany, mulOk, divOk, allocL, slcF, optI, seqOf, lstOf, ixN, setixF, mthF, mOk, isStr, itemsOf, srcOk, lim, it_range1 _ hx2, hx2]
  refine W_range x.length (RInv x S) ?_ ?_ ⟨[], none, none, rfl, rfl, by simp [prevAt], by simp⟩
  · rintro i env S' hi ⟨acc, o2, o3, rfl, rfl, hacc, hlen⟩
    refine ⟨trivial, ?_⟩
    have hdrop : x.drop i = x[i] :: x.drop (i + 1) := List.drop_eq_getElem_cons hi
    have hc : x[i]? = some x[i] := List.getElem?_eq_getElem hi
    have hp : prevAt x (i + 1) = al x[i] := by simp [prevAt, hc]
    generalize hcc : x[i] = c at hdrop hc hp
    have hix : ∀ S, idxF S (.str x) (.int (i : Int)) = .ok (.str [c]) := fun S => idx_str hx2 hc
    have la : acc.length < 16777216 := by omega
    rw [hdrop] at hacc
    have skip : (al c && !prevAt x i) = false → acc ++ runsFrom (prevAt x (i + 1)) (x.drop (i + 1)) = runsFrom false x := fun h => by
      rw [← hacc, hp]
      simp [runsFrom, h]
    by_cases ha : al c = true
    · by_cases hpv : prevAt x i = true
      · obtain ⟨j, rfl⟩ : ∃ j, i = j + 1 := by
          cases i with
          | zero => simp [prevAt] at hpv
          | succ j => exact ⟨j, rfl⟩
        have hj : x[j]? = some (x[j]'(by omega)) := List.getElem?_eq_getElem (by omega)
        have hpj : al (x[j]'(by omega)) = true := by simpa [prevAt, hj] using hpv
        generalize x[j]'(by omega) = e at hj hpj
        have hjx : ∀ S, idxF S (.str x) (.int (j : Int)) = .ok (.str [e]) := fun S => idx_str hx2 hj
        have hz : ¬ ((j : Int) + 1 = 0) := by omega
        simp at hix
        simp [turnB_eq, pot_at, set_at, W_ok, W_bad, W_bind, W_exs_nil, W_exs_cons, kSeq_nx, kSeq_ret, kSeq_brk, kSeq_cnt, kRet_ret, kRet_nx, wipe', ex.eq_1, ex.eq_2, ex.eq_3, ex.eq_4, ex.eq_5, ex.eq_8, ex.eq_9, ex.eq_10, ex.eq_11, ex.eq_12, ex.eq_16, idxL, ex_for, ex_while, ev.eq_1, ev.eq_2, ev.eq_3, ev.eq_4, ev.eq_5, ev.eq_6, ev.eq_7, ev.eq_8, ev.eq_9, ev.eq_10, ev.eq_11, ev.eq_12, ev.eq_13, ev.eq_14, ev.eq_15, ev.eq_16, ev.eq_17, ev.eq_18, ev.eq_19, ev.eq_20, ev.eq_21, ev.eq_23, ev.eq_24, ev.eq_27, ev.eq_28, ev_comp, ex.eq_17, ex_forT, ev_compD, ex_forD, cmpF0, idxF0, idxD, inD, dctOf, ownDct, setixL, setixD, lenF0, revF, alterD, pairsD, isKey, allocD, lckF, evs, evT, evTs, evTAnd, evTOr, evAnd, evOr, binF, addF, augF, cmpF, eqF, ltF, leF, inF, isN, bltF, repF, rgF, lenF, tyF, truF, setT, setMany, mulOk, divOk, allocL, slcF, optI, seqOf, lstOf, ixN, setixF, mthF, mOk, isStr, itF, itemsOf, srcOk, lim, hix, hjx, hf, ha, hpj, hz]
        exact ⟨acc, _, _, rfl, rfl, skip (by simp [ha, hpv]), by omega⟩
      · have hpf : prevAt x i = false := by simpa using hpv
        have hcond : ((i : Int) = 0) ∨ ∃ j e, i = j + 1 ∧ x[j]? = some e ∧ al e = false := by
          cases i with
          | zero => left; rfl
          | succ j =>
            right
            have hj : x[j]? = some (x[j]'(by omega)) := List.getElem?_eq_getElem (by omega)
            exact ⟨j, _, rfl, hj, by simpa [prevAt, hj] using hpf⟩
        have key := runs_while Γ f hf hfuel x S hx hx2 acc i hi
        have fin := runs_fin Γ x S hx2 acc la i hi c hdrop hp hacc hlen ha hpf
        rcases hcond with h0 | ⟨j, e, rfl, hj, he⟩
        · have h0 : i = 0 := by omega
          subst h0
          have e0 : ((0 : Nat) : Int) = 0 := by simp
          rw [e0] at key
          simp at hix
          simp [turnB_eq, pot_at, set_at, W_ok, W_bad, W_bind, W_exs_nil, W_exs_cons, kSeq_nx, kSeq_ret, kSeq_brk, kSeq_cnt, kRet_ret, kRet_nx, wipe', ex.eq_1, ex.eq_2, ex.eq_3, ex.eq_4, ex.eq_5, ex.eq_8, ex.eq_9, ex.eq_10, ex.eq_11, ex.eq_12, ex.eq_16, idxL, ex_for, ex_while, ev.eq_1, ev.eq_2, ev.eq_3, ev.eq_4, ev.eq_5, ev.eq_6, ev.eq_7, ev.eq_8, ev.eq_9, ev.eq_10, ev.eq_11, ev.eq_12, ev.eq_13, ev.eq_14, ev.eq_15, ev.eq_16, ev.eq_17, ev.eq_18, ev.eq_19, ev.eq_20, ev.eq_21, ev.eq_23, ev.eq_24, ev.eq_27, ev.eq_28, ev_comp, ex.eq_17, ex_forT, ev_compD, ex_forD, cmpF0, idxF0, idxD, inD, dctOf, ownDct, setixL, setixD, lenF0, revF, alterD, pairsD, isKey, allocD, lckF, evs, evT, evTs, evTAnd, evTOr, evAnd, evOr, binF, addF, augF, cmpF, eqF, ltF, leF, inF, isN, bltF, repF, rgF, lenF, tyF, truF, setT, setMany, mulOk, divOk, allocL, slcF, optI, seqOf, lstOf, ixN, setixF, mthF, mOk, isStr, itF, itemsOf, srcOk, lim, hix, hf, ha]
          refine key _ fun env S' h => ?_
          rw [kSeq_nx]
          refine fin env S' _ h fun env S' h => ?_
          rw [kSeq_nx, W_exs_nil]; exact h
        · have hjx : ∀ S, idxF S (.str x) (.int (j : Int)) = .ok (.str [e]) := fun S => idx_str hx2 hj
          have hz : ¬ ((j : Int) + 1 = 0) := by omega
          have e1 : ((j + 1 : Nat) : Int) = (j : Int) + 1 := by simp
          rw [e1] at key
          simp at hix
          simp [turnB_eq, pot_at, set_at, W_ok, W_bad, W_bind, W_exs_nil, W_exs_cons, kSeq_nx, kSeq_ret, kSeq_brk, kSeq_cnt, kRet_ret, kRet_nx, wipe', ex.eq_1, ex.eq_2, ex.eq_3, ex.eq_4, ex.eq_5, ex.eq_8, ex.eq_9, ex.eq_10, ex.eq_11, ex.eq_12, ex.eq_16, idxL, ex_for, ex_while, ev.eq_1, ev.eq_2, ev.eq_3, ev.eq_4, ev.eq_5, ev.eq_6, ev.eq_7, ev.eq_8, ev.eq_9, ev.eq_10, ev.eq_11, ev.eq_12, ev.eq_13, ev.eq_14, ev.eq_15, ev.eq_16, ev.eq_17, ev.eq_18, ev.eq_19, ev.eq_20, ev.eq_21, ev.eq_23, ev.eq_24, ev.eq_27, ev.eq_28, ev_comp, ex.eq_17, ex_forT, ev_compD, ex_forD, cmpF0, idxF0, idxD, inD, dctOf, ownDct, setixL, setixD, lenF0, revF, alterD, pairsD, isKey, allocD, lckF, evs, evT, evTs, evTAnd, evTOr, evAnd, evOr, binF, addF, augF, cmpF, eqF, ltF, leF, inF, isN, bltF, repF, rgF, lenF, tyF, truF, setT, setMany, mulOk, divOk, allocL, slcF, optI, seqOf, lstOf, ixN, setixF, mthF, mOk, isStr, itF, itemsOf, srcOk, lim, hix, hjx, hf, ha, he, hz]
          refine key _ fun env S' h => ?_
          rw [kSeq_nx]
          refine fin env S' _ h fun env S' h => ?_
          rw [kSeq_nx, W_exs_nil]; exact h
    · have hn : al c = false := by simpa using ha
      simp [turnB_eq, pot_at, set_at, W_ok, W_bad, W_bind, W_exs_nil, W_exs_cons, kSeq_nx, kSeq_ret, kSeq_brk, kSeq_cnt, kRet_ret, kRet_nx, wipe', ex.eq_1, ex.eq_2, ex.eq_3, ex.eq_4, ex.eq_5, ex.eq_8, ex.eq_9, ex.eq_10, ex.eq_11, ex.eq_12, ex.eq_16, idxL, ex_for, ex_while, ev.eq_1, ev.eq_2, ev.eq_3, ev.eq_4, ev.eq_5, ev.eq_6, ev.eq_7, ev.eq_8, ev.eq_9, ev.eq_10, ev.eq_11, ev.eq_12, ev.eq_13, ev.eq_14, ev.eq_15, ev.eq_16, ev.eq_17, ev.eq_18, ev.eq_19, ev.eq_20, ev.eq_21, ev.eq_23, ev.eq_24, ev.eq_27, ev.eq_28, ev_comp, ex.eq_17, ex_forT, ev_compD, ex_forD, cmpF0, idxF0, idxD, inD, dctOf, ownDct, setixL, setixD, lenF0, revF, alterD, pairsD, isKey, allocD, lckF, evs, evT, evTs, evTAnd, evTOr, evAnd, evOr, binF, addF, augF, cmpF, eqF, ltF, leF, inF, isN, bltF, repF, rgF, lenF, tyF, truF, setT, setMany, mulOk, divOk, allocL, slcF, optI, seqOf, lstOf, ixN, setixF, mthF, mOk, isStr, itF, itemsOf, srcOk, lim, hix, hf, hn]
      exact ⟨acc, _, _, rfl, rfl, skip (by simp [hn]), by omega⟩
  · rintro env S' ⟨acc, o2, o3, rfl, rfl, hacc, hlen⟩
    refine ⟨trivial, ?_⟩
    rw [List.drop_length] at hacc
    have : acc = runsFrom false x := by simpa [runsFrom] using hacc
    simp [pot_at, set_at, W_ok, W_bad, W_bind, W_exs_nil, W_exs_cons, kSeq_nx, kSeq_ret, kSeq_brk, kSeq_cnt, kRet_ret, kRet_nx, wipe', ex.eq_1, ex.eq_2, ex.eq_3, ex.eq_4, ex.eq_5, ex.eq_8, ex.eq_9, ex.eq_10, ex.eq_11, ex.eq_12, ex.eq_16, idxL, ex_for, ex_while, ev.eq_1, ev.eq_2, ev.eq_3, ev.eq_4, ev.eq_5, ev.eq_6, ev.eq_7, ev.eq_8, ev.eq_9, ev.eq_10, ev.eq_11, ev.eq_12, ev.eq_13, ev.eq_14, ev.eq_15, ev.eq_16, ev.eq_17, ev.eq_18, ev.eq_19, ev.eq_20, ev.eq_21, ev.eq_23, ev.eq_24, ev.eq_27, ev.eq_28, ev_comp, ex.eq_17, ex_forT, ev_compD, ex_forD, cmpF0, idxF0, idxD, inD, dctOf, ownDct, setixL, setixD, lenF0, revF, alterD, pairsD, isKey, allocD, lckF, evs, evT, evTs, evTAnd, evTOr, evAnd, evOr, binF, addF, augF, cmpF, eqF, ltF, leF, inF, isN, bltF, repF, rgF, lenF, tyF, truF, setT, setMany, mulOk, divOk, allocL, slcF, optI, seqOf, lstOf, ixN, setixF, mthF, mOk, isStr, itF, itemsOf, srcOk, lim, this]
theorem alOk (c : Nat) : al c = true ↔ c ∈ [97, 98, 99, 100, 101, 102, 103, 104, 105, 106, 107, 108, 109, 110, 111, 112, 113, 114, 115, 116, 117, 118, 119, 120, 121, 122] ∨ c ∈ [65, 66, 67, 68, 69, 70, 71, 72, 73, 74, 75, 76, 77, 78, 79, 80, 81, 82, 83, 84, 85, 86, 87, 88, 89, 90] ∨ c ∈ [48, 49, 50, 51, 52, 53, 54, 55, 56, 57] := by
  rw [mem_small, mem_great, mem_figures]
  simp [al]
  omega
theorem plain_strs (n : Nat) : ∀ rs : List (List Nat), plainDs (n + 1) (rs.map .str) = true
  | [] => by simp [plainDs]
  | r :: rs => by simp [plainDs, plainD, plain_strs n rs]
theorem runs_len : ∀ (b : Bool) (x : List Nat), (runsFrom b x).length ≤ x.length
  | _, [] => by simp [runsFrom]
  | b, c :: x => by
    have := runs_len (al c) x
    unfold runsFrom
    split
    · simp; omega
    · simp; omega
theorem tw_all {α : Type} (p : α → Bool) : ∀ (l : List α), ∀ c ∈ l.takeWhile p, p c = true
  | [], c, h => by cases h
  | a :: l, c, h => by
    by_cases ha : p a = true
    · rw [List.takeWhile_cons, if_pos ha] at h
      rcases List.mem_cons.mp h with rfl | h
      · exact ha
      · exact tw_all p l c h
    · rw [List.takeWhile_cons, if_neg ha] at h
      cases h
theorem runs_al : ∀ (b : Bool) (x : List Nat), ∀ w ∈ runsFrom b x, (∀ c ∈ w, al c = true) ∧ w.length ≤ x.length
  | _, [], w, h => by simp [runsFrom] at h
  | b, c :: x, w, h => by
    have ih := runs_al (al c) x
    unfold runsFrom at h
    split at h
    · rcases List.mem_cons.mp h with rfl | h
      · exact ⟨tw_all al _, tw_len al _⟩
      · exact ⟨(ih w h).1, Nat.le_succ_of_le (ih w h).2⟩
    · exact ⟨(ih w h).1, Nat.le_succ_of_le (ih w h).2⟩
theorem al_lt {c : Nat} (h : al c = true) : c < 128 := by
  simp [al] at h; omega
/-- the cores of a text -/
def coresL (x : List Nat) : List (List Nat) := (runsFrom false x).map fun w => w.map lo1
def CoresOk (F : FnD) : Prop := ∀ x S, x.length ≤ 1000 → F [.str x] S = .ok (.tup ((coresL x).map .str), S)
theorem coresOk (Γ : Ctx) (f : Nat) (hf : WordsOk (Γ.fn f)) : CoresOk (run Γ (i_cores_of f)) := by
  intro x S hx
  have hC := compL_map (g := fun _ => True) (S := S) (f := compB Γ (.one 1) [1] [] (.mth .lower (.var 1) []) [some (.str x), none]) (fun w : List Nat => D.str w) (fun w => .str (w.map lo1)) trivial (runsFrom false x) fun w hw => by
    have h1 := runs_al false x w hw
    have h2 : w.length ≤ 5592405 := by omega
    have h3 : ∀ c ∈ w, c < 128 := fun c hc => al_lt (h1.1 c hc)
    simp [compB_eq, run, wipe', exs, ex.eq_1, ex.eq_2, ex.eq_3, ex.eq_4, ex.eq_5, ex.eq_8, ex.eq_9, ex.eq_10, ex.eq_11, ex.eq_12, ex.eq_16, idxL, ex_for, ex_while, ev.eq_1, ev.eq_2, ev.eq_3, ev.eq_4, ev.eq_5, ev.eq_6, ev.eq_7, ev.eq_8, ev.eq_9, ev.eq_10, ev.eq_11, ev.eq_12, ev.eq_13, ev.eq_14, ev.eq_15, ev.eq_16, ev.eq_17, ev.eq_18, ev.eq_19, ev.eq_20, ev.eq_21, ev.eq_23, ev.eq_24, ev.eq_27, ev.eq_28, ev_comp, ex.eq_17, ex_forT, ev_compD, ex_forD, cmpF0, idxF0, idxD, inD, dctOf, ownDct, setixL, setixD, revF, alterD, pairsD, isKey, lckF, evs, evT, evTs, evTAnd, evTOr, evAnd, evOr, binF, augF, cmpF, isN, bltF, repF, rgF, setMany, mulOk, divOk, idxF, optI, seqOf, lstOf, atI, ixN, setixF, mthF, mOk, isStr, itF, itemsOf, srcOk, lim, in_str1, in_tupS, in_lstS, le_one, lt_one, lt_int, le_int, eq_int, eq_str, eq_bl, eq_non, eq_ni, eq_in, eq_ns, eq_sn, add_int, add_str, add_tup, add_lst, add_locL, add_Lloc, add_ll, slc_str, slc_tup, slc_lst, slc_loc, alloc_lst, alloc_dct, len_str, len_tup, len_lst, len_loc, tru_bl, tru_int, tru_non, tru_str, tru_tup, tru_lst, tru_loc, ty_non, ty_bl, ty_int, ty_str, ty_tup, ty_lst, ty_dct, setT_one, setT_many, setT_manyL, h2]
    rw [if_pos h3]
    simp
  have hl : (runsFrom false x).length ≤ 16777216 := by have := runs_len false x; omega
  simp [i_cores_of, run, wipe', exs, ex.eq_1, ex.eq_2, ex.eq_3, ex.eq_4, ex.eq_5, ex.eq_8, ex.eq_9, ex.eq_10, ex.eq_11, ex.eq_12, ex.eq_16, idxL, ex_for, ex_while, ev.eq_1, ev.eq_2, ev.eq_3, ev.eq_4, ev.eq_5, ev.eq_6, ev.eq_7, ev.eq_8, ev.eq_9, ev.eq_10, ev.eq_11, ev.eq_12, ev.eq_13, ev.eq_14, ev.eq_15, ev.eq_16, ev.eq_17, ev.eq_18, ev.eq_19, ev.eq_20, ev.eq_21, ev.eq_23, ev.eq_24, ev.eq_27, ev.eq_28, ev_comp, ex.eq_17, ex_forT, ev_compD, ex_forD, cmpF0, idxF0, idxD, inD, dctOf, ownDct, setixL, setixD, revF, alterD, pairsD, isKey, lckF, evs, evT, evTs, evTAnd, evTOr, evAnd, evOr, binF, augF, cmpF, isN, bltF, repF, rgF, setMany, mulOk, divOk, idxF, optI, seqOf, lstOf, atI, ixN, setixF, mthF, mOk, isStr, itF, itemsOf, srcOk, lim, in_str1, in_tupS, in_lstS, le_one, lt_one, lt_int, le_int, eq_int, eq_str, eq_bl, eq_non, eq_ni, eq_in, eq_ns, eq_sn, add_int, add_str, add_tup, add_lst, add_locL, add_Lloc, add_ll, slc_str, slc_tup, slc_lst, slc_loc, alloc_lst, alloc_dct, len_str, len_tup, len_lst, len_loc, tru_bl, tru_int, tru_non, tru_str, tru_tup, tru_lst, tru_loc, ty_non, ty_bl, ty_int, ty_str, ty_tup, ty_lst, ty_dct, setT_one, setT_many, setT_manyL, hf x S hx, hl]
  rw [hC]
  simp [run, wipe', exs, ex.eq_1, ex.eq_2, ex.eq_3, ex.eq_4, ex.eq_5, ex.eq_8, ex.eq_9, ex.eq_10, ex.eq_11, ex.eq_12, ex.eq_16, idxL, ex_for, ex_while, ev.eq_1, ev.eq_2, ev.eq_3, ev.eq_4, ev.eq_5, ev.eq_6, ev.eq_7, ev.eq_8, ev.eq_9, ev.eq_10, ev.eq_11, ev.eq_12, ev.eq_13, ev.eq_14, ev.eq_15, ev.eq_16, ev.eq_17, ev.eq_18, ev.eq_19, ev.eq_20, ev.eq_21, ev.eq_23, ev.eq_24, ev.eq_27, ev.eq_28, ev_comp, ex.eq_17, ex_forT, ev_compD, ex_forD, cmpF0, idxF0, idxD, inD, dctOf, ownDct, setixL, setixD, revF, alterD, pairsD, isKey, lckF, evs, evT, evTs, evTAnd, evTOr, evAnd, evOr, binF, augF, cmpF, isN, bltF, repF, rgF, setMany, mulOk, divOk, idxF, optI, seqOf, lstOf, atI, ixN, setixF, mthF, mOk, isStr, itF, itemsOf, srcOk, lim, in_str1, in_tupS, in_lstS, le_one, lt_one, lt_int, le_int, eq_int, eq_str, eq_bl, eq_non, eq_ni, eq_in, eq_ns, eq_sn, add_int, add_str, add_tup, add_lst, add_locL, add_Lloc, add_ll, slc_str, slc_tup, slc_lst, slc_loc, alloc_lst, alloc_dct, len_str, len_tup, len_lst, len_loc, tru_bl, tru_int, tru_non, tru_str, tru_tup, tru_lst, tru_loc, ty_non, ty_bl, ty_int, ty_str, ty_tup, ty_lst, ty_dct, setT_one, setT_many, setT_manyL, coresL]
end TK

/-! LH: hits, pairs of cores (cores_in, hits), dicts keyed by pairs. -/
namespace TK
open PySem PySem.Spec PyProof.Rows L2
def i_cores_in (f_cores_of : Nat) : FnI := ⟨"cores_in", 1, ["texts", "cores", "text", "core"],
  [.asg (.one 1) (.ownD (.dct [])), .for_ (.one 2) .val [(.var 0)] [.for_ (.one 3) .val [(.call f_cores_of [(.var 2)])] [.setix (.var 1) (.var 3) (.cst (.bl true))]], .ret (.var 1)]⟩
def i_hits (f_cores_in : Nat) : FnI := ⟨"hits", 3, ["ones", "others", "words", "left", "right", "pair"],
  [.asg (.one 3) (.call f_cores_in [(.var 0)]), .asg (.one 4) (.call f_cores_in [(.var 1)]), .ret (.blt .len [(.comp [5] (.var 5) (.one 5) .val [(.var 2)] [(.and_ [(.cmp .in_ (.idx (.var 5) (.cst (.int 0))) (.var 3)), (.cmp .in_ (.idx (.var 5) (.cst (.int 1))) (.var 4))])])])]⟩
/-! ### the plain part -/
def wds : List (List Nat) := [[97], [98], [97, 98], [104, 97, 117, 115], [104, 111, 117, 115, 101], [100, 97, 115], [116, 104, 101], [49], [120, 57], [117, 110, 100], [97, 110, 100], [114, 111, 116], [114, 101, 100], [122, 122], [48], [99]]
theorem wds_ok : ∀ x ∈ wds, x.length ≤ 5 ∧ 1 ≤ x.length ∧ (∀ c ∈ x, c < 0x110000) := by decide
abbrev Pr := List Nat × List Nat
def prD (p : Pr) : D := .tup [.str p.1, .str p.2]
def kvT (ps : List Pr) : List (D × D) := ps.map fun p => (prD p, .bl true)
theorem keyEqT_pr (p q : Pr) : keyEqT (prD p) (prD q) = decide (p = q) := by
  simp only [prD, keyEqT, keysEq, keyEq, Bool.and_true]
  by_cases h1 : p.1 = q.1 <;> by_cases h2 : p.2 = q.2 <;> simp [h1, h2, Prod.ext_iff]
theorem dgetT_kv (q : Pr) : ∀ ps : List Pr, (dgetT (kvT ps) (prD q)).isSome = decide (q ∈ ps)
  | [] => rfl
  | p :: ps => by
    have ih := dgetT_kv q ps
    simp only [kvT, List.map_cons, dgetT, keyEqT_pr] at ih ⊢
    by_cases h : p = q
    · simp [h]
    · simp [h, ih, Ne.symm h]
theorem dputT_kv (q : Pr) (ps : List Pr) : dputT (kvT ps) (prD q) (.bl true) = kvT (if q ∈ ps then ps else ps ++ [q]) := by
  unfold dputT
  rw [dgetT_kv]
  by_cases h : q ∈ ps
  · rw [if_pos (by simpa using h), if_pos h]
    unfold kvT
    rw [List.map_map]
    refine List.map_congr_left fun p _ => ?_
    dsimp only [Function.comp]
    split <;> rfl
  · rw [if_neg (by simpa using h), if_neg h]
    simp [kvT]
theorem kvT_keys (ps : List Pr) : (kvT ps).map (·.1) = ps.map prD := by simp [kvT, Function.comp]
def kvS (cs : List (List Nat)) : List (D × D) := cs.map fun x => (.str x, .bl true)
theorem dget_kvS (y : List Nat) : ∀ cs : List (List Nat), (dget (kvS cs) (.str y)).isSome = decide (y ∈ cs)
  | [] => rfl
  | x :: cs => by
    have ih := dget_kvS y cs
    simp only [kvS, List.map_cons, dget, keyEq] at ih ⊢
    by_cases h : x = y
    · simp [h]
    · simp [h, ih, Ne.symm h]
theorem dput_kvS (y : List Nat) (cs : List (List Nat)) : dput (kvS cs) (.str y) (.bl true) = kvS (if y ∈ cs then cs else cs ++ [y]) := by
  unfold dput
  rw [dget_kvS]
  by_cases h : y ∈ cs
  · rw [if_pos (by simpa using h), if_pos h]
    unfold kvS
    rw [List.map_map]
    refine List.map_congr_left fun p _ => ?_
    dsimp only [Function.comp]
    split <;> rfl
  · rw [if_neg (by simpa using h), if_neg h]
    simp [kvS]
def allC (ts : List (List Nat)) : List (List Nat) := ts.flatMap coresL
def hitB (ts us : List (List Nat)) (p : Pr) : Bool := decide (p.1 ∈ allC ts) && decide (p.2 ∈ allC us)
def TsOk (ts : List (List Nat)) : Prop := ts.length ≤ 25 ∧ ∀ t ∈ ts, t.length ≤ 100
theorem coresL_len (t : List Nat) (h : t.length ≤ 100) : (coresL t).length ≤ 100 := by
  have := runs_len false t
  unfold coresL
  rw [List.length_map]
  omega
theorem tidy_thawD {S G : St'} {n : Nat} {kvs : List (D × D)} (hn : S.length ≤ n) (h : (S ++ G)[n]? = some (.dct kvs)) (hb : belows S.length (kvs.map (·.2)) = true) : tidy S (.loc n, S ++ G) = (frzD kvs, S) := by
  have ht : (S ++ G).take S.length = S := by rw [List.take_append_of_le_length (Nat.le_refl _), List.take_length]
  unfold tidy
  dsimp only
  have hk : Keeps S ((S ++ G).take S.length) := by rw [ht]; exact Keeps.refl S
  rw [if_pos hk, if_neg (by simp only [below, decide_eq_true_eq]; omega), h]
  dsimp only
  rw [if_pos ⟨hn, hb⟩, ht]
theorem belows_kvS (n : Nat) : ∀ cs : List (List Nat), belows n ((kvS cs).map (·.2)) = true
  | [] => by simp [kvS, belows]
  | c :: cs => by
    have := belows_kvS n cs
    simp only [kvS, List.map_cons, belows, below, Bool.true_and] at this ⊢
    exact this
def CoresInOk (F : FnD) : Prop := ∀ ts S, TsOk ts → ∃ cs, F [.tup (ts.map .str)] S = .ok (frzD (kvS cs), S) ∧ ∀ y, y ∈ cs ↔ y ∈ allC ts
theorem coresIn_run (Γ : Ctx) (f : Nat) (hC : CoresOk (Γ.fn f)) (ts : List (List Nat)) (S : St') (h : TsOk ts) : ∃ cs, run Γ (i_cores_in f) [.tup (ts.map .str)] S = .ok (.loc S.length, S ++ [.dct (kvS cs)]) ∧ ∀ y, y ∈ cs ↔ y ∈ allC ts := by
  have key : W (run Γ (i_cores_in f) [.tup (ts.map .str)] S) (fun r => ∃ cs, r = (.loc S.length, S ++ [.dct (kvS cs)]) ∧ ∀ y, y ∈ cs ↔ y ∈ allC ts) := by
    refine W_run rfl ?_
    simp [i_cores_in, W_ok, W_bad, W_bind, W_exs_nil, W_exs_cons, kSeq_nx, kSeq_ret, kSeq_brk, kSeq_cnt, kRet_ret, kRet_nx, wipe', ex.eq_1, ex.eq_2, ex.eq_3, ex.eq_4, ex.eq_5, ex.eq_8, ex.eq_9, ex.eq_10, ex.eq_11, ex.eq_12, ex.eq_16, idxL, ex_for, ex_while, ev.eq_1, ev.eq_2, ev.eq_3, ev.eq_4, ev.eq_5, ev.eq_6, ev.eq_7, ev.eq_8, ev.eq_9, ev.eq_10, ev.eq_11, ev.eq_12, ev.eq_13, ev.eq_14, ev.eq_15, ev.eq_16, ev.eq_17, ev.eq_18, ev.eq_19, ev.eq_20, ev.eq_21, ev.eq_23, ev.eq_24, ev.eq_27, ev.eq_28, ev_comp, ex.eq_17, ex_forT, ev_compD, ex_forD, cmpF0, idxF0, idxD, inD, dctOf, ownDct, setixL, setixD, revF, alterD, pairsD, isKey, lckF, evs, evT, evTs, evTAnd, evTOr, evAnd, evOr, binF, augF, cmpF, isN, bltF, repF, rgF, setMany, mulOk, divOk, optI, seqOf, lstOf, ixN, setixF, mthF, mOk, isStr, itF, itemsOf, srcOk, lim, in_str1, in_tupS, in_lstS, le_one, lt_one, lt_int, le_int, eq_int, eq_str, eq_bl, eq_non, eq_ni, eq_in, eq_ns, eq_sn, add_int, add_str, add_tup, add_lst, add_locL, add_Lloc, add_ll, slc_str, slc_tup, slc_lst, slc_loc, alloc_lst, alloc_dct, len_str, len_tup, len_lst, len_loc, tru_bl, tru_int, tru_non, tru_str, tru_tup, tru_lst, tru_loc, ty_non, ty_bl, ty_int, ty_str, ty_tup, ty_lst, ty_dct, setT_one, setT_many, setT_manyL, pot_at, set_at, dmerge, frzD]
    refine W_for_map D.str (fun ys env S' => ∃ (pre : List (List Nat)) (cs : List (List Nat)) (o2 o3 : Option D), ts = pre ++ ys ∧ S' = S ++ [.dct (kvS cs)] ∧ (∀ y, y ∈ cs ↔ y ∈ allC pre) ∧ cs.length ≤ 100 * pre.length ∧ env = [some (.tup (ts.map .str)), some (.loc S.length), o2, o3]) ?_ ?_ ts ⟨[], [], none, none, rfl, by simp [kvS], by simp [allC], by simp, rfl⟩
    · rintro t ys env S' ⟨pre, cs, o2, o3, hp, rfl, hcs, hlen, rfl⟩
      refine ⟨trivial, ?_⟩
      have ht : t.length ≤ 100 := h.2 t (by rw [hp]; simp)
      have hcl := coresL_len t ht
      have hpl : pre.length + 1 ≤ 25 := by
        have := congrArg List.length hp
        have := h.1
        simp at *; omega
      simp [turnB_eq, W_ok, W_bad, W_bind, W_exs_nil, W_exs_cons, kSeq_nx, kSeq_ret, kSeq_brk, kSeq_cnt, kRet_ret, kRet_nx, wipe', ex.eq_1, ex.eq_2, ex.eq_3, ex.eq_4, ex.eq_5, ex.eq_8, ex.eq_9, ex.eq_10, ex.eq_11, ex.eq_12, ex.eq_16, idxL, ex_for, ex_while, ev.eq_1, ev.eq_2, ev.eq_3, ev.eq_4, ev.eq_5, ev.eq_6, ev.eq_7, ev.eq_8, ev.eq_9, ev.eq_10, ev.eq_11, ev.eq_12, ev.eq_13, ev.eq_14, ev.eq_15, ev.eq_16, ev.eq_17, ev.eq_18, ev.eq_19, ev.eq_20, ev.eq_21, ev.eq_23, ev.eq_24, ev.eq_27, ev.eq_28, ev_comp, ex.eq_17, ex_forT, ev_compD, ex_forD, cmpF0, idxF0, idxD, inD, dctOf, ownDct, setixL, setixD, revF, alterD, pairsD, isKey, lckF, evs, evT, evTs, evTAnd, evTOr, evAnd, evOr, binF, augF, cmpF, isN, bltF, repF, rgF, setMany, mulOk, divOk, optI, seqOf, lstOf, ixN, setixF, mthF, mOk, isStr, itF, itemsOf, srcOk, lim, in_str1, in_tupS, in_lstS, le_one, lt_one, lt_int, le_int, eq_int, eq_str, eq_bl, eq_non, eq_ni, eq_in, eq_ns, eq_sn, add_int, add_str, add_tup, add_lst, add_locL, add_Lloc, add_ll, slc_str, slc_tup, slc_lst, slc_loc, alloc_lst, alloc_dct, len_str, len_tup, len_lst, len_loc, tru_bl, tru_int, tru_non, tru_str, tru_tup, tru_lst, tru_loc, ty_non, ty_bl, ty_int, ty_str, ty_tup, ty_lst, ty_dct, setT_one, setT_many, setT_manyL, pot_at, set_at, hC t _ (by omega : t.length ≤ 1000)]
      refine W_for_map D.str (fun zs env S' => ∃ (pr : List (List Nat)) (cs2 : List (List Nat)) (o3 : Option D), coresL t = pr ++ zs ∧ S' = S ++ [.dct (kvS cs2)] ∧ (∀ y, y ∈ cs2 ↔ y ∈ allC pre ∨ y ∈ pr) ∧ cs2.length ≤ 100 * pre.length + pr.length ∧ env = [some (.tup (ts.map .str)), some (.loc S.length), some (.str t), o3]) ?_ ?_ (coresL t) ⟨[], cs, o3, rfl, rfl, by simp [hcs], by simp; omega, rfl⟩
      · rintro z zs env S' ⟨pr, cs2, o3, hz, rfl, hm, hl2, rfl⟩
        refine ⟨trivial, ?_⟩
        have hzl : pr.length + 1 ≤ 100 := by
          have := congrArg List.length hz
          simp at this; omega
        have hg : (kvS cs2).length < 16777216 := by simp only [kvS, List.length_map]; omega
        simp [turnB_eq, W_ok, W_bad, W_bind, W_exs_nil, W_exs_cons, kSeq_nx, kSeq_ret, kSeq_brk, kSeq_cnt, kRet_ret, kRet_nx, wipe', ex.eq_1, ex.eq_2, ex.eq_3, ex.eq_4, ex.eq_5, ex.eq_8, ex.eq_9, ex.eq_10, ex.eq_11, ex.eq_12, ex.eq_16, idxL, ex_for, ex_while, ev.eq_1, ev.eq_2, ev.eq_3, ev.eq_4, ev.eq_5, ev.eq_6, ev.eq_7, ev.eq_8, ev.eq_9, ev.eq_10, ev.eq_11, ev.eq_12, ev.eq_13, ev.eq_14, ev.eq_15, ev.eq_16, ev.eq_17, ev.eq_18, ev.eq_19, ev.eq_20, ev.eq_21, ev.eq_23, ev.eq_24, ev.eq_27, ev.eq_28, ev_comp, ex.eq_17, ex_forT, ev_compD, ex_forD, cmpF0, idxF0, idxD, inD, dctOf, ownDct, setixL, setixD, revF, alterD, pairsD, isKey, lckF, evs, evT, evTs, evTAnd, evTOr, evAnd, evOr, binF, augF, cmpF, isN, bltF, repF, rgF, setMany, mulOk, divOk, optI, seqOf, lstOf, ixN, setixF, mthF, mOk, isStr, itF, itemsOf, srcOk, lim, in_str1, in_tupS, in_lstS, le_one, lt_one, lt_int, le_int, eq_int, eq_str, eq_bl, eq_non, eq_ni, eq_in, eq_ns, eq_sn, add_int, add_str, add_tup, add_lst, add_locL, add_Lloc, add_ll, slc_str, slc_tup, slc_lst, slc_loc, alloc_lst, alloc_dct, len_str, len_tup, len_lst, len_loc, tru_bl, tru_int, tru_non, tru_str, tru_tup, tru_lst, tru_loc, ty_non, ty_bl, ty_int, ty_str, ty_tup, ty_lst, ty_dct, setT_one, setT_many, setT_manyL, pot_at, set_at, hg, dput_kvS]
        refine ⟨pr ++ [z], by simp [hz], ⟨_, rfl, fun y => ?_, ?_⟩⟩
        · by_cases e : z ∈ cs2
          · rw [if_pos e, hm]
            simp only [List.mem_append, List.mem_singleton]
            have := (hm z).mp e
            constructor
            · rintro (q | q)
              · exact .inl q
              · exact .inr (.inl q)
            · rintro (q | q | q)
              · exact .inl q
              · exact .inr q
              · rw [q]; exact this
          · rw [if_neg e]
            simp only [List.mem_append, List.mem_singleton, hm, or_assoc]
        · have : (if z ∈ cs2 then cs2 else cs2 ++ [z]).length ≤ cs2.length + 1 := by split <;> simp
          simp; omega
      · rintro env S' ⟨pr, cs2, o3, hz, rfl, hm, hl2, rfl⟩
        refine ⟨trivial, ?_⟩
        have e : coresL t = pr := by simpa using hz
        simp only [kSeq_nx, W_exs_nil]
        refine ⟨pre ++ [t], by simp [hp], cs2, rfl, fun y => ?_, ?_, _, _, rfl⟩
        · rw [hm]; simp [allC, e]
        · have := hcl; rw [e] at this; simp; omega
    · rintro env S' ⟨pre, cs, o2, o3, hp, rfl, hcs, hlen, rfl⟩
      refine ⟨trivial, ?_⟩
      have e : ts = pre := by simpa using hp
      simp [W_ok, W_bad, W_bind, W_exs_nil, W_exs_cons, kSeq_nx, kSeq_ret, kSeq_brk, kSeq_cnt, kRet_ret, kRet_nx, wipe', ex.eq_1, ex.eq_2, ex.eq_3, ex.eq_4, ex.eq_5, ex.eq_8, ex.eq_9, ex.eq_10, ex.eq_11, ex.eq_12, ex.eq_16, idxL, ex_for, ex_while, ev.eq_1, ev.eq_2, ev.eq_3, ev.eq_4, ev.eq_5, ev.eq_6, ev.eq_7, ev.eq_8, ev.eq_9, ev.eq_10, ev.eq_11, ev.eq_12, ev.eq_13, ev.eq_14, ev.eq_15, ev.eq_16, ev.eq_17, ev.eq_18, ev.eq_19, ev.eq_20, ev.eq_21, ev.eq_23, ev.eq_24, ev.eq_27, ev.eq_28, ev_comp, ex.eq_17, ex_forT, ev_compD, ex_forD, cmpF0, idxF0, idxD, inD, dctOf, ownDct, setixL, setixD, revF, alterD, pairsD, isKey, lckF, evs, evT, evTs, evTAnd, evTOr, evAnd, evOr, binF, augF, cmpF, isN, bltF, repF, rgF, setMany, mulOk, divOk, optI, seqOf, lstOf, ixN, setixF, mthF, mOk, isStr, itF, itemsOf, srcOk, lim, in_str1, in_tupS, in_lstS, le_one, lt_one, lt_int, le_int, eq_int, eq_str, eq_bl, eq_non, eq_ni, eq_in, eq_ns, eq_sn, add_int, add_str, add_tup, add_lst, add_locL, add_Lloc, add_ll, slc_str, slc_tup, slc_lst, slc_loc, alloc_lst, alloc_dct, len_str, len_tup, len_lst, len_loc, tru_bl, tru_int, tru_non, tru_str, tru_tup, tru_lst, tru_loc, ty_non, ty_bl, ty_int, ty_str, ty_tup, ty_lst, ty_dct, setT_one, setT_many, setT_manyL, pot_at, set_at]
      exact ⟨cs, rfl, by rw [e]; exact hcs⟩
  obtain ⟨r, h1, cs, rfl, h2⟩ := W_ex key
  exact ⟨cs, h1, h2⟩
theorem frzD_kvS (S : St') (cs : List (List Nat)) : dctOf S (frzD (kvS cs)) = some (kvS cs) := by
  unfold frzD dctOf
  dsimp only
  rw [zip_unzip]
theorem in_frz (S : St') (y : List Nat) (cs : List (List Nat)) : cmpF .in_ S (.str y) (frzD (kvS cs)) = .ok (decide (y ∈ cs)) := by
  unfold cmpF
  dsimp only
  rw [frzD_kvS]
  simp [inD, isKey, dget_kvS]
def HitsOk (F : FnD) : Prop := ∀ ts us (ps : List Pr) S, TsOk ts → TsOk us → ps.length ≤ 100 → F [.tup (ts.map .str), .tup (us.map .str), .tup (ps.map prD)] S = .ok (.int ((ps.filter (hitB ts us)).length : Nat), S)
theorem hitsOk (Γ : Ctx) (f : Nat) (hC : CoresInOk (Γ.fn f)) : HitsOk (run Γ (i_hits f)) := by
  intro ts us ps S h1 h2 h3
  obtain ⟨cs, e1, m1⟩ := hC ts S h1
  obtain ⟨ds, e2, m2⟩ := hC us S h2
  refine W_eq (W_run rfl ?_)
  have hin := in_frz S
  generalize hx : frzD (kvS cs) = x at *
  generalize hy : frzD (kvS ds) = y at *
  simp [i_hits, W_ok, W_bad, W_bind, W_exs_nil, W_exs_cons, kSeq_nx, kSeq_ret, kSeq_brk, kSeq_cnt, kRet_ret, kRet_nx, wipe', ex.eq_1, ex.eq_2, ex.eq_3, ex.eq_4, ex.eq_5, ex.eq_8, ex.eq_9, ex.eq_10, ex.eq_11, ex.eq_12, ex.eq_16, idxL, ex_for, ex_while, ev.eq_1, ev.eq_2, ev.eq_3, ev.eq_4, ev.eq_5, ev.eq_6, ev.eq_7, ev.eq_8, ev.eq_9, ev.eq_10, ev.eq_11, ev.eq_12, ev.eq_13, ev.eq_14, ev.eq_15, ev.eq_16, ev.eq_17, ev.eq_18, ev.eq_19, ev.eq_20, ev.eq_21, ev.eq_23, ev.eq_24, ev.eq_27, ev.eq_28, ev_comp, ex.eq_17, ex_forT, ev_compD, ex_forD, cmpF0, idxF0, idxD, inD, dctOf, ownDct, setixL, setixD, revF, alterD, pairsD, isKey, lckF, evs, evT, evTs, evTAnd, evTOr, evAnd, evOr, binF, augF, cmpF, isN, bltF, repF, rgF, setMany, mulOk, divOk, optI, seqOf, lstOf, ixN, setixF, mthF, mOk, isStr, itF, itemsOf, srcOk, lim, in_str1, in_tupS, in_lstS, le_one, lt_one, lt_int, le_int, eq_int, eq_str, eq_bl, eq_non, eq_ni, eq_in, eq_ns, eq_sn, add_int, add_str, add_tup, add_lst, add_locL, add_Lloc, add_ll, slc_str, slc_tup, slc_lst, slc_loc, alloc_lst, alloc_dct, len_str, len_tup, len_lst, len_loc, tru_bl, tru_int, tru_non, tru_str, tru_tup, tru_lst, tru_loc, ty_non, ty_bl, ty_int, ty_str, ty_tup, ty_lst, ty_dct, setT_one, setT_many, setT_manyL, pot_at, set_at, e1, e2, show ps.length ≤ 16777216 by omega]
  refine W_of (compL_filt prD (hitB ts us) prD trivial ps fun p _ => ?_) ?_
  · have i0 : idxF S (prD p) (.int 0) = .ok (.str p.1) := rfl
    have i1 : idxF S (prD p) (.int 1) = .ok (.str p.2) := rfl
    have q1 : cmpF .in_ S (.str p.1) x = .ok (decide (p.1 ∈ allC ts)) := by rw [← hx, in_frz]; simp [m1]
    have q2 : cmpF .in_ S (.str p.2) y = .ok (decide (p.2 ∈ allC us)) := by rw [← hy, in_frz]; simp [m2]
    rw [compB_eq, setT_one, R.bind_ok]
    simp only [evTs, evT, evTAnd, ev.eq_16, ev_var, ev.eq_2, wipe', List.set, List.getElem?_cons_zero, List.getElem?_cons_succ, List.length_cons, List.foldl, R.bind_ok, i0, i1, q1, q2]
    unfold hitB
    by_cases c1 : p.1 ∈ allC ts <;> by_cases c2 : p.2 ∈ allC us <;> simp [c1, c2, R.bind, q2, i1]
  · simp [W_ok, W_bad, W_bind, W_exs_nil, W_exs_cons, kSeq_nx, kSeq_ret, kSeq_brk, kSeq_cnt, kRet_ret, kRet_nx, wipe', ex.eq_1, ex.eq_2, ex.eq_3, ex.eq_4, ex.eq_5, ex.eq_8, ex.eq_9, ex.eq_10, ex.eq_11, ex.eq_12, ex.eq_16, idxL, ex_for, ex_while, ev.eq_1, ev.eq_2, ev.eq_3, ev.eq_4, ev.eq_5, ev.eq_6, ev.eq_7, ev.eq_8, ev.eq_9, ev.eq_10, ev.eq_11, ev.eq_12, ev.eq_13, ev.eq_14, ev.eq_15, ev.eq_16, ev.eq_17, ev.eq_18, ev.eq_19, ev.eq_20, ev.eq_21, ev.eq_23, ev.eq_24, ev.eq_27, ev.eq_28, ev_comp, ex.eq_17, ex_forT, ev_compD, ex_forD, cmpF0, idxF0, idxD, inD, dctOf, ownDct, setixL, setixD, revF, alterD, pairsD, isKey, lckF, evs, evT, evTs, evTAnd, evTOr, evAnd, evOr, binF, augF, cmpF, isN, bltF, repF, rgF, setMany, mulOk, divOk, optI, seqOf, lstOf, ixN, setixF, mthF, mOk, isStr, itF, itemsOf, srcOk, lim, in_str1, in_tupS, in_lstS, le_one, lt_one, lt_int, le_int, eq_int, eq_str, eq_bl, eq_non, eq_ni, eq_in, eq_ns, eq_sn, add_int, add_str, add_tup, add_lst, add_locL, add_Lloc, add_ll, slc_str, slc_tup, slc_lst, slc_loc, alloc_lst, alloc_dct, len_str, len_tup, len_lst, len_loc, tru_bl, tru_int, tru_non, tru_str, tru_tup, tru_lst, tru_loc, ty_non, ty_bl, ty_int, ty_str, ty_tup, ty_lst, ty_dct, setT_one, setT_many, setT_manyL, pot_at, set_at]
end TK

namespace TK
open PySem PySem.Spec PyProof.Rows L2
/-! ### the text -/
def str0 : List Nat := [97, 98, 99, 100, 101, 102, 103, 104, 105, 106, 107, 108, 109, 110, 111, 112, 113, 114, 115, 116, 117, 118, 119, 120, 121, 122]
def str1 : List Nat := [65, 66, 67, 68, 69, 70, 71, 72, 73, 74, 75, 76, 77, 78, 79, 80, 81, 82, 83, 84, 85, 86, 87, 88, 89, 90]
def j_law_runs (f_law_is_sign : Nat) : FnI := ⟨"_law_runs", 1, ["_law_text", "_law_runs_here", "_law_begin", "_law_end"],
  [.asg (.one 1) (.own (.lst [])), .for_ (.one 2) .range1 [(.blt .len [(.var 0)])] [.if_ (.and_ [(.tru (.call f_law_is_sign [(.idx (.var 0) (.var 2))])), (.or_ [(.cmp .eq (.var 2) (.cst (.int 0))), (.not_ (.tru (.call f_law_is_sign [(.idx (.var 0) (.bin .sub (.var 2) (.cst (.int 1))))])))])]) [.asg (.one 3) (.var 2), .while_ (.and_ [(.cmp .lt (.var 3) (.blt .len [(.var 0)])), (.tru (.call f_law_is_sign [(.idx (.var 0) (.var 3))]))]) [.asg (.one 3) (.bin .add (.var 3) (.cst (.int 1)))], .expr (.mth .append (.var 1) [(.slc (.var 0) [(.var 2)] [(.var 3)])])] []], .ret (.blt .tuple [(.var 1)])]⟩
def i_law_core : FnI := ⟨"_law_core", 1, ["_law_word_here", "_law_core_here", "_law_sign"],
  [.asg (.one 1) (.cst (.str [])), .for_ (.one 2) .val [(.var 0)] [.if_ (.chain .le .le (.cst (.str [65])) (.var 2) (.cst (.str [90]))) [.asg (.one 2) (.idx (.cst (.str str0)) (.mth .sindex (.cst (.str str1)) [(.var 2)]))] [], .asg (.one 1) (.bin .add (.var 1) (.var 2))], .ret (.var 1)]⟩
def i_law_word (f_law_take : Nat) : FnI := ⟨"_law_word", 1, ["_law_pot_here", "_law_words"],
  [.asg (.one 1) (.lst [(.cst (.str [97])), (.cst (.str [98])), (.cst (.str [97, 98])), (.cst (.str [104, 97, 117, 115])), (.cst (.str [104, 111, 117, 115, 101])), (.cst (.str [100, 97, 115])), (.cst (.str [116, 104, 101])), (.cst (.str [49])), (.cst (.str [120, 57])), (.cst (.str [117, 110, 100])), (.cst (.str [97, 110, 100])), (.cst (.str [114, 111, 116])), (.cst (.str [114, 101, 100])), (.cst (.str [122, 122]))]), .ret (.idx (.bin .add (.var 1) (.lst [(.cst (.str [48])), (.cst (.str [99]))])) (.call f_law_take [(.var 0), (.cst (.int 16))]))]⟩
def i_law_said (f_law_take : Nat) (f_law_word : Nat) : FnI := ⟨"_law_said", 1, ["_law_pot_here", "_law_text", "_law_k", "_law_word_here", "_law_at"],
  [.asg (.one 1) (.idx (.lst [(.cst (.str [])), (.cst (.str [32])), (.cst (.str [45]))]) (.call f_law_take [(.var 0), (.cst (.int 3))])), .for_ (.one 2) .range1 [(.call f_law_take [(.var 0), (.cst (.int 8))])] [.asg (.one 3) (.call f_law_word [(.var 0)]), .if_ (.and_ [(.cmp .eq (.call f_law_take [(.var 0), (.cst (.int 3))]) (.cst (.int 0))), (.chain .le .le (.cst (.str [97])) (.idx (.var 3) (.cst (.int 0))) (.cst (.str [122])))]) [.asg (.one 4) (.mth .sindex (.cst (.str str0)) [(.idx (.var 3) (.cst (.int 0)))]), .asg (.one 3) (.bin .add (.idx (.cst (.str str1)) (.var 4)) (.slc (.var 3) [(.cst (.int 1))] []))] [], .asg (.one 1) (.bin .add (.bin .add (.var 1) (.var 3)) (.idx (.lst [(.cst (.str [32])), (.cst (.str [44, 32])), (.cst (.str [10])), (.cst (.str [45])), (.cst (.str [46]))]) (.call f_law_take [(.var 0), (.cst (.int 5))])))], .ret (.var 1)]⟩
def i_law_texts (f_law_take : Nat) (f_law_said : Nat) : FnI := ⟨"_law_texts", 1, ["_law_pot_here", "_law_k"],
  [.ret (.blt .tuple [(.comp [1] (.call f_law_said [(.var 0)]) (.one 1) .range1 [(.call f_law_take [(.var 0), (.idx (.lst [(.cst (.int 4)), (.cst (.int 4)), (.cst (.int 4)), (.cst (.int 25))]) (.call f_law_take [(.var 0), (.cst (.int 4))]))])] [])])]⟩
def i_law_cores (f_law_runs : Nat) (f_law_core : Nat) : FnI := ⟨"_law_cores", 1, ["_law_texts_here", "_law_cores_here", "_law_text", "_law_word_here"],
  [.asg (.one 1) (.lst []), .for_ (.one 2) .val [(.var 0)] [.asg (.one 1) (.bin .add (.var 1) (.comp [3] (.call f_law_core [(.var 3)]) (.one 3) .val [(.call f_law_runs [(.var 2)])] []))], .ret (.var 1)]⟩
def i_law (f_law_seed : Nat) (f_law_pot : Nat) (f_law_texts : Nat) (f_law_take : Nat) (f_law_word : Nat) (f_law_cores : Nat) (f_law_same : Nat) (f_hits : Nat) : FnI := ⟨"law", 1, ["_law_script", "_law_seed_here", "_law_k", "_law_cell", "_law_pot_here", "_law_j", "_law_there", "_law_turn", "_law_less", "_law_ones", "_law_others", "_law_pairs", "_law_left", "_law_right", "_law_pair"],
  [.asg (.one 1) (.call f_law_seed [(.var 0)]), .for_ (.many [2, 3]) .enum [(.bin .add (.lst [(.cst (.int 3)), (.cst (.int 4))]) (.slc (.var 0) [] [(.cst (.int 61))]))] [.asg (.one 4) (.call f_law_pot [(.var 3), (.bin .add (.var 1) (.bin .mul (.cst (.int 31)) (.var 2)))]), .asg (.many [9, 10, 11]) (.tup [(.call f_law_texts [(.var 4)]), (.call f_law_texts [(.var 4)]), .ownT]), .for_ (.one 5) .range1 [(.call f_law_take [(.var 4), (.idx (.lst [(.cst (.int 13)), (.cst (.int 13)), (.cst (.int 13)), (.cst (.int 61))]) (.call f_law_take [(.var 4), (.cst (.int 4))]))])] [.setT (.var 11) [(.call f_law_word [(.var 4)]), (.call f_law_word [(.var 4)])] (.cst (.bl true))], .asg (.many [12, 13]) (.tup [(.call f_law_cores [(.var 9)]), (.call f_law_cores [(.var 10)])]), .asg (.one 6) (.compD [14] (.var 14) (.one 14) 11 [(.and_ [(.cmp .in_ (.idx (.var 14) (.cst (.int 0))) (.var 12)), (.cmp .in_ (.idx (.var 14) (.cst (.int 1))) (.var 13))])]), .for_ (.one 7) .range1 [(.cst (.int 2))] [.if_ (.not_ (.tru (.call f_law_same [(.call f_hits [(.var 9), (.var 10), (.blt .tuple [(.blt .listD [(.var 11)])])]), (.blt .len [(.var 6)])]))) [.ret (.cst (.bl false))] []], .asg (.one 8) (.blt .tuple [(.compD [14] (.var 14) (.one 14) 11 [(.cmp .notIn (.var 14) (.slc (.var 6) [] [(.cst (.int 1))]))])]), .if_ (.or_ [(.not_ (.tru (.call f_law_same [(.call f_hits [(.var 9), (.var 10), (.var 8)]), (.bin .sub (.blt .len [(.var 6)]) (.blt .len [(.slc (.var 6) [] [(.cst (.int 1))])]))]))), (.cmp .ne (.call f_hits [(.var 9), (.var 10), (.tup [])]) (.cst (.int 0)))]) [.ret (.cst (.bl false))] []], .ret (.cst (.bl true))]⟩
def fsL : List (FnI × Bool) := [((i_words_of 0 1 2), false), ((i_cores_of 0), true), ((i_cores_in 1), false), ((i_hits 2), true), (i_law_pot, true), (i_law_take, true), (i_law_seed, true), ((i_law_same 7), true), (i_law_is_sign, true), ((j_law_runs 8), false), (i_law_core, true), ((i_law_word 5), true), ((i_law_said 5 11), true), ((i_law_texts 5 12), true), ((i_law_cores 9 10), true), ((i_law 6 4 13 5 11 14 7 3), true)]
def gsL : List (Str × D) := [("SMALL", .str str0), ("GREAT", .str str1), ("FIGURES", .str [48, 49, 50, 51, 52, 53, 54, 55, 56, 57])]
noncomputable def Γat (L : Nat) : Ctx := ⟨semF fsL (glOf gsL) 100000000000 L, glOf gsL, 100000000000⟩
theorem Γ_fn (L : Nat) : (Γat L).fn = semF fsL (glOf gsL) 100000000000 L := rfl
theorem Γ_gl (L : Nat) : (Γat L).gl = glOf gsL := rfl
theorem fn_raw (L i : Nat) (fi : FnI) (h : fsL[i]? = some (fi, true)) : (Γat (L + 1)).fn i = run (Γat L) fi := sem_raw h
theorem fn_tidy (L i : Nat) (fi : FnI) (h : fsL[i]? = some (fi, false)) (ds : List D) (S : St') : (Γat (L + 1)).fn i ds S = (run (Γat L) fi ds S).bind fun x => .ok (tidy S x) := sem_tidy h ds S
theorem same_raw (i : Nat) (h : fsL[i]? = some (i_law_same i, true)) (L : Nat) : SameOk L ((Γat L).fn i) := same_sem h L
def CoreOk (F : FnD) : Prop := ∀ w S, w.length ≤ 1000 → F [.str w] S = .ok (.str (w.map lo1), S)
theorem up_lo (S : St') (c : Nat) (h1 : 65 ≤ c) (h2 : c ≤ 90) : c ∈ str1 ∧ str0[str1.idxOf c]? = some (lo1 c) := by
  have : ∀ j : Fin 26, (65 + j.val) ∈ str1 ∧ str0[str1.idxOf (65 + j.val)]? = some (lo1 (65 + j.val)) := by decide
  have := this ⟨c - 65, by omega⟩
  rwa [show 65 + (c - 65) = c by omega] at this
theorem lo_up (S : St') (c : Nat) (h1 : 97 ≤ c) (h2 : c ≤ 122) : c ∈ str0 ∧ ∃ d, str1[str0.idxOf c]? = some d := by
  have : ∀ j : Fin 26, (97 + j.val) ∈ str0 ∧ (str1[str0.idxOf (97 + j.val)]?).isSome = true := by decide
  have := this ⟨c - 97, by omega⟩
  rw [show 97 + (c - 97) = c by omega] at this
  exact ⟨this.1, Option.isSome_iff_exists.mp this.2⟩
theorem coreOk (Γ : Ctx) : CoreOk (run Γ i_law_core) := by
  intro w S hw
  refine W_eq (W_run rfl ?_)
  simp [i_law_core, W_ok, W_bad, W_bind, W_exs_nil, W_exs_cons, kSeq_nx, kSeq_ret, kSeq_brk, kSeq_cnt, kRet_ret, kRet_nx, wipe', ex.eq_1, ex.eq_2, ex.eq_3, ex.eq_4, ex.eq_5, ex.eq_8, ex.eq_9, ex.eq_10, ex.eq_11, ex.eq_12, ex.eq_16, idxL, ex_for, ex_while, ev.eq_1, ev.eq_2, ev.eq_3, ev.eq_4, ev.eq_5, ev.eq_6, ev.eq_7, ev.eq_8, ev.eq_9, ev.eq_10, ev.eq_11, ev.eq_12, ev.eq_13, ev.eq_14, ev.eq_15, ev.eq_16, ev.eq_17, ev.eq_18, ev.eq_19, ev.eq_20, ev.eq_21, ev.eq_23, ev.eq_24, ev.eq_27, ev.eq_28, ev_comp, ex.eq_17, ex_forT, ev_compD, ex_forD, cmpF0, idxF0, idxD, inD, dctOf, ownDct, setixL, setixD, revF, alterD, pairsD, isKey, lckF, evs, evT, evTs, evTAnd, evTOr, evAnd, evOr, binF, augF, cmpF, isN, bltF, repF, rgF, setMany, mulOk, divOk, optI, seqOf, lstOf, ixN, setixF, mthF, mOk, isStr, itF, itemsOf, srcOk, lim, in_str1, in_tupS, in_lstS, le_one, lt_one, lt_int, le_int, eq_int, eq_str, eq_bl, eq_non, eq_ni, eq_in, eq_ns, eq_sn, add_int, add_str, add_tup, add_lst, add_locL, add_Lloc, add_ll, slc_str, slc_tup, slc_lst, slc_loc, alloc_lst, alloc_dct, len_str, len_tup, len_lst, len_loc, tru_bl, tru_int, tru_non, tru_str, tru_tup, tru_lst, tru_loc, ty_non, ty_bl, ty_int, ty_str, ty_tup, ty_lst, ty_dct, setT_one, setT_many, setT_manyL, pot_at, set_at, signs]
  refine W_for_map (fun c : Nat => D.str [c]) (fun ys env S' => S' = S ∧ ∃ (pre : List Nat) (o : Option D), w = pre ++ ys ∧ env = [some (.str w), some (.str (pre.map lo1)), o]) ?_ ?_ w ⟨rfl, [], none, rfl, rfl⟩
  · rintro c ys env S' ⟨rfl, pre, o, hp, rfl⟩
    refine ⟨trivial, ?_⟩
    have hl : pre.length + 1 ≤ 16777216 := by
      have := congrArg List.length hp
      simp at this; omega
    by_cases h1 : 65 ≤ c <;> by_cases h2 : c ≤ 90
    · obtain ⟨m1, m2⟩ := up_lo S' c h1 h2
      have hix := ix_str (S := S') (x := str0) (by decide) m2
      simp [turnB_eq, W_ok, W_bad, W_bind, W_exs_nil, W_exs_cons, kSeq_nx, kSeq_ret, kSeq_brk, kSeq_cnt, kRet_ret, kRet_nx, wipe', ex.eq_1, ex.eq_2, ex.eq_3, ex.eq_4, ex.eq_5, ex.eq_8, ex.eq_9, ex.eq_10, ex.eq_11, ex.eq_12, ex.eq_16, idxL, ex_for, ex_while, ev.eq_1, ev.eq_2, ev.eq_3, ev.eq_4, ev.eq_5, ev.eq_6, ev.eq_7, ev.eq_8, ev.eq_9, ev.eq_10, ev.eq_11, ev.eq_12, ev.eq_13, ev.eq_14, ev.eq_15, ev.eq_16, ev.eq_17, ev.eq_18, ev.eq_19, ev.eq_20, ev.eq_21, ev.eq_23, ev.eq_24, ev.eq_27, ev.eq_28, ev_comp, ex.eq_17, ex_forT, ev_compD, ex_forD, cmpF0, idxF0, idxD, inD, dctOf, ownDct, setixL, setixD, revF, alterD, pairsD, isKey, lckF, evs, evT, evTs, evTAnd, evTOr, evAnd, evOr, binF, augF, cmpF, isN, bltF, repF, rgF, setMany, mulOk, divOk, optI, seqOf, lstOf, ixN, setixF, mthF, mOk, isStr, itF, itemsOf, srcOk, lim, in_str1, in_tupS, in_lstS, le_one, lt_one, lt_int, le_int, eq_int, eq_str, eq_bl, eq_non, eq_ni, eq_in, eq_ns, eq_sn, add_int, add_str, add_tup, add_lst, add_locL, add_Lloc, add_ll, slc_str, slc_tup, slc_lst, slc_loc, alloc_lst, alloc_dct, len_str, len_tup, len_lst, len_loc, tru_bl, tru_int, tru_non, tru_str, tru_tup, tru_lst, tru_loc, ty_non, ty_bl, ty_int, ty_str, ty_tup, ty_lst, ty_dct, setT_one, setT_many, setT_manyL, pot_at, set_at, h1, h2, m1, hix, hl]
      exact ⟨pre ++ [c], by simp [hp], by simp⟩
    · have e : lo1 c = c := by unfold lo1; rw [if_neg (by omega)]
      simp [turnB_eq, W_ok, W_bad, W_bind, W_exs_nil, W_exs_cons, kSeq_nx, kSeq_ret, kSeq_brk, kSeq_cnt, kRet_ret, kRet_nx, wipe', ex.eq_1, ex.eq_2, ex.eq_3, ex.eq_4, ex.eq_5, ex.eq_8, ex.eq_9, ex.eq_10, ex.eq_11, ex.eq_12, ex.eq_16, idxL, ex_for, ex_while, ev.eq_1, ev.eq_2, ev.eq_3, ev.eq_4, ev.eq_5, ev.eq_6, ev.eq_7, ev.eq_8, ev.eq_9, ev.eq_10, ev.eq_11, ev.eq_12, ev.eq_13, ev.eq_14, ev.eq_15, ev.eq_16, ev.eq_17, ev.eq_18, ev.eq_19, ev.eq_20, ev.eq_21, ev.eq_23, ev.eq_24, ev.eq_27, ev.eq_28, ev_comp, ex.eq_17, ex_forT, ev_compD, ex_forD, cmpF0, idxF0, idxD, inD, dctOf, ownDct, setixL, setixD, revF, alterD, pairsD, isKey, lckF, evs, evT, evTs, evTAnd, evTOr, evAnd, evOr, binF, augF, cmpF, isN, bltF, repF, rgF, setMany, mulOk, divOk, optI, seqOf, lstOf, ixN, setixF, mthF, mOk, isStr, itF, itemsOf, srcOk, lim, in_str1, in_tupS, in_lstS, le_one, lt_one, lt_int, le_int, eq_int, eq_str, eq_bl, eq_non, eq_ni, eq_in, eq_ns, eq_sn, add_int, add_str, add_tup, add_lst, add_locL, add_Lloc, add_ll, slc_str, slc_tup, slc_lst, slc_loc, alloc_lst, alloc_dct, len_str, len_tup, len_lst, len_loc, tru_bl, tru_int, tru_non, tru_str, tru_tup, tru_lst, tru_loc, ty_non, ty_bl, ty_int, ty_str, ty_tup, ty_lst, ty_dct, setT_one, setT_many, setT_manyL, pot_at, set_at, h1, h2, hl]
      exact ⟨pre ++ [c], by simp [hp], by simp [e]⟩
    · have e : lo1 c = c := by unfold lo1; rw [if_neg (by omega)]
      simp [turnB_eq, W_ok, W_bad, W_bind, W_exs_nil, W_exs_cons, kSeq_nx, kSeq_ret, kSeq_brk, kSeq_cnt, kRet_ret, kRet_nx, wipe', ex.eq_1, ex.eq_2, ex.eq_3, ex.eq_4, ex.eq_5, ex.eq_8, ex.eq_9, ex.eq_10, ex.eq_11, ex.eq_12, ex.eq_16, idxL, ex_for, ex_while, ev.eq_1, ev.eq_2, ev.eq_3, ev.eq_4, ev.eq_5, ev.eq_6, ev.eq_7, ev.eq_8, ev.eq_9, ev.eq_10, ev.eq_11, ev.eq_12, ev.eq_13, ev.eq_14, ev.eq_15, ev.eq_16, ev.eq_17, ev.eq_18, ev.eq_19, ev.eq_20, ev.eq_21, ev.eq_23, ev.eq_24, ev.eq_27, ev.eq_28, ev_comp, ex.eq_17, ex_forT, ev_compD, ex_forD, cmpF0, idxF0, idxD, inD, dctOf, ownDct, setixL, setixD, revF, alterD, pairsD, isKey, lckF, evs, evT, evTs, evTAnd, evTOr, evAnd, evOr, binF, augF, cmpF, isN, bltF, repF, rgF, setMany, mulOk, divOk, optI, seqOf, lstOf, ixN, setixF, mthF, mOk, isStr, itF, itemsOf, srcOk, lim, in_str1, in_tupS, in_lstS, le_one, lt_one, lt_int, le_int, eq_int, eq_str, eq_bl, eq_non, eq_ni, eq_in, eq_ns, eq_sn, add_int, add_str, add_tup, add_lst, add_locL, add_Lloc, add_ll, slc_str, slc_tup, slc_lst, slc_loc, alloc_lst, alloc_dct, len_str, len_tup, len_lst, len_loc, tru_bl, tru_int, tru_non, tru_str, tru_tup, tru_lst, tru_loc, ty_non, ty_bl, ty_int, ty_str, ty_tup, ty_lst, ty_dct, setT_one, setT_many, setT_manyL, pot_at, set_at, h1, h2, hl]
      exact ⟨pre ++ [c], by simp [hp], by simp [e]⟩
    · omega
  · rintro env S' ⟨rfl, pre, o, hp, rfl⟩
    refine ⟨trivial, ?_⟩
    have : w = pre := by simpa using hp
    simp [W_ok, W_bad, W_bind, W_exs_nil, W_exs_cons, kSeq_nx, kSeq_ret, kSeq_brk, kSeq_cnt, kRet_ret, kRet_nx, wipe', ex.eq_1, ex.eq_2, ex.eq_3, ex.eq_4, ex.eq_5, ex.eq_8, ex.eq_9, ex.eq_10, ex.eq_11, ex.eq_12, ex.eq_16, idxL, ex_for, ex_while, ev.eq_1, ev.eq_2, ev.eq_3, ev.eq_4, ev.eq_5, ev.eq_6, ev.eq_7, ev.eq_8, ev.eq_9, ev.eq_10, ev.eq_11, ev.eq_12, ev.eq_13, ev.eq_14, ev.eq_15, ev.eq_16, ev.eq_17, ev.eq_18, ev.eq_19, ev.eq_20, ev.eq_21, ev.eq_23, ev.eq_24, ev.eq_27, ev.eq_28, ev_comp, ex.eq_17, ex_forT, ev_compD, ex_forD, cmpF0, idxF0, idxD, inD, dctOf, ownDct, setixL, setixD, revF, alterD, pairsD, isKey, lckF, evs, evT, evTs, evTAnd, evTOr, evAnd, evOr, binF, augF, cmpF, isN, bltF, repF, rgF, setMany, mulOk, divOk, optI, seqOf, lstOf, ixN, setixF, mthF, mOk, isStr, itF, itemsOf, srcOk, lim, in_str1, in_tupS, in_lstS, le_one, lt_one, lt_int, le_int, eq_int, eq_str, eq_bl, eq_non, eq_ni, eq_in, eq_ns, eq_sn, add_int, add_str, add_tup, add_lst, add_locL, add_Lloc, add_ll, slc_str, slc_tup, slc_lst, slc_loc, alloc_lst, alloc_dct, len_str, len_tup, len_lst, len_loc, tru_bl, tru_int, tru_non, tru_str, tru_tup, tru_lst, tru_loc, ty_non, ty_bl, ty_int, ty_str, ty_tup, ty_lst, ty_dct, setT_one, setT_many, setT_manyL, pot_at, set_at, this]
def GoodW (d : D) : Prop := ∃ x ∈ wds, d = .str x
theorem wordOk (Γ : Ctx) (f : Nat) (hT : TakeOk (Γ.fn f)) : DrawOk (run Γ (i_law_word f)) GoodW := by
  intro p S Q hp k
  refine W_run rfl ?_
  simp [i_law_word, W_ok, W_bad, W_bind, W_exs_nil, W_exs_cons, kSeq_nx, kSeq_ret, kSeq_brk, kSeq_cnt, kRet_ret, kRet_nx, wipe', ex.eq_1, ex.eq_2, ex.eq_3, ex.eq_4, ex.eq_5, ex.eq_8, ex.eq_9, ex.eq_10, ex.eq_11, ex.eq_12, ex.eq_16, idxL, ex_for, ex_while, ev.eq_1, ev.eq_2, ev.eq_3, ev.eq_4, ev.eq_5, ev.eq_6, ev.eq_7, ev.eq_8, ev.eq_9, ev.eq_10, ev.eq_11, ev.eq_12, ev.eq_13, ev.eq_14, ev.eq_15, ev.eq_16, ev.eq_17, ev.eq_18, ev.eq_19, ev.eq_20, ev.eq_21, ev.eq_23, ev.eq_24, ev.eq_27, ev.eq_28, ev_comp, ex.eq_17, ex_forT, ev_compD, ex_forD, cmpF0, idxF0, idxD, inD, dctOf, ownDct, setixL, setixD, revF, alterD, pairsD, isKey, lckF, evs, evT, evTs, evTAnd, evTOr, evAnd, evOr, binF, augF, cmpF, isN, bltF, repF, rgF, setMany, mulOk, divOk, optI, seqOf, lstOf, ixN, setixF, mthF, mOk, isStr, itF, itemsOf, srcOk, lim, in_str1, in_tupS, in_lstS, le_one, lt_one, lt_int, le_int, eq_int, eq_str, eq_bl, eq_non, eq_ni, eq_in, eq_ns, eq_sn, add_int, add_str, add_tup, add_lst, add_locL, add_Lloc, add_ll, slc_str, slc_tup, slc_lst, slc_loc, alloc_lst, alloc_dct, len_str, len_tup, len_lst, len_loc, tru_bl, tru_int, tru_non, tru_str, tru_tup, tru_lst, tru_loc, ty_non, ty_bl, ty_int, ty_str, ty_tup, ty_lst, ty_dct, setT_one, setT_many, setT_manyL, pot_at, set_at]
  refine W_take hT hp (by decide) (by decide) fun i S1 hi g1 p1 => ?_
  simp [W_ok, W_bad, W_bind, W_exs_nil, W_exs_cons, kSeq_nx, kSeq_ret, kSeq_brk, kSeq_cnt, kRet_ret, kRet_nx, wipe', ex.eq_1, ex.eq_2, ex.eq_3, ex.eq_4, ex.eq_5, ex.eq_8, ex.eq_9, ex.eq_10, ex.eq_11, ex.eq_12, ex.eq_16, idxL, ex_for, ex_while, ev.eq_1, ev.eq_2, ev.eq_3, ev.eq_4, ev.eq_5, ev.eq_6, ev.eq_7, ev.eq_8, ev.eq_9, ev.eq_10, ev.eq_11, ev.eq_12, ev.eq_13, ev.eq_14, ev.eq_15, ev.eq_16, ev.eq_17, ev.eq_18, ev.eq_19, ev.eq_20, ev.eq_21, ev.eq_23, ev.eq_24, ev.eq_27, ev.eq_28, ev_comp, ex.eq_17, ex_forT, ev_compD, ex_forD, cmpF0, idxF0, idxD, inD, dctOf, ownDct, setixL, setixD, revF, alterD, pairsD, isKey, lckF, evs, evT, evTs, evTAnd, evTOr, evAnd, evOr, binF, augF, cmpF, isN, bltF, repF, rgF, setMany, mulOk, divOk, optI, seqOf, lstOf, ixN, setixF, mthF, mOk, isStr, itF, itemsOf, srcOk, lim, in_str1, in_tupS, in_lstS, le_one, lt_one, lt_int, le_int, eq_int, eq_str, eq_bl, eq_non, eq_ni, eq_in, eq_ns, eq_sn, add_int, add_str, add_tup, add_lst, add_locL, add_Lloc, add_ll, slc_str, slc_tup, slc_lst, slc_loc, alloc_lst, alloc_dct, len_str, len_tup, len_lst, len_loc, tru_bl, tru_int, tru_non, tru_str, tru_tup, tru_lst, tru_loc, ty_non, ty_bl, ty_int, ty_str, ty_tup, ty_lst, ty_dct, setT_one, setT_many, setT_manyL, pot_at, set_at]
  refine W_ixL (by simp; omega) fun d hd => ?_
  have : ∃ x ∈ wds, d = .str x := by
    simp only [List.mem_cons, List.not_mem_nil, or_false] at hd
    rcases hd with rfl | rfl | rfl | rfl | rfl | rfl | rfl | rfl | rfl | rfl | rfl | rfl | rfl | rfl | rfl | rfl <;> exact ⟨_, by decide, rfl⟩
  exact k _ _ this g1 p1
def GoodS (n : Nat) (d : D) : Prop := ∃ x : List Nat, d = .str x ∧ x.length ≤ n
theorem ix_one {S : St'} {x : List Nat} (hx : x ∈ wds) : ∃ c r, x = c :: r ∧ idxF S (.str x) (.int 0) = .ok (.str [c]) := by
  obtain ⟨h1, h2, _⟩ := wds_ok x hx
  cases x with
  | nil => simp at h2
  | cons c r => exact ⟨c, r, rfl, ix_str (i := 0) (by show (c :: r).length ≤ 16777216; omega) rfl⟩
theorem saidOk (Γ : Ctx) (f g : Nat) (hT : TakeOk (Γ.fn f)) (hW : DrawOk (Γ.fn g) GoodW) : DrawOk (run Γ (i_law_said f g)) (GoodS 100) := by
  intro p S Q hp k
  refine W_run rfl ?_
  simp [i_law_said, W_ok, W_bad, W_bind, W_exs_nil, W_exs_cons, kSeq_nx, kSeq_ret, kSeq_brk, kSeq_cnt, kRet_ret, kRet_nx, wipe', ex.eq_1, ex.eq_2, ex.eq_3, ex.eq_4, ex.eq_5, ex.eq_8, ex.eq_9, ex.eq_10, ex.eq_11, ex.eq_12, ex.eq_16, idxL, ex_for, ex_while, ev.eq_1, ev.eq_2, ev.eq_3, ev.eq_4, ev.eq_5, ev.eq_6, ev.eq_7, ev.eq_8, ev.eq_9, ev.eq_10, ev.eq_11, ev.eq_12, ev.eq_13, ev.eq_14, ev.eq_15, ev.eq_16, ev.eq_17, ev.eq_18, ev.eq_19, ev.eq_20, ev.eq_21, ev.eq_23, ev.eq_24, ev.eq_27, ev.eq_28, ev_comp, ex.eq_17, ex_forT, ev_compD, ex_forD, cmpF0, idxF0, idxD, inD, dctOf, ownDct, setixL, setixD, revF, alterD, pairsD, isKey, lckF, evs, evT, evTs, evTAnd, evTOr, evAnd, evOr, binF, augF, cmpF, isN, bltF, repF, rgF, setMany, mulOk, divOk, optI, seqOf, lstOf, ixN, setixF, mthF, mOk, isStr, itemsOf, srcOk, lim, in_str1, in_tupS, in_lstS, le_one, lt_one, lt_int, le_int, eq_int, eq_str, eq_bl, eq_non, eq_ni, eq_in, eq_ns, eq_sn, add_int, add_str, add_tup, add_lst, add_locL, add_Lloc, add_ll, slc_str, slc_tup, slc_lst, slc_loc, alloc_lst, alloc_dct, len_str, len_tup, len_lst, len_loc, tru_bl, tru_int, tru_non, tru_str, tru_tup, tru_lst, tru_loc, ty_non, ty_bl, ty_int, ty_str, ty_tup, ty_lst, ty_dct, setT_one, setT_many, setT_manyL, pot_at, set_at]
  refine W_take hT hp (by decide) (by decide) fun i S1 hi g1 p1 => ?_
  simp [W_ok, W_bad, W_bind, W_exs_nil, W_exs_cons, kSeq_nx, kSeq_ret, kSeq_brk, kSeq_cnt, kRet_ret, kRet_nx, wipe', ex.eq_1, ex.eq_2, ex.eq_3, ex.eq_4, ex.eq_5, ex.eq_8, ex.eq_9, ex.eq_10, ex.eq_11, ex.eq_12, ex.eq_16, idxL, ex_for, ex_while, ev.eq_1, ev.eq_2, ev.eq_3, ev.eq_4, ev.eq_5, ev.eq_6, ev.eq_7, ev.eq_8, ev.eq_9, ev.eq_10, ev.eq_11, ev.eq_12, ev.eq_13, ev.eq_14, ev.eq_15, ev.eq_16, ev.eq_17, ev.eq_18, ev.eq_19, ev.eq_20, ev.eq_21, ev.eq_23, ev.eq_24, ev.eq_27, ev.eq_28, ev_comp, ex.eq_17, ex_forT, ev_compD, ex_forD, cmpF0, idxF0, idxD, inD, dctOf, ownDct, setixL, setixD, revF, alterD, pairsD, isKey, lckF, evs, evT, evTs, evTAnd, evTOr, evAnd, evOr, binF, augF, cmpF, isN, bltF, repF, rgF, setMany, mulOk, divOk, optI, seqOf, lstOf, ixN, setixF, mthF, mOk, isStr, itemsOf, srcOk, lim, in_str1, in_tupS, in_lstS, le_one, lt_one, lt_int, le_int, eq_int, eq_str, eq_bl, eq_non, eq_ni, eq_in, eq_ns, eq_sn, add_int, add_str, add_tup, add_lst, add_locL, add_Lloc, add_ll, slc_str, slc_tup, slc_lst, slc_loc, alloc_lst, alloc_dct, len_str, len_tup, len_lst, len_loc, tru_bl, tru_int, tru_non, tru_str, tru_tup, tru_lst, tru_loc, ty_non, ty_bl, ty_int, ty_str, ty_tup, ty_lst, ty_dct, setT_one, setT_many, setT_manyL, pot_at, set_at]
  refine W_ixL (by simp; omega) fun d hd => ?_
  obtain ⟨x0, rfl, hx0⟩ : ∃ x : List Nat, d = .str x ∧ x.length ≤ 1 := by
    simp only [List.mem_cons, List.not_mem_nil, or_false] at hd
    rcases hd with rfl | rfl | rfl <;> exact ⟨_, rfl, by decide⟩
  refine W_take hT p1 (by decide) (by decide) fun n S2 hn g2 p2 => ?_
  simp [W_ok, W_bad, W_bind, W_exs_nil, W_exs_cons, kSeq_nx, kSeq_ret, kSeq_brk, kSeq_cnt, kRet_ret, kRet_nx, wipe', ex.eq_1, ex.eq_2, ex.eq_3, ex.eq_4, ex.eq_5, ex.eq_8, ex.eq_9, ex.eq_10, ex.eq_11, ex.eq_12, ex.eq_16, idxL, ex_for, ex_while, ev.eq_1, ev.eq_2, ev.eq_3, ev.eq_4, ev.eq_5, ev.eq_6, ev.eq_7, ev.eq_8, ev.eq_9, ev.eq_10, ev.eq_11, ev.eq_12, ev.eq_13, ev.eq_14, ev.eq_15, ev.eq_16, ev.eq_17, ev.eq_18, ev.eq_19, ev.eq_20, ev.eq_21, ev.eq_23, ev.eq_24, ev.eq_27, ev.eq_28, ev_comp, ex.eq_17, ex_forT, ev_compD, ex_forD, cmpF0, idxF0, idxD, inD, dctOf, ownDct, setixL, setixD, revF, alterD, pairsD, isKey, lckF, evs, evT, evTs, evTAnd, evTOr, evAnd, evOr, binF, augF, cmpF, isN, bltF, repF, rgF, setMany, mulOk, divOk, optI, seqOf, lstOf, ixN, setixF, mthF, mOk, isStr, itemsOf, srcOk, lim, in_str1, in_tupS, in_lstS, le_one, lt_one, lt_int, le_int, eq_int, eq_str, eq_bl, eq_non, eq_ni, eq_in, eq_ns, eq_sn, add_int, add_str, add_tup, add_lst, add_locL, add_Lloc, add_ll, slc_str, slc_tup, slc_lst, slc_loc, alloc_lst, alloc_dct, len_str, len_tup, len_lst, len_loc, tru_bl, tru_int, tru_non, tru_str, tru_tup, tru_lst, tru_loc, ty_non, ty_bl, ty_int, ty_str, ty_tup, ty_lst, ty_dct, setT_one, setT_many, setT_manyL, pot_at, set_at]
  rw [it_range1 n (by omega), W_ok]
  refine W_range n (fun j env S' => PotS p S S' ∧ ∃ (x : List Nat) (o2 o3 o4 : Option D), x.length ≤ 1 + 8 * j ∧ env = [some (.loc p), some (.str x), o2, o3, o4]) ?_ ?_ ⟨g1.trans g2, x0, _, _, _, by omega, rfl⟩
  · rintro j env S' hj ⟨hS, x, o2, o3, o4, hx, rfl⟩
    refine ⟨trivial, ?_⟩
    have hj8 : j < 8 := by omega
    simp [turnB_eq, W_ok, W_bad, W_bind, W_exs_nil, W_exs_cons, kSeq_nx, kSeq_ret, kSeq_brk, kSeq_cnt, kRet_ret, kRet_nx, wipe', ex.eq_1, ex.eq_2, ex.eq_3, ex.eq_4, ex.eq_5, ex.eq_8, ex.eq_9, ex.eq_10, ex.eq_11, ex.eq_12, ex.eq_16, idxL, ex_for, ex_while, ev.eq_1, ev.eq_2, ev.eq_3, ev.eq_4, ev.eq_5, ev.eq_6, ev.eq_7, ev.eq_8, ev.eq_9, ev.eq_10, ev.eq_11, ev.eq_12, ev.eq_13, ev.eq_14, ev.eq_15, ev.eq_16, ev.eq_17, ev.eq_18, ev.eq_19, ev.eq_20, ev.eq_21, ev.eq_23, ev.eq_24, ev.eq_27, ev.eq_28, ev_comp, ex.eq_17, ex_forT, ev_compD, ex_forD, cmpF0, idxF0, idxD, inD, dctOf, ownDct, setixL, setixD, revF, alterD, pairsD, isKey, lckF, evs, evT, evTs, evTAnd, evTOr, evAnd, evOr, binF, augF, cmpF, isN, bltF, repF, rgF, setMany, mulOk, divOk, optI, seqOf, lstOf, ixN, setixF, mthF, mOk, isStr, itemsOf, srcOk, lim, in_str1, in_tupS, in_lstS, le_one, lt_one, lt_int, le_int, eq_int, eq_str, eq_bl, eq_non, eq_ni, eq_in, eq_ns, eq_sn, add_int, add_str, add_tup, add_lst, add_locL, add_Lloc, add_ll, slc_str, slc_tup, slc_lst, slc_loc, alloc_lst, alloc_dct, len_str, len_tup, len_lst, len_loc, tru_bl, tru_int, tru_non, tru_str, tru_tup, tru_lst, tru_loc, ty_non, ty_bl, ty_int, ty_str, ty_tup, ty_lst, ty_dct, setT_one, setT_many, setT_manyL, pot_at, set_at]
    refine hW _ _ _ (hS.pot hp) ?_
    rintro d S3 ⟨w, hw, rfl⟩ g3 p3
    obtain ⟨w1, w2, w3⟩ := wds_ok w hw
    simp [W_ok, W_bad, W_bind, W_exs_nil, W_exs_cons, kSeq_nx, kSeq_ret, kSeq_brk, kSeq_cnt, kRet_ret, kRet_nx, wipe', ex.eq_1, ex.eq_2, ex.eq_3, ex.eq_4, ex.eq_5, ex.eq_8, ex.eq_9, ex.eq_10, ex.eq_11, ex.eq_12, ex.eq_16, idxL, ex_for, ex_while, ev.eq_1, ev.eq_2, ev.eq_3, ev.eq_4, ev.eq_5, ev.eq_6, ev.eq_7, ev.eq_8, ev.eq_9, ev.eq_10, ev.eq_11, ev.eq_12, ev.eq_13, ev.eq_14, ev.eq_15, ev.eq_16, ev.eq_17, ev.eq_18, ev.eq_19, ev.eq_20, ev.eq_21, ev.eq_23, ev.eq_24, ev.eq_27, ev.eq_28, ev_comp, ex.eq_17, ex_forT, ev_compD, ex_forD, cmpF0, idxF0, idxD, inD, dctOf, ownDct, setixL, setixD, revF, alterD, pairsD, isKey, lckF, evs, evT, evTs, evTAnd, evTOr, evAnd, evOr, binF, augF, cmpF, isN, bltF, repF, rgF, setMany, mulOk, divOk, optI, seqOf, lstOf, ixN, setixF, mthF, mOk, isStr, itemsOf, srcOk, lim, in_str1, in_tupS, in_lstS, le_one, lt_one, lt_int, le_int, eq_int, eq_str, eq_bl, eq_non, eq_ni, eq_in, eq_ns, eq_sn, add_int, add_str, add_tup, add_lst, add_locL, add_Lloc, add_ll, slc_str, slc_tup, slc_lst, slc_loc, alloc_lst, alloc_dct, len_str, len_tup, len_lst, len_loc, tru_bl, tru_int, tru_non, tru_str, tru_tup, tru_lst, tru_loc, ty_non, ty_bl, ty_int, ty_str, ty_tup, ty_lst, ty_dct, setT_one, setT_many, setT_manyL, pot_at, set_at]
    refine W_take hT p3 (by decide) (by decide) fun i4 S4 hi4 g4 p4 => ?_
    obtain ⟨c, r, rfl, hc⟩ := ix_one (S := S4) hw
    simp at w1
    have tail : ∀ (y : List Nat) (o4 : Option D), y.length ≤ 6 → W (exs Γ [.asg (.one 1) (.bin .add (.bin .add (.var 1) (.var 3)) (.idx (.lst [(.cst (.str [32])), (.cst (.str [44, 32])), (.cst (.str [10])), (.cst (.str [45])), (.cst (.str [46]))]) (.call f [(.var 0), (.cst (.int 5))])))] [some (.loc p), some (.str x), some (.int (j : Int)), some (.str y), o4] S4) (fun r => match r.1 with
        | .nx => PotS p S r.2.2 ∧ ∃ (x : List Nat) (o2 o3 o4 : Option D), x.length ≤ 1 + 8 * (j + 1) ∧ r.2.1 = [some (.loc p), some (.str x), o2, o3, o4]
        | _ => False) := by
      intro y o4 hy
      simp [W_ok, W_bad, W_bind, W_exs_nil, W_exs_cons, kSeq_nx, kSeq_ret, kSeq_brk, kSeq_cnt, kRet_ret, kRet_nx, wipe', ex.eq_1, ex.eq_2, ex.eq_3, ex.eq_4, ex.eq_5, ex.eq_8, ex.eq_9, ex.eq_10, ex.eq_11, ex.eq_12, ex.eq_16, idxL, ex_for, ex_while, ev.eq_1, ev.eq_2, ev.eq_3, ev.eq_4, ev.eq_5, ev.eq_6, ev.eq_7, ev.eq_8, ev.eq_9, ev.eq_10, ev.eq_11, ev.eq_12, ev.eq_13, ev.eq_14, ev.eq_15, ev.eq_16, ev.eq_17, ev.eq_18, ev.eq_19, ev.eq_20, ev.eq_21, ev.eq_23, ev.eq_24, ev.eq_27, ev.eq_28, ev_comp, ex.eq_17, ex_forT, ev_compD, ex_forD, cmpF0, idxF0, idxD, inD, dctOf, ownDct, setixL, setixD, revF, alterD, pairsD, isKey, lckF, evs, evT, evTs, evTAnd, evTOr, evAnd, evOr, binF, augF, cmpF, isN, bltF, repF, rgF, setMany, mulOk, divOk, optI, seqOf, lstOf, ixN, setixF, mthF, mOk, isStr, itemsOf, srcOk, lim, in_str1, in_tupS, in_lstS, le_one, lt_one, lt_int, le_int, eq_int, eq_str, eq_bl, eq_non, eq_ni, eq_in, eq_ns, eq_sn, add_int, add_str, add_tup, add_lst, add_locL, add_Lloc, add_ll, slc_str, slc_tup, slc_lst, slc_loc, alloc_lst, alloc_dct, len_str, len_tup, len_lst, len_loc, tru_bl, tru_int, tru_non, tru_str, tru_tup, tru_lst, tru_loc, ty_non, ty_bl, ty_int, ty_str, ty_tup, ty_lst, ty_dct, setT_one, setT_many, setT_manyL, pot_at, set_at, show x.length + y.length ≤ 16777216 by omega]
      refine W_take hT p4 (by decide) (by decide) fun i5 S5 hi5 g5 p5 => ?_
      simp [W_ok, W_bad, W_bind, W_exs_nil, W_exs_cons, kSeq_nx, kSeq_ret, kSeq_brk, kSeq_cnt, kRet_ret, kRet_nx, wipe', ex.eq_1, ex.eq_2, ex.eq_3, ex.eq_4, ex.eq_5, ex.eq_8, ex.eq_9, ex.eq_10, ex.eq_11, ex.eq_12, ex.eq_16, idxL, ex_for, ex_while, ev.eq_1, ev.eq_2, ev.eq_3, ev.eq_4, ev.eq_5, ev.eq_6, ev.eq_7, ev.eq_8, ev.eq_9, ev.eq_10, ev.eq_11, ev.eq_12, ev.eq_13, ev.eq_14, ev.eq_15, ev.eq_16, ev.eq_17, ev.eq_18, ev.eq_19, ev.eq_20, ev.eq_21, ev.eq_23, ev.eq_24, ev.eq_27, ev.eq_28, ev_comp, ex.eq_17, ex_forT, ev_compD, ex_forD, cmpF0, idxF0, idxD, inD, dctOf, ownDct, setixL, setixD, revF, alterD, pairsD, isKey, lckF, evs, evT, evTs, evTAnd, evTOr, evAnd, evOr, binF, augF, cmpF, isN, bltF, repF, rgF, setMany, mulOk, divOk, optI, seqOf, lstOf, ixN, setixF, mthF, mOk, isStr, itemsOf, srcOk, lim, in_str1, in_tupS, in_lstS, le_one, lt_one, lt_int, le_int, eq_int, eq_str, eq_bl, eq_non, eq_ni, eq_in, eq_ns, eq_sn, add_int, add_str, add_tup, add_lst, add_locL, add_Lloc, add_ll, slc_str, slc_tup, slc_lst, slc_loc, alloc_lst, alloc_dct, len_str, len_tup, len_lst, len_loc, tru_bl, tru_int, tru_non, tru_str, tru_tup, tru_lst, tru_loc, ty_non, ty_bl, ty_int, ty_str, ty_tup, ty_lst, ty_dct, setT_one, setT_many, setT_manyL, pot_at, set_at]
      refine W_ixL (by simp; omega) fun d hd => ?_
      obtain ⟨z, rfl, hz⟩ : ∃ x : List Nat, d = .str x ∧ x.length ≤ 2 := by
        simp only [List.mem_cons, List.not_mem_nil, or_false] at hd
        rcases hd with rfl | rfl | rfl | rfl | rfl <;> exact ⟨_, rfl, by decide⟩
      simp [W_ok, W_bad, W_bind, W_exs_nil, W_exs_cons, kSeq_nx, kSeq_ret, kSeq_brk, kSeq_cnt, kRet_ret, kRet_nx, wipe', ex.eq_1, ex.eq_2, ex.eq_3, ex.eq_4, ex.eq_5, ex.eq_8, ex.eq_9, ex.eq_10, ex.eq_11, ex.eq_12, ex.eq_16, idxL, ex_for, ex_while, ev.eq_1, ev.eq_2, ev.eq_3, ev.eq_4, ev.eq_5, ev.eq_6, ev.eq_7, ev.eq_8, ev.eq_9, ev.eq_10, ev.eq_11, ev.eq_12, ev.eq_13, ev.eq_14, ev.eq_15, ev.eq_16, ev.eq_17, ev.eq_18, ev.eq_19, ev.eq_20, ev.eq_21, ev.eq_23, ev.eq_24, ev.eq_27, ev.eq_28, ev_comp, ex.eq_17, ex_forT, ev_compD, ex_forD, cmpF0, idxF0, idxD, inD, dctOf, ownDct, setixL, setixD, revF, alterD, pairsD, isKey, lckF, evs, evT, evTs, evTAnd, evTOr, evAnd, evOr, binF, augF, cmpF, isN, bltF, repF, rgF, setMany, mulOk, divOk, optI, seqOf, lstOf, ixN, setixF, mthF, mOk, isStr, itemsOf, srcOk, lim, in_str1, in_tupS, in_lstS, le_one, lt_one, lt_int, le_int, eq_int, eq_str, eq_bl, eq_non, eq_ni, eq_in, eq_ns, eq_sn, add_int, add_str, add_tup, add_lst, add_locL, add_Lloc, add_ll, slc_str, slc_tup, slc_lst, slc_loc, alloc_lst, alloc_dct, len_str, len_tup, len_lst, len_loc, tru_bl, tru_int, tru_non, tru_str, tru_tup, tru_lst, tru_loc, ty_non, ty_bl, ty_int, ty_str, ty_tup, ty_lst, ty_dct, setT_one, setT_many, setT_manyL, pot_at, set_at, show x.length + y.length + z.length ≤ 16777216 by omega, show x.length + (y.length + z.length) ≤ 16777216 by omega]
      exact ⟨((hS.trans g3).trans g4).trans g5, by omega⟩
    generalize hTl : ([.asg (.one 1) (.bin .add (.bin .add (.var 1) (.var 3)) (.idx (.lst [(.cst (.str [32])), (.cst (.str [44, 32])), (.cst (.str [10])), (.cst (.str [45])), (.cst (.str [46]))]) (.call f [(.var 0), (.cst (.int 5))])))] : List IS) = Tl at *
    have go : ∀ (y : List Nat) (o4 : Option D) (R : Fes → Prop), y.length ≤ 6 → (∀ env S', PotS p S S' → (∃ (x : List Nat) (o2 o3 o4 : Option D), x.length ≤ 1 + 8 * (j + 1) ∧ env = [some (.loc p), some (.str x), o2, o3, o4]) → R (.nx, env, S')) → W (exs Γ Tl [some (.loc p), some (.str x), some (.int (j : Int)), some (.str y), o4] S4) R := by
      intro y o4 R hy hR
      refine W_mono (tail y o4 hy) ?_
      rintro ⟨fl, env, S'⟩ hh
      cases fl with
      | nx => exact hR _ _ hh.1 hh.2
      | _ => exact hh.elim
    by_cases h0 : i4 = 0
    · by_cases h1 : 97 ≤ c <;> by_cases h2 : c ≤ 122
      · obtain ⟨m1, d, m2⟩ := lo_up S4 c h1 h2
        have hix := ix_str (S := S4) (x := str1) (by decide) m2
        obtain ⟨z, hz, hzl⟩ : ∃ z, cutD (c :: r) (some 1) none = z ∧ z.length ≤ 5 := ⟨_, rfl, by rw [show ((1 : Int)) = ((1 : Nat) : Int) from rfl, cutD_drop]; simp; omega⟩
        simp [W_ok, W_bad, W_bind, W_exs_nil, W_exs_cons, kSeq_nx, kSeq_ret, kSeq_brk, kSeq_cnt, kRet_ret, kRet_nx, wipe', ex.eq_1, ex.eq_2, ex.eq_3, ex.eq_4, ex.eq_5, ex.eq_8, ex.eq_9, ex.eq_10, ex.eq_11, ex.eq_12, ex.eq_16, idxL, ex_for, ex_while, ev.eq_1, ev.eq_2, ev.eq_3, ev.eq_4, ev.eq_5, ev.eq_6, ev.eq_7, ev.eq_8, ev.eq_9, ev.eq_10, ev.eq_11, ev.eq_12, ev.eq_13, ev.eq_14, ev.eq_15, ev.eq_16, ev.eq_17, ev.eq_18, ev.eq_19, ev.eq_20, ev.eq_21, ev.eq_23, ev.eq_24, ev.eq_27, ev.eq_28, ev_comp, ex.eq_17, ex_forT, ev_compD, ex_forD, cmpF0, idxF0, idxD, inD, dctOf, ownDct, setixL, setixD, revF, alterD, pairsD, isKey, lckF, evs, evT, evTs, evTAnd, evTOr, evAnd, evOr, binF, augF, cmpF, isN, bltF, repF, rgF, setMany, mulOk, divOk, optI, seqOf, lstOf, ixN, setixF, mthF, mOk, isStr, itemsOf, srcOk, lim, in_str1, in_tupS, in_lstS, le_one, lt_one, lt_int, le_int, eq_int, eq_str, eq_bl, eq_non, eq_ni, eq_in, eq_ns, eq_sn, add_int, add_str, add_tup, add_lst, add_locL, add_Lloc, add_ll, slc_str, slc_tup, slc_lst, slc_loc, alloc_lst, alloc_dct, len_str, len_tup, len_lst, len_loc, tru_bl, tru_int, tru_non, tru_str, tru_tup, tru_lst, tru_loc, ty_non, ty_bl, ty_int, ty_str, ty_tup, ty_lst, ty_dct, setT_one, setT_many, setT_manyL, pot_at, set_at, h0, hc, h1, h2, m1, hix, hz, show r.length + 1 ≤ 16777216 by omega, show 1 + z.length ≤ 16777216 by omega]
        refine go _ _ _ (by simp; omega) ?_
        rintro env S' q1 ⟨x, a, b, c, q2, q3⟩
        exact ⟨q1, x, q2, a, b, c, q3⟩
      · simp [W_ok, W_bad, W_bind, W_exs_nil, W_exs_cons, kSeq_nx, kSeq_ret, kSeq_brk, kSeq_cnt, kRet_ret, kRet_nx, wipe', ex.eq_1, ex.eq_2, ex.eq_3, ex.eq_4, ex.eq_5, ex.eq_8, ex.eq_9, ex.eq_10, ex.eq_11, ex.eq_12, ex.eq_16, idxL, ex_for, ex_while, ev.eq_1, ev.eq_2, ev.eq_3, ev.eq_4, ev.eq_5, ev.eq_6, ev.eq_7, ev.eq_8, ev.eq_9, ev.eq_10, ev.eq_11, ev.eq_12, ev.eq_13, ev.eq_14, ev.eq_15, ev.eq_16, ev.eq_17, ev.eq_18, ev.eq_19, ev.eq_20, ev.eq_21, ev.eq_23, ev.eq_24, ev.eq_27, ev.eq_28, ev_comp, ex.eq_17, ex_forT, ev_compD, ex_forD, cmpF0, idxF0, idxD, inD, dctOf, ownDct, setixL, setixD, revF, alterD, pairsD, isKey, lckF, evs, evT, evTs, evTAnd, evTOr, evAnd, evOr, binF, augF, cmpF, isN, bltF, repF, rgF, setMany, mulOk, divOk, optI, seqOf, lstOf, ixN, setixF, mthF, mOk, isStr, itemsOf, srcOk, lim, in_str1, in_tupS, in_lstS, le_one, lt_one, lt_int, le_int, eq_int, eq_str, eq_bl, eq_non, eq_ni, eq_in, eq_ns, eq_sn, add_int, add_str, add_tup, add_lst, add_locL, add_Lloc, add_ll, slc_str, slc_tup, slc_lst, slc_loc, alloc_lst, alloc_dct, len_str, len_tup, len_lst, len_loc, tru_bl, tru_int, tru_non, tru_str, tru_tup, tru_lst, tru_loc, ty_non, ty_bl, ty_int, ty_str, ty_tup, ty_lst, ty_dct, setT_one, setT_many, setT_manyL, pot_at, set_at, h0, hc, h1, h2]
        refine go _ _ _ (by simp; omega) ?_
        rintro env S' q1 ⟨x, a, b, c, q2, q3⟩
        exact ⟨q1, x, q2, a, b, c, q3⟩
      · simp [W_ok, W_bad, W_bind, W_exs_nil, W_exs_cons, kSeq_nx, kSeq_ret, kSeq_brk, kSeq_cnt, kRet_ret, kRet_nx, wipe', ex.eq_1, ex.eq_2, ex.eq_3, ex.eq_4, ex.eq_5, ex.eq_8, ex.eq_9, ex.eq_10, ex.eq_11, ex.eq_12, ex.eq_16, idxL, ex_for, ex_while, ev.eq_1, ev.eq_2, ev.eq_3, ev.eq_4, ev.eq_5, ev.eq_6, ev.eq_7, ev.eq_8, ev.eq_9, ev.eq_10, ev.eq_11, ev.eq_12, ev.eq_13, ev.eq_14, ev.eq_15, ev.eq_16, ev.eq_17, ev.eq_18, ev.eq_19, ev.eq_20, ev.eq_21, ev.eq_23, ev.eq_24, ev.eq_27, ev.eq_28, ev_comp, ex.eq_17, ex_forT, ev_compD, ex_forD, cmpF0, idxF0, idxD, inD, dctOf, ownDct, setixL, setixD, revF, alterD, pairsD, isKey, lckF, evs, evT, evTs, evTAnd, evTOr, evAnd, evOr, binF, augF, cmpF, isN, bltF, repF, rgF, setMany, mulOk, divOk, optI, seqOf, lstOf, ixN, setixF, mthF, mOk, isStr, itemsOf, srcOk, lim, in_str1, in_tupS, in_lstS, le_one, lt_one, lt_int, le_int, eq_int, eq_str, eq_bl, eq_non, eq_ni, eq_in, eq_ns, eq_sn, add_int, add_str, add_tup, add_lst, add_locL, add_Lloc, add_ll, slc_str, slc_tup, slc_lst, slc_loc, alloc_lst, alloc_dct, len_str, len_tup, len_lst, len_loc, tru_bl, tru_int, tru_non, tru_str, tru_tup, tru_lst, tru_loc, ty_non, ty_bl, ty_int, ty_str, ty_tup, ty_lst, ty_dct, setT_one, setT_many, setT_manyL, pot_at, set_at, h0, hc, h1, h2]
        refine go _ _ _ (by simp; omega) ?_
        rintro env S' q1 ⟨x, a, b, c, q2, q3⟩
        exact ⟨q1, x, q2, a, b, c, q3⟩
      · omega
    · simp [W_ok, W_bad, W_bind, W_exs_nil, W_exs_cons, kSeq_nx, kSeq_ret, kSeq_brk, kSeq_cnt, kRet_ret, kRet_nx, wipe', ex.eq_1, ex.eq_2, ex.eq_3, ex.eq_4, ex.eq_5, ex.eq_8, ex.eq_9, ex.eq_10, ex.eq_11, ex.eq_12, ex.eq_16, idxL, ex_for, ex_while, ev.eq_1, ev.eq_2, ev.eq_3, ev.eq_4, ev.eq_5, ev.eq_6, ev.eq_7, ev.eq_8, ev.eq_9, ev.eq_10, ev.eq_11, ev.eq_12, ev.eq_13, ev.eq_14, ev.eq_15, ev.eq_16, ev.eq_17, ev.eq_18, ev.eq_19, ev.eq_20, ev.eq_21, ev.eq_23, ev.eq_24, ev.eq_27, ev.eq_28, ev_comp, ex.eq_17, ex_forT, ev_compD, ex_forD, cmpF0, idxF0, idxD, inD, dctOf, ownDct, setixL, setixD, revF, alterD, pairsD, isKey, lckF, evs, evT, evTs, evTAnd, evTOr, evAnd, evOr, binF, augF, cmpF, isN, bltF, repF, rgF, setMany, mulOk, divOk, optI, seqOf, lstOf, ixN, setixF, mthF, mOk, isStr, itemsOf, srcOk, lim, in_str1, in_tupS, in_lstS, le_one, lt_one, lt_int, le_int, eq_int, eq_str, eq_bl, eq_non, eq_ni, eq_in, eq_ns, eq_sn, add_int, add_str, add_tup, add_lst, add_locL, add_Lloc, add_ll, slc_str, slc_tup, slc_lst, slc_loc, alloc_lst, alloc_dct, len_str, len_tup, len_lst, len_loc, tru_bl, tru_int, tru_non, tru_str, tru_tup, tru_lst, tru_loc, ty_non, ty_bl, ty_int, ty_str, ty_tup, ty_lst, ty_dct, setT_one, setT_many, setT_manyL, pot_at, set_at, h0]
      refine go _ _ _ (by simp; omega) ?_
      rintro env S' q1 ⟨x, a, b, c, q2, q3⟩
      exact ⟨q1, x, q2, a, b, c, q3⟩
  · rintro env S' ⟨hS, x, o2, o3, o4, hx, rfl⟩
    refine ⟨trivial, ?_⟩
    simp [W_ok, W_bad, W_bind, W_exs_nil, W_exs_cons, kSeq_nx, kSeq_ret, kSeq_brk, kSeq_cnt, kRet_ret, kRet_nx, wipe', ex.eq_1, ex.eq_2, ex.eq_3, ex.eq_4, ex.eq_5, ex.eq_8, ex.eq_9, ex.eq_10, ex.eq_11, ex.eq_12, ex.eq_16, idxL, ex_for, ex_while, ev.eq_1, ev.eq_2, ev.eq_3, ev.eq_4, ev.eq_5, ev.eq_6, ev.eq_7, ev.eq_8, ev.eq_9, ev.eq_10, ev.eq_11, ev.eq_12, ev.eq_13, ev.eq_14, ev.eq_15, ev.eq_16, ev.eq_17, ev.eq_18, ev.eq_19, ev.eq_20, ev.eq_21, ev.eq_23, ev.eq_24, ev.eq_27, ev.eq_28, ev_comp, ex.eq_17, ex_forT, ev_compD, ex_forD, cmpF0, idxF0, idxD, inD, dctOf, ownDct, setixL, setixD, revF, alterD, pairsD, isKey, lckF, evs, evT, evTs, evTAnd, evTOr, evAnd, evOr, binF, augF, cmpF, isN, bltF, repF, rgF, setMany, mulOk, divOk, optI, seqOf, lstOf, ixN, setixF, mthF, mOk, isStr, itemsOf, srcOk, lim, in_str1, in_tupS, in_lstS, le_one, lt_one, lt_int, le_int, eq_int, eq_str, eq_bl, eq_non, eq_ni, eq_in, eq_ns, eq_sn, add_int, add_str, add_tup, add_lst, add_locL, add_Lloc, add_ll, slc_str, slc_tup, slc_lst, slc_loc, alloc_lst, alloc_dct, len_str, len_tup, len_lst, len_loc, tru_bl, tru_int, tru_non, tru_str, tru_tup, tru_lst, tru_loc, ty_non, ty_bl, ty_int, ty_str, ty_tup, ty_lst, ty_dct, setT_one, setT_many, setT_manyL, pot_at, set_at]
    exact k _ _ ⟨x, rfl, by omega⟩ hS (hS.pot hp)
end TK

namespace TK
open PySem PySem.Spec PyProof.Rows L2

def GoodTs (d : D) : Prop := ∃ ts : List (List Nat), d = .tup (ts.map .str) ∧ TsOk ts
theorem goods_ts {n : Nat} : ∀ ds : List D, (∀ d ∈ ds, GoodS n d) → ∃ ts : List (List Nat), ds = ts.map .str ∧ ts.length = ds.length ∧ ∀ t ∈ ts, t.length ≤ n
  | [], _ => ⟨[], rfl, rfl, by simp⟩
  | d :: ds, h => by
    obtain ⟨ts, e, l, q⟩ := goods_ts ds fun d' h' => h d' (List.mem_cons_of_mem _ h')
    obtain ⟨x, rfl, hx⟩ := h d List.mem_cons_self
    exact ⟨x :: ts, by rw [e]; rfl, by simp [l], by simp; exact ⟨hx, q⟩⟩
theorem textsOk (Γ : Ctx) (f g : Nat) (hT : TakeOk (Γ.fn f)) (hW : DrawOk (Γ.fn g) (GoodS 100)) : DrawOk (run Γ (i_law_texts f g)) GoodTs := by
  intro p S Q hp k
  refine W_run rfl ?_
  simp [i_law_texts, W_ok, W_bad, W_bind, W_exs_nil, W_exs_cons, kSeq_nx, kSeq_ret, kSeq_brk, kSeq_cnt, kRet_ret, kRet_nx, wipe', ex.eq_1, ex.eq_2, ex.eq_3, ex.eq_4, ex.eq_5, ex.eq_8, ex.eq_9, ex.eq_10, ex.eq_11, ex.eq_12, ex.eq_16, idxL, ex_for, ex_while, ev.eq_1, ev.eq_2, ev.eq_3, ev.eq_4, ev.eq_5, ev.eq_6, ev.eq_7, ev.eq_8, ev.eq_9, ev.eq_10, ev.eq_11, ev.eq_12, ev.eq_13, ev.eq_14, ev.eq_15, ev.eq_16, ev.eq_17, ev.eq_18, ev.eq_19, ev.eq_20, ev.eq_21, ev.eq_23, ev.eq_24, ev.eq_27, ev.eq_28, ev_comp, ex.eq_17, ex_forT, ev_compD, ex_forD, cmpF0, idxF0, idxD, inD, dctOf, ownDct, setixL, setixD, revF, alterD, pairsD, isKey, lckF, evs, evT, evTs, evTAnd, evTOr, evAnd, evOr, binF, augF, cmpF, isN, bltF, repF, rgF, setMany, mulOk, divOk, optI, seqOf, lstOf, ixN, setixF, mthF, mOk, isStr, itemsOf, srcOk, lim, in_str1, in_tupS, in_lstS, le_one, lt_one, lt_int, le_int, eq_int, eq_str, eq_bl, eq_non, eq_ni, eq_in, eq_ns, eq_sn, add_int, add_str, add_tup, add_lst, add_locL, add_Lloc, add_ll, slc_str, slc_tup, slc_lst, slc_loc, alloc_lst, alloc_dct, len_str, len_tup, len_lst, len_loc, tru_bl, tru_int, tru_non, tru_str, tru_tup, tru_lst, tru_loc, ty_non, ty_bl, ty_int, ty_str, ty_tup, ty_lst, ty_dct, setT_one, setT_many, setT_manyL, pot_at, set_at]
  refine W_take hT hp (by decide) (by decide) fun i S1 hi g1 p1 => ?_
  simp [W_ok, W_bad, W_bind, W_exs_nil, W_exs_cons, kSeq_nx, kSeq_ret, kSeq_brk, kSeq_cnt, kRet_ret, kRet_nx, wipe', ex.eq_1, ex.eq_2, ex.eq_3, ex.eq_4, ex.eq_5, ex.eq_8, ex.eq_9, ex.eq_10, ex.eq_11, ex.eq_12, ex.eq_16, idxL, ex_for, ex_while, ev.eq_1, ev.eq_2, ev.eq_3, ev.eq_4, ev.eq_5, ev.eq_6, ev.eq_7, ev.eq_8, ev.eq_9, ev.eq_10, ev.eq_11, ev.eq_12, ev.eq_13, ev.eq_14, ev.eq_15, ev.eq_16, ev.eq_17, ev.eq_18, ev.eq_19, ev.eq_20, ev.eq_21, ev.eq_23, ev.eq_24, ev.eq_27, ev.eq_28, ev_comp, ex.eq_17, ex_forT, ev_compD, ex_forD, cmpF0, idxF0, idxD, inD, dctOf, ownDct, setixL, setixD, revF, alterD, pairsD, isKey, lckF, evs, evT, evTs, evTAnd, evTOr, evAnd, evOr, binF, augF, cmpF, isN, bltF, repF, rgF, setMany, mulOk, divOk, optI, seqOf, lstOf, ixN, setixF, mthF, mOk, isStr, itemsOf, srcOk, lim, in_str1, in_tupS, in_lstS, le_one, lt_one, lt_int, le_int, eq_int, eq_str, eq_bl, eq_non, eq_ni, eq_in, eq_ns, eq_sn, add_int, add_str, add_tup, add_lst, add_locL, add_Lloc, add_ll, slc_str, slc_tup, slc_lst, slc_loc, alloc_lst, alloc_dct, len_str, len_tup, len_lst, len_loc, tru_bl, tru_int, tru_non, tru_str, tru_tup, tru_lst, tru_loc, ty_non, ty_bl, ty_int, ty_str, ty_tup, ty_lst, ty_dct, setT_one, setT_many, setT_manyL, pot_at, set_at]
  refine W_ixL (by simp; omega) fun d hd => ?_
  obtain ⟨m, rfl, hm, hm2⟩ : ∃ m : Nat, d = .int (m : Int) ∧ 0 < m ∧ m ≤ 25 := by
    simp only [List.mem_cons, List.not_mem_nil, or_false] at hd
    rcases hd with rfl | rfl | rfl | rfl
    · exact ⟨4, rfl, by decide, by decide⟩
    · exact ⟨4, rfl, by decide, by decide⟩
    · exact ⟨4, rfl, by decide, by decide⟩
    · exact ⟨25, rfl, by decide, by decide⟩
  refine W_take hT p1 (by omega) (Int.lt_trans (by omega : (m : Int) < 26) (by decide)) fun n S2 hn g2 p2 => ?_
  rw [it_range1 n (by omega), W_ok]
  simp [W_ok, W_bad, W_bind, W_exs_nil, W_exs_cons, kSeq_nx, kSeq_ret, kSeq_brk, kSeq_cnt, kRet_ret, kRet_nx, wipe', ex.eq_1, ex.eq_2, ex.eq_3, ex.eq_4, ex.eq_5, ex.eq_8, ex.eq_9, ex.eq_10, ex.eq_11, ex.eq_12, ex.eq_16, idxL, ex_for, ex_while, ev.eq_1, ev.eq_2, ev.eq_3, ev.eq_4, ev.eq_5, ev.eq_6, ev.eq_7, ev.eq_8, ev.eq_9, ev.eq_10, ev.eq_11, ev.eq_12, ev.eq_13, ev.eq_14, ev.eq_15, ev.eq_16, ev.eq_17, ev.eq_18, ev.eq_19, ev.eq_20, ev.eq_21, ev.eq_23, ev.eq_24, ev.eq_27, ev.eq_28, ev_comp, ex.eq_17, ex_forT, ev_compD, ex_forD, cmpF0, idxF0, idxD, inD, dctOf, ownDct, setixL, setixD, revF, alterD, pairsD, isKey, lckF, evs, evT, evTs, evTAnd, evTOr, evAnd, evOr, binF, augF, cmpF, isN, bltF, repF, rgF, setMany, mulOk, divOk, optI, seqOf, lstOf, ixN, setixF, mthF, mOk, isStr, itemsOf, srcOk, lim, in_str1, in_tupS, in_lstS, le_one, lt_one, lt_int, le_int, eq_int, eq_str, eq_bl, eq_non, eq_ni, eq_in, eq_ns, eq_sn, add_int, add_str, add_tup, add_lst, add_locL, add_Lloc, add_ll, slc_str, slc_tup, slc_lst, slc_loc, alloc_lst, alloc_dct, len_str, len_tup, len_lst, len_loc, tru_bl, tru_int, tru_non, tru_str, tru_tup, tru_lst, tru_loc, ty_non, ty_bl, ty_int, ty_str, ty_tup, ty_lst, ty_dct, setT_one, setT_many, setT_manyL, pot_at, set_at, show n ≤ 16777216 by omega]
  refine W_compN p (GoodS 100) (fun _ => trivial) p2 ?_ ?_
  · intro x hx S3 g3 p3
    obtain ⟨j, _, rfl⟩ := List.mem_map.mp hx
    simp [compB_eq, W_ok, W_bad, W_bind, W_exs_nil, W_exs_cons, kSeq_nx, kSeq_ret, kSeq_brk, kSeq_cnt, kRet_ret, kRet_nx, wipe', ex.eq_1, ex.eq_2, ex.eq_3, ex.eq_4, ex.eq_5, ex.eq_8, ex.eq_9, ex.eq_10, ex.eq_11, ex.eq_12, ex.eq_16, idxL, ex_for, ex_while, ev.eq_1, ev.eq_2, ev.eq_3, ev.eq_4, ev.eq_5, ev.eq_6, ev.eq_7, ev.eq_8, ev.eq_9, ev.eq_10, ev.eq_11, ev.eq_12, ev.eq_13, ev.eq_14, ev.eq_15, ev.eq_16, ev.eq_17, ev.eq_18, ev.eq_19, ev.eq_20, ev.eq_21, ev.eq_23, ev.eq_24, ev.eq_27, ev.eq_28, ev_comp, ex.eq_17, ex_forT, ev_compD, ex_forD, cmpF0, idxF0, idxD, inD, dctOf, ownDct, setixL, setixD, revF, alterD, pairsD, isKey, lckF, evs, evT, evTs, evTAnd, evTOr, evAnd, evOr, binF, augF, cmpF, isN, bltF, repF, rgF, setMany, mulOk, divOk, optI, seqOf, lstOf, ixN, setixF, mthF, mOk, isStr, itemsOf, srcOk, lim, in_str1, in_tupS, in_lstS, le_one, lt_one, lt_int, le_int, eq_int, eq_str, eq_bl, eq_non, eq_ni, eq_in, eq_ns, eq_sn, add_int, add_str, add_tup, add_lst, add_locL, add_Lloc, add_ll, slc_str, slc_tup, slc_lst, slc_loc, alloc_lst, alloc_dct, len_str, len_tup, len_lst, len_loc, tru_bl, tru_int, tru_non, tru_str, tru_tup, tru_lst, tru_loc, ty_non, ty_bl, ty_int, ty_str, ty_tup, ty_lst, ty_dct, setT_one, setT_many, setT_manyL, pot_at, set_at]
    refine hW _ _ _ p3 ?_
    rintro d S4 hd g4 p4
    simp [W_ok, W_bad, W_bind, W_exs_nil, W_exs_cons, kSeq_nx, kSeq_ret, kSeq_brk, kSeq_cnt, kRet_ret, kRet_nx, wipe', ex.eq_1, ex.eq_2, ex.eq_3, ex.eq_4, ex.eq_5, ex.eq_8, ex.eq_9, ex.eq_10, ex.eq_11, ex.eq_12, ex.eq_16, idxL, ex_for, ex_while, ev.eq_1, ev.eq_2, ev.eq_3, ev.eq_4, ev.eq_5, ev.eq_6, ev.eq_7, ev.eq_8, ev.eq_9, ev.eq_10, ev.eq_11, ev.eq_12, ev.eq_13, ev.eq_14, ev.eq_15, ev.eq_16, ev.eq_17, ev.eq_18, ev.eq_19, ev.eq_20, ev.eq_21, ev.eq_23, ev.eq_24, ev.eq_27, ev.eq_28, ev_comp, ex.eq_17, ex_forT, ev_compD, ex_forD, cmpF0, idxF0, idxD, inD, dctOf, ownDct, setixL, setixD, revF, alterD, pairsD, isKey, lckF, evs, evT, evTs, evTAnd, evTOr, evAnd, evOr, binF, augF, cmpF, isN, bltF, repF, rgF, setMany, mulOk, divOk, optI, seqOf, lstOf, ixN, setixF, mthF, mOk, isStr, itemsOf, srcOk, lim, in_str1, in_tupS, in_lstS, le_one, lt_one, lt_int, le_int, eq_int, eq_str, eq_bl, eq_non, eq_ni, eq_in, eq_ns, eq_sn, add_int, add_str, add_tup, add_lst, add_locL, add_Lloc, add_ll, slc_str, slc_tup, slc_lst, slc_loc, alloc_lst, alloc_dct, len_str, len_tup, len_lst, len_loc, tru_bl, tru_int, tru_non, tru_str, tru_tup, tru_lst, tru_loc, ty_non, ty_bl, ty_int, ty_str, ty_tup, ty_lst, ty_dct, setT_one, setT_many, setT_manyL, pot_at, set_at]
    exact ⟨hd, g4⟩
  · intro ds S3 hl hg g3 p3
    obtain ⟨ts, rfl, hl2, ht⟩ := goods_ts ds hg
    simp at hl hl2
    refine k _ _ ⟨ts, rfl, by omega, ht⟩ ((g1.trans g2).trans g3) p3
def LCoresOk (F : FnD) : Prop := ∀ ts S, TsOk ts → F [.tup (ts.map .str)] S = .ok (.lst ((allC ts).map .str), S)
theorem allC_len : ∀ ts : List (List Nat), (∀ t ∈ ts, t.length ≤ 100) → (allC ts).length ≤ 100 * ts.length
  | [], _ => by simp [allC]
  | t :: ts, h => by
    have := allC_len ts fun x hx => h x (List.mem_cons_of_mem _ hx)
    have h1 := coresL_len t (h t List.mem_cons_self)
    simp [allC] at this ⊢
    omega
theorem lcoresOk (Γ : Ctx) (f g : Nat) (hR : WordsOk (Γ.fn f)) (hK : CoreOk (Γ.fn g)) : LCoresOk (run Γ (i_law_cores f g)) := by
  intro ts S h
  refine W_eq (W_run rfl ?_)
  simp [i_law_cores, W_ok, W_bad, W_bind, W_exs_nil, W_exs_cons, kSeq_nx, kSeq_ret, kSeq_brk, kSeq_cnt, kRet_ret, kRet_nx, wipe', ex.eq_1, ex.eq_2, ex.eq_3, ex.eq_4, ex.eq_5, ex.eq_8, ex.eq_9, ex.eq_10, ex.eq_11, ex.eq_12, ex.eq_16, idxL, ex_for, ex_while, ev.eq_1, ev.eq_2, ev.eq_3, ev.eq_4, ev.eq_5, ev.eq_6, ev.eq_7, ev.eq_8, ev.eq_9, ev.eq_10, ev.eq_11, ev.eq_12, ev.eq_13, ev.eq_14, ev.eq_15, ev.eq_16, ev.eq_17, ev.eq_18, ev.eq_19, ev.eq_20, ev.eq_21, ev.eq_23, ev.eq_24, ev.eq_27, ev.eq_28, ev_comp, ex.eq_17, ex_forT, ev_compD, ex_forD, cmpF0, idxF0, idxD, inD, dctOf, ownDct, setixL, setixD, revF, alterD, pairsD, isKey, lckF, evs, evT, evTs, evTAnd, evTOr, evAnd, evOr, binF, augF, cmpF, isN, bltF, repF, rgF, setMany, mulOk, divOk, optI, seqOf, lstOf, ixN, setixF, mthF, mOk, isStr, itF, itemsOf, srcOk, lim, in_str1, in_tupS, in_lstS, le_one, lt_one, lt_int, le_int, eq_int, eq_str, eq_bl, eq_non, eq_ni, eq_in, eq_ns, eq_sn, add_int, add_str, add_tup, add_lst, add_locL, add_Lloc, add_ll, slc_str, slc_tup, slc_lst, slc_loc, alloc_lst, alloc_dct, len_str, len_tup, len_lst, len_loc, tru_bl, tru_int, tru_non, tru_str, tru_tup, tru_lst, tru_loc, ty_non, ty_bl, ty_int, ty_str, ty_tup, ty_lst, ty_dct, setT_one, setT_many, setT_manyL, pot_at, set_at]
  refine W_for_map D.str (fun ys env S' => S' = S ∧ ∃ (pre : List (List Nat)) (o2 o3 : Option D), ts = pre ++ ys ∧ env = [some (.tup (ts.map .str)), some (.lst ((allC pre).map .str)), o2, o3]) ?_ ?_ ts ⟨rfl, [], none, none, rfl, rfl⟩
  · rintro t ys env S' ⟨rfl, pre, o2, o3, hp, rfl⟩
    refine ⟨trivial, ?_⟩
    have ht : t.length ≤ 100 := h.2 t (by rw [hp]; simp)
    have hpl : pre.length + 1 ≤ 25 := by
      have := congrArg List.length hp
      have := h.1
      simp at *; omega
    have ha := allC_len pre fun x hx => h.2 x (by rw [hp]; simp [hx])
    have hrl := runs_len false t
    simp [turnB_eq, W_ok, W_bad, W_bind, W_exs_nil, W_exs_cons, kSeq_nx, kSeq_ret, kSeq_brk, kSeq_cnt, kRet_ret, kRet_nx, wipe', ex.eq_1, ex.eq_2, ex.eq_3, ex.eq_4, ex.eq_5, ex.eq_8, ex.eq_9, ex.eq_10, ex.eq_11, ex.eq_12, ex.eq_16, idxL, ex_for, ex_while, ev.eq_1, ev.eq_2, ev.eq_3, ev.eq_4, ev.eq_5, ev.eq_6, ev.eq_7, ev.eq_8, ev.eq_9, ev.eq_10, ev.eq_11, ev.eq_12, ev.eq_13, ev.eq_14, ev.eq_15, ev.eq_16, ev.eq_17, ev.eq_18, ev.eq_19, ev.eq_20, ev.eq_21, ev.eq_23, ev.eq_24, ev.eq_27, ev.eq_28, ev_comp, ex.eq_17, ex_forT, ev_compD, ex_forD, cmpF0, idxF0, idxD, inD, dctOf, ownDct, setixL, setixD, revF, alterD, pairsD, isKey, lckF, evs, evT, evTs, evTAnd, evTOr, evAnd, evOr, binF, augF, cmpF, isN, bltF, repF, rgF, setMany, mulOk, divOk, optI, seqOf, lstOf, ixN, setixF, mthF, mOk, isStr, itF, itemsOf, srcOk, lim, in_str1, in_tupS, in_lstS, le_one, lt_one, lt_int, le_int, eq_int, eq_str, eq_bl, eq_non, eq_ni, eq_in, eq_ns, eq_sn, add_int, add_str, add_tup, add_lst, add_locL, add_Lloc, add_ll, slc_str, slc_tup, slc_lst, slc_loc, alloc_lst, alloc_dct, len_str, len_tup, len_lst, len_loc, tru_bl, tru_int, tru_non, tru_str, tru_tup, tru_lst, tru_loc, ty_non, ty_bl, ty_int, ty_str, ty_tup, ty_lst, ty_dct, setT_one, setT_many, setT_manyL, pot_at, set_at, hR t S' (by omega : t.length ≤ 1000), show (runsFrom false t).length ≤ 16777216 by omega]
    refine W_of (compL_map D.str (fun w => .str (w.map lo1)) trivial _ fun w hw => ?_) ?_
    · have := runs_al false t w hw
      simp [compB_eq, run, wipe', exs, ex.eq_1, ex.eq_2, ex.eq_3, ex.eq_4, ex.eq_5, ex.eq_8, ex.eq_9, ex.eq_10, ex.eq_11, ex.eq_12, ex.eq_16, idxL, ex_for, ex_while, ev.eq_1, ev.eq_2, ev.eq_3, ev.eq_4, ev.eq_5, ev.eq_6, ev.eq_7, ev.eq_8, ev.eq_9, ev.eq_10, ev.eq_11, ev.eq_12, ev.eq_13, ev.eq_14, ev.eq_15, ev.eq_16, ev.eq_17, ev.eq_18, ev.eq_19, ev.eq_20, ev.eq_21, ev.eq_23, ev.eq_24, ev.eq_27, ev.eq_28, ev_comp, ex.eq_17, ex_forT, ev_compD, ex_forD, cmpF0, idxF0, idxD, inD, dctOf, ownDct, setixL, setixD, revF, alterD, pairsD, isKey, lckF, evs, evT, evTs, evTAnd, evTOr, evAnd, evOr, binF, augF, cmpF, isN, bltF, repF, rgF, setMany, mulOk, divOk, idxF, optI, seqOf, lstOf, atI, ixN, setixF, mthF, mOk, isStr, itF, itemsOf, srcOk, lim, in_str1, in_tupS, in_lstS, le_one, lt_one, lt_int, le_int, eq_int, eq_str, eq_bl, eq_non, eq_ni, eq_in, eq_ns, eq_sn, add_int, add_str, add_tup, add_lst, add_locL, add_Lloc, add_ll, slc_str, slc_tup, slc_lst, slc_loc, alloc_lst, alloc_dct, len_str, len_tup, len_lst, len_loc, tru_bl, tru_int, tru_non, tru_str, tru_tup, tru_lst, tru_loc, ty_non, ty_bl, ty_int, ty_str, ty_tup, ty_lst, ty_dct, setT_one, setT_many, setT_manyL, hK w S' (by omega)]
    · have e : (runsFrom false t).map (fun w => D.str (w.map lo1)) = (coresL t).map D.str := by
        unfold coresL
        rw [List.map_map]; rfl
      have hcl := coresL_len t ht
      simp only [e]
      simp [W_ok, W_bad, W_bind, W_exs_nil, W_exs_cons, kSeq_nx, kSeq_ret, kSeq_brk, kSeq_cnt, kRet_ret, kRet_nx, wipe', ex.eq_1, ex.eq_2, ex.eq_3, ex.eq_4, ex.eq_5, ex.eq_8, ex.eq_9, ex.eq_10, ex.eq_11, ex.eq_12, ex.eq_16, idxL, ex_for, ex_while, ev.eq_1, ev.eq_2, ev.eq_3, ev.eq_4, ev.eq_5, ev.eq_6, ev.eq_7, ev.eq_8, ev.eq_9, ev.eq_10, ev.eq_11, ev.eq_12, ev.eq_13, ev.eq_14, ev.eq_15, ev.eq_16, ev.eq_17, ev.eq_18, ev.eq_19, ev.eq_20, ev.eq_21, ev.eq_23, ev.eq_24, ev.eq_27, ev.eq_28, ev_comp, ex.eq_17, ex_forT, ev_compD, ex_forD, cmpF0, idxF0, idxD, inD, dctOf, ownDct, setixL, setixD, revF, alterD, pairsD, isKey, lckF, evs, evT, evTs, evTAnd, evTOr, evAnd, evOr, binF, augF, cmpF, isN, bltF, repF, rgF, setMany, mulOk, divOk, optI, seqOf, lstOf, ixN, setixF, mthF, mOk, isStr, itF, itemsOf, srcOk, lim, in_str1, in_tupS, in_lstS, le_one, lt_one, lt_int, le_int, eq_int, eq_str, eq_bl, eq_non, eq_ni, eq_in, eq_ns, eq_sn, add_int, add_str, add_tup, add_lst, add_locL, add_Lloc, add_ll, slc_str, slc_tup, slc_lst, slc_loc, alloc_lst, alloc_dct, len_str, len_tup, len_lst, len_loc, tru_bl, tru_int, tru_non, tru_str, tru_tup, tru_lst, tru_loc, ty_non, ty_bl, ty_int, ty_str, ty_tup, ty_lst, ty_dct, setT_one, setT_many, setT_manyL, pot_at, set_at, show (allC pre).length + (coresL t).length ≤ 16777216 by omega]
      exact ⟨pre ++ [t], by simp [hp], by simp [allC]⟩
  · rintro env S' ⟨rfl, pre, o2, o3, hp, rfl⟩
    refine ⟨trivial, ?_⟩
    have e : ts = pre := by simpa using hp
    simp [W_ok, W_bad, W_bind, W_exs_nil, W_exs_cons, kSeq_nx, kSeq_ret, kSeq_brk, kSeq_cnt, kRet_ret, kRet_nx, wipe', ex.eq_1, ex.eq_2, ex.eq_3, ex.eq_4, ex.eq_5, ex.eq_8, ex.eq_9, ex.eq_10, ex.eq_11, ex.eq_12, ex.eq_16, idxL, ex_for, ex_while, ev.eq_1, ev.eq_2, ev.eq_3, ev.eq_4, ev.eq_5, ev.eq_6, ev.eq_7, ev.eq_8, ev.eq_9, ev.eq_10, ev.eq_11, ev.eq_12, ev.eq_13, ev.eq_14, ev.eq_15, ev.eq_16, ev.eq_17, ev.eq_18, ev.eq_19, ev.eq_20, ev.eq_21, ev.eq_23, ev.eq_24, ev.eq_27, ev.eq_28, ev_comp, ex.eq_17, ex_forT, ev_compD, ex_forD, cmpF0, idxF0, idxD, inD, dctOf, ownDct, setixL, setixD, revF, alterD, pairsD, isKey, lckF, evs, evT, evTs, evTAnd, evTOr, evAnd, evOr, binF, augF, cmpF, isN, bltF, repF, rgF, setMany, mulOk, divOk, optI, seqOf, lstOf, ixN, setixF, mthF, mOk, isStr, itF, itemsOf, srcOk, lim, in_str1, in_tupS, in_lstS, le_one, lt_one, lt_int, le_int, eq_int, eq_str, eq_bl, eq_non, eq_ni, eq_in, eq_ns, eq_sn, add_int, add_str, add_tup, add_lst, add_locL, add_Lloc, add_ll, slc_str, slc_tup, slc_lst, slc_loc, alloc_lst, alloc_dct, len_str, len_tup, len_lst, len_loc, tru_bl, tru_int, tru_non, tru_str, tru_tup, tru_lst, tru_loc, ty_non, ty_bl, ty_int, ty_str, ty_tup, ty_lst, ty_dct, setT_one, setT_many, setT_manyL, pot_at, set_at, e]
def WPrs (ps : List Pr) : Prop := ∀ q ∈ ps, q.1 ∈ wds ∧ q.2 ∈ wds
theorem dat_wd {x : List Nat} (h : x ∈ wds) : datT 59 (.str x) = true := by
  have : ∀ x ∈ wds, datT 59 (.str x) = true := by decide
  exact this x h
theorem dat_pr {q : Pr} (h : q.1 ∈ wds ∧ q.2 ∈ wds) : datT 60 (prD q) = true := by
  unfold prD
  simp only [datT, datTs, dat_wd h.1, dat_wd h.2, Bool.and_self]
theorem dats_pr : ∀ {ps : List Pr}, WPrs ps → datTs 60 (ps.map prD) = true
  | [], _ => by simp [datTs]
  | q :: ps, h => by
    simp only [List.map_cons, datTs, dat_pr (h q List.mem_cons_self), dats_pr (fun x hx => h x (List.mem_cons_of_mem _ hx)), Bool.and_self]
theorem eqT_pr (p q : Pr) : eqT (prD p) (prD q) = decide (p = q) := by
  have h := eqT_nob (prD p) (prD q) (by simp [prD, nob, nobs]) (by simp [prD, nob, nobs])
  by_cases e : p = q
  · rw [e] at h ⊢
    simpa using h
  · rw [decide_eq_false e]
    cases c : eqT (prD p) (prD q) with
    | false => rfl
    | true =>
      have := h.mp c
      simp [prD] at this
      exact absurd (Prod.ext this.1 this.2) e
theorem in_prs {S : St'} {q : Pr} {qs : List Pr} (h1 : q.1 ∈ wds ∧ q.2 ∈ wds) (h2 : WPrs qs) : inF S (prD q) (.lst (qs.map prD)) = .ok (decide (q ∈ qs)) := by
  have hf : flatD (prD q) = false := rfl
  have e : (qs.map prD).any (fun z => eqT z (prD q)) = decide (q ∈ qs) := by
    clear h1 h2
    induction qs with
    | nil => rfl
    | cons a qs ih =>
      rw [List.map_cons, List.any_cons, ih, eqT_pr]
      by_cases c : a = q
      · simp [c]
      · simp [c, Ne.symm c]
  have : inF S (prD q) (.lst (qs.map prD)) = (if flatD (prD q) && (qs.map prD).all flatD then .ok (inV (vD (prD q)) ((qs.map prD).map vD)) else (if datT 60 (prD q) && datTs 60 (qs.map prD) then .ok ((qs.map prD).any fun z => eqT z (prD q)) else .bad)) := rfl
  rw [this, hf, Bool.false_and, if_neg Bool.false_ne_true, dat_pr h1, dats_pr h2, Bool.and_self, if_pos rfl, e]
theorem compDB_filt {Γ : Ctx} {tg : Tg} {own : List Nat} {c : List IE} {elt : IE} {n : Nat} {ps : List Pr} {env : Env'} {S : St'} (P : Pr → Bool) (hS : S[n]? = some (.dctT (kvT ps))) (hl : ps.length ≤ 16777216)
    (hf : ∀ q ∈ ps, compB Γ tg own c elt env (prD q) (S.set n (.lckT (kvT ps))) = .ok (if P q then some (prD q) else none, S.set n (.lckT (kvT ps)))) : compDB Γ tg own c elt n (kvT ps) env S = .ok (.lst ((ps.filter P).map prD), S) := by
  have hn := (List.getElem?_eq_some_iff.mp hS).1
  have hk : isLckT n (kvT ps) (S.set n (.lckT (kvT ps))) := List.getElem?_set_self hn
  unfold compDB
  rw [if_pos (by rw [show (kvT ps).length = ps.length by simp [kvT]]; exact hl), kvT_keys, compL_filt prD P prD hk ps hf, R.bind_ok]
  unfold lckTE
  rw [if_pos hk]
  congr 2
  rw [List.set_set]
  apply List.ext_getElem?
  intro i
  by_cases e : i = n
  · rw [e, List.getElem?_set_self hn, hS]
  · rw [List.getElem?_set_ne (Ne.symm e)]
theorem setT_prs {S : St'} {n : Nat} {ps : List Pr} (hS : S[n]? = some (.dctT (kvT ps))) (hl : ps.length < 16777216) (a b : List Nat) : setTF S (.loc n) [.str a, .str b] (.bl true) = .ok (S.set n (.dctT (kvT (if (a, b) ∈ ps then ps else ps ++ [(a, b)])))) := by
  unfold setTF
  dsimp only
  rw [hS]
  dsimp only
  rw [if_pos ⟨rfl, by rw [show (kvT ps).length = ps.length by simp [kvT]]; exact hl, by show 2 ≤ 16777216; decide⟩]
  have := dputT_kv (a, b) ps
  unfold prD at this
  dsimp only at this
  rw [this]
theorem list_prs {S : St'} {n : Nat} {ps : List Pr} (hS : S[n]? = some (.dctT (kvT ps))) : bltF .listD S [.loc n] = .ok (.lst (ps.map prD)) := by
  simp [bltF, dctOf, ownDctT, hS, kvT_keys]
/-- without the first that is there -/
theorem less_len (P : Pr → Bool) (ps : List Pr) (h : ps.Nodup) : ((((ps.filter fun q => !decide (q ∈ (ps.filter P).take 1)).filter P).length : Nat) : Int) = ((ps.filter P).length : Int) - (((ps.filter P).take 1).length : Int) := by
  have h1 : (ps.filter fun q => !decide (q ∈ (ps.filter P).take 1)).filter P = (ps.filter P).filter fun q => !decide (q ∈ (ps.filter P).take 1) := by
    rw [List.filter_filter, List.filter_filter]
    refine List.filter_congr fun x _ => ?_
    rw [Bool.and_comm]
  rw [h1]
  have h2 : (ps.filter P).Nodup := h.filter _
  generalize ps.filter P = l at h2
  cases l with
  | nil => rfl
  | cons a l =>
    have hn := (List.nodup_cons.mp h2).1
    have : (a :: l).filter (fun q => !decide (q ∈ (a :: l).take 1)) = l := by
      simp only [List.take_succ_cons, List.take_zero, List.mem_singleton]
      rw [List.filter_cons_of_neg (by simp)]
      refine List.filter_eq_self.mpr fun x hx => ?_
      have : x ≠ a := fun e => hn (e ▸ hx)
      simp [this]
    rw [this]
    simp
def LInv7 (ns : List Int) (s : Int) (xs : List D) (env : Env') (S : St') : Prop := (∀ x ∈ xs, ∃ k c : Int, x = .tup [.int k, .int c]) ∧ ∃ o2 o3 o4 o5 o6 o7 o8 o9 o10 o11 o12 o13 o14 : Option D, env = [some (.lst (ns.map .int)), some (.int s), o2, o3, o4, o5, o6, o7, o8, o9, o10, o11, o12, o13, o14]
/-- behind the pairs -/
def tail7 : List IS := [.asg (.many [12, 13]) (.tup [(.call 14 [(.var 9)]), (.call 14 [(.var 10)])]), .asg (.one 6) (.compD [14] (.var 14) (.one 14) 11 [(.and_ [(.cmp .in_ (.idx (.var 14) (.cst (.int 0))) (.var 12)), (.cmp .in_ (.idx (.var 14) (.cst (.int 1))) (.var 13))])]), .for_ (.one 7) .range1 [(.cst (.int 2))] [.if_ (.not_ (.tru (.call 7 [(.call 3 [(.var 9), (.var 10), (.blt .tuple [(.blt .listD [(.var 11)])])]), (.blt .len [(.var 6)])]))) [.ret (.cst (.bl false))] []], .asg (.one 8) (.blt .tuple [(.compD [14] (.var 14) (.one 14) 11 [(.cmp .notIn (.var 14) (.slc (.var 6) [] [(.cst (.int 1))]))])]), .if_ (.or_ [(.not_ (.tru (.call 7 [(.call 3 [(.var 9), (.var 10), (.var 8)]), (.bin .sub (.blt .len [(.var 6)]) (.blt .len [(.slc (.var 6) [] [(.cst (.int 1))])]))]))), (.cmp .ne (.call 3 [(.var 9), (.var 10), (.tup [])]) (.cst (.int 0)))]) [.ret (.cst (.bl false))] []]
theorem tail_ok (Γ : Ctx) (hL : LCoresOk (Γ.fn 14)) (hH : HitsOk (Γ.fn 3)) (hSm : SameOk 9 (Γ.fn 7)) (v0 v1 v2 v3 v4 o5 o6 o7 o8 o12 o13 o14 : Option D) (ts us : List (List Nat)) (n : Nat) (ps : List Pr) (S : St') (h1 : TsOk ts) (h2 : TsOk us) (hS : S[n]? = some (.dctT (kvT ps))) (hps : ps.length ≤ 100) (hnd : ps.Nodup) (hw : WPrs ps) (Q : Fes → Prop)
    (q : ∀ o5 o6 o7 o8 o9 o10 o11 o12 o13 o14, Q (.nx, [v0, v1, v2, v3, v4, o5, o6, o7, o8, o9, o10, o11, o12, o13, o14], S)) :
    W (exs Γ tail7 [v0, v1, v2, v3, v4, o5, o6, o7, o8, some (.tup (ts.map .str)), some (.tup (us.map .str)), some (.loc n), o12, o13, o14] S) Q := by
  have hS1 : lckTF S (some (some (.loc n))) = .ok (n, kvT ps) := by simp [lckTF, hS]
  have hit := hH ts us
  have tup1 : ∀ l : List Pr, bltF .tuple S [.lst (l.map prD)] = .ok (.tup (l.map prD)) := fun l => rfl
  simp [tail7, W_ok, W_bad, W_bind, W_exs_nil, W_exs_cons, kSeq_nx, kSeq_ret, kSeq_brk, kSeq_cnt, kRet_ret, kRet_nx, wipe', ex.eq_1, ex.eq_2, ex.eq_3, ex.eq_4, ex.eq_5, ex.eq_8, ex.eq_9, ex.eq_10, ex.eq_11, ex.eq_12, ex.eq_16, idxL, ex_for, ex_while, ev.eq_1, ev.eq_2, ev.eq_3, ev.eq_4, ev.eq_5, ev.eq_6, ev.eq_7, ev.eq_8, ev.eq_9, ev.eq_10, ev.eq_11, ev.eq_12, ev.eq_13, ev.eq_14, ev.eq_15, ev.eq_16, ev.eq_17, ev.eq_18, ev.eq_19, ev.eq_20, ev.eq_21, ev.eq_23, ev.eq_24, ev.eq_27, ev.eq_28, ev_comp, ex.eq_17, ex_forT, ev_compD, ex_forD, cmpF0, idxF0, idxD, inD, dctOf, ownDct, setixL, setixD, revF, alterD, pairsD, isKey, lckF, evs, evT, evTs, evTAnd, evTOr, evAnd, evOr, binF, augF, cmpF, isN, setMany, mulOk, divOk, optI, seqOf, lstOf, ixN, setixF, mthF, mOk, isStr, itF, itemsOf, srcOk, lim, in_str1, in_tupS, in_lstS, le_one, lt_one, lt_int, le_int, eq_int, eq_str, eq_bl, eq_non, eq_ni, eq_in, eq_ns, eq_sn, add_int, add_str, add_tup, add_lst, add_locL, add_Lloc, add_ll, slc_str, slc_tup, slc_lst, slc_loc, alloc_lst, alloc_dct, len_str, len_tup, len_lst, len_loc, tru_bl, tru_int, tru_non, tru_str, tru_tup, tru_lst, tru_loc, ty_non, ty_bl, ty_int, ty_str, ty_tup, ty_lst, ty_dct, setT_one, setT_many, setT_manyL, pot_at, set_at, blt_len, blt_tl, blt_tt, blt_ll, blt_lt, blt_ib, blt_ii, blt_tloc, blt_lloc, blt_m2, blt_M2, hL ts _ h1, hL us _ h2, ev_compD, hS1]
  refine W_of (compDB_filt (hitB ts us) hS (by omega) fun p hp => ?_) ?_
  · have i0 : ∀ S, idxF S (prD p) (.int 0) = .ok (.str p.1) := fun S => rfl
    have i1 : ∀ S, idxF S (prD p) (.int 1) = .ok (.str p.2) := fun S => rfl
    unfold hitB
    by_cases c1 : p.1 ∈ allC ts <;> by_cases c2 : p.2 ∈ allC us <;> simp [compB_eq, run, wipe', exs, ex.eq_1, ex.eq_2, ex.eq_3, ex.eq_4, ex.eq_5, ex.eq_8, ex.eq_9, ex.eq_10, ex.eq_11, ex.eq_12, ex.eq_16, idxL, ex_for, ex_while, ev.eq_1, ev.eq_2, ev.eq_3, ev.eq_4, ev.eq_5, ev.eq_6, ev.eq_7, ev.eq_8, ev.eq_9, ev.eq_10, ev.eq_11, ev.eq_12, ev.eq_13, ev.eq_14, ev.eq_15, ev.eq_16, ev.eq_17, ev.eq_18, ev.eq_19, ev.eq_20, ev.eq_21, ev.eq_23, ev.eq_24, ev.eq_27, ev.eq_28, ev_comp, ex.eq_17, ex_forT, ev_compD, ex_forD, cmpF0, idxF0, idxD, inD, dctOf, ownDct, setixL, setixD, revF, alterD, pairsD, isKey, lckF, evs, evT, evTs, evTAnd, evTOr, evAnd, evOr, binF, augF, cmpF, isN, setMany, mulOk, divOk, optI, seqOf, lstOf, ixN, setixF, mthF, mOk, isStr, itF, itemsOf, srcOk, lim, in_str1, in_tupS, in_lstS, le_one, lt_one, lt_int, le_int, eq_int, eq_str, eq_bl, eq_non, eq_ni, eq_in, eq_ns, eq_sn, add_int, add_str, add_tup, add_lst, add_locL, add_Lloc, add_ll, slc_str, slc_tup, slc_lst, slc_loc, alloc_lst, alloc_dct, len_str, len_tup, len_lst, len_loc, tru_bl, tru_int, tru_non, tru_str, tru_tup, tru_lst, tru_loc, ty_non, ty_bl, ty_int, ty_str, ty_tup, ty_lst, ty_dct, setT_one, setT_many, setT_manyL, blt_len, blt_tl, blt_tt, blt_ll, blt_lt, blt_ib, blt_ii, blt_tloc, blt_lloc, blt_m2, blt_M2, i0, i1, c1, c2]
  have hfl := List.length_filter_le (hitB ts us) ps
  obtain ⟨th, hth⟩ : ∃ th, ps.filter (hitB ts us) = th := ⟨_, rfl⟩
  have hS2 : ∀ k : Int, Γ.fn 7 [.int k, .int k] S = .ok (.bl true, S) := fun k => hSm _ _ rfl
  have hit1 := hH ts us ps S h1 h2 hps
  rw [hth] at hfl hit1
  simp only [hth]
  have hl1 := list_prs hS
  refine W_range 2 (fun i env S' => S' = S ∧ ∃ o7 : Option D, env = [v0, v1, v2, v3, v4, o5, some (.lst (th.map prD)), o7, o8, some (.tup (ts.map .str)), some (.tup (us.map .str)), some (.loc n), some (.lst ((allC ts).map .str)), some (.lst ((allC us).map .str)), o14]) ?_ ?_ ⟨rfl, o7, rfl⟩
  · rintro i env S' hi ⟨rfl, o7, rfl⟩
    refine ⟨trivial, ?_⟩
    simp [turnB_eq, W_ok, W_bad, W_bind, W_exs_nil, W_exs_cons, kSeq_nx, kSeq_ret, kSeq_brk, kSeq_cnt, kRet_ret, kRet_nx, wipe', ex.eq_1, ex.eq_2, ex.eq_3, ex.eq_4, ex.eq_5, ex.eq_8, ex.eq_9, ex.eq_10, ex.eq_11, ex.eq_12, ex.eq_16, idxL, ex_for, ex_while, ev.eq_1, ev.eq_2, ev.eq_3, ev.eq_4, ev.eq_5, ev.eq_6, ev.eq_7, ev.eq_8, ev.eq_9, ev.eq_10, ev.eq_11, ev.eq_12, ev.eq_13, ev.eq_14, ev.eq_15, ev.eq_16, ev.eq_17, ev.eq_18, ev.eq_19, ev.eq_20, ev.eq_21, ev.eq_23, ev.eq_24, ev.eq_27, ev.eq_28, ev_comp, ex.eq_17, ex_forT, ev_compD, ex_forD, cmpF0, idxF0, idxD, inD, dctOf, ownDct, setixL, setixD, revF, alterD, pairsD, isKey, lckF, evs, evT, evTs, evTAnd, evTOr, evAnd, evOr, binF, augF, cmpF, isN, setMany, mulOk, divOk, optI, seqOf, lstOf, ixN, setixF, mthF, mOk, isStr, itF, itemsOf, srcOk, lim, in_str1, in_tupS, in_lstS, le_one, lt_one, lt_int, le_int, eq_int, eq_str, eq_bl, eq_non, eq_ni, eq_in, eq_ns, eq_sn, add_int, add_str, add_tup, add_lst, add_locL, add_Lloc, add_ll, slc_str, slc_tup, slc_lst, slc_loc, alloc_lst, alloc_dct, len_str, len_tup, len_lst, len_loc, tru_bl, tru_int, tru_non, tru_str, tru_tup, tru_lst, tru_loc, ty_non, ty_bl, ty_int, ty_str, ty_tup, ty_lst, ty_dct, setT_one, setT_many, setT_manyL, pot_at, set_at, blt_len, blt_tl, blt_tt, blt_ll, blt_lt, blt_ib, blt_ii, blt_tloc, blt_lloc, blt_m2, blt_M2, hl1, hit1, hS2]
  · rintro env S' ⟨rfl, o7, rfl⟩
    refine ⟨trivial, ?_⟩
    have htk : WPrs (th.take 1) := fun q hq => hw q (by
      have := List.mem_of_mem_take hq
      rw [← hth] at this
      exact (List.mem_filter.mp this).1)
    have hcut : ∀ S, slcF S (.lst (th.map prD)) none (some 1) = .ok (.lst ((th.take 1).map prD)) := fun S => by
      rw [slc_lst, show ((1 : Int)) = ((1 : Nat) : Int) from rfl, cutD_take, List.map_take]
    have hin : ∀ S (p : Pr), p ∈ ps → cmpF .notIn S (prD p) (.lst ((th.take 1).map prD)) = .ok (!decide (p ∈ th.take 1)) := fun S p hp => by
      have e : cmpF .notIn S (prD p) (.lst ((th.take 1).map prD)) = (inF S (prD p) (.lst ((th.take 1).map prD))).bind fun r => .ok (!r) := rfl
      rw [e, in_prs (hw p hp) htk, R.bind_ok]
    simp [W_ok, W_bad, W_bind, W_exs_nil, W_exs_cons, kSeq_nx, kSeq_ret, kSeq_brk, kSeq_cnt, kRet_ret, kRet_nx, wipe', ex.eq_1, ex.eq_2, ex.eq_3, ex.eq_4, ex.eq_5, ex.eq_8, ex.eq_9, ex.eq_10, ex.eq_11, ex.eq_12, ex.eq_16, idxL, ex_for, ex_while, ev.eq_1, ev.eq_2, ev.eq_3, ev.eq_4, ev.eq_5, ev.eq_6, ev.eq_7, ev.eq_8, ev.eq_9, ev.eq_10, ev.eq_11, ev.eq_12, ev.eq_13, ev.eq_14, ev.eq_15, ev.eq_16, ev.eq_17, ev.eq_18, ev.eq_19, ev.eq_20, ev.eq_21, ev.eq_23, ev.eq_24, ev.eq_27, ev.eq_28, ev_comp, ex.eq_17, ex_forT, ev_compD, ex_forD, cmpF0, idxF0, idxD, inD, dctOf, ownDct, setixL, setixD, revF, alterD, pairsD, isKey, lckF, evs, evT, evTs, evTAnd, evTOr, evAnd, evOr, binF, augF, cmpF, isN, setMany, mulOk, divOk, optI, seqOf, lstOf, ixN, setixF, mthF, mOk, isStr, itF, itemsOf, srcOk, lim, in_str1, in_tupS, in_lstS, le_one, lt_one, lt_int, le_int, eq_int, eq_str, eq_bl, eq_non, eq_ni, eq_in, eq_ns, eq_sn, add_int, add_str, add_tup, add_lst, add_locL, add_Lloc, add_ll, slc_str, slc_tup, slc_lst, slc_loc, alloc_lst, alloc_dct, len_str, len_tup, len_lst, len_loc, tru_bl, tru_int, tru_non, tru_str, tru_tup, tru_lst, tru_loc, ty_non, ty_bl, ty_int, ty_str, ty_tup, ty_lst, ty_dct, setT_one, setT_many, setT_manyL, pot_at, set_at, blt_len, blt_tl, blt_tt, blt_ll, blt_lt, blt_ib, blt_ii, blt_tloc, blt_lloc, blt_m2, blt_M2, ev_compD, hS1]
    refine W_of (compDB_filt (fun p => !decide (p ∈ th.take 1)) hS (by omega) fun p hp => ?_) ?_
    · rw [compB_eq, setT_one, R.bind_ok]
      simp only [evTs, evT, ev.eq_17, ev_var, ev.eq_2, wipe', List.set, List.getElem?_cons_zero, List.getElem?_cons_succ, List.length_cons, List.foldl, R.bind_ok, evs, optI, hcut, hin _ p hp]
      by_cases c1 : p ∈ th.take 1 <;> simp [c1]
    · have hle := List.length_filter_le (fun p => !decide (p ∈ th.take 1)) ps
      have hit2 := hH ts us (ps.filter fun p => !decide (p ∈ th.take 1)) S' h1 h2 (by omega)
      have hit3 := hH ts us [] S' h1 h2 (by simp)
      have hll := less_len (hitB ts us) ps hnd
      rw [hth] at hll
      rw [hll] at hit2
      generalize hls : (ps.filter fun p => !decide (p ∈ th.take 1)) = ls at *
      generalize hk1 : ((th.length : Int) - ((th.take 1).length : Int)) = kk at *
      simp at hit3
      have hln : ∀ S, lenF S (.lst ((th.take 1).map prD)) = .ok (.int ((th.take 1).length : Nat)) := fun S => by rw [len_lst, List.length_map]
      have hcl : (cutD (th.map prD) none (some 1)).length = (th.take 1).length := by
        rw [show ((1 : Int)) = ((1 : Nat) : Int) from rfl, cutD_take, ← List.map_take, List.length_map]
      have hk2 : ((th.length : Int) - ((cutD (th.map prD) none (some 1)).length : Nat)) = kk := by rw [hcl]; exact hk1
      have e1 := hS2 kk
      simp [W_ok, W_bad, W_bind, W_exs_nil, W_exs_cons, kSeq_nx, kSeq_ret, kSeq_brk, kSeq_cnt, kRet_ret, kRet_nx, wipe', ex.eq_1, ex.eq_2, ex.eq_3, ex.eq_4, ex.eq_5, ex.eq_8, ex.eq_9, ex.eq_10, ex.eq_11, ex.eq_12, ex.eq_16, idxL, ex_for, ex_while, ev.eq_1, ev.eq_2, ev.eq_3, ev.eq_4, ev.eq_5, ev.eq_6, ev.eq_7, ev.eq_8, ev.eq_9, ev.eq_10, ev.eq_11, ev.eq_12, ev.eq_13, ev.eq_14, ev.eq_15, ev.eq_16, ev.eq_17, ev.eq_18, ev.eq_19, ev.eq_20, ev.eq_21, ev.eq_23, ev.eq_24, ev.eq_27, ev.eq_28, ev_comp, ex.eq_17, ex_forT, ev_compD, ex_forD, cmpF0, idxF0, idxD, inD, dctOf, ownDct, setixL, setixD, revF, alterD, pairsD, isKey, lckF, evs, evT, evTs, evTAnd, evTOr, evAnd, evOr, binF, augF, cmpF, isN, setMany, mulOk, divOk, optI, seqOf, lstOf, ixN, setixF, mthF, mOk, isStr, itF, itemsOf, srcOk, lim, in_str1, in_tupS, in_lstS, le_one, lt_one, lt_int, le_int, eq_int, eq_str, eq_bl, eq_non, eq_ni, eq_in, eq_ns, eq_sn, add_int, add_str, add_tup, add_lst, add_locL, add_Lloc, add_ll, slc_str, slc_tup, slc_lst, slc_loc, alloc_lst, alloc_dct, len_str, len_tup, len_lst, len_loc, tru_bl, tru_int, tru_non, tru_str, tru_tup, tru_lst, tru_loc, ty_non, ty_bl, ty_int, ty_str, ty_tup, ty_lst, ty_dct, setT_one, setT_many, setT_manyL, pot_at, set_at, blt_len, blt_tl, blt_tt, blt_ll, blt_lt, blt_ib, blt_ii, blt_tloc, blt_lloc, blt_m2, blt_M2, hcut, hit2, hit3, hS2, hk2]
      exact q _ _ _ _ _ _ _ _ _ _
end TK

namespace TK
open PySem PySem.Spec PyProof.Rows L2

theorem run_cong {Γ : Ctx} {f g : FnI} (h1 : f.ps = g.ps) (h2 : f.N.length = g.N.length) (h3 : f.body = g.body) : run Γ f = run Γ g := by
  funext args S
  unfold run
  rw [h1, h2, h3]
theorem runs7_eq (Γ : Ctx) : run Γ (j_law_runs 8) = run Γ (i_law_runs 8) := run_cong (f := j_law_runs 8) (g := i_law_runs 8) (by simp only [j_law_runs, i_law_runs]) (by simp only [j_law_runs, i_law_runs, List.length_cons, List.length_nil]) (by simp only [j_law_runs, i_law_runs])
theorem law_gen (Γ Γ8 Γ7 Γ6 : Ctx) (hSeed : SeedOk (Γ.fn 6)) (hPot : PotOk (Γ.fn 4)) (hTk6 : TakeOk (Γ6.fn 5)) (hTk7 : TakeOk (Γ7.fn 5)) (hTk8 : TakeOk (Γ8.fn 5)) (hT9 : TakeOk (Γ.fn 5)) (e7 : Γ7.fn 11 = run Γ6 (i_law_word 5)) (e9 : Γ.fn 11 = run Γ8 (i_law_word 5))
    (e12 : Γ8.fn 12 = run Γ7 (i_law_said 5 11)) (e13 : Γ.fn 13 = run Γ8 (i_law_texts 5 12)) (hSame : SameOk 9 (Γ.fn 7)) (hH : HitsOk (Γ.fn 3)) (hL : LCoresOk (Γ.fn 14)) (ns : List Int) (hl : ns.length ≤ 63) : ∃ S', run Γ (i_law 6 4 13 5 11 14 7 3) [.lst (ns.map .int)] [] = .ok (.bl true, S') := by
  have hWd7 : DrawOk (Γ7.fn 11) GoodW := by rw [e7]; exact @wordOk Γ6 5 hTk6
  have hW9 : DrawOk (Γ.fn 11) GoodW := by rw [e9]; exact @wordOk Γ8 5 hTk8
  have hSd : DrawOk (Γ8.fn 12) (GoodS 100) := by rw [e12]; exact @saidOk Γ7 5 11 hTk7 hWd7
  have hTs : DrawOk (Γ.fn 13) GoodTs := by rw [e13]; exact @textsOk Γ8 5 12 hTk8 hSd
  clear hTk6 hTk7 hTk8 e7 e9 e12 e13 hWd7 hSd Γ6 Γ7 Γ8
  suffices h : W (run Γ (i_law 6 4 13 5 11 14 7 3) [.lst (ns.map .int)] []) (fun r => r.1 = .bl true) by
    obtain ⟨⟨d, S'⟩, h, h1⟩ := W_ex h
    exact ⟨S', h.trans (by rw [show d = D.bl true from h1])⟩
  obtain ⟨s, hs⟩ := hSeed ns []
  have hcut := cut61 ns
  have hl2 : 2 + min 61 ns.length ≤ 16777216 := by omega
  simp only [PotOk] at hPot
  have hI := enum_cells ns
  have hit := tail_ok Γ hL hH hSame
  generalize hTl : tail7 = Tl at hit
  unfold tail7 at hTl
  obtain ⟨args, ha⟩ : ∃ a, a = [D.lst (ns.map .int)] := ⟨_, rfl⟩
  rw [← ha]
  refine W_runA ha rfl ?_
  unfold i_law
  simp only [hTl]
  simp [W_ok, W_bad, W_bind, W_exs_nil, W_exs_cons, kSeq_nx, kSeq_ret, kSeq_brk, kSeq_cnt, kRet_ret, kRet_nx, wipe', ex.eq_1, ex.eq_2, ex.eq_3, ex.eq_4, ex.eq_5, ex.eq_8, ex.eq_9, ex.eq_10, ex.eq_11, ex.eq_12, ex.eq_16, idxL, ex_for, ex_while, ev.eq_1, ev.eq_2, ev.eq_3, ev.eq_4, ev.eq_5, ev.eq_6, ev.eq_7, ev.eq_8, ev.eq_9, ev.eq_10, ev.eq_11, ev.eq_12, ev.eq_13, ev.eq_14, ev.eq_15, ev.eq_16, ev.eq_17, ev.eq_18, ev.eq_19, ev.eq_20, ev.eq_21, ev.eq_23, ev.eq_24, ev.eq_27, ev.eq_28, ev_comp, ex.eq_17, ex_forT, ev_compD, ex_forD, cmpF0, idxF0, idxD, inD, dctOf, ownDct, setixL, setixD, revF, alterD, pairsD, isKey, lckF, evs, evT, evTs, evTAnd, evTOr, evAnd, evOr, binF, augF, cmpF, isN, bltF, repF, rgF, setMany, mulOk, divOk, optI, seqOf, lstOf, ixN, setixF, mthF, mOk, isStr, itF, itemsOf, srcOk, lim, in_str1, in_tupS, in_lstS, le_one, lt_one, lt_int, le_int, eq_int, eq_str, eq_bl, eq_non, eq_ni, eq_in, eq_ns, eq_sn, add_int, add_str, add_tup, add_lst, add_locL, add_Lloc, add_ll, slc_str, slc_tup, slc_lst, slc_loc, alloc_lst, alloc_dct, len_str, len_tup, len_lst, len_loc, tru_bl, tru_int, tru_non, tru_str, tru_tup, tru_lst, tru_loc, ty_non, ty_bl, ty_int, ty_str, ty_tup, ty_lst, ty_dct, setT_one, setT_many, setT_manyL, pot_at, set_at, hs, hcut, hl2]
  refine W_for (LInv7 ns s) ⟨by simpa using hI, _, _, _, _, _, _, _, _, _, _, _, _, _, rfl⟩ ?_ ?_
  · rintro x xs env S ⟨hx, o2, o3, o4, o5, o6, o7, o8, o9, o10, o11, o12, o13, o14, rfl⟩
    refine ⟨trivial, ?_⟩
    obtain ⟨k, c, rfl⟩ := hx x List.mem_cons_self
    simp [turnB_eq, W_ok, W_bad, W_bind, W_exs_nil, W_exs_cons, kSeq_nx, kSeq_ret, kSeq_brk, kSeq_cnt, kRet_ret, kRet_nx, wipe', ex.eq_1, ex.eq_2, ex.eq_3, ex.eq_4, ex.eq_5, ex.eq_8, ex.eq_9, ex.eq_10, ex.eq_11, ex.eq_12, ex.eq_16, idxL, ex_for, ex_while, ev.eq_1, ev.eq_2, ev.eq_3, ev.eq_4, ev.eq_5, ev.eq_6, ev.eq_7, ev.eq_8, ev.eq_9, ev.eq_10, ev.eq_11, ev.eq_12, ev.eq_13, ev.eq_14, ev.eq_15, ev.eq_16, ev.eq_17, ev.eq_18, ev.eq_19, ev.eq_20, ev.eq_21, ev.eq_23, ev.eq_24, ev.eq_27, ev.eq_28, ev_comp, ex.eq_17, ex_forT, ev_compD, ex_forD, cmpF0, idxF0, idxD, inD, dctOf, ownDct, setixL, setixD, revF, alterD, pairsD, isKey, lckF, evs, evT, evTs, evTAnd, evTOr, evAnd, evOr, binF, augF, cmpF, isN, bltF, repF, rgF, setMany, mulOk, divOk, optI, seqOf, lstOf, ixN, setixF, mthF, mOk, isStr, itemsOf, srcOk, lim, in_str1, in_tupS, in_lstS, le_one, lt_one, lt_int, le_int, eq_int, eq_str, eq_bl, eq_non, eq_ni, eq_in, eq_ns, eq_sn, add_int, add_str, add_tup, add_lst, add_locL, add_Lloc, add_ll, slc_str, slc_tup, slc_lst, slc_loc, alloc_lst, alloc_dct, len_str, len_tup, len_lst, len_loc, tru_bl, tru_int, tru_non, tru_str, tru_tup, tru_lst, tru_loc, ty_non, ty_bl, ty_int, ty_str, ty_tup, ty_lst, ty_dct, setT_one, setT_many, setT_manyL, pot_at, set_at, hPot]
    refine hTs _ _ _ (isPot_new _ _) ?_
    rintro d S1 ⟨ts, rfl, hts⟩ g1 p1
    refine hTs _ _ _ p1 ?_
    rintro d S2 ⟨us, rfl, hus⟩ g2 p2
    have hlen : S.length < S2.length := by
      obtain ⟨q, hq⟩ := p2
      exact (List.getElem?_eq_some_iff.mp hq).1
    dsimp only
    refine W_take hT9 (p2.app _) (by decide) (by decide) fun i S3 hi g3 p3 => ?_
    have hn3 : S3[S2.length]? = some (.dctT (kvT [])) := by
      rw [g3.get (by omega), pot_at]; rfl
    refine W_ixL (by simp; omega) fun d hd => ?_
    obtain ⟨m, rfl, hm, hm2⟩ : ∃ m : Nat, d = .int (m : Int) ∧ 0 < m ∧ m ≤ 61 := by
      simp only [List.mem_cons, List.not_mem_nil, or_false] at hd
      rcases hd with rfl | rfl | rfl | rfl
      · exact ⟨13, rfl, by decide, by decide⟩
      · exact ⟨13, rfl, by decide, by decide⟩
      · exact ⟨13, rfl, by decide, by decide⟩
      · exact ⟨61, rfl, by decide, by decide⟩
    refine W_take hT9 p3 (by omega) (Int.lt_trans (by omega : (m : Int) < 62) (by decide)) fun r S4 hr g4 p4 => ?_
    have hn4 : S4[S2.length]? = some (.dctT (kvT [])) := by rw [g4.get (by omega)]; exact hn3
    dsimp only
    rw [it_range1 r (by omega), W_ok]
    refine W_range r (fun j env S' => ∃ (ps : List Pr) (o5 : Option D), IsPot S' S.length ∧ S'[S2.length]? = some (.dctT (kvT ps)) ∧ ps.length ≤ j ∧ ps.Nodup ∧ WPrs ps ∧ env = [some (.lst (ns.map .int)), some (.int s), some (.int k), some (.int c), some (.loc S.length), o5, o6, o7, o8, some (.tup (ts.map .str)), some (.tup (us.map .str)), some (.loc S2.length), o12, o13, o14]) ?_ ?_ ⟨[], o5, p4, hn4, Nat.le_refl _, List.nodup_nil, (fun q hq => by cases hq), rfl⟩
    · rintro j env S' hj ⟨ps, o5, hp', hS', hl', hnd, hw, rfl⟩
      refine ⟨trivial, ?_⟩
      simp [turnB_eq, W_ok, W_bad, W_bind, W_exs_nil, W_exs_cons, kSeq_nx, kSeq_ret, kSeq_brk, kSeq_cnt, kRet_ret, kRet_nx, wipe', ex.eq_1, ex.eq_2, ex.eq_3, ex.eq_4, ex.eq_5, ex.eq_8, ex.eq_9, ex.eq_10, ex.eq_11, ex.eq_12, ex.eq_16, idxL, ex_for, ex_while, ev.eq_1, ev.eq_2, ev.eq_3, ev.eq_4, ev.eq_5, ev.eq_6, ev.eq_7, ev.eq_8, ev.eq_9, ev.eq_10, ev.eq_11, ev.eq_12, ev.eq_13, ev.eq_14, ev.eq_15, ev.eq_16, ev.eq_17, ev.eq_18, ev.eq_19, ev.eq_20, ev.eq_21, ev.eq_23, ev.eq_24, ev.eq_27, ev.eq_28, ev_comp, ex.eq_17, ex_forT, ev_compD, ex_forD, cmpF0, idxF0, idxD, inD, dctOf, ownDct, setixL, setixD, revF, alterD, pairsD, isKey, lckF, evs, evT, evTs, evTAnd, evTOr, evAnd, evOr, binF, augF, cmpF, isN, bltF, repF, rgF, setMany, mulOk, divOk, optI, seqOf, lstOf, ixN, setixF, mthF, mOk, isStr, itemsOf, srcOk, lim, in_str1, in_tupS, in_lstS, le_one, lt_one, lt_int, le_int, eq_int, eq_str, eq_bl, eq_non, eq_ni, eq_in, eq_ns, eq_sn, add_int, add_str, add_tup, add_lst, add_locL, add_Lloc, add_ll, slc_str, slc_tup, slc_lst, slc_loc, alloc_lst, alloc_dct, len_str, len_tup, len_lst, len_loc, tru_bl, tru_int, tru_non, tru_str, tru_tup, tru_lst, tru_loc, ty_non, ty_bl, ty_int, ty_str, ty_tup, ty_lst, ty_dct, setT_one, setT_many, setT_manyL, pot_at, set_at]
      refine hW9 _ _ _ hp' ?_
      rintro d S5 ⟨a, ha, rfl⟩ g5 p5
      refine hW9 _ _ _ p5 ?_
      rintro d S6 ⟨b, hb, rfl⟩ g6 p6
      have hS6 : S6[S2.length]? = some (.dctT (kvT ps)) := by rw [g6.get (by omega), g5.get (by omega)]; exact hS'
      have hn6 := (List.getElem?_eq_some_iff.mp hS6).1
      have hset := setT_prs hS6 (by omega) a b
      obtain ⟨ps', hps', f1, f2, f3⟩ : ∃ ps' : List Pr, (if (a, b) ∈ ps then ps else ps ++ [(a, b)]) = ps' ∧ ps'.length ≤ j + 1 ∧ ps'.Nodup ∧ WPrs ps' := by
        refine ⟨_, rfl, ?_, ?_, ?_⟩
        · split
          · omega
          · rw [List.length_append, List.length_singleton]; omega
        · split
          · exact hnd
          · rename_i hne
            exact List.nodup_append.mpr ⟨hnd, by simp, fun x hx y hy e => by rw [List.mem_singleton] at hy; rw [hy] at e; exact hne (e ▸ hx)⟩
        · split
          · exact hw
          · intro q hq
            rcases List.mem_append.mp hq with hq | hq
            · exact hw q hq
            · rw [List.mem_singleton.mp hq]; exact ⟨ha, hb⟩
      rw [hps'] at hset
      have hp7 : IsPot (S6.set S2.length (.dctT (kvT ps'))) S.length := by
        obtain ⟨q, hq⟩ := p6
        exact ⟨q, by rw [List.getElem?_set_ne (by omega)]; exact hq⟩
      have hn7 : (S6.set S2.length (.dctT (kvT ps')))[S2.length]? = some (.dctT (kvT ps')) := List.getElem?_set_self hn6
      simp only [hset, W_ok, R.bind_ok]
      generalize S6.set S2.length (.dctT (kvT ps')) = S7 at *
      exact ⟨hp7, ps', hn7, f1, f2, f3⟩
    · rintro env S' ⟨ps, o5, hp', hS', hl', hnd, hw, rfl⟩
      refine ⟨trivial, ?_⟩
      rw [kSeq_nx]
      refine hit _ _ _ _ _ _ _ _ _ _ _ _ ts us S2.length ps S' hts hus hS' (by omega) hnd hw _ fun p5 p6 p7 p8 p9 p10 p11 p12 p13 p14 => ?_
      exact ⟨fun x h => hx x (List.mem_cons_of_mem _ h), _, _, _, _, _, _, _, _, _, _, _, _, _, rfl⟩
  · rintro env S ⟨_, o2, o3, o4, o5, o6, o7, o8, o9, o10, o11, o12, o13, o14, rfl⟩
    refine ⟨trivial, ?_⟩
    simp [W_ok, W_bad, W_bind, W_exs_nil, W_exs_cons, kSeq_nx, kSeq_ret, kSeq_brk, kSeq_cnt, kRet_ret, kRet_nx, wipe', ex.eq_1, ex.eq_2, ex.eq_3, ex.eq_4, ex.eq_5, ex.eq_8, ex.eq_9, ex.eq_10, ex.eq_11, ex.eq_12, ex.eq_16, idxL, ex_for, ex_while, ev.eq_1, ev.eq_2, ev.eq_3, ev.eq_4, ev.eq_5, ev.eq_6, ev.eq_7, ev.eq_8, ev.eq_9, ev.eq_10, ev.eq_11, ev.eq_12, ev.eq_13, ev.eq_14, ev.eq_15, ev.eq_16, ev.eq_17, ev.eq_18, ev.eq_19, ev.eq_20, ev.eq_21, ev.eq_23, ev.eq_24, ev.eq_27, ev.eq_28, ev_comp, ex.eq_17, ex_forT, ev_compD, ex_forD, cmpF0, idxF0, idxD, inD, dctOf, ownDct, setixL, setixD, revF, alterD, pairsD, isKey, lckF, evs, evT, evTs, evTAnd, evTOr, evAnd, evOr, binF, augF, cmpF, isN, bltF, repF, rgF, setMany, mulOk, divOk, optI, seqOf, lstOf, ixN, setixF, mthF, mOk, isStr, itF, itemsOf, srcOk, lim, in_str1, in_tupS, in_lstS, le_one, lt_one, lt_int, le_int, eq_int, eq_str, eq_bl, eq_non, eq_ni, eq_in, eq_ns, eq_sn, add_int, add_str, add_tup, add_lst, add_locL, add_Lloc, add_ll, slc_str, slc_tup, slc_lst, slc_loc, alloc_lst, alloc_dct, len_str, len_tup, len_lst, len_loc, tru_bl, tru_int, tru_non, tru_str, tru_tup, tru_lst, tru_loc, ty_non, ty_bl, ty_int, ty_str, ty_tup, ty_lst, ty_dct, setT_one, setT_many, setT_manyL, pot_at, set_at]
theorem law_ok (ns : List Int) (hl : ns.length ≤ 63) : ∃ S', run (Γat 9) (i_law 6 4 13 5 11 14 7 3) [.lst (ns.map .int)] [] = .ok (.bl true, S') := by
  have hSeed : SeedOk ((Γat 9).fn 6) := by rw [fn_raw 8 6 i_law_seed rfl]; exact seedOk _
  have hPot : PotOk ((Γat 9).fn 4) := by rw [fn_raw 8 4 i_law_pot rfl]; exact potOk _
  have hTk6 : TakeOk ((Γat 6).fn 5) := by rw [fn_raw 5 5 i_law_take rfl]; exact takeOk _
  have hTk7 : TakeOk ((Γat 7).fn 5) := by rw [fn_raw 6 5 i_law_take rfl]; exact takeOk _
  have hTk8 : TakeOk ((Γat 8).fn 5) := by rw [fn_raw 7 5 i_law_take rfl]; exact takeOk _
  have hT9 : TakeOk ((Γat 9).fn 5) := by rw [fn_raw 8 5 i_law_take rfl]; exact takeOk _
  have hSame : SameOk 9 ((Γat 9).fn 7) := same_raw 7 rfl 9
  have hW : WordsOk ((Γat 6).fn 0) := by
    intro x S hx
    obtain ⟨G, h⟩ := wordsOk (Γat 5) 0 1 2 _ _ _ rfl rfl rfl alOk x S hx
    rw [fn_tidy 5 0 (i_words_of 0 1 2) rfl, h, R.bind_ok, tidy_app (by simp only [below]; exact below_strs _ _)]
  have hC : CoresOk ((Γat 7).fn 1) := by rw [fn_raw 6 1 (i_cores_of 0) rfl]; exact coresOk _ _ hW
  have hI : CoresInOk ((Γat 8).fn 2) := by
    intro ts S h
    obtain ⟨cs, h1, h2⟩ := coresIn_run (Γat 7) 1 hC ts S h
    refine ⟨cs, ?_, h2⟩
    rw [fn_tidy 7 2 (i_cores_in 1) rfl, h1, R.bind_ok, tidy_thawD (Nat.le_refl _) (pot_at _ _) (belows_kvS _ _)]
  have hH : HitsOk ((Γat 9).fn 3) := by rw [fn_raw 8 3 (i_hits 2) rfl]; exact hitsOk _ _ hI
  have hR : WordsOk ((Γat 8).fn 9) := by
    intro x S hx
    have hi : IsSignOk ((Γat 7).fn 8) := by rw [fn_raw 6 8 i_law_is_sign rfl]; exact isSignOk _
    obtain ⟨G, h⟩ := runsOk (Γat 7) 8 hi rfl x S hx
    rw [fn_tidy 7 9 (j_law_runs 8) rfl, runs7_eq, h, R.bind_ok, tidy_app (by simp only [below]; exact below_strs _ _)]
  have hK : CoreOk ((Γat 8).fn 10) := by rw [fn_raw 7 10 i_law_core rfl]; exact coreOk _
  have hL : LCoresOk ((Γat 9).fn 14) := by rw [fn_raw 8 14 (i_law_cores 9 10) rfl]; exact lcoresOk _ _ _ hR hK
  exact law_gen (Γat 9) (Γat 8) (Γat 7) (Γat 6) hSeed hPot hTk6 hTk7 hTk8 hT9 (fn_raw 6 11 (i_law_word 5) rfl) (fn_raw 8 11 (i_law_word 5) rfl) (fn_raw 7 12 (i_law_said 5 11) rfl) (fn_raw 8 13 (i_law_texts 5 12) rfl) hSame hH hL ns hl
def topS (i : Nat) : Stmt := PySem.Challenge.pw_twainkeep_k07_hits_counted.main.body.getD i (.Pass ⟨0, 0, 0, 0⟩)
theorem chk_0 : chkFn ⟨fsL.map (·.1.name), gsL.map (·.1)⟩ (i_words_of 0 1 2) (topS 4) = true := by decide +kernel
theorem chk_1 : chkFn ⟨fsL.map (·.1.name), gsL.map (·.1)⟩ (i_cores_of 0) (topS 5) = true := by decide +kernel
theorem chk_2 : chkFn ⟨fsL.map (·.1.name), gsL.map (·.1)⟩ (i_cores_in 1) (topS 6) = true := by decide +kernel
theorem chk_3 : chkFn ⟨fsL.map (·.1.name), gsL.map (·.1)⟩ (i_hits 2) (topS 7) = true := by decide +kernel
theorem chk_4 : chkFn ⟨fsL.map (·.1.name), gsL.map (·.1)⟩ i_law_pot (topS 9) = true := by decide +kernel
theorem chk_5 : chkFn ⟨fsL.map (·.1.name), gsL.map (·.1)⟩ i_law_take (topS 10) = true := by decide +kernel
theorem chk_6 : chkFn ⟨fsL.map (·.1.name), gsL.map (·.1)⟩ i_law_seed (topS 11) = true := by decide +kernel
theorem chk_7 : chkFn ⟨fsL.map (·.1.name), gsL.map (·.1)⟩ (i_law_same 7) (topS 12) = true := by decide +kernel
theorem chk_8 : chkFn ⟨fsL.map (·.1.name), gsL.map (·.1)⟩ i_law_is_sign (topS 13) = true := by decide +kernel
theorem chk_9 : chkFn ⟨fsL.map (·.1.name), gsL.map (·.1)⟩ (j_law_runs 8) (topS 14) = true := by decide +kernel
theorem chk_10 : chkFn ⟨fsL.map (·.1.name), gsL.map (·.1)⟩ i_law_core (topS 15) = true := by decide +kernel
theorem chk_11 : chkFn ⟨fsL.map (·.1.name), gsL.map (·.1)⟩ (i_law_word 5) (topS 16) = true := by decide +kernel
theorem chk_12 : chkFn ⟨fsL.map (·.1.name), gsL.map (·.1)⟩ (i_law_said 5 11) (topS 17) = true := by decide +kernel
theorem chk_13 : chkFn ⟨fsL.map (·.1.name), gsL.map (·.1)⟩ (i_law_texts 5 12) (topS 18) = true := by decide +kernel
theorem chk_14 : chkFn ⟨fsL.map (·.1.name), gsL.map (·.1)⟩ (i_law_cores 9 10) (topS 19) = true := by decide +kernel
theorem chk_15 : chkFn ⟨fsL.map (·.1.name), gsL.map (·.1)⟩ (i_law 6 4 13 5 11 14 7 3) (topS 20) = true := by decide +kernel
end TK
open PySem PySem.W PyProof.Rows
set_option maxHeartbeats 0 in
theorem PySem.Challenge.cw_twainkeep_k07_hits_counted_holds : PySem.Challenge.rw_twainkeep_k07_hits_counted.Holds := by
  w_on; o_law; k_head; (case hw => w_witness2)
  k_fill
  refine L2.walk_ofB (l := PySem.Challenge.rw_twainkeep_k07_hits_counted) (n := 63) (k := 9 + 1) (x := "_law_script") (CX := fun _ => L2.CX0) (sp := fun w => TK.spOf _ (TK.run (TK.Γat 9) (TK.i_law 6 4 13 5 11 14 7 3))) rfl (by decide) rfl ⟨rfl, by decide, by decide⟩ (fun w h Y => PySem.W.kIn_of Y) ?F (fun _ _ a ns hl hbit _ hS => TK.law_sp hS (TK.law_ok ns hl)) (fun _ _ _ _ _ h => h)
  case F =>
    intro w mg fa h KX G hmg
    refine' TK.law_mk (fs := TK.fsL) (gs := TK.gsL) 9 _ (TK.topS 20) "_law_script" KX G hmg rfl ?la ?ll ?lc ?lk (fun s v => .of_eq rfl) TK.chk_15 ?z ?d ?g
    (case la => k_is); (case ll => k_is); (case lc => k_is); (case lk => k_is)
    case z =>
      refine' (TK.NoNames.cons ?z0 (TK.NoNames.cons ?z1 (TK.NoNames.cons ?z2 (TK.NoNames.cons ?z3 (TK.NoNames.cons ?z4 (TK.NoNames.cons ?z5 (TK.NoNames.cons ?z6 (TK.NoNames.cons ?z7 (TK.NoNames.cons ?z8 (TK.NoNames.cons ?z9 (TK.NoNames.cons ?z10 (TK.NoNames.cons ?z11 (TK.NoNames.cons ?z12 (TK.NoNames.cons ?z13 (TK.NoNames.cons ?z14 (TK.NoNames.cons ?z15 (TK.NoNames.cons ?z16 (TK.NoNames.cons ?z17 (TK.NoNames.cons ?z18 (TK.NoNames.cons ?z19 TK.NoNames.nil))))))))))))))))))))
      (case z0 => k_is); (case z1 => k_is); (case z2 => k_is); (case z3 => k_is); (case z4 => k_is); (case z5 => k_is); (case z6 => k_is); (case z7 => k_is); (case z8 => k_is); (case z9 => k_is); (case z10 => k_is); (case z11 => k_is); (case z12 => k_is); (case z13 => k_is); (case z14 => k_is); (case z15 => k_is); (case z16 => k_is); (case z17 => k_is); (case z18 => k_is); (case z19 => k_is)
    case g =>
      refine' TK.GlsAre.cons (TK.gl_str "SMALL" _ KX G rfl ?ga0) ?gt0
      (case ga0 => k_is)
      refine' TK.GlsAre.cons (TK.gl_str "GREAT" _ KX G rfl ?ga1) ?gt1
      (case ga1 => k_is)
      refine' TK.GlsAre.cons (TK.gl_str "FIGURES" _ KX G rfl ?ga2) ?gt2
      (case ga2 => k_is)
      exact TK.GlsAre.nil
    case d =>
      refine' TK.DefsIs.cons (TK.def_is "words_of" (TK.topS 4) KX G rfl rfl ?a0 ?l0 ?c0 ?k0 (fun _ _ _ _ _ _ us hl => match us, hl with | [_], _ => rfl) TK.chk_0) ?t0
      (case a0 => k_is); (case l0 => k_is); (case c0 => k_is); (case k0 => k_is)
      refine' TK.DefsIs.cons (TK.def_is "cores_of" (TK.topS 5) KX G rfl rfl ?a1 ?l1 ?c1 ?k1 (fun _ _ _ _ _ _ us hl => match us, hl with | [_], _ => rfl) TK.chk_1) ?t1
      (case a1 => k_is); (case l1 => k_is); (case c1 => k_is); (case k1 => k_is)
      refine' TK.DefsIs.cons (TK.def_is "cores_in" (TK.topS 6) KX G rfl rfl ?a2 ?l2 ?c2 ?k2 (fun _ _ _ _ _ _ us hl => match us, hl with | [_], _ => rfl) TK.chk_2) ?t2
      (case a2 => k_is); (case l2 => k_is); (case c2 => k_is); (case k2 => k_is)
      refine' TK.DefsIs.cons (TK.def_is "hits" (TK.topS 7) KX G rfl rfl ?a3 ?l3 ?c3 ?k3 (fun _ _ _ _ _ _ us hl => match us, hl with | [_, _, _], _ => rfl) TK.chk_3) ?t3
      (case a3 => k_is); (case l3 => k_is); (case c3 => k_is); (case k3 => k_is)
      refine' TK.DefsIs.cons (TK.def_is "_law_pot" (TK.topS 9) KX G rfl rfl ?a4 ?l4 ?c4 ?k4 (fun _ _ _ _ _ _ us hl => match us, hl with | [_, _], _ => rfl) TK.chk_4) ?t4
      (case a4 => k_is); (case l4 => k_is); (case c4 => k_is); (case k4 => k_is)
      refine' TK.DefsIs.cons (TK.def_is "_law_take" (TK.topS 10) KX G rfl rfl ?a5 ?l5 ?c5 ?k5 (fun _ _ _ _ _ _ us hl => match us, hl with | [_, _], _ => rfl) TK.chk_5) ?t5
      (case a5 => k_is); (case l5 => k_is); (case c5 => k_is); (case k5 => k_is)
      refine' TK.DefsIs.cons (TK.def_is "_law_seed" (TK.topS 11) KX G rfl rfl ?a6 ?l6 ?c6 ?k6 (fun _ _ _ _ _ _ us hl => match us, hl with | [_], _ => rfl) TK.chk_6) ?t6
      (case a6 => k_is); (case l6 => k_is); (case c6 => k_is); (case k6 => k_is)
      refine' TK.DefsIs.cons (TK.def_is "_law_same" (TK.topS 12) KX G rfl rfl ?a7 ?l7 ?c7 ?k7 (fun _ _ _ _ _ _ us hl => match us, hl with | [_, _], _ => rfl) TK.chk_7) ?t7
      (case a7 => k_is); (case l7 => k_is); (case c7 => k_is); (case k7 => k_is)
      refine' TK.DefsIs.cons (TK.def_is "_law_is_sign" (TK.topS 13) KX G rfl rfl ?a8 ?l8 ?c8 ?k8 (fun _ _ _ _ _ _ us hl => match us, hl with | [_], _ => rfl) TK.chk_8) ?t8
      (case a8 => k_is); (case l8 => k_is); (case c8 => k_is); (case k8 => k_is)
      refine' TK.DefsIs.cons (TK.def_is "_law_runs" (TK.topS 14) KX G rfl rfl ?a9 ?l9 ?c9 ?k9 (fun _ _ _ _ _ _ us hl => match us, hl with | [_], _ => rfl) TK.chk_9) ?t9
      (case a9 => k_is); (case l9 => k_is); (case c9 => k_is); (case k9 => k_is)
      refine' TK.DefsIs.cons (TK.def_is "_law_core" (TK.topS 15) KX G rfl rfl ?a10 ?l10 ?c10 ?k10 (fun _ _ _ _ _ _ us hl => match us, hl with | [_], _ => rfl) TK.chk_10) ?t10
      (case a10 => k_is); (case l10 => k_is); (case c10 => k_is); (case k10 => k_is)
      refine' TK.DefsIs.cons (TK.def_is "_law_word" (TK.topS 16) KX G rfl rfl ?a11 ?l11 ?c11 ?k11 (fun _ _ _ _ _ _ us hl => match us, hl with | [_], _ => rfl) TK.chk_11) ?t11
      (case a11 => k_is); (case l11 => k_is); (case c11 => k_is); (case k11 => k_is)
      refine' TK.DefsIs.cons (TK.def_is "_law_said" (TK.topS 17) KX G rfl rfl ?a12 ?l12 ?c12 ?k12 (fun _ _ _ _ _ _ us hl => match us, hl with | [_], _ => rfl) TK.chk_12) ?t12
      (case a12 => k_is); (case l12 => k_is); (case c12 => k_is); (case k12 => k_is)
      refine' TK.DefsIs.cons (TK.def_is "_law_texts" (TK.topS 18) KX G rfl rfl ?a13 ?l13 ?c13 ?k13 (fun _ _ _ _ _ _ us hl => match us, hl with | [_], _ => rfl) TK.chk_13) ?t13
      (case a13 => k_is); (case l13 => k_is); (case c13 => k_is); (case k13 => k_is)
      refine' TK.DefsIs.cons (TK.def_is "_law_cores" (TK.topS 19) KX G rfl rfl ?a14 ?l14 ?c14 ?k14 (fun _ _ _ _ _ _ us hl => match us, hl with | [_], _ => rfl) TK.chk_14) ?t14
      (case a14 => k_is); (case l14 => k_is); (case c14 => k_is); (case k14 => k_is)
      refine' TK.DefsIs.cons (TK.def_is "law" (TK.topS 20) KX G rfl rfl ?a15 ?l15 ?c15 ?k15 (fun _ _ _ _ _ _ us hl => match us, hl with | [_], _ => rfl) TK.chk_15) ?t15
      (case a15 => k_is); (case l15 => k_is); (case c15 => k_is); (case k15 => k_is)
      exact TK.DefsIs.nil
