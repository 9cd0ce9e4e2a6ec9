import PyProof.Rows.All
import Wide.All
import OpenK.AllK
import Wide.FinOn
import HandS.ForMost
import HandS.ForExc
import KE.KUnpackStar
import KE.KDictKeyed
import HandS.OwnEq
import KE.GoesMore
import KE.GoesEnum
import KE.KExcInit
import HandS.TryOnly
import HandS.ExcInit
import HandS.More
import HandS.Star
import HandS.ClsMeth
import HandS.Property
import HandS.IsInst
import HandS.WideBits
import KE.KOpsOwn
import OpenK.KMeth
import HandS.HeadHook1
import HandS.HeadHook3
import HandS.HeadNt
import HandS.EndBits
import HandS.Wide
import HandS.Codes
import HandS.Defaults
import HandS.Flow
import HandS.Evl
import HandS.StrMore
import HandS.Walk
import HandS.AnyAll
import HandS.Style
import HandS.WordsExc
import HandS.ExcOwn
import HandS.TryMany
import HandS.Head2
import HandS.HeadEnd
import PySem.Challenge.RW_ownbranch_k68_whole_one_more_round
set_option Elab.async false
set_option linter.all false
set_option maxRecDepth 100000
set_option maxHeartbeats 4000000
namespace OB
open PySem PySem.Spec PySem.Calls PyProof.Rows L2 PySem.W
/-! ### word, *rest = t -/
section
variable {prog : Program} {w : World} {A : Around} {E : Value → Shared → Prop} {s : Shared}
/-- the unpacking of a tuple by one name and a starred one: the new list stands behind all that stood -/
theorem star_items {t : Addr} {items : Array Value} {Q : List Value → Shared → Prop} (ht : IsTup s.heap t items) (hh : A.handled = none) (hn : 1 ≤ items.size) (hz : items.size ≤ 16384)
    (h : ∀ (D : Addr) (h' : Heap) (tk : Nat), s.heap.get? D = none → (∀ b o, s.heap.get? b = some o → h'.get? b = some o) → h'.get? D = some { cls := .type "list", data := .seq (items.toList.drop 1).toArray } →
      Q (items.toList.take 1 ++ [.ref D]) { s with heap := h', toks := tk }) : wpAny (model prog w) A (unpackItems (.ref t) 2 (some 1)) Q E s := by
  have hlt : t ≠ s.heap.objs.size := by obtain ⟨o, ho, _⟩ := ht; exact Nat.ne_of_lt (Heap.lt_size ho)
  unfold unpackItems notIterableAtAll
  refine wpAny_bind (wpAny_bind (wpAny_specialOf ht.typeIs slot_tuple_iter.lookup (wpAny_pure ?_)))
  simp only [Bool.false_eq_true, if_false]
  refine wpAny_bind (wpAny_holding (iter_tuple ht (wpAny_bind (wpAny_holding (draw_tuple hlt 1 0 _ _ ⟨_, Heap.get?_push_size _ rfl, rfl, rfl⟩ (ht.push _) (by omega) fun h1 it1 sb1 => ?_)))))
  have ht1 : IsTup h1 t items := (ht.push _).extBut sb1.extBut hlt
  rw [Nat.zero_add] at it1
  have it1' := it1
  obtain ⟨oi, hoi, _⟩ := it1'
  obtain ⟨ot, hot, _⟩ := id ht1
  rw [List.drop_zero]
  have hfl : (items.toList.take 1).length = 1 := by rw [List.length_take, Array.length_toList]; omega
  rw [if_neg (show ¬ ((items.toList.take 1).length < 1) by rw [hfl]; omega)]
  refine wpAny_bind (wpAny_holding (kun_collect (s := { s with heap := h1 }) (T := "tuple_iterator") (.inr (.inr (.inr rfl))) (Walks.tuple (A := A.in1) hh s.heap.objs.size t hlt items) (fun j u st => st.1.typeIs) (k := 1) hn ⟨it1, ht1⟩ (Heap.lt_size hoi) (Heap.lt_size hot) (fun h2 tk k2 => ?_) (by rw [sizeLine_eq]; omega)))
  show wpAny _ _ (if (items.toList.drop 1).length < 0 then _ else _) _ _ _
  rw [if_neg (Nat.not_lt_zero _)]
  show wpAny _ _ (newList ((items.toList.drop 1).take ((items.toList.drop 1).length - 0)) >>= fun d => pure (items.toList.take 1 ++ [d] ++ (items.toList.drop 1).drop ((items.toList.drop 1).length - 0))) _ _ _
  rw [Nat.sub_zero, List.take_length, List.drop_length]
  simp only [List.append_nil]
  have old : ∀ b o, s.heap.get? b = some o → h2.get? b = some o := fun b o e => by
    have hb : b ≠ s.heap.objs.size := Nat.ne_of_lt (Heap.lt_size e)
    exact k2 b o hb (sb1.extBut b o hb (Heap.get?_push_of_some _ e))
  refine wpAny_bind (wpAny_newList (wpAny_pure ?_) (by rw [List.length_drop, Array.length_toList, sizeLine_eq]; omega))
  exact h _ _ tk (by
    cases e : s.heap.get? h2.objs.size with
    | none => rfl
    | some o => exact absurd (Heap.lt_size (old _ _ e)) (Nat.lt_irrefl _)) (fun b o e => Heap.get?_push_of_some _ (old b o e)) (Heap.get?_push_size _ rfl)
end
/-! ### a new object at an address where nothing stood -/
section
variable {P : Program} {w : World} {H H' : Hp} {h h' : Heap} {a : Addr} {o : HO}
theorem obj_there (x : ObjOk P w H h a o) : ∃ u, h.get? a = some u := by
  induction o with
  | lst xs => obtain ⟨_, _, _, _, e⟩ := x; exact ⟨_, e⟩
  | tup xs => obtain ⟨_, _, _, o, e, _⟩ := x; exact ⟨o, e⟩
  | dK kvs => obtain ⟨_, _, _, _, o, _, _, e, _⟩ := x; exact ⟨o, e⟩
  | dT kvs => obtain ⟨_, _, _, _, o, _, _, e, _⟩ := x; exact ⟨o, e⟩
  | set S n => obtain ⟨o, _, _, _, e, _⟩ := x; exact ⟨o, e⟩
  | ins C dx fs => obtain ⟨_, _, _, e, _⟩ := x; exact ⟨_, e⟩
  | own y => exact x
  | xd fs => obtain ⟨_, ⟨o, _, _, e, _⟩, _⟩ := x; exact ⟨o, e⟩
  | rng lo hi => obtain ⟨_, _, _, e⟩ := x; exact ⟨_, e⟩
  | frz ob u ih => exact ih x.2
  | tbl ps => exact ⟨_, x⟩
  | met f y => exact ⟨_, x⟩
  | ext p => exact x.2.1
theorem untracked (x : HOk P w H h) (e : h.get? a = none) : H a = none := by
  cases q : H a with
  | none => rfl
  | some u =>
    obtain ⟨v, hv⟩ := obj_there (x a u q)
    rw [e] at hv
    cases hv
end
section
variable {X : Cx} {pins : List (Addr × Obj)} {σ : L2.St} {H : Hp} {s : Shared} {h' : Heap} {a : Addr} {o : HO}
theorem inv_new {t' : Nat} (I : Inv X pins σ H s) (k : ∀ b u, s.heap.get? b = some u → h'.get? b = some u) (hp : s.heap.get? a = none) (new : ObjOk X.prog X.w (upd H a o) h' a o) : Inv X pins σ (upd H a o) { s with heap := h', toks := t' } := by
  have hn : H a = none := untracked I.hok hp
  have ne : ∀ {b u}, s.heap.get? b = some u → b ≠ a := fun {b u} e z => by
    rw [z, hp] at e
    cases e
  refine I.un ⟨fun b u q _ _ _ => k b u q, fun b u q _ _ _ => ⟨u.slots, k b u q⟩, fun b u q n _ => by rw [upd_ne (ne q)]; exact n, fun b u q _ => ⟨u, k b u q⟩, fun b xs q => by rw [upd_ne (ne_of_none q hn)]; exact q, fun b u xs q => by rw [upd_ne (ne_of_none q hn)]; exact q, fun b ps q => ⟨#[], by rw [upd_ne (ne_of_none q hn), q]; simp⟩⟩ fun b u e => ?_
  by_cases hb : b = a
  · subst hb
    rw [upd_same] at e
    cases e
    exact new
  · rw [upd_ne hb] at e
    exact (I.hok b u e).stay (fun c v _ q => k c v q) (fun c q => by rw [upd_ne (ne_of_none q hn)]; exact q) fun c xs q => by rw [upd_ne (ne_of_none q hn)]; exact q
end
/-! ### the rule -/
/-- x, *r = t -/
def gStar (K : PySem.W.Frag) (i j : Nat) : TG := fun v σ H Q => ∃ a x xs, v = .ref a ∧ SqT K H a (x :: xs) ∧ xs.length ≤ 1000 ∧ ∀ D, H D = none → Q ((σ.set i (some x)).set j (some (.ref D))) (upd H D (.lst xs))
theorem pg_star {X : Cx} {i j k : Nat} {x y : Str} {p q q2 pos : Pos} (hc : X.calm = true) (hN : X.N.Nodup) (hi : X.N[i]? = some x) (hx : Loc X.env.scope x) (hj : X.N[j]? = some y) (hy : Loc X.env.scope y)
    (hf : X.fn x = true ∨ X.env.scope.names.lookup x = some .local := by first | exact .inl rfl | exact .inr rfl) (hg : X.fn y = true ∨ X.env.scope.names.lookup y = some .local := by first | exact .inl rfl | exact .inr rfl) :
    PG X (.Tuple [.Name x p, .Starred (.Name y q) q2] k pos) (gStar X.K i j) := by
  refine ⟨fun pins s σ H v u Q I r hw => ?_⟩
  obtain ⟨a, z, zs, rfl, hq, hl, hw⟩ := hw
  cases r
  obtain ⟨its, rv, ht, hz⟩ := I.tuple hq
  have hlen := rv.length
  rw [List.length_cons] at hlen
  rw [arm_assign_Tuple]
  refine wpAny_bind (wpAny_standAt ?_)
  unfold unpack
  refine wpAny_bind (wpAny_holding (star_items ht (I.ok.hd hc) (by simp; omega) (by simp; omega) fun D h' tk hD hk hl' => ?_))
  cases rv with
  | @cons _ u0 _ ur ra rw' =>
    have hDn : H D = none := untracked I.hok hD
    have I1 : Inv X pins σ (upd H D (.lst zs)) { s with heap := h', toks := tk } := inv_new I hk hD ⟨by rw [sizeLine_eq]; omega, ur, 0, rw', by simpa using hl'⟩
    show wpAny _ _ (assignInOrder [fun v => assign (.Name x p) X.env v, fun v => assign (.Name y q) X.env v] [u0, .ref D]) _ _ _
    have q1 := hw D hDn
    refine assignInOrder_cons (wpAny_assign_Name (store_ok I1 hN hi hx ra (fun s2 I2 => ?_) hf))
    refine assignInOrder_cons (wpAny_assign_Name (store_ok I2 hN hj hy (show RelV (.ref D) (.ref D) from rfl) (fun s3 I3 => ?_) hg))
    exact assignInOrder_nil ⟨_, _, I3, q1⟩
end OB
set_option Elab.async false
set_option linter.all false
set_option maxRecDepth 100000
set_option maxHeartbeats 4000000
namespace OB
open PySem PySem.Spec PySem.Calls PyProof.Rows L2 PySem.W
/-! ### dicts whose keys are tuples of ints, texts, bools and such tuples -/
mutual
inductive NKV (H : Hp) : NestedKey → V → Prop
  | bool {b : Bool} : NKV H (.num (if b = true then 1 else 0)) (.bl b)
  | int (i : Int) : NKV H (.num i) (.int i)
  | text (x : Str) : NKV H (.text x) (.str x)
  | tup {a : Addr} {ks : List NestedKey} {vs : List V} : H a = some (.tup vs) → NKA H ks vs → NKV H (.tup ks) (.ref a)
inductive NKA (H : Hp) : List NestedKey → List V → Prop
  | nil : NKA H [] []
  | cons {k : NestedKey} {v : V} {ks : List NestedKey} {vs : List V} : NKV H k v → NKA H ks vs → NKA H (k :: ks) (v :: vs)
end
mutual
theorem NKV.is {P : Program} {w : World} {H : Hp} {h : Heap} (ok : HOk P w H h) : ∀ (k : NestedKey) (v : V) (u : Value), NKV H k v → RelV v u → NestedIs h k u
  | _, _, u, .bool, r => by
    have e : u = Value.bool _ := r
    rw [e]
    exact .bool rfl
  | _, _, u, .int i, r => by
    obtain ⟨t, e⟩ := r
    rw [e]
    exact .int i t
  | _, _, u, .text x, r => by
    obtain ⟨t, e⟩ := r
    rw [e]
    exact .text x t
  | .tup ks, .ref a, u, .tup ha hks, r => by
    have e : u = Value.ref a := r
    rw [e]
    obtain ⟨_, its, rv, o, h1, h2, n, h3⟩ := (show ObjOk P w H h a (.tup _) from ok a _ ha)
    exact .tup h1 h2 h3 (by simpa using NKA.is ok ks _ its hks rv)
theorem NKA.is {P : Program} {w : World} {H : Hp} {h : Heap} (ok : HOk P w H h) : ∀ (ks : List NestedKey) (vs : List V) (us : List Value), NKA H ks vs → Vals vs us → NestedAll h ks us
  | [], [], us, .nil, r => by
    cases r
    exact .nil
  | k :: ks, v :: vs, us, .cons h1 h2, r => by
    cases r with
    | cons r1 r2 => exact .cons (NKV.is ok k v _ h1 r1) (NKA.is ok ks vs _ h2 r2)
end
mutual
theorem NKV.same {H H' : Hp} (e : ∀ a xs, H a = some (.tup xs) → H' a = some (.tup xs)) : ∀ (k : NestedKey) (v : V), NKV H k v → NKV H' k v
  | _, _, .bool => .bool
  | _, _, .int i => .int i
  | _, _, .text x => .text x
  | .tup ks, .ref a, .tup ha hks => .tup (e _ _ ha) (NKA.same e ks _ hks)
theorem NKA.same {H H' : Hp} (e : ∀ a xs, H a = some (.tup xs) → H' a = some (.tup xs)) : ∀ (ks : List NestedKey) (vs : List V), NKA H ks vs → NKA H' ks vs
  | [], [], .nil => .nil
  | k :: ks, v :: vs, .cons h1 h2 => .cons (NKV.same e k v h1) (NKA.same e ks vs h2)
end
abbrev NEs := List (NestedKey × Addr × V)
def NRel (q : NestedKey × Addr × V) (r : NestedKey × Addr × Value) : Prop := q.1 = r.1 ∧ q.2.1 = r.2.1 ∧ RelV q.2.2 r.2.2
/-- the object: what stands at the dict's own address -/
def ndP (P : Program) (w : World) (p : Addr) (kvs : NEs) (h : Heap) : Prop := ∃ xs : List (NestedKey × Addr × Value), Paired NRel kvs xs ∧ ∃ o es ep, h.get? p = some o ∧ o.ExactDict ∧ o.data = .dict es ep ∧ es.toList = xs.map (entryOfKey (nestedKind P w))
def ndO (P : Program) (w : World) (p : Addr) (kvs : NEs) : HO := .ext (ndP P w p kvs)
/-- the dict at p -/
structure ND (P : Program) (w : World) (H : Hp) (p : Addr) (kvs : NEs) : Prop where
  at_ : H p = some (ndO P w p kvs)
  sys : (p == sysModules) = false
  len : kvs.length < sizeLine
  nodup : (kvs.map (·.1)).Nodup
  keys : ∀ e ∈ kvs, NKV H e.1 (.ref e.2.1) ∧ e.1.depth ≤ 8
/-- what it holds at a key -/
def valN : NEs → NestedKey → Option V
  | [], _ => none
  | (k, _, v) :: r, q => if k = q then some v else valN r q
theorem ndO_ok {P : Program} {w : World} {H : Hp} {h : Heap} {p : Addr} {kvs : NEs} (x : ndP P w p kvs h) : ObjOk P w H h p (ndO P w p kvs) :=
  ⟨x, (let ⟨_, _, o, _, _, e, _⟩ := x; ⟨o, e⟩), fun _ _ ⟨xs, r, o, es, ep, e, c⟩ k => ⟨xs, r, o, es, ep, k _ e, c⟩⟩
theorem ndO_at {P : Program} {w : World} {H : Hp} {h : Heap} {p : Addr} {kvs : NEs} (ok : HOk P w H h) (e : H p = some (ndO P w p kvs)) : ndP P w p kvs h := (show ObjOk P w H h p (.ext (ndP P w p kvs)) from ok p _ e).1
section
variable {P : Program} {w : World} {H : Hp} {h : Heap} {p : Addr} {kvs : NEs}
theorem nrel_keys : ∀ {kvs : NEs} {xs : List (NestedKey × Addr × Value)}, Paired NRel kvs xs → kvs.map (·.1) = xs.map (·.1)
  | _, _, .nil => rfl
  | _, _, .cons r t => by rw [List.map_cons, List.map_cons, r.1, nrel_keys t]
theorem nrel_pairs : ∀ {kvs : NEs} {xs : List (NestedKey × Addr × Value)}, Paired NRel kvs xs → ∀ x ∈ xs, ∃ e ∈ kvs, e.1 = x.1 ∧ e.2.1 = x.2.1
  | _, _, .nil, x, hx => nomatch hx
  | _, _, .cons r t, x, hx => by
    rcases List.mem_cons.mp hx with e | hx
    · subst e
      exact ⟨_, List.mem_cons_self, r.1, r.2.1⟩
    · obtain ⟨e, he, z⟩ := nrel_pairs t x hx
      exact ⟨e, List.mem_cons_of_mem _ he, z⟩
theorem nrel_at : ∀ {kvs : NEs} {xs : List (NestedKey × Addr × Value)}, Paired NRel kvs xs → ∀ k, RelO (valN kvs k) (valueAt (pairsH xs) k)
  | _, _, .nil, k => trivial
  | (k1, a1, v1) :: r1, (k2, a2, u2) :: r2, .cons r t, k => by
    obtain ⟨e1, e2, e3⟩ := r
    have e1' : k1 = k2 := e1
    subst e1'
    by_cases e : k1 = k
    · subst e
      have h1 : valN ((k1, a1, v1) :: r1) k1 = some v1 := if_pos rfl
      have h2 : valueAt (pairsH ((k1, a2, u2) :: r2)) k1 = some u2 := by simp [pairsH, valueAt]
      rw [h1, h2]
      exact e3
    · have h1 : valN ((k1, a1, v1) :: r1) k = valN r1 k := if_neg e
      have h2 : valueAt (pairsH ((k1, a2, u2) :: r2)) k = valueAt (pairsH r2) k := by simp [pairsH, valueAt, e]
      rw [h1, h2]
      exact nrel_at t k
theorem ND.of (ok : HOk P w H h) (x : ND P w H p kvs) : ∃ xs, Paired NRel kvs xs ∧ h.DictOfH (nestedKind P w) p xs := by
  obtain ⟨xs, r, o, es, ep, h1, h2, h3, h4⟩ := ndO_at ok x.at_
  refine ⟨xs, r, o, es, ep, h1, h2, h3, h4, fun y hy => ?_, by rw [← nrel_keys r]; exact x.nodup⟩
  obtain ⟨e, he, e1, e2⟩ := nrel_pairs r y hy
  obtain ⟨k1, k2⟩ := x.keys e he
  rw [e1] at k1 k2
  rw [e2] at k1
  exact ⟨NKV.is ok _ _ _ k1 rfl, k2⟩
theorem ND.keyed (ok : HOk P w H h) (x : ND P w H p kvs) : ∃ vs, h.DictKeyed (nestedKind P w) p vs ∧ (∀ k, RelO (valN kvs k) (valueAt vs k)) ∧ vs.length = kvs.length := by
  obtain ⟨xs, r, d⟩ := x.of ok
  exact ⟨_, ⟨xs, d, rfl⟩, nrel_at r, by rw [pairsH_length, r.length]⟩
theorem ND.same {H' : Hp} (x : ND P w H p kvs) (e : H' p = some (ndO P w p kvs)) (t : ∀ a xs, H a = some (.tup xs) → H' a = some (.tup xs)) : ND P w H' p kvs :=
  ⟨e, x.sys, x.len, x.nodup, fun y hy => ⟨NKV.same t _ _ (x.keys y hy).1, (x.keys y hy).2⟩⟩
end
end OB
set_option Elab.async false
set_option linter.all false
set_option maxRecDepth 100000
set_option maxHeartbeats 4000000
namespace OB
open PySem PySem.Spec PySem.Calls PyProof.Rows L2 PySem.W
section
variable {X : Cx} {pos pos' : Pos} {o i e : Expr} {td ty tv : TE}
def tND (X : Cx) : TE := fun _ H Q => ∀ p, H p = none → (p == sysModules) = false → Q (.ref p) (upd H p (ndO X.prog X.w p []))
theorem pe_nd : PE X (.Dict [] [] pos) (tND X) := ⟨fun pins s σ H Q I h =>
  have hs : (s.heap.objs.size == sysModules) = false := beq_eq_false_iff_ne.mpr (Ne.symm (Nat.ne_of_lt I.big))
  wpAny_Dict_empty ⟨.ref s.heap.objs.size, _, I.laid (a := s.heap.objs.size) (o := ndO X.prog X.w s.heap.objs.size []) (t' := s.toks) (fun _ _ q => Heap.get?_push_of_some _ q) (Nat.le_refl _)
    (ndO_ok ⟨[], .nil, _, #[], 0, Heap.get?_push_size _ rfl, ⟨rfl, rfl, rfl⟩, rfl, rfl⟩), rfl, h _ (I.hok.fresh (Nat.le_refl _)) hs⟩⟩
theorem nd_nil {P : Program} {w : World} {H : Hp} {p : Addr} (hs : (p == sysModules) = false) : ND P w (upd H p (ndO P w p [])) p [] := ⟨upd_same, hs, by show 0 < sizeLine; decide, List.nodup_nil, fun _ h => nomatch h⟩
theorem nroom {A : Around} (hu : A.units + 64 < cLine) : (nestedKind X.prog X.w).room A.in1 := by
  show A.units + 1 + 8 < cLine
  omega
def rNin (X : Cx) : R2 := fun x y H Q => ∃ a p k kvs, x = .ref a ∧ y = .ref p ∧ ND X.prog X.w H p kvs ∧ NKV H k (.ref a) ∧ k.depth ≤ 8 ∧ Q (.bl (valN kvs k).isSome) H
def rNnotin (X : Cx) : R2 := fun x y H Q => ∃ a p k kvs, x = .ref a ∧ y = .ref p ∧ ND X.prog X.w H p kvs ∧ NKV H k (.ref a) ∧ k.depth ≤ 8 ∧ Q (.bl (!(valN kvs k).isSome)) H
def rNget (X : Cx) : R2 := fun x y H Q => ∃ a p k kvs v, x = .ref p ∧ y = .ref a ∧ ND X.prog X.w H p kvs ∧ NKV H k (.ref a) ∧ k.depth ≤ 8 ∧ valN kvs k = some v ∧ Q v H
def rNset (X : Cx) : TSet := fun o i v H Q => ∃ a p k kvs, o = .ref p ∧ i = .ref a ∧ ND X.prog X.w H p kvs ∧ NKV H k (.ref a) ∧ k.depth ≤ 8 ∧ valN kvs k = none ∧ Q (upd H p (ndO X.prog X.w p (kvs ++ [(k, a, v)])))
theorem relO_some {a : Option V} {b : Option Value} (h : RelO a b) : a.isSome = b.isSome := by
  cases a <;> cases b <;> first | rfl | exact h.elim
theorem op_nin (hu : X.A.units + 64 < cLine) : OpR X (compareOp .In) (rNin X) := by
  intro pins s σ H x y v u Q I rx ry hq
  obtain ⟨a, p, k, kvs, rfl, rfl, d, hk, hd, q⟩ := hq
  cases rx
  cases ry
  obtain ⟨vs, dk, rel, _⟩ := d.keyed I.hok
  refine in_keyed (nroom hu) ⟨NKV.is I.hok _ _ _ hk rfl, hd⟩ d.sys dk ?_
  rw [← relO_some (rel k)]
  exact ⟨.bl _, H, I.tok _, rfl, q⟩
theorem op_nnotin (hu : X.A.units + 64 < cLine) : OpR X (compareOp .NotIn) (rNnotin X) := by
  intro pins s σ H x y v u Q I rx ry hq
  obtain ⟨a, p, k, kvs, rfl, rfl, d, hk, hd, q⟩ := hq
  cases rx
  cases ry
  obtain ⟨vs, dk, rel, _⟩ := d.keyed I.hok
  refine notIn_keyed (nroom hu) ⟨NKV.is I.hok _ _ _ hk rfl, hd⟩ d.sys dk ?_
  rw [← relO_some (rel k)]
  exact ⟨.bl _, H, I.tok _, rfl, q⟩
theorem pe_nget (hu : X.A.units + 64 < cLine) (ho : PE X o td) (hi : PE X i ty) (hs : NoSl i) : PE X (.Subscript o i pos) (tOp (rNget X) td ty) := by
  refine ⟨fun pins s σ H Q I h => ?_⟩
  refine subD_of PySem.F.slot_dict_getitem.lookup hs (thn (ho.run pins s σ H _ I h) fun u s1 ⟨x, H1, I1, rx, q1⟩ => thn (hi.run pins s1 σ H1 _ I1 q1) fun iv s2 ⟨y, H2, I2, ry, a, p, k, kvs, z, ex, ey, d, hk, hd, hv, q⟩ => ?_)
  subst ex ey
  cases rx
  cases ry
  obtain ⟨vs, dk, rel, _⟩ := d.keyed I2.hok
  have r1 := rel k
  rw [hv] at r1
  cases e : valueAt vs k with
  | none =>
    rw [e] at r1
    exact r1.elim
  | some w' =>
    rw [e] at r1
    exact ⟨dk.typeIs, getItem_keyed (nroom hu) ⟨NKV.is I2.hok _ _ _ hk rfl, hd⟩ dk e ⟨z, H2, I2.tok _, r1, q⟩⟩
theorem set_nd (hu : X.A.units + 64 < cLine) : PSet X (rNset X) := by
  intro pins s σ H o i v ov iv u Q I ro ri rv hq
  obtain ⟨a, p, k, kvs, rfl, rfl, d, hk, hd, hn, q⟩ := hq
  cases ro
  cases ri
  obtain ⟨xs, r, dd⟩ := d.of I.hok
  have rel := nrel_at r k
  rw [hn] at rel
  have hnone : atKey xs k = none := by
    cases e : atKey xs k with
    | none => rfl
    | some z =>
      have e2 : valueAt (pairsH xs) k = some z.2 := by rw [valueAt_pairsH, e] <;> rfl
      rw [e2] at rel
      exact rel.elim
  refine wpAny_setItem_heap (hsz := by rw [← r.length]; exact Nat.le_of_lt d.len) (nroom hu) ⟨NKV.is I.hok _ _ _ hk rfl, hd⟩ dd fun h' hm' hs => ?_
  rw [storedH_new hnone] at hm'
  obtain ⟨o, es, ep, h1, h2, h3, h4, _, _⟩ := id hm'
  refine ⟨_, I.write (x := p) (e := p) (o := ndO X.prog X.w p (kvs ++ [(k, a, v)])) (by rw [d.at_]; trivial) (.inl rfl) (fun b u hb he => (hs.2 b hb).trans he) ⟨o, h1⟩ (ndO_ok ⟨_, Paired.snoc r ⟨rfl, rfl, rv⟩, o, es, ep, h1, h2, h3, h4⟩), q⟩
theorem valN_none : ∀ {kvs : NEs} {k : NestedKey}, valN kvs k = none → k ∉ kvs.map (·.1)
  | [], _, _, h => nomatch h
  | (k1, a, v) :: r, k, e, h => by
    have e1 : (if k1 = k then some v else valN r k) = none := e
    by_cases q : k1 = k
    · rw [if_pos q] at e1
      cases e1
    · rw [if_neg q] at e1
      rcases List.mem_cons.mp h with z | z
      · exact q z.symm
      · exact valN_none e1 z
theorem valN_snoc : ∀ {kvs : NEs} {k q : NestedKey} {a : Addr} {v : V}, valN kvs k = none → valN (kvs ++ [(k, a, v)]) q = if q = k then some v else valN kvs q
  | [], k, q, a, v, _ => by
    show (if k = q then some v else none) = if q = k then some v else none
    by_cases e : q = k
    · rw [if_pos e, if_pos e.symm]
    · rw [if_neg e, if_neg (Ne.symm e)]
  | (k1, b, u) :: r, k, q, a, v, h => by
    have e1 : (if k1 = k then some u else valN r k) = none := h
    by_cases z : k1 = k
    · rw [if_pos z] at e1
      cases e1
    · rw [if_neg z] at e1
      show (if k1 = q then some u else valN (r ++ [(k, a, v)]) q) = if q = k then some v else (if k1 = q then some u else valN r q)
      rw [valN_snoc e1]
      by_cases y : k1 = q
      · rw [if_pos y, if_pos y, if_neg (fun t => z (y.trans t))]
      · rw [if_neg y, if_neg y]
theorem ND.put {P : Program} {w : World} {H : Hp} {p a : Addr} {kvs : NEs} {k : NestedKey} {v : V} (d : ND P w H p kvs) (hk : NKV H k (.ref a)) (hd : k.depth ≤ 8) (hn : valN kvs k = none) (hl : kvs.length + 1 < sizeLine) :
    ND P w (upd H p (ndO P w p (kvs ++ [(k, a, v)]))) p (kvs ++ [(k, a, v)]) := by
  have t : ∀ b xs, H b = some (.tup xs) → (upd H p (ndO P w p (kvs ++ [(k, a, v)]))) b = some (.tup xs) := fun b xs e => by
    rw [upd_ne (fun z => by rw [z, d.at_] at e; cases e)]
    exact e
  refine ⟨upd_same, d.sys, by rw [List.length_append]; exact hl, ?_, fun e he => ?_⟩
  · rw [List.map_append]
    refine List.nodup_append.mpr ⟨d.nodup, by simp, fun x hx y hy => ?_⟩
    have ey : y = k := by simpa using hy
    rw [ey]
    intro z
    rw [z] at hx
    exact valN_none hn hx
  · rcases List.mem_append.mp he with he | he
    · exact ⟨NKV.same t _ _ (d.keys e he).1, (d.keys e he).2⟩
    · have ee : e = (k, a, v) := by simpa using he
      rw [ee]
      exact ⟨NKV.same t _ _ hk, hd⟩
end
end OB
set_option Elab.async false
set_option linter.all false
set_option maxRecDepth 100000
set_option maxHeartbeats 4000000
namespace OB
open PySem PySem.Spec PySem.Calls PyProof.Rows L2 PySem.W
section
variable {prog : Program} {w : World} {A : Around} {E : Value → Shared → Prop} {s : Shared} {K : Frag} {x C f b : Addr} {ox : Obj} {od : Option Obj}
theorem ifBound_ne {M : Model} {args : List Value} {Q : Option Value → Shared → Prop} (X : K.In s.heap) (I : InstAt s.heap x ox C od) (hs : findIn K (.ref C) "__ne__" = some (some (.builtin "object.__ne__")))
    (h : wpAny M A (call (.builtin "object.__ne__") (.ref x :: args)) (fun v => Q (some v)) E s) : wpAny M A (callSpecialIfBound? (.ref x) "__ne__" args) Q E s := by
  have go : wpAny M A (call (.builtin "object.__ne__") ([.ref x] ++ args) >>= fun v => pure (some v)) Q E s := wpAny_bind (wpAny_mono h (fun v s' y => wpAny_pure y) fun _ _ y => y)
  simp only [callSpecialIfBound?, bindSpecialIfBound?]
  refine wpAny_holding (wpAny_bind (wpAny_bind (wpAny_bind (I.type.here ((looks_findIn X hs).here (wpAny_bind (wpAny_askSetting (wpAny_ite ?_))))))))
  split
  · exact wpAny_bind (wpAny_of_eq (F.cmp_object.ne.bind _) (wpAny_pure (by exact go)))
  · exact wpAny_tryCatch (wpAny_bind (wpAny_of_eq (F.cmp_object.ne.bind _) (wpAny_pure (by exact go))))
/-- object.__ne__: the own ==, turned round -/
theorem ne_entry {Q : Fin → Shared → Prop} {E' : Value → Shared → Prop} (hu : A.units < cLine) (X : K.In s.heap) (I : InstAt s.heap x ox C od) (hs : findIn K (.ref C) "__eq__" = some (some (.ref f))) (hf : isFn K (.ref f) = true)
    (h : wpAny (model prog w) A (call (.ref f) [.ref x, .ref b]) (fun v s' => v = .bool true ∧ Q (.done (.ret (.bool false))) s') E' s) : wpAny (model prog w) A (Builtin.«object.__ne__» ⟨[.ref x, .ref b], []⟩) Q E' s := by
  unfold Builtin.«object.__ne__»
  refine wpAny_bind (wpAny_pure ?_)
  refine wpAny_bind (wpAny_cRoomFor hu ?_)
  refine wpAny_bind (ifBound_K X I hs hf (wpAny_mono h (fun v s' hv => ?_) fun _ _ y => y))
  obtain ⟨rfl, q⟩ := hv
  exact wpAny_bind (wpAny_truthy_bool (wpAny_pure q))
theorem ne_call {Q : Value → Shared → Prop} (hu : A.in1.units < cLine) (X : K.In s.heap) (I : InstAt s.heap x ox C od) (hm : mroIn K C (.type "object") = some true) (hs : findIn K (.ref C) "__eq__" = some (some (.ref f))) (hf : isFn K (.ref f) = true)
    (h : wpAny (model prog w) A.in1 (call (.ref f) [.ref x, .ref b]) (fun v s' => v = .bool true ∧ Q (.bool false) s') E s) : wpAny (model prog w) A (call (.builtin "object.__ne__") [.ref x, .ref b]) Q E s :=
  wpAny_call (codeAny_call_builtin F.cmp_object.ne.plain F.cmpEntry_ne (check_slot F.cmpKind_ne F.cmpSplit_ne (I.type.andThen (looks_mroIn X hm)) (F.cmpArgs_ne _ _) (ne_entry hu X I hs hf (wpAny_mono h (fun v s' z => z) fun e s' z => z))))
end
end OB
set_option Elab.async false
set_option linter.all false
set_option maxRecDepth 100000
set_option maxHeartbeats 4000000
namespace OB
open PySem PySem.Spec PySem.Calls PyProof.Rows L2 PySem.W
section
variable {prog : Program} {w : World} {A : Around} {E : Value → Shared → Prop} {s : Shared} {K : Frag} {x C f b : Addr} {ox : Obj} {od : Option Obj} {tb : Value}
theorem rc_ne {Q : Value → Shared → Prop} (hu : A.units < cLine) (X : K.In s.heap) (I : InstAt s.heap x ox C od) (hb : Looks (model prog w) s.heap (typeOf (.ref b)) tb) (hn : notFirst K C tb = true)
    (hs : findIn K (.ref C) "__ne__" = some (some (.builtin "object.__ne__")))
    (h : wpAny (model prog w) A (call (.builtin "object.__ne__") [.ref x, .ref b]) (fun v s' => v = .bool false ∧ Q (.bool false) s') E s) : wpAny (model prog w) A (richCompare .NotEq (.ref x) (.ref b)) Q E s := by
  have one : wpAny (model prog w) A (tryCompare (.ref x) "__ne__" (.ref b)) (fun r s' => r = some (.bool false) ∧ Q (.bool false) s') E s := by
    unfold tryCompare
    refine wpAny_bind (ifBound_ne X I hs (wpAny_mono h (fun v s' hv => ?_) fun _ _ e => e))
    obtain ⟨rfl, q⟩ := hv
    exact wpAny_pure ⟨rfl, q⟩
  unfold richCompare
  simp only [oneThing_ref]
  refine wpAny_holding (wpAny_bind (wpAny_cRoomFor hu (wpAny_bind (I.type.here (wpAny_bind (hb.here ?_))))))
  split
  · rename_i q
    have e : subIn K tb (.ref C) = some false := by
      rcases Bool.or_eq_true_iff.mp hn with e | e
      · rw [beq_iff_eq.mp e] at q; simp at q
      · exact beq_iff_eq.mp e
    refine wpAny_bind ((looks_subIn X e).here ?_)
    simp only [Bool.false_eq_true, if_false]
    refine wpAny_bind (wpAny_mono one (fun r s' z => ?_) fun _ _ e => e)
    obtain ⟨rfl, hq⟩ := z
    exact wpAny_pure hq
  · refine wpAny_bind (wpAny_pure ?_)
    simp only [Bool.false_eq_true, if_false]
    refine wpAny_bind (wpAny_mono one (fun r s' z => ?_) fun _ _ e => e)
    obtain ⟨rfl, hq⟩ := z
    exact wpAny_pure hq
end
section
variable {X : Cx} {n : Nat}
/-- x != y of two instances whose own == says True -/
def rNeI (C : Addr) (R : Addr → Addr → Hp → Prop) : R2 := fun x y H Q => DIns C R x y H ∧ ∀ H', Ext H H' → Q (.bl false) H'
theorem op_neI {CX : CXT} {C f : Addr} {fd : FuncData} {ps : List Str} {R : Addr → Addr → Hp → Prop} {E : XK} (F : FnOk X.prog X.w X.K X.mg X.base CX n f fd ps (spEq R)) (hs : findIn X.K (.ref C) "__eq__" = some (some (.ref f)))
    (hne : findIn X.K (.ref C) "__ne__" = some (some (.builtin "object.__ne__"))) (hm : mroIn X.K C (.type "object") = some true) (hf : isFn X.K (.ref f) = true) (hb : Binds X.K fd ps []) (hx : Passes CX X E) (hr : Room (n + 1) X.A) :
    OpR X (compareOp .NotEq) (rNeI C R) := by
  intro pins s σ H x y u v Q I rx ry hq
  obtain ⟨⟨a, b, dx, dy, fs, gs, rfl, rfl, ha, hb', hR⟩, q⟩ := hq
  cases rx
  cases ry
  obtain ⟨mA, J, _⟩ := ins_get I.hok ha
  obtain ⟨mB, J', _⟩ := ins_get I.hok hb'
  obtain ⟨od, J, _⟩ := J.look
  obtain ⟨od', J', _⟩ := J'.look
  show wpAny (model X.prog X.w) X.A (richCompare .NotEq (.ref a) (.ref b)) _ _ s
  have hr1 : Room n X.A.in1 := hr.in1
  refine rc_ne (tb := .ref C) hr.units0 I.kIn J J'.type (by simp [notFirst]) hne (ne_call hr1.units0 I.kIn J hm hs hf ?_)
  have hsp : spEq R [.ref a, .ref b] H (fun v H' => v = .bl true ∧ Ext H H') E := ⟨a, b, rfl, hR, fun H' e => ⟨rfl, e⟩⟩
  have hl := F.len _ _ _ _ hsp
  have r2 : Vals [V.ref a, V.ref b] [Value.ref a, Value.ref b] := .cons rfl (.cons rfl .nil)
  refine wpAny_call (codeAny_mono (F.run X.A.in1 X.stack s H ⟨[.ref a, .ref b], []⟩ [.ref a, .ref b] [.ref a, .ref b] _ E hr1 I.env0.in1 (by
    have z := hb s [.ref a, .ref b] I.kIn (by simpa using hl)
    simpa using z) r2 hsp) fun r s' hq => ?_)
  cases r with
  | error e => exact hx pins σ H s e s' I hq
  | ok fl =>
    cases fl with
    | ret w =>
      obtain ⟨z, H', I', rz, ez, ex⟩ := I.after hq
      subst ez
      cases rz
      exact ⟨rfl, rfl, .bl false, H', I', rfl, q H' ex⟩
    | next => exact False.elim hq
    | brk => exact False.elim hq
    | cont => exact False.elim hq
end
end OB
set_option Elab.async false
set_option linter.all false
set_option maxRecDepth 100000
set_option maxHeartbeats 4000000
namespace OB
open PySem PySem.Spec PySem.Calls PyProof.Rows L2 PySem.W
/-! ### a = b = c = d = e -/
def tAsg4 (te : TE) (g1 g2 g3 g4 : TG) : TS := fun D σ H => te σ H fun x H1 => g1 x σ H1 fun σ1 H2 => g2 x σ1 H2 fun σ2 H3 => g3 x σ2 H3 fun σ3 H4 => g4 x σ3 H4 D.nx
theorem ps_asg4 {X : Cx} {pos : Pos} {e t1 t2 t3 t4 : Expr} {te : TE} {g1 g2 g3 g4 : TG} (he : PE X e te) (h1 : PG X t1 g1) (h2 : PG X t2 g2) (h3 : PG X t3 g3) (h4 : PG X t4 g4)
    (ha : (assignEach [t1, t2, t3, t4] X.env).map (·.2) = [assign t1 X.env, assign t2 X.env, assign t3 X.env, assign t4 X.env] := by rfl) (hw : swappedStores [t1, t2, t3, t4] e X.env = pure none := by rfl) :
    PS X (.Assign [t1, t2, t3, t4] e pos) (tAsg4 te g1 g2 g3 g4) := by
  refine ⟨fun pins s σ H D I h => ?_⟩
  refine wpAny_Assign_stores (thn (he.run pins s σ H _ I h) fun v s1 ⟨x, H1, I1, r1, q1⟩ => ?_) rfl hw
  rw [ha]
  refine wpAny_bind (wpAny_holding (thn (h1.run pins s1 σ H1 x v _ I1 r1 q1) fun _ s2 ⟨σ2, H2, I2, q2⟩ => ?_))
  refine wpAny_bind (wpAny_holding (thn (h2.run pins s2 σ2 H2 x v _ I2 r1 q2) fun _ s3 ⟨σ3, H3, I3, q3⟩ => ?_))
  refine wpAny_bind (wpAny_holding (thn (h3.run pins s3 σ3 H3 x v _ I3 r1 q3) fun _ s4 ⟨σ4, H4, I4, q4⟩ => ?_))
  exact thn (h4.run pins s4 σ4 H4 x v _ I4 r1 q4) fun _ s5 q => q
/-! ### enumerate over a tuple -/
theorem meets_enum1 (t : Addr) (items : Array Value) :
    Meets (Builtin.«enumerate.__new__» ⟨[.type "enumerate", .ref t], []⟩) (fun _ R s => s.heap.IsTuple t items ∧
      R (.ok (.ret (.ref (s.heap.push { cls := .type "tuple_iterator", data := .fields #[.ref t, .int 0 0] }).objs.size))) { s with heap := (s.heap.push { cls := .type "tuple_iterator", data := .fields #[.ref t, .int 0 0] }).push { cls := .type "enumerate", data := .fields #[.none, .bool false, .ref s.heap.objs.size, rawInt 0, .none, .none] } }) :=
  .of_wp fun prog w A R s h => by
    obtain ⟨hp, g, d, tk, os⟩ := s; obtain ⟨h1, h⟩ := h
    have hsub := PySem.sub_enumerate
    have q1 : ∀ {A' : Around} {E : Value → Shared → Prop} {Q : Value → Shared → Prop}, Q (.ref hp.objs.size) ⟨hp.push { cls := .type "tuple_iterator", data := .fields #[.ref t, .int 0 0] }, g, d, tk, os⟩ → wpAny (model prog w) A' (pyIter (.ref t)) Q E ⟨hp, g, d, tk, os⟩ :=
      fun q => (begins_tuple t items).iter prog w _ _ ⟨hp, g, d, tk, os⟩ _ h1 q
    wp_walk using q1
    refine wpAny_stack_any fun st => wpAny_pure ?_
    split
    · rename_i c _ _ _ _ _
      cases (c == Value.type "enumerate")
      · wp_walk using q1
        exact ⟨_, rfl, h⟩
      · wp_walk using q1
        exact ⟨_, rfl, h⟩
    · wp_walk using q1
      exact ⟨_, rfl, h⟩
theorem call_enumT {prog : Program} {w : World} {A : Around} {E : Value → Shared → Prop} {s : Shared} {t : Addr} {items : Array Value} {Q : Value → Shared → Prop} (hL : s.heap.IsTuple t items)
    (h : ∀ h', IsEnum h' (s.heap.objs.size + 1) s.heap.objs.size 0 .none → h'.IsTupleIter s.heap.objs.size t 0 → (∀ b o, s.heap.get? b = some o → h'.get? b = some o) → Q (.ref (s.heap.objs.size + 1)) { s with heap := h' }) :
    wpAny (model prog w) A (call (.type "enumerate") [.ref t]) Q E s := by
  refine callType_new PySem.F.called_enumerate (by decide) (PySem.F.typeCall_enumerate_1 _) (PySem.F.newCall_enumerate_1 _) (fun obj => PySem.F.args_object_init_2 obj _) PySem.F.entry_enumerate_new (meets_enum1 t items) ⟨hL, ?_⟩
  have hz : (s.heap.push { cls := .type "tuple_iterator", data := .fields #[.ref t, .int 0 0] }).objs.size = s.heap.objs.size + 1 := Heap.size_push ..
  show _ ∧ _
  rw [hz]
  have he : IsEnum ((s.heap.push { cls := .type "tuple_iterator", data := .fields #[.ref t, .int 0 0] }).push { cls := .type "enumerate", data := .fields #[.none, .bool false, .ref s.heap.objs.size, rawInt 0, .none, .none] }) (s.heap.objs.size + 1) s.heap.objs.size 0 .none := by
    have z := Heap.get?_push_size (s.heap.push { cls := .type "tuple_iterator", data := .fields #[.ref t, .int 0 0] }) (o := { cls := .type "enumerate", data := .fields #[.none, .bool false, .ref s.heap.objs.size, rawInt 0, .none, .none] }) rfl
    rw [hz] at z
    exact z
  exact ⟨⟨_, he, rfl⟩, h _ he ⟨_, Heap.get?_push_of_some _ (Heap.get?_push_size _ rfl), rfl, rfl⟩ fun b o x => Heap.get?_push_of_some _ (Heap.get?_push_of_some _ x)⟩
/-- the tuple at a, each item in a new pair with its place -/
def ItE (K : PySem.W.Frag) (a : Addr) : It :=
  ⟨fun i H => ∃ (xs : List V) (x : V), SqT K H a xs ∧ xs[i]? = some x, fun i H v H' => ∃ T x, v = .ref T ∧ H T = none ∧ H' = upd H T (.tup [.int (i : Nat), x]) ∧ ∀ xs, SqT K H a xs → xs[i]? = some x, fun i H => ∃ xs : List V, SqT K H a xs ∧ xs.length ≤ i⟩
theorem turn_enumT {P : Program} {w : World} {K : PySem.W.Frag} {elts : List Expr} {kk : Nat} {tpos : Pos} (a e it : Addr) :
    Turn P w K (.Tuple elts kk tpos) (ItE K a) [e, it] e (fun i h => (∃ old, IsEnum h e it ((i : Nat) : Int) old) ∧ h.IsTupleIter it a i ∧ e ≠ it) where
  mem := by simp
  obj := fun i h st b hb => by
    obtain ⟨⟨old, he⟩, ⟨o, ho, hc, hd⟩, _⟩ := st
    have e' : b = e ∨ b = it := by simpa using hb
    rcases e' with z | z
    · rw [z]; exact ⟨_, he, fun v q => nomatch q⟩
    · rw [z]; exact ⟨o, ho, fun v q => by rw [hd] at q; cases q⟩
  keep := fun i h h' st k => let ⟨⟨old, he⟩, hi, hne⟩ := st; ⟨⟨old, k e (by simp) _ he⟩, hi.at fun o q => k it (by simp) o q, hne⟩
  item := by
    intro X hP hw hK hc i pins s σ H E I hf st hg
    subst hP hw hK
    obtain ⟨⟨old, he⟩, hit, hne⟩ := st
    obtain ⟨xs, x, hq, hx⟩ := hg
    obtain ⟨its, rv, p, hz⟩ := I.tuple hq
    obtain ⟨u, hu, ru⟩ := rv.get hx
    have hel : e < s.heap.objs.size := Heap.lt_size he
    have hil : it < s.heap.objs.size := by obtain ⟨_, q, _⟩ := hit; exact Heap.lt_size q
    have tit : a ≠ it := by
      intro z
      obtain ⟨o1, h1, c1, _⟩ := hit
      obtain ⟨o2, h2, c2, _⟩ := p
      rw [z, h1] at h2
      cases h2
      rw [c1] at c2
      exact absurd (Value.type.inj c2) (by decide)
    have nef : e ∉ [it, a] := by
      intro z
      rcases List.mem_cons.mp z with z | z
      · exact hne z
      · have z' : e = a := by simpa using z
        obtain ⟨o2, h2, c2, _⟩ := p
        have he' : s.heap.get? e = some _ := he
        rw [z', h2] at he'
        cases he'
        exact absurd (Value.type.inj c2) (by decide)
    have hlt : i < its.toArray.size := by
      have := (List.getElem?_eq_some_iff.mp hu).1
      simpa using this
    refine wpAny_pyNext_enum_itemD (Draws.tuple (A := X.A.in1) (I.ok.hd hc) it a tit its.toArray) he ⟨hit, p⟩ hlt hne nef fun y h' tk hy ho hst hT hsz hk => ?_
    have ey : y = u := by
      have hy' : its[i]? = some y := by simpa using hy
      rw [hu] at hy'
      exact (Option.some.inj hy').symm
    subst ey
    refine ⟨_, rfl, wpAny_letOwnedTupleGo_enum (s := { s with heap := h', toks := tk + 1 }) ho fun h'' he' sb => ?_⟩
    have hT2 : h''.get? s.heap.objs.size = some { cls := .type "tuple", data := .seq #[.int i tk, y] } := (sb.2 _ (Nat.ne_of_gt hel)).trans hT
    have new : ObjOk X.prog X.w (upd H s.heap.objs.size (.tup [.int (i : Nat), x])) h'' s.heap.objs.size (.tup [.int (i : Nat), x]) :=
      ⟨by show 2 ≤ sizeLine; decide, [.int i tk, y], .cons ⟨_, rfl⟩ (.cons ru .nil), ⟨_, hT2, rfl, _, rfl⟩⟩
    have I1 : Inv X pins σ (upd H s.heap.objs.size (.tup [.int (i : Nat), x])) { s with heap := h'', toks := tk + 1 } :=
      I.turnedNew (ch := [e, it]) (fun b ob hb q => (sb.2 b (fun z => hb (by simp [z]))).trans (hk b ob (fun z => hb (by simp [z])) (fun z => hb (by simp [z])) q)) hf (Nat.le_refl _) new
    refine ⟨.ref s.heap.objs.size, _, I1, rfl, ⟨_, x, rfl, I.hok.fresh (Nat.le_refl _), rfl, fun ys hy => by rw [I.tuple_inj hy hq]; exact hx⟩, ⟨⟨y, ?_⟩, hst.1.at fun o q => (sb.2 it (Ne.symm hne)).trans q, hne⟩, fun b hb => ?_⟩
    · rw [show ((i + 1 : Nat) : Int) = (i : Int) + 1 from rfl]
      exact he'
    · have hb' : b < s.heap.objs.size := by
        have e' : b = e ∨ b = it := by simpa using hb
        rcases e' with z | z
        · exact z ▸ hel
        · exact z ▸ hil
      rw [upd_ne (Nat.ne_of_lt hb')]
      exact (hf b hb).1
  done := by
    intro X hP hw hK hc i pins s σ H E I hf st hg
    subst hP hw hK
    obtain ⟨⟨old, he⟩, hit, hne⟩ := st
    obtain ⟨xs, hq, hx⟩ := hg
    obtain ⟨its, rv, p, hz⟩ := I.tuple hq
    obtain ⟨f0, f1, f2, f3, f4, f5⟩ := hf it (by simp)
    have tit : a ≠ it := by
      intro z
      obtain ⟨o1, h1, c1, _⟩ := hit
      obtain ⟨o2, h2, c2, _⟩ := p
      rw [z, h1] at h2
      cases h2
      rw [c1] at c2
      exact absurd (Value.type.inj c2) (by decide)
    have hl := rv.length
    have nil : its.toArray[i]? = none := by
      simp
      omega
    have D : Draws X.prog X.w X.A.in1 it [it, a] 0 (fun _ _ => True) (fun _ h => h.IsTupleIter it a i ∧ h.IsTuple a its.toArray) :=
      { live := fun _ _ st => let ⟨o, ho, _⟩ := st.1; ⟨o, ho⟩
        frame := fun _ _ _ st hk => ⟨st.1.at fun o e => hk it (by simp) o e, st.2.at fun o e => hk a (by simp) o e⟩
        item := fun _ _ _ _ hi => absurd hi (Nat.not_lt_zero _)
        done := fun s Q E st hE => wpAny_nextOf_tuple_end (I.ok.hd hc) st.1 st.2 nil hE }
    exact wpAny_pyNext_enum_endD D he ⟨hit, p⟩ fun h' eb => ⟨rfl, I.turned (t' := s.toks) (fun b o hb q => eb b o hb q) f0 f1 f3 f4 f5⟩
  self := fun A i s Q E st h => let ⟨⟨_, he⟩, _⟩ := st; wpAny_pyIter_enum he h
def iEnT (K : PySem.W.Frag) (ta : TA) : TI := fun σ H R => ta σ H fun vs H1 => ∃ a xs, vs = [.ref a] ∧ SqT K H1 a xs ∧ R (ItE K a) H1
theorem pi_enumT {X : Cx} {e : Expr} {ta : TA} {p pos tpos : Pos} {elts : List Expr} {kk : Nat} (hg : Gl X "enumerate") (hm : X.mg "enumerate" = none) (ha : PA X [e] ta) (hs : starEach [e] X.env = [(false, eval e X.env)] := by rfl) :
    PI X (.Tuple elts kk tpos) (.Call (.Name "enumerate" p) [e] [] pos) (iEnT X.K ta) := by
  refine ⟨fun pins s σ H R I h => ?_⟩
  refine Call_ (ld_blt I hg hm boot_enumerate (PyProof.Rows.callWith_type1 (thn (ha.run pos pins s σ H _ I h) fun us s1 ⟨vs, H1, I1, r1, q1⟩ => ?_) hs rfl))
  obtain ⟨a, xs, ex, hq, q⟩ := q1
  subst ex
  cases r1 with
  | cons r rr =>
    cases rr
    cases r
    obtain ⟨its, rv, p', hz⟩ := I1.tuple hq
    refine call_enumT p' fun h' he hit hk => wpAny_pyIter_enum he ?_
    have I2 : Inv X pins σ H1 { s1 with heap := h' } := I1.kept (t' := s1.toks) hk
    refine ⟨s1.heap.objs.size + 1, [s1.heap.objs.size + 1, s1.heap.objs.size], _, _, H1, rfl, I2, turn_enumT a (s1.heap.objs.size + 1) s1.heap.objs.size, ⟨⟨.none, he⟩, hit, Nat.succ_ne_self _⟩, fun b hb => ?_, q⟩
    have hle : s1.heap.objs.size ≤ b := by
      have e' : b = s1.heap.objs.size + 1 ∨ b = s1.heap.objs.size := by simpa using hb
      rcases e' with z | z
      · exact z ▸ Nat.le_add_right _ _
      · exact z ▸ Nat.le_refl _
    exact I1.fpOk hle (I1.hok.fresh hle)
/-- the for loop over it -/
theorem for_enumT {K : PySem.W.Frag} {a : Addr} {xs : List V} {g : TG} {tb : TS} {D : Ends} {σ : L2.St} {H : Hp} (Pv : Nat → L2.St → Hp → Prop) (h0 : Pv 0 σ H) (hl : ∀ i σ H, i ≤ xs.length → Pv i σ H → SqT K H a xs)
    (hs : ∀ i x σ H, xs[i]? = some x → Pv i σ H → ∀ T, H T = none → g (.ref T) σ (upd H T (.tup [.int (i : Nat), x])) fun σ2 H2 => tb { D with nx := Pv (i + 1), ct := Pv (i + 1), bk := D.nx } σ2 H2) (hd : ∀ σ H, Pv xs.length σ H → D.nx σ H) :
    ∃ W : Nat → Nat → L2.St → Hp → Prop, (∃ m, W 0 m σ H) ∧ ∀ i m σ H, W i m σ H →
      ((ItE K a).stop i H ∧ D.nx σ H) ∨ ((ItE K a).go i H ∧ ∃ N : L2.St → Hp → Prop, (∀ σ' H', N σ' H' → ∃ m', m' < m ∧ W (i + 1) m' σ' H') ∧ ∀ x H', (ItE K a).yld i H x H' → g x σ H' fun σ2 H2 => tb { D with nx := N, ct := N, bk := D.nx } σ2 H2) := by
  refine ⟨fun i m σ H => m = xs.length - i ∧ i ≤ xs.length ∧ Pv i σ H, ⟨xs.length, by simp, Nat.zero_le _, h0⟩, ?_⟩
  rintro i m σ H ⟨rfl, hi, p⟩
  have hS := hl i σ H hi p
  by_cases hlt : i < xs.length
  · have hx : xs[i]? = some xs[i] := List.getElem?_eq_getElem hlt
    refine .inr ⟨⟨xs, _, hS, hx⟩, Pv (i + 1), fun σ' H' p' => ⟨xs.length - (i + 1), by omega, rfl, hlt, p'⟩, fun v H' y => ?_⟩
    obtain ⟨T, x, rfl, nT, rfl, fx⟩ := y
    have ex := (fx xs hS).symm.trans hx
    rw [Option.some.inj ex.symm] at hx
    exact hs i x σ H hx p T nT
  · have e : i = xs.length := by omega
    subst e
    exact .inl ⟨⟨xs, hS, Nat.le_refl _⟩, hd σ H p⟩
end OB
set_option Elab.async false
set_option linter.all false
set_option maxRecDepth 100000
set_option maxHeartbeats 4000000
namespace OB
open PySem PySem.Spec PySem.Calls PyProof.Rows L2 PySem.W
section
variable {X : Cx} {CX : CXT} {k i : Nat} {f C : Addr} {fd : FuncData} {ps : List Str} {sp : Sp} {E : XK} {x : Str} {p pos : Pos} {e : Expr} {es : List Expr} {t : TA} {dvs : List V} {ds : List Value}
/-- c(e, ..), c a local that holds the class at C -/
def tMakeL (i : Nat) (C : Addr) (sp : Sp) (dvs : List V) (E : XK) (t : TA) : TE := fun σ H Q => σ[i]? = some (some (.ref C)) ∧ tMake C sp dvs E t σ H Q
theorem pe_makeL (M : Mk X.K C f) (F : FnOk X.prog X.w X.K X.mg X.base CX k f fd ps sp) (hr : Room (k + 1) X.A) (hN : X.N[i]? = some x) (hv : Vis X.env.scope x) (hb : Binds X.K fd ps ds) (hd : Vals dvs ds) (hx : Passes CX X E) (ha : PA X (e :: es) t)
    (hdb : (x == ("__debug__" : Str)) = false := by decide) (hcd : (x == ("__classdict__" : Str)) = false := by decide)
    (he : starEach (e :: es) X.env = (false, eval e X.env) :: starEach es X.env := by rfl) (hpl : (backTo pos (starEach es X.env)).any (·.1) = false := by rfl) : PE X (.Call (.Name x p) (e :: es) [] pos) (tMakeL i C sp dvs E t) := by
  refine ⟨fun pins s σ H Q I h => ?_⟩
  obtain ⟨hs, ht⟩ := h
  refine wpAny_Call_Name_kw (thn ((pe_var (pos := p) hN hv hdb hcd).run pins s σ H (fun v H1 => v = .ref C ∧ H1 = H) I ⟨.ref C, hs, rfl, rfl⟩) fun u s1 ⟨v, H1, I1, r1, q1⟩ => ?_)
  obtain ⟨rfl, rfl⟩ := q1
  cases r1
  refine callWith_K (h₀ := X.base) I.ok.mod.kin M.kp (thn (ha.run pos pins s1 σ _ _ I1 ht) fun us s2 ⟨vs, H2, I2, r, q⟩ => ⟨I2.kIn, ?_⟩) he hpl
  exact run_make M F hr hb hd hx I2 r q
end
end OB
set_option Elab.async false
set_option linter.all false
set_option maxRecDepth 100000
set_option maxHeartbeats 4000000
namespace OB
open PySem PySem.Spec PySem.Calls PyProof.Rows L2 PySem.W
/-- a text by its codes -/
def tx (l : List Nat) : Str := ⟨l.toArray⟩
theorem tx_len (l : List Nat) : (tx l).length = l.length := by
  show l.toArray.size = l.length
  simp
theorem tx_cps (l : List Nat) : (tx l).cps.toList = l := rfl
theorem tx_inj {a b : List Nat} (h : tx a = tx b) : a = b := by
  have e := congrArg (fun z : Str => z.cps.toList) h
  exact e
theorem tx_app (a b : List Nat) : tx a ++ tx b = tx (a ++ b) := by
  show (⟨a.toArray ++ b.toArray⟩ : Str) = ⟨(a ++ b).toArray⟩
  simp
theorem tx_one (c : Nat) : (⟨#[c]⟩ : Str) = tx [c] := rfl
theorem foldl_app (x : Array Nat) : ∀ (n : Nat) (acc : List Nat), List.foldl (fun a b : Array Nat => a ++ b) acc.toArray (List.replicate n x) = (acc ++ (List.replicate n x.toList).flatten).toArray
  | 0, acc => by simp
  | n + 1, acc => by
    rw [List.replicate_succ, List.foldl_cons, List.replicate_succ, List.flatten_cons]
    have e : acc.toArray ++ x = (acc ++ x.toList).toArray := by simp
    rw [e, foldl_app x n, List.append_assoc]
def rRepS : R2 := fun x y H Q => ∃ (l : List Nat) (n : Nat), x = .str (tx l) ∧ y = .int (n : Int) ∧ 1 ≤ n ∧ n ≤ 16777216 ∧ l.length * n ≤ 16777216 ∧ Q (.str (tx (List.replicate n l).flatten)) H
theorem op_repS {X : Cx} : OpR X (binaryOp .Mult) rRepS := by
  intro pins s σ H x y v u Q I rx ry h
  obtain ⟨l, n, rfl, rfl, h1, h2, hz, q⟩ := h
  obtain ⟨t, rfl⟩ := rx
  obtain ⟨t2, rfl⟩ := ry
  have hn : ¬ (n : Int) < 1 := by omega
  have hN : ((n : Int)).toNat = n := Int.toNat_natCast n
  have long : Builtin.Str.tooLong ((tx l).length * ((n : Int)).toNat) = false := by
    rw [hN, tx_len]
    unfold Builtin.Str.tooLong
    exact decide_eq_false (by rw [sizeLine_eq]; omega)
  refine P.mul_str (by rw [decide_eq_false (by omega), decide_eq_false (by omega)]; rfl) (fun _ _ => ?_) (fun _ _ => long) ?_
  · rw [tx_len]
    have e1 : (l.length : Int) * (n : Int) ≤ 16777216 := by
      rw [← Int.natCast_mul]
      exact Int.ofNat_le.mpr hz
    have e2 : (l.length : Int) ≤ (2 ^ 63 - 1) / (n : Int) := Int.le_ediv_of_mul_le (by omega) (Int.le_trans e1 (by decide))
    omega
  · rw [if_neg hn]
    by_cases c : ((n : Int) == 1 || (tx l).length == 0) = true
    · rw [if_pos c]
      have e : (List.replicate n l).flatten = l := by
        rcases Bool.or_eq_true_iff.mp c with c | c
        · have : n = 1 := by
            have := eq_of_beq c
            omega
          subst this
          simp
        · rw [tx_len] at c
          have : l = [] := List.length_eq_zero_iff.mp (eq_of_beq c)
          subst this
          simp
      rw [e] at q
      exact ⟨.str (tx l), H, I, ⟨t, rfl⟩, q⟩
    · rw [if_neg c]
      have e : (⟨(List.replicate ((n : Int)).toNat (tx l).cps).foldl (· ++ ·) #[]⟩ : Str) = tx (List.replicate n l).flatten := by
        rw [hN]
        have z := foldl_app (tx l).cps n []
        rw [List.nil_append, tx_cps] at z
        show (⟨List.foldl (fun a b : Array Nat => a ++ b) (#[] : Array Nat) (List.replicate n (tx l).cps)⟩ : Str) = ⟨(List.replicate n l).flatten.toArray⟩
        rw [← z] <;> rfl
      rw [e]
      refine ⟨?_, .str _, H, I.tok _, ⟨_, rfl⟩, q⟩
      show (tx (List.replicate n l).flatten).length ≤ sizeLine
      rw [tx_len, List.length_flatten, List.map_replicate, List.sum_replicate_nat, sizeLine_eq, Nat.mul_comm]
      exact hz
end OB
set_option Elab.async false
set_option linter.all false
set_option maxRecDepth 100000
set_option maxHeartbeats 4000000
namespace OB
open PySem PySem.Spec PySem.Calls PyProof.Rows L2 PySem.W PySem.HandSPX
section
open Builtin Builtin.ObjectAttr
abbrev aeTail : List Value := [.type "ArithmeticError", .type "Exception", .type "BaseException", .type "object"]
theorem ae_pass (self : Value) (C : Addr) : refuseLoop self "__setattr__" (.ref C :: aeTail) = pure () := by
  rw [refuseLoop_ref]
  exact PySem.F.store_ArithmeticError.passes self
variable {prog : Program} {w : World} {A : Around} {E : Value → Shared → Prop} {R : Result → Shared → Prop} {hp : Heap} {g : Array GenState} {d : Drawn} {t : Nat} {os : OsState}
/-- self.name = v on an error over ArithmeticError that has no dict yet -/
theorem ae_osa {K : Frag} {name : Str} {tk : Tok} {v : Value} {x C : Addr} {fv : Array Value} {cd : ClassData}
    (X : K.In hp) (hx : hp.get? x = some { cls := .ref C, data := .fields fv }) (hcd : clsIn K C = some cd) (hm : cd.mro = .ref C :: aeTail) (hh : cd.hasDict = true) (ha : findIn K (.ref C) name = some none)
    (hq : ∀ h' tk' dx, (∀ b o, b ≠ x → hp.get? b = some o → h'.get? b = some o) → hp.objs.size ≤ dx → dx ≠ x → h'.get? x = some { cls := .ref C, dict := some dx, data := .fields fv } →
      h'.Ns1 dx (fun y => if y = name then some v else none) → R (.ok (.ret .none)) ⟨h', g, d, tk', os⟩) :
    codeAny (model prog w) A (.call (.builtin "object.__setattr__") ⟨[.ref x, .str name tk, v], []⟩) R ⟨hp, g, d, t, os⟩ := by
  have I : InstAt hp x { cls := .ref C, data := .fields fv } C none := ⟨hx, rfl, rfl, trivial⟩
  have SF := PySem.F.store_object
  have hob : cd.mro.contains (.type "object") = true := by
    rw [hm, List.contains_cons]
    exact Bool.or_eq_true_iff.mpr (.inr (by decide +kernel))
  have hne : cd.mro.isEmpty = false := by rw [hm] <;> rfl
  have nxs : x ≠ hp.objs.size := Nat.ne_of_lt (Heap.lt_size hx)
  have sub : Looks (model prog w) hp (isInstance (.ref x) (.type "object")) true := I.type.andThen (looks_mroIn X (by unfold mroIn; rw [hcd, Option.bind_some, if_neg (by rw [hne]; decide), hob]))
  refine codeAny_call_builtin SF.slot.plain SF.entry (@check_slot (model prog w) _ _ ⟨hp, g, d, t, os⟩ "object.__setattr__" "object" "__setattr__" (.ref x) [.str name tk, v] [] _ SF.kind SF.split sub (SF.args (.ref x) (.str name tk) v) ?_)
  have l1 : Looks (model prog w) hp (mroOf (.ref C)) cd.mro := (looks_clsIn X hcd).andThen .now
  have l2 : Looks (model prog w) hp (storeTaker? none) none := .now
  have l3 : Looks (model prog w) hp (classData C) cd := looks_clsIn X hcd
  rw [osa_eq, refuse_eq]
  refine wpAny_bind (wpAny_bind (I.type.at (wpAny_bind (l1.at ?_))))
  rw [hm, ae_pass]
  refine wpAny_pure (wpAny_bind (I.type.at (wpAny_bind ((looks_findIn X ha).at (wpAny_bind (l2.at ?_))))))
  show wpAny _ _ (storeInOwnDict (.ref x) (.ref C) (.str name tk) name v false) _ _ _
  obtain ⟨nm, bs, mro, ns, qn, hd, sn, sb, ab, col, del⟩ := cd
  dsimp only at hh
  subst hh
  unfold storeInOwnDict ownDictForStores
  repeat (first | with_reducible refine store_in_new ?_ ?_ | with_reducible refine wpAny_loadPart_at hx ?_ | with_reducible refine l3.at ?_ | wp_step)
  · exact ⟨_, #[], _, (Heap.get?_update_ne _ _ _ _ nxs.symm).trans (Heap.get?_push_at rfl rfl), rfl, fun e he => absurd he (by simp), fun _ => rfl⟩
  · intro h' tk' hn' hs
    have hx1 : (hp.push { cls := .type "dict", data := .dict #[] }).get? x = some { cls := .ref C, data := .fields fv } := Heap.get?_push_of_some _ hx
    refine hq h' tk' hp.objs.size (fun b o hb ho => ?_) (Nat.le_refl _) nxs.symm ?_ hn'
    · exact (hs.2 b (Nat.ne_of_lt (Heap.lt_size ho))).trans ((Heap.get?_update_ne _ _ _ _ hb).trans (Heap.get?_push_of_some _ ho))
    · exact (hs.2 x nxs).trans (Heap.get?_update_self _ hx1 rfl)
end
/-! ### Endless -/
def enA (p1 p2 : Pos) : Arguments := { posonlyargs := [], args := [{ arg := "self", annotation := none, pos := p1 }, { arg := "loop", annotation := none, pos := p2 }], vararg := none, kwonlyargs := [], kw_defaults := [], kwarg := none, defaults := [] }
def enB (q1 q2 q3 q4 : Pos) : List Stmt := [.Assign [.Attribute (.Name "self" q1) "loop" q2] (.Name "loop" q3) q4]
def enS : Scope := { kind := .function, names := [(PySem.Str.ofString "self", .local), (PySem.Str.ofString "loop", .local)], isGenerator := false, isCoroutine := false, more := [] }
/-- what the written part says of Endless, at C, and of its __init__, at fI -/
structure EndTxt (K : Frag) (mg : Str → Option Value) (C fI : Addr) : Prop where
  gC : mg "Endless" = some (.ref C)
  cls : ∃ nm q N bs sn sub ab col dd k0 k1 k2 k3 k5, K.lookup C = some (excClassObj nm q C N bs aeTail true sn sub ab col dd k0 k1 k2 k3 k5 "ArithmeticError.__new__")
  sa : findIn K (.ref C) "__setattr__" = some (some (.builtin "object.__setattr__"))
  noL : findIn K (.ref C) "loop" = some none
  iC : findIn K (.ref C) "__init__" = some (some (.ref fI))
  tC : typeIn K (.ref fI) = some (.type "function")
  kC : keepIn K (.ref C) = true
  exC : subIn K (.ref C) (.type "BaseException") = some true
  tyC : typeIn K (.ref C) = some (.type "type")
  te : exmOne K (.ref C) (.ref C) = some true
  fn : ∃ (oc : Value) (od : Option Addr) (doc pm : Value) (an : Option Addr) (cdv ct kV : Value) (osl : Array (Option Value)) (p1 p2 q1 q2 q3 q4 : Pos),
    K.lookup fI = some ⟨oc, od, .func (fnOf "__init__" "Endless.__init__" (enA p1 p2) (enB q1 q2 q3 q4) enS .none kV doc pm an cdv ct), osl⟩ ∧ codeIn K cdv "Endless.__init__" = true
/-- what __init__ leaves of a fresh error at x -/
structure EnInit (h h' : Heap) (x C dx t1 : Addr) (v : Value) : Prop where
  keep : ∀ b o, b ≠ x → h.get? b = some o → h'.get? b = some o
  obj : h'.get? x = some { cls := .ref C, dict := some dx, data := .fields #[.ref t1, .none, .none, .none, .bool false, .none] }
  dbig : h.objs.size ≤ dx
  dne : dx ≠ x
  ns : h'.Ns1 dx (fun y => if y = "loop" then some v else none)
/-- a made Endless -/
structure EnMade (h h' : Heap) (e C d : Addr) (v : Value) : Prop where
  keep : ∀ b o, h.get? b = some o → h'.get? b = some o
  new : h.objs.size ≤ e
  obj : ∃ oe vs, h'.get? e = some oe ∧ oe.cls = .ref C ∧ oe.dict = some d ∧ oe.data = .fields vs ∧ vs[1]? = some .none
  dbig : h.objs.size ≤ d
  dne : d ≠ e
  ns : h'.Ns1 d (fun y => if y = "loop" then some v else none)
section
variable {prog : Program} {w : World} {A : Around} {E : Value → Shared → Prop} {R : Result → Shared → Prop} {s : Shared} {K : Frag} {mg : Str → Option Value} {C fI : Addr}
theorem en_local {M : Model} {s : Shared} {name : Str} {scope : Scope} {L a : Addr} {cd : Value} {m : Str → Option Value} {x : Str} {pos : Pos} {v : Value} {Q : Value → Shared → Prop} {A : Around} {E : Value → Shared → Prop} (hn : s.heap.Ns L m) (hv : m x = some v) (h : Q v s)
    (hk : scope.kind = .function := by rfl) (hl : (envOfC name scope L a cd).kindOf x = some .local := by rfl) (hd : (x == ("__debug__" : Str)) = false := by decide) :
    wpAny M A (eval (.Name x pos) (envOfC name scope L a cd)) Q E s := wpAny_Name (wpAny_loadName_local hk hl hn hv h) hd
theorem en_init (T : EndTxt K mg C fI) {x t0 : Addr} {v : Value} (X : K.In s.heap) (hlim : s.heap.NoLimit) (hx : s.heap.get? x = some (excO C t0)) (hroom : A.depth < recursionLimit)
    (hq : ∀ h' tk dx, EnInit s.heap h' x C dx t0 v → R (.ok (.ret .none)) { s with heap := h', toks := tk }) :
    codeAny (model prog w) A (.call (.ref fI) ⟨[.ref x, v], []⟩) R s := by
  obtain ⟨oc, od, doc, pm, an, cdv, ct, kV, osl, p1, p2, q1, q2, q3, q4, ho, hcd⟩ := T.fn
  obtain ⟨nm, q, N, bs, sn, sub, ab, col, dd, k0, k1, k2, k3, k5, hC⟩ := T.cls
  have hcl : clsIn K C = some { name := nm, bases := bs, mro := .ref C :: aeTail, ns := N, qualname := q, hasDict := true, slotNames := sn, subclasses := sub, abstract := ab, collection := col, hasDel := false } := by unfold clsIn; rw [hC] <;> rfl
  refine Att.call_fn (binds := [("self", .ref x), ("loop", v)]) X hlim ho hcd hroom (BindsTo.of_eq (by first | rfl | with_unfolding_all rfl)) (by first | rfl | decide | with_unfolding_all rfl) (fun s1 IC => ?_) rfl rfl rfl
  obtain ⟨h1, tk1, rfl⟩ := IC.toInCall.same
  have k : ∀ b o, s.heap.get? b = some o → h1.get? b = some o := IC.toInCall.keep
  have hn := IC.toInCall.ns
  have X1 : K.In h1 := X.keeps k
  have hx1 := k _ _ hx
  show wpAny _ _ (execs _ _) _ _ _
  refine wpAny_execs_cons (plainObj_wpAny_Assign_Attribute ?_)
  refine en_local (v := v) hn (by first | rfl | with_unfolding_all rfl | kernel_rfl) (en_local (v := .ref x) hn (by first | rfl | with_unfolding_all rfl | kernel_rfl) ?_)
  refine set_plain X1 (ox := excO C t0) (od := none) ⟨hx1, rfl, rfl, trivial⟩ T.sa ?_
  refine ae_osa X1 hx1 hcl rfl rfl T.noL (fun h3 tk3 dx k3 dn dne hx3 hn3 => ?_)
  show wpAny _ _ (execs _ _) _ _ _
  have z : s.heap.objs.size < h1.objs.size := hn.lt
  exact wpAny_execs_nil (hq h3 tk3 dx ⟨fun b o hb e => k3 b o hb (k b o e), hx3, Nat.le_of_lt (Nat.lt_of_lt_of_le z dn), dne, hn3⟩)
theorem en_made (T : EndTxt K mg C fI) {v : Value} (X : K.In s.heap) (hlim : s.heap.NoLimit) (hroom : A.depth + 1 < recursionLimit)
    (hq : ∀ h' tk e d, EnMade s.heap h' e C d v → R (.ok (.ret (.ref e))) { s with heap := h', toks := tk }) :
    codeAny (model prog w) A (.call (.ref C) ⟨[v], []⟩) R s := by
  obtain ⟨nm, q, N, bs, sn, sub, ab, col, dd, k0, k1, k2, k3, k5, hC⟩ := T.cls
  obtain ⟨hp, g, d, tk, os⟩ := s
  have k : ∀ b o, hp.get? b = some o → ((hp.push (kdv_tup [v])).push (excO C hp.objs.size)).get? b = some o := fun b o e => Heap.get?_push_of_some _ (Heap.get?_push_of_some _ e)
  have hget : ((hp.push (kdv_tup [v])).push (excO C hp.objs.size)).get? (hp.objs.size + 1) = some (excO C hp.objs.size) := by heap_get
  refine call_own PySem.F.excBase_ArithmeticError (fun X => rfl) (X _ _ hC) (looks_findIn X T.iC) (fun self => bind_fn X self T.tC) (by show 1 ≤ sizeLine; decide) ?_
  refine en_init (s := ⟨(hp.push (kdv_tup [v])).push (excO C hp.objs.size), g, d, tk, os⟩) T (X.keeps k) (hlim.keeps k) hget ?_ fun h' tk' dx ⟨k', hx, dn, dne, hns⟩ => ?_
  · show A.depth + 1 < recursionLimit
    exact hroom
  · have old : ∀ b o, hp.get? b = some o → h'.get? b = some o := fun b o e => k' b o (Nat.ne_of_lt (Nat.lt_succ_of_lt (Heap.lt_size e))) (k b o e)
    have z : hp.objs.size + 1 + 1 ≤ dx := by
      first
        | (simpa only [Heap.size_push] using dn)
        | exact dn
    exact ⟨rfl, hq h' tk' (hp.objs.size + 1) dx ⟨old, Nat.le_succ _, ⟨_, _, hx, rfl, rfl, rfl, rfl⟩, Nat.le_trans (Nat.le_trans (Nat.le_succ _) (Nat.le_succ _)) z, dne, hns⟩⟩
end
section
variable {X : Cx} {C fI : Addr}
theorem relO_loop {v : V} {v' : Value} (r : RelV v v') (f : Str) : RelO (List.lookup f [(("loop" : Str), v)]) (if f = "loop" then some v' else none) := relO_put (fs := []) r (mA := fun _ => none) (fun _ => True.intro) f
/-- Endless(e) -/
def tMkEn (C : Addr) (ta : TA) : L2.St → Hp → XK → Prop := fun σ H Q => ta σ H fun vs H1 => ∃ v, vs = [v] ∧ ∀ d, H1 d = none → Q (.ref C) (some d) (upd H1 d (.xd [(("loop" : Str), v)]))
theorem pmk_en {a : Expr} {ta : TA} {p pos : Pos} {k : Nat} (T : EndTxt X.K X.mg C fI) (hr : Room k X.A) (ha : PA X [a] ta) (hg : Gl X "Endless" := by rfl)
    (he : starEach (a :: []) X.env = (false, eval a X.env) :: starEach [] X.env := by rfl) (hpl : (backTo pos (starEach [] X.env)).any (·.1) = false := by rfl) :
    PMk X (.Call (.Name "Endless" p) [a] [] pos) (tMkEn C ta) := by
  intro pins s σ H Q I h
  refine wpAny_Call_Name_kw (ld_glob I hg T.gC ?_)
  refine callWith_K (h₀ := X.base) I.ok.mod.kin T.kC (thn (ha.run pos pins s σ H _ I h) fun us s1 hh => ?_) he hpl
  obtain ⟨vs, H1, I1, r1, v, ev, q1⟩ := hh
  subst ev
  refine ⟨I1.kIn, ?_⟩
  cases r1 with
  | cons rv rn =>
    rename_i v' us'
    cases rn
    show wpAny _ _ (call (.ref C) [v']) _ _ _
    have hlim := I1.nolimit
    obtain ⟨hp, g, dr, tk, os⟩ := s1
    refine wpAny_call (en_made T I1.kIn hlim (by have := hr.dp; omega) fun h' tk' e d M => ?_)
    show MkP X pins σ Q (.ref e) ⟨h', g, dr, tk', os⟩
    obtain ⟨oe, fv, hoe, hc, hd, hdat, h1⟩ := M.obj
    have hns := M.ns
    obtain ⟨G', g1, g2⟩ := restrict h' fun b => decide (b ≠ e)
    have gk : ∀ b, b ≠ e → G'.get? b = h'.get? b := fun b hb => g1 b (decide_eq_true hb)
    have ge : G'.get? e = none := g2 e (by simp)
    have old : ∀ b o, hp.get? b = some o → G'.get? b = some o := fun b o q => (gk b (Nat.ne_of_lt (Nat.lt_of_lt_of_le (Heap.lt_size q) M.new))).trans (M.keep b o q)
    have ob : ObjOk X.prog X.w (upd H1 d (.xd [(("loop" : Str), v)])) G' d (.xd [(("loop" : Str), v)]) := ⟨_, hns.at (fun o q => (gk d M.dne).trans q), fun f => relO_loop rv f⟩
    have J : Inv X pins σ (upd H1 d (.xd [(("loop" : Str), v)])) ⟨G', g, dr, tk', os⟩ := I1.laid (t' := tk') old M.dbig ob
    refine ⟨e, oe, fv, ⟨G', g, dr, tk', os⟩, _, .ref C, some d, rfl, J, fun b o q => ?_, ge, hoe, ⟨hc, hd⟩, hdat, h1, ?_, rfl, I1.bare, raises_own T.exC T.tyC, q1 d (I1.hok.fresh M.dbig)⟩
    · by_cases hb : b = e
      · have q' : G'.get? b = some o := q
        rw [hb, ge] at q'
        cases q'
      · exact (gk b hb).symm.trans q
    · rw [upd_ne (Ne.symm M.dne)]
      exact I1.hok.fresh M.new
/-- raise Endless(e) -/
def tRaiseEn (C : Addr) (W : WX) (ta : TA) : TS := fun _ σ H => tMkEn C ta σ H fun cls d H' => W cls d σ H'
theorem ps_raiseEn {a : Expr} {ta : TA} {W : WX} {p pos pos2 : Pos} {k : Nat} (hc : X.calm = true) (T : EndTxt X.K X.mg C fI) (hr : Room k X.A) (tk : Takes X W) (ha : PA X [a] ta) (hg : Gl X "Endless" := by rfl)
    (he : starEach (a :: []) X.env = (false, eval a X.env) :: starEach [] X.env := by rfl) (hpl : (backTo pos (starEach [] X.env)).any (·.1) = false := by rfl) :
    PS X (.Raise (some (.Call (.Name "Endless" p) [a] [] pos)) none pos2) (tRaiseEn C W ta) := ps_raise hc tk (pmk_en T hr ha hg he hpl)
end
end OB
set_option Elab.async false
set_option linter.all false
set_option maxRecDepth 100000
set_option maxHeartbeats 4000000
namespace OB
open PySem PySem.Spec PySem.Calls PyProof.Rows L2 PySem.W StX
section
variable {X : Cx} {CX : CXT} {k i : Nat} {f g p C : Addr} {sp : Sp} {E : XK} {x m : Str} {q pos apos : Pos} {e o : Expr} {es : List Expr} {t : TA} {ta tb : TE} {pl : Sem Bool}
/-- a def of the module, called -/
def tF (sp : Sp) (E : XK) (t : TA) : TE := fun σ H Q => t σ H fun vs H1 => sp vs H1 Q E
theorem pe_f (F : FnR X.prog X.w X.K X.mg X.base CX k f sp) (hm : X.mg x = some (.ref f)) (hk : keepIn X.K (.ref f) = true) (hr : Room k X.A) (hx : Passes CX X E) (ha : PA X (e :: es) t) (hg : Gl X x := by rfl) (hdb : (x == ("__debug__" : Str)) = false := by decide)
    (he : starEach (e :: es) X.env = (false, eval e X.env) :: starEach es X.env := by rfl) (hpl : (backTo pos (starEach es X.env)).any (·.1) = false := by rfl) : PE X (.Call (.Name x q) (e :: es) [] pos) (tF sp E t) := by
  refine ⟨fun pins s σ H Q I h => ?_⟩
  refine wpAny_Call_Name_kw (ld_glob I hg hm ?_ hdb)
  refine callWith_K (h₀ := X.base) I.ok.mod.kin hk (thn (ha.run pos pins s σ H _ I h) fun us s1 ⟨vs, H1, I1, r, q⟩ => ⟨I1.kIn, ?_⟩) he hpl
  exact wpAny_call (run_fnR F hr hx I1 r q)
/-- .. by star -/
theorem pe_fs (F : FnR X.prog X.w X.K X.mg X.base CX k f sp) (hm : X.mg x = some (.ref f)) (hk : keepIn X.K (.ref f) = true) (hr : Room k X.A) (hx : Passes CX X E) (ha : PA X (e :: es) t) (hg : Gl X x := by rfl) (hdb : (x == ("__debug__" : Str)) = false := by decide)
    (he : starEach (e :: es) X.env = (false, eval e X.env) :: starEach es X.env := by rfl) (hpl : (backTo pos (starEach es X.env)).any (·.1) = false := by rfl) : PE X (.Call (.Name x q) (e :: es) [] pos) (tF sp E t) := pe_f F hm hk hr hx ha hg hdb he hpl
theorem pe_met (F : FnR X.prog X.w X.K X.mg X.base CX k f sp) (c : Cls X.K C) (hm : Meth X.K C m f) (hr : Room k X.A) (hx : Passes CX X E) (he : PE X o ta) (ha : PA X (e :: es) t)
    (hst : starEach (e :: es) X.env = (false, eval e X.env) :: starEach es X.env := by rfl) (hpl : (backTo pos (starEach es X.env)).any (·.1) = false := by rfl)
    (ht : eval (.Call (.Attribute o m apos) (e :: es) [] pos) X.env = (do
      let ov ← eval o X.env
      standAt apos.atName
      let (f, first) ← holding [ov] (getMethod ov m pl)
      callWith pos f first (backTo pos (starEach (e :: es) X.env)) (backToKw pos (keywordEach [] X.env))) := by rfl) :
    PE X (.Call (.Attribute o m apos) (e :: es) [] pos) (tMethR C m sp E ta t) := pe_methR he c hm F hr hx ha hst hpl ht
theorem pe_met0 (F : FnR X.prog X.w X.K X.mg X.base CX k f sp) (c : Cls X.K C) (hm : Meth X.K C m f) (hr : Room k X.A) (hx : Passes CX X E) (he : PE X o ta)
    (ht : eval (.Call (.Attribute o m apos) [] [] pos) X.env = (do
      let ov ← eval o X.env
      standAt apos.atName
      let (f, first) ← holding [ov] (getMethod ov m pl)
      callWith pos f first (backTo pos (starEach [] X.env)) (backToKw pos (keywordEach [] X.env))) := by rfl) :
    PE X (.Call (.Attribute o m apos) [] [] pos) (tMethR C m sp E ta tNil) := by
  refine ⟨fun pins s σ H Q I h => ?_⟩
  refine methodCall_KW (pl := pl) (thn (he.run pins s σ H _ I h) fun u s1 ⟨x, H1, I1, rx, a, dx, fs, ex, ea, l, q⟩ => ?_) ht
  subst ex
  obtain rfl : u = Value.ref a := rx
  refine getmeth_ok I1 ea c hm l ?_
  exact callWith_K0 (first := [.ref a]) I1.kIn hm.kp (wpAny_call (run_fnR (us := [.ref a]) (vs := [.ref a]) F hr hx I1 (.cons rfl .nil) q))
theorem pe_mk (F : FnR X.prog X.w X.K X.mg X.base CX k f sp) (M : Mk X.K C f) (hm : X.mg x = some (.ref C)) (hr : Room (k + 1) X.A) (hx : Passes CX X E) (ha : PA X (e :: es) t) (hg : Gl X x := by rfl) (hdb : (x == ("__debug__" : Str)) = false := by decide)
    (he : starEach (e :: es) X.env = (false, eval e X.env) :: starEach es X.env := by rfl) (hpl : (backTo pos (starEach es X.env)).any (·.1) = false := by rfl) : PE X (.Call (.Name x q) (e :: es) [] pos) (tMakeR C sp E t) := pe_makeR M F hr hg hm hx ha hdb he hpl
theorem pe_mk0 (F : FnR X.prog X.w X.K X.mg X.base CX k f sp) (M : Mk X.K C f) (hm : X.mg x = some (.ref C)) (hr : Room (k + 1) X.A) (hx : Passes CX X E) (hg : Gl X x := by rfl) (hdb : (x == ("__debug__" : Str)) = false := by decide) :
    PE X (.Call (.Name x q) [] [] pos) (tMakeR C sp E tNil) := by
  refine ⟨fun pins s σ H Q I h => ?_⟩
  refine wpAny_Call_Name_kw (ld_glob I hg hm ?_ hdb)
  exact callWith_K0 I.kIn M.kp (run_makeR (us := []) M F hr hx I .nil h)
/-- c(e, ..), c a local that holds the class -/
def tMkL (i : Nat) (C : Addr) (sp : Sp) (E : XK) (t : TA) : TE := fun σ H Q => σ[i]? = some (some (.ref C)) ∧ tMakeR C sp E t σ H Q
theorem pe_mkL (F : FnR X.prog X.w X.K X.mg X.base CX k f sp) (M : Mk X.K C f) (hr : Room (k + 1) X.A) (hN : X.N[i]? = some x) (hv : Vis X.env.scope x) (hx : Passes CX X E) (ha : PA X (e :: es) t)
    (hdb : (x == ("__debug__" : Str)) = false := by decide) (hcd : (x == ("__classdict__" : Str)) = false := by decide)
    (he : starEach (e :: es) X.env = (false, eval e X.env) :: starEach es X.env := by rfl) (hpl : (backTo pos (starEach es X.env)).any (·.1) = false := by rfl) : PE X (.Call (.Name x q) (e :: es) [] pos) (tMkL i C sp E t) := by
  refine ⟨fun pins s σ H Q I h => ?_⟩
  obtain ⟨hs, ht⟩ := h
  refine wpAny_Call_Name_kw (thn ((pe_var (pos := q) hN hv hdb hcd).run pins s σ H (fun v H1 => v = .ref C ∧ H1 = H) I ⟨.ref C, hs, rfl, rfl⟩) fun u s1 ⟨v, H1, I1, r1, q1⟩ => ?_)
  obtain ⟨rfl, rfl⟩ := q1
  cases r1
  refine callWith_K (h₀ := X.base) I.ok.mod.kin M.kp (thn (ha.run pos pins s1 σ _ _ I1 ht) fun us s2 ⟨vs, H2, I2, r, q⟩ => ⟨I2.kIn, ?_⟩) he hpl
  exact run_makeR M F hr hx I2 r q
/-- e.m, a property -/
def tPrR (C : Addr) (sp : Sp) (E : XK) (ta : TE) : TE := fun σ H Q => ta σ H fun x H1 => ∃ a dx fs, x = .ref a ∧ H1 a = some (.ins C dx fs) ∧ sp [.ref a] H1 Q E
theorem getprR_ok {a dx : Addr} {fs : List (Str × V)} {pins : List (Addr × Obj)} {σ : L2.St} {H : Hp} {s : Shared} {Q : VK} {b : Bool} {E' : Value → Shared → Prop} (I : Inv X pins σ H s) (ea : H a = some (.ins C dx fs)) (c : Cls X.K C) (hp : PropOf X.K C m p g)
    (F : FnR X.prog X.w X.K X.mg X.base CX k g sp) (hr : Room (k + 1) X.A) (hx : Passes CX X.nox E) (h : sp [.ref a] H Q E) :
    wpAny (model X.prog X.w) X.A (getAttr (.ref a) m b) (EP X pins σ Q) E' s := by
  obtain ⟨mA, O, _, _, _, _⟩ := ins_get I.hok ea
  obtain ⟨od, J, _⟩ := O.look
  obtain ⟨rest, hrec⟩ := hp.rec_
  have I1 := I.tok (s.toks + 1)
  have hc : (clsIn X.K C).isSome = true := by
    obtain ⟨cd, hc, _⟩ := any_some c.hd
    rw [hc]
    rfl
  refine get_bind I.kIn J (plainGet_of (c.get m)).1 (findObj_data hc hp.at_ hp.get hp.tak) (plainGet_of (c.get m)).2 (wpAny_call (prop_get (s := { s with toks := s.toks + 1 }) I.kIn hrec ?_))
  refine codeAny_mono (F X.A.in1 X.stack { s with toks := s.toks + 1 } H [.ref a] [.ref a] Q E hr.in1 I1.env0.in1 (.cons rfl .nil) h) fun r s' hq => ?_
  cases r with
  | error er => exact False.elim (hx pins σ H { s with toks := s.toks + 1 } er s' (I1.wish _) hq)
  | ok fl =>
    cases fl with
    | ret u =>
      obtain ⟨v, H', I3, rv, q3⟩ := I1.after hq
      show wpAny _ _ (handedOut u) _ _ _
      rw [handedOut_of (handed_of rv)]
      exact wpAny_pure ⟨v, H', I3, rv, q3⟩
    | next => exact False.elim hq
    | brk => exact False.elim hq
    | cont => exact False.elim hq
theorem pe_prR (F : FnR X.prog X.w X.K X.mg X.base CX k g sp) (c : Cls X.K C) (hp : PropOf X.K C m p g) (hr : Room (k + 1) X.A) (hx : Passes CX X.nox E) (he : PE X e ta)
    (hab : attributeBase e m X.env (eval e X.env) = eval e X.env := by rfl) : PE X (.Attribute e m pos) (tPrR C sp E ta) := by
  refine ⟨fun pins s σ H Q I h => ?_⟩
  refine attr_of hab (thn (he.run pins s σ H _ I h) fun u s1 ⟨x, H1, I1, rx, a, dx, fs, ex, ea, q⟩ => ?_)
  subst ex
  obtain rfl : u = Value.ref a := rx
  exact getprR_ok I1 ea c hp F hr hx q
/-- C.m(e, ..), m a classmethod -/
theorem pe_cm {mc : Value} (F : FnR X.prog X.w X.K X.mg X.base CX k g sp) (r : ClX.CRead X.K C mc) (c : ClX.CMet X.K C mc m p g) (hr : Room k X.A) (hx : Passes CX X E) (he : PE X o ta) (ha : PA X (e :: es) t)
    (hst : starEach (e :: es) X.env = (false, eval e X.env) :: starEach es X.env := by rfl) (hpl : (backTo pos (starEach es X.env)).any (·.1) = false := by rfl)
    (ht : eval (.Call (.Attribute o m apos) (e :: es) [] pos) X.env = (do
      let ov ← eval o X.env
      standAt apos.atName
      let (f, first) ← holding [ov] (getMethod ov m pl)
      callWith pos f first (backTo pos (starEach (e :: es) X.env)) (backToKw pos (keywordEach [] X.env))) := by rfl) :
    PE X (.Call (.Attribute o m apos) (e :: es) [] pos) (ClX.tCMeth C sp E ta t) := ClX.pe_cmeth he r c F hr hx ha hst hpl ht
/-! ### + and * of an own class -/
def rAddO (C : Addr) (sp : Sp) (E : XK) : R2 := fun x y H Q => ∃ a b dx dy fs gs, x = .ref a ∧ y = .ref b ∧ H a = some (.ins C dx fs) ∧ H b = some (.ins C dy gs) ∧ sp [.ref a, .ref b] H (fun v H' => (∃ r, v = .ref r) ∧ Q v H') E
theorem op_addO {fo : Operator} (F : FnR X.prog X.w X.K X.mg X.base CX k f sp) (hc : selfFirst X.K C = true) (hs : findIn X.K (.ref C) (PySem.dunder fo.info.2) = some (some (.ref f))) (hf : isFn X.K (.ref f) = true) (hx : Passes CX X E) (hr : Room k X.A) :
    OpR X (binaryOp fo) (rAddO C sp E) := by
  intro pins s σ H x y u v Q I rx ry hq
  obtain ⟨a, b, dx, dy, fs, gs, rfl, rfl, ha, hb, q⟩ := hq
  cases rx
  cases ry
  obtain ⟨mA, J, _⟩ := ins_get I.hok ha
  obtain ⟨mB, J', _⟩ := ins_get I.hok hb
  obtain ⟨od, J, _⟩ := J.look
  obtain ⟨od', J', _⟩ := J'.look
  obtain ⟨m, hF⟩ := I.fr
  refine binop_K hF I.ok.mod.kin J J'.type hc hs hf ?_
  refine wpAny_mono (wpAny_call (run_fnR (us := [.ref a, .ref b]) (vs := [.ref a, .ref b]) F hr hx I (.cons rfl (.cons rfl .nil)) q)) (fun r s' z => ?_) fun _ _ z => z
  obtain ⟨v, H', I', rv, ⟨r', rfl⟩, q'⟩ := z
  cases rv
  exact ⟨.ref r', H', I', rfl, q'⟩
def rMulO (C : Addr) (sp : Sp) (E : XK) : R2 := fun x y H Q => ∃ a n dx fs, x = .ref a ∧ y = .int n ∧ H a = some (.ins C dx fs) ∧ sp [.ref a, .int n] H (fun v H' => (∃ r, v = .ref r) ∧ Q v H') E
theorem op_mulO (F : FnR X.prog X.w X.K X.mg X.base CX k f sp) (hc : selfFirst X.K C = true) (hs : findIn X.K (.ref C) "__mul__" = some (some (.ref f))) (hf : isFn X.K (.ref f) = true) (hrm : findIn X.K (.ref C) "__rmul__" = some none)
    (h1 : findIn X.K (.type "int") "__mul__" = some (some (.builtin "int.__mul__"))) (h2 : findIn X.K (.type "int") "__rmul__" = some (some (.builtin "int.__rmul__"))) (hsub : subIn X.K (.type "int") (.ref C) = some false)
    (hx : Passes CX X E) (hr : Room k X.A) : OpR X (binaryOp .Mult) (rMulO C sp E) := by
  intro pins s σ H x y u v Q I rx ry hq
  obtain ⟨a, n, dx, fs, rfl, rfl, ha, q⟩ := hq
  cases rx
  obtain ⟨t, rfl⟩ := ry
  obtain ⟨mA, J, _⟩ := ins_get I.hok ha
  obtain ⟨od, J, _⟩ := J.look
  obtain ⟨m, hF⟩ := I.fr
  refine ksp_binT (T := "int") hF I.ok.mod.kin J rfl hc hs hf hrm (.inl rfl) h1 h2 hsub ?_
  refine wpAny_mono (wpAny_call (run_fnR (us := [.ref a, .int n t]) (vs := [.ref a, .int n]) F hr hx I (.cons rfl (.cons ⟨_, rfl⟩ .nil)) q)) (fun r s' z => ?_) fun _ _ z => z
  obtain ⟨v, H', I', rv, ⟨r', rfl⟩, q'⟩ := z
  cases rv
  exact ⟨.ref r', H', I', rfl, q'⟩
/-! ### == and != by an own __eq__ that says True -/
theorem rcG_insR {n : Nat} {R : Addr → Addr → Hp → Prop} (F : FnR X.prog X.w X.K X.mg X.base CX n f (spEq R))
    (hs : findIn X.K (.ref C) "__eq__" = some (some (.ref f))) (hf : isFn X.K (.ref f) = true) (hx : Passes CX X E) : RcG X n (DIns C R) := by
  intro A pins s σ H x y u v sb I rx ry d
  obtain ⟨a, b, dx, dy, fs, gs, rfl, rfl, ha, hb', hr⟩ := d
  cases rx
  cases ry
  obtain ⟨mA, J, _⟩ := ins_get I.hok ha
  obtain ⟨mB, J', _⟩ := ins_get I.hok hb'
  obtain ⟨od, J, _⟩ := J.look
  obtain ⟨od', J', _⟩ := J'.look
  obtain ⟨m, hF⟩ := I.fr
  refine cmp_K (op := .Eq) (tb := .ref C) sb.room.units0 hF I.ok.mod.kin J J'.type (by simp [notFirst]) hs hf ?_
  have hsp : spEq R [.ref a, .ref b] H (fun v H' => v = .bl true ∧ Ext H H') E := ⟨a, b, rfl, hr, fun H' e => ⟨rfl, e⟩⟩
  have e0 : Env0 X.prog X.w X.K X.mg X.base A X.stack s H := by
    have e := I.env0
    exact ⟨by rw [sb.fr]; exact e.frames, e.mod, e.bs, e.bsz, e.funs, e.frf, e.hok, e.bare⟩
  refine wpAny_call (codeAny_mono (F A X.stack s H [.ref a, .ref b] [.ref a, .ref b] _ E sb.room e0 (.cons rfl (.cons rfl .nil)) hsp) fun r s' hq => ?_)
  cases r with
  | error e => exact hx pins σ H s e s' I hq
  | ok fl =>
    cases fl with
    | ret w =>
      obtain ⟨z, H', I', rz, ez, ex⟩ := I.after hq
      subst ez
      cases rz
      exact ⟨rfl, H', I', ex⟩
    | next => exact False.elim hq
    | brk => exact False.elim hq
    | cont => exact False.elim hq
theorem op_neR {n : Nat} {R : Addr → Addr → Hp → Prop} (F : FnR X.prog X.w X.K X.mg X.base CX n f (spEq R)) (hs : findIn X.K (.ref C) "__eq__" = some (some (.ref f)))
    (hne : findIn X.K (.ref C) "__ne__" = some (some (.builtin "object.__ne__"))) (hm : mroIn X.K C (.type "object") = some true) (hf : isFn X.K (.ref f) = true) (hx : Passes CX X E) (hr : Room (n + 1) X.A) :
    OpR X (compareOp .NotEq) (rNeI C R) := by
  intro pins s σ H x y u v Q I rx ry hq
  obtain ⟨⟨a, b, dx, dy, fs, gs, rfl, rfl, ha, hb', hR⟩, q⟩ := hq
  cases rx
  cases ry
  obtain ⟨mA, J, _⟩ := ins_get I.hok ha
  obtain ⟨mB, J', _⟩ := ins_get I.hok hb'
  obtain ⟨od, J, _⟩ := J.look
  obtain ⟨od', J', _⟩ := J'.look
  show wpAny (model X.prog X.w) X.A (richCompare .NotEq (.ref a) (.ref b)) _ _ s
  have hr1 : Room n X.A.in1 := hr.in1
  refine rc_ne (tb := .ref C) hr.units0 I.kIn J J'.type (by simp [notFirst]) hne (ne_call hr1.units0 I.kIn J hm hs hf ?_)
  have hsp : spEq R [.ref a, .ref b] H (fun v H' => v = .bl true ∧ Ext H H') E := ⟨a, b, rfl, hR, fun H' e => ⟨rfl, e⟩⟩
  refine wpAny_call (codeAny_mono (F X.A.in1 X.stack s H [.ref a, .ref b] [.ref a, .ref b] _ E hr1 I.env0.in1 (.cons rfl (.cons rfl .nil)) hsp) fun r s' hq => ?_)
  cases r with
  | error e => exact hx pins σ H s e s' I hq
  | ok fl =>
    cases fl with
    | ret w =>
      obtain ⟨z, H', I', rz, ez, ex⟩ := I.after hq
      subst ez
      cases rz
      exact ⟨rfl, rfl, .bl false, H', I', rfl, q H' ex⟩
    | next => exact False.elim hq
    | brk => exact False.elim hq
    | cont => exact False.elim hq
/-! ### list(text) -/
def rListS : List V → Hp → VK → Prop := r1 fun x H Q => ∃ l, x = .str (tx l) ∧ l.length ≤ sizeLine ∧ ∀ p, H p = none → Q (.ref p) (upd H p (.lst (l.map fun c => .str (tx [c]))))
theorem call_list_strR (hc : X.calm = true) : CallR X (.type "list") rListS := by
  refine call_r1 fun pins s σ H x v Q I r h => ?_
  obtain ⟨l, rfl, hz, q⟩ := h
  obtain ⟨t, rfl⟩ := r
  have hl : (tx l).cps.size = l.length := by simp [tx]
  refine PySem.call_list_str (hn := by rw [hl]; exact hz) (I.ok.hd hc) (tx l) t fun h' tk acc c' hk e hi => ?_
  refine ⟨.ref s.heap.objs.size, upd H s.heap.objs.size (.lst (l.map fun c => .str (tx [c]))), I.laid hk (Nat.le_refl _) ⟨by rw [List.length_map]; exact hz, acc.toList, c', ?_, by rw [Array.toArray_toList]; exact e⟩, rfl, q _ (I.hok.fresh (Nat.le_refl _))⟩
  refine vals_of_idx _ _ (by rw [List.length_map, Array.length_toList, hi.1, hl]) fun j u hj => ?_
  obtain ⟨c, t', hc, rfl⟩ := hi.2 j u (by rw [← Array.getElem?_toList]; exact hj)
  have hc' : l[j]? = some c := by simpa [tx] using hc
  exact ⟨.str (tx [c]), by simp [hc'], ⟨_, rfl⟩⟩
end
end OB
set_option Elab.async false
set_option linter.all false
set_option maxRecDepth 100000
set_option maxHeartbeats 4000000
namespace OB
open PySem PySem.Spec PyProof.Rows L2 StX
def top (i : Nat) : Stmt := PySem.Challenge.pw_ownbranch_k68_whole_one_more_round.main.body.getD i (.Pass ⟨0, 0, 0, 0⟩)
abbrev s_Endless_init : Stmt := inClass (top 6) 0
abbrev s_is_integer : Stmt := top 18
abbrev s_is_item : Stmt := top 19
abbrev s_is_text : Stmt := top 20
abbrev s_is_selection : Stmt := top 21
abbrev s_is_edit : Stmt := top 22
abbrev s_count_words : Stmt := top 23
abbrev s_may_follow : Stmt := top 24
abbrev s_are_edits : Stmt := top 25
abbrev s_is_rule : Stmt := top 26
abbrev s_is_loop : Stmt := top 27
abbrev s_is_program : Stmt := top 28
abbrev s_check_program : Stmt := top 29
abbrev s_fitting_rule : Stmt := top 30
abbrev s_apply_edit : Stmt := top 31
abbrev s_Pass_init : Stmt := inClass (top 32) 0
abbrev s_Pass_carry_out : Stmt := inClass (top 32) 1
abbrev s_is_pair : Stmt := top 38
abbrev s_root : Stmt := top 39
abbrev s_tidy : Stmt := top 40
abbrev s_stretch : Stmt := top 41
abbrev s_cut : Stmt := top 42
abbrev s_same_items : Stmt := top 43
abbrev s_Runs_init : Stmt := inClass (top 44) 0
abbrev s_Repeats_init : Stmt := inClass (top 45) 0
abbrev s_Repeats_once : Stmt := inClass (top 45) 1
abbrev s_Repeats_length : Stmt := inClass (top 45) 2
abbrev s_Repeats_part : Stmt := inClass (top 45) 5
abbrev s_Repeats_to_text : Stmt := inClass (top 45) 6
abbrev s_Repeats_add : Stmt := inClass (top 45) 9
abbrev s_Repeats_mul : Stmt := inClass (top 45) 10
abbrev s_Repeats_eq : Stmt := inClass (top 45) 11
abbrev s_Result_init : Stmt := inClass (top 49) 0
abbrev s_Result_text : Stmt := inClass (top 49) 1
abbrev s_Result_passes : Stmt := inClass (top 49) 2
abbrev s_Result_ways : Stmt := inClass (top 49) 3
abbrev s_Stay_init : Stmt := inClass (top 52) 0
abbrev s_Stay_key : Stmt := inClass (top 52) 1
abbrev s_Track_init : Stmt := inClass (top 53) 0
abbrev s_Track_write : Stmt := inClass (top 53) 1
abbrev s_Track_write_round : Stmt := inClass (top 53) 2
abbrev s_one_pass : Stmt := top 54
abbrev s_make_passes : Stmt := top 55
abbrev s_joined_parts : Stmt := top 56
abbrev s_Feeder_init : Stmt := inClass (top 57) 0
abbrev s_Feeder_feed : Stmt := inClass (top 57) 1
abbrev s_Feeder_feed_text : Stmt := inClass (top 57) 2
abbrev s_Feeder_feed_row : Stmt := inClass (top 57) 3
abbrev s_Feeder_finish : Stmt := inClass (top 57) 4
abbrev s_run_loop_far : Stmt := top 58
abbrev s_run_far : Stmt := top 59
abbrev s_law_bag : Stmt := top 61
abbrev s_law_take : Stmt := top 62
abbrev s_law_selected : Stmt := top 63
abbrev s_law_edits : Stmt := top 64
abbrev s_law_loop : Stmt := top 65
abbrev s_law_edited : Stmt := top 66
abbrev s_law_passed : Stmt := top 67
abbrev s_law_text : Stmt := top 69
abbrev s_law_fed : Stmt := top 72
abbrev s_law_copy_fed : Stmt := top 73
abbrev s_law_ring : Stmt := top 78
abbrev s_law_told : Stmt := top 79
abbrev s_law_right : Stmt := top 80
abbrev s_law_counted_right : Stmt := top 81
abbrev s_law_carried_right : Stmt := top 82
abbrev s_law : Stmt := top 83
/-- the getter of a property -/
def pg (K : PySem.W.Frag) (C : Addr) (m : Str) : Addr := match PySem.W.recIn K (He.ma K C m) "property" with
  | some (.ref g :: _) => g
  | _ => 0
/-- what the top has written -/
structure Txt (K : PySem.W.Frag) (mg : Str → Option Value) (w : World) : Prop where
  f_Endless_init : ∃ fd, FunD K "__init__" "Endless.__init__" (defArgs s_Endless_init) (defBody s_Endless_init) (defScope s_Endless_init) [] [] (He.ma K (He.ga K "Endless") "__init__") fd
  f_is_integer : ∃ fd, FunD K "is_integer" "is_integer" (defArgs s_is_integer) (defBody s_is_integer) (defScope s_is_integer) [] [] (He.ga K "is_integer") fd
  g_is_integer : mg "is_integer" = some (.ref (He.ga K "is_integer"))
  f_is_item : ∃ fd, FunD K "is_item" "is_item" (defArgs s_is_item) (defBody s_is_item) (defScope s_is_item) [] [] (He.ga K "is_item") fd
  g_is_item : mg "is_item" = some (.ref (He.ga K "is_item"))
  f_is_text : ∃ fd, FunD K "is_text" "is_text" (defArgs s_is_text) (defBody s_is_text) (defScope s_is_text) [] [] (He.ga K "is_text") fd
  g_is_text : mg "is_text" = some (.ref (He.ga K "is_text"))
  f_is_selection : ∃ fd, FunD K "is_selection" "is_selection" (defArgs s_is_selection) (defBody s_is_selection) (defScope s_is_selection) [] [] (He.ga K "is_selection") fd
  g_is_selection : mg "is_selection" = some (.ref (He.ga K "is_selection"))
  f_is_edit : ∃ fd, FunD K "is_edit" "is_edit" (defArgs s_is_edit) (defBody s_is_edit) (defScope s_is_edit) [] [] (He.ga K "is_edit") fd
  g_is_edit : mg "is_edit" = some (.ref (He.ga K "is_edit"))
  f_count_words : ∃ fd, FunD K "count_words" "count_words" (defArgs s_count_words) (defBody s_count_words) (defScope s_count_words) [] [] (He.ga K "count_words") fd
  g_count_words : mg "count_words" = some (.ref (He.ga K "count_words"))
  f_may_follow : ∃ fd, FunD K "may_follow" "may_follow" (defArgs s_may_follow) (defBody s_may_follow) (defScope s_may_follow) [] [] (He.ga K "may_follow") fd
  g_may_follow : mg "may_follow" = some (.ref (He.ga K "may_follow"))
  f_are_edits : ∃ fd, FunD K "are_edits" "are_edits" (defArgs s_are_edits) (defBody s_are_edits) (defScope s_are_edits) [] [] (He.ga K "are_edits") fd
  g_are_edits : mg "are_edits" = some (.ref (He.ga K "are_edits"))
  f_is_rule : ∃ fd, FunD K "is_rule" "is_rule" (defArgs s_is_rule) (defBody s_is_rule) (defScope s_is_rule) [] [] (He.ga K "is_rule") fd
  g_is_rule : mg "is_rule" = some (.ref (He.ga K "is_rule"))
  f_is_loop : ∃ fd, FunD K "is_loop" "is_loop" (defArgs s_is_loop) (defBody s_is_loop) (defScope s_is_loop) [] [] (He.ga K "is_loop") fd
  g_is_loop : mg "is_loop" = some (.ref (He.ga K "is_loop"))
  f_is_program : ∃ fd, FunD K "is_program" "is_program" (defArgs s_is_program) (defBody s_is_program) (defScope s_is_program) [] [] (He.ga K "is_program") fd
  g_is_program : mg "is_program" = some (.ref (He.ga K "is_program"))
  f_check_program : ∃ fd, FunD K "check_program" "check_program" (defArgs s_check_program) (defBody s_check_program) (defScope s_check_program) [] [] (He.ga K "check_program") fd
  g_check_program : mg "check_program" = some (.ref (He.ga K "check_program"))
  f_fitting_rule : ∃ fd, FunD K "fitting_rule" "fitting_rule" (defArgs s_fitting_rule) (defBody s_fitting_rule) (defScope s_fitting_rule) [] [] (He.ga K "fitting_rule") fd
  g_fitting_rule : mg "fitting_rule" = some (.ref (He.ga K "fitting_rule"))
  f_apply_edit : ∃ fd, FunD K "apply_edit" "apply_edit" (defArgs s_apply_edit) (defBody s_apply_edit) (defScope s_apply_edit) [] [] (He.ga K "apply_edit") fd
  g_apply_edit : mg "apply_edit" = some (.ref (He.ga K "apply_edit"))
  f_Pass_init : ∃ fd, FunD K "__init__" "Pass.__init__" (defArgs s_Pass_init) (defBody s_Pass_init) (defScope s_Pass_init) [] [] (He.ma K (He.ga K "Pass") "__init__") fd
  f_Pass_carry_out : ∃ fd, FunD K "carry_out" "Pass.carry_out" (defArgs s_Pass_carry_out) (defBody s_Pass_carry_out) (defScope s_Pass_carry_out) [] [] (He.ma K (He.ga K "Pass") "carry_out") fd
  f_is_pair : ∃ fd, FunD K "is_pair" "is_pair" (defArgs s_is_pair) (defBody s_is_pair) (defScope s_is_pair) [] [] (He.ga K "is_pair") fd
  g_is_pair : mg "is_pair" = some (.ref (He.ga K "is_pair"))
  f_root : ∃ fd, FunD K "root" "root" (defArgs s_root) (defBody s_root) (defScope s_root) [] [] (He.ga K "root") fd
  g_root : mg "root" = some (.ref (He.ga K "root"))
  f_tidy : ∃ fd, FunD K "tidy" "tidy" (defArgs s_tidy) (defBody s_tidy) (defScope s_tidy) [] [] (He.ga K "tidy") fd
  g_tidy : mg "tidy" = some (.ref (He.ga K "tidy"))
  f_stretch : ∃ fd, FunD K "stretch" "stretch" (defArgs s_stretch) (defBody s_stretch) (defScope s_stretch) [] [] (He.ga K "stretch") fd
  g_stretch : mg "stretch" = some (.ref (He.ga K "stretch"))
  f_cut : ∃ fd, FunD K "cut" "cut" (defArgs s_cut) (defBody s_cut) (defScope s_cut) [] [] (He.ga K "cut") fd
  g_cut : mg "cut" = some (.ref (He.ga K "cut"))
  f_same_items : ∃ fd, FunD K "same_items" "same_items" (defArgs s_same_items) (defBody s_same_items) (defScope s_same_items) [] [] (He.ga K "same_items") fd
  g_same_items : mg "same_items" = some (.ref (He.ga K "same_items"))
  f_Runs_init : ∃ fd, FunD K "__init__" "Runs.__init__" (defArgs s_Runs_init) (defBody s_Runs_init) (defScope s_Runs_init) [] [] (He.ma K (He.ga K "Runs") "__init__") fd
  f_Repeats_init : ∃ fd, FunD K "__init__" "Repeats.__init__" (defArgs s_Repeats_init) (defBody s_Repeats_init) (defScope s_Repeats_init) [] [] (He.ma K (He.ga K "Repeats") "__init__") fd
  f_Repeats_once : ∃ fd, FunD K "once" "Repeats.once" (defArgs s_Repeats_once) (defBody s_Repeats_once) (defScope s_Repeats_once) [] [] (He5.wf K (He.ga K "Repeats") "classmethod" "once") fd
  f_Repeats_length : ∃ fd, FunD K "length" "Repeats.length" (defArgs s_Repeats_length) (defBody s_Repeats_length) (defScope s_Repeats_length) [] [] (pg K (He.ga K "Repeats") "length") fd
  f_Repeats_part : ∃ fd, FunD K "part" "Repeats.part" (defArgs s_Repeats_part) (defBody s_Repeats_part) (defScope s_Repeats_part) [] [] (He.ma K (He.ga K "Repeats") "part") fd
  f_Repeats_to_text : ∃ fd, FunD K "to_text" "Repeats.to_text" (defArgs s_Repeats_to_text) (defBody s_Repeats_to_text) (defScope s_Repeats_to_text) [] [] (He.ma K (He.ga K "Repeats") "to_text") fd
  f_Repeats_add : ∃ fd, FunD K "__add__" "Repeats.__add__" (defArgs s_Repeats_add) (defBody s_Repeats_add) (defScope s_Repeats_add) [] [] (He.ma K (He.ga K "Repeats") "__add__") fd
  f_Repeats_mul : ∃ fd, FunD K "__mul__" "Repeats.__mul__" (defArgs s_Repeats_mul) (defBody s_Repeats_mul) (defScope s_Repeats_mul) [] [] (He.ma K (He.ga K "Repeats") "__mul__") fd
  f_Repeats_eq : ∃ fd, FunD K "__eq__" "Repeats.__eq__" (defArgs s_Repeats_eq) (defBody s_Repeats_eq) (defScope s_Repeats_eq) [] [] (He.ma K (He.ga K "Repeats") "__eq__") fd
  f_Result_init : ∃ fd, FunD K "__init__" "Result.__init__" (defArgs s_Result_init) (defBody s_Result_init) (defScope s_Result_init) [] [] (He.ma K (He.ga K "Result") "__init__") fd
  f_Result_text : ∃ fd, FunD K "text" "Result.text" (defArgs s_Result_text) (defBody s_Result_text) (defScope s_Result_text) [] [] (pg K (He.ga K "Result") "text") fd
  f_Result_passes : ∃ fd, FunD K "passes" "Result.passes" (defArgs s_Result_passes) (defBody s_Result_passes) (defScope s_Result_passes) [] [] (pg K (He.ga K "Result") "passes") fd
  f_Result_ways : ∃ fd, FunD K "ways" "Result.ways" (defArgs s_Result_ways) (defBody s_Result_ways) (defScope s_Result_ways) [] [] (pg K (He.ga K "Result") "ways") fd
  f_Stay_init : ∃ fd, FunD K "__init__" "Stay.__init__" (defArgs s_Stay_init) (defBody s_Stay_init) (defScope s_Stay_init) [.bl false] [] (He.ma K (He.ga K "Stay") "__init__") fd
  f_Stay_key : ∃ fd, FunD K "key" "Stay.key" (defArgs s_Stay_key) (defBody s_Stay_key) (defScope s_Stay_key) [] [] (He.ma K (He.ga K "Stay") "key") fd
  f_Track_init : ∃ fd, FunD K "__init__" "Track.__init__" (defArgs s_Track_init) (defBody s_Track_init) (defScope s_Track_init) [] [] (He.ma K (He.ga K "Track") "__init__") fd
  f_Track_write : ∃ fd, FunD K "write" "Track.write" (defArgs s_Track_write) (defBody s_Track_write) (defScope s_Track_write) [.int 1] [] (He.ma K (He.ga K "Track") "write") fd
  f_Track_write_round : ∃ fd, FunD K "write_round" "Track.write_round" (defArgs s_Track_write_round) (defBody s_Track_write_round) (defScope s_Track_write_round) [] [] (He.ma K (He.ga K "Track") "write_round") fd
  f_one_pass : ∃ fd, FunD K "one_pass" "one_pass" (defArgs s_one_pass) (defBody s_one_pass) (defScope s_one_pass) [] [] (He.ga K "one_pass") fd
  g_one_pass : mg "one_pass" = some (.ref (He.ga K "one_pass"))
  f_make_passes : ∃ fd, FunD K "make_passes" "make_passes" (defArgs s_make_passes) (defBody s_make_passes) (defScope s_make_passes) [] [] (He.ga K "make_passes") fd
  g_make_passes : mg "make_passes" = some (.ref (He.ga K "make_passes"))
  f_joined_parts : ∃ fd, FunD K "joined_parts" "joined_parts" (defArgs s_joined_parts) (defBody s_joined_parts) (defScope s_joined_parts) [] [] (He.ga K "joined_parts") fd
  g_joined_parts : mg "joined_parts" = some (.ref (He.ga K "joined_parts"))
  f_Feeder_init : ∃ fd, FunD K "__init__" "Feeder.__init__" (defArgs s_Feeder_init) (defBody s_Feeder_init) (defScope s_Feeder_init) [] [] (He.ma K (He.ga K "Feeder") "__init__") fd
  f_Feeder_feed : ∃ fd, FunD K "feed" "Feeder.feed" (defArgs s_Feeder_feed) (defBody s_Feeder_feed) (defScope s_Feeder_feed) [] [] (He.ma K (He.ga K "Feeder") "feed") fd
  f_Feeder_feed_text : ∃ fd, FunD K "feed_text" "Feeder.feed_text" (defArgs s_Feeder_feed_text) (defBody s_Feeder_feed_text) (defScope s_Feeder_feed_text) [] [] (He.ma K (He.ga K "Feeder") "feed_text") fd
  f_Feeder_feed_row : ∃ fd, FunD K "feed_row" "Feeder.feed_row" (defArgs s_Feeder_feed_row) (defBody s_Feeder_feed_row) (defScope s_Feeder_feed_row) [] [] (He.ma K (He.ga K "Feeder") "feed_row") fd
  f_Feeder_finish : ∃ fd, FunD K "finish" "Feeder.finish" (defArgs s_Feeder_finish) (defBody s_Feeder_finish) (defScope s_Feeder_finish) [] [] (He.ma K (He.ga K "Feeder") "finish") fd
  f_run_loop_far : ∃ fd, FunD K "run_loop_far" "run_loop_far" (defArgs s_run_loop_far) (defBody s_run_loop_far) (defScope s_run_loop_far) [] [] (He.ga K "run_loop_far") fd
  g_run_loop_far : mg "run_loop_far" = some (.ref (He.ga K "run_loop_far"))
  f_run_far : ∃ fd, FunD K "run_far" "run_far" (defArgs s_run_far) (defBody s_run_far) (defScope s_run_far) [] [] (He.ga K "run_far") fd
  g_run_far : mg "run_far" = some (.ref (He.ga K "run_far"))
  f_law_bag : ∃ fd, FunD K "_law_bag" "_law_bag" (defArgs s_law_bag) (defBody s_law_bag) (defScope s_law_bag) [] [] (He.ga K "_law_bag") fd
  g_law_bag : mg "_law_bag" = some (.ref (He.ga K "_law_bag"))
  f_law_take : ∃ fd, FunD K "_law_take" "_law_take" (defArgs s_law_take) (defBody s_law_take) (defScope s_law_take) [] [] (He.ga K "_law_take") fd
  g_law_take : mg "_law_take" = some (.ref (He.ga K "_law_take"))
  f_law_selected : ∃ fd, FunD K "_law_selected" "_law_selected" (defArgs s_law_selected) (defBody s_law_selected) (defScope s_law_selected) [] [] (He.ga K "_law_selected") fd
  g_law_selected : mg "_law_selected" = some (.ref (He.ga K "_law_selected"))
  f_law_edits : ∃ fd, FunD K "_law_edits" "_law_edits" (defArgs s_law_edits) (defBody s_law_edits) (defScope s_law_edits) [] [] (He.ga K "_law_edits") fd
  g_law_edits : mg "_law_edits" = some (.ref (He.ga K "_law_edits"))
  f_law_loop : ∃ fd, FunD K "_law_loop" "_law_loop" (defArgs s_law_loop) (defBody s_law_loop) (defScope s_law_loop) [] [] (He.ga K "_law_loop") fd
  g_law_loop : mg "_law_loop" = some (.ref (He.ga K "_law_loop"))
  f_law_edited : ∃ fd, FunD K "_law_edited" "_law_edited" (defArgs s_law_edited) (defBody s_law_edited) (defScope s_law_edited) [] [] (He.ga K "_law_edited") fd
  g_law_edited : mg "_law_edited" = some (.ref (He.ga K "_law_edited"))
  f_law_passed : ∃ fd, FunD K "_law_passed" "_law_passed" (defArgs s_law_passed) (defBody s_law_passed) (defScope s_law_passed) [] [] (He.ga K "_law_passed") fd
  g_law_passed : mg "_law_passed" = some (.ref (He.ga K "_law_passed"))
  f_law_text : ∃ fd, FunD K "_law_text" "_law_text" (defArgs s_law_text) (defBody s_law_text) (defScope s_law_text) [] [] (He.ga K "_law_text") fd
  g_law_text : mg "_law_text" = some (.ref (He.ga K "_law_text"))
  f_law_fed : ∃ fd, FunD K "_law_fed" "_law_fed" (defArgs s_law_fed) (defBody s_law_fed) (defScope s_law_fed) [] [] (He.ga K "_law_fed") fd
  g_law_fed : mg "_law_fed" = some (.ref (He.ga K "_law_fed"))
  f_law_copy_fed : ∃ fd, FunD K "_law_copy_fed" "_law_copy_fed" (defArgs s_law_copy_fed) (defBody s_law_copy_fed) (defScope s_law_copy_fed) [] [] (He.ga K "_law_copy_fed") fd
  g_law_copy_fed : mg "_law_copy_fed" = some (.ref (He.ga K "_law_copy_fed"))
  f_law_ring : ∃ fd, FunD K "_law_ring" "_law_ring" (defArgs s_law_ring) (defBody s_law_ring) (defScope s_law_ring) [] [] (He.ga K "_law_ring") fd
  g_law_ring : mg "_law_ring" = some (.ref (He.ga K "_law_ring"))
  f_law_told : ∃ fd, FunD K "_law_told" "_law_told" (defArgs s_law_told) (defBody s_law_told) (defScope s_law_told) [] [] (He.ga K "_law_told") fd
  g_law_told : mg "_law_told" = some (.ref (He.ga K "_law_told"))
  f_law_right : ∃ fd, FunD K "_law_right" "_law_right" (defArgs s_law_right) (defBody s_law_right) (defScope s_law_right) [] [] (He.ga K "_law_right") fd
  g_law_right : mg "_law_right" = some (.ref (He.ga K "_law_right"))
  f_law_counted_right : ∃ fd, FunD K "_law_counted_right" "_law_counted_right" (defArgs s_law_counted_right) (defBody s_law_counted_right) (defScope s_law_counted_right) [] [] (He.ga K "_law_counted_right") fd
  g_law_counted_right : mg "_law_counted_right" = some (.ref (He.ga K "_law_counted_right"))
  f_law_carried_right : ∃ fd, FunD K "_law_carried_right" "_law_carried_right" (defArgs s_law_carried_right) (defBody s_law_carried_right) (defScope s_law_carried_right) [] [] (He.ga K "_law_carried_right") fd
  g_law_carried_right : mg "_law_carried_right" = some (.ref (He.ga K "_law_carried_right"))
  f_law : ∃ fd, FunD K "law" "law" (defArgs s_law) (defBody s_law) (defScope s_law) [] [] (He.ga K "law") fd
  g_law : mg "law" = some (.ref (He.ga K "law"))
  g_ITEMS : ∃ t, mg "ITEMS" = some (.str "abcd" t)
  g_END : ∃ t, mg "END" = some (.str "$" t)
  g_END_WAY : ∃ t, mg "END_WAY" = some (.str "end" t)
  g_BREAK_WAY : ∃ t, mg "BREAK_WAY" = some (.str "break" t)
  g_MOST_RULES : ∃ t, mg "MOST_RULES" = some (.int 12 t)
  g_MOST_LOOPS : ∃ t, mg "MOST_LOOPS" = some (.int 5 t)
  g_MOST_EDITS : ∃ t, mg "MOST_EDITS" = some (.int 4 t)
  g_MOST_DELETIONS : ∃ t, mg "MOST_DELETIONS" = some (.int 2 t)
  g_MARKS : ∃ t, mg "MARKS" = some (.int 4 t)
  g_LONGEST_END : ∃ t, mg "LONGEST_END" = some (.int 4 t)
  g_MOST_PAIRS : ∃ t, mg "MOST_PAIRS" = some (.int 50 t)
  g_LONGEST_PART : ∃ t, mg "LONGEST_PART" = some (.int 20 t)
  g_LONGEST_TEXT : ∃ t, mg "LONGEST_TEXT" = some (.int 2000 t)
  g_MOST_TIMES : ∃ t, mg "MOST_TIMES" = some (.int 1000000000000000000000000000000000000000000000000000000000000 t)
  g_REACH : ∃ t, mg "REACH" = some (.int 3 t)
  g_EDIT_KINDS : mg "EDIT_KINDS" = some (.ref (He.ga K "EDIT_KINDS"))
  g_Pass : mg "Pass" = some (.ref (He.ga K "Pass"))
  c_Pass : Cls K (He.ga K "Pass")
  m_Pass : Mk K (He.ga K "Pass") (He.ma K (He.ga K "Pass") "__init__")
  n_Pass_item : NoAttr K (He.ga K "Pass") "item"
  n_Pass_rule : NoAttr K (He.ga K "Pass") "rule"
  n_Pass_mark : NoAttr K (He.ga K "Pass") "mark"
  n_Pass_is_broken : NoAttr K (He.ga K "Pass") "is_broken"
  g_Runs : mg "Runs" = some (.ref (He.ga K "Runs"))
  c_Runs : Cls K (He.ga K "Runs")
  m_Runs : Mk K (He.ga K "Runs") (He.ma K (He.ga K "Runs") "__init__")
  n_Runs_tidied : NoAttr K (He.ga K "Runs") "tidied"
  g_Repeats : mg "Repeats" = some (.ref (He.ga K "Repeats"))
  c_Repeats : Cls K (He.ga K "Repeats")
  m_Repeats : Mk K (He.ga K "Repeats") (He.ma K (He.ga K "Repeats") "__init__")
  n_Repeats_runs : NoAttr K (He.ga K "Repeats") "runs"
  g_Result : mg "Result" = some (.ref (He.ga K "Result"))
  c_Result : Cls K (He.ga K "Result")
  m_Result : Mk K (He.ga K "Result") (He.ma K (He.ga K "Result") "__init__")
  n_Result_remains : NoAttr K (He.ga K "Result") "remains"
  n_Result_made : NoAttr K (He.ga K "Result") "made"
  n_Result_ended : NoAttr K (He.ga K "Result") "ended"
  g_Stay : mg "Stay" = some (.ref (He.ga K "Stay"))
  c_Stay : Cls K (He.ga K "Stay")
  m_Stay : Mk K (He.ga K "Stay") (He.ma K (He.ga K "Stay") "__init__")
  n_Stay_mark : NoAttr K (He.ga K "Stay") "mark"
  n_Stay_held : NoAttr K (He.ga K "Stay") "held"
  n_Stay_is_broken : NoAttr K (He.ga K "Stay") "is_broken"
  g_Track : mg "Track" = some (.ref (He.ga K "Track"))
  c_Track : Cls K (He.ga K "Track")
  m_Track : Mk K (He.ga K "Track") (He.ma K (He.ga K "Track") "__init__")
  n_Track_pairs : NoAttr K (He.ga K "Track") "pairs"
  n_Track_made : NoAttr K (He.ga K "Track") "made"
  g_Feeder : mg "Feeder" = some (.ref (He.ga K "Feeder"))
  c_Feeder : Cls K (He.ga K "Feeder")
  m_Feeder : Mk K (He.ga K "Feeder") (He.ma K (He.ga K "Feeder") "__init__")
  n_Feeder_loop : NoAttr K (He.ga K "Feeder") "loop"
  n_Feeder_known : NoAttr K (He.ga K "Feeder") "known"
  mt_Pass_carry_out : Meth K (He.ga K "Pass") "carry_out" (He.ma K (He.ga K "Pass") "carry_out")
  mt_Repeats_part : Meth K (He.ga K "Repeats") "part" (He.ma K (He.ga K "Repeats") "part")
  mt_Repeats_to_text : Meth K (He.ga K "Repeats") "to_text" (He.ma K (He.ga K "Repeats") "to_text")
  mt_Repeats_add : Meth K (He.ga K "Repeats") "__add__" (He.ma K (He.ga K "Repeats") "__add__")
  mt_Repeats_mul : Meth K (He.ga K "Repeats") "__mul__" (He.ma K (He.ga K "Repeats") "__mul__")
  mt_Repeats_eq : Meth K (He.ga K "Repeats") "__eq__" (He.ma K (He.ga K "Repeats") "__eq__")
  mt_Stay_key : Meth K (He.ga K "Stay") "key" (He.ma K (He.ga K "Stay") "key")
  mt_Track_write : Meth K (He.ga K "Track") "write" (He.ma K (He.ga K "Track") "write")
  mt_Track_write_round : Meth K (He.ga K "Track") "write_round" (He.ma K (He.ga K "Track") "write_round")
  mt_Feeder_feed : Meth K (He.ga K "Feeder") "feed" (He.ma K (He.ga K "Feeder") "feed")
  mt_Feeder_feed_text : Meth K (He.ga K "Feeder") "feed_text" (He.ma K (He.ga K "Feeder") "feed_text")
  mt_Feeder_feed_row : Meth K (He.ga K "Feeder") "feed_row" (He.ma K (He.ga K "Feeder") "feed_row")
  mt_Feeder_finish : Meth K (He.ga K "Feeder") "finish" (He.ma K (He.ga K "Feeder") "finish")
  p_Repeats_length : PropOf K (He.ga K "Repeats") "length" (He.ma K (He.ga K "Repeats") "length") (pg K (He.ga K "Repeats") "length")
  p_Result_text : PropOf K (He.ga K "Result") "text" (He.ma K (He.ga K "Result") "text") (pg K (He.ga K "Result") "text")
  p_Result_passes : PropOf K (He.ga K "Result") "passes" (He.ma K (He.ga K "Result") "passes") (pg K (He.ga K "Result") "passes")
  p_Result_ways : PropOf K (He.ga K "Result") "ways" (He.ma K (He.ga K "Result") "ways") (pg K (He.ga K "Result") "ways")
  crd : ClX.CRead K (He.ga K "Repeats") (.type "type")
  cmt : ClX.CMet K (He.ga K "Repeats") (.type "type") "once" (He.ma K (He.ga K "Repeats") "once") (He5.wf K (He.ga K "Repeats") "classmethod" "once")
  rne : PySem.W.findIn K (.ref (He.ga K "Repeats")) "__ne__" = some (some (.builtin "object.__ne__"))
  rmro : PySem.W.mroIn K (He.ga K "Repeats") (.type "object") = some true
  umro : PySem.W.mroIn K (He.ga K "Runs") (.type "object") = some true
  rfirst : PySem.W.selfFirst K (He.ga K "Repeats") = true
  rrmul : PySem.W.findIn K (.ref (He.ga K "Repeats")) "__rmul__" = some none
  imul : PySem.W.findIn K (.type "int") "__mul__" = some (some (.builtin "int.__mul__"))
  irmul : PySem.W.findIn K (.type "int") "__rmul__" = some (some (.builtin "int.__rmul__"))
  isub : PySem.W.subIn K (.type "int") (.ref (He.ga K "Repeats")) = some false
  rcls : PySem.W.findIn K (.ref (He.ga K "Repeats")) "__class__" = some (some (.builtin "object.__class__"))
  ucls : PySem.W.findIn K (.ref (He.ga K "Runs")) "__class__" = some (some (.builtin "object.__class__"))
  cget : PySem.W.specialIn K (.builtin "object.__class__") "__get__" = some (some (.builtin "getset_descriptor.__get__"))
  ctak : PySem.W.takesIn K (.builtin "object.__class__") = some true
  kit_uu : PySem.W.kitOne K (.ref (He.ga K "Runs")) (.ref (He.ga K "Runs")) = some true
  kit_lu : PySem.W.kitOne K (.type "list") (.ref (He.ga K "Runs")) = some false
  kit_rr : PySem.W.kitOne K (.ref (He.ga K "Repeats")) (.ref (He.ga K "Repeats")) = some true
  kinds : ∃ es n, KDict K w (He.ga K "EDIT_KINDS") es n
  kd_put : ∃ u, PySem.W.nsIn K (He.ga K "EDIT_KINDS") "put" = some (some u) ∧ RelV (.str "item") u
  kd_drop : ∃ u, PySem.W.nsIn K (He.ga K "EDIT_KINDS") "drop" = some (some u) ∧ RelV (.non) u
  kd_drop_next : ∃ u, PySem.W.nsIn K (He.ga K "EDIT_KINDS") "drop_next" = some (some u) ∧ RelV (.non) u
  kd_before : ∃ u, PySem.W.nsIn K (He.ga K "EDIT_KINDS") "before" = some (some u) ∧ RelV (.str "item") u
  kd_after : ∃ u, PySem.W.nsIn K (He.ga K "EDIT_KINDS") "after" = some (some u) ∧ RelV (.str "item") u
  kd_mark : ∃ u, PySem.W.nsIn K (He.ga K "EDIT_KINDS") "mark" = some (some u) ∧ RelV (.str "mark") u
  kd_break : ∃ u, PySem.W.nsIn K (He.ga K "EDIT_KINDS") "break" = some (some u) ∧ RelV (.non) u
  endless : EndTxt K mg (He.ga K "Endless") (He.ma K (He.ga K "Endless") "__init__")
  eexm : PySem.W.exmOne K (.ref (He.ga K "Endless")) (.ref (He.ga K "Endless")) = some true
  z_len : mg "len" = none
  z_isinstance : mg "isinstance" = none
  z_min : mg "min" = none
  z_max : mg "max" = none
  z_abs : mg "abs" = none
  z_sum : mg "sum" = none
  z_all : mg "all" = none
  z_divmod : mg "divmod" = none
  z_list : mg "list" = none
  z_tuple : mg "tuple" = none
  z_range : mg "range" = none
  z_enumerate : mg "enumerate" = none
  z_int : mg "int" = none
  z_bool : mg "bool" = none
  z_str : mg "str" = none
section
variable {X : Cx} {pos : Pos} {x : Str}
theorem pe_gi {i : Int} (h : ∃ t, X.mg x = some (.int i t)) (hg : Gl X x := by rfl) (hd : (x == ("__debug__" : Str)) = false := by decide) : PE X (.Name x pos) (tC (.int i)) := by
  obtain ⟨t, h⟩ := h
  exact pe_glob hg h ⟨t, rfl⟩ hd
theorem pe_gs {z : Str} (h : ∃ t, X.mg x = some (.str z t)) (hg : Gl X x := by rfl) (hd : (x == ("__debug__" : Str)) = false := by decide) : PE X (.Name x pos) (tC (.str z)) := by
  obtain ⟨t, h⟩ := h
  exact pe_glob hg h ⟨t, rfl⟩ hd
theorem pe_gr {a : Addr} (h : X.mg x = some (.ref a)) (hg : Gl X x := by rfl) (hd : (x == ("__debug__" : Str)) = false := by decide) : PE X (.Name x pos) (tC (.ref a)) := pe_glob hg h rfl hd
end
section
variable {P : Program} {w : World} {K : PySem.W.Frag} {mg : Str → Option Value} {base : Heap} {CX : CXT} {x q : Str} {st : Stmt} {f : Addr} {N ps : List Str} {k : Nat} {sp : Sp} {dvs : List V}
theorem kp_of {a : Arguments} {b : List Stmt} {sc : Scope} (F : ∃ fd, FunD K x q a b sc dvs [] f fd) : PySem.W.keepIn K (.ref f) = true := by
  obtain ⟨fd, F⟩ := F
  exact F.kp
/-- a def without defaults keeps its promise -/
theorem ok_of (F : ∃ fd, FunD K x q (defArgs st) (defBody st) (defScope st) [] [] f fd) (S : FnScope N ps (defScope st))
    (hb : ∀ (kV doc pm : Value) (an : Option Addr) (cdv ct : Value) (us : List Value), us.length = ps.length → bindArgs (PySem.W.fnOf x q (defArgs st) (defBody st) (defScope st) .none kV doc pm an cdv ct) ⟨us, []⟩ = pure (ps.zip us))
    (len : ∀ vs H Q E, sp vs H Q E → vs.length = ps.length)
    (hbody : ∀ (cdv : Value) (A : Around) (outer : List Env) (s : Shared) (H : Hp) (vs : List V) (Q : VK) (E : XK), Room k (A.deeper (envOfC q (defScope st) s.heap.objs.size f cdv)) → sp vs H Q E →
      ∃ t, PSs (cxOf CX P w K mg base N q (defScope st) f cdv A outer s H E).nox (defBody st) t ∧ t { nx := fun _ H' => Q .non H', rt := Q } (start N vs) H) : FnR P w K mg base CX (k + 1) f sp := by
  obtain ⟨fd, F⟩ := F
  have O : FnOk P w K mg base CX (k + 1) f fd ps sp := F.ok S len fun cdv A outer s H vs Q E hr h => by
    obtain ⟨t, p, q⟩ := hbody cdv A outer s H vs Q E hr h
    exact ⟨t, PSs.nox p, q⟩
  exact (O.raw (F.bindsN hb) .nil).imp fun vs H Q E h => by rw [List.append_nil]; exact h
/-- .. which may raise -/
theorem okX_of (F : ∃ fd, FunD K x q (defArgs st) (defBody st) (defScope st) [] [] f fd) (S : FnScope N ps (defScope st))
    (hb : ∀ (kV doc pm : Value) (an : Option Addr) (cdv ct : Value) (us : List Value), us.length = ps.length → bindArgs (PySem.W.fnOf x q (defArgs st) (defBody st) (defScope st) .none kV doc pm an cdv ct) ⟨us, []⟩ = pure (ps.zip us))
    (len : ∀ vs H Q E, sp vs H Q E → vs.length = ps.length)
    (hbody : ∀ (cdv : Value) (A : Around) (outer : List Env) (s : Shared) (H : Hp) (vs : List V) (Q : VK) (E : XK), Room k (A.deeper (envOfC q (defScope st) s.heap.objs.size f cdv)) → sp vs H Q E →
      ∃ t, PSs (cxOf CX P w K mg base N q (defScope st) f cdv A outer s H E) (defBody st) t ∧ t { nx := fun _ H' => Q .non H', rt := Q } (start N vs) H) : FnR P w K mg base CX (k + 1) f sp := by
  obtain ⟨fd, F⟩ := F
  have O : FnOk P w K mg base CX (k + 1) f fd ps sp := F.ok S len hbody
  exact (O.raw (F.bindsN hb) .nil).imp fun vs H Q E h => by rw [List.append_nil]; exact h
end
end OB
set_option Elab.async false
set_option linter.all false
set_option maxRecDepth 100000
set_option maxHeartbeats 4000000
namespace OB
open PySem PySem.Spec PySem.Calls PyProof.Rows L2 PySem.W StX
section
variable {X : Cx} {pos : Pos} {o i : Expr} {td ty : TE} {d : Addr}
def rKd (K : Frag) (d : Addr) : R2 := fun x y H Q => ∃ (z : Str) (v0 : V), x = .ref d ∧ y = .str z ∧ (∃ u0, nsIn K d z = some (some u0) ∧ RelV v0 u0) ∧ Q v0 H
theorem pe_kd (D : ∃ es n, KDict X.K X.w d es n) (ho : PE X o td) (hi : PE X i ty) (hs : NoSl i) : PE X (.Subscript o i pos) (tOp (rKd X.K d) td ty) := by
  obtain ⟨es, n, D⟩ := D
  refine ⟨fun pins s σ H Q I h => ?_⟩
  refine subD_of PySem.F.slot_dict_getitem.lookup hs (thn (ho.run pins s σ H _ I h) fun u s1 ⟨x, H1, I1, rx, q1⟩ => thn (hi.run pins s1 σ H1 _ I1 q1) fun iv s2 ⟨y, H2, I2, ry, z, v0, ex, ey, ⟨u0, e, r⟩, q⟩ => ?_)
  subst ex ey
  cases rx
  refine ⟨kd_type D I2, ?_⟩
  exact op_item_kd D pins s2 σ H2 (.ref d) (.str z) _ _ Q I2 rfl ry ⟨z, u0, v0, rfl, rfl, e, r, q⟩
def rKdNotIn (K : Frag) (d : Addr) : R2 := fun x y H Q => ∃ (z : Str) (u0 : Value), x = .str z ∧ y = .ref d ∧ nsIn K d z = some (some u0) ∧ Q (.bl false) H
theorem op_kdNotIn (D : ∃ es n, KDict X.K X.w d es n) : OpR X (compareOp .NotIn) (rKdNotIn X.K d) := by
  obtain ⟨es, n, D⟩ := D
  intro pins s σ H x y v u Q I rx ry ⟨z, u0, ex, ey, e, q⟩
  exact op_notIn_kd D pins s σ H x y v u Q I rx ry ⟨z, some u0, ex, ey, e, q⟩
end
theorem pe_ty {X : Cx} {x : Str} {T : String} {pos : Pos} (hm : X.mg x = none) (hv : bootBuiltins x = some (.type T)) (hg : Gl X x := by rfl) (hn : x ≠ "__name__" := by decide) (hd : (x == ("__debug__" : Str)) = false := by decide) : PE X (.Name x pos) (tC (.ty T)) :=
  pe_bltn (v := .ty T) hg hm hv rfl hn hd
/-! ### small words for the readings -/
section
variable {H H' H'' : Hp} {a b p : Addr} {o : HO}
theorem if_t {c : Bool} {A B : Prop} (hc : c = true) (h : A) : if c = true then A else B := by rw [if_pos hc]; exact h
theorem if_f {c : Bool} {A B : Prop} (hc : c = false) (h : B) : if c = true then A else B := by rw [hc, if_neg Bool.false_ne_true]; exact h
theorem ifb {c : Bool} {A B : Prop} (h1 : c = true → A) (h2 : c = false → B) : if c = true then A else B := by
  cases c
  · exact if_f rfl (h2 rfl)
  · exact if_t rfl (h1 rfl)
/-- everything that is tracked stays, but what stands at M -/
def Kp (M : List Addr) (H H' : Hp) : Prop := ∀ b o, H b = some o → b ∉ M → H' b = some o
theorem Kp.rfl' {M : List Addr} : Kp M H H := fun _ _ h _ => h
theorem Kp.trans {M : List Addr} (x : Kp M H H') (y : Kp M H' H'') : Kp M H H'' := fun b o h n => y b o (x b o h n) n
theorem Kp.mono {M N : List Addr} (x : Kp M H H') (h : ∀ a, a ∈ M → a ∈ N) : Kp N H H' := fun b o e n => x b o e fun z => n (h b z)
theorem Kp.of (x : Ext H H') {M : List Addr} : Kp M H H' := fun b o h _ => x b o h
theorem Kp.ext (x : Kp [] H H') : Ext H H' := fun b o h => x b o h (fun z => nomatch z)
theorem Kp.new {M : List Addr} (h : H p = none) : Kp M H (upd H p o) := Kp.of (Ext.upd h)
theorem Kp.put {M : List Addr} (h : p ∈ M) : Kp M H (upd H p o) := fun b u e n => by
  have z : b ≠ p := fun z => n (by rw [z]; exact h)
  rw [upd_ne z]
  exact e
theorem Kp.at_ {M : List Addr} (x : Kp M H H') (e : H a = some o) (h : a ∉ M) : H' a = some o := x a o e h
/-- a fresh place may be left out -/
theorem Kp.drop {M : List Addr} (x : Kp (p :: M) H H') (h : H p = none) : Kp M H H' := fun b o e n => x b o e fun z => by
  rcases List.mem_cons.mp z with z | z
  · rw [z, h] at e; cases e
  · exact n z
theorem ne_of_at {u v : HO} (h1 : H a = some u) (h2 : H b = some v) (h : u ≠ v) : a ≠ b := fun e => by
  rw [e, h2] at h1
  exact h (Option.some.inj h1).symm
theorem nin1 (h : a ≠ b) : a ∉ [b] := fun z => h (List.mem_singleton.mp z)
end
end OB
set_option Elab.async false
set_option linter.all false
set_option maxRecDepth 100000
set_option maxHeartbeats 4000000
namespace OB
open PySem PySem.Spec PySem.Calls PyProof.Rows L2 PySem.W StX
/-! ### comprehensions over a list of things -/
section
variable {J : It} {G : Hp → Prop} {Y : Nat → Hp → V → Hp → Prop} {α : Type} {g : TG} {tt : TT} {te : TE} {vs : List Nat} {σ : L2.St} {H1 : Hp} {D : Addr} {Qd : Hp → Prop}
theorem take_more' {L : List α} {i : Nat} {a : α} (h : L[i]? = some a) : L.take (i + 1) = L.take i ++ [a] := by
  rw [List.take_add_one, h]
  rfl
theorem take_filter_more {L : List α} {i : Nat} {a : α} (p : α → Bool) (f : α → V) (h : L[i]? = some a) : ((L.take (i + 1)).filter p).map f = ((L.take i).filter p).map f ++ (if p a = true then [f a] else []) := by
  rw [take_more' h, List.filter_append, List.map_append]
  by_cases c : p a = true
  · simp [c]
  · simp [c]
theorem filt_len {L : List α} (p : α → Bool) (f : α → V) (i : Nat) : (((L.take i).filter p).map f).length ≤ L.length := by
  rw [List.length_map]
  exact Nat.le_trans (List.length_filter_le _ _) (by rw [List.length_take]; omega)
/-- what a turn's target, tests and element do: over a list of things; the element's value f, whether it is taken p -/
theorem lc_fm (L : List α) (p : α → Bool) (f : α → V) (w : Walk J L.length G Y) (hn : L.length < sizeLine) (hD : H1 D = none) (hG : ∀ H, Ext H1 H → G H)
    (mg : ∀ x σ H (P P' : L2.St → Hp → Prop), (∀ a b, P a b → P' a b) → g x σ H P → g x σ H P')
    (hs : ∀ i a x Ha Hb, L[i]? = some a → Ext H1 Ha → Y i Ha x Hb → g x (wipe σ vs) Hb fun σ2 H2 => wipe σ2 vs = wipe σ vs ∧ Ext Ha H2 ∧ (∀ R : Bool → Hp → Prop, (∀ H3, Ext H2 H3 → R (p a) H3) → tt σ2 H2 R) ∧ (p a = true → ∀ H3, Ext H2 H3 → ∀ Q : VK, (∀ H4, Ext H3 H4 → Q (f a) H4) → te σ2 H3 Q))
    (hd : ∀ H, Ext H1 H → H D = some (.lst ((L.filter p).map f)) → Qd H) :
    ∃ W : Nat → Nat → Hp → Prop, (∃ m, W 0 m (upd H1 D (.lst []))) ∧ ∀ i m H, W i m H →
      (J.stop i H ∧ Qd H) ∨ (J.go i H ∧ ∃ Nx : Hp → Prop, (∀ H', Nx H' → ∃ m', m' < m ∧ W (i + 1) m' H') ∧ ∀ x H', J.yld i H x H' → g x (wipe σ vs) H' fun σ2 H2 => wipe σ2 vs = wipe σ vs ∧ tt σ2 H2 fun b H3 =>
        if b = true then te σ2 H3 fun y H4 => ∃ acc, H4 D = some (.lst acc) ∧ acc.length < sizeLine ∧ Nx (upd H4 D (.lst (acc ++ [y]))) else Nx H3) := by
  refine lc_it w (fun i H => Ext H1 H ∧ H D = some (.lst (((L.take i).filter p).map f))) ⟨Ext.upd hD, upd_same⟩ (fun i H _ q => hG H q.1) (fun i x H H' hi q y => ?_) (fun H q => hd H q.1 (by rw [q.2, List.take_length]))
  obtain ⟨q1, q2⟩ := q
  have ha : L[i]? = some L[i] := List.getElem?_eq_getElem hi
  refine mg _ _ _ _ _ (fun σ2 H2 z => ?_) (hs i L[i] x H H' ha q1 y)
  obtain ⟨z1, z2, z3, z4⟩ := z
  refine ⟨z1, z3 _ fun H3 e3 => ?_⟩
  have em := take_filter_more p f ha
  have d3 := e3 _ _ (z2 _ _ q2)
  cases c : p L[i] with
  | true =>
    refine if_t rfl (z4 c H3 e3 _ fun H4 e4 => ⟨_, e4 _ _ d3, Nat.lt_of_le_of_lt (filt_len p f i) hn, ?_⟩)
    rw [if_pos c] at em
    refine ⟨fun b o e => ?_, by rw [em]; exact upd_same⟩
    have e' := e4 _ _ (e3 _ _ (z2 _ _ (q1 _ _ e)))
    have hb : b ≠ D := fun z => by rw [z, hD] at e; cases e
    rw [upd_ne hb]
    exact e'
  | false =>
    refine if_f rfl ?_
    rw [if_neg (by rw [c]; exact Bool.false_ne_true), List.append_nil] at em
    exact ⟨fun b o e => e3 _ _ (z2 _ _ (q1 _ _ e)), by rw [em]; exact d3⟩
end
theorem gm_name (i : Nat) : ∀ x σ H (P P' : L2.St → Hp → Prop), (∀ a b, P a b → P' a b) → gName i x σ H P → gName i x σ H P' := fun _ _ _ _ _ h q => h _ _ q
theorem gm_tup2 {K : Frag} (i j : Nat) : ∀ x σ H (P P' : L2.St → Hp → Prop), (∀ a b, P a b → P' a b) → gTup K 2 (gCons (gName i) (gCons (gName j) gNil)) x σ H P → gTup K 2 (gCons (gName i) (gCons (gName j) gNil)) x σ H P' := by
  intro x σ H P P' h ⟨a, xs, e1, e2, e3, v, r, e4, v2, r2, e5, e6, q⟩
  exact ⟨a, xs, e1, e2, e3, v, r, e4, v2, r2, e5, e6, h _ _ q⟩
theorem filter_tt {α : Type} (L : List α) : L.filter (fun _ => true) = L := by simp
/-- no tests -/
theorem tY {H2 : Hp} {σ2 : L2.St} {b : Bool} (hb : b = true) : ∀ R : Bool → Hp → Prop, (∀ H3, Ext H2 H3 → R b H3) → tYes σ2 H2 R := fun R h => by
  have := h H2 Ext.rfl'
  rw [hb] at this
  exact this
/-! ### texts -/
theorem sizeBig : (16777216 : Nat) ≤ sizeLine := by rw [sizeLine_eq]; decide
def signsV (l : List Nat) : List V := l.map fun c => .str (tx [c])
/-! ### the mirror -/
inductive Ed where
  | put (c : Nat)
  | drop
  | dropNext
  | before (c : Nat)
  | after (c : Nat)
  | mark (m : Nat)
  | brk
deriving DecidableEq
structure Ru where
  mark : Option Nat
  items : List Nat
  nexts : List Nat
  edits : List Ed
structure Lo where
  rules : List Ru
  ends : List (List Nat)
abbrev abcd : List Nat := [97, 98, 99, 100]
abbrev abcdE : List Nat := [97, 98, 99, 100, 36]
def okEd : Ed → Prop
  | .put c => c ∈ abcd
  | .before c => c ∈ abcd
  | .after c => c ∈ abcd
  | .mark m => m < 4
  | _ => True
def isIns : Ed → Bool
  | .before _ => true
  | .after _ => true
  | _ => false
def isDel : Ed → Bool
  | .drop => true
  | .dropNext => true
  | _ => false
def isBrk : Ed → Bool
  | .brk => true
  | _ => false
structure VEds (es : List Ed) : Prop where
  ok : ∀ e ∈ es, okEd e
  len : es.length ≤ 4
  ins : (es.filter isIns).length ≤ 1
  del : (es.filter isDel).length ≤ 2
  brk : ∀ (a b : List Ed), es = a ++ [.brk] ++ b → b = []
def Sel (l al : List Nat) : Prop := l ≠ [] ∧ l = al.filter fun c => decide (c ∈ l)
structure VRu (r : Ru) : Prop where
  mark : ∀ m, r.mark = some m → m < 4
  items : Sel r.items abcd
  nexts : Sel r.nexts abcdE
  edits : VEds r.edits
structure VLo (L : Lo) : Prop where
  few : L.rules.length ≤ 12
  rules : ∀ r ∈ L.rules, VRu r
  four : L.ends.length = 4
  ends : ∀ e ∈ L.ends, (∀ c ∈ e, c ∈ abcd) ∧ e.length ≤ 4
/-! ### how it lies in the heap -/
def TK (H H' : Hp) : Prop := ∀ a xs, H a = some (.tup xs) → H' a = some (.tup xs)
theorem TK.rfl' {H : Hp} : TK H H := fun _ _ h => h
theorem TK.trans {H H1 H2 : Hp} (x : TK H H1) (y : TK H1 H2) : TK H H2 := fun a xs h => y a xs (x a xs h)
theorem Ext.tk {H H' : Hp} (x : Ext H H') : TK H H' := fun a xs h => x a _ h
/-- what stands at M is no tuple -/
theorem Kp.tk {M : List Addr} {H H' : Hp} (x : Kp M H H') (h : ∀ a ∈ M, ∀ xs, H a ≠ some (.tup xs)) : TK H H' := fun a xs e => x a _ e fun z => h a z xs e
def edV : Ed → List V
  | .put c => [.str "put", .str (tx [c])]
  | .drop => [.str "drop"]
  | .dropNext => [.str "drop_next"]
  | .before c => [.str "before", .str (tx [c])]
  | .after c => [.str "after", .str (tx [c])]
  | .mark m => [.str "mark", .int (m : Int)]
  | .brk => [.str "break"]
def IsEd (H : Hp) (v : V) (e : Ed) : Prop := ∃ a, v = .ref a ∧ H a = some (.tup (edV e))
def IsEds (H : Hp) (v : V) (es : List Ed) : Prop := ∃ a vs, v = .ref a ∧ H a = some (.tup vs) ∧ Paired (IsEd H) vs es
def mkV : Option Nat → V
  | none => .non
  | some m => .int (m : Int)
def IsRu (H : Hp) (v : V) (r : Ru) : Prop := ∃ a e, v = .ref a ∧ H a = some (.tup [mkV r.mark, .str (tx r.items), .str (tx r.nexts), e]) ∧ IsEds H e r.edits
def IsRus (H : Hp) (v : V) (rs : List Ru) : Prop := ∃ a vs, v = .ref a ∧ H a = some (.tup vs) ∧ Paired (IsRu H) vs rs
def IsEnds (H : Hp) (v : V) (es : List (List Nat)) : Prop := ∃ a, v = .ref a ∧ H a = some (.tup (es.map fun e => .str (tx e)))
def IsLo (H : Hp) (v : V) (L : Lo) : Prop := ∃ a r e, v = .ref a ∧ H a = some (.tup [r, e]) ∧ IsRus H r L.rules ∧ IsEnds H e L.ends
section
variable {H H' : Hp} {v : V}
theorem paired_mono {α β : Type} {R S : α → β → Prop} (h : ∀ a b, R a b → S a b) : ∀ {xs : List α} {ys : List β}, Paired R xs ys → Paired S xs ys
  | _, _, .nil => .nil
  | _, _, .cons r t => .cons (h _ _ r) (paired_mono h t)
theorem IsEd.mono (t : TK H H') {e : Ed} (h : IsEd H v e) : IsEd H' v e := by
  obtain ⟨a, e1, e2⟩ := h
  exact ⟨a, e1, t _ _ e2⟩
theorem IsEds.mono (t : TK H H') {es : List Ed} (h : IsEds H v es) : IsEds H' v es := by
  obtain ⟨a, vs, e1, e2, p⟩ := h
  exact ⟨a, vs, e1, t _ _ e2, paired_mono (fun _ _ z => z.mono t) p⟩
theorem IsRu.mono (t : TK H H') {r : Ru} (h : IsRu H v r) : IsRu H' v r := by
  obtain ⟨a, e, e1, e2, p⟩ := h
  exact ⟨a, e, e1, t _ _ e2, p.mono t⟩
theorem IsRus.mono (t : TK H H') {rs : List Ru} (h : IsRus H v rs) : IsRus H' v rs := by
  obtain ⟨a, vs, e1, e2, p⟩ := h
  exact ⟨a, vs, e1, t _ _ e2, paired_mono (fun _ _ z => z.mono t) p⟩
theorem IsEnds.mono (t : TK H H') {es : List (List Nat)} (h : IsEnds H v es) : IsEnds H' v es := by
  obtain ⟨a, e1, e2⟩ := h
  exact ⟨a, e1, t _ _ e2⟩
theorem IsLo.mono (t : TK H H') {L : Lo} (h : IsLo H v L) : IsLo H' v L := by
  obtain ⟨a, r, e, e1, e2, p, q⟩ := h
  exact ⟨a, r, e, e1, t _ _ e2, p.mono t, q.mono t⟩
theorem paired_at {α β : Type} {R : α → β → Prop} : ∀ {xs : List α} {ys : List β}, Paired R xs ys → ∀ {i : Nat} {x : α}, xs[i]? = some x → ∃ y, ys[i]? = some y ∧ R x y
  | _, _, .nil, i, x, h => by simp at h
  | _, _, .cons r t, 0, x, h => by
    simp at h
    subst h
    exact ⟨_, rfl, r⟩
  | _, _, .cons r t, i + 1, x, h => by
    simp at h
    exact paired_at t h
theorem paired_at' {α β : Type} {R : α → β → Prop} : ∀ {xs : List α} {ys : List β}, Paired R xs ys → ∀ {i : Nat} {y : β}, ys[i]? = some y → ∃ x, xs[i]? = some x ∧ R x y
  | _, _, .nil, i, x, h => by simp at h
  | _, _, .cons r t, 0, x, h => by
    simp at h
    subst h
    exact ⟨_, rfl, r⟩
  | _, _, .cons r t, i + 1, x, h => by
    simp at h
    exact paired_at' t h
theorem paired_take {α β : Type} {R : α → β → Prop} : ∀ {xs : List α} {ys : List β} (n : Nat), Paired R xs ys → Paired R (xs.take n) (ys.take n)
  | _, _, 0, _ => .nil
  | _, _, n + 1, .nil => .nil
  | _, _, n + 1, .cons r t => .cons r (paired_take n t)
theorem paired_snoc {α β : Type} {R : α → β → Prop} {x : α} {y : β} (h : R x y) : ∀ {xs : List α} {ys : List β}, Paired R xs ys → Paired R (xs ++ [x]) (ys ++ [y])
  | _, _, .nil => .cons h .nil
  | _, _, .cons r t => .cons r (paired_snoc h t)
theorem sq {K : Frag} {a : Addr} {xs : List V} (h : H a = some (.tup xs)) : SqT K H a xs := .inl (.inl h)
theorem sl {K : Frag} {a : Addr} {xs : List V} (h : H a = some (.lst xs)) : SqL K H a xs := .inl (.inl h)
end
theorem walk_tx {l : List Nat} : Walk (Its (tx l)) l.length (fun _ => True) (fun i H v H' => H' = H ∧ ∃ c, l[i]? = some c ∧ v = .str (tx [c])) := by
  have e : (tx l).cps.size = l.length := tx_len l
  have w := walk_str (z := tx l)
  rw [e] at w
  exact w.mono (fun _ h => h) fun i H x H' _ _ ⟨h1, c, h2, h3⟩ => ⟨h1, c, by simpa [tx] using h2, h3⟩
/-- join of texts by the empty text -/
theorem joinL_nil : ∀ ys : List (List Nat), TL.joinL [] ys = ys.flatten
  | [] => rfl
  | [x] => by simp [TL.joinL]
  | x :: y :: r => by
    have ih := joinL_nil (y :: r)
    simp only [TL.joinL, List.flatten_cons] at ih ⊢
    simp [ih]
theorem join_tx (ys : List (List Nat)) : Txt.join (tx []) (ys.map tx) = tx ys.flatten := by
  have e := SX.join_S [] ys
  rw [joinL_nil] at e
  exact e
theorem emp_tx : ("" : Str) = tx [] := by decide +kernel
theorem lens_tx (l : List (List Nat)) : ((l.map tx).map (·.length)).sum = l.flatten.length := by
  induction l with
  | nil => rfl
  | cons x l ih => rw [List.map_cons, List.map_cons, List.sum_cons, ih, tx_len, List.flatten_cons, List.length_append]
theorem map_str (ys : List (List Nat)) : (ys.map fun y => V.str (tx y)) = (ys.map tx).map V.str := by rw [List.map_map]; rfl
theorem qb {Q : VK} {b : Bool} {H : Hp} (h : b = true) (q : Q (.bl true) H) : Q (.bl b) H := by rw [h]; exact q
theorem qv {Q : VK} {v u : V} {H : Hp} (h : v = u) (q : Q u H) : Q v H := by rw [h]; exact q
theorem tyL {K : Frag} {H : Hp} {b : Addr} {xs : List V} (h : H b = some (.lst xs)) : tyV K "list" (.ref b) H := .inl ⟨rfl, _, sl h⟩
theorem sz2 {α : Type} {l : List α} (h : l.length ≤ 1000) : l.length ≤ sizeLine := Nat.le_trans h (Nat.le_trans (by decide) sizeBig)
theorem em_nat (a b : Nat) : V.int ((a : Int) % (b : Int)) = .int ((a % b : Nat) : Int) := congrArg V.int (Int.natCast_emod a b).symm
theorem ed_nat (a b : Nat) : V.int ((a : Int) / (b : Int)) = .int ((a / b : Nat) : Int) := congrArg V.int (Int.natCast_ediv a b).symm
theorem ad_nat (a b : Nat) : V.int ((a : Int) + (b : Int)) = .int ((a + b : Nat) : Int) := congrArg V.int (Int.natCast_add a b).symm
theorem mu_nat (a b : Nat) : V.int ((a : Int) * (b : Int)) = .int ((a * b : Nat) : Int) := congrArg V.int (Int.natCast_mul a b).symm
theorem su_nat {a b : Nat} (h : b ≤ a) : V.int ((a : Int) - (b : Int)) = .int ((a - b : Nat) : Int) := congrArg V.int (by omega)
end OB
set_option Elab.async false
set_option linter.all false
set_option maxRecDepth 100000
set_option maxHeartbeats 4000000
namespace OB
open PySem PySem.Spec PySem.Calls PyProof.Rows L2 PySem.W StX
def pF (c : Nat) (r : V) (m : Nat) (b : Bool) : List (Str × V) := [("item", .str (tx [c])), ("rule", r), ("mark", .int (m : Int)), ("is_broken", .bl b)]
theorem pF_item (c : Nat) (r : V) (m : Nat) (b : Bool) : (pF c r m b).lookup ("item" : Str) = some (V.str (tx [c])) := by kernel_rfl
theorem pF_rule (c : Nat) (r : V) (m : Nat) (b : Bool) : (pF c r m b).lookup ("rule" : Str) = some (r) := by kernel_rfl
theorem pF_mark (c : Nat) (r : V) (m : Nat) (b : Bool) : (pF c r m b).lookup ("mark" : Str) = some (V.int (m : Int)) := by kernel_rfl
theorem pF_is_broken (c : Nat) (r : V) (m : Nat) (b : Bool) : (pF c r m b).lookup ("is_broken" : Str) = some (V.bl b) := by kernel_rfl
theorem pF_no_carry_out (c : Nat) (r : V) (m : Nat) (b : Bool) : (pF c r m b).lookup ("carry_out" : Str) = none := by kernel_rfl
theorem pF_new0 (c : Nat) (r : V) (m : Nat) (b : Bool) : putF "item" (V.str (tx [c])) ([] : List (Str × V)) = ([("item", .str (tx [c]))] : List (Str × V)) := by kernel_rfl
theorem pF_new1 (c : Nat) (r : V) (m : Nat) (b : Bool) : putF "rule" (r) ([("item", .str (tx [c]))] : List (Str × V)) = ([("item", .str (tx [c])), ("rule", r)] : List (Str × V)) := by kernel_rfl
theorem pF_new2 (c : Nat) (r : V) (m : Nat) (b : Bool) : putF "mark" (V.int (m : Int)) ([("item", .str (tx [c])), ("rule", r)] : List (Str × V)) = ([("item", .str (tx [c])), ("rule", r), ("mark", .int (m : Int))] : List (Str × V)) := by kernel_rfl
theorem pF_new3 (c : Nat) (r : V) (m : Nat) (b : Bool) : putF "is_broken" (V.bl b) ([("item", .str (tx [c])), ("rule", r), ("mark", .int (m : Int))] : List (Str × V)) = (pF c r m b : List (Str × V)) := by kernel_rfl
def sF (m : Nat) (h : List Nat) (b : Bool) : List (Str × V) := [("mark", .int (m : Int)), ("held", .str (tx h)), ("is_broken", .bl b)]
theorem sF_mark (m : Nat) (h : List Nat) (b : Bool) : (sF m h b).lookup ("mark" : Str) = some (V.int (m : Int)) := by kernel_rfl
theorem sF_held (m : Nat) (h : List Nat) (b : Bool) : (sF m h b).lookup ("held" : Str) = some (V.str (tx h)) := by kernel_rfl
theorem sF_is_broken (m : Nat) (h : List Nat) (b : Bool) : (sF m h b).lookup ("is_broken" : Str) = some (V.bl b) := by kernel_rfl
theorem sF_no_key (m : Nat) (h : List Nat) (b : Bool) : (sF m h b).lookup ("key" : Str) = none := by kernel_rfl
theorem sF_new0 (m : Nat) (h : List Nat) (b : Bool) : putF "mark" (V.int (m : Int)) ([] : List (Str × V)) = ([("mark", .int (m : Int))] : List (Str × V)) := by kernel_rfl
theorem sF_new1 (m : Nat) (h : List Nat) (b : Bool) : putF "held" (V.str (tx h)) ([("mark", .int (m : Int))] : List (Str × V)) = ([("mark", .int (m : Int)), ("held", .str (tx h))] : List (Str × V)) := by kernel_rfl
theorem sF_new2 (m : Nat) (h : List Nat) (b : Bool) : putF "is_broken" (V.bl b) ([("mark", .int (m : Int)), ("held", .str (tx h))] : List (Str × V)) = (sF m h b : List (Str × V)) := by kernel_rfl
def kF (p : V) (n : Int) : List (Str × V) := [("pairs", p), ("made", .int n)]
theorem kF_pairs (p : V) (n : Int) : (kF p n).lookup ("pairs" : Str) = some (p) := by kernel_rfl
theorem kF_made (p : V) (n : Int) : (kF p n).lookup ("made" : Str) = some (V.int n) := by kernel_rfl
theorem kF_no_write (p : V) (n : Int) : (kF p n).lookup ("write" : Str) = none := by kernel_rfl
theorem kF_no_write_round (p : V) (n : Int) : (kF p n).lookup ("write_round" : Str) = none := by kernel_rfl
theorem kF_new0 (p : V) (n : Int) : putF "pairs" (p) ([] : List (Str × V)) = ([("pairs", p)] : List (Str × V)) := by kernel_rfl
theorem kF_new1 (p : V) (n : Int) : putF "made" (V.int n) ([("pairs", p)] : List (Str × V)) = (kF p n : List (Str × V)) := by kernel_rfl
def fF (l k : V) : List (Str × V) := [("loop", l), ("known", k)]
theorem fF_loop (l k : V) : (fF l k).lookup ("loop" : Str) = some (l) := by kernel_rfl
theorem fF_known (l k : V) : (fF l k).lookup ("known" : Str) = some (k) := by kernel_rfl
theorem fF_no_feed (l k : V) : (fF l k).lookup ("feed" : Str) = none := by kernel_rfl
theorem fF_no_feed_text (l k : V) : (fF l k).lookup ("feed_text" : Str) = none := by kernel_rfl
theorem fF_no_feed_row (l k : V) : (fF l k).lookup ("feed_row" : Str) = none := by kernel_rfl
theorem fF_no_finish (l k : V) : (fF l k).lookup ("finish" : Str) = none := by kernel_rfl
theorem fF_new0 (l k : V) : putF "loop" (l) ([] : List (Str × V)) = ([("loop", l)] : List (Str × V)) := by kernel_rfl
theorem fF_new1 (l k : V) : putF "known" (k) ([("loop", l)] : List (Str × V)) = (fF l k : List (Str × V)) := by kernel_rfl
def uF (l : V) : List (Str × V) := [("tidied", l)]
theorem uF_tidied (l : V) : (uF l).lookup ("tidied" : Str) = some (l) := by kernel_rfl
theorem uF_new0 (l : V) : putF "tidied" (l) ([] : List (Str × V)) = (uF l : List (Str × V)) := by kernel_rfl
def rF (l : V) : List (Str × V) := [("runs", l)]
theorem rF_runs (l : V) : (rF l).lookup ("runs" : Str) = some (l) := by kernel_rfl
theorem rF_no_part (l : V) : (rF l).lookup ("part" : Str) = none := by kernel_rfl
theorem rF_no_to_text (l : V) : (rF l).lookup ("to_text" : Str) = none := by kernel_rfl
theorem rF_new0 (l : V) : putF "runs" (l) ([] : List (Str × V)) = (rF l : List (Str × V)) := by kernel_rfl
def zF (r p y : V) : List (Str × V) := [("remains", r), ("made", p), ("ended", y)]
theorem zF_remains (r p y : V) : (zF r p y).lookup ("remains" : Str) = some (r) := by kernel_rfl
theorem zF_made (r p y : V) : (zF r p y).lookup ("made" : Str) = some (p) := by kernel_rfl
theorem zF_ended (r p y : V) : (zF r p y).lookup ("ended" : Str) = some (y) := by kernel_rfl
theorem zF_new0 (r p y : V) : putF "remains" (r) ([] : List (Str × V)) = ([("remains", r)] : List (Str × V)) := by kernel_rfl
theorem zF_new1 (r p y : V) : putF "made" (p) ([("remains", r)] : List (Str × V)) = ([("remains", r), ("made", p)] : List (Str × V)) := by kernel_rfl
theorem zF_new2 (r p y : V) : putF "ended" (y) ([("remains", r), ("made", p)] : List (Str × V)) = (zF r p y : List (Str × V)) := by kernel_rfl
theorem pF_put_mark (c : Nat) (r : V) (m m' : Nat) (b : Bool) : putF "mark" (.int (m' : Int)) (pF c r m b) = pF c r m' b := by kernel_rfl
theorem pF_put_brk (c : Nat) (r : V) (m : Nat) (b b' : Bool) : putF "is_broken" (.bl b') (pF c r m b) = pF c r m b' := by kernel_rfl
theorem kF_put_made (p : V) (n n' : Int) : putF "made" (.int n') (kF p n) = kF p n' := by kernel_rfl
theorem pF_len (c : Nat) (r : V) (m : Nat) (b : Bool) : (pF c r m b).length = 4 := rfl
theorem sF_len (m : Nat) (h : List Nat) (b : Bool) : (sF m h b).length = 3 := rfl
theorem kF_len (p : V) (n : Int) : (kF p n).length = 2 := rfl
theorem fF_len (l k : V) : (fF l k).length = 2 := rfl
theorem uF_len (l : V) : (uF l).length = 1 := rfl
theorem rF_len (l : V) : (rF l).length = 1 := rfl
theorem zF_len (r p y : V) : (zF r p y).length = 3 := rfl
end OB
set_option Elab.async false
set_option linter.all false
set_option maxRecDepth 100000
set_option maxHeartbeats 4000000
namespace OB
open PySem PySem.Spec PySem.Calls PyProof.Rows L2 PySem.W StX
section
variable {P : Program} {w : World} {K : Frag} {mg : Str → Option Value} {base : Heap}
/- is_integer: slots thing=0 least=1 most=2 -/
def sp_is_integer (_ : Frag) : Sp := fun vs H Q _ => ∃ i l m : Int, vs = [.int i, .int l, .int m] ∧ Q (.bl (decide (l ≤ i ∧ i ≤ m))) H
def N_is_integer : List Str := ["thing", "least", "most"]
theorem sc_is_integer : FnScope N_is_integer ["thing", "least", "most"] (defScope s_is_integer) := ⟨rfl, rfl, rfl, by decide +kernel, rfl, by decide +kernel, by decide +kernel⟩
theorem ok_is_integer (T : Txt K mg w) : FnR P w K mg base CX0 1 (He.ga K "is_integer") (sp_is_integer K) := by
  refine ok_of T.f_is_integer sc_is_integer (fun _ _ _ _ _ _ us hl => match us, hl with | [_, _, _], _ => rfl) (fun vs H Q E h => ?_) (fun cdv A outer s H vs Q E hr h => ?_)
  · repeat (first | (obtain ⟨rfl, _⟩ := h; rfl) | (obtain ⟨_, h⟩ := h))
  refine ⟨_, (pss_one (ps_ret (pe_and (pe_callB call_isi (by rfl) T.z_isinstance boot_isinstance (pa_cons (pv 0) (pa_cons (pe_ty T.z_int boot_int) pa_nil))) (pe_and (pe_not (pe_callB call_isi (by rfl) T.z_isinstance boot_isinstance (pa_cons (pv 0) (pa_cons (pe_ty T.z_bool boot_bool) pa_nil)))) (pe_one (pe_chain op_le op_le (pv 1) (pv 0) (pv 2))))))), ?_⟩
  obtain ⟨i, l, m, rfl, q⟩ := h
  refine ⟨_, rfl, _, _, _, _, true, rfl, .ty "int", .base (.int i), kit_ty (by decide +kernel), true, rfl, if_t rfl ?_⟩
  refine ⟨_, rfl, _, _, _, _, false, rfl, .ty "bool", .base (.int i), kit_ty (by decide +kernel), false, rfl, true, rfl, if_t rfl ?_⟩
  refine ⟨_, rfl, _, rfl, _, _, rfl, rfl, _, rfl, ?_⟩
  refine ifb (fun c => ?_) (fun c => ?_)
  · refine ⟨_, rfl, _, _, rfl, rfl, ?_⟩
    have e : decide (l ≤ i ∧ i ≤ m) = decide (i ≤ m) := by
      have := of_decide_eq_true c
      simp [this]
    rw [e] at q
    exact q
  · have e : decide (l ≤ i ∧ i ≤ m) = false := by
      have := of_decide_eq_false c
      simp [this]
    rw [e] at q
    exact q
/- is_item: slots thing=0 -/
theorem abcd_cps : ("abcd" : Str).cps.toList = abcd := by decide +kernel
theorem abcd_tx : ("abcd" : Str) = tx abcd := by decide +kernel
theorem abcdE_tx : ("abcd$" : Str) = tx abcdE := by decide +kernel
def sp_is_item (_ : Frag) : Sp := fun vs H Q _ => ∃ c : Nat, vs = [.str (tx [c])] ∧ c ∈ abcd ∧ Q (.bl true) H
def N_is_item : List Str := ["thing"]
theorem sc_is_item : FnScope N_is_item ["thing"] (defScope s_is_item) := ⟨rfl, rfl, rfl, by decide +kernel, rfl, by decide +kernel, by decide +kernel⟩
theorem ok_is_item (T : Txt K mg w) : FnR P w K mg base CX0 1 (He.ga K "is_item") (sp_is_item K) := by
  refine ok_of T.f_is_item sc_is_item (fun _ _ _ _ _ _ us hl => match us, hl with | [_], _ => rfl) (fun vs H Q E h => ?_) (fun cdv A outer s H vs Q E hr h => ?_)
  · repeat (first | (obtain ⟨rfl, _⟩ := h; rfl) | (obtain ⟨_, h⟩ := h))
  refine ⟨_, (pss_one (ps_ret (pe_and (pe_callB call_isi (by rfl) T.z_isinstance boot_isinstance (pa_cons (pv 0) (pa_cons (pe_ty T.z_str boot_str) pa_nil))) (pe_and (pe_cmpR op_eq (pe_callB call_len_str (by rfl) T.z_len boot_len (pa_cons (pv 0) pa_nil)) pe_int (nomark _)) (pe_one (pe_cmpR op_in_sign (pv 0) (pe_gs T.g_ITEMS) rfl)))))), ?_⟩
  obtain ⟨c, rfl, hc, q⟩ := h
  refine ⟨_, rfl, _, _, _, _, true, rfl, .ty "str", .base (.str _), kit_ty (by decide +kernel), true, rfl, if_t rfl ?_⟩
  refine ⟨_, rfl, _, rfl, Nat.le_trans (by rw [tx_len, List.length_cons, List.length_nil]; decide) sizeBig, rfl, true, rfl, if_t rfl ?_⟩
  refine ⟨_, rfl, c, _, rfl, rfl, ?_⟩
  rw [abcd_cps, decide_eq_true hc]
  exact q
/- is_text: slots thing=0 letter=1 -/
def sp_is_text (_ : Frag) : Sp := fun vs H Q _ => ∃ l : List Nat, vs = [.str (tx l)] ∧ (∀ c ∈ l, c ∈ abcd) ∧ l.length ≤ 4000 ∧ ∀ H', Ext H H' → Q (.bl true) H'
def N_is_text : List Str := ["thing", "letter"]
theorem sc_is_text : FnScope N_is_text ["thing"] (defScope s_is_text) := ⟨rfl, rfl, rfl, by decide +kernel, rfl, by decide +kernel, by decide +kernel⟩
theorem ok_is_text (T : Txt K mg w) : FnR P w K mg base CX0 1 (He.ga K "is_text") (sp_is_text K) := by
  refine ok_of T.f_is_text sc_is_text (fun _ _ _ _ _ _ us hl => match us, hl with | [_], _ => rfl) (fun vs H Q E h => ?_) (fun cdv A outer s H vs Q E hr h => ?_)
  · repeat (first | (obtain ⟨rfl, _⟩ := h; rfl) | (obtain ⟨_, h⟩ := h))
  refine ⟨_, (pss_one (ps_ret (pe_and (pe_callB call_isi (by rfl) T.z_isinstance boot_isinstance (pa_cons (pv 0) (pa_cons (pe_ty T.z_str boot_str) pa_nil))) (pe_one (pe_callB (cr_all rfl) (by rfl) T.z_all boot_all (pa_cons (pe_lc (own := [("letter", 1)]) rfl sc_is_text.nd (pi_str (pv 0)) (blkOk_by (own := [("letter", 1)]) (N := N_is_text) (sc := defScope s_is_text) (by decide +kernel)) (fun _ _ _ _ _ => (pg_name (i := 1) sc_is_text.nd rfl (Or.inl rfl))) (fun _ _ _ _ _ => pts_nil) (fun _ _ _ _ _ => (pe_cmpR op_in_sign (pv 1) (pe_gs T.g_ITEMS) rfl))) pa_nil)))))), ?_⟩
  obtain ⟨l, rfl, hl, hz, q⟩ := h
  refine ⟨_, rfl, _, _, _, _, true, rfl, .ty "str", .base (.str _), kit_ty (by decide +kernel), true, rfl, if_t rfl ?_⟩
  refine ⟨_, rfl, _, rfl, fun D hD => ?_⟩
  refine lc_fm l (fun _ => true) (fun _ => V.bl true) walk_tx (Nat.lt_of_lt_of_le (by omega) sizeBig) hD (fun _ _ => trivial) (gm_name 1) (fun i a x Ha Hb hi e1 ⟨e2, c, hc, ex⟩ => ?_) (fun H' e d => ?_)
  · subst e2 ex
    rw [hi] at hc
    cases hc
    refine ⟨rfl, Ext.rfl', tY rfl, fun _ H3 e3 Q3 q3 => ?_⟩
    refine ⟨_, rfl, a, _, rfl, rfl, ?_⟩
    rw [abcd_cps, decide_eq_true (hl a (List.mem_of_getElem? hi))]
    exact q3 _ Ext.rfl'
  · refine ⟨_, l.map fun _ => true, rfl, sl ?_, ?_⟩
    · rw [d, filter_tt, List.map_map]
      rfl
    · have z : (l.map fun _ => true).all id = true := by simp
      rw [z]
      exact q H' e
/- is_selection: slots thing=0 allowed=1 one=2 -/
def sp_is_selection (_ : Frag) : Sp := fun vs H Q _ => ∃ l al : List Nat, vs = [.str (tx l), .str (tx al)] ∧ Sel l al ∧ al.length ≤ 5 ∧ ∀ H', Ext H H' → Q (.bl true) H'
theorem tx_ne {a b : List Nat} (h : a ≠ b) : decide (V.str (tx a) = V.str (tx b)) = false := decide_eq_false fun e => h (tx_inj (V.str.inj e))
def N_is_selection : List Str := ["thing", "allowed", "one"]
theorem sc_is_selection : FnScope N_is_selection ["thing", "allowed"] (defScope s_is_selection) := ⟨rfl, rfl, rfl, by decide +kernel, rfl, by decide +kernel, by decide +kernel⟩
theorem ok_is_selection (T : Txt K mg w) : FnR P w K mg base CX0 1 (He.ga K "is_selection") (sp_is_selection K) := by
  refine ok_of T.f_is_selection sc_is_selection (fun _ _ _ _ _ _ us hl => match us, hl with | [_, _], _ => rfl) (fun vs H Q E h => ?_) (fun cdv A outer s H vs Q E hr h => ?_)
  · repeat (first | (obtain ⟨rfl, _⟩ := h; rfl) | (obtain ⟨_, h⟩ := h))
  refine ⟨_, (pss_one (ps_ret (pe_and (pe_callB call_isi (by rfl) T.z_isinstance boot_isinstance (pa_cons (pv 0) (pa_cons (pe_ty T.z_str boot_str) pa_nil))) (pe_and (pe_cmpR op_ne (pv 0) pe_str (nomark _)) (pe_one (pe_cmpR op_eq (pv 0) (pe_join pe_str (pe_lc (own := [("one", 2)]) rfl sc_is_selection.nd (pi_str (pv 1)) (blkOk_by (own := [("one", 2)]) (N := N_is_selection) (sc := defScope s_is_selection) (by decide +kernel)) (fun _ _ _ _ _ => (pg_name (i := 2) sc_is_selection.nd rfl (Or.inl rfl))) (fun _ _ _ _ _ => pts_one (pt_cmpR op_in_sign (pv 2) (pv 0) rfl)) (fun _ _ _ _ _ => (pv 2)))) (nomark _))))))), ?_⟩
  obtain ⟨l, al, rfl, ⟨h1, h2⟩, hz, q⟩ := h
  refine ⟨_, rfl, _, _, _, _, true, rfl, .ty "str", .base (.str _), kit_ty (by decide +kernel), true, rfl, if_t rfl ?_⟩
  refine ⟨_, rfl, rfl, true, ?_, if_t rfl ?_⟩
  · rw [emp_tx, tx_ne h1]
    rfl
  refine ⟨_, rfl, ⟨_, rfl⟩, _, rfl, _, rfl, fun D hD => ?_⟩
  refine lc_fm al (fun c => decide (c ∈ l)) (fun c => V.str (tx [c])) walk_tx (Nat.lt_of_lt_of_le (by omega) sizeBig) hD (fun _ _ => trivial) (gm_name 2) (fun i a x Ha Hb hi e1 ⟨e2, c, hc, ex⟩ => ?_) (fun H' e d => ?_)
  · subst e2 ex
    rw [hi] at hc
    cases hc
    refine ⟨rfl, Ext.rfl', fun R hR => ?_, fun _ H3 e3 Q3 q3 => ⟨_, rfl, q3 _ Ext.rfl'⟩⟩
    exact ⟨_, rfl, _, rfl, a, tx l, rfl, rfl, _, rfl, hR _ Ext.rfl'⟩
  · refine ⟨_, _, (al.filter fun c => decide (c ∈ l)).map fun c => tx [c], rfl, rfl, .inl (sl (by rw [d, List.map_map]; rfl)), ?_, ?_⟩
    · rw [emp_tx, tx_len, List.length_nil, Nat.mul_zero, Nat.add_zero, List.map_map]
      have z : (List.map ((fun x : Str => x.length) ∘ fun c => tx [c]) (al.filter fun c => decide (c ∈ l))).sum = (al.filter fun c => decide (c ∈ l)).length := by
        generalize al.filter _ = m
        induction m with
        | nil => rfl
        | cons x m ih => rw [List.map_cons, List.sum_cons, ih, List.length_cons]; show (tx [x]).length + _ = _; rw [tx_len, List.length_singleton]; omega
      rw [z]
      have := List.length_filter_le (fun c => decide (c ∈ l)) al
      omega
    · have z : ((al.filter fun c => decide (c ∈ l)).map fun c => tx [c]) = (((al.filter fun c => decide (c ∈ l)).map fun c => [c]).map tx) := by rw [List.map_map]; rfl
      rw [emp_tx, z, join_tx]
      have z2 : ((al.filter fun c => decide (c ∈ l)).map fun c => [c]).flatten = l := by
        rw [← h2]
        generalize l = m
        induction m with
        | nil => rfl
        | cons x m ih => rw [List.map_cons, List.flatten_cons, ih]; rfl
      rw [z2]
      refine ⟨rfl, ?_⟩
      rw [decide_eq_true rfl]
      exact q H' e
end
end OB
set_option Elab.async false
set_option linter.all false
set_option maxRecDepth 100000
set_option maxHeartbeats 4000000
namespace OB
open PySem PySem.Spec PySem.Calls PyProof.Rows L2 PySem.W StX
section
variable {P : Program} {w : World} {K : Frag} {mg : Str → Option Value} {base : Heap}
/- is_edit: slots thing=0 kind=1 -/
def wd : Ed → Str
  | .put _ => "put"
  | .drop => "drop"
  | .dropNext => "drop_next"
  | .before _ => "before"
  | .after _ => "after"
  | .mark _ => "mark"
  | .brk => "break"
def argV : Ed → List V
  | .put c => [.str (tx [c])]
  | .before c => [.str (tx [c])]
  | .after c => [.str (tx [c])]
  | .mark m => [.int (m : Int)]
  | _ => []
theorem edV_eq (e : Ed) : edV e = .str (wd e) :: argV e := by cases e <;> rfl
def kdv : Ed → V
  | .put _ => .str "item"
  | .before _ => .str "item"
  | .after _ => .str "item"
  | .mark _ => .str "mark"
  | _ => .non
theorem Txt.kd (T : Txt K mg w) (e : Ed) : ∃ u, nsIn K (He.ga K "EDIT_KINDS") (wd e) = some (some u) ∧ RelV (kdv e) u := by
  cases e with
  | put c => exact T.kd_put
  | drop => exact T.kd_drop
  | dropNext => exact T.kd_drop_next
  | before c => exact T.kd_before
  | after c => exact T.kd_after
  | mark m => exact T.kd_mark
  | brk => exact T.kd_break
def sp_is_edit (_ : Frag) : Sp := fun vs H Q _ => ∃ v e, vs = [v] ∧ IsEd H v e ∧ okEd e ∧ Q (.bl true) H
def N_is_edit : List Str := ["thing", "kind"]
theorem sc_is_edit : FnScope N_is_edit ["thing"] (defScope s_is_edit) := ⟨rfl, rfl, rfl, by decide +kernel, rfl, by decide +kernel, by decide +kernel⟩
theorem ok_is_edit (T : Txt K mg w) : FnR P w K mg base CX0 2 (He.ga K "is_edit") (sp_is_edit K) := by
  refine ok_of T.f_is_edit sc_is_edit (fun _ _ _ _ _ _ us hl => match us, hl with | [_], _ => rfl) (fun vs H Q E h => ?_) (fun cdv A outer s H vs Q E hr h => ?_)
  · repeat (first | (obtain ⟨rfl, _⟩ := h; rfl) | (obtain ⟨_, h⟩ := h))
  refine ⟨_, (pss_cons (ps_if (PW.pt (pw_or (pt_not (pt_val (pe_callB call_isi (by rfl) T.z_isinstance boot_isinstance (pa_cons (pv 0) (pa_cons (pe_ty T.z_tuple boot_tuple) pa_nil))))) (pw_or (pt_cmpR op_eq (pe_callB call_len_seq (by rfl) T.z_len boot_len (pa_cons (pv 0) pa_nil)) pe_int (nomark _)) (pw_or (pt_not (pt_val (pe_callB call_isi (by rfl) T.z_isinstance boot_isinstance (pa_cons (pe_ix ix_tup (pv 0) pe_int (fun _ _ => rfl)) (pa_cons (pe_ty T.z_str boot_str) pa_nil))))) (pw_or1 (pt_cmpR (op_kdNotIn T.kinds) (pe_ix ix_tup (pv 0) pe_int (fun _ _ => rfl)) (pe_gr T.g_EDIT_KINDS) rfl))))))
      (pss_one (ps_ret pe_bl))
      pss_nil)
    (pss_cons (ps_set (i := 1) sc_is_edit.nd rfl (Or.inl rfl) (pe_kd T.kinds (pe_gr T.g_EDIT_KINDS) (pe_ix ix_tup (pv 0) pe_int (fun _ _ => rfl)) (fun _ _ => rfl)))
    (pss_cons (ps_if (pt_cmpR op_isN (pv 1) pe_non (nomark _))
      (pss_one (ps_ret (pe_cmpR op_eq (pe_callB call_len_seq (by rfl) T.z_len boot_len (pa_cons (pv 0) pa_nil)) pe_int (nomark _))))
      pss_nil)
    (pss_cons (ps_if (pt_cmpR op_ne (pe_callB call_len_seq (by rfl) T.z_len boot_len (pa_cons (pv 0) pa_nil)) pe_int (nomark _))
      (pss_one (ps_ret pe_bl))
      pss_nil)
    (pss_one (ps_ret (pe_ifExp (pt_cmpR op_eq (pv 1) pe_str (nomark _)) (pe_f (ok_is_item T) T.g_is_item (kp_of T.f_is_item) (hr.mono (by decide)) pass0 (pa_cons (pe_ix ix_tup (pv 0) pe_int (fun _ _ => rfl)) pa_nil)) (pe_f (ok_is_integer T) T.g_is_integer (kp_of T.f_is_integer) (hr.mono (by decide)) pass0 (pa_cons (pe_ix ix_tup (pv 0) pe_int (fun _ _ => rfl)) (pa_cons pe_int (pa_cons (pe_op op_sub (pe_gi T.g_MARKS) pe_int) pa_nil))))))))))), ?_⟩
  obtain ⟨v, e, rfl, ⟨a, rfl, hT⟩, ho, q⟩ := h
  have z0 : atI (edV e) 0 = some (.str (wd e)) := by rw [edV_eq]; exact atI_nat (j := 0) rfl
  refine ⟨_, rfl, _, _, _, _, true, rfl, .ty "tuple", .base (.tup hT), kit_ty (by decide +kernel), _, rfl, if_f rfl ?_⟩
  refine ⟨_, rfl, _, _, rfl, .inr (sq hT), rfl, _, rfl, if_f (by rw [edV_eq]; exact decide_eq_false (fun z => by have := V.int.inj z; rw [List.length_cons] at this; omega)) ?_⟩
  refine ⟨_, rfl, _, _, _, _, rfl, rfl, sq hT, z0, _, _, _, _, true, rfl, .ty "str", .base (.str _), kit_ty (by decide +kernel), _, rfl, if_f rfl ?_⟩
  obtain ⟨u, hu, ru⟩ := T.kd e
  refine ⟨_, rfl, _, _, _, _, rfl, rfl, sq hT, z0, _, _, rfl, rfl, hu, _, rfl, if_f rfl ?_⟩
  refine ⟨_, rfl, _, _, _, _, rfl, rfl, sq hT, z0, _, _, rfl, rfl, ⟨u, hu, ru⟩, ?_⟩
  cases e with
  | drop => exact ⟨_, rfl, rfl, _, rfl, if_t rfl ⟨_, rfl, _, _, rfl, .inr (sq hT), rfl, q⟩⟩
  | dropNext => exact ⟨_, rfl, rfl, _, rfl, if_t rfl ⟨_, rfl, _, _, rfl, .inr (sq hT), rfl, q⟩⟩
  | brk => exact ⟨_, rfl, rfl, _, rfl, if_t rfl ⟨_, rfl, _, _, rfl, .inr (sq hT), rfl, q⟩⟩
  | put c => exact ⟨_, rfl, rfl, _, rfl, if_f rfl ⟨_, rfl, _, _, rfl, .inr (sq hT), rfl, _, rfl, if_f rfl ⟨_, rfl, rfl, _, rfl, if_t (decide_eq_true rfl) ⟨_, rfl, _, _, 1, _, rfl, rfl, sq hT, rfl, _, rfl, ho, q⟩⟩⟩⟩
  | before c => exact ⟨_, rfl, rfl, _, rfl, if_f rfl ⟨_, rfl, _, _, rfl, .inr (sq hT), rfl, _, rfl, if_f rfl ⟨_, rfl, rfl, _, rfl, if_t (decide_eq_true rfl) ⟨_, rfl, _, _, 1, _, rfl, rfl, sq hT, rfl, _, rfl, ho, q⟩⟩⟩⟩
  | after c => exact ⟨_, rfl, rfl, _, rfl, if_f rfl ⟨_, rfl, _, _, rfl, .inr (sq hT), rfl, _, rfl, if_f rfl ⟨_, rfl, rfl, _, rfl, if_t (decide_eq_true rfl) ⟨_, rfl, _, _, 1, _, rfl, rfl, sq hT, rfl, _, rfl, ho, q⟩⟩⟩⟩
  | mark m =>
    refine ⟨_, rfl, rfl, _, rfl, if_f rfl ⟨_, rfl, _, _, rfl, .inr (sq hT), rfl, _, rfl, if_f rfl ⟨_, rfl, rfl, _, rfl, if_f (by show decide (V.str "mark" = V.str "item") = false; decide +kernel) ⟨_, rfl, _, _, 1, _, rfl, rfl, sq hT, rfl, _, _, rfl, rfl, (m : Int), 0, 3, rfl, ?_⟩⟩⟩⟩
    rw [decide_eq_true (show (0 : Int) ≤ (m : Int) ∧ (m : Int) ≤ 3 from ⟨Int.natCast_nonneg _, by have : m < 4 := ho; omega⟩)]
    exact q
/- count_words: slots edits=0 words=1 edit=2 -/
def sp_count_in (ws : List Str) : Sp := fun vs H Q _ => ∃ v es p, vs = [v, .ref p] ∧ IsEds H v es ∧ es.length ≤ 5 ∧ H p = some (.tup (ws.map V.str)) ∧ ∀ H', Ext H H' → Q (.int ((es.filter fun e => inV (.str (wd e)) (ws.map V.str)).length : Nat)) H'
def sp_count_words (_ : Frag) : Sp := fun vs H Q _ => ∃ v, ∃ ws : List Str, ∃ es, vs = v :: ws.map V.str ∧ ws.length ≤ 3 ∧ IsEds H v es ∧ es.length ≤ 5 ∧ ∀ H', Ext H H' → Q (.int ((es.filter fun e => inV (.str (wd e)) (ws.map V.str)).length : Nat)) H'
theorem allFlat (ws : List Str) : (ws.map V.str).all flatV = true := by
  induction ws with
  | nil => rfl
  | cons x r ih => rw [List.map_cons, List.all_cons, ih]; rfl
theorem paired_len {α β : Type} {R : α → β → Prop} {xs : List α} {ys : List β} (h : Paired R xs ys) : xs.length = ys.length := h.length
/-- filtering two lists that go together -/
theorem paired_filter {α β : Type} {R : α → β → Prop} (f : β → Bool) (g : α → Bool) (hg : ∀ a b, R a b → g a = f b) : ∀ {xs : List α} {ys : List β}, Paired R xs ys → (xs.filter g).length = (ys.filter f).length
  | _, _, .nil => rfl
  | _, _, .cons r t => by
    rw [List.filter_cons, List.filter_cons, hg _ _ r]
    have ih := paired_filter f g hg t
    split
    · rw [List.length_cons, List.length_cons, ih]
    · exact ih
theorem IsEd.un {H : Hp} {v : V} {e f : Ed} (h : IsEd H v e) (k : IsEd H v f) : wd e = wd f := by
  obtain ⟨a, e1, e2⟩ := h
  obtain ⟨b, e3, e4⟩ := k
  rw [e1] at e3
  cases e3
  rw [e2] at e4
  have := HO.tup.inj (Option.some.inj e4)
  rw [edV_eq, edV_eq] at this
  exact V.str.inj (List.cons.inj this).1
/-- the word of an edit that stands at v -/
noncomputable def wdAt (H : Hp) (v : V) : Str := by
  classical exact if h : ∃ e, IsEd H v e then wd h.choose else ""
theorem wdAt_is {H : Hp} {v : V} {e : Ed} (h : IsEd H v e) : wdAt H v = wd e := by
  unfold wdAt
  have hx : ∃ e, IsEd H v e := ⟨e, h⟩
  rw [dif_pos hx]
  exact hx.choose_spec.un h
def N_count_words : List Str := ["edits", "words", "edit"]
theorem sc_count_words : FnScope N_count_words ["edits", "words"] (defScope s_count_words) := ⟨rfl, rfl, rfl, by decide +kernel, rfl, by decide +kernel, by decide +kernel⟩
theorem ok_count_words (T : Txt K mg w) : FnR P w K mg base CX0 1 (He.ga K "count_words") (sp_count_words K) := by
  obtain ⟨fd, oc, od, dV, kV, doc, pm, an, cdv, ct, osl, rfl, lk, hcd, hD, hK⟩ : ∃ fd, ∃ (oc : Value) (od : Option Addr) (dV kV doc pm : Value) (an : Option Addr) (cdv ct : Value) (osl : Array (Option Value)),
    fd = fnOf "count_words" "count_words" (defArgs s_count_words) (defBody s_count_words) (defScope s_count_words) dV kV doc pm an cdv ct ∧ K.lookup (He.ga K "count_words") = some ⟨oc, od, .func fd, osl⟩ ∧ codeIn K cdv "count_words" = true ∧ DflV K dV [] ∧ KwdV K kV [] := by
      obtain ⟨fd, F⟩ := T.f_count_words
      exact ⟨fd, F.ex⟩
  obtain rfl : dV = .none := by
    rcases hD with ⟨_, e⟩ | ⟨e, _⟩
    · exact e
    · exact absurd rfl e
  refine FnR.imp (StX.fn_star (CX := CX0) (ps := ["edits"]) (pv := "words") (k := 0) (sp := fun vs H Q E => ∃ ws, sp_count_in ws vs H Q E) lk hcd sc_count_words cxUp_none (StX.bind_star1 (B := fun us => bindArgs (fnOf "count_words" "count_words" (defArgs s_count_words) (defBody s_count_words) (defScope s_count_words) .none kV doc pm an cdv ct) ⟨us, []⟩) (fun _ => rfl) (fun _ _ _ => rfl)) (fun A outer s H vs Q E hr h => ?_)) (fun vs H Q E h => ?_)
  rotate_left
  · obtain ⟨v, ws, es, rfl, h3, hE, h5, q⟩ := h
    refine ⟨[v], ws.map V.str, rfl, rfl, Nat.le_trans (by rw [List.length_map]; omega) sizeBig, fun p hp => ⟨ws, v, es, p, rfl, hE.mono (Ext.tk (Ext.upd hp)), h5, upd_same, fun H' e => q H' ((Ext.upd hp).trans e)⟩⟩
  refine (fun ⟨t, p, q⟩ => ⟨t, PSs.nox p, q⟩ : (∃ t, PSs (cxOf CX0 P w K mg base N_count_words "count_words" (defScope s_count_words) (He.ga K "count_words") cdv A outer s H E).nox (defBody s_count_words) t ∧ t { nx := fun _ H' => Q .non H', rt := Q } (start N_count_words vs) H) → _) ?_
  refine ⟨_, (pss_one (ps_ret (pe_callB call_len_seq (by rfl) T.z_len boot_len (pa_cons (pe_lc (own := [("edit", 2)]) rfl sc_count_words.nd (pi_tup (pv 0)) (blkOk_by (own := [("edit", 2)]) (N := N_count_words) (sc := defScope s_count_words) (by decide +kernel)) (fun _ _ _ _ _ => (pg_name (i := 2) sc_count_words.nd rfl (Or.inl rfl))) (fun _ _ _ _ _ => pts_one (pt_cmpR (op_in_seq : OpR _ _ (rIn K false)) (pe_ix (ix_tup : IxR _ (rIxT K)) (pv 2) pe_int (fun _ _ => rfl)) (pv 1) rfl)) (fun _ _ _ _ _ => (pv 2))) pa_nil)))), ?_⟩
  obtain ⟨ws, v, es, p, rfl, ⟨a, vs, rfl, hT, hP⟩, h5, hp, q⟩ := h
  have hl := paired_len hP
  refine ⟨_, rfl, _, rfl, ⟨_, sq hT⟩, fun D hD => ?_⟩
  refine lc_fm vs (fun x => inV (.str (wdAt H x)) (ws.map V.str)) id walk_tup (Nat.lt_of_lt_of_le (by omega) sizeBig) hD (fun H1 e => sq (e _ _ hT)) (gm_name 2) (fun i x y Ha Hb hi e1 ⟨e2, hc⟩ => ?_) (fun H' e d => ?_)
  · subst e2
    rw [hi] at hc
    cases hc
    obtain ⟨e, he, hx⟩ := paired_at hP hi
    have hx' := hx
    obtain ⟨b, rfl, hb⟩ := hx
    refine ⟨rfl, Ext.rfl', fun R hR => ?_, fun _ H3 e3 Q3 q3 => ⟨_, rfl, q3 _ Ext.rfl'⟩⟩
    have hb' := e1 _ _ hb
    rw [edV_eq] at hb'
    refine ⟨_, rfl, _, _, 0, .str (wd e), rfl, rfl, sq hb', atI_nat (j := 0) rfl, _, rfl, _, _, rfl, .inr (sq (e1 _ _ hp)), rfl, allFlat ws, _, rfl, ?_⟩
    rw [← wdAt_is hx']
    exact hR _ Ext.rfl'
  · refine ⟨_, _, rfl, .inl (sl d), ?_⟩
    rw [List.map_id, paired_filter (fun e => inV (.str (wd e)) (ws.map V.str)) (fun x => inV (.str (wdAt H x)) (ws.map V.str)) (fun x e h => by rw [wdAt_is h]) hP]
    exact q H' e
end
end OB
set_option Elab.async false
set_option linter.all false
set_option maxRecDepth 100000
set_option maxHeartbeats 4000000
namespace OB
open PySem PySem.Spec PySem.Calls PyProof.Rows L2 PySem.W StX
section
variable {P : Program} {w : World} {K : Frag} {mg : Str → Option Value} {base : Heap}
/- may_follow: slots edits=0 edit=1 together=2 -/
theorem in_brk (e : Ed) : inV (.str (wd e)) ((["break"] : List Str).map V.str) = isBrk e := by cases e <;> first | rfl | decide +kernel
theorem in_ins (e : Ed) : inV (.str (wd e)) ((["before", "after"] : List Str).map V.str) = isIns e := by cases e <;> first | rfl | decide +kernel
theorem in_del (e : Ed) : inV (.str (wd e)) ((["drop", "drop_next"] : List Str).map V.str) = isDel e := by cases e <;> first | rfl | decide +kernel
/-- an edit more is allowed -/
structure May (es : List Ed) (e : Ed) : Prop where
  len : es.length + 1 ≤ 4
  brk : (es.filter isBrk).length = 0
  ins : ((es ++ [e]).filter isIns).length ≤ 1
  del : ((es ++ [e]).filter isDel).length ≤ 2
def sp_may_follow (_ : Frag) : Sp := fun vs H Q _ => ∃ v u es e, vs = [v, u] ∧ IsEds H v es ∧ IsEd H u e ∧ May es e ∧ ∀ H', Ext H H' → Q (.bl true) H'
def N_may_follow : List Str := ["edits", "edit", "together"]
theorem sc_may_follow : FnScope N_may_follow ["edits", "edit"] (defScope s_may_follow) := ⟨rfl, rfl, rfl, by decide +kernel, rfl, by decide +kernel, by decide +kernel⟩
theorem ok_may_follow (T : Txt K mg w) : FnR P w K mg base CX0 2 (He.ga K "may_follow") (sp_may_follow K) := by
  refine ok_of T.f_may_follow sc_may_follow (fun _ _ _ _ _ _ us hl => match us, hl with | [_, _], _ => rfl) (fun vs H Q E h => ?_) (fun cdv A outer s H vs Q E hr h => ?_)
  · repeat (first | (obtain ⟨rfl, _⟩ := h; rfl) | (obtain ⟨_, h⟩ := h))
  refine ⟨_, (pss_cons (ps_set (i := 2) sc_may_follow.nd rfl (Or.inl rfl) (pe_tup (StX.pa_star (pv 0) (pa_cons (pv 1) pa_nil))))
    (pss_cons (ps_if (PW.pt (pw_or (pt_cmpR op_gt (pe_callB call_len_seq (by rfl) T.z_len boot_len (pa_cons (pv 2) pa_nil)) (pe_gi T.g_MOST_EDITS) (nomark _)) (pw_or1 (pt_cmpR op_gt (pe_f (ok_count_words T) T.g_count_words (kp_of T.f_count_words) (hr.mono (by decide)) pass0 (pa_cons (pv 0) (pa_cons pe_str pa_nil))) pe_int (nomark _)))))
      (pss_one (ps_ret pe_bl))
      pss_nil)
    (pss_cons (ps_if (pt_cmpR op_gt (pe_f (ok_count_words T) T.g_count_words (kp_of T.f_count_words) (hr.mono (by decide)) pass0 (pa_cons (pv 2) (pa_cons pe_str (pa_cons pe_str pa_nil)))) pe_int (nomark _))
      (pss_one (ps_ret pe_bl))
      pss_nil)
    (pss_one (ps_ret (pe_cmpR op_le (pe_f (ok_count_words T) T.g_count_words (kp_of T.f_count_words) (hr.mono (by decide)) pass0 (pa_cons (pv 2) (pa_cons pe_str (pa_cons pe_str pa_nil)))) (pe_gi T.g_MOST_DELETIONS) (nomark _))))))), ?_⟩
  obtain ⟨v, u, es, e, rfl, hE, he, M, q⟩ := h
  have hE0 := hE
  obtain ⟨a, xs, rfl, hT, hP⟩ := hE
  have hl := paired_len hP
  have m1 := M.len
  have m2 := M.brk
  have m3 := M.ins
  have m4 := M.del
  refine ⟨_, rfl, _, _, rfl, .inl (sq hT), _, rfl, Nat.le_trans (by rw [List.length_append, List.length_singleton]; omega) sizeBig, fun p hp => ?_⟩
  have E1 : Ext H (upd H p (.tup (xs ++ [u]))) := Ext.upd hp
  have hE2 : IsEds (upd H p (.tup (xs ++ [u]))) (.ref p) (es ++ [e]) := ⟨p, _, rfl, upd_same, paired_snoc (he.mono (Ext.tk E1)) (paired_mono (fun _ _ z => z.mono (Ext.tk E1)) hP)⟩
  refine ⟨_, rfl, _, _, rfl, .inr (sq upd_same), _, _, rfl, rfl, _, rfl, if_f (decide_eq_false (by rw [List.length_append, List.length_singleton]; omega)) ?_⟩
  refine ⟨_, rfl, .ref a, ["break"], es, rfl, by decide, hE0.mono (Ext.tk E1), by omega, fun H2 e2 => ?_⟩
  refine ⟨_, _, rfl, rfl, _, rfl, if_f ?_ ?_⟩
  · rw [show (fun e => inV (.str (wd e)) ((["break"] : List Str).map V.str)) = isBrk from funext in_brk, m2]
    rfl
  refine ⟨_, rfl, .ref p, ["before", "after"], es ++ [e], rfl, by decide, hE2.mono (Ext.tk e2), by rw [List.length_append, List.length_singleton]; omega, fun H3 e3 => ?_⟩
  refine ⟨_, _, rfl, rfl, _, rfl, if_f ?_ ?_⟩
  · rw [show (fun e => inV (.str (wd e)) ((["before", "after"] : List Str).map V.str)) = isIns from funext in_ins]
    exact decide_eq_false (by omega)
  refine ⟨_, rfl, .ref p, ["drop", "drop_next"], es ++ [e], rfl, by decide, hE2.mono (Ext.tk (e2.trans e3)), by rw [List.length_append, List.length_singleton]; omega, fun H4 e4 => ?_⟩
  refine ⟨_, _, rfl, rfl, ?_⟩
  rw [show (fun e => inV (.str (wd e)) ((["drop", "drop_next"] : List Str).map V.str)) = isDel from funext in_del]
  exact qb (decide_eq_true (by omega)) (q H4 (E1.trans (e2.trans (e3.trans e4))))
/- are_edits: slots thing=0 place=1 edit=2 -/
theorem VEds.may {es : List Ed} (h : VEds es) {i : Nat} {e : Ed} (hi : es[i]? = some e) : May (es.take i) e := by
  have hlt : i < es.length := (List.getElem?_eq_some_iff.mp hi).1
  have e1 := take_more' hi
  have l := h.len
  have sub : ∀ p : Ed → Bool, ((es.take (i + 1)).filter p).length ≤ (es.filter p).length := fun p => by
    have z : es.filter p = (es.take (i + 1)).filter p ++ (es.drop (i + 1)).filter p := by rw [← List.filter_append, List.take_append_drop]
    rw [z, List.length_append]
    omega
  refine ⟨by rw [List.length_take]; omega, ?_, by rw [← e1]; exact Nat.le_trans (sub _) h.ins, by rw [← e1]; exact Nat.le_trans (sub _) h.del⟩
  rw [List.length_eq_zero_iff, List.filter_eq_nil_iff]
  intro x hx hb
  have ex : x = .brk := by cases x <;> first | rfl | exact absurd hb Bool.false_ne_true
  subst ex
  obtain ⟨s, t, hst⟩ := List.append_of_mem hx
  have z : es = s ++ [Ed.brk] ++ (t ++ es.drop i) := by
    have := (List.take_append_drop i es).symm
    rw [hst] at this
    refine this.trans ?_
    simp
  have := h.brk _ _ z
  have z2 := List.append_eq_nil_iff.mp this
  have z3 := congrArg List.length z2.2
  rw [List.length_drop, List.length_nil] at z3
  omega
theorem cutV_to {xs : List V} {i : Nat} (h : i ≤ xs.length) : cutV xs none (some (i : Int)) = xs.take i := by
  unfold cutV
  rw [HT.sIx_none, HT.sIx_nat, Nat.min_eq_left h]
  rfl
def sp_are_edits (_ : Frag) : Sp := fun vs H Q _ => ∃ v es, vs = [v] ∧ IsEds H v es ∧ VEds es ∧ ∀ H', Ext H H' → Q (.bl true) H'
def N_are_edits : List Str := ["thing", "place", "edit"]
theorem sc_are_edits : FnScope N_are_edits ["thing"] (defScope s_are_edits) := ⟨rfl, rfl, rfl, by decide +kernel, rfl, by decide +kernel, by decide +kernel⟩
theorem ok_are_edits (T : Txt K mg w) : FnR P w K mg base CX0 3 (He.ga K "are_edits") (sp_are_edits K) := by
  refine ok_of T.f_are_edits sc_are_edits (fun _ _ _ _ _ _ us hl => match us, hl with | [_], _ => rfl) (fun vs H Q E h => ?_) (fun cdv A outer s H vs Q E hr h => ?_)
  · repeat (first | (obtain ⟨rfl, _⟩ := h; rfl) | (obtain ⟨_, h⟩ := h))
  refine ⟨_, (pss_cons (ps_if (pt_not (pt_val (pe_callB call_isi (by rfl) T.z_isinstance boot_isinstance (pa_cons (pv 0) (pa_cons (pe_ty T.z_tuple boot_tuple) pa_nil)))))
      (pss_one (ps_ret pe_bl))
      pss_nil)
    (pss_cons (ps_for PassesOwn.never rfl (pi_enumT rfl T.z_enumerate (pa_cons (pv 0) pa_nil)) (pg_tup rfl (pgs_cons (pg_name (i := 1) sc_are_edits.nd rfl (Or.inl rfl)) (pgs_cons (pg_name (i := 2) sc_are_edits.nd rfl (Or.inl rfl)) pgs_nil)))
      (pss_one (ps_if (PW.pt (pw_or (pt_not (pt_val (pe_f (ok_is_edit T) T.g_is_edit (kp_of T.f_is_edit) (hr.mono (by decide)) pass0 (pa_cons (pv 2) pa_nil)))) (pw_or1 (pt_not (pt_val (pe_f (ok_may_follow T) T.g_may_follow (kp_of T.f_may_follow) (hr.mono (by decide)) pass0 (pa_cons (pe_slice sl_tup (pv 0) po_none (po_some (pv 1))) (pa_cons (pv 2) pa_nil))))))))
        (pss_one (ps_ret pe_bl))
        pss_nil)))
    (pss_one (ps_ret pe_bl)))), ?_⟩
  obtain ⟨v, es, rfl, hE, hV, q⟩ := h
  have hE0 := hE
  obtain ⟨a, xs, rfl, hT, hP⟩ := hE
  have hl := paired_len hP
  refine ⟨_, rfl, _, _, _, _, true, rfl, .ty "tuple", .base (.tup hT), kit_ty (by decide +kernel), _, rfl, if_f rfl ?_⟩
  refine ⟨_, rfl, _, _, rfl, sq hT, for_enumT (fun i σ H' => ∃ x y, σ = [some (.ref a), x, y] ∧ Ext H H') ⟨_, _, rfl, Ext.rfl'⟩ (fun i σ H' _ ⟨_, _, _, e⟩ => sq (e _ _ hT)) ?_ ?_⟩
  · rintro i x σ H1 hi ⟨y1, y2, rfl, e1⟩ Tp hTp
    obtain ⟨e, he, hx⟩ := paired_at hP hi
    have hx0 := hx
    have E1 := e1.trans (Ext.upd (o := .tup [.int (i : Nat), x]) hTp)
    have hlt : i < xs.length := (List.getElem?_eq_some_iff.mp hi).1
    refine ⟨_, _, rfl, sq upd_same, rfl, _, _, rfl, _, _, rfl, rfl, ?_⟩
    refine ⟨_, rfl, x, e, rfl, hx.mono (Ext.tk E1), hV.ok e (List.mem_of_getElem? he), _, rfl, if_f rfl ?_⟩
    refine ⟨_, rfl, _, rfl, _, rfl, _, _, rfl, sq (E1 _ _ hT), ?_, fun p hp => ?_⟩
    · rw [HT.sIx_nat]
      omega
    have E2' := Ext.upd (o := .tup (cutV xs none (some (i : Int)))) hp
    have E2 := E1.trans E2'
    refine ⟨_, rfl, .ref p, x, es.take i, e, rfl, ⟨p, _, rfl, upd_same, ?_⟩, (hx.mono (Ext.tk E1)).mono (Ext.tk E2'), hV.may he, fun H3 e3 => ?_⟩
    · have z := paired_take i (paired_mono (fun _ _ z => IsEd.mono (Ext.tk E2) z) hP)
      rw [cutV_to (Nat.le_of_lt hlt)] at z ⊢
      exact z
    exact ⟨_, rfl, if_f rfl ⟨_, _, rfl, E2.trans e3⟩⟩
  · rintro σ H1 ⟨_, _, rfl, e1⟩
    exact q H1 e1
/- is_rule: slots thing=0 mark=1 items=2 following=3 edits=4 -/
def sp_is_rule (_ : Frag) : Sp := fun vs H Q _ => ∃ v r, vs = [v] ∧ IsRu H v r ∧ VRu r ∧ ∀ H', Ext H H' → Q (.bl true) H'
theorem abcd_end : ("abcd" : Str) ++ ("$" : Str) = tx abcdE := by decide +kernel
def N_is_rule : List Str := ["thing", "mark", "items", "following", "edits"]
theorem sc_is_rule : FnScope N_is_rule ["thing"] (defScope s_is_rule) := ⟨rfl, rfl, rfl, by decide +kernel, rfl, by decide +kernel, by decide +kernel⟩
theorem ok_is_rule (T : Txt K mg w) : FnR P w K mg base CX0 4 (He.ga K "is_rule") (sp_is_rule K) := by
  refine ok_of T.f_is_rule sc_is_rule (fun _ _ _ _ _ _ us hl => match us, hl with | [_], _ => rfl) (fun vs H Q E h => ?_) (fun cdv A outer s H vs Q E hr h => ?_)
  · repeat (first | (obtain ⟨rfl, _⟩ := h; rfl) | (obtain ⟨_, h⟩ := h))
  refine ⟨_, (pss_cons (ps_if (PW.pt (pw_or (pt_not (pt_val (pe_callB call_isi (by rfl) T.z_isinstance boot_isinstance (pa_cons (pv 0) (pa_cons (pe_ty T.z_tuple boot_tuple) pa_nil))))) (pw_or1 (pt_cmpR op_ne (pe_callB call_len_seq (by rfl) T.z_len boot_len (pa_cons (pv 0) pa_nil)) pe_int (nomark _)))))
      (pss_one (ps_ret pe_bl))
      pss_nil)
    (pss_cons (ps_asg (pv 0) (pg_tup rfl (pgs_cons (pg_name (i := 1) sc_is_rule.nd rfl (Or.inl rfl)) (pgs_cons (pg_name (i := 2) sc_is_rule.nd rfl (Or.inl rfl)) (pgs_cons (pg_name (i := 3) sc_is_rule.nd rfl (Or.inl rfl)) (pgs_cons (pg_name (i := 4) sc_is_rule.nd rfl (Or.inl rfl)) pgs_nil))))))
    (pss_cons (ps_if (PW.pt (pw_and (pt_cmpR op_notN (pv 1) pe_non (nomark _)) (pw_and1 (pt_not (pt_val (pe_f (ok_is_integer T) T.g_is_integer (kp_of T.f_is_integer) (hr.mono (by decide)) pass0 (pa_cons (pv 1) (pa_cons pe_int (pa_cons (pe_op op_sub (pe_gi T.g_MARKS) pe_int) pa_nil)))))))))
      (pss_one (ps_ret pe_bl))
      pss_nil)
    (pss_one (ps_ret (pe_and (pe_f (ok_is_selection T) T.g_is_selection (kp_of T.f_is_selection) (hr.mono (by decide)) pass0 (pa_cons (pv 2) (pa_cons (pe_gs T.g_ITEMS) pa_nil))) (pe_and (pe_f (ok_is_selection T) T.g_is_selection (kp_of T.f_is_selection) (hr.mono (by decide)) pass0 (pa_cons (pv 3) (pa_cons (pe_op op_add_str (pe_gs T.g_ITEMS) (pe_gs T.g_END)) pa_nil))) (pe_one (pe_f (ok_are_edits T) T.g_are_edits (kp_of T.f_are_edits) (hr.mono (by decide)) pass0 (pa_cons (pv 4) pa_nil)))))))))), ?_⟩
  obtain ⟨v, r, rfl, ⟨a, ev, rfl, hT, hE⟩, hV, q⟩ := h
  refine ⟨_, rfl, _, _, _, _, true, rfl, .ty "tuple", .base (.tup hT), kit_ty (by decide +kernel), _, rfl, if_f rfl ?_⟩
  refine ⟨_, rfl, _, _, rfl, .inr (sq hT), rfl, _, rfl, if_f rfl ?_⟩
  refine ⟨_, rfl, _, _, rfl, sq hT, rfl, _, _, rfl, _, _, rfl, _, _, rfl, _, _, rfl, rfl, ?_⟩
  have tail : ∀ H', Ext H H' → Q (.bl true) H' → True := fun _ _ _ => trivial
  refine ⟨_, rfl, rfl, _, rfl, ?_⟩
  refine ifb (fun c => ?_) (fun c => ?_)
  · cases hm : r.mark with
    | none =>
      rw [hm] at c
      exact absurd c (by decide)
    | some m =>
      refine ⟨_, rfl, _, _, rfl, rfl, (m : Int), 0, 3, rfl, ?_⟩
      have h4 := hV.mark m hm
      refine ⟨_, rfl, if_f (by rw [decide_eq_true (show (0 : Int) ≤ (m : Int) ∧ (m : Int) ≤ 3 from ⟨Int.natCast_nonneg _, by omega⟩)]; rfl) ?_⟩
      refine ⟨_, rfl, r.items, abcd, by rw [← abcd_tx], hV.items, by decide, fun H1 e1 => ⟨true, rfl, if_t rfl ?_⟩⟩
      refine ⟨_, rfl, _, _, rfl, rfl, Nat.le_trans (by decide +kernel) sizeBig, r.nexts, abcdE, by rw [abcd_end], hV.nexts, by decide, fun H2 e2 => ⟨true, rfl, if_t rfl ?_⟩⟩
      exact ⟨_, rfl, ev, r.edits, rfl, hE.mono (Ext.tk (e1.trans e2)), hV.edits, fun H3 e3 => q H3 (e1.trans (e2.trans e3))⟩
  · refine if_f rfl ?_
    refine ⟨_, rfl, r.items, abcd, by rw [← abcd_tx], hV.items, by decide, fun H1 e1 => ⟨true, rfl, if_t rfl ?_⟩⟩
    refine ⟨_, rfl, _, _, rfl, rfl, Nat.le_trans (by decide +kernel) sizeBig, r.nexts, abcdE, by rw [abcd_end], hV.nexts, by decide, fun H2 e2 => ⟨true, rfl, if_t rfl ?_⟩⟩
    exact ⟨_, rfl, ev, r.edits, rfl, hE.mono (Ext.tk (e1.trans e2)), hV.edits, fun H3 e3 => q H3 (e1.trans (e2.trans e3))⟩
/- is_loop: slots thing=0 rules=1 ends=2 end=3 rule=4 -/
def sp_is_loop (_ : Frag) : Sp := fun vs H Q _ => ∃ v L, vs = [v] ∧ IsLo H v L ∧ VLo L ∧ ∀ H', Ext H H' → Q (.bl true) H'
theorem all_tt {α : Type} (l : List α) : (l.map fun _ => true).all id = true := by simp
def N_is_loop : List Str := ["thing", "rules", "ends", "end", "rule"]
theorem sc_is_loop : FnScope N_is_loop ["thing"] (defScope s_is_loop) := ⟨rfl, rfl, rfl, by decide +kernel, rfl, by decide +kernel, by decide +kernel⟩
theorem ok_is_loop (T : Txt K mg w) : FnR P w K mg base CX0 5 (He.ga K "is_loop") (sp_is_loop K) := by
  refine ok_of T.f_is_loop sc_is_loop (fun _ _ _ _ _ _ us hl => match us, hl with | [_], _ => rfl) (fun vs H Q E h => ?_) (fun cdv A outer s H vs Q E hr h => ?_)
  · repeat (first | (obtain ⟨rfl, _⟩ := h; rfl) | (obtain ⟨_, h⟩ := h))
  refine ⟨_, (pss_cons (ps_if (PW.pt (pw_or (pt_not (pt_val (pe_callB call_isi (by rfl) T.z_isinstance boot_isinstance (pa_cons (pv 0) (pa_cons (pe_ty T.z_tuple boot_tuple) pa_nil))))) (pw_or1 (pt_cmpR op_ne (pe_callB call_len_seq (by rfl) T.z_len boot_len (pa_cons (pv 0) pa_nil)) pe_int (nomark _)))))
      (pss_one (ps_ret pe_bl))
      pss_nil)
    (pss_cons (ps_asg (pv 0) (pg_tup rfl (pgs_cons (pg_name (i := 1) sc_is_loop.nd rfl (Or.inl rfl)) (pgs_cons (pg_name (i := 2) sc_is_loop.nd rfl (Or.inl rfl)) pgs_nil))))
    (pss_cons (ps_if (PW.pt (pw_or (pt_not (pt_val (pe_callB call_isi (by rfl) T.z_isinstance boot_isinstance (pa_cons (pv 1) (pa_cons (pe_ty T.z_tuple boot_tuple) pa_nil))))) (pw_or (pt_cmpR op_gt (pe_callB call_len_seq (by rfl) T.z_len boot_len (pa_cons (pv 1) pa_nil)) (pe_gi T.g_MOST_RULES) (nomark _)) (pw_or1 (pt_not (pt_val (pe_callB (cr_all rfl) (by rfl) T.z_all boot_all (pa_cons (pe_lc (own := [("rule", 4)]) rfl sc_is_loop.nd (pi_tup (pv 1)) (blkOk_by (own := [("rule", 4)]) (N := N_is_loop) (sc := defScope s_is_loop) (by decide +kernel)) (fun _ _ _ _ _ => (pg_name (i := 4) sc_is_loop.nd rfl (Or.inl rfl))) (fun _ _ _ _ _ => pts_nil) (fun _ _ _ _ _ => (pe_f (ok_is_rule T) T.g_is_rule (kp_of T.f_is_rule) (hr.mono (by decide)) pass0 (pa_cons (pv 4) pa_nil)))) pa_nil))))))))
      (pss_one (ps_ret pe_bl))
      pss_nil)
    (pss_cons (ps_if (PW.pt (pw_or (pt_not (pt_val (pe_callB call_isi (by rfl) T.z_isinstance boot_isinstance (pa_cons (pv 2) (pa_cons (pe_ty T.z_tuple boot_tuple) pa_nil))))) (pw_or1 (pt_cmpR op_ne (pe_callB call_len_seq (by rfl) T.z_len boot_len (pa_cons (pv 2) pa_nil)) (pe_gi T.g_MARKS) (nomark _)))))
      (pss_one (ps_ret pe_bl))
      pss_nil)
    (pss_one (ps_ret (pe_callB (cr_all rfl) (by rfl) T.z_all boot_all (pa_cons (pe_lc (own := [("end", 3)]) rfl sc_is_loop.nd (pi_tup (pv 2)) (blkOk_by (own := [("end", 3)]) (N := N_is_loop) (sc := defScope s_is_loop) (by decide +kernel)) (fun _ _ _ _ _ => (pg_name (i := 3) sc_is_loop.nd rfl (Or.inl rfl))) (fun _ _ _ _ _ => pts_nil) (fun _ _ _ _ _ => (pe_and (pe_f (ok_is_text T) T.g_is_text (kp_of T.f_is_text) (hr.mono (by decide)) pass0 (pa_cons (pv 3) pa_nil)) (pe_one (pe_cmpR op_le (pe_callB call_len_str (by rfl) T.z_len boot_len (pa_cons (pv 3) pa_nil)) (pe_gi T.g_LONGEST_END) (nomark _)))))) pa_nil)))))))), ?_⟩
  obtain ⟨v, L, rfl, ⟨a, rv, ev, rfl, hT, hR, hE⟩, hV, q⟩ := h
  obtain ⟨ra, rs, rfl, hRT, hRP⟩ := hR
  obtain ⟨ea, rfl, hET⟩ := hE
  have hl := paired_len hRP
  have h12 := hV.few
  have h4 := hV.four
  refine ⟨_, rfl, _, _, _, _, true, rfl, .ty "tuple", .base (.tup hT), kit_ty (by decide +kernel), _, rfl, if_f rfl ?_⟩
  refine ⟨_, rfl, _, _, rfl, .inr (sq hT), rfl, _, rfl, if_f rfl ?_⟩
  refine ⟨_, rfl, _, _, rfl, sq hT, rfl, _, _, rfl, _, _, rfl, rfl, ?_⟩
  refine ⟨_, rfl, _, _, _, _, true, rfl, .ty "tuple", .base (.tup hRT), kit_ty (by decide +kernel), _, rfl, if_f rfl ?_⟩
  refine ⟨_, rfl, _, _, rfl, .inr (sq hRT), _, _, rfl, rfl, _, rfl, if_f (decide_eq_false (by omega)) ?_⟩
  refine ⟨_, rfl, _, rfl, ⟨_, sq hRT⟩, fun D hD => ?_⟩
  refine lc_fm rs (fun _ => true) (fun _ => V.bl true) walk_tup (Nat.lt_of_lt_of_le (by omega) sizeBig) hD (fun H1 e => sq (e _ _ hRT)) (gm_name 4) (fun i x y Ha Hb hi e1 ⟨e2, hc⟩ => ?_) (fun H1 e1 d => ?_)
  · subst e2
    rw [hi] at hc
    cases hc
    obtain ⟨r, hr1, hr2⟩ := paired_at hRP hi
    exact ⟨rfl, Ext.rfl', tY rfl, fun _ H3 e3 Q3 q3 => ⟨_, rfl, x, r, rfl, hr2.mono (Ext.tk (e1.trans e3)), hV.rules r (List.mem_of_getElem? hr1), q3⟩⟩
  refine ⟨_, rs.map fun _ => true, rfl, sl (by rw [d, filter_tt, List.map_map]; rfl), ?_⟩
  rw [all_tt]
  refine ⟨_, rfl, if_f rfl ?_⟩
  have hET1 := e1 _ _ hET
  refine ⟨_, rfl, _, _, _, _, true, rfl, .ty "tuple", .base (.tup hET1), kit_ty (by decide +kernel), _, rfl, if_f rfl ?_⟩
  refine ⟨_, rfl, _, _, rfl, .inr (sq hET1), rfl, _, rfl, if_f (by rw [List.length_map, h4]; decide +kernel) ?_⟩
  refine ⟨_, rfl, _, rfl, ⟨_, sq hET1⟩, fun D2 hD2 => ?_⟩
  refine lc_fm (L.ends.map fun e => V.str (tx e)) (fun _ => true) (fun _ => V.bl true) walk_tup (Nat.lt_of_lt_of_le (by rw [List.length_map]; omega) sizeBig) hD2 (fun H2 e => sq (e _ _ hET1)) (gm_name 3) (fun i x y Ha Hb hi e2 ⟨e3, hc⟩ => ?_) (fun H2 e2 d2 => ?_)
  · subst e3
    rw [hi] at hc
    cases hc
    rw [List.getElem?_map] at hi
    obtain ⟨en, hen, rfl⟩ := Option.map_eq_some_iff.mp hi
    obtain ⟨g1, g2⟩ := hV.ends en (List.mem_of_getElem? hen)
    refine ⟨rfl, Ext.rfl', tY rfl, fun _ H3 e3 Q3 q3 => ⟨_, rfl, en, rfl, g1, by omega, fun H4 e4 => ⟨true, rfl, if_t rfl ?_⟩⟩⟩
    refine ⟨_, rfl, _, rfl, Nat.le_trans (by rw [tx_len]; omega) sizeBig, _, _, rfl, rfl, ?_⟩
    exact qb (decide_eq_true (by rw [tx_len]; omega)) (q3 _ e4)
  · refine ⟨_, (L.ends.map fun e => V.str (tx e)).map fun _ => true, rfl, sl (by rw [d2, filter_tt]; simp only [List.map_map]; rfl), ?_⟩
    rw [all_tt]
    exact q H2 (e1.trans e2)
/- is_program: slots thing=0 loop=1 -/
def sp_is_program (_ : Frag) : Sp := fun vs H Q _ => ∃ a l L, vs = [.ref a] ∧ H a = some (.tup [l]) ∧ IsLo H l L ∧ VLo L ∧ ∀ H', Ext H H' → Q (.bl true) H'
def N_is_program : List Str := ["thing", "loop"]
theorem sc_is_program : FnScope N_is_program ["thing"] (defScope s_is_program) := ⟨rfl, rfl, rfl, by decide +kernel, rfl, by decide +kernel, by decide +kernel⟩
theorem ok_is_program (T : Txt K mg w) : FnR P w K mg base CX0 6 (He.ga K "is_program") (sp_is_program K) := by
  refine ok_of T.f_is_program sc_is_program (fun _ _ _ _ _ _ us hl => match us, hl with | [_], _ => rfl) (fun vs H Q E h => ?_) (fun cdv A outer s H vs Q E hr h => ?_)
  · repeat (first | (obtain ⟨rfl, _⟩ := h; rfl) | (obtain ⟨_, h⟩ := h))
  refine ⟨_, (pss_one (ps_ret (pe_and (pe_callB call_isi (by rfl) T.z_isinstance boot_isinstance (pa_cons (pv 0) (pa_cons (pe_ty T.z_tuple boot_tuple) pa_nil))) (pe_and (pe_cmpR op_le (pe_callB call_len_seq (by rfl) T.z_len boot_len (pa_cons (pv 0) pa_nil)) (pe_gi T.g_MOST_LOOPS) (nomark _)) (pe_one (pe_callB (cr_all rfl) (by rfl) T.z_all boot_all (pa_cons (pe_lc (own := [("loop", 1)]) rfl sc_is_program.nd (pi_tup (pv 0)) (blkOk_by (own := [("loop", 1)]) (N := N_is_program) (sc := defScope s_is_program) (by decide +kernel)) (fun _ _ _ _ _ => (pg_name (i := 1) sc_is_program.nd rfl (Or.inl rfl))) (fun _ _ _ _ _ => pts_nil) (fun _ _ _ _ _ => (pe_f (ok_is_loop T) T.g_is_loop (kp_of T.f_is_loop) (hr.mono (by decide)) pass0 (pa_cons (pv 1) pa_nil)))) pa_nil))))))), ?_⟩
  obtain ⟨a, l, L, rfl, hT, hL, hV, q⟩ := h
  refine ⟨_, rfl, _, _, _, _, true, rfl, .ty "tuple", .base (.tup hT), kit_ty (by decide +kernel), true, rfl, if_t rfl ?_⟩
  refine ⟨_, rfl, _, _, rfl, .inr (sq hT), _, _, rfl, rfl, true, rfl, if_t rfl ?_⟩
  refine ⟨_, rfl, _, rfl, ⟨_, sq hT⟩, fun D hD => ?_⟩
  refine lc_fm [l] (fun _ => true) (fun _ => V.bl true) walk_tup (Nat.lt_of_lt_of_le (by rw [List.length_singleton]; decide) sizeBig) hD (fun H1 e => sq (e _ _ hT)) (gm_name 1) (fun i x y Ha Hb hi e1 ⟨e2, hc⟩ => ?_) (fun H1 e1 d => ?_)
  · subst e2
    rw [hi] at hc
    cases hc
    have ex : x = l := List.mem_singleton.mp (List.mem_of_getElem? hi)
    subst ex
    exact ⟨rfl, Ext.rfl', tY rfl, fun _ H3 e3 Q3 q3 => ⟨_, rfl, x, L, rfl, hL.mono (Ext.tk (e1.trans e3)), hV, q3⟩⟩
  · exact ⟨_, [true], rfl, sl d, q H1 e1⟩
/- check_program: slots thing=0 -/
def sp_check_program (_ : Frag) : Sp := fun vs H Q _ => ∃ a l L, vs = [.ref a] ∧ H a = some (.tup [l]) ∧ IsLo H l L ∧ VLo L ∧ ∀ H', Ext H H' → Q .non H'
def N_check_program : List Str := ["thing"]
theorem sc_check_program : FnScope N_check_program ["thing"] (defScope s_check_program) := ⟨rfl, rfl, rfl, by decide +kernel, rfl, by decide +kernel, by decide +kernel⟩
theorem ok_check_program (T : Txt K mg w) : FnR P w K mg base CX0 7 (He.ga K "check_program") (sp_check_program K) := by
  refine ok_of T.f_check_program sc_check_program (fun _ _ _ _ _ _ us hl => match us, hl with | [_], _ => rfl) (fun vs H Q E h => ?_) (fun cdv A outer s H vs Q E hr h => ?_)
  · repeat (first | (obtain ⟨rfl, _⟩ := h; rfl) | (obtain ⟨_, h⟩ := h))
  refine ⟨_, (pss_one (ps_if (pt_not (pt_val (pe_f (ok_is_program T) T.g_is_program (kp_of T.f_is_program) (hr.mono (by decide)) pass0 (pa_cons (pv 0) pa_nil))))
      (pss_one ps_never)
      pss_nil)), ?_⟩
  obtain ⟨a, l, L, rfl, hT, hL, hV, q⟩ := h
  exact ⟨_, rfl, a, l, L, rfl, hT, hL, hV, fun H1 e1 => ⟨_, rfl, if_f rfl (q H1 e1)⟩⟩
end
end OB
set_option Elab.async false
set_option linter.all false
set_option maxRecDepth 100000
set_option maxHeartbeats 4000000
namespace OB
open PySem PySem.Spec PySem.Calls PyProof.Rows L2 PySem.W StX
section
variable {P : Program} {w : World} {K : Frag} {mg : Str → Option Value} {base : Heap}
/- fitting_rule: slots rules=0 mark=1 item=2 following=3 place=4 wanted=5 items=6 next_items=7 edits=8 -/
def fits (m c x : Nat) (r : Ru) : Bool := (match r.mark with | none => true | some k => decide (k = m)) && (decide (c ∈ r.items) && decide (x ∈ r.nexts))
def sp_fitting_rule (_ : Frag) : Sp := fun vs H Q _ => ∃ v rs, ∃ m c x : Nat, vs = [v, .int (m : Int), .str (tx [c]), .str (tx [x])] ∧ IsRus H v rs ∧
  ∀ H', Ext H H' → (rs.find? (fits m c x) = none → Q .non H') ∧ ∀ (i : Nat) r, rs[i]? = some r → rs.find? (fits m c x) = some r → Q (.int (i : Int)) H'
theorem find_take {α : Type} {p : α → Bool} {l : List α} {i : Nat} {a : α} (h : (l.take i).find? p = none) (hi : l[i]? = some a) : (p a = true → l.find? p = some a) ∧ (p a = false → (l.take (i + 1)).find? p = none) := by
  refine ⟨fun c => ?_, fun c => ?_⟩
  · have e : l = l.take (i + 1) ++ l.drop (i + 1) := (List.take_append_drop _ _).symm
    rw [e, take_more' hi, List.find?_append, List.find?_append, h]
    simp [c]
  · rw [take_more' hi, List.find?_append, h]
    simp [c]
def N_fitting_rule : List Str := ["rules", "mark", "item", "following", "place", "wanted", "items", "next_items", "edits"]
theorem sc_fitting_rule : FnScope N_fitting_rule ["rules", "mark", "item", "following"] (defScope s_fitting_rule) := ⟨rfl, rfl, rfl, by decide +kernel, rfl, by decide +kernel, by decide +kernel⟩
theorem ok_fitting_rule (T : Txt K mg w) : FnR P w K mg base CX0 1 (He.ga K "fitting_rule") (sp_fitting_rule K) := by
  refine ok_of T.f_fitting_rule sc_fitting_rule (fun _ _ _ _ _ _ us hl => match us, hl with | [_, _, _, _], _ => rfl) (fun vs H Q E h => ?_) (fun cdv A outer s H vs Q E hr h => ?_)
  · repeat (first | (obtain ⟨rfl, _⟩ := h; rfl) | (obtain ⟨_, h⟩ := h))
  refine ⟨_, (pss_cons (ps_for PassesOwn.never rfl (pi_enumT rfl T.z_enumerate (pa_cons (pv 0) pa_nil)) (pg_tup rfl (pgs_cons (pg_name (i := 4) sc_fitting_rule.nd rfl (Or.inl rfl)) (pgs_cons (pg_tup rfl (pgs_cons (pg_name (i := 5) sc_fitting_rule.nd rfl (Or.inl rfl)) (pgs_cons (pg_name (i := 6) sc_fitting_rule.nd rfl (Or.inl rfl)) (pgs_cons (pg_name (i := 7) sc_fitting_rule.nd rfl (Or.inl rfl)) (pgs_cons (pg_name (i := 8) sc_fitting_rule.nd rfl (Or.inl rfl)) pgs_nil))))) pgs_nil)))
      (pss_one (ps_if (PW.pt (pw_and (pt_cmpR op_in_seq (pv 5) (pe_tup (pa_cons pe_non (pa_cons (pv 1) pa_nil))) rfl) (pw_and (pt_cmpR op_in_sign (pv 2) (pv 6) rfl) (pw_and1 (pt_cmpR op_in_sign (pv 3) (pv 7) rfl)))))
        (pss_one (ps_ret (pv 4)))
        pss_nil)))
    (pss_one (ps_ret pe_non))), ?_⟩
  obtain ⟨v, rs, m, c, x, rfl, ⟨a, xs, rfl, hT, hP⟩, q⟩ := h
  have hl := paired_len hP
  refine ⟨_, rfl, _, _, rfl, sq hT, for_enumT (fun i σ H' => ∃ y1 y2 y3 y4 y5, σ = [some (.ref a), some (.int (m : Int)), some (.str (tx [c])), some (.str (tx [x])), y1, y2, y3, y4, y5] ∧ Ext H H' ∧ (rs.take i).find? (fits m c x) = none) ⟨_, _, _, _, _, rfl, Ext.rfl', by simp⟩ (fun i σ H' _ ⟨_, _, _, _, _, _, e, _⟩ => sq (e _ _ hT)) ?_ ?_⟩
  · rintro i y σ H1 hi ⟨y1, y2, y3, y4, y5, rfl, e1, hn⟩ Tp hTp
    obtain ⟨r, hr1, ⟨ra, rev, rfl, hRT, hRE⟩⟩ := paired_at hP hi
    have E1 := e1.trans (Ext.upd (o := .tup [.int (i : Nat), .ref ra]) hTp)
    have ft := find_take hn hr1
    have go : ∀ b, fits m c x r = b → b = false → (rs.take (i + 1)).find? (fits m c x) = none := fun b e1 e2 => ft.2 (e1.trans e2)
    refine ⟨_, _, rfl, sq upd_same, rfl, _, _, rfl, _, _, rfl, ⟨_, _, rfl, sq (E1 _ _ hRT), rfl, _, _, rfl, _, _, rfl, _, _, rfl, _, _, rfl, rfl, ?_⟩⟩
    refine ⟨rfl, ?_⟩
    refine ⟨_, rfl, _, rfl, by rw [List.length_cons, List.length_cons, List.length_nil]; exact Nat.le_trans (by decide) sizeBig, fun p hp => ?_⟩
    have E2 := E1.trans (Ext.upd (o := .tup [.non, .int (m : Int)]) hp)
    have hin : inV (mkV r.mark) [.non, .int (m : Int)] = (match r.mark with | none => true | some k => decide (k = m)) := by
      cases hm : r.mark with
      | none => rfl
      | some k =>
        show ((eqV .non (.int (k : Int))) || (((m : Int) == (k : Int)) || false)) = decide (k = m)
        have e0 : eqV .non (.int (k : Int)) = false := rfl
        rw [e0, Bool.false_or, Bool.or_false, Bool.eq_iff_iff]
        simp
        omega
    have hf : flatV (mkV r.mark) = true := by cases r.mark <;> rfl
    refine ⟨_, _, rfl, .inr (sq upd_same), hf, rfl, _, rfl, ?_⟩
    refine ifb (fun c1 => ?_) (fun c1 => ?_)
    · refine ⟨_, rfl, _, rfl, c, _, rfl, rfl, _, rfl, ?_⟩
      refine ifb (fun c2 => ?_) (fun c2 => ?_)
      · refine ⟨_, rfl, _, rfl, x, _, rfl, rfl, _, rfl, ?_⟩
        refine ifb (fun c3 => ?_) (fun c3 => ?_)
        · refine ⟨_, rfl, ?_⟩
          refine (q _ E2).2 i r hr1 (ft.1 ?_)
          have c1' := hin.symm.trans c1
          unfold fits
          rw [c1']
          have c2' : decide (c ∈ r.items) = true := c2
          have c3' : decide (x ∈ r.nexts) = true := c3
          rw [c2', c3']
          rfl
        · refine ⟨_, _, _, _, _, rfl, E2, ft.2 ?_⟩
          have c3' : decide (x ∈ r.nexts) = false := c3
          unfold fits
          rw [c3', Bool.and_false, Bool.and_false]
      · refine if_f rfl ?_
        refine ⟨_, _, _, _, _, rfl, E2, ft.2 ?_⟩
        have c2' : decide (c ∈ r.items) = false := c2
        unfold fits
        rw [c2', Bool.false_and, Bool.and_false]
    · refine if_f rfl ?_
      refine ⟨_, _, _, _, _, rfl, E2, ft.2 ?_⟩
      have c1' := hin.symm.trans c1
      unfold fits
      rw [c1', Bool.false_and]
  · rintro σ H1 ⟨_, _, _, _, _, rfl, e1, hn⟩
    refine (q H1 e1).1 ?_
    rw [hl, List.take_length] at hn
    exact hn
/- apply_edit: slots edit=0 items=1 index=2 word=3 rest=4 -/
/-- an edit at place 0 -/
def app (e : Ed) (l : List Nat) : List Nat := match e with
  | .before c => c :: l
  | .after c => l.take 1 ++ [c] ++ l.drop 1
  | .put c => l.set 0 c
  | .drop => l.eraseIdx 0
  | .dropNext => l.eraseIdx 1
  | _ => l
def plain : Ed → Bool
  | .mark _ => false
  | .brk => false
  | _ => true
theorem sg_len (l : List Nat) : (signsV l).length = l.length := by simp [signsV]
theorem sg_take (l : List Nat) (n : Nat) : (signsV l).take n = signsV (l.take n) := by simp [signsV]
theorem sg_drop (l : List Nat) (n : Nat) : (signsV l).drop n = signsV (l.drop n) := by simp [signsV]
theorem sg_app (l m : List Nat) : signsV l ++ signsV m = signsV (l ++ m) := by simp [signsV]
theorem sg_set (l : List Nat) (n c : Nat) : (signsV l).set n (.str (tx [c])) = signsV (l.set n c) := by simp [signsV, List.map_set]
theorem sg_erase : ∀ (l : List Nat) (n : Nat), (signsV l).eraseIdx n = signsV (l.eraseIdx n)
  | [], _ => rfl
  | _ :: _, 0 => rfl
  | a :: l, n + 1 => by
    have ih := sg_erase l n
    show V.str (tx [a]) :: (signsV l).eraseIdx n = V.str (tx [a]) :: signsV (l.eraseIdx n)
    rw [ih]
theorem sg_at (l : List Nat) (i c : Nat) (h : l[i]? = some c) : (signsV l)[i]? = some (.str (tx [c])) := by simp [signsV, h]
def sp_apply_edit (_ : Frag) : Sp := fun vs H Q _ => ∃ v b e l, vs = [v, .ref b, .int 0] ∧ IsEd H v e ∧ plain e = true ∧ H b = some (.lst (signsV l)) ∧ l.length ≤ 100 ∧
  ∀ H', Kp [b] H H' → H' b = some (.lst (signsV (app e l))) → Q .non H'
def N_apply_edit : List Str := ["edit", "items", "index", "word", "rest"]
theorem sc_apply_edit : FnScope N_apply_edit ["edit", "items", "index"] (defScope s_apply_edit) := ⟨rfl, rfl, rfl, by decide +kernel, rfl, by decide +kernel, by decide +kernel⟩
theorem ok_apply_edit (T : Txt K mg w) : FnR P w K mg base CX0 1 (He.ga K "apply_edit") (sp_apply_edit K) := by
  refine ok_of T.f_apply_edit sc_apply_edit (fun _ _ _ _ _ _ us hl => match us, hl with | [_, _, _], _ => rfl) (fun vs H Q E h => ?_) (fun cdv A outer s H vs Q E hr h => ?_)
  · repeat (first | (obtain ⟨rfl, _⟩ := h; rfl) | (obtain ⟨_, h⟩ := h))
  refine ⟨_, (pss_cons (ps_asg (pv 0) (pg_star (i := 3) (j := 4) rfl sc_apply_edit.nd rfl (Or.inl rfl) rfl (Or.inl rfl)))
    (pss_one (ps_if (pt_cmpR op_eq (pv 3) pe_str (nomark _))
      (pss_one (ps_expr (pe_bm PySem.F.plainAttrs_list PySem.F.slot_list_insert PySem.F.type_list_insert mt_insert (pv 1) (pa_cons (pv 2) (pa_cons (pe_ix ix_list (pv 4) pe_int (fun _ _ => rfl)) pa_nil)))))
      (pss_one (ps_if (pt_cmpR op_eq (pv 3) pe_str (nomark _))
        (pss_one (ps_expr (pe_bm PySem.F.plainAttrs_list PySem.F.slot_list_insert PySem.F.type_list_insert mt_insert (pv 1) (pa_cons (pe_op op_add (pv 2) pe_int) (pa_cons (pe_ix ix_list (pv 4) pe_int (fun _ _ => rfl)) pa_nil)))))
        (pss_one (ps_if (PW.pt (pw_and (pt_cmpR op_eq (pv 3) pe_str (nomark _)) (pw_and1 (pt_cmpR op_lt (pv 2) (pe_callB call_len_seq (by rfl) T.z_len boot_len (pa_cons (pv 1) pa_nil)) (nomark _)))))
          (pss_one (ps_asg (pe_ix ix_list (pv 4) pe_int (fun _ _ => rfl)) (pg_sub (pv 1) (pv 2) set_list)))
          (pss_one (ps_if (PW.pt (pw_and (pt_cmpR op_eq (pv 3) pe_str (nomark _)) (pw_and1 (pt_cmpR op_lt (pv 2) (pe_callB call_len_seq (by rfl) T.z_len boot_len (pa_cons (pv 1) pa_nil)) (nomark _)))))
            (pss_one (ps_delL (pv 1) (pv 2)))
            (pss_one (ps_if (PW.pt (pw_and (pt_cmpR op_eq (pv 3) pe_str (nomark _)) (pw_and1 (pt_cmpR op_lt (pe_op op_add (pv 2) pe_int) (pe_callB call_len_seq (by rfl) T.z_len boot_len (pa_cons (pv 1) pa_nil)) (nomark _)))))
              (pss_one (ps_delL (pv 1) (pe_op op_add (pv 2) pe_int)))
              pss_nil))))))))))), ?_⟩
  obtain ⟨v, b, e, l, rfl, ⟨a, rfl, hT⟩, hpl, hb, hz, q⟩ := h
  rw [edV_eq] at hT
  have hsz : l.length < sizeLine := Nat.lt_of_lt_of_le (by omega) sizeBig
  refine ⟨_, rfl, _, _, _, rfl, sq hT, by cases e <;> (simp only [argV, List.length_cons, List.length_nil]; omega), fun D hD => ?_⟩
  have hbD : b ≠ D := fun z => by rw [z, hD] at hb; cases hb
  have hb1 : (upd H D (.lst (argV e))) b = some (.lst (signsV l)) := by rw [upd_ne hbD]; exact hb
  have hK : ∀ o, Kp [b] H (upd (upd H D (.lst (argV e))) b o) := fun o => (Kp.new hD).trans (Kp.put (List.mem_singleton.mpr rfl))
  have fin : ∀ ys, ys = signsV (app e l) → Q .non (upd (upd H D (.lst (argV e))) b (.lst ys)) := fun ys z => q _ (hK _) (by rw [upd_same, z])
  have fin0 : app e l = l → Q .non (upd H D (.lst (argV e))) := fun z => q _ (Kp.new hD) (by rw [hb1, z])
  cases e with
  | mark m => cases hpl
  | brk => cases hpl
  | before c =>
    refine ⟨_, rfl, rfl, _, rfl, if_t (by show decide (V.str "before" = V.str "before") = true; decide +kernel) ?_⟩
    refine ⟨_, rfl, tyL hb1, _, rfl, _, rfl, _, _, 0, _, rfl, rfl, sl upd_same, atI_nat (j := 0) rfl, _, _, 0, _, rfl, rfl, hb1, by rw [sg_len]; exact hsz, by decide, by decide, ?_⟩
    exact fin _ rfl
  | after c =>
    refine ⟨_, rfl, rfl, _, rfl, if_f (by show decide (V.str "after" = V.str "before") = false; decide +kernel) ?_⟩
    refine ⟨_, rfl, rfl, _, rfl, if_t (by show decide (V.str "after" = V.str "after") = true; decide +kernel) ?_⟩
    refine ⟨_, rfl, tyL hb1, _, rfl, _, _, rfl, rfl, _, rfl, _, _, 0, _, rfl, rfl, sl upd_same, atI_nat (j := 0) rfl, _, _, 1, _, rfl, rfl, hb1, by rw [sg_len]; exact hsz, by decide, by decide, ?_⟩
    refine fin _ ?_
    show (signsV l).take 1 ++ [.str (tx [c])] ++ (signsV l).drop 1 = _
    rw [sg_take, sg_drop, show [V.str (tx [c])] = signsV [c] from rfl, sg_app, sg_app]
    rfl
  | put c =>
    refine ⟨_, rfl, rfl, _, rfl, if_f (by show decide (V.str "put" = V.str "before") = false; decide +kernel) ?_⟩
    refine ⟨_, rfl, rfl, _, rfl, if_f (by show decide (V.str "put" = V.str "after") = false; decide +kernel) ?_⟩
    refine ⟨_, rfl, rfl, _, rfl, if_t (by show decide (V.str "put" = V.str "put") = true; decide +kernel) ?_⟩
    refine ⟨_, rfl, _, rfl, _, _, rfl, .inl (sl hb1), _, _, rfl, rfl, _, rfl, ?_⟩
    refine ifb (fun c1 => ?_) (fun c1 => ?_)
    · have hp := of_decide_eq_true c1
      refine ⟨_, rfl, _, _, 0, _, rfl, rfl, sl upd_same, atI_nat (j := 0) rfl, _, rfl, _, rfl, _, _, 0, 0, rfl, rfl, hb1, Evl.ixN_nat (n := (signsV l).length) (j := 0) (by omega), ?_⟩
      refine fin _ ?_
      rw [sg_set]
      rfl
    · have hp := of_decide_eq_false c1
      have e0 : l = [] := List.eq_nil_of_length_eq_zero (by rw [sg_len] at hp; omega)
      refine ⟨_, rfl, rfl, _, rfl, if_f (by show decide (V.str "put" = V.str "drop") = false; decide +kernel) (if_f rfl ?_)⟩
      refine ⟨_, rfl, rfl, _, rfl, if_f (by show decide (V.str "put" = V.str "drop_next") = false; decide +kernel) (if_f rfl ?_)⟩
      exact fin0 (by rw [e0]; rfl)
  | drop =>
    refine ⟨_, rfl, rfl, _, rfl, if_f (by show decide (V.str "drop" = V.str "before") = false; decide +kernel) ?_⟩
    refine ⟨_, rfl, rfl, _, rfl, if_f (by show decide (V.str "drop" = V.str "after") = false; decide +kernel) ?_⟩
    refine ⟨_, rfl, rfl, _, rfl, if_f (by show decide (V.str "drop" = V.str "put") = false; decide +kernel) (if_f rfl ?_)⟩
    refine ⟨_, rfl, rfl, _, rfl, if_t (by show decide (V.str "drop" = V.str "drop") = true; decide +kernel) ?_⟩
    refine ⟨_, rfl, _, rfl, _, _, rfl, .inl (sl hb1), _, _, rfl, rfl, _, rfl, ?_⟩
    refine ifb (fun c1 => ?_) (fun c1 => ?_)
    · have hp := of_decide_eq_true c1
      refine ⟨_, rfl, _, rfl, _, _, 0, 0, rfl, rfl, hb1, by decide, by decide, (ixN_seq (Evl.ixN_nat (n := (signsV l).length) (j := 0) (by omega))).1, ?_⟩
      exact fin _ (sg_erase l 0)
    · have hp := of_decide_eq_false c1
      have e0 : l = [] := List.eq_nil_of_length_eq_zero (by rw [sg_len] at hp; omega)
      refine ⟨_, rfl, rfl, _, rfl, if_f (by show decide (V.str "drop" = V.str "drop_next") = false; decide +kernel) (if_f rfl ?_)⟩
      exact fin0 (by rw [e0]; rfl)
  | dropNext =>
    refine ⟨_, rfl, rfl, _, rfl, if_f (by show decide (V.str "drop_next" = V.str "before") = false; decide +kernel) ?_⟩
    refine ⟨_, rfl, rfl, _, rfl, if_f (by show decide (V.str "drop_next" = V.str "after") = false; decide +kernel) ?_⟩
    refine ⟨_, rfl, rfl, _, rfl, if_f (by show decide (V.str "drop_next" = V.str "put") = false; decide +kernel) (if_f rfl ?_)⟩
    refine ⟨_, rfl, rfl, _, rfl, if_f (by show decide (V.str "drop_next" = V.str "drop") = false; decide +kernel) (if_f rfl ?_)⟩
    refine ⟨_, rfl, rfl, _, rfl, if_t (by show decide (V.str "drop_next" = V.str "drop_next") = true; decide +kernel) ?_⟩
    refine ⟨_, rfl, _, _, rfl, rfl, _, rfl, _, _, rfl, .inl (sl hb1), _, _, rfl, rfl, _, rfl, ?_⟩
    refine ifb (fun c1 => ?_) (fun c1 => ?_)
    · have hp := of_decide_eq_true c1
      refine ⟨_, rfl, _, rfl, _, _, rfl, rfl, _, _, 1, 1, rfl, rfl, hb1, by decide, by decide, (ixN_seq (Evl.ixN_nat (n := (signsV l).length) (j := 1) (by omega))).1, ?_⟩
      exact fin _ (sg_erase l 1)
    · have hp := of_decide_eq_false c1
      refine fin0 ?_
      show l.eraseIdx 1 = l
      rw [sg_len] at hp
      exact List.eraseIdx_of_length_le (by omega)
/- Pass.carry_out: slots self=0 edits=1 items=2 index=3 edit=4 -/
def one (s : Nat × Bool × List Nat) (e : Ed) : Nat × Bool × List Nat := match e with
  | .mark m => (m, s.2.1, s.2.2)
  | .brk => (s.1, true, s.2.2)
  | e => (s.1, s.2.1, app e s.2.2)
def carry (es : List Ed) (s : Nat × Bool × List Nat) : Nat × Bool × List Nat := es.foldl one s
theorem app_len (e : Ed) (l : List Nat) : (app e l).length ≤ l.length + 1 := by
  cases e with
  | before c => simp [app]
  | after c =>
    simp only [app, List.length_append, List.length_take, List.length_drop, List.length_singleton]
    omega
  | put c => simp [app]
  | drop => simp only [app, List.length_eraseIdx]; split <;> omega
  | dropNext => simp only [app, List.length_eraseIdx]; split <;> omega
  | mark m => simp [app]
  | brk => simp [app]
theorem one_len (s : Nat × Bool × List Nat) (e : Ed) : (one s e).2.2.length ≤ s.2.2.length + 1 := by
  have h := app_len e s.2.2
  cases e <;> first | exact h | (simp [one])
theorem carry_len : ∀ (es : List Ed) (s : Nat × Bool × List Nat), (carry es s).2.2.length ≤ s.2.2.length + es.length
  | [], s => Nat.le_refl _
  | e :: es, s => by
    have h1 := one_len s e
    have h2 := carry_len es (one s e)
    show (carry es (one s e)).2.2.length ≤ _
    rw [List.length_cons]
    omega
theorem carry_snoc (es : List Ed) (e : Ed) (s : Nat × Bool × List Nat) : carry (es ++ [e]) s = one (carry es s) e := by
  unfold carry
  rw [List.foldl_append]
  rfl
def sp_Pass_carry_out (K : Frag) : Sp := fun vs H Q _ => ∃ a b dx v es c r m br l, vs = [.ref a, v, .ref b, .int 0] ∧ H a = some (.ins (He.ga K "Pass") dx (pF c r m br)) ∧ H b = some (.lst (signsV l)) ∧ IsEds H v es ∧ es.length ≤ 4 ∧ l.length ≤ 50 ∧
  ∀ H', Kp [a, b] H H' → H' a = some (.ins (He.ga K "Pass") dx (pF c r (carry es (m, br, l)).1 (carry es (m, br, l)).2.1)) → H' b = some (.lst (signsV (carry es (m, br, l)).2.2)) → Q .non H'
def N_Pass_carry_out : List Str := ["self", "edits", "items", "index", "edit"]
theorem sc_Pass_carry_out : FnScope N_Pass_carry_out ["self", "edits", "items", "index"] (defScope s_Pass_carry_out) := ⟨rfl, rfl, rfl, by decide +kernel, rfl, by decide +kernel, by decide +kernel⟩
theorem ok_Pass_carry_out (T : Txt K mg w) : FnR P w K mg base CX0 2 (He.ma K (He.ga K "Pass") "carry_out") (sp_Pass_carry_out K) := by
  refine ok_of T.f_Pass_carry_out sc_Pass_carry_out (fun _ _ _ _ _ _ us hl => match us, hl with | [_, _, _, _], _ => rfl) (fun vs H Q E h => ?_) (fun cdv A outer s H vs Q E hr h => ?_)
  · repeat (first | (obtain ⟨rfl, _⟩ := h; rfl) | (obtain ⟨_, h⟩ := h))
  refine ⟨_, (pss_one (ps_for PassesOwn.never rfl (pi_tup (pv 1)) (pg_name (i := 4) sc_Pass_carry_out.nd rfl (Or.inl rfl))
      (pss_one (ps_if (pt_cmpR op_eq (pe_ix ix_tup (pv 4) pe_int (fun _ _ => rfl)) pe_str (nomark _))
        (pss_one (ps_fld (pv 0) (pe_ix ix_tup (pv 4) pe_int (fun _ _ => rfl)) rfl))
        (pss_one (ps_if (pt_cmpR op_eq (pe_ix ix_tup (pv 4) pe_int (fun _ _ => rfl)) pe_str (nomark _))
          (pss_one (ps_fld (pv 0) pe_bl rfl))
          (pss_one (ps_expr (pe_f (ok_apply_edit T) T.g_apply_edit (kp_of T.f_apply_edit) (hr.mono (by decide)) pass0 (pa_cons (pv 4) (pa_cons (pv 2) (pa_cons (pv 3) pa_nil)))))))))))), ?_⟩
  obtain ⟨a, b, dx, v, es, c, r, m, br, l, rfl, ha, hb, ⟨ea, xs, rfl, hT, hP⟩, h4, h50, q⟩ := h
  have hl := paired_len hP
  refine ⟨_, rfl, _, rfl, ⟨_, sq hT⟩, for_tup (xs := xs) (fun i σ H' => ∃ y, σ = [some (.ref a), some (.ref ea), some (.ref b), some (.int 0), y] ∧ Kp [a, b] H H' ∧
    H' a = some (.ins (He.ga K "Pass") dx (pF c r (carry (es.take i) (m, br, l)).1 (carry (es.take i) (m, br, l)).2.1)) ∧ H' b = some (.lst (signsV (carry (es.take i) (m, br, l)).2.2))) ⟨_, rfl, Kp.rfl', ha, hb⟩ ?_ ?_ ?_⟩
  · rintro i σ H1 _ ⟨_, _, k1, _⟩
    exact sq (k1 _ _ hT (by
      have n1 : ea ≠ a := ne_of_at hT ha (fun z => by cases z)
      have n2 : ea ≠ b := ne_of_at hT hb (fun z => by cases z)
      simp [n1, n2]))
  · rintro i x σ H1 hi ⟨_, rfl, k1, a1, b1⟩
    obtain ⟨e, he, ⟨xa, rfl, hx⟩⟩ := paired_at hP hi
    have n1 : xa ≠ a := ne_of_at hx ha (fun z => by cases z)
    have n2 : xa ≠ b := ne_of_at hx hb (fun z => by cases z)
    have hab : a ≠ b := ne_of_at ha hb (fun z => by cases z)
    have hx1 : H1 xa = some (.tup (edV e)) := k1 _ _ hx (by simp [n1, n2])
    have cs : carry (es.take (i + 1)) (m, br, l) = one (carry (es.take i) (m, br, l)) e := by rw [take_more' he, carry_snoc]
    have hlt : i < es.length := (List.getElem?_eq_some_iff.mp he).1
    have hlen := carry_len (es.take i) (m, br, l)
    have hlen' : (carry (es.take i) (m, br, l)).2.2.length ≤ 54 := by
      have z := List.length_take_le i es
      have : (m, br, l).2.2.length = l.length := rfl
      omega
    generalize carry (es.take i) (m, br, l) = s0 at cs a1 b1 hlen'
    rw [cs]
    have z0 : atI (edV e) 0 = some (.str (wd e)) := by rw [edV_eq]; exact atI_nat (j := 0) rfl
    have plainE : plain e = true → one s0 e = (s0.1, s0.2.1, app e s0.2.2) → tF (sp_apply_edit K) E0 (tCons (tVar 4) (tCons (tVar 2) (tCons (tVar 3) tNil))) [some (.ref a), some (.ref ea), some (.ref b), some (.int 0), some (.ref xa)] H1 (fun _ H' => ∃ y, [some (V.ref a), some (.ref ea), some (.ref b), some (.int 0), some (.ref xa)] = [some (.ref a), some (.ref ea), some (.ref b), some (.int 0), y] ∧ Kp [a, b] H H' ∧
        H' a = some (.ins (He.ga K "Pass") dx (pF c r (one s0 e).1 (one s0 e).2.1)) ∧ H' b = some (.lst (signsV (one s0 e).2.2))) := fun hp ho => by
      refine ⟨_, rfl, _, rfl, _, rfl, .ref xa, b, e, s0.2.2, rfl, ⟨xa, rfl, hx1⟩, hp, b1, by omega, fun H2 k2 b2 => ?_⟩
      rw [ho]
      exact ⟨_, rfl, k1.trans (k2.mono fun z hz => by simp at hz; simp [hz]), k2 _ _ a1 (nin1 hab), b2⟩
    refine ⟨_, rfl, _, _, 0, _, rfl, rfl, sq hx1, z0, rfl, _, rfl, ?_⟩
    cases e with
    | mark m' =>
      refine if_t (by show decide (V.str "mark" = V.str "mark") = true; decide +kernel) ?_
      refine ⟨_, rfl, _, _, 1, .int (m' : Int), rfl, rfl, sq hx1, atI_nat (j := 1) rfl, _, rfl, _, _, _, _, rfl, a1, T.c_Pass, T.n_Pass_mark, by rw [pF_len]; decide, ?_⟩
      rw [pF_put_mark]
      exact ⟨_, rfl, k1.trans (Kp.put (by simp)), upd_same, by rw [upd_ne hab.symm]; exact b1⟩
    | brk =>
      refine if_f (by show decide (V.str "break" = V.str "mark") = false; decide +kernel) ?_
      refine ⟨_, rfl, _, _, 0, _, rfl, rfl, sq hx1, z0, rfl, _, rfl, if_t (by show decide (V.str "break" = V.str "break") = true; decide +kernel) ?_⟩
      refine ⟨_, rfl, _, _, _, _, rfl, a1, T.c_Pass, T.n_Pass_is_broken, by rw [pF_len]; decide, ?_⟩
      rw [pF_put_brk]
      exact ⟨_, rfl, k1.trans (Kp.put (by simp)), upd_same, by rw [upd_ne hab.symm]; exact b1⟩
    | put c =>
      refine if_f (by show decide (V.str "put" = V.str "mark") = false; decide +kernel) ?_
      exact ⟨_, rfl, _, _, 0, _, rfl, rfl, sq hx1, z0, rfl, _, rfl, if_f (by show decide (V.str "put" = V.str "break") = false; decide +kernel) (plainE rfl rfl)⟩
    | drop =>
      refine if_f (by show decide (V.str "drop" = V.str "mark") = false; decide +kernel) ?_
      exact ⟨_, rfl, _, _, 0, _, rfl, rfl, sq hx1, z0, rfl, _, rfl, if_f (by show decide (V.str "drop" = V.str "break") = false; decide +kernel) (plainE rfl rfl)⟩
    | dropNext =>
      refine if_f (by show decide (V.str "drop_next" = V.str "mark") = false; decide +kernel) ?_
      exact ⟨_, rfl, _, _, 0, _, rfl, rfl, sq hx1, z0, rfl, _, rfl, if_f (by show decide (V.str "drop_next" = V.str "break") = false; decide +kernel) (plainE rfl rfl)⟩
    | before c =>
      refine if_f (by show decide (V.str "before" = V.str "mark") = false; decide +kernel) ?_
      exact ⟨_, rfl, _, _, 0, _, rfl, rfl, sq hx1, z0, rfl, _, rfl, if_f (by show decide (V.str "before" = V.str "break") = false; decide +kernel) (plainE rfl rfl)⟩
    | after c =>
      refine if_f (by show decide (V.str "after" = V.str "mark") = false; decide +kernel) ?_
      exact ⟨_, rfl, _, _, 0, _, rfl, rfl, sq hx1, z0, rfl, _, rfl, if_f (by show decide (V.str "after" = V.str "break") = false; decide +kernel) (plainE rfl rfl)⟩
  · rintro σ H1 ⟨_, rfl, k1, a1, b1⟩
    rw [hl, List.take_length] at a1 b1
    exact q H1 k1 a1 b1
end
end OB
set_option Elab.async false
set_option linter.all false
set_option maxRecDepth 100000
set_option maxHeartbeats 4000000
namespace OB
open PySem PySem.Spec PySem.Calls PyProof.Rows L2 PySem.W StX
section
variable {P : Program} {w : World} {K : Frag} {mg : Str → Option Value} {base : Heap}
/- Pass.__init__: slots self=0 loop=1 items=2 index=3 mark=4 rules=5 ends=6 following=7 -/
def nxt (l : List Nat) : Nat := match l with
  | _ :: x :: _ => x
  | _ => 36
/-- one pass at place 0: mark, broken, items -/
def passR (rs : List Ru) (m : Nat) (l : List Nat) : Nat × Bool × List Nat := match l with
  | [] => (m, false, [])
  | c :: t => match rs.find? (fits m c (nxt (c :: t))) with
    | none => (m, false, c :: t)
    | some r => carry r.edits (m, false, c :: t)
def sp_Pass_init (K : Frag) : Sp := fun vs H Q _ => ∃ p dx v b, ∃ m c : Nat, ∃ t L, vs = [.ref p, v, .ref b, .int 0, .int (m : Int)] ∧ H p = some (.ins (He.ga K "Pass") dx []) ∧ IsLo H v L ∧ VLo L ∧ H b = some (.lst (signsV (c :: t))) ∧ t.length ≤ 20 ∧
  ∀ H' r, Kp [p, b] H H' → H' p = some (.ins (He.ga K "Pass") dx (pF c r (passR L.rules m (c :: t)).1 (passR L.rules m (c :: t)).2.1)) → H' b = some (.lst (signsV (passR L.rules m (c :: t)).2.2)) → Q .non H'
def N_Pass_init : List Str := ["self", "loop", "items", "index", "mark", "rules", "ends", "following"]
theorem sc_Pass_init : FnScope N_Pass_init ["self", "loop", "items", "index", "mark"] (defScope s_Pass_init) := ⟨rfl, rfl, rfl, by decide +kernel, rfl, by decide +kernel, by decide +kernel⟩
theorem ok_Pass_init (T : Txt K mg w) : FnR P w K mg base CX0 3 (He.ma K (He.ga K "Pass") "__init__") (sp_Pass_init K) := by
  refine ok_of T.f_Pass_init sc_Pass_init (fun _ _ _ _ _ _ us hl => match us, hl with | [_, _, _, _, _], _ => rfl) (fun vs H Q E h => ?_) (fun cdv A outer s H vs Q E hr h => ?_)
  · repeat (first | (obtain ⟨rfl, _⟩ := h; rfl) | (obtain ⟨_, h⟩ := h))
  refine ⟨_, (pss_cons (ps_asg (pv 1) (pg_tup rfl (pgs_cons (pg_name (i := 5) sc_Pass_init.nd rfl (Or.inl rfl)) (pgs_cons (pg_name (i := 6) sc_Pass_init.nd rfl (Or.inl rfl)) pgs_nil))))
    (pss_cons (ps_fld (pv 0) (pe_ix ix_list (pv 2) (pv 3) (fun _ _ => rfl)) rfl)
    (pss_cons (ps_set (i := 7) sc_Pass_init.nd rfl (Or.inl rfl) (pe_ifExp (pt_cmpR op_lt (pe_op op_add (pv 3) pe_int) (pe_callB call_len_seq (by rfl) T.z_len boot_len (pa_cons (pv 2) pa_nil)) (nomark _)) (pe_ix ix_list (pv 2) (pe_op op_add (pv 3) pe_int) (fun _ _ => rfl)) (pe_gs T.g_END)))
    (pss_cons (ps_fld (pv 0) (pe_f (ok_fitting_rule T) T.g_fitting_rule (kp_of T.f_fitting_rule) (hr.mono (by decide)) pass0 (pa_cons (pv 5) (pa_cons (pv 4) (pa_cons (pe_fld (pv 0) rfl) (pa_cons (pv 7) pa_nil))))) rfl)
    (pss_cons (ps_fld (pv 0) (pv 4) rfl)
    (pss_cons (ps_fld (pv 0) pe_bl rfl)
    (pss_one (ps_if (pt_cmpR op_notN (pe_fld (pv 0) rfl) pe_non (nomark _))
      (pss_one (ps_expr (pe_met (ok_Pass_carry_out T) T.c_Pass T.mt_Pass_carry_out (hr.mono (by decide)) pass0 (pv 0) (pa_cons (pe_ix ix_seq (pe_ix ix_tup (pv 5) (pe_fld (pv 0) rfl) (fun _ _ => rfl)) pe_int (fun _ _ => rfl)) (pa_cons (pv 2) (pa_cons (pv 3) pa_nil))))))
      pss_nil)))))))), ?_⟩
  obtain ⟨p, dx, v, b, m, c, t, L, rfl, hp, ⟨a, rv, ev, rfl, hT, hR, hE⟩, hV, hb, hz, q⟩ := h
  have hpb : p ≠ b := ne_of_at hp hb (fun z => by cases z)
  refine ⟨_, rfl, _, _, rfl, sq hT, rfl, _, _, rfl, _, _, rfl, rfl, ?_⟩
  refine ⟨_, rfl, _, rfl, _, _, 0, _, rfl, rfl, sl hb, atI_nat (j := 0) rfl, _, rfl, _, _, _, _, rfl, hp, T.c_Pass, T.n_Pass_item, by show 0 < 1000; decide, ?_⟩
  rw [pF_new0 c .non m false]
  have b1 : (upd H p (.ins (He.ga K "Pass") dx [("item", .str (tx [c]))])) b = some (.lst (signsV (c :: t))) := by rw [upd_ne hpb.symm]; exact hb
  have t1 : TK H (upd H p (.ins (He.ga K "Pass") dx [("item", .str (tx [c]))])) := fun x xs hx => by rw [upd_ne (ne_of_at hx hp (fun z => by cases z))]; exact hx
  have k1 : Kp [p, b] H (upd H p (.ins (He.ga K "Pass") dx [("item", .str (tx [c]))])) := Kp.put (by simp)
  have p1 : (upd H p (.ins (He.ga K "Pass") dx [("item", .str (tx [c]))])) p = some (.ins (He.ga K "Pass") dx [("item", .str (tx [c]))]) := upd_same
  generalize upd H p (.ins (He.ga K "Pass") dx [("item", .str (tx [c]))]) = H1 at b1 t1 k1 p1
  refine ⟨_, rfl, _, _, rfl, rfl, _, rfl, _, _, rfl, .inl (sl b1), _, _, rfl, rfl, _, rfl, ?_⟩
  have fol : ∀ (Z : V → Hp → Prop), Z (.str (tx [nxt (c :: t)])) H1 → (if decide ((0 : Int) + 1 < ((signsV (c :: t)).length : Int)) = true then tOp (rIxL K) (tVar 2) (tOp (rI0 fun i j => .int (i + j)) (tVar 3) (tC (.int 1))) (((start N_Pass_init [V.ref p, V.ref a, V.ref b, V.int 0, V.int (m : Int)]).set 5 (some rv)).set 6 (some ev)) H1 Z else tC (.str "$") (((start N_Pass_init [V.ref p, V.ref a, V.ref b, V.int 0, V.int (m : Int)]).set 5 (some rv)).set 6 (some ev)) H1 Z) := by
    intro Z hZ
    cases t with
    | nil =>
      refine if_f (decide_eq_false (by rw [sg_len, List.length_singleton]; decide)) ?_
      show Z (.str "$") H1
      exact qv (show V.str "$" = .str (tx [36]) by decide +kernel) hZ
    | cons x t =>
      refine if_t (decide_eq_true (by rw [sg_len, List.length_cons, List.length_cons]; omega)) ?_
      exact ⟨_, rfl, _, rfl, _, _, rfl, rfl, _, _, 1, _, rfl, rfl, sl b1, atI_nat (j := 1) rfl, hZ⟩
  refine fol _ ?_
  obtain ⟨ra, rs, rfl, hRT, hRP⟩ := id hR
  refine ⟨_, rfl, _, rfl, _, rfl, _, _, _, _, .str (tx [c]), rfl, p1, T.c_Pass, T.n_Pass_item, by kernel_rfl, _, rfl, ?_⟩
  refine ⟨.ref ra, L.rules, m, c, nxt (c :: t), rfl, hR.mono t1, fun H2 e2 => ?_⟩
  have p2 := e2 _ _ p1
  have b2 := e2 _ _ b1
  have k2 : Kp [p, b] H H2 := k1.trans (Kp.of e2)
  have t2 : TK H H2 := t1.trans (Ext.tk e2)
  refine ⟨fun hn => ?_, fun i ru hi hf => ?_⟩
  · refine ⟨_, rfl, _, _, _, _, rfl, p2, T.c_Pass, T.n_Pass_rule, by show 1 < 1000; decide, ?_⟩
    rw [pF_new1 c .non m false]
    refine ⟨_, rfl, _, rfl, _, _, _, _, rfl, upd_same, T.c_Pass, T.n_Pass_mark, by show 2 < 1000; decide, ?_⟩
    rw [pF_new2 c .non m false]
    refine ⟨_, rfl, _, _, _, _, rfl, upd_same, T.c_Pass, T.n_Pass_is_broken, by show 3 < 1000; decide, ?_⟩
    rw [pF_new3 c .non m false]
    refine ⟨_, rfl, _, _, _, _, _, rfl, upd_same, T.c_Pass, T.n_Pass_rule, pF_rule c .non m false, rfl, _, rfl, if_f rfl ?_⟩
    have e : passR L.rules m (c :: t) = (m, false, c :: t) := by simp only [passR, hn]
    rw [e] at q
    refine q _ .non (((k2.trans (Kp.put (by simp))).trans (Kp.put (by simp))).trans (Kp.put (by simp))) upd_same ?_
    rw [upd_ne hpb.symm, upd_ne hpb.symm, upd_ne hpb.symm]
    exact b2
  · refine ⟨_, rfl, _, _, _, _, rfl, p2, T.c_Pass, T.n_Pass_rule, by show 1 < 1000; decide, ?_⟩
    rw [pF_new1 c (.int (i : Int)) m false]
    refine ⟨_, rfl, _, rfl, _, _, _, _, rfl, upd_same, T.c_Pass, T.n_Pass_mark, by show 2 < 1000; decide, ?_⟩
    rw [pF_new2 c (.int (i : Int)) m false]
    refine ⟨_, rfl, _, _, _, _, rfl, upd_same, T.c_Pass, T.n_Pass_is_broken, by show 3 < 1000; decide, ?_⟩
    rw [pF_new3 c (.int (i : Int)) m false]
    refine ⟨_, rfl, _, _, _, _, _, rfl, upd_same, T.c_Pass, T.n_Pass_rule, pF_rule c (.int (i : Int)) m false, rfl, _, rfl, if_t rfl ?_⟩
    have k3 := ((k2.trans (Kp.put (o := .ins (He.ga K "Pass") dx [("item", .str (tx [c])), ("rule", .int (i : Int))]) (p := p) (by simp))).trans (Kp.put (o := .ins (He.ga K "Pass") dx [("item", .str (tx [c])), ("rule", .int (i : Int)), ("mark", .int (m : Int))]) (p := p) (by simp))).trans (Kp.put (o := .ins (He.ga K "Pass") dx (pF c (.int (i : Int)) m false)) (p := p) (by simp))
    have t3 : ∀ x xs, H2 x = some (.tup xs) → upd (upd (upd H2 p (.ins (He.ga K "Pass") dx [("item", .str (tx [c])), ("rule", .int (i : Int))])) p (.ins (He.ga K "Pass") dx [("item", .str (tx [c])), ("rule", .int (i : Int)), ("mark", .int (m : Int))])) p (.ins (He.ga K "Pass") dx (pF c (.int (i : Int)) m false)) x = some (.tup xs) := fun x xs hx => by
      have n : x ≠ p := ne_of_at hx p2 (fun z => by cases z)
      rw [upd_ne n, upd_ne n, upd_ne n]
      exact hx
    have b3 : upd (upd (upd H2 p (.ins (He.ga K "Pass") dx [("item", .str (tx [c])), ("rule", .int (i : Int))])) p (.ins (He.ga K "Pass") dx [("item", .str (tx [c])), ("rule", .int (i : Int)), ("mark", .int (m : Int))])) p (.ins (He.ga K "Pass") dx (pF c (.int (i : Int)) m false)) b = some (.lst (signsV (c :: t))) := by
      rw [upd_ne hpb.symm, upd_ne hpb.symm, upd_ne hpb.symm]
      exact b2
    have p3 : upd (upd (upd H2 p (.ins (He.ga K "Pass") dx [("item", .str (tx [c])), ("rule", .int (i : Int))])) p (.ins (He.ga K "Pass") dx [("item", .str (tx [c])), ("rule", .int (i : Int)), ("mark", .int (m : Int))])) p (.ins (He.ga K "Pass") dx (pF c (.int (i : Int)) m false)) p = some (.ins (He.ga K "Pass") dx (pF c (.int (i : Int)) m false)) := upd_same
    generalize upd (upd (upd H2 p (.ins (He.ga K "Pass") dx [("item", .str (tx [c])), ("rule", .int (i : Int))])) p (.ins (He.ga K "Pass") dx [("item", .str (tx [c])), ("rule", .int (i : Int)), ("mark", .int (m : Int))])) p (.ins (He.ga K "Pass") dx (pF c (.int (i : Int)) m false)) = H3 at k3 t3 b3 p3 ⊢
    obtain ⟨x, hx, ⟨xa, xe, rfl, hxT, hxE⟩⟩ := paired_at' hRP hi
    have e : passR L.rules m (c :: t) = carry ru.edits (m, false, c :: t) := by simp only [passR, hf]
    rw [e] at q
    have TT : TK H H3 := t2.trans t3
    refine ⟨_, rfl, _, _, _, rfl, p3, pF_no_carry_out c (.int (i : Int)) m false, _, rfl, _, rfl, _, _, _, _, _, rfl, p3, T.c_Pass, T.n_Pass_rule, pF_rule c (.int (i : Int)) m false, ?_⟩
    refine ⟨_, _, (i : Int), _, rfl, rfl, sq (TT _ _ hRT), atI_nat hx, ?_⟩
    refine .inr (.inl ⟨_, _, 3, _, rfl, rfl, sq (TT _ _ hxT), atI_nat (j := 3) rfl, ?_⟩)
    refine ⟨_, rfl, _, rfl, p, b, dx, xe, ru.edits, c, .int (i : Int), m, false, c :: t, rfl, p3, b3, hxE.mono TT, (hV.rules ru (List.mem_of_getElem? hi)).edits.len, by rw [List.length_cons]; omega, fun H4 k4 p4 b4 => ?_⟩
    exact q H4 _ (k3.trans k4) p4 b4
end
end OB
set_option Elab.async false
set_option linter.all false
set_option maxRecDepth 100000
set_option maxHeartbeats 4000000
namespace OB
open PySem PySem.Builtin PySem.Builtin.Str
/-! ### texts repeated -/
def pw (p : List Nat) (k : Nat) : List Nat := (List.replicate k p).flatten
theorem pw_zero (p : List Nat) : pw p 0 = [] := rfl
theorem pw_succ (p : List Nat) (k : Nat) : pw p (k + 1) = p ++ pw p k := by simp [pw, List.replicate_succ]
theorem pw_one (p : List Nat) : pw p 1 = p := by simp [pw]
theorem pw_add (p : List Nat) (a b : Nat) : pw p (a + b) = pw p a ++ pw p b := by
  unfold pw
  rw [← List.replicate_append_replicate, List.flatten_append]
theorem pw_len (p : List Nat) (k : Nat) : (pw p k).length = k * p.length := by
  induction k with
  | zero => simp [pw]
  | succ k ih => rw [pw_succ, List.length_append, ih, Nat.succ_mul, Nat.add_comm]
theorem pw_mul (p : List Nat) (a b : Nat) : pw (pw p a) b = pw p (a * b) := by
  induction b with
  | zero => simp [pw]
  | succ b ih => rw [pw_succ, ih, Nat.mul_succ, Nat.add_comm, pw_add]
theorem pw_nil (k : Nat) : pw [] k = [] := by
  apply List.eq_nil_of_length_eq_zero
  rw [pw_len]
  simp
/-- the i-th of p p p .. -/
def per (p : List Nat) (i : Nat) : Nat := p.getD (i % p.length) 0
theorem pw_get {p : List Nat} : ∀ {k i : Nat}, i < k * p.length → (pw p k)[i]? = some (per p i)
  | 0, i, h => by simp at h
  | k + 1, i, h => by
    rw [pw_succ]
    have h' : i < k * p.length + p.length := by rw [← Nat.succ_mul]; exact h
    by_cases c : i < p.length
    · rw [List.getElem?_append_left c]
      unfold per
      rw [Nat.mod_eq_of_lt c, List.getD_eq_getElem?_getD, List.getElem?_eq_getElem c]
      rfl
    · rw [List.getElem?_append_right (by omega), pw_get (k := k) (by omega)]
      unfold per
      have e : i % p.length = (i - p.length) % p.length := Nat.mod_eq_sub_mod (by omega)
      rw [e]
/-- m items of p p p .. from the f-th on -/
def strch (p : List Nat) (f m : Nat) : List Nat := (List.range m).map fun i => per p (f + i)
theorem strch_len (p : List Nat) (f m : Nat) : (strch p f m).length = m := by simp [strch]
theorem strch_get {p : List Nat} {f m i : Nat} (h : i < m) : (strch p f m)[i]? = some (per p (f + i)) := by simp [strch, h]
theorem slice_eq {p : List Nat} {k f m : Nat} (h : f + m ≤ k * p.length) : ((pw p k).drop f).take m = strch p f m := by
  apply List.ext_getElem?
  intro i
  by_cases c : i < m
  · rw [List.getElem?_take_of_lt c, List.getElem?_drop, pw_get (by omega), strch_get c]
  · rw [List.getElem?_eq_none (by rw [List.length_take]; omega), List.getElem?_eq_none (by rw [strch_len]; omega)]
theorem strch_mod (p : List Nat) (f m : Nat) : strch p (f % p.length) m = strch p f m := by
  unfold strch
  apply List.map_congr_left
  intro i _
  unfold per
  rw [Nat.mod_add_mod]
theorem strch_add (p : List Nat) (f a b : Nat) : strch p f (a + b) = strch p f a ++ strch p (f + a) b := by
  apply List.ext_getElem?
  intro i
  by_cases c : i < a
  · rw [List.getElem?_append_left (by rw [strch_len]; exact c), strch_get c, strch_get (by omega)]
  · rw [List.getElem?_append_right (by rw [strch_len]; omega), strch_len]
    by_cases c2 : i < a + b
    · rw [strch_get c2, strch_get (by omega), show f + a + (i - a) = f + i by omega]
    · rw [List.getElem?_eq_none (by rw [strch_len]; omega), List.getElem?_eq_none (by rw [strch_len]; omega)]
theorem strch_pw {p : List Nat} {k : Nat} : strch p 0 (k * p.length) = pw p k := by
  have e := slice_eq (p := p) (k := k) (f := 0) (m := k * p.length) (by omega)
  rw [← e, List.drop_zero, List.take_of_length_le (by rw [pw_len]; omega)]
/-- within one copy -/
theorem strch_in {p : List Nat} {f m : Nat} (h : f + m ≤ p.length) : strch p f m = (p.drop f).take m := by
  have e := slice_eq (p := p) (k := 1) (f := f) (m := m) (by omega)
  rw [← e, pw_one]
/-! ### the root of a text -/
/-- p is what stands at d in p p -/
def Rot (p : List Nat) (d : Nat) : Prop := ∀ i, per p (i + d) = per p i
theorem per_add_len (p : List Nat) (i : Nat) : per p (i + p.length) = per p i := by
  unfold per
  rw [Nat.add_mod_right]
theorem per_add_mul {p : List Nat} {d : Nat} (h : Rot p d) (i : Nat) : ∀ k, per p (i + k * d) = per p i
  | 0 => by simp
  | k + 1 => by
    have e : i + (k + 1) * d = (i + k * d) + d := by rw [Nat.succ_mul]; omega
    rw [e, h, per_add_mul h i k]
theorem rot_iff {p : List Nat} {d : Nat} (hd : d ≤ p.length) : ((p ++ p).drop d).take p.length = p ↔ Rot p d := by
  have e2 : p ++ p = pw p 2 := by rw [pw_succ, pw_one]
  rw [e2, slice_eq (by omega)]
  constructor
  · intro h i
    by_cases h0 : p.length = 0
    · have : p = [] := List.eq_nil_of_length_eq_zero h0
      rw [this]; rfl
    · have hm : i % p.length < p.length := Nat.mod_lt _ (by omega)
      have g := strch_get (p := p) (f := d) hm
      rw [h] at g
      have q : per p (d + i % p.length) = per p i := by
        have z : p[i % p.length]? = some (per p i) := by
          unfold per
          rw [List.getD_eq_getElem?_getD, List.getElem?_eq_getElem hm]
          rfl
        rw [z] at g
        exact (Option.some.inj g).symm
      have e : per p (i + d) = per p (d + i % p.length) := by
        unfold per
        congr 1
        rw [Nat.add_comm d, Nat.mod_add_mod]
      rw [e, q]
  · intro h
    have e : strch p d p.length = strch p 0 p.length := by
      unfold strch
      apply List.map_congr_left
      intro i _
      rw [Nat.add_comm d, h, Nat.zero_add]
    rw [e]
    have z := strch_pw (p := p) (k := 1)
    rw [Nat.one_mul, pw_one] at z
    exact z
theorem root_div {p : List Nat} {d : Nat} (h1 : 1 ≤ d) (hd : d ≤ p.length) (hr : Rot p d) (hm : ∀ k, 1 ≤ k → k < d → ¬ Rot p k) : d ∣ p.length := by
  rw [Nat.dvd_iff_mod_eq_zero]
  rcases Nat.eq_zero_or_pos (p.length % d) with h | h
  · exact h
  · refine absurd (fun i => ?_) (hm (p.length % d) h (Nat.mod_lt _ h1))
    have e := per_add_mul hr (i + p.length % d) (p.length / d)
    have z : i + p.length % d + p.length / d * d = i + p.length := by
      have := Nat.mod_add_div p.length d
      rw [Nat.mul_comm] at this
      omega
    rw [z, per_add_len] at e
    exact e.symm
theorem root_pw {p : List Nat} {d : Nat} (h1 : 1 ≤ d) (hd : d ≤ p.length) (hr : Rot p d) (hv : d ∣ p.length) : pw (p.take d) (p.length / d) = p := by
  have hl : (p.take d).length = d := by rw [List.length_take]; omega
  have hk : p.length / d * d = p.length := Nat.div_mul_cancel hv
  apply List.ext_getElem?
  intro i
  by_cases c : i < p.length
  · rw [pw_get (by rw [hl, hk]; exact c)]
    have a : per (p.take d) i = per p i := by
      have m1 : i % d < d := Nat.mod_lt _ h1
      have z1 : per (p.take d) i = per p (i % d) := by
        unfold per
        rw [hl, List.getD_eq_getElem?_getD, List.getD_eq_getElem?_getD, List.getElem?_take_of_lt m1, Nat.mod_eq_of_lt (Nat.lt_of_lt_of_le m1 hd)]
      rw [z1]
      have z2 := per_add_mul hr (i % d) (i / d)
      have z3 : i % d + i / d * d = i := by
        have := Nat.mod_add_div i d
        rw [Nat.mul_comm] at this
        exact this
      rw [z3] at z2
      exact z2.symm
    rw [a]
    unfold per
    rw [Nat.mod_eq_of_lt c, List.getD_eq_getElem?_getD, List.getElem?_eq_getElem c]
    rfl
  · rw [List.getElem?_eq_none (by rw [pw_len, hl, hk]; omega), List.getElem?_eq_none (by omega)]
theorem range'_split1 {n a lo : Nat} {pre post : List Nat} (h : List.range' lo n = pre ++ a :: post) : lo ≤ a ∧ ∀ k, lo ≤ k → k < a → k ∈ pre := by
  have hL : n = pre.length + (post.length + 1) := by
    have := congrArg List.length h
    simpa using this
  have hlen : lo + pre.length = a := by
    have h1 : (List.range' lo n)[pre.length]? = some a := by rw [h]; simp
    rw [List.getElem?_range'] at h1
    · simpa using h1
    · omega
  refine ⟨by omega, fun k hk1 hk => ?_⟩
  have h2 : (List.range' lo n)[k - lo]? = pre[k - lo]? := by rw [h, List.getElem?_append_left (by omega)]
  rw [List.getElem?_range'] at h2
  · have h3 : pre[k - lo]? = some k := by rw [← h2]; simp; omega
    exact List.mem_of_getElem? h3
  · omega
theorem at_iff (p : List Nat) (i : Nat) : StrLaws.At (tx (p ++ p)) (tx p) (tx (p ++ p)).length i ↔ i ≤ p.length ∧ Rot p i := by
  have e : subAt (tx (p ++ p)) (tx p) i = ((List.drop i (p ++ p)).take p.length == p) := by
    have z := StrLaws.subAt_eq (tx (p ++ p)) (tx p) i
    rw [tx_len] at z
    exact z
  unfold StrLaws.At
  rw [e, tx_len, tx_len, List.length_append, beq_iff_eq]
  constructor
  · rintro ⟨h1, h2⟩
    exact ⟨by omega, (rot_iff (by omega)).mp h2⟩
  · rintro ⟨h1, h2⟩
    exact ⟨by omega, (rot_iff h1).mpr h2⟩
theorem find_root {p : List Nat} (hp : p ≠ []) : ∃ d : Nat, Txt.find3 (tx (p ++ p)) (tx p) 1 = (d : Int) ∧ 1 ≤ d ∧ d ≤ p.length ∧ d ∣ p.length ∧ pw (p.take d) (p.length / d) = p := by
  have h0 : 0 < p.length := List.length_pos_iff.mpr hp
  have hlo : fromIndex (tx (p ++ p)).length 1 = 1 := by
    unfold fromIndex
    rw [if_neg (by decide)]
    rfl
  unfold Txt.find3
  rw [hlo, StrLaws.occ_eq]
  rcases StrLaws.occ_first (tx (p ++ p)) (tx p) (tx (p ++ p)).length 1 (Nat.le_refl _) (List.range' 1 ((tx (p ++ p)).length + 1 - 1)) 1 (fun i hi => (List.mem_range'_1.mp hi).1) with ⟨_, hn⟩ | ⟨pre, a, post, e, h1, ha, hn⟩
  · refine absurd ((at_iff p p.length).mpr ⟨Nat.le_refl _, per_add_len p⟩) (hn p.length ?_)
    rw [List.mem_range'_1, tx_len, List.length_append]
    omega
  · obtain ⟨r1, r2⟩ := range'_split1 e
    obtain ⟨a1, a2⟩ := (at_iff p a).mp ha
    have hv := root_div r1 a1 a2 fun k hk1 hk2 hr => hn k (r2 k hk1 hk2) ((at_iff p k).mpr ⟨by omega, hr⟩)
    refine ⟨a, ?_, r1, a1, hv, root_pw r1 a1 a2 hv⟩
    generalize (forIn (List.range' 1 ((tx (p ++ p)).length + 1 - 1)) ((#[] : Array Nat), 1) (StrLaws.occBody (tx (p ++ p)) (tx p) (tx (p ++ p)).length 1)).run.fst = arr at h1
    have h2 : arr.toList[0]? = some a := by simpa using h1
    cases hL : arr.toList with
    | nil => rw [hL] at h2; cases h2
    | cons b t => rw [hL] at h2; simp at h2; rw [h2]
/-! ### pairs of a text and how often -/
abbrev Prs' := List (List Nat × Nat)
def den : Prs' → List Nat
  | [] => []
  | q :: r => pw q.1 q.2 ++ den r
def lenP : Prs' → Nat
  | [] => 0
  | q :: r => q.1.length * q.2 + lenP r
theorem den_len : ∀ ps : Prs', (den ps).length = lenP ps
  | [] => rfl
  | q :: r => by
    show (pw q.1 q.2 ++ den r).length = q.1.length * q.2 + lenP r
    rw [List.length_append, pw_len, den_len r, Nat.mul_comm]
theorem den_append : ∀ a b : Prs', den (a ++ b) = den a ++ den b
  | [], b => rfl
  | q :: r, b => by
    show pw q.1 q.2 ++ den (r ++ b) = pw q.1 q.2 ++ den r ++ den b
    rw [den_append r b, List.append_assoc]
theorem den_one (t : List Nat) (n : Nat) : den [(t, n)] = pw t n := by simp [den]
theorem lenP_append (a b : Prs') : lenP (a ++ b) = lenP a + lenP b := by rw [← den_len, den_append, List.length_append, den_len, den_len]
/-- every text is there, and once at least -/
def Norm (ps : Prs') : Prop := ∀ q ∈ ps, q.1 ≠ [] ∧ 0 < q.2
/-- no text is longer than B -/
def Upto (B : Nat) (ps : Prs') : Prop := ∀ q ∈ ps, q.1.length ≤ B
theorem Norm.pos {ps : Prs'} (h : Norm ps) (hn : ps ≠ []) : 0 < lenP ps := by
  cases ps with
  | nil => exact absurd rfl hn
  | cons q r =>
    have z := h q (List.mem_cons_self ..)
    have z1 : 0 < q.1.length := List.length_pos_iff.mpr z.1
    have z2 := Nat.mul_pos z1 z.2
    show 0 < q.1.length * q.2 + lenP r
    omega
end OB
set_option Elab.async false
set_option linter.all false
set_option maxRecDepth 100000
set_option maxHeartbeats 4000000
namespace OB
open PySem PySem.Spec PySem.Calls PyProof.Rows L2 PySem.W StX
section
theorem cut_tx {l : List Nat} {a b : Nat} (ha : a ≤ l.length) (hb : b ≤ l.length) : cutS (tx l) (some (a : Int)) (some (b : Int)) = tx ((l.drop a).take (b - a)) := by
  unfold cutS
  rw [HT.sIx_nat, HT.sIx_nat, tx_len, Nat.min_eq_left ha, Nat.min_eq_left hb]
  rfl
theorem cut_txF {l : List Nat} {a : Nat} (ha : a ≤ l.length) : cutS (tx l) (some (a : Int)) none = tx (l.drop a) := by
  unfold cutS
  rw [HT.sIx_nat, HT.sIx_none, tx_len, Nat.min_eq_left ha]
  show tx ((l.drop a).take (l.length - a)) = _
  rw [List.take_of_length_le (by rw [List.length_drop]; omega)]
theorem cut_txT {l : List Nat} {b : Nat} (hb : b ≤ l.length) : cutS (tx l) none (some (b : Int)) = tx (l.take b) := by
  unfold cutS
  rw [HT.sIx_nat, HT.sIx_none, tx_len, Nat.min_eq_left hb]
  rfl
theorem cutVF {xs : List V} {i : Nat} (h : i ≤ xs.length) : cutV xs (some (i : Int)) none = xs.drop i := by
  unfold cutV
  rw [HT.sIx_nat, HT.sIx_none, Nat.min_eq_left h, List.take_of_length_le (by rw [List.length_drop]; omega)]
end
/-! ### pairs in the heap -/
def IsPair (H : Hp) (v : V) (q : List Nat × Nat) : Prop := ∃ a, v = .ref a ∧ H a = some (.tup [.str (tx q.1), .int (q.2 : Int)])
/-- a list of pairs at l -/
def IsPairs (H : Hp) (l : Addr) (ps : Prs') : Prop := ∃ vs, H l = some (.lst vs) ∧ Paired (IsPair H) vs ps
def Abc (ps : Prs') : Prop := ∀ q ∈ ps, ∀ c ∈ q.1, c ∈ abcd
/-- what the pairs of a list of runs are -/
structure Good (ps : Prs') : Prop where
  norm : Norm ps
  up : Upto 1000000 ps
  abc : Abc ps
  few : ps.length ≤ 100000
/-- an instance of Repeats -/
def IsRep (K : Frag) (H : Hp) (v : V) (ps : Prs') : Prop := ∃ a dx l, v = .ref a ∧ H a = some (.ins (He.ga K "Repeats") dx (rF (.ref l))) ∧ IsPairs H l ps ∧ Good ps
/-- an instance of Runs -/
def IsRuns (K : Frag) (H : Hp) (v : V) (ps : Prs') : Prop := ∃ a dx l, v = .ref a ∧ H a = some (.ins (He.ga K "Runs") dx (uF (.ref l))) ∧ IsPairs H l ps ∧ Good ps
section
variable {K : Frag} {H H' : Hp} {v : V} {l : Addr} {ps : Prs'}
theorem IsPair.mono (t : TK H H') {q : List Nat × Nat} (h : IsPair H v q) : IsPair H' v q := by
  obtain ⟨a, e1, e2⟩ := h
  exact ⟨a, e1, t _ _ e2⟩
theorem IsPairs.mono (e : Ext H H') (h : IsPairs H l ps) : IsPairs H' l ps := by
  obtain ⟨vs, e1, p⟩ := h
  exact ⟨vs, e _ _ e1, paired_mono (fun _ _ z => z.mono (Ext.tk e)) p⟩
/-- the list itself stands, and so do all tuples -/
theorem IsPairs.keep (t : TK H H') (e : H' l = H l) (h : IsPairs H l ps) : IsPairs H' l ps := by
  obtain ⟨vs, e1, p⟩ := h
  exact ⟨vs, e.trans e1, paired_mono (fun _ _ z => z.mono t) p⟩
theorem IsRep.mono (e : Ext H H') (h : IsRep K H v ps) : IsRep K H' v ps := by
  obtain ⟨a, dx, l, e1, e2, p, r⟩ := h
  exact ⟨a, dx, l, e1, e _ _ e2, p.mono e, r⟩
theorem IsRuns.mono (e : Ext H H') (h : IsRuns K H v ps) : IsRuns K H' v ps := by
  obtain ⟨a, dx, l, e1, e2, p, r⟩ := h
  exact ⟨a, dx, l, e1, e _ _ e2, p.mono e, r⟩
theorem IsPairs.nil (h : H l = some (.lst [])) : IsPairs H l [] := ⟨[], h, .nil⟩
theorem IsPairs.len (h : IsPairs H l ps) : ∃ vs, H l = some (.lst vs) ∧ vs.length = ps.length := by
  obtain ⟨vs, e, p⟩ := h
  exact ⟨vs, e, p.length⟩
/-- a pair more -/
theorem IsPairs.snoc {q : List Nat × Nat} {p : Addr} (h : IsPairs H l ps) (hp : H p = some (.tup [.str (tx q.1), .int (q.2 : Int)])) : ∃ vs, H l = some (.lst vs) ∧ vs.length = ps.length ∧ IsPairs (upd H l (.lst (vs ++ [.ref p]))) l (ps ++ [q]) := by
  obtain ⟨vs, e, pp⟩ := h
  have t : TK H (upd H l (.lst (vs ++ [.ref p]))) := fun a xs hx => by rw [upd_ne (ne_of_at hx e (fun z => by cases z))]; exact hx
  exact ⟨vs, e, pp.length, _, upd_same, paired_snoc (IsPair.mono t ⟨p, rfl, hp⟩) (paired_mono (fun _ _ z => IsPair.mono t z) pp)⟩
theorem abcd_lt {c : Nat} (h : c ∈ abcd) : c < 1114112 := by
  simp only [List.mem_cons, List.not_mem_nil, or_false] at h
  omega
theorem pd_ok : ∀ ps : Prs', Abc ps → PyData.canLayAll0 (ps.map fun q => PyData.tuple [.str (tx q.1), .int (q.2 : Int)]) = true ∧ PyData.depthAll (ps.map fun q => PyData.tuple [.str (tx q.1), .int (q.2 : Int)]) ≤ 8
  | [], _ => ⟨by simp [PyData.canLayAll0], by simp [PyData.depthAll]⟩
  | q :: r, hA => by
    obtain ⟨h1, h2⟩ := pd_ok r fun x hx => hA x (List.mem_cons_of_mem _ hx)
    have h3 : PyData.strOk (tx q.1) = true := by
      unfold PyData.strOk
      rw [← Array.all_toList, List.all_eq_true]
      exact fun c hc => decide_eq_true (abcd_lt (hA q (List.mem_cons_self ..) c hc))
    rw [List.map_cons]
    refine ⟨by simp only [PyData.canLayAll0, PyData.canLay0, h1, h3, Bool.and_self], ?_⟩
    simp only [PyData.depthAll, PyData.depth] at h2 ⊢
    omega
theorem IsPairs.dp (h : IsPairs H l ps) (hA : Abc ps) : ∃ ds : List PyData, Dp K H (.ref l) (.list ds) ∧ ds.length = ps.length ∧ SeqAt.shaped (.list ds) = true := by
  obtain ⟨vs, e, pp⟩ := h
  have z : ∃ ds : List PyData, DpAll K H vs ds ∧ ds = ps.map fun q => PyData.tuple [.str (tx q.1), .int (q.2 : Int)] := by
    clear e hA
    induction pp with
    | nil => exact ⟨[], .nil, rfl⟩
    | cons r t ih =>
      obtain ⟨ds, h1, h2⟩ := ih
      obtain ⟨a, rfl, ha⟩ := r
      exact ⟨_, .cons (.tup (sq ha) (.cons (.str _) (.cons (.int _) .nil))) h1, by rw [h2]; rfl⟩
  obtain ⟨ds, h1, h2⟩ := z
  refine ⟨ds, .lst (sl e) h1, by rw [h2, List.length_map], ?_⟩
  subst h2
  obtain ⟨k1, k2⟩ := pd_ok ps hA
  unfold SeqAt.shaped
  rw [Bool.and_eq_true]
  refine ⟨by simp only [PyData.canLay0]; exact k1, decide_eq_true ?_⟩
  simp only [PyData.depth]
  omega
end
end OB
set_option Elab.async false
set_option linter.all false
set_option maxRecDepth 100000
set_option maxHeartbeats 4000000
namespace OB
open PySem PySem.Spec PySem.Calls PyProof.Rows L2 PySem.W StX
section
variable {P : Program} {w : World} {K : Frag} {mg : Str → Option Value} {base : Heap}
/- is_pair: slots thing=0 part=1 times=2 -/
def OkPair (q : List Nat × Nat) : Prop := (∀ c ∈ q.1, c ∈ abcd) ∧ q.1.length ≤ 20 ∧ q.2 ≤ 10 ^ 60
def sp_is_pair (_ : Frag) : Sp := fun vs H Q _ => ∃ v q, vs = [v] ∧ IsPair H v q ∧ OkPair q ∧ ∀ H', Ext H H' → Q (.bl true) H'
def N_is_pair : List Str := ["thing", "part", "times"]
theorem sc_is_pair : FnScope N_is_pair ["thing"] (defScope s_is_pair) := ⟨rfl, rfl, rfl, by decide +kernel, rfl, by decide +kernel, by decide +kernel⟩
theorem ok_is_pair (T : Txt K mg w) : FnR P w K mg base CX0 2 (He.ga K "is_pair") (sp_is_pair K) := by
  refine ok_of T.f_is_pair sc_is_pair (fun _ _ _ _ _ _ us hl => match us, hl with | [_], _ => rfl) (fun vs H Q E h => ?_) (fun cdv A outer s H vs Q E hr h => ?_)
  · repeat (first | (obtain ⟨rfl, _⟩ := h; rfl) | (obtain ⟨_, h⟩ := h))
  refine ⟨_, (pss_cons (ps_if (PW.pt (pw_or (pt_not (pt_val (pe_callB call_isi (by rfl) T.z_isinstance boot_isinstance (pa_cons (pv 0) (pa_cons (pe_ty T.z_tuple boot_tuple) pa_nil))))) (pw_or1 (pt_cmpR op_ne (pe_callB call_len_seq (by rfl) T.z_len boot_len (pa_cons (pv 0) pa_nil)) pe_int (nomark _)))))
      (pss_one (ps_ret pe_bl))
      pss_nil)
    (pss_cons (ps_asg (pv 0) (pg_tup rfl (pgs_cons (pg_name (i := 1) sc_is_pair.nd rfl (Or.inl rfl)) (pgs_cons (pg_name (i := 2) sc_is_pair.nd rfl (Or.inl rfl)) pgs_nil))))
    (pss_one (ps_ret (pe_and (pe_f (ok_is_text T) T.g_is_text (kp_of T.f_is_text) (hr.mono (by decide)) pass0 (pa_cons (pv 1) pa_nil)) (pe_and (pe_cmpR op_le (pe_callB call_len_str (by rfl) T.z_len boot_len (pa_cons (pv 1) pa_nil)) (pe_gi T.g_LONGEST_PART) (nomark _)) (pe_one (pe_f (ok_is_integer T) T.g_is_integer (kp_of T.f_is_integer) (hr.mono (by decide)) pass0 (pa_cons (pv 2) (pa_cons pe_int (pa_cons (pe_gi T.g_MOST_TIMES) pa_nil))))))))))), ?_⟩
  obtain ⟨v, ⟨t, n⟩, rfl, ⟨a, rfl, hT⟩, ⟨h1, h2, h3⟩, q⟩ := h
  refine ⟨_, rfl, _, _, _, _, true, rfl, .ty "tuple", .base (.tup hT), kit_ty (by decide +kernel), _, rfl, if_f rfl ?_⟩
  refine ⟨_, rfl, _, _, rfl, .inr (sq hT), rfl, _, rfl, if_f rfl ?_⟩
  refine ⟨_, rfl, _, _, rfl, sq hT, rfl, _, _, rfl, _, _, rfl, rfl, ?_⟩
  have hz : t.length ≤ 20 := h2
  refine ⟨_, rfl, t, rfl, h1, by omega, fun H1 e1 => ⟨true, rfl, if_t rfl ?_⟩⟩
  refine ⟨_, rfl, _, rfl, Nat.le_trans (by rw [tx_len]; omega) sizeBig, _, _, rfl, rfl, _, rfl, if_t (decide_eq_true (by rw [tx_len]; omega)) ?_⟩
  refine ⟨_, rfl, (n : Int), 0, _, rfl, ?_⟩
  refine qb (decide_eq_true ⟨Int.natCast_nonneg _, ?_⟩) (q H1 e1)
  have h3' : n ≤ 10 ^ 60 := h3
  omega
/- root: slots part=0 -/
def sp_root (_ : Frag) : Sp := fun vs H Q _ => ∃ p : List Nat, vs = [.str (tx p)] ∧ p ≠ [] ∧ p.length ≤ 4000000 ∧ ∀ d, 1 ≤ d → d ≤ p.length → d ∣ p.length → pw (p.take d) (p.length / d) = p → Q (.str (tx (p.take d))) H
def N_root : List Str := ["part"]
theorem sc_root : FnScope N_root ["part"] (defScope s_root) := ⟨rfl, rfl, rfl, by decide +kernel, rfl, by decide +kernel, by decide +kernel⟩
theorem ok_root (T : Txt K mg w) : FnR P w K mg base CX0 1 (He.ga K "root") (sp_root K) := by
  refine ok_of T.f_root sc_root (fun _ _ _ _ _ _ us hl => match us, hl with | [_], _ => rfl) (fun vs H Q E h => ?_) (fun cdv A outer s H vs Q E hr h => ?_)
  · repeat (first | (obtain ⟨rfl, _⟩ := h; rfl) | (obtain ⟨_, h⟩ := h))
  refine ⟨_, (pss_one (ps_ret (pe_slice sl_str (pv 0) po_none (po_some (pe_bm PySem.F.plainAttrs_str PySem.F.slot_str_find PySem.F.type_str_find mt_find3 (pe_op op_add_str (pv 0) (pv 0)) (pa_cons (pv 0) (pa_cons pe_int pa_nil))))))), ?_⟩
  obtain ⟨p, rfl, hp, hz, q⟩ := h
  obtain ⟨d, hd, h1, h2, h3, h4⟩ := find_root hp
  refine ⟨_, rfl, _, rfl, _, rfl, _, _, rfl, rfl, Nat.le_trans (by rw [tx_len]; omega) sizeBig, rfl, _, rfl, _, _, _, rfl, rfl, ?_⟩
  rw [tx_app, hd]
  refine ⟨_, rfl, _, rfl, Nat.le_trans (by rw [tx_len]; omega) sizeBig, ?_⟩
  rw [cut_txT h2]
  exact q d h1 h2 h3 h4
/- stretch: slots part=0 first=1 many=2 offset=3 copies=4 -/
def sp_stretch (_ : Frag) : Sp := fun vs H Q _ => ∃ (p : List Nat) (f m : Nat), vs = [.str (tx p), .int (f : Int), .int (m : Int)] ∧ p ≠ [] ∧ p.length ≤ 1000000 ∧ m ≤ 2000000 ∧ Q (.str (tx (strch p f m))) H
def N_stretch : List Str := ["part", "first", "many", "offset", "copies"]
theorem sc_stretch : FnScope N_stretch ["part", "first", "many"] (defScope s_stretch) := ⟨rfl, rfl, rfl, by decide +kernel, rfl, by decide +kernel, by decide +kernel⟩
theorem ok_stretch (T : Txt K mg w) : FnR P w K mg base CX0 1 (He.ga K "stretch") (sp_stretch K) := by
  refine ok_of T.f_stretch sc_stretch (fun _ _ _ _ _ _ us hl => match us, hl with | [_, _, _], _ => rfl) (fun vs H Q E h => ?_) (fun cdv A outer s H vs Q E hr h => ?_)
  · repeat (first | (obtain ⟨rfl, _⟩ := h; rfl) | (obtain ⟨_, h⟩ := h))
  refine ⟨_, (pss_cons (ps_set (i := 3) sc_stretch.nd rfl (Or.inl rfl) (pe_op op_mod (pv 1) (pe_callB call_len_str (by rfl) T.z_len boot_len (pa_cons (pv 0) pa_nil))))
    (pss_cons (ps_set (i := 4) sc_stretch.nd rfl (Or.inl rfl) (pe_op op_add (pe_op op_fdivW (pe_op op_add (pv 3) (pv 2)) (pe_callB call_len_str (by rfl) T.z_len boot_len (pa_cons (pv 0) pa_nil))) pe_int))
    (pss_one (ps_ret (pe_slice sl_str (pe_op op_repS (pv 0) (pv 4)) (po_some (pv 3)) (po_some (pe_op op_add (pv 3) (pv 2)))))))), ?_⟩
  obtain ⟨p, f, m, rfl, hp, hz, hm, q⟩ := h
  have h0 : 0 < p.length := List.length_pos_iff.mpr hp
  have hs : (tx p).length ≤ sizeLine := Nat.le_trans (by rw [tx_len]; omega) sizeBig
  refine ⟨_, rfl, _, rfl, _, rfl, hs, _, _, rfl, rfl, by rw [tx_len]; omega, ?_⟩
  dsimp only
  rw [tx_len, em_nat]
  refine ⟨_, rfl, _, rfl, _, _, rfl, rfl, _, rfl, _, rfl, hs, _, _, rfl, rfl, wide_div (b := 64) (by rw [tx_len]; omega) (by rw [tx_len, Int.natAbs_natCast]; exact Nat.lt_of_le_of_lt hz (by decide)) (by decide) (by decide), _, _, rfl, rfl, ?_⟩
  dsimp only
  rw [tx_len, ← Int.natCast_add, ← Int.natCast_ediv, ← Int.natCast_one, ad_nat]
  have ho : f % p.length < p.length := Nat.mod_lt _ h0
  have hdm := Nat.div_add_mod (f % p.length + m) p.length
  have hml := Nat.mod_lt (f % p.length + m) h0
  generalize (f % p.length + m) / p.length = k at hdm ⊢
  have hk1 : k * p.length ≤ 3000000 := by
    rw [Nat.mul_comm]
    omega
  have hk : (k + 1) * p.length ≤ 4000000 := by rw [Nat.succ_mul]; omega
  have hf : f % p.length + m ≤ (k + 1) * p.length := by rw [Nat.succ_mul, Nat.mul_comm k]; omega
  have hk2 : k ≤ 3000000 := Nat.le_trans (Nat.le_mul_of_pos_right k h0) hk1
  refine ⟨_, rfl, _, rfl, p, k + 1, rfl, rfl, by omega, by omega, by rw [Nat.mul_comm]; omega, ?_⟩
  refine ⟨_, rfl, _, rfl, _, rfl, _, rfl, _, _, rfl, rfl, _, rfl, _, rfl, ?_, ?_⟩
  · have z := pw_len p (k + 1)
    exact Nat.le_trans (by rw [tx_len]; show (pw p (k + 1)).length ≤ _; omega) sizeBig
  · rw [← Int.natCast_add]
    show Q (.str (cutS (tx (pw p (k + 1))) _ _)) H
    rw [cut_tx (by rw [pw_len]; omega) (by rw [pw_len]; omega), Nat.add_sub_cancel_left, slice_eq hf, strch_mod]
    exact q
/- cut: slots part=0 begin=1 end=2 first=3 offset=4 last=5 rest=6 -/
theorem divp_nat {b n : Nat} (hn : 0 < n) (hb : b < 2 ^ 4000) : CDivP (b : Int) (n : Int) := by
  refine divp_ok (by omega) ?_
  have := PyProof.Rows.intBits_le (a := (b : Int)) (k := 4000) (by rw [Int.natAbs_natCast]; exact hb)
  omega
/-- what cut gives -/
structure CutOf (p : List Nat) (b e : Nat) (ps : Prs') : Prop where
  den : den ps = strch p b (e - b)
  few : ps.length ≤ 3
  up : Upto p.length ps
  sub : ∀ q ∈ ps, ∀ c ∈ q.1, c ∈ p
def sp_cut (_ : Frag) : Sp := fun vs H Q _ => ∃ (p : List Nat) (b e : Nat), vs = [.str (tx p), .int (b : Int), .int (e : Int)] ∧ p ≠ [] ∧ p.length ≤ 1000000 ∧ b ≤ e ∧ e < 2 ^ 4000 ∧
  ∀ H' l ps, Ext H H' → IsPairs H' l ps → H l = none → CutOf p b e ps → Q (.ref l) H'
theorem cut_one {p : List Nat} {b e : Nat} (h0 : 0 < p.length) (hbe : b ≤ e) (h : b / p.length = e / p.length) : CutOf p b e [((p.drop (b % p.length)).take (e % p.length - b % p.length), 1)] := by
  have m1 := Nat.mod_lt b h0
  have m2 := Nat.mod_lt e h0
  have d1 := Nat.div_add_mod b p.length
  have d2 := Nat.div_add_mod e p.length
  rw [← h] at d2
  refine ⟨?_, by simp, fun q hq => ?_, fun q hq c hc => ?_⟩
  · rw [den_one, pw_one, ← strch_in (by omega), strch_mod]
    congr 1
    omega
  · rw [List.mem_singleton.mp hq]
    simp
    omega
  · rw [List.mem_singleton.mp hq] at hc
    exact List.mem_of_mem_drop (List.mem_of_mem_take hc)
theorem cut_more {p : List Nat} {b e : Nat} (h0 : 0 < p.length) (hbe : b ≤ e) (h : b / p.length ≠ e / p.length) : b / p.length + 1 ≤ e / p.length ∧ CutOf p b e [(p.drop (b % p.length), 1), (p, e / p.length - b / p.length - 1), (p.take (e % p.length), 1)] := by
  have m1 := Nat.mod_lt b h0
  have m2 := Nat.mod_lt e h0
  have d1 := Nat.div_add_mod b p.length
  have d2 := Nat.div_add_mod e p.length
  have hle : b / p.length ≤ e / p.length := Nat.div_le_div_right hbe
  have h1 : b / p.length + 1 ≤ e / p.length := by omega
  obtain ⟨k, hk⟩ : ∃ k, e / p.length = b / p.length + 1 + k := ⟨e / p.length - (b / p.length + 1), by omega⟩
  refine ⟨h1, ?_, by simp, fun q hq => ?_, fun q hq c hc => ?_⟩
  · have e1 : e / p.length - b / p.length - 1 = k := by omega
    rw [e1]
    show pw (p.drop (b % p.length)) 1 ++ (pw p k ++ (pw (p.take (e % p.length)) 1 ++ [])) = _
    rw [pw_one, pw_one, List.append_nil]
    have z1 : p.drop (b % p.length) = strch p b (p.length - b % p.length) := by
      rw [← strch_mod, strch_in (by omega), List.take_of_length_le (by rw [List.length_drop]; omega)]
    have z2 : pw p k = strch p (b + (p.length - b % p.length)) (k * p.length) := by
      rw [← strch_pw, ← strch_mod p (b + _)]
      congr 1
      have : b + (p.length - b % p.length) = p.length * (b / p.length + 1) := by rw [Nat.mul_succ]; omega
      rw [this, Nat.mul_mod_right]
    have z3 : p.take (e % p.length) = strch p (b + (p.length - b % p.length) + k * p.length) (e % p.length) := by
      rw [← strch_mod p (b + _ + _)]
      have : b + (p.length - b % p.length) + k * p.length = p.length * (b / p.length + 1 + k) := by rw [Nat.mul_add, Nat.mul_succ, Nat.mul_comm k]; omega
      rw [this, Nat.mul_mod_right, strch_in (by omega), List.drop_zero]
    rw [z1, z2, z3, ← strch_add, ← strch_add]
    congr 1
    have : p.length * (e / p.length) = p.length * (b / p.length) + p.length + k * p.length := by rw [hk, Nat.mul_add, Nat.mul_add, Nat.mul_one, Nat.mul_comm k]
    omega
  · simp only [List.mem_cons, List.not_mem_nil, or_false] at hq
    rcases hq with e1 | e1 | e1 <;> rw [e1]
    · show (p.drop _).length ≤ _
      rw [List.length_drop]
      omega
    · exact Nat.le_refl _
    · show (p.take _).length ≤ _
      rw [List.length_take]
      omega
  · simp only [List.mem_cons, List.not_mem_nil, or_false] at hq
    rcases hq with e1 | e1 | e1 <;> rw [e1] at hc
    · exact List.mem_of_mem_drop hc
    · exact hc
    · exact List.mem_of_mem_take hc
def N_cut : List Str := ["part", "begin", "end", "first", "offset", "last", "rest"]
theorem sc_cut : FnScope N_cut ["part", "begin", "end"] (defScope s_cut) := ⟨rfl, rfl, rfl, by decide +kernel, rfl, by decide +kernel, by decide +kernel⟩
theorem ok_cut (T : Txt K mg w) : FnR P w K mg base CX0 1 (He.ga K "cut") (sp_cut K) := by
  refine ok_of T.f_cut sc_cut (fun _ _ _ _ _ _ us hl => match us, hl with | [_, _, _], _ => rfl) (fun vs H Q E h => ?_) (fun cdv A outer s H vs Q E hr h => ?_)
  · repeat (first | (obtain ⟨rfl, _⟩ := h; rfl) | (obtain ⟨_, h⟩ := h))
  refine ⟨_, (pss_cons (ps_asg (pe_callB call_divmodW (by rfl) T.z_divmod boot_divmod (pa_cons (pv 1) (pa_cons (pe_callB call_len_str (by rfl) T.z_len boot_len (pa_cons (pv 0) pa_nil)) pa_nil))) (pg_tup rfl (pgs_cons (pg_name (i := 3) sc_cut.nd rfl (Or.inl rfl)) (pgs_cons (pg_name (i := 4) sc_cut.nd rfl (Or.inl rfl)) pgs_nil))))
    (pss_cons (ps_asg (pe_callB call_divmodW (by rfl) T.z_divmod boot_divmod (pa_cons (pv 2) (pa_cons (pe_callB call_len_str (by rfl) T.z_len boot_len (pa_cons (pv 0) pa_nil)) pa_nil))) (pg_tup rfl (pgs_cons (pg_name (i := 5) sc_cut.nd rfl (Or.inl rfl)) (pgs_cons (pg_name (i := 6) sc_cut.nd rfl (Or.inl rfl)) pgs_nil))))
    (pss_cons (ps_if (pt_cmpR op_eq (pv 3) (pv 5) (nomark _))
      (pss_one (ps_ret (pe_lst (pa_cons (pe_tup (pa_cons (pe_slice sl_str (pv 0) (po_some (pv 4)) (po_some (pv 6))) (pa_cons pe_int pa_nil))) pa_nil))))
      pss_nil)
    (pss_one (ps_ret (pe_lst (pa_cons (pe_tup (pa_cons (pe_slice sl_str (pv 0) (po_some (pv 4)) po_none) (pa_cons pe_int pa_nil))) (pa_cons (pe_tup (pa_cons (pv 0) (pa_cons (pe_op op_sub (pe_op op_sub (pv 5) (pv 3)) pe_int) pa_nil))) (pa_cons (pe_tup (pa_cons (pe_slice sl_str (pv 0) po_none (po_some (pv 6))) (pa_cons pe_int pa_nil))) pa_nil))))))))), ?_⟩
  obtain ⟨p, b, e, rfl, hp, hz, hbe, he, q⟩ := h
  have h0 : 0 < p.length := List.length_pos_iff.mpr hp
  have hs : (tx p).length ≤ sizeLine := Nat.le_trans (by rw [tx_len]; omega) sizeBig
  have m1 := Nat.mod_lt b h0
  have m2 := Nat.mod_lt e h0
  refine ⟨_, rfl, _, rfl, _, rfl, hs, _, _, rfl, by rw [tx_len]; exact divp_nat h0 (Nat.lt_of_le_of_lt hbe he), fun t1 ht1 => ?_⟩
  rw [tx_len, ← Int.natCast_emod, ← Int.natCast_ediv]
  refine ⟨_, _, rfl, sq upd_same, rfl, _, _, rfl, _, _, rfl, rfl, ?_⟩
  have E1 : Ext H (upd H t1 (.tup [.int ((b / p.length : Nat) : Int), .int ((b % p.length : Nat) : Int)])) := Ext.upd ht1
  generalize upd H t1 (.tup [.int ((b / p.length : Nat) : Int), .int ((b % p.length : Nat) : Int)]) = H1 at E1 ⊢
  refine ⟨_, rfl, _, rfl, _, rfl, hs, _, _, rfl, by rw [tx_len]; exact divp_nat h0 he, fun t2 ht2 => ?_⟩
  rw [tx_len, ← Int.natCast_emod, ← Int.natCast_ediv]
  refine ⟨_, _, rfl, sq upd_same, rfl, _, _, rfl, _, _, rfl, rfl, ?_⟩
  have E2 : Ext H (upd H1 t2 (.tup [.int ((e / p.length : Nat) : Int), .int ((e % p.length : Nat) : Int)])) := E1.trans (Ext.upd ht2)
  generalize upd H1 t2 (.tup [.int ((e / p.length : Nat) : Int), .int ((e % p.length : Nat) : Int)]) = H2 at E2 ⊢
  have fr : ∀ {H' : Hp} {a : Addr}, Ext H H' → H' a = none → H a = none := fun {H' a} x y => by
    cases c : H a with
    | none => rfl
    | some o => rw [x _ _ c] at y; cases y
  refine ⟨_, rfl, _, rfl, rfl, _, rfl, ?_⟩
  refine ifb (fun c => ?_) (fun c => ?_)
  · have hc : b / p.length = e / p.length := by
      have := V.int.inj (of_decide_eq_true c)
      omega
    refine ⟨_, rfl, _, rfl, _, rfl, _, rfl, _, rfl, _, rfl, hs, by exact sz2 (by simp), fun a1 ha1 => ⟨by exact sz2 (by simp), fun l hl => ?_⟩⟩
    rw [cut_tx (by omega) (by omega)] at hl ⊢
    have E3 := E2.trans (Ext.upd (o := .tup [.str (tx ((p.drop (b % p.length)).take (e % p.length - b % p.length))), .int 1]) ha1)
    have n1 : a1 ≠ l := fun z => by rw [← z, upd_same] at hl; cases hl
    refine q _ l _ (E3.trans (Ext.upd hl)) ⟨[.ref a1], upd_same, .cons ⟨a1, rfl, by rw [upd_ne n1, upd_same]; rfl⟩ .nil⟩ (fr E3 hl) (cut_one h0 hbe hc)
  · have hc : b / p.length ≠ e / p.length := fun z => by
      have := of_decide_eq_false c
      rw [z] at this
      exact this rfl
    obtain ⟨g1, g2⟩ := cut_more h0 hbe hc
    refine ⟨_, rfl, _, rfl, _, rfl, _, rfl, hs, by exact sz2 (by simp), fun a1 ha1 => ?_⟩
    rw [cut_txF (show b % p.length ≤ p.length by omega)]
    refine ⟨_, rfl, _, rfl, _, rfl, _, _, rfl, rfl, _, _, rfl, rfl, by exact sz2 (by simp), fun a2 ha2 => ?_⟩
    refine ⟨_, rfl, _, rfl, _, rfl, _, rfl, hs, by exact sz2 (by simp), fun a3 ha3 => ⟨by exact sz2 (by simp), fun l hl => ?_⟩⟩
    rw [cut_txT (by omega)] at hl ⊢
    have ek : ((e / p.length : Nat) : Int) - ((b / p.length : Nat) : Int) - 1 = ((e / p.length - b / p.length - 1 : Nat) : Int) := by omega
    dsimp only at ha2 ha3 hl ⊢
    rw [ek] at ha3 hl ⊢
    have n12 : a1 ≠ a2 := fun z => by rw [← z, upd_same] at ha2; cases ha2
    have n23 : a2 ≠ a3 := fun z => by rw [← z, upd_same] at ha3; cases ha3
    have n13 : a1 ≠ a3 := fun z => by rw [← z, upd_ne n12, upd_same] at ha3; cases ha3
    have n3l : a3 ≠ l := fun z => by rw [← z, upd_same] at hl; cases hl
    have n2l : a2 ≠ l := fun z => by rw [← z, upd_ne n23, upd_same] at hl; cases hl
    have n1l : a1 ≠ l := fun z => by rw [← z, upd_ne n13, upd_ne n12, upd_same] at hl; cases hl
    have E3 := ((E2.trans (Ext.upd ha1)).trans (Ext.upd ha2)).trans (Ext.upd (o := .tup [.str (tx (p.take (e % p.length))), .int 1]) ha3)
    refine q _ l _ (E3.trans (Ext.upd hl)) ⟨[.ref a1, .ref a2, .ref a3], upd_same, .cons ⟨a1, rfl, by rw [upd_ne n1l, upd_ne n13, upd_ne n12, upd_same]; rfl⟩ (.cons ⟨a2, rfl, by rw [upd_ne n2l, upd_ne n23, upd_same]⟩ (.cons ⟨a3, rfl, by rw [upd_ne n3l, upd_same]; rfl⟩ .nil))⟩ (fr E3 hl) g2
end
end OB
set_option Elab.async false
set_option linter.all false
set_option maxRecDepth 100000
set_option maxHeartbeats 4000000
namespace OB
open PySem PySem.Spec PySem.Calls PyProof.Rows L2 PySem.W StX
section
variable {P : Program} {w : World} {K : Frag} {mg : Str → Option Value} {base : Heap}
/- tidy: slots pairs=0 found=1 part=2 times=3 short=4 many=5 -/
theorem paired_snoc_inv {α β : Type} {R : α → β → Prop} : ∀ {xs : List α} {ys : List β} {y : β}, Paired R xs (ys ++ [y]) → ∃ xs0 x, xs = xs0 ++ [x] ∧ Paired R xs0 ys ∧ R x y
  | [], [], _, h => nomatch h
  | [], _ :: _, _, h => nomatch h
  | x :: xs, [], y, .cons r t => by
    cases t
    exact ⟨[], x, rfl, .nil, r⟩
  | x :: xs, b :: ys, y, .cons r t => by
    obtain ⟨xs0, z, e, p, q⟩ := paired_snoc_inv t
    exact ⟨x :: xs0, z, by rw [e]; rfl, .cons r p, q⟩
/-- no more pairs, no longer texts -/
def Less (ps' ps : Prs') : Prop := ps'.length ≤ ps.length ∧ ∀ B, Upto B ps → Upto B ps'
theorem Less.rfl' (ps : Prs') : Less ps ps := ⟨Nat.le_refl _, fun _ h => h⟩
theorem root_le {r t : List Nat} {k : Nat} (hr : pw r k = t) (ht : t ≠ []) : r.length ≤ t.length := by
  cases k with
  | zero => exact absurd hr.symm ht
  | succ k =>
    rw [← hr, pw_succ, List.length_append]
    exact Nat.le_add_right _ _
def sp_tidy (_ : Frag) : Sp := fun vs H Q _ => ∃ l ps, vs = [.ref l] ∧ IsPairs H l ps ∧ ps.length ≤ 100000 ∧ Upto 1000000 ps ∧ Abc ps ∧
  ∀ H' l' ps', Ext H H' → H l' = none → IsPairs H' l' ps' → den ps' = den ps → Good ps' → Less ps' ps → Q (.ref l') H'
/-- the pairs so far -/
structure TidyI (ps : Prs') (i : Nat) (qs : Prs') : Prop where
  den : den qs = den (ps.take i)
  norm : Norm qs
  up : Upto 1000000 qs
  abc : Abc qs
  len : qs.length ≤ i
  low : ∀ B, Upto B ps → Upto B qs
theorem all_snoc {P : List Nat × Nat → Prop} {qs : Prs'} {q : List Nat × Nat} (h : ∀ x ∈ qs, P x) (hq : P q) : ∀ x ∈ qs ++ [q], P x := fun x hx => by
  rcases List.mem_append.mp hx with hx | hx
  · exact h x hx
  · rw [List.mem_singleton.mp hx]; exact hq
theorem den_take {ps : Prs'} {i : Nat} {q : List Nat × Nat} (h : ps[i]? = some q) : den (ps.take (i + 1)) = den (ps.take i) ++ pw q.1 q.2 := by
  rw [take_more' h, den_append, ← den_one]
theorem TidyI.skip {ps qs : Prs'} {i : Nat} {q : List Nat × Nat} (I : TidyI ps i qs) (h : ps[i]? = some q) (hz : pw q.1 q.2 = []) : TidyI ps (i + 1) qs :=
  ⟨by rw [den_take h, hz, List.append_nil]; exact I.den, I.norm, I.up, I.abc, Nat.le_succ_of_le I.len, I.low⟩
theorem TidyI.more {ps qs : Prs'} {i n k : Nat} {t r : List Nat} (I : TidyI ps i qs) (h : ps[i]? = some (t, n)) (hr : pw r k = t) (hn : 0 < n) (ht : t ≠ []) (hu : r.length ≤ 1000000) (ha : ∀ c ∈ r, c ∈ abcd) : TidyI ps (i + 1) (qs ++ [(r, n * k)]) := by
  have r0 : r ≠ [] := fun z => by rw [z, pw_nil] at hr; exact ht hr.symm
  have k0 : 0 < k := by
    rcases Nat.eq_zero_or_pos k with z | z
    · rw [z, pw_zero] at hr; exact absurd hr.symm ht
    · exact z
  refine ⟨?_, all_snoc I.norm ⟨r0, Nat.mul_pos hn k0⟩, all_snoc I.up hu, all_snoc I.abc ha, by rw [List.length_append, List.length_singleton]; exact Nat.succ_le_succ I.len, fun B hB => all_snoc (I.low B hB) (Nat.le_trans (root_le hr ht) (hB (t, n) (List.mem_of_getElem? h)))⟩
  rw [den_append, den_take h, I.den, den_one]
  show _ = _ ++ pw t n
  rw [← hr, pw_mul, Nat.mul_comm]
theorem TidyI.join {ps qs : Prs'} {i n k m : Nat} {t r : List Nat} (I : TidyI ps i (qs ++ [(r, m)])) (h : ps[i]? = some (t, n)) (hr : pw r k = t) (hn : 0 < n) (ht : t ≠ []) : TidyI ps (i + 1) (qs ++ [(r, n * k + m)]) := by
  have hm := I.norm (r, m) (by simp)
  refine ⟨?_, all_snoc (fun x hx => I.norm x (by simp [hx])) ⟨hm.1, Nat.lt_of_lt_of_le hm.2 (Nat.le_add_left _ _)⟩, all_snoc (fun x hx => I.up x (by simp [hx])) (I.up (r, m) (by simp)), all_snoc (fun x hx => I.abc x (by simp [hx])) (I.abc (r, m) (by simp)), by have := I.len; simp at this ⊢; omega, fun B hB => all_snoc (fun x hx => I.low B hB x (by simp [hx])) (I.low B hB (r, m) (by simp))⟩
  have e := I.den
  rw [den_append, den_one] at e
  rw [den_append, den_take h, ← e, den_one, List.append_assoc]
  show _ = _ ++ (_ ++ pw t n)
  rw [← hr, pw_mul, Nat.add_comm, pw_add, Nat.mul_comm]
theorem dvd_take {d n : Nat} (hd : d ∣ n) (h1 : 1 ≤ d) (t : List Nat) (ht : t.length = n) (hle : d ≤ n) : t.length / (t.take d).length = n / d := by
  rw [List.length_take, ht, Nat.min_eq_left hle]
def N_tidy : List Str := ["pairs", "found", "part", "times", "short", "many"]
theorem sc_tidy : FnScope N_tidy ["pairs"] (defScope s_tidy) := ⟨rfl, rfl, rfl, by decide +kernel, rfl, by decide +kernel, by decide +kernel⟩
theorem ok_tidy (T : Txt K mg w) : FnR P w K mg base CX0 2 (He.ga K "tidy") (sp_tidy K) := by
  refine ok_of T.f_tidy sc_tidy (fun _ _ _ _ _ _ us hl => match us, hl with | [_], _ => rfl) (fun vs H Q E h => ?_) (fun cdv A outer s H vs Q E hr h => ?_)
  · repeat (first | (obtain ⟨rfl, _⟩ := h; rfl) | (obtain ⟨_, h⟩ := h))
  refine ⟨_, (pss_cons (ps_set (i := 1) sc_tidy.nd rfl (Or.inl rfl) (pe_lst pa_nil))
    (pss_cons (ps_for PassesOwn.never rfl (pi_list (pv 0)) (pg_tup rfl (pgs_cons (pg_name (i := 2) sc_tidy.nd rfl (Or.inl rfl)) (pgs_cons (pg_name (i := 3) sc_tidy.nd rfl (Or.inl rfl)) pgs_nil)))
      (pss_one (ps_if (PW.pt (pw_and (pt_cmpR op_ne (pv 2) pe_str (nomark _)) (pw_and1 (pt_cmpR op_gt (pv 3) pe_int (nomark _)))))
        (pss_cons (ps_set (i := 4) sc_tidy.nd rfl (Or.inl rfl) (pe_f (ok_root T) T.g_root (kp_of T.f_root) (hr.mono (by decide)) pass0 (pa_cons (pv 2) pa_nil)))
        (pss_cons (ps_set (i := 5) sc_tidy.nd rfl (Or.inl rfl) (pe_op op_mul (pv 3) (pe_op op_fdivW (pe_callB call_len_str (by rfl) T.z_len boot_len (pa_cons (pv 2) pa_nil)) (pe_callB call_len_str (by rfl) T.z_len boot_len (pa_cons (pv 4) pa_nil)))))
        (pss_cons (ps_if (PW.pt (pw_and (pt_cmpR (op_neD hr.units) (pv 1) (pe_lst pa_nil) (nomark _)) (pw_and1 (pt_cmpR op_eq (pe_ix ix_seq (pe_ix ix_list (pv 1) (pe_un un_neg pe_int) (fun _ _ => rfl)) pe_int (fun _ _ => rfl)) (pv 4) (nomark _)))))
          (pss_one (ps_set (i := 5) sc_tidy.nd rfl (Or.inl rfl) (pe_op op_add (pv 5) (pe_ix ix_seq (pe_bm0 PySem.F.plainAttrs_list PySem.F.slot_list_pop PySem.F.type_list_pop mt_pop (pv 1)) pe_int (fun _ _ => rfl)))))
          pss_nil)
        (pss_one (ps_expr (pe_bm PySem.F.plainAttrs_list PySem.F.slot_list_append PySem.F.type_list_append mt_append (pv 1) (pa_cons (pe_tup (pa_cons (pv 4) (pa_cons (pv 5) pa_nil))) pa_nil)))))))
        pss_nil)))
    (pss_one (ps_ret (pv 1))))), ?_⟩
  obtain ⟨l, ps, rfl, hP, hz, hU, hA, q⟩ := h
  have hP0 := hP
  obtain ⟨vs, hl, hPP⟩ := hP
  have hlen := paired_len hPP
  refine ⟨sz2 (by simp), fun f hf => ?_⟩
  have E0 : Ext H (upd H f (.lst [])) := Ext.upd hf
  refine ⟨_, rfl, _, rfl, ⟨_, sl (E0 _ _ hl)⟩, for_list (xs := vs) (fun i σ H' => ∃ x2 x3 x4 x5, σ = [some (.ref l), some (.ref f), x2, x3, x4, x5] ∧ Ext H H' ∧ ∃ qs, IsPairs H' f qs ∧ TidyI ps i qs) ⟨_, _, _, _, rfl, E0, [], .nil upd_same, ⟨by simp, (fun _ h => nomatch h), (fun _ h => nomatch h), (fun _ h => nomatch h), Nat.le_refl _, (fun _ _ _ h => nomatch h)⟩⟩
    (fun i σ H' _ ⟨_, _, _, _, _, e, _⟩ => sl (e _ _ hl)) ?_ ?_⟩
  · rintro i x σ H1 hi ⟨x2, x3, x4, x5, rfl, e1, qs, hQ, I⟩
    obtain ⟨⟨t, n⟩, hq, ⟨pa, rfl, hpa⟩⟩ := paired_at hPP hi
    have hpa1 : H1 pa = some (.tup [.str (tx t), .int (n : Int)]) := e1 _ _ hpa
    have hlt : i < ps.length := (List.getElem?_eq_some_iff.mp hq).1
    have ut : t.length ≤ 1000000 := hU (t, n) (List.mem_of_getElem? hq)
    have at_ : ∀ c ∈ t, c ∈ abcd := hA (t, n) (List.mem_of_getElem? hq)
    refine ⟨_, _, rfl, sq hpa1, rfl, _, _, rfl, _, _, rfl, rfl, ?_⟩
    refine ⟨_, rfl, rfl, _, rfl, ?_⟩
    refine ifb (fun c1 => ?_) (fun c1 => ?_)
    rotate_left
    · refine if_f rfl ⟨_, _, _, _, rfl, e1, qs, hQ, I.skip hq ?_⟩
      have et : t = [] := by
        have : (!decide (V.str (tx t) = V.str "")) = false := c1
        rw [emp_tx, Bool.not_eq_false', decide_eq_true_eq] at this
        exact tx_inj (V.str.inj this)
      show pw t n = []
      rw [et, pw_nil]
    have ht : t ≠ [] := fun z => by
      have : (!decide (V.str (tx t) = V.str "")) = true := c1
      rw [emp_tx, z, decide_eq_true rfl] at this
      cases this
    refine ⟨_, rfl, _, _, rfl, rfl, _, rfl, ?_⟩
    refine ifb (fun c2 => ?_) (fun c2 => ?_)
    rotate_left
    · refine ⟨_, _, _, _, rfl, e1, qs, hQ, I.skip hq ?_⟩
      have := of_decide_eq_false c2
      have : n = 0 := by omega
      show pw t n = []
      rw [this, pw_zero]
    have hn : 0 < n := by have := of_decide_eq_true c2; omega
    refine ⟨_, rfl, t, rfl, ht, by omega, fun d d1 d2 d3 d4 => ?_⟩
    have hd : (t.take d).length = d := by rw [List.length_take]; omega
    refine ⟨_, rfl, _, rfl, _, rfl, Nat.le_trans (by rw [tx_len]; omega) sizeBig, _, rfl, _, rfl, Nat.le_trans (by rw [tx_len]; omega) sizeBig, _, _, rfl, rfl, wide_div (b := 64) (by rw [tx_len]; omega) (by rw [tx_len, Int.natAbs_natCast]; exact Nat.lt_of_le_of_lt (by omega : _ ≤ 1000000) (by decide)) (by decide) (by decide), ?_⟩
    dsimp only
    rw [tx_len, tx_len, hd, ed_nat]
    have hk : t.length / d ≤ 1000000 := Nat.le_trans (Nat.div_le_self _ _) ut
    have d4' := d4
    generalize t.length / d = k at hk d4'
    refine ⟨_, _, rfl, rfl, .inr ⟨by omega, by omega⟩, ?_⟩
    dsimp only
    rw [mu_nat]
    have hru : (t.take d).length ≤ 1000000 := by omega
    have hra : ∀ c ∈ t.take d, c ∈ abcd := fun c hc => at_ c (List.mem_of_mem_take hc)
    -- found != []
    obtain ⟨ds, dp1, dp2, dp3⟩ := hQ.dp (K := K) I.abc
    refine ⟨_, rfl, sz2 (by simp), fun g hg => ?_⟩
    have E2 : Ext H1 (upd H1 g (.lst [])) := Ext.upd hg
    have hQ2 := hQ.mono E2
    obtain ⟨ds2, dq1, dq2, dq3⟩ := hQ2.dp (K := K) I.abc
    refine ⟨.list ds2, .list [], dq1, .lst (sl upd_same) .nil, dq3, rfl, _, rfl, ?_⟩
    have e2 := e1.trans E2
    generalize upd H1 g (.lst []) = H2 at hQ2 e2 dq1
    rcases List.eq_nil_or_concat qs with z | ⟨qs0, ⟨r0, m0⟩, z⟩
    · subst z
      have z2 : ds2 = [] := List.eq_nil_of_length_eq_zero dq2
      subst z2
      refine if_f rfl (if_f rfl ?_)
      obtain ⟨us, hus, hul⟩ := hQ2.len
      refine ⟨_, rfl, tyL hus, _, rfl, _, rfl, sz2 (by simp), fun p hp => ?_⟩
      have E4 := Ext.upd (o := .tup [.str (tx (t.take d)), .int ((n * k : Nat) : Int)]) hp
      obtain ⟨us', hus', hul', hsn⟩ := (hQ2.mono E4).snoc (q := (t.take d, n * k)) upd_same
      have eus : us' = us := HO.lst.inj (Option.some.inj (hus'.symm.trans (E4 _ _ hus)))
      subst eus
      refine ⟨_, _, _, rfl, rfl, hus', Nat.lt_of_lt_of_le (by have h1 := I.len; have h3 := hul'; (try simp only [List.length_append, List.length_cons, List.length_nil] at h1); (try simp only [List.length_append, List.length_cons, List.length_nil] at h3); omega) sizeBig, _, _, _, _, rfl, ?_, _, hsn, I.more hq d4' hn ht hru hra⟩
      exact fun b o hb => by
        have nb : b ≠ f := fun z => by rw [z, hf] at hb; cases hb
        rw [upd_ne nb]
        exact E4 _ _ (e2 _ _ hb)
    · have z' : qs = qs0 ++ [(r0, m0)] := by rw [z, List.concat_eq_append]
      subst z'
      obtain ⟨y, ys, ez⟩ : ∃ y ys, ds2 = y :: ys := by
        cases ds2 with
        | nil => simp at dq2
        | cons y ys => exact ⟨y, ys, rfl⟩
      subst ez
      refine if_t rfl ?_
      have hQ3 := hQ2
      obtain ⟨vs2, hv2, hp2⟩ := hQ3
      obtain ⟨vs0, x0, ev, hp0, ⟨ap, eap, hap⟩⟩ := paired_snoc_inv hp2
      subst ev eap
      refine ⟨_, rfl, _, rfl, _, _, -1, _, rfl, rfl, sl hv2, atI_last _ _, .inr (.inl ⟨_, _, 0, _, rfl, rfl, sq hap, atI_nat (j := 0) rfl, _, rfl, rfl, _, rfl, ?_⟩)⟩
      refine ifb (fun c3 => ?_) (fun c3 => ?_)
      · have er : r0 = t.take d := tx_inj (V.str.inj (of_decide_eq_true c3))
        subst er
        have nf : ap ≠ f := ne_of_at hap hv2 (fun z => by cases z)
        refine ⟨_, rfl, _, rfl, tyL hv2, _, _, _, rfl, rfl, hv2, (by rw [List.length_append, List.length_singleton, Nat.add_sub_cancel]; exact List.getElem?_concat_length), ?_⟩
        refine .inr (.inl ⟨_, _, 1, _, rfl, rfl, sq (by rw [upd_ne nf]; exact hap), atI_nat (j := 1) rfl, _, _, rfl, rfl, ?_⟩)
        dsimp only
        rw [ad_nat]
        have t3 : TK H2 (upd H2 f (.lst (vs0 ++ [V.ref ap]).dropLast)) := fun a xs hx => by rw [upd_ne (ne_of_at hx hv2 (fun z => by cases z))]; exact hx
        have hQ4 : IsPairs (upd H2 f (.lst (vs0 ++ [V.ref ap]).dropLast)) f qs0 := ⟨vs0, by rw [upd_same, List.dropLast_concat], paired_mono (fun _ _ z => IsPair.mono t3 z) hp0⟩
        have e3 : Ext H (upd H2 f (.lst (vs0 ++ [V.ref ap]).dropLast)) := fun b o hb => by
          have nb : b ≠ f := fun z => by rw [z, hf] at hb; cases hb
          rw [upd_ne nb]
          exact e2 _ _ hb
        generalize upd H2 f (.lst (vs0 ++ [V.ref ap]).dropLast) = H3 at hQ4 e3 ⊢
        obtain ⟨us, hus, hul⟩ := hQ4.len
        refine ⟨_, rfl, tyL hus, _, rfl, _, rfl, sz2 (by simp), fun p hp => ?_⟩
        have E4 := Ext.upd (o := .tup [.str (tx (t.take d)), .int ((n * k + m0 : Nat) : Int)]) hp
        obtain ⟨us', hus', hul', hsn⟩ := (hQ4.mono E4).snoc (q := (t.take d, n * k + m0)) upd_same
        have eus : us' = us := HO.lst.inj (Option.some.inj (hus'.symm.trans (E4 _ _ hus)))
        subst eus
        refine ⟨_, _, _, rfl, rfl, hus', Nat.lt_of_lt_of_le (by have h1 := I.len; have h3 := hul'; (try simp only [List.length_append, List.length_cons, List.length_nil] at h1); (try simp only [List.length_append, List.length_cons, List.length_nil] at h3); omega) sizeBig, _, _, _, _, rfl, ?_, _, hsn, I.join hq d4' hn ht⟩
        exact fun b o hb => by
          have nb : b ≠ f := fun z => by rw [z, hf] at hb; cases hb
          rw [upd_ne nb]
          exact E4 _ _ (e3 _ _ hb)
      · refine (fun z => z) ?_
        obtain ⟨us, hus, hul⟩ := hQ2.len
        refine ⟨_, rfl, tyL hus, _, rfl, _, rfl, sz2 (by simp), fun p hp => ?_⟩
        have E4 := Ext.upd (o := .tup [.str (tx (t.take d)), .int ((n * k : Nat) : Int)]) hp
        obtain ⟨us', hus', hul', hsn⟩ := (hQ2.mono E4).snoc (q := (t.take d, n * k)) upd_same
        have eus : us' = us := HO.lst.inj (Option.some.inj (hus'.symm.trans (E4 _ _ hus)))
        subst eus
        refine ⟨_, _, _, rfl, rfl, hus', Nat.lt_of_lt_of_le (by have h1 := I.len; have h3 := hul'; (try simp only [List.length_append, List.length_cons, List.length_nil] at h1); (try simp only [List.length_append, List.length_cons, List.length_nil] at h3); omega) sizeBig, _, _, _, _, rfl, ?_, _, hsn, I.more hq d4' hn ht hru hra⟩
        exact fun b o hb => by
          have nb : b ≠ f := fun z => by rw [z, hf] at hb; cases hb
          rw [upd_ne nb]
          exact E4 _ _ (e2 _ _ hb)
  · rintro σ H1 ⟨_, _, _, _, rfl, e1, qs, hQ, I⟩
    have id := I.den
    rw [hlen, List.take_length] at id
    exact ⟨_, rfl, q H1 f qs e1 hf hQ id ⟨I.norm, I.up, I.abc, by have := I.len; omega⟩ ⟨by have := I.len; omega, I.low⟩⟩
end
end OB
set_option Elab.async false
set_option linter.all false
set_option maxRecDepth 100000
set_option maxHeartbeats 4000000
namespace OB
open PySem PySem.Spec PySem.Calls PyProof.Rows L2 PySem.W StX
section
variable {P : Program} {w : World} {K : Frag} {mg : Str → Option Value} {base : Heap}
/- Runs.__init__: slots self=0 pairs=1 -/
def sp_Runs_init (K : Frag) : Sp := fun vs H Q _ => ∃ p dx l ps, vs = [.ref p, .ref l] ∧ H p = some (.ins (He.ga K "Runs") dx []) ∧ IsPairs H l ps ∧ ps.length ≤ 100000 ∧ Upto 1000000 ps ∧ Abc ps ∧
  ∀ H' l' ps', Kp [p] H H' → H' p = some (.ins (He.ga K "Runs") dx (uF (.ref l'))) → IsPairs H' l' ps' → den ps' = den ps → Good ps' → Less ps' ps → H l' = none → Q .non H'
theorem IsPairs.put {H : Hp} {l p : Addr} {ps : Prs'} {o : HO} (h : IsPairs H l ps) (hp : l ≠ p) (ht : ∀ xs, H p ≠ some (.tup xs)) : IsPairs (upd H p o) l ps :=
  h.keep (fun a xs hx => by rw [upd_ne (fun z => by rw [z] at hx; exact ht xs hx)]; exact hx) (upd_ne hp)
theorem IsPairs.ne_ins {H : Hp} {l p C dx : Addr} {fs : List (Str × V)} {ps : Prs'} (h : IsPairs H l ps) (hp : H p = some (.ins C dx fs)) : l ≠ p := by
  obtain ⟨vs, e, _⟩ := h
  exact ne_of_at e hp (fun z => by cases z)
def N_Runs_init : List Str := ["self", "pairs"]
theorem sc_Runs_init : FnScope N_Runs_init ["self", "pairs"] (defScope s_Runs_init) := ⟨rfl, rfl, rfl, by decide +kernel, rfl, by decide +kernel, by decide +kernel⟩
theorem ok_Runs_init (T : Txt K mg w) : FnR P w K mg base CX0 3 (He.ma K (He.ga K "Runs") "__init__") (sp_Runs_init K) := by
  refine ok_of T.f_Runs_init sc_Runs_init (fun _ _ _ _ _ _ us hl => match us, hl with | [_, _], _ => rfl) (fun vs H Q E h => ?_) (fun cdv A outer s H vs Q E hr h => ?_)
  · repeat (first | (obtain ⟨rfl, _⟩ := h; rfl) | (obtain ⟨_, h⟩ := h))
  refine ⟨_, (pss_one (ps_fld (pv 0) (pe_f (ok_tidy T) T.g_tidy (kp_of T.f_tidy) (hr.mono (by decide)) pass0 (pa_cons (pv 1) pa_nil)) rfl)), ?_⟩
  obtain ⟨p, dx, l, ps, rfl, hp, hP, hz, hU, hA, q⟩ := h
  refine ⟨_, rfl, l, ps, rfl, hP, hz, hU, hA, fun H1 l' ps' e1 hl' hP' hd hg hln => ?_⟩
  have hp1 := e1 _ _ hp
  refine ⟨_, rfl, _, _, _, _, rfl, hp1, T.c_Runs, T.n_Runs_tidied, by show 0 < 1000; decide, ?_⟩
  rw [uF_new0]
  exact q _ l' ps' ((Kp.of e1).trans (Kp.put (List.mem_singleton.mpr rfl))) upd_same (hP'.put (hP'.ne_ins hp1) (fun xs z => by rw [hp1] at z; cases z)) hd hg hln hl'
/- Repeats.__init__: slots self=0 pairs=1 pair=2 -/
/-- what Repeats takes -/
def RepArg (K : Frag) (H : Hp) (v : V) (ps : Prs') : Prop := IsRuns K H v ps ∨ ∃ l, v = .ref l ∧ IsPairs H l ps ∧ ps.length ≤ 50 ∧ ∀ q ∈ ps, OkPair q
def sp_Repeats_init (K : Frag) : Sp := fun vs H Q _ => ∃ p dx v ps, vs = [.ref p, v] ∧ H p = some (.ins (He.ga K "Repeats") dx []) ∧ RepArg K H v ps ∧
  ∀ H' l' ps', Kp [p] H H' → H' p = some (.ins (He.ga K "Repeats") dx (rF (.ref l'))) → IsPairs H' l' ps' → den ps' = den ps → Good ps' → Less ps' ps → (H l' = none ∨ ∃ b dy, v = .ref b ∧ H b = some (.ins (He.ga K "Runs") dy (uF (.ref l')))) → Q .non H'
def N_Repeats_init : List Str := ["self", "pairs", "pair"]
theorem sc_Repeats_init : FnScope N_Repeats_init ["self", "pairs"] (defScope s_Repeats_init) := ⟨rfl, rfl, rfl, by decide +kernel, rfl, by decide +kernel, by decide +kernel⟩
theorem ok_Repeats_init (T : Txt K mg w) : FnR P w K mg base CX0 3 (He.ma K (He.ga K "Repeats") "__init__") (sp_Repeats_init K) := by
  refine ok_of T.f_Repeats_init sc_Repeats_init (fun _ _ _ _ _ _ us hl => match us, hl with | [_, _], _ => rfl) (fun vs H Q E h => ?_) (fun cdv A outer s H vs Q E hr h => ?_)
  · repeat (first | (obtain ⟨rfl, _⟩ := h; rfl) | (obtain ⟨_, h⟩ := h))
  refine ⟨_, (pss_cons (ps_if (pt_val (pe_callB call_isi (by rfl) T.z_isinstance boot_isinstance (pa_cons (pv 1) (pa_cons (pe_gr T.g_Runs) pa_nil))))
      (pss_cons (ps_fld (pv 0) (pe_fld (pv 1) rfl) rfl)
      (pss_one ps_retN))
      pss_nil)
    (pss_cons (ps_if (PW.pt (pw_or (pt_not (pt_val (pe_callB call_isi (by rfl) T.z_isinstance boot_isinstance (pa_cons (pv 1) (pa_cons (pe_ty T.z_list boot_list) pa_nil))))) (pw_or (pt_cmpR op_gt (pe_callB call_len_seq (by rfl) T.z_len boot_len (pa_cons (pv 1) pa_nil)) (pe_gi T.g_MOST_PAIRS) (nomark _)) (pw_or1 (pt_not (pt_val (pe_callB (cr_all rfl) (by rfl) T.z_all boot_all (pa_cons (pe_lc (own := [("pair", 2)]) rfl sc_Repeats_init.nd (pi_list (pv 1)) (blkOk_by (own := [("pair", 2)]) (N := N_Repeats_init) (sc := defScope s_Repeats_init) (by decide +kernel)) (fun _ _ _ _ _ => (pg_name (i := 2) sc_Repeats_init.nd rfl (Or.inl rfl))) (fun _ _ _ _ _ => pts_nil) (fun _ _ _ _ _ => (pe_f (ok_is_pair T) T.g_is_pair (kp_of T.f_is_pair) (hr.mono (by decide)) pass0 (pa_cons (pv 2) pa_nil)))) pa_nil))))))))
      (pss_one ps_never)
      pss_nil)
    (pss_one (ps_fld (pv 0) (pe_f (ok_tidy T) T.g_tidy (kp_of T.f_tidy) (hr.mono (by decide)) pass0 (pa_cons (pv 1) pa_nil)) rfl)))), ?_⟩
  obtain ⟨p, dx, v, ps, rfl, hp, hR, q⟩ := h
  rcases hR with ⟨a, dy, l, rfl, ha, hP, hG⟩ | ⟨l, rfl, hP, h50, hO⟩
  · refine ⟨_, rfl, _, _, _, _, true, rfl, .own _, .base (.ins ha T.c_Runs T.ucls T.cget T.ctak T.umro), T.kit_uu, true, rfl, if_t rfl ?_⟩
    refine ⟨_, rfl, _, _, _, _, _, rfl, ha, T.c_Runs, T.n_Runs_tidied, uF_tidied _, _, rfl, _, _, _, _, rfl, hp, T.c_Repeats, T.n_Repeats_runs, by show 0 < 1000; decide, ?_⟩
    rw [rF_new0]
    exact q _ l ps (Kp.put (List.mem_singleton.mpr rfl)) upd_same (hP.put (hP.ne_ins hp) (fun xs z => by rw [hp] at z; cases z)) rfl hG (.rfl' _) (.inr ⟨a, dy, rfl, ha⟩)
  · obtain ⟨vs, hl, hPP⟩ := id hP
    have hlen := paired_len hPP
    refine ⟨_, rfl, _, _, _, _, false, rfl, .own _, .base (.lst hl), T.kit_lu, false, rfl, if_f rfl ?_⟩
    refine ⟨_, rfl, _, _, _, _, true, rfl, .ty "list", .base (.lst hl), kit_ty (by decide +kernel), _, rfl, if_f rfl ?_⟩
    refine ⟨_, rfl, _, _, rfl, .inl (sl hl), _, _, rfl, rfl, _, rfl, if_f (decide_eq_false (by omega)) ?_⟩
    refine ⟨_, rfl, _, rfl, ⟨_, sl hl⟩, fun D hD => ?_⟩
    refine lc_fm vs (fun _ => true) (fun _ => V.bl true) walk_list (Nat.lt_of_lt_of_le (by omega) sizeBig) hD (fun H1 e => sl (e _ _ hl)) (gm_name 2) (fun i x y Ha Hb hi e1 ⟨e2, hc⟩ => ?_) (fun H1 e1 d => ?_)
    · subst e2
      rw [hi] at hc
      cases hc
      obtain ⟨r, hr1, hr2⟩ := paired_at hPP hi
      exact ⟨rfl, Ext.rfl', tY rfl, fun _ H3 e3 Q3 q3 => ⟨_, rfl, x, r, rfl, hr2.mono (Ext.tk (e1.trans e3)), hO r (List.mem_of_getElem? hr1), q3⟩⟩
    · refine ⟨_, vs.map fun _ => true, rfl, sl (by rw [d, filter_tt, List.map_map]; rfl), ?_⟩
      rw [all_tt]
      refine ⟨_, rfl, if_f rfl ?_⟩
      refine ⟨_, rfl, l, ps, rfl, hP.mono e1, by omega, fun q hq => by have := (hO q hq).2.1; omega, fun q hq => (hO q hq).1, fun H2 l' ps' e2 hl' hP' hd hg hln => ?_⟩
      have hp1 := (e1.trans e2) _ _ hp
      refine ⟨_, rfl, _, _, _, _, rfl, hp1, T.c_Repeats, T.n_Repeats_runs, by show 0 < 1000; decide, ?_⟩
      rw [rF_new0]
      exact q _ l' ps' ((Kp.of (e1.trans e2)).trans (Kp.put (List.mem_singleton.mpr rfl))) upd_same (hP'.put (hP'.ne_ins hp1) (fun xs z => by rw [hp1] at z; cases z)) hd hg hln (.inl (by
        cases c : H l' with
        | none => rfl
        | some o => rw [e1 _ _ c] at hl'; cases hl'))
/-! ### making -/
section
variable {H1 H2 : Hp} {x dx : Addr} {u o : HO}
theorem ext_made (h1 : H1 x = none) (h2 : H1 dx = none) : Ext H1 (upd (upd H1 dx u) x o) := fun b w e => by
  rw [upd_ne (fun z => by rw [z, h1] at e; cases e), upd_ne (fun z => by rw [z, h2] at e; cases e)]
  exact e
theorem kp_made (h1 : H1 x = none) (h2 : H1 dx = none) (k : Kp [x] (upd (upd H1 dx u) x o) H2) : Ext H1 H2 := fun b w e => k b w (ext_made h1 h2 b w e) (fun z => by rw [List.mem_singleton.mp z, h1] at e; cases e)
end
/-- pairs, one behind another, with their values -/
theorem walk_pairs {l : Addr} {vs : List V} {α : Type} {ps : List α} {R : V → α → Prop} (hP : Paired R vs ps) : Walk (Itl K l) ps.length (fun H => SqL K H l vs) (fun i H x H' => H' = H ∧ ∃ q, ps[i]? = some q ∧ R x q) := by
  have w := walk_list (K := K) (a := l) (xs := vs)
  rw [paired_len hP] at w
  exact w.mono (fun _ h => h) fun i H x H' _ _ ⟨h1, h2⟩ => by
    obtain ⟨q, hq1, hq2⟩ := paired_at hP h2
    exact ⟨h1, q, hq1, hq2⟩
/- Repeats.once: slots cls=0 text=1 -/
def sp_Repeats_once (K : Frag) : Sp := fun vs H Q _ => ∃ t, vs = [.ref (He.ga K "Repeats"), .str (tx t)] ∧ (∀ c ∈ t, c ∈ abcd) ∧ t.length ≤ 4000 ∧ ∀ H' v ps, Ext H H' → IsRep K H' v ps → den ps = t → ps.length ≤ 1 → Q v H'
def N_Repeats_once : List Str := ["cls", "text"]
theorem sc_Repeats_once : FnScope N_Repeats_once ["cls", "text"] (defScope s_Repeats_once) := ⟨rfl, rfl, rfl, by decide +kernel, rfl, by decide +kernel, by decide +kernel⟩
theorem ok_Repeats_once (T : Txt K mg w) : FnR P w K mg base CX0 5 (He5.wf K (He.ga K "Repeats") "classmethod" "once") (sp_Repeats_once K) := by
  refine ok_of T.f_Repeats_once sc_Repeats_once (fun _ _ _ _ _ _ us hl => match us, hl with | [_, _], _ => rfl) (fun vs H Q E h => ?_) (fun cdv A outer s H vs Q E hr h => ?_)
  · repeat (first | (obtain ⟨rfl, _⟩ := h; rfl) | (obtain ⟨_, h⟩ := h))
  refine ⟨_, (pss_cons (ps_if (pt_not (pt_val (pe_f (ok_is_text T) T.g_is_text (kp_of T.f_is_text) (hr.mono (by decide)) pass0 (pa_cons (pv 1) pa_nil))))
      (pss_one ps_never)
      pss_nil)
    (pss_one (ps_ret (pe_mkL (i := 0) (ok_Repeats_init T) T.m_Repeats (hr.mono (by decide)) rfl (Or.inl rfl) pass0 (pa_cons (pe_mk (ok_Runs_init T) T.m_Runs T.g_Runs (hr.mono (by decide)) pass0 (pa_cons (pe_lst (pa_cons (pe_tup (pa_cons (pv 1) (pa_cons pe_int pa_nil))) pa_nil)) pa_nil)) pa_nil))))), ?_⟩
  obtain ⟨t, rfl, ha, hz, q⟩ := h
  refine ⟨_, rfl, t, rfl, ha, hz, fun H1 e1 => ⟨_, rfl, if_f rfl ?_⟩⟩
  refine ⟨rfl, _, rfl, sz2 (by simp), fun p hp => ⟨sz2 (by simp), fun l hl => ?_⟩⟩
  have npl : p ≠ l := fun z => by rw [← z, upd_same] at hl; cases hl
  have E2 := (Ext.upd hp).trans (Ext.upd (o := .lst [.ref p]) hl)
  have hP : IsPairs (upd (upd H1 p (.tup [.str (tx t), .int 1])) l (.lst [.ref p])) l [(t, 1)] := ⟨[.ref p], upd_same, .cons ⟨p, rfl, by rw [upd_ne npl, upd_same]; rfl⟩ .nil⟩
  intro x1 dx1 n1 n2 n3
  refine ⟨x1, dx1, l, _, rfl, upd_same, hP.mono (ext_made n1 n2), (by simp), (fun q hq => by rw [List.mem_singleton.mp hq]; show t.length ≤ _; omega), (fun q hq => by rw [List.mem_singleton.mp hq]; exact ha), fun H2 l2 ps k2 hx2 hP2' hd hg2 hn2 _ => ⟨rfl, ?_⟩⟩
  have e2 := kp_made n1 n2 k2
  have hR : IsRuns K H2 (.ref x1) ps := ⟨x1, dx1, l2, rfl, hx2, hP2', hg2⟩
  intro x2 dx2 n4 n5 n6
  refine ⟨x2, dx2, .ref x1, _, rfl, upd_same, .inl (hR.mono (ext_made n4 n5)), fun H3 l3 ps' k3 hx3 hP3 hd' hg3 hn3 _ => ⟨rfl, ?_⟩⟩
  have e3 := kp_made n4 n5 k3
  have hR' : IsRep K H3 (.ref x2) ps' := ⟨x2, dx2, l3, rfl, hx3, hP3, hg3⟩
  exact q H3 _ ps' (e1.trans (E2.trans (e2.trans e3))) hR' (by rw [hd', hd, den_one, pw_one]) (Nat.le_trans hn3.1 hn2.1)
/- Repeats.length: slots self=0 part=1 times=2 -/
def sp_Repeats_length (K : Frag) : Sp := fun vs H Q _ => ∃ v ps, vs = [v] ∧ IsRep K H v ps ∧ ∀ H', Ext H H' → Q (.int (lenP ps : Nat)) H'
theorem lenP_sum (ps : Prs') : ((ps.map fun q => ((q.1.length * q.2 : Nat) : Int)).sum) = (lenP ps : Nat) := by
  induction ps with
  | nil => rfl
  | cons q r ih =>
    rw [List.map_cons, List.sum_cons, ih]
    show _ = ((q.1.length * q.2 + lenP r : Nat) : Int)
    rw [Int.natCast_add]
def N_Repeats_length : List Str := ["self", "part", "times"]
theorem sc_Repeats_length : FnScope N_Repeats_length ["self"] (defScope s_Repeats_length) := ⟨rfl, rfl, rfl, by decide +kernel, rfl, by decide +kernel, by decide +kernel⟩
theorem ok_Repeats_length (T : Txt K mg w) : FnR P w K mg base CX0 1 (pg K (He.ga K "Repeats") "length") (sp_Repeats_length K) := by
  refine ok_of T.f_Repeats_length sc_Repeats_length (fun _ _ _ _ _ _ us hl => match us, hl with | [_], _ => rfl) (fun vs H Q E h => ?_) (fun cdv A outer s H vs Q E hr h => ?_)
  · repeat (first | (obtain ⟨rfl, _⟩ := h; rfl) | (obtain ⟨_, h⟩ := h))
  refine ⟨_, (pss_one (ps_ret (pe_callB (cr_sum rfl) (by rfl) T.z_sum boot_sum (pa_cons (pe_lc (own := [("part", 1), ("times", 2)]) rfl sc_Repeats_length.nd (pi_list (pe_fld (pv 0) rfl)) (blkOk_by (own := [("part", 1), ("times", 2)]) (N := N_Repeats_length) (sc := defScope s_Repeats_length) (by decide +kernel)) (fun _ _ _ _ _ => (show PG _ _ (gTup K 2 _) from pg_tup rfl (pgs_cons (pg_name (i := 1) sc_Repeats_length.nd rfl (Or.inl rfl)) (pgs_cons (pg_name (i := 2) sc_Repeats_length.nd rfl (Or.inl rfl)) pgs_nil)))) (fun _ _ _ _ _ => pts_nil) (fun _ _ _ _ _ => (pe_op op_mul (pe_callB call_len_str (by rfl) T.z_len boot_len (pa_cons (pv 1) pa_nil)) (pv 2)))) pa_nil)))), ?_⟩
  obtain ⟨v, ps, rfl, ⟨a, dx, l, rfl, ha, ⟨vs, hl, hPP⟩, hG⟩, q⟩ := h
  have hf := hG.few
  refine ⟨_, rfl, _, _, _, _, _, rfl, ha, T.c_Repeats, T.n_Repeats_runs, rF_runs _, _, rfl, ⟨_, sl hl⟩, fun D hD => ?_⟩
  refine lc_fm ps (fun _ => true) (fun q => V.int ((q.1.length * q.2 : Nat) : Int)) (walk_pairs hPP) (Nat.lt_of_lt_of_le (by omega) sizeBig) hD (fun H1 e => sl (e _ _ hl)) (gm_tup2 1 2) (fun i x y Ha Hb hi e1 ⟨e2, q', hc, hr⟩ => ?_) (fun H1 e1 d => ?_)
  · subst e2
    rw [hi] at hc
    cases hc
    obtain ⟨pa, rfl, hpa⟩ := hr
    have hu := hG.up x (List.mem_of_getElem? hi)
    refine ⟨pa, _, rfl, sq (e1 _ _ hpa), rfl, _, _, rfl, _, _, rfl, rfl, rfl, Ext.rfl', tY rfl, fun _ H3 e3 Q3 q3 => ?_⟩
    refine ⟨_, rfl, _, rfl, Nat.le_trans (by rw [tx_len]; omega) sizeBig, _, rfl, _, _, rfl, rfl, .inl ⟨by omega, by rw [tx_len]; omega⟩, ?_⟩
    dsimp only
    rw [tx_len, mu_nat]
    exact q3 _ Ext.rfl'
  · refine ⟨_, ps.map fun q => ((q.1.length * q.2 : Nat) : Int), rfl, sl (by rw [d, filter_tt, List.map_map]; rfl), ?_⟩
    rw [lenP_sum]
    exact q H1 e1
/- Repeats.to_text: slots self=0 part=1 times=2 -/
def sp_Repeats_to_text (K : Frag) : Sp := fun vs H Q _ => ∃ v ps, vs = [v] ∧ IsRep K H v ps ∧ lenP ps ≤ 2000 ∧ ∀ H', Ext H H' → Q (.str (tx (den ps))) H'
theorem den_flat (ps : Prs') : (ps.map fun q => pw q.1 q.2).flatten = den ps := by
  induction ps with
  | nil => rfl
  | cons q r ih => rw [List.map_cons, List.flatten_cons, ih]; rfl
theorem lenP_mem {ps : Prs'} {q : List Nat × Nat} (h : q ∈ ps) : q.1.length * q.2 ≤ lenP ps := by
  induction ps with
  | nil => cases h
  | cons x r ih =>
    show _ ≤ x.1.length * x.2 + lenP r
    rcases List.mem_cons.mp h with e | h
    · rw [e]; omega
    · have := ih h; omega
def N_Repeats_to_text : List Str := ["self", "part", "times"]
theorem sc_Repeats_to_text : FnScope N_Repeats_to_text ["self"] (defScope s_Repeats_to_text) := ⟨rfl, rfl, rfl, by decide +kernel, rfl, by decide +kernel, by decide +kernel⟩
theorem ok_Repeats_to_text (T : Txt K mg w) : FnR P w K mg base CX0 3 (He.ma K (He.ga K "Repeats") "to_text") (sp_Repeats_to_text K) := by
  refine ok_of T.f_Repeats_to_text sc_Repeats_to_text (fun _ _ _ _ _ _ us hl => match us, hl with | [_], _ => rfl) (fun vs H Q E h => ?_) (fun cdv A outer s H vs Q E hr h => ?_)
  · repeat (first | (obtain ⟨rfl, _⟩ := h; rfl) | (obtain ⟨_, h⟩ := h))
  refine ⟨_, (pss_cons (ps_if (pt_cmpR op_gt (pe_prR (ok_Repeats_length T) T.c_Repeats T.p_Repeats_length (hr.mono (by decide)) pass0 (pv 0)) (pe_gi T.g_LONGEST_TEXT) (nomark _))
      (pss_one ps_never)
      pss_nil)
    (pss_one (ps_ret (pe_join pe_str (pe_lc (own := [("part", 1), ("times", 2)]) rfl sc_Repeats_to_text.nd (pi_list (pe_fld (pv 0) rfl)) (blkOk_by (own := [("part", 1), ("times", 2)]) (N := N_Repeats_to_text) (sc := defScope s_Repeats_to_text) (by decide +kernel)) (fun _ _ _ _ _ => (show PG _ _ (gTup K 2 _) from pg_tup rfl (pgs_cons (pg_name (i := 1) sc_Repeats_to_text.nd rfl (Or.inl rfl)) (pgs_cons (pg_name (i := 2) sc_Repeats_to_text.nd rfl (Or.inl rfl)) pgs_nil)))) (fun _ _ _ _ _ => pts_nil) (fun _ _ _ _ _ => (pe_op op_repS (pv 1) (pv 2)))))))), ?_⟩
  obtain ⟨v, ps, rfl, hR, hz, q⟩ := h
  have hR0 := hR
  obtain ⟨a, dx, l, rfl, ha, hP, hG⟩ := hR
  refine ⟨_, rfl, a, dx, _, rfl, ha, .ref a, ps, rfl, hR0, fun H1 e1 => ?_⟩
  refine ⟨_, _, rfl, rfl, _, rfl, if_f (decide_eq_false (by omega)) ?_⟩
  obtain ⟨vs, hl, hPP⟩ := hP.mono e1
  have hf := hG.few
  refine ⟨⟨_, rfl⟩, _, rfl, _, _, _, _, _, rfl, e1 _ _ ha, T.c_Repeats, T.n_Repeats_runs, rF_runs _, _, rfl, ⟨_, sl hl⟩, fun D hD => ?_⟩
  refine lc_fm ps (fun _ => true) (fun q => V.str (tx (pw q.1 q.2))) (walk_pairs hPP) (Nat.lt_of_lt_of_le (by omega) sizeBig) hD (fun H1 e => sl (e _ _ hl)) (gm_tup2 1 2) (fun i x y Ha Hb hi e2 ⟨e3, q', hc, hr⟩ => ?_) (fun H2 e2 d => ?_)
  · subst e3
    rw [hi] at hc
    cases hc
    obtain ⟨pa, rfl, hpa⟩ := hr
    have hx := List.mem_of_getElem? hi
    have hn := hG.norm x hx
    have hlm := lenP_mem hx
    have h1 : 1 ≤ x.1.length := List.length_pos_iff.mpr hn.1
    have h2 : x.2 ≤ x.1.length * x.2 := Nat.le_mul_of_pos_left _ h1
    refine ⟨pa, _, rfl, sq (e2 _ _ hpa), rfl, _, _, rfl, _, _, rfl, rfl, rfl, Ext.rfl', tY rfl, fun _ H3 e3 Q3 q3 => ?_⟩
    exact ⟨_, rfl, _, rfl, x.1, x.2, rfl, rfl, hn.2, by omega, by omega, q3 _ Ext.rfl'⟩
  · refine ⟨_, _, (ps.map fun q => pw q.1 q.2).map tx, rfl, rfl, .inl (sl (by rw [d, filter_tt, List.map_map, List.map_map]; rfl)), ?_, ?_⟩
    · rw [lens_tx, den_flat, den_len, emp_tx, tx_len, List.length_nil]
      omega
    · rw [emp_tx, join_tx, den_flat]
      exact q H2 (e1.trans e2)
/- Repeats.__add__: slots self=0 other=1 -/
def sp_Repeats_add (K : Frag) : Sp := fun vs H Q _ => ∃ v u ps qs, vs = [v, u] ∧ IsRep K H v ps ∧ IsRep K H u qs ∧ ps.length + qs.length ≤ 100000 ∧ ∀ H' v' rs, Ext H H' → IsRep K H' v' rs → den rs = den ps ++ den qs → rs.length ≤ ps.length + qs.length → Q v' H'
theorem paired_app {α β : Type} {R : α → β → Prop} : ∀ {xs : List α} {ys : List β} {zs : List α} {ws : List β}, Paired R xs ys → Paired R zs ws → Paired R (xs ++ zs) (ys ++ ws)
  | _, _, _, _, .nil, h => h
  | _, _, _, _, .cons r t, h => .cons r (paired_app t h)
def N_Repeats_add : List Str := ["self", "other"]
theorem sc_Repeats_add : FnScope N_Repeats_add ["self", "other"] (defScope s_Repeats_add) := ⟨rfl, rfl, rfl, by decide +kernel, rfl, by decide +kernel, by decide +kernel⟩
theorem ok_Repeats_add (T : Txt K mg w) : FnR P w K mg base CX0 5 (He.ma K (He.ga K "Repeats") "__add__") (sp_Repeats_add K) := by
  refine ok_of T.f_Repeats_add sc_Repeats_add (fun _ _ _ _ _ _ us hl => match us, hl with | [_, _], _ => rfl) (fun vs H Q E h => ?_) (fun cdv A outer s H vs Q E hr h => ?_)
  · repeat (first | (obtain ⟨rfl, _⟩ := h; rfl) | (obtain ⟨_, h⟩ := h))
  refine ⟨_, (pss_one (ps_ret (pe_mk (ok_Repeats_init T) T.m_Repeats T.g_Repeats (hr.mono (by decide)) pass0 (pa_cons (pe_mk (ok_Runs_init T) T.m_Runs T.g_Runs (hr.mono (by decide)) pass0 (pa_cons (pe_lst (StX.pa_star (pe_fld (pv 0) rfl) (StX.pa_star (pe_fld (pv 1) rfl) pa_nil))) pa_nil)) pa_nil)))), ?_⟩
  obtain ⟨v, u, ps, qs, rfl, ⟨a, dx, l, rfl, ha, ⟨vs, hl, hP⟩, hG⟩, ⟨b, dy, m, rfl, hb, ⟨ws, hm, hW⟩, hG2⟩, hz, q⟩ := h
  have l1 := paired_len hP
  have l2 := paired_len hW
  refine ⟨_, rfl, _, _, _, _, _, rfl, ha, T.c_Repeats, T.n_Repeats_runs, rF_runs _, _, _, rfl, .inr (sl hl), ?_⟩
  refine ⟨_, rfl, _, _, _, _, _, rfl, hb, T.c_Repeats, T.n_Repeats_runs, rF_runs _, _, _, rfl, .inr (sl hm), ?_⟩
  refine ⟨Nat.le_trans (by rw [List.append_nil, List.length_append]; omega) sizeBig, fun p hp => ?_⟩
  rw [List.append_nil]
  have E1 : Ext H (upd H p (.lst (vs ++ ws))) := Ext.upd hp
  have hPP : IsPairs (upd H p (.lst (vs ++ ws))) p (ps ++ qs) := ⟨_, upd_same, paired_app (paired_mono (fun _ _ z => IsPair.mono (Ext.tk E1) z) hP) (paired_mono (fun _ _ z => IsPair.mono (Ext.tk E1) z) hW)⟩
  have mem : ∀ {P : List Nat × Nat → Prop}, (∀ x ∈ ps, P x) → (∀ x ∈ qs, P x) → ∀ x ∈ ps ++ qs, P x := fun h1 h2 x hx => (List.mem_append.mp hx).elim (h1 x) (h2 x)
  intro x1 dx1 n1 n2 n3
  refine ⟨x1, dx1, p, _, rfl, upd_same, hPP.mono (ext_made n1 n2), (by rw [List.length_append]; omega), (mem hG.up hG2.up), (mem hG.abc hG2.abc), fun H2 l2 ps' k2 hx2 hP2' hd hg2 hn2 _ => ⟨rfl, ?_⟩⟩
  have e2 := kp_made n1 n2 k2
  have hR : IsRuns K H2 (.ref x1) ps' := ⟨x1, dx1, l2, rfl, hx2, hP2', hg2⟩
  intro x2 dx2 n4 n5 n6
  refine ⟨x2, dx2, .ref x1, _, rfl, upd_same, .inl (hR.mono (ext_made n4 n5)), fun H3 l3 rs k3 hx3 hP3 hd' hg3 hn3 _ => ⟨rfl, ?_⟩⟩
  have e3 := kp_made n4 n5 k3
  have hR' : IsRep K H3 (.ref x2) rs := ⟨x2, dx2, l3, rfl, hx3, hP3, hg3⟩
  exact q H3 _ rs (E1.trans (e2.trans e3)) hR' (by rw [hd', hd, den_append]) (by have z1 := hn2.1; have z2 := hn3.1; rw [List.length_append] at z1; omega)
/- Repeats.__mul__: slots self=0 times=1 -/
def sp_Repeats_mul (K : Frag) : Sp := fun vs H Q _ => ∃ v ps, ∃ n : Nat, vs = [v, .int (n : Int)] ∧ IsRep K H v ps ∧ lenP ps ≤ 2000 ∧ ∀ H' v' rs, Ext H H' → IsRep K H' v' rs → den rs = pw (den ps) n → rs.length ≤ 1 → Q v' H'
theorem den_mem {ps : Prs'} (h : Abc ps) : ∀ c ∈ den ps, c ∈ abcd := by
  induction ps with
  | nil => intro c hc; cases hc
  | cons q r ih =>
    intro c hc
    rcases List.mem_append.mp (show c ∈ pw q.1 q.2 ++ den r from hc) with hc | hc
    · unfold pw at hc
      rw [List.mem_flatten] at hc
      obtain ⟨m, hm, hcm⟩ := hc
      rw [(List.mem_replicate.mp hm).2] at hcm
      exact h q (List.mem_cons_self ..) c hcm
    · exact ih (fun x hx => h x (List.mem_cons_of_mem _ hx)) c hc
def N_Repeats_mul : List Str := ["self", "times"]
theorem sc_Repeats_mul : FnScope N_Repeats_mul ["self", "times"] (defScope s_Repeats_mul) := ⟨rfl, rfl, rfl, by decide +kernel, rfl, by decide +kernel, by decide +kernel⟩
theorem ok_Repeats_mul (T : Txt K mg w) : FnR P w K mg base CX0 5 (He.ma K (He.ga K "Repeats") "__mul__") (sp_Repeats_mul K) := by
  refine ok_of T.f_Repeats_mul sc_Repeats_mul (fun _ _ _ _ _ _ us hl => match us, hl with | [_, _], _ => rfl) (fun vs H Q E h => ?_) (fun cdv A outer s H vs Q E hr h => ?_)
  · repeat (first | (obtain ⟨rfl, _⟩ := h; rfl) | (obtain ⟨_, h⟩ := h))
  refine ⟨_, (pss_one (ps_ret (pe_mk (ok_Repeats_init T) T.m_Repeats T.g_Repeats (hr.mono (by decide)) pass0 (pa_cons (pe_mk (ok_Runs_init T) T.m_Runs T.g_Runs (hr.mono (by decide)) pass0 (pa_cons (pe_lst (pa_cons (pe_tup (pa_cons (pe_met0 (ok_Repeats_to_text T) T.c_Repeats T.mt_Repeats_to_text (hr.mono (by decide)) pass0 (pv 0)) (pa_cons (pv 1) pa_nil))) pa_nil)) pa_nil)) pa_nil)))), ?_⟩
  obtain ⟨v, ps, n, rfl, hR, hz, q⟩ := h
  have hR0 := hR
  obtain ⟨a, dx, l, rfl, ha, hP, hG⟩ := hR
  refine ⟨_, rfl, a, dx, _, rfl, ha, rF_no_to_text _, .ref a, ps, rfl, hR0, hz, fun H1 e1 => ?_⟩
  refine ⟨_, rfl, sz2 (by simp), fun p hp => ⟨sz2 (by simp), fun m hm => ?_⟩⟩
  have npl : p ≠ m := fun z => by rw [← z, upd_same] at hm; cases hm
  have E2 := (Ext.upd hp).trans (Ext.upd (o := .lst [.ref p]) hm)
  have hP2 : IsPairs (upd (upd H1 p (.tup [.str (tx (den ps)), .int (n : Int)])) m (.lst [.ref p])) m [(den ps, n)] := ⟨[.ref p], upd_same, .cons ⟨p, rfl, by rw [upd_ne npl, upd_same]⟩ .nil⟩
  intro x1 dx1 n1 n2 n3
  refine ⟨x1, dx1, m, _, rfl, upd_same, hP2.mono (ext_made n1 n2), (by simp), (fun q hq => by rw [List.mem_singleton.mp hq]; show (den ps).length ≤ _; rw [den_len]; omega), (fun q hq => by rw [List.mem_singleton.mp hq]; exact den_mem hG.abc), fun H2 l2 ps' k2 hx2 hP2' hd hg2 hn2 _ => ⟨rfl, ?_⟩⟩
  have e2 := kp_made n1 n2 k2
  have hR : IsRuns K H2 (.ref x1) ps' := ⟨x1, dx1, l2, rfl, hx2, hP2', hg2⟩
  intro x2 dx2 n4 n5 n6
  refine ⟨x2, dx2, .ref x1, _, rfl, upd_same, .inl (hR.mono (ext_made n4 n5)), fun H3 l3 rs k3 hx3 hP3 hd' hg3 hn3 _ => ⟨rfl, ?_⟩⟩
  have e3 := kp_made n4 n5 k3
  have hR' : IsRep K H3 (.ref x2) rs := ⟨x2, dx2, l3, rfl, hx3, hP3, hg3⟩
  exact q H3 _ rs (e1.trans (E2.trans (e2.trans e3))) hR' (by rw [hd', hd, den_one]) (Nat.le_trans hn3.1 hn2.1)
end
end OB
set_option Elab.async false
set_option linter.all false
set_option maxRecDepth 100000
set_option maxHeartbeats 4000000
namespace OB
open PySem PySem.Spec PySem.Calls PyProof.Rows L2 PySem.W StX
section
variable {P : Program} {w : World} {K : Frag} {mg : Str → Option Value} {base : Heap}
/- Repeats.part: slots self=0 begin=1 end=2 found=3 before=4 part=5 times=6 size=7 -/
def sp_Repeats_part (K : Frag) : Sp := fun vs H Q _ => ∃ v ps, ∃ b e : Nat, vs = [v, .int (b : Int), .int (e : Int)] ∧ IsRep K H v ps ∧ ps.length ≤ 30000 ∧ lenP ps < 2 ^ 4000 ∧ b ≤ e ∧ e ≤ lenP ps ∧
  ∀ H' v' rs, Ext H H' → IsRep K H' v' rs → den rs = ((den ps).take e).drop b → rs.length ≤ 3 * ps.length → Q v' H'
structure PartI (ps : Prs') (b e i : Nat) (qs : Prs') : Prop where
  den : den qs = ((den (ps.take i)).take e).drop b
  up : Upto 1000000 qs
  abc : Abc qs
  len : qs.length ≤ 3 * i
theorem lenP_take {ps : Prs'} {i : Nat} {q : List Nat × Nat} (h : ps[i]? = some q) : lenP (ps.take (i + 1)) = lenP (ps.take i) + q.1.length * q.2 := by
  rw [← den_len, ← den_len, den_take h, List.length_append, pw_len, Nat.mul_comm]
theorem PartI.step {ps qs zs : Prs'} {b e i n : Nat} {t : List Nat} (I : PartI ps b e i qs) (h : ps[i]? = some (t, n)) (hU : Upto 1000000 ps) (hA : Abc ps) (hbe : b ≤ e)
    (hd : OB.den zs = ((pw t n).take (e - lenP (ps.take i))).drop (b - lenP (ps.take i))) (hu : Upto t.length zs) (hs : ∀ q ∈ zs, ∀ c ∈ q.1, c ∈ t) (hl : zs.length ≤ 3) : PartI ps b e (i + 1) (qs ++ zs) := by
  have hm := List.mem_of_getElem? h
  refine ⟨?_, fun q hq => ?_, fun q hq => ?_, by rw [List.length_append]; have := I.len; omega⟩
  · rw [den_append, den_take h, I.den, hd, List.take_append, List.drop_append, den_len, List.length_take, den_len]
    show _ = _ ++ ((pw t n).take _).drop _
    by_cases c : lenP (ps.take i) ≤ e
    · rw [Nat.min_eq_right c]
    · have z : e - lenP (ps.take i) = 0 := by omega
      rw [z, List.take_zero, List.drop_nil, List.drop_nil]
  · rcases List.mem_append.mp hq with hq | hq
    · exact I.up q hq
    · exact Nat.le_trans (hu q hq) (hU _ hm)
  · rcases List.mem_append.mp hq with hq | hq
    · exact I.abc q hq
    · exact fun c hc => hA _ hm c (hs q hq c hc)
theorem cut_in {t : List Nat} {n b e : Nat} (h0 : 0 < t.length) (h2 : b ≤ min e (t.length * n)) : strch t b (min e (t.length * n) - b) = ((pw t n).take e).drop b := by
  have z : (pw t n).take e = (pw t n).take (min e (t.length * n)) := by
    by_cases c : e ≤ t.length * n
    · rw [Nat.min_eq_left c]
    · rw [Nat.min_eq_right (by omega), List.take_of_length_le (by rw [pw_len, Nat.mul_comm]; omega), List.take_of_length_le (by rw [pw_len, Nat.mul_comm]; omega)]
  rw [z, List.drop_take, slice_eq (by rw [Nat.mul_comm n]; omega)]
theorem IsPairs.ext2 {H : Hp} {f m : Addr} {qs zs : Prs'} (h : IsPairs H f qs) (k : IsPairs H m zs) : ∃ xs ys, H f = some (.lst xs) ∧ H m = some (.lst ys) ∧ xs.length = qs.length ∧ ys.length = zs.length ∧ IsPairs (upd H f (.lst (xs ++ ys))) f (qs ++ zs) := by
  obtain ⟨xs, e1, p1⟩ := h
  obtain ⟨ys, e2, p2⟩ := k
  have t : TK H (upd H f (.lst (xs ++ ys))) := fun a zs hx => by rw [upd_ne (ne_of_at hx e1 (fun z => by cases z))]; exact hx
  exact ⟨xs, ys, e1, e2, p1.length, p2.length, _, upd_same, paired_app (paired_mono (fun _ _ z => IsPair.mono t z) p1) (paired_mono (fun _ _ z => IsPair.mono t z) p2)⟩
def N_Repeats_part : List Str := ["self", "begin", "end", "found", "before", "part", "times", "size"]
theorem sc_Repeats_part : FnScope N_Repeats_part ["self", "begin", "end"] (defScope s_Repeats_part) := ⟨rfl, rfl, rfl, by decide +kernel, rfl, by decide +kernel, by decide +kernel⟩
theorem ok_Repeats_part (T : Txt K mg w) : FnR P w K mg base CX0 5 (He.ma K (He.ga K "Repeats") "part") (sp_Repeats_part K) := by
  refine ok_of T.f_Repeats_part sc_Repeats_part (fun _ _ _ _ _ _ us hl => match us, hl with | [_, _, _], _ => rfl) (fun vs H Q E h => ?_) (fun cdv A outer s H vs Q E hr h => ?_)
  · repeat (first | (obtain ⟨rfl, _⟩ := h; rfl) | (obtain ⟨_, h⟩ := h))
  refine ⟨_, (pss_cons (ps_if (PW.pt (pw_or (pt_not (pt_val (pe_f (ok_is_integer T) T.g_is_integer (kp_of T.f_is_integer) (hr.mono (by decide)) pass0 (pa_cons (pv 2) (pa_cons pe_int (pa_cons (pe_prR (ok_Repeats_length T) T.c_Repeats T.p_Repeats_length (hr.mono (by decide)) pass0 (pv 0)) pa_nil)))))) (pw_or1 (pt_not (pt_val (pe_f (ok_is_integer T) T.g_is_integer (kp_of T.f_is_integer) (hr.mono (by decide)) pass0 (pa_cons (pv 1) (pa_cons pe_int (pa_cons (pv 2) pa_nil)))))))))
      (pss_one ps_never)
      pss_nil)
    (pss_cons (ps_par (i := 3) (j := 4) rfl sc_Repeats_part.nd rfl rfl (by decide) rfl rfl (pa_cons (pe_lst pa_nil) (pa_cons pe_int pa_nil)) (by rfl))
    (pss_cons (ps_for PassesOwn.never rfl (pi_list (pe_fld (pv 0) rfl)) (pg_tup rfl (pgs_cons (pg_name (i := 5) sc_Repeats_part.nd rfl (Or.inl rfl)) (pgs_cons (pg_name (i := 6) sc_Repeats_part.nd rfl (Or.inl rfl)) pgs_nil)))
      (pss_cons (ps_set (i := 7) sc_Repeats_part.nd rfl (Or.inl rfl) (pe_op op_mul (pe_callB call_len_str (by rfl) T.z_len boot_len (pa_cons (pv 5) pa_nil)) (pv 6)))
      (pss_cons (ps_if (PW.pt (pw_and (pt_cmpR op_lt (pv 1) (pe_op op_add (pv 4) (pv 7)) (nomark _)) (pw_and1 (pt_cmpR op_gt (pv 2) (pv 4) (nomark _)))))
        (pss_one (ps_expr (pe_bm PySem.F.plainAttrs_list PySem.F.slot_list_extend PySem.F.type_list_extend mt_extend (pv 3) (pa_cons (pe_f (ok_cut T) T.g_cut (kp_of T.f_cut) (hr.mono (by decide)) pass0 (pa_cons (pv 5) (pa_cons (pe_callB (call_max2 rfl) (by rfl) T.z_max boot_max (pa_cons (pe_op op_sub (pv 1) (pv 4)) (pa_cons pe_int pa_nil))) (pa_cons (pe_callB (call_min2 rfl) (by rfl) T.z_min boot_min (pa_cons (pe_op op_sub (pv 2) (pv 4)) (pa_cons (pv 7) pa_nil))) pa_nil)))) pa_nil))))
        pss_nil)
      (pss_one (ps_aug (i := 4) sc_Repeats_part.nd rfl (Or.inl rfl) (pv 7) ip_add)))))
    (pss_one (ps_ret (pe_mk (ok_Repeats_init T) T.m_Repeats T.g_Repeats (hr.mono (by decide)) pass0 (pa_cons (pe_mk (ok_Runs_init T) T.m_Runs T.g_Runs (hr.mono (by decide)) pass0 (pa_cons (pv 3) pa_nil)) pa_nil))))))), ?_⟩
  obtain ⟨v, ps, b, e, rfl, hR, hz, hb4, hbe, hel, q⟩ := h
  have hR0 := hR
  obtain ⟨a, dx, l, rfl, ha, hP, hG⟩ := hR
  obtain ⟨vs, hl, hPP⟩ := hP
  have hlen := paired_len hPP
  refine ⟨_, rfl, _, rfl, a, dx, _, rfl, ha, .ref a, ps, rfl, hR0, fun H1 e1 => ⟨(e : Int), 0, _, rfl, ?_⟩⟩
  refine ⟨_, rfl, if_f (by rw [decide_eq_true (⟨by omega, by omega⟩ : (0 : Int) ≤ (e : Int) ∧ (e : Int) ≤ ((lenP ps : Nat) : Int))]; rfl) ?_⟩
  refine ⟨_, rfl, _, rfl, (b : Int), 0, (e : Int), rfl, ?_⟩
  refine ⟨_, rfl, if_f (by rw [decide_eq_true (⟨by omega, by omega⟩ : (0 : Int) ≤ (b : Int) ∧ (b : Int) ≤ (e : Int))]; rfl) ?_⟩
  refine ⟨sz2 (by simp), fun f hf => ⟨_, _, rfl, ?_⟩⟩
  have hf0 : H f = none := by
    cases c : H f with
    | none => rfl
    | some o => rw [e1 _ _ c] at hf; cases hf
  have E0 : Ext H (upd H1 f (.lst [])) := e1.trans (Ext.upd hf)
  refine ⟨_, rfl, _, _, _, _, _, rfl, E0 _ _ ha, T.c_Repeats, T.n_Repeats_runs, rF_runs _, _, rfl, ⟨_, sl (E0 _ _ hl)⟩, for_list (xs := vs) (fun i σ H' => ∃ x5 x6 x7, σ = [some (.ref a), some (.int (b : Int)), some (.int (e : Int)), some (.ref f), some (.int ((lenP (ps.take i) : Nat) : Int)), x5, x6, x7] ∧ Ext H H' ∧ ∃ qs, IsPairs H' f qs ∧ PartI ps b e i qs)
    ⟨_, _, _, rfl, E0, [], .nil upd_same, ⟨by simp [den], (fun _ h => nomatch h), (fun _ h => nomatch h), Nat.zero_le _⟩⟩ (fun i σ H' _ ⟨_, _, _, _, e, _⟩ => sl (e _ _ hl)) ?_ ?_⟩
  · rintro i x σ H2 hi ⟨x5, x6, x7, rfl, e2, qs, hQ, I⟩
    obtain ⟨⟨t, n⟩, hq, ⟨pa, rfl, hpa⟩⟩ := paired_at hPP hi
    have hpa1 : H2 pa = some (.tup [.str (tx t), .int (n : Int)]) := e2 _ _ hpa
    have hm := List.mem_of_getElem? hq
    have ut : t.length ≤ 1000000 := hG.up (t, n) hm
    have t0 : t ≠ [] := (hG.norm (t, n) hm).1
    have tp : 0 < t.length := List.length_pos_iff.mpr t0
    have hlt : i < ps.length := (List.getElem?_eq_some_iff.mp hq).1
    have lt := lenP_take hq
    dsimp only at lt
    have lsz : t.length * n ≤ lenP ps := lenP_mem hm
    rw [lt]
    generalize hbef : lenP (ps.take i) = bef at lt ⊢
    refine ⟨_, _, rfl, sq hpa1, rfl, _, _, rfl, _, _, rfl, rfl, ?_⟩
    refine ⟨_, rfl, _, rfl, Nat.le_trans (by rw [tx_len]; omega) sizeBig, _, rfl, _, _, rfl, rfl, .inl ⟨by omega, by rw [tx_len]; omega⟩, ?_⟩
    dsimp only
    rw [tx_len, mu_nat]
    have noadd : (e ≤ bef ∨ bef + t.length * n ≤ b) → PartI ps b e (i + 1) qs := fun hno => by
      have := I.step (zs := []) hq hG.up hG.abc hbe ?_ (fun _ h => nomatch h) (fun _ h => nomatch h) (by simp)
      · rw [List.append_nil] at this
        exact this
      · show [] = _
        rw [hbef]
        rcases hno with h | h
        · rw [show e - bef = 0 by omega, List.take_zero, List.drop_nil]
        · rw [List.drop_of_length_le (by rw [List.length_take, pw_len, Nat.mul_comm]; omega)]
    refine ⟨_, rfl, _, rfl, _, rfl, _, _, rfl, rfl, _, _, rfl, rfl, _, rfl, ?_⟩
    refine ifb (fun c1 => ?_) (fun c1 => ?_)
    rotate_left
    · have c1' := of_decide_eq_false c1
      refine if_f rfl ⟨_, rfl, _, rfl, _, _, rfl, rfl, ?_⟩
      dsimp only
      rw [ad_nat]
      exact ⟨_, _, _, rfl, e2, qs, hQ, noadd (.inr (by omega))⟩
    have c1' := of_decide_eq_true c1
    refine ⟨_, rfl, _, rfl, _, _, rfl, rfl, _, rfl, ?_⟩
    refine ifb (fun c2 => ?_) (fun c2 => ?_)
    rotate_left
    · have c2' := of_decide_eq_false c2
      refine ⟨_, rfl, _, rfl, _, _, rfl, rfl, ?_⟩
      dsimp only
      rw [ad_nat]
      exact ⟨_, _, _, rfl, e2, qs, hQ, noadd (.inl (by omega))⟩
    have c2' := of_decide_eq_true c2
    obtain ⟨xs0, hx0, hx0l⟩ := hQ.len
    refine ⟨_, rfl, tyL hx0, _, rfl, _, rfl, _, rfl, _, _, rfl, rfl, _, _, rfl, ?_⟩
    refine ⟨_, rfl, _, rfl, _, _, rfl, rfl, _, rfl, _, _, rfl, ?_⟩
    dsimp only
    have em : (if (0 : Int) > (b : Int) - (bef : Int) then (0 : Int) else (b : Int) - (bef : Int)) = ((b - bef : Nat) : Int) := by split <;> omega
    have en : (if ((t.length * n : Nat) : Int) < (e : Int) - (bef : Int) then ((t.length * n : Nat) : Int) else (e : Int) - (bef : Int)) = ((min (e - bef) (t.length * n) : Nat) : Int) := by split <;> omega
    rw [em, en]
    have hle : b - bef ≤ min (e - bef) (t.length * n) := by omega
    refine ⟨t, b - bef, min (e - bef) (t.length * n), rfl, t0, ut, hle, by omega, fun H3 m zs e3 hZ hmn hC => ?_⟩
    obtain ⟨xs, ys, hx, hy, hxl, hyl, hext⟩ := (hQ.mono e3).ext2 hZ
    have I2 := I.step (zs := zs) hq hG.up hG.abc hbe (by rw [hbef, hC.den, cut_in tp hle]) hC.up hC.sub hC.few
    refine ⟨_, _, _, _, rfl, rfl, hx, hy, Nat.le_trans (by have := I.len; have := hC.few; omega) sizeBig, ?_⟩
    refine ⟨_, rfl, _, rfl, _, _, rfl, rfl, ?_⟩
    dsimp only
    rw [ad_nat]
    refine ⟨_, _, _, rfl, fun b' o hb => ?_, _, hext, I2⟩
    rw [upd_ne (fun z => by rw [z, hf0] at hb; cases hb)]
    exact e3 _ _ (e2 _ _ hb)
  · rintro σ H2 ⟨_, _, _, rfl, e2, qs, hQ, I⟩
    have id := I.den
    have il := I.len
    rw [hlen, List.take_length] at id
    refine ⟨_, rfl, ?_⟩
    intro x1 dx1 n1 n2 n3
    refine ⟨x1, dx1, f, _, rfl, upd_same, hQ.mono (ext_made n1 n2), by omega, I.up, I.abc, fun H3 l2 ps' k2 hx2 hP2' hd hg2 hn2 _ => ⟨rfl, ?_⟩⟩
    have e3 := kp_made n1 n2 k2
    have hR : IsRuns K H3 (.ref x1) ps' := ⟨x1, dx1, l2, rfl, hx2, hP2', hg2⟩
    intro x2 dx2 n4 n5 n6
    refine ⟨x2, dx2, .ref x1, _, rfl, upd_same, .inl (hR.mono (ext_made n4 n5)), fun H4 l3 rs k3 hx3 hP3 hd' hg3 hn3 _ => ⟨rfl, ?_⟩⟩
    have e4 := kp_made n4 n5 k3
    have hR' : IsRep K H4 (.ref x2) rs := ⟨x2, dx2, l3, rfl, hx3, hP3, hg3⟩
    exact q H4 _ rs (e2.trans (e3.trans e4)) hR' (by rw [hd', hd, id]) (by have z1 := hn2.1; have z2 := hn3.1; omega)
/- same_items: slots one=0 other=1 place=2 other_place=3 used=4 other_used=5 part=6 times=7 other_part=8 other_times=9 many=10 looked_at=11 -/
def sp_same_items (_ : Frag) : Sp := fun vs H Q _ => ∃ l m ps qs, vs = [.ref l, .ref m] ∧ IsPairs H l ps ∧ IsPairs H m qs ∧ Good ps ∧ Good qs ∧ den ps = den qs ∧ ∀ H', Ext H H' → Q (.bl true) H'
/-- what is left from the u-th item of the i-th pair on -/
def rem (ps : Prs') (i u : Nat) : List Nat := (den (ps.drop i)).drop u
theorem drop_at {ps : Prs'} {i : Nat} {q : List Nat × Nat} (h : ps[i]? = some q) : den (ps.drop i) = pw q.1 q.2 ++ den (ps.drop (i + 1)) := by
  have hi : i < ps.length := (List.getElem?_eq_some_iff.mp h).1
  rw [List.drop_eq_getElem_cons hi]
  have e : ps[i] = q := (List.getElem?_eq_some_iff.mp h).2
  rw [e]
  rfl
theorem rem_next {ps : Prs'} {i : Nat} {t : List Nat} {n : Nat} (h : ps[i]? = some (t, n)) : rem ps i (t.length * n) = rem ps (i + 1) 0 := by
  unfold rem
  rw [drop_at h, List.drop_append, List.drop_of_length_le (by rw [pw_len, Nat.mul_comm]; exact Nat.le_refl _), pw_len, Nat.mul_comm, Nat.sub_self]
  rfl
theorem rem_drop (ps : Prs') (i u m : Nat) : rem ps i (u + m) = (rem ps i u).drop m := by
  unfold rem
  rw [List.drop_drop]
theorem rem_take {ps : Prs'} {i u m : Nat} {t : List Nat} {n : Nat} (h : ps[i]? = some (t, n)) (hm : u + m ≤ t.length * n) : (rem ps i u).take m = strch t u m := by
  unfold rem
  rw [drop_at h, List.drop_append, List.take_append, List.length_drop, pw_len]
  show ((pw t n).drop u).take m ++ _ = _
  rw [slice_eq (by rw [Nat.mul_comm n]; exact hm), show m - (n * t.length - u) = 0 by rw [Nat.mul_comm n]; omega, List.take_zero, List.append_nil]
theorem rem_len {ps : Prs'} {i u : Nat} {t : List Nat} {n : Nat} (h : ps[i]? = some (t, n)) (hu : u ≤ t.length * n) : t.length * n - u ≤ (rem ps i u).length := by
  unfold rem
  rw [drop_at h, List.drop_append, List.length_append, List.length_drop, pw_len]
  show t.length * n - u ≤ n * t.length - u + _
  rw [Nat.mul_comm n]
  omega
/-- a place within -/
def AtP (ps : Prs') (i u : Nat) : Prop := (i < ps.length ∧ ∃ t n, ps[i]? = some (t, n) ∧ u < t.length * n) ∨ (i = ps.length ∧ u = 0)
theorem atP_start {ps : Prs'} (h : Norm ps) (i : Nat) (hi : i ≤ ps.length) : AtP ps i 0 := by
  by_cases c : i < ps.length
  · refine .inl ⟨c, ps[i].1, ps[i].2, List.getElem?_eq_getElem c, ?_⟩
    have z := h ps[i] (List.getElem_mem c)
    exact Nat.mul_pos (List.length_pos_iff.mpr z.1) z.2
  · exact .inr ⟨by omega, rfl⟩
theorem rem_end (ps : Prs') (u : Nat) : rem ps ps.length u = [] := by
  unfold rem
  rw [List.drop_length]
  exact List.drop_nil
/-- a step -/
theorem atP_step {ps : Prs'} (h : Norm ps) {i u m : Nat} {t : List Nat} {n : Nat} (hi : ps[i]? = some (t, n)) (hm : u + m ≤ t.length * n) : (u + m = t.length * n → AtP ps (i + 1) 0 ∧ rem ps (i + 1) 0 = (rem ps i u).drop m) ∧ (u + m ≠ t.length * n → AtP ps i (u + m) ∧ rem ps i (u + m) = (rem ps i u).drop m) := by
  have hlt : i < ps.length := (List.getElem?_eq_some_iff.mp hi).1
  refine ⟨fun e => ⟨atP_start h _ hlt, ?_⟩, fun e => ⟨.inl ⟨hlt, t, n, hi, by omega⟩, rem_drop _ _ _ _⟩⟩
  rw [← rem_next hi, ← e, rem_drop]
def SameW (H0 : Hp) (l m : Addr) (ps qs : Prs') (k : Nat) (σ : L2.St) (H : Hp) : Prop := ∃ i j u v : Nat, ∃ x6 x7 x8 x9 x10 x11, σ = [some (.ref l), some (.ref m), some (.int (i : Int)), some (.int (j : Int)), some (.int (u : Int)), some (.int (v : Int)), x6, x7, x8, x9, x10, x11] ∧
  Ext H0 H ∧ AtP ps i u ∧ AtP qs j v ∧ rem ps i u = rem qs j v ∧ k = (rem ps i u).length
def N_same_items : List Str := ["one", "other", "place", "other_place", "used", "other_used", "part", "times", "other_part", "other_times", "many", "looked_at"]
theorem sc_same_items : FnScope N_same_items ["one", "other"] (defScope s_same_items) := ⟨rfl, rfl, rfl, by decide +kernel, rfl, by decide +kernel, by decide +kernel⟩
theorem ok_same_items (T : Txt K mg w) : FnR P w K mg base CX0 2 (He.ga K "same_items") (sp_same_items K) := by
  refine ok_of T.f_same_items sc_same_items (fun _ _ _ _ _ _ us hl => match us, hl with | [_, _], _ => rfl) (fun vs H Q E h => ?_) (fun cdv A outer s H vs Q E hr h => ?_)
  · repeat (first | (obtain ⟨rfl, _⟩ := h; rfl) | (obtain ⟨_, h⟩ := h))
  refine ⟨_, (pss_cons (ps_asg4 pe_int (pg_name (i := 2) sc_same_items.nd rfl (Or.inl rfl)) (pg_name (i := 3) sc_same_items.nd rfl (Or.inl rfl)) (pg_name (i := 4) sc_same_items.nd rfl (Or.inl rfl)) (pg_name (i := 5) sc_same_items.nd rfl (Or.inl rfl)))
    (pss_cons (ps_while PassesOwn.never (pt_cmpR op_lt (pv 2) (pe_callB call_len_seq (by rfl) T.z_len boot_len (pa_cons (pv 0) pa_nil)) (nomark _))
      (pss_cons (ps_asg (pe_ix ix_list (pv 0) (pv 2) (fun _ _ => rfl)) (pg_tup rfl (pgs_cons (pg_name (i := 6) sc_same_items.nd rfl (Or.inl rfl)) (pgs_cons (pg_name (i := 7) sc_same_items.nd rfl (Or.inl rfl)) pgs_nil))))
      (pss_cons (ps_asg (pe_ix ix_list (pv 1) (pv 3) (fun _ _ => rfl)) (pg_tup rfl (pgs_cons (pg_name (i := 8) sc_same_items.nd rfl (Or.inl rfl)) (pgs_cons (pg_name (i := 9) sc_same_items.nd rfl (Or.inl rfl)) pgs_nil))))
      (pss_cons (ps_set (i := 10) sc_same_items.nd rfl (Or.inl rfl) (pe_callB (call_min2 rfl) (by rfl) T.z_min boot_min (pa_cons (pe_op op_sub (pe_op op_mul (pe_callB call_len_str (by rfl) T.z_len boot_len (pa_cons (pv 6) pa_nil)) (pv 7)) (pv 4)) (pa_cons (pe_op op_sub (pe_op op_mul (pe_callB call_len_str (by rfl) T.z_len boot_len (pa_cons (pv 8) pa_nil)) (pv 9)) (pv 5)) pa_nil))))
      (pss_cons (ps_set (i := 11) sc_same_items.nd rfl (Or.inl rfl) (pe_callB (call_min2 rfl) (by rfl) T.z_min boot_min (pa_cons (pv 10) (pa_cons (pe_op op_add (pe_callB call_len_str (by rfl) T.z_len boot_len (pa_cons (pv 6) pa_nil)) (pe_callB call_len_str (by rfl) T.z_len boot_len (pa_cons (pv 8) pa_nil))) pa_nil))))
      (pss_cons (ps_if (pt_cmpR op_ne (pe_f (ok_stretch T) T.g_stretch (kp_of T.f_stretch) (hr.mono (by decide)) pass0 (pa_cons (pv 6) (pa_cons (pv 4) (pa_cons (pv 11) pa_nil)))) (pe_f (ok_stretch T) T.g_stretch (kp_of T.f_stretch) (hr.mono (by decide)) pass0 (pa_cons (pv 8) (pa_cons (pv 5) (pa_cons (pv 11) pa_nil)))) (nomark _))
        (pss_one (ps_ret pe_bl))
        pss_nil)
      (pss_cons (ps_set (i := 4) sc_same_items.nd rfl (Or.inl rfl) (pe_op op_add (pv 4) (pv 10)))
      (pss_cons (ps_set (i := 5) sc_same_items.nd rfl (Or.inl rfl) (pe_op op_add (pv 5) (pv 10)))
      (pss_cons (ps_if (pt_cmpR op_eq (pv 4) (pe_op op_mul (pe_callB call_len_str (by rfl) T.z_len boot_len (pa_cons (pv 6) pa_nil)) (pv 7)) (nomark _))
        (pss_one (ps_par (i := 2) (j := 4) rfl sc_same_items.nd rfl rfl (by decide) rfl rfl (pa_cons (pe_op op_add (pv 2) pe_int) (pa_cons pe_int pa_nil)) (by rfl)))
        pss_nil)
      (pss_one (ps_if (pt_cmpR op_eq (pv 5) (pe_op op_mul (pe_callB call_len_str (by rfl) T.z_len boot_len (pa_cons (pv 8) pa_nil)) (pv 9)) (nomark _))
        (pss_one (ps_par (i := 3) (j := 5) rfl sc_same_items.nd rfl rfl (by decide) rfl rfl (pa_cons (pe_op op_add (pv 3) pe_int) (pa_cons pe_int pa_nil)) (by rfl)))
        pss_nil)))))))))))
    (pss_one (ps_ret pe_bl)))), ?_⟩
  obtain ⟨l, m, ps, qs, rfl, hP, hQ, hG, hG2, hd, q⟩ := h
  obtain ⟨vs, hl, hPP⟩ := hP
  obtain ⟨ws, hm, hQQ⟩ := hQ
  have hlen := paired_len hPP
  have hlen2 := paired_len hQQ
  refine ⟨SameW H l m ps qs, ⟨_, 0, 0, 0, 0, _, _, _, _, _, _, rfl, Ext.rfl', atP_start hG.norm 0 (Nat.zero_le _), atP_start hG2.norm 0 (Nat.zero_le _), by unfold rem; rw [List.drop_zero, List.drop_zero, List.drop_zero, List.drop_zero, hd], rfl⟩, ?_⟩
  rintro k σ H1 ⟨i, j, u, v, x6, x7, x8, x9, x10, x11, rfl, e1, hA, hB, hE, rfl⟩
  refine ⟨_, rfl, _, rfl, _, _, rfl, .inl (sl (e1 _ _ hl)), _, _, rfl, rfl, _, rfl, ?_⟩
  refine ifb (fun c => ?_) (fun c => ?_)
  rotate_left
  · exact q H1 e1
  have c' := of_decide_eq_true c
  have hilt : i < ps.length := by omega
  obtain ⟨t, n, hi, hu⟩ : ∃ t n, ps[i]? = some (t, n) ∧ u < t.length * n := by
    rcases hA with ⟨_, h⟩ | ⟨h, _⟩
    · exact h
    · omega
  have hne := rem_len hi (Nat.le_of_lt hu)
  obtain ⟨t', n', hj, hv⟩ : ∃ t' n', qs[j]? = some (t', n') ∧ v < t'.length * n' := by
    rcases hB with ⟨_, h⟩ | ⟨h, h2⟩
    · exact h
    · rw [hE, h, rem_end, List.length_nil] at hne
      omega
  obtain ⟨y, hy1, ⟨pa, rfl, hpa⟩⟩ := paired_at' hPP hi
  obtain ⟨z, hz1, ⟨pb, rfl, hpb⟩⟩ := paired_at' hQQ hj
  have hmi := List.mem_of_getElem? hi
  have hmj := List.mem_of_getElem? hj
  have ut : t.length ≤ 1000000 := hG.up _ hmi
  have ut' : t'.length ≤ 1000000 := hG2.up _ hmj
  have t0 : t ≠ [] := (hG.norm _ hmi).1
  have t0' : t' ≠ [] := (hG2.norm _ hmj).1
  have tp : 0 < t.length := List.length_pos_iff.mpr t0
  have tp' : 0 < t'.length := List.length_pos_iff.mpr t0'
  refine ⟨fun σ' H' => ∃ m', m' < (rem ps i u).length ∧ SameW H l m ps qs m' σ' H', fun _ _ h => h, ?_⟩
  refine ⟨_, rfl, _, rfl, _, _, _, _, rfl, rfl, sl (e1 _ _ hl), atI_nat hy1, _, _, rfl, sq (e1 _ _ hpa), rfl, _, _, rfl, _, _, rfl, rfl, ?_⟩
  refine ⟨_, rfl, _, rfl, _, _, _, _, rfl, rfl, sl (e1 _ _ hm), atI_nat hz1, _, _, rfl, sq (e1 _ _ hpb), rfl, _, _, rfl, _, _, rfl, rfl, ?_⟩
  have s1 : (tx t).length ≤ sizeLine := Nat.le_trans (by rw [tx_len]; omega) sizeBig
  have s2 : (tx t').length ≤ sizeLine := Nat.le_trans (by rw [tx_len]; omega) sizeBig
  have m1 : CMul ((tx t).length : Int) (n : Int) := .inl ⟨by omega, by rw [tx_len]; omega⟩
  have m2 : CMul ((tx t').length : Int) (n' : Int) := .inl ⟨by omega, by rw [tx_len]; omega⟩
  refine ⟨_, rfl, _, rfl, s1, _, rfl, _, _, rfl, rfl, m1, _, rfl, _, _, rfl, rfl, ?_⟩
  refine ⟨_, rfl, _, rfl, s2, _, rfl, _, _, rfl, rfl, m2, _, rfl, _, _, rfl, rfl, _, _, rfl, ?_⟩
  dsimp only
  rw [tx_len, tx_len, ← Int.natCast_mul, ← Int.natCast_mul]
  have em : (if ((t'.length * n' : Nat) : Int) - (v : Int) < ((t.length * n : Nat) : Int) - (u : Int) then ((t'.length * n' : Nat) : Int) - (v : Int) else ((t.length * n : Nat) : Int) - (u : Int)) = ((min (t.length * n - u) (t'.length * n' - v) : Nat) : Int) := by split <;> omega
  rw [em]
  generalize hmany : min (t.length * n - u) (t'.length * n' - v) = many
  have hm1 : u + many ≤ t.length * n := by omega
  have hm2 : v + many ≤ t'.length * n' := by omega
  have hm0 : 0 < many := by omega
  refine ⟨_, rfl, _, rfl, _, rfl, s1, _, rfl, _, rfl, s2, _, _, rfl, rfl, _, _, rfl, ?_⟩
  dsimp only
  rw [tx_len, tx_len, ← Int.natCast_add]
  have el : (if ((t.length + t'.length : Nat) : Int) < (many : Int) then ((t.length + t'.length : Nat) : Int) else (many : Int)) = ((min many (t.length + t'.length) : Nat) : Int) := by split <;> omega
  rw [el]
  generalize hlook : min many (t.length + t'.length) = look
  refine ⟨_, rfl, _, rfl, _, rfl, t, u, look, rfl, t0, ut, by omega, ?_⟩
  refine ⟨_, rfl, _, rfl, _, rfl, t', v, look, rfl, t0', ut', by omega, rfl, _, rfl, if_f ?_ ?_⟩
  · have z1 := rem_take hi (show u + look ≤ t.length * n by omega)
    have z2 := rem_take hj (show v + look ≤ t'.length * n' by omega)
    rw [← z1, ← z2, hE, decide_eq_true rfl]
    rfl
  refine ⟨_, rfl, _, rfl, _, _, rfl, rfl, ?_⟩
  dsimp only
  rw [ad_nat]
  refine ⟨_, rfl, _, rfl, _, _, rfl, rfl, ?_⟩
  dsimp only
  rw [ad_nat]
  obtain ⟨a1, a2⟩ := atP_step hG.norm hi hm1
  obtain ⟨b1, b2⟩ := atP_step hG2.norm hj hm2
  have sh : ∀ r : List Nat, r = (rem ps i u).drop many → r.length < (rem ps i u).length := fun r hr => by
    rw [hr, List.length_drop]
    omega
  have cI : ∀ {x y : Nat}, decide (V.int (x : Int) = V.int (y : Int)) = true → x = y := fun h => by
    have := V.int.inj (of_decide_eq_true h)
    omega
  have cN : ∀ {x y : Nat}, decide (V.int (x : Int) = V.int (y : Int)) = false → x ≠ y := fun h z => by
    rw [z, decide_eq_true rfl] at h
    cases h
  refine ⟨_, rfl, _, rfl, _, rfl, s1, _, rfl, _, _, rfl, rfl, m1, ?_⟩
  dsimp only
  rw [tx_len, mu_nat]
  refine ⟨rfl, _, rfl, ?_⟩
  refine ifb (fun c1 => ?_) (fun c1 => ?_)
  · obtain ⟨p1, p2⟩ := a1 (cI c1)
    refine ⟨_, rfl, _, _, rfl, rfl, _, _, rfl, ?_⟩
    refine ⟨_, rfl, _, rfl, _, rfl, s2, _, rfl, _, _, rfl, rfl, m2, ?_⟩
    dsimp only
    rw [tx_len, mu_nat]
    refine ⟨rfl, _, rfl, ?_⟩
    refine ifb (fun c2 => ?_) (fun c2 => ?_)
    · obtain ⟨r1, r2⟩ := b1 (cI c2)
      refine ⟨_, rfl, _, _, rfl, rfl, _, _, rfl, ?_⟩
      exact ⟨_, sh _ p2, i + 1, j + 1, 0, 0, _, _, _, _, _, _, rfl, e1, p1, r1, by rw [p2, r2, hE], rfl⟩
    · obtain ⟨r1, r2⟩ := b2 (cN c2)
      exact ⟨_, sh _ p2, i + 1, j, 0, v + many, _, _, _, _, _, _, rfl, e1, p1, r1, by rw [p2, r2, hE], rfl⟩
  · obtain ⟨p1, p2⟩ := a2 (cN c1)
    refine ⟨_, rfl, _, rfl, _, rfl, s2, _, rfl, _, _, rfl, rfl, m2, ?_⟩
    dsimp only
    rw [tx_len, mu_nat]
    refine ⟨rfl, _, rfl, ?_⟩
    refine ifb (fun c2 => ?_) (fun c2 => ?_)
    · obtain ⟨r1, r2⟩ := b1 (cI c2)
      refine ⟨_, rfl, _, _, rfl, rfl, _, _, rfl, ?_⟩
      exact ⟨_, sh _ p2, i, j + 1, u + many, 0, _, _, _, _, _, _, rfl, e1, p1, r1, by rw [p2, r2, hE], rfl⟩
    · obtain ⟨r1, r2⟩ := b2 (cN c2)
      exact ⟨_, sh _ p2, i, j, u + many, v + many, _, _, _, _, _, _, rfl, e1, p1, r1, by rw [p2, r2, hE], rfl⟩
/- Repeats.__eq__: slots self=0 other=1 -/
def EqRep (K : Frag) (a b : Addr) (H : Hp) : Prop := ∃ ps qs, IsRep K H (.ref a) ps ∧ IsRep K H (.ref b) qs ∧ den ps = den qs
abbrev sp_Repeats_eq (K : Frag) : Sp := spEq (EqRep K)
def N_Repeats_eq : List Str := ["self", "other"]
theorem sc_Repeats_eq : FnScope N_Repeats_eq ["self", "other"] (defScope s_Repeats_eq) := ⟨rfl, rfl, rfl, by decide +kernel, rfl, by decide +kernel, by decide +kernel⟩
theorem ok_Repeats_eq (T : Txt K mg w) : FnR P w K mg base CX0 3 (He.ma K (He.ga K "Repeats") "__eq__") (sp_Repeats_eq K) := by
  refine ok_of T.f_Repeats_eq sc_Repeats_eq (fun _ _ _ _ _ _ us hl => match us, hl with | [_, _], _ => rfl) (fun vs H Q E h => ?_) (fun cdv A outer s H vs Q E hr h => ?_)
  · repeat (first | (obtain ⟨rfl, _⟩ := h; rfl) | (obtain ⟨_, h⟩ := h))
  refine ⟨_, (pss_cons (ps_if (PW.pt (pw_or (pt_not (pt_val (pe_callB call_isi (by rfl) T.z_isinstance boot_isinstance (pa_cons (pv 1) (pa_cons (pe_gr T.g_Repeats) pa_nil))))) (pw_or1 (pt_cmpR op_ne (pe_prR (ok_Repeats_length T) T.c_Repeats T.p_Repeats_length (hr.mono (by decide)) pass0 (pv 0)) (pe_prR (ok_Repeats_length T) T.c_Repeats T.p_Repeats_length (hr.mono (by decide)) pass0 (pv 1)) (nomark _)))))
      (pss_one (ps_ret pe_bl))
      pss_nil)
    (pss_one (ps_ret (pe_f (ok_same_items T) T.g_same_items (kp_of T.f_same_items) (hr.mono (by decide)) pass0 (pa_cons (pe_fld (pv 0) rfl) (pa_cons (pe_fld (pv 1) rfl) pa_nil)))))), ?_⟩
  obtain ⟨a, b, rfl, ⟨ps, qs, hR, hS, hd⟩, q⟩ := h
  have hR0 := hR
  have hS0 := hS
  obtain ⟨a', dx, l, ea, ha, hP, hG⟩ := hR
  obtain ⟨b', dy, m, eb, hb, hP2, hG2⟩ := hS
  cases ea
  cases eb
  refine ⟨_, rfl, _, _, _, _, true, rfl, .own _, .base (.ins hb T.c_Repeats T.rcls T.cget T.ctak T.rmro), T.kit_rr, _, rfl, if_f rfl ?_⟩
  refine ⟨_, rfl, _, _, _, rfl, ha, .ref a, ps, rfl, hR0, fun H1 e1 => ?_⟩
  refine ⟨_, rfl, _, _, _, rfl, e1 _ _ hb, .ref b, qs, rfl, hS0.mono e1, fun H2 e2 => ?_⟩
  refine ⟨rfl, _, rfl, if_f ?_ ?_⟩
  · rw [← den_len, ← den_len, hd, decide_eq_true rfl]
    rfl
  have e12 := e1.trans e2
  refine ⟨_, rfl, _, _, _, _, _, rfl, e12 _ _ ha, T.c_Repeats, T.n_Repeats_runs, rF_runs _, ?_⟩
  refine ⟨_, rfl, _, _, _, _, _, rfl, e12 _ _ hb, T.c_Repeats, T.n_Repeats_runs, rF_runs _, ?_⟩
  exact ⟨l, m, ps, qs, rfl, hP.mono e12, hP2.mono e12, hG, hG2, hd, fun H3 e3 => q H3 (e12.trans e3)⟩
end
end OB
set_option Elab.async false
set_option linter.all false
set_option maxRecDepth 100000
set_option maxHeartbeats 4000000
namespace OB
/-! ### states of a loop that is fed -/
structure S where
  mark : Nat
  held : List Nat
  brk : Bool
deriving DecidableEq
/-- what one pass writes, the state behind it -/
def stepS (L : Lo) (s : S) : List Nat × S :=
  if (passR L.rules s.mark s.held).2.1 = true then ((passR L.rules s.mark s.held).2.2, ⟨(passR L.rules s.mark s.held).1, [], true⟩)
  else ((passR L.rules s.mark s.held).2.2.take 1, ⟨(passR L.rules s.mark s.held).1, (passR L.rules s.mark s.held).2.2.drop 1, false⟩)
def stN (L : Lo) (s : S) : Nat → S
  | 0 => s
  | k + 1 => (stepS L (stN L s k)).2
def wlN (L : Lo) (s : S) : Nat → List (List Nat)
  | 0 => []
  | k + 1 => wlN L s k ++ [(stepS L (stN L s k)).1]
def Done (least : Nat) (s : S) : Prop := s.held.length < least ∨ s.brk = true
instance (least : Nat) (s : S) : Decidable (Done least s) := by unfold Done; infer_instance
/-- it ends behind k passes -/
def Ends (L : Lo) (least : Nat) (s : S) (k : Nat) : Prop := (∀ j, j < k → ¬ Done least (stN L s j)) ∧ Done least (stN L s k)
def Never (L : Lo) (least : Nat) (s : S) : Prop := ∀ k, ¬ Done least (stN L s k)
theorem ends_unique {L : Lo} {least : Nat} {s : S} {j k : Nat} (h : Ends L least s j) (g : Ends L least s k) : j = k := by
  rcases Nat.lt_trichotomy j k with c | c | c
  · exact absurd h.2 (g.1 j c)
  · exact c
  · exact absurd g.2 (h.1 k c)
theorem stN_add (L : Lo) (s : S) (i : Nat) : ∀ m, stN L s (i + m) = stN L (stN L s i) m
  | 0 => rfl
  | m + 1 => by
    show (stepS L (stN L s (i + m))).2 = (stepS L (stN L (stN L s i) m)).2
    rw [stN_add L s i m]
/-- a state that comes back: it never ends -/
theorem never_of_rep {L : Lo} {least : Nat} {s : S} {i k : Nat} (hik : i < k) (he : stN L s i = stN L s k) (hn : ∀ j, j ≤ k → ¬ Done least (stN L s j)) : Never L least s := by
  intro m
  induction m using Nat.strongRecOn with
  | ind m ih =>
    by_cases c : m ≤ k
    · exact hn m c
    · have e : stN L s m = stN L s (i + (m - k)) := by
        have e1 : m = k + (m - k) := by omega
        rw [stN_add, he, ← stN_add, ← e1]
      rw [e]
      exact ih _ (by omega)
theorem never_or_ends (L : Lo) (least : Nat) (s : S) : Never L least s ∨ ∃ k, Ends L least s k := by
  by_cases h : ∃ k, Done least (stN L s k)
  · right
    obtain ⟨k, hk⟩ := h
    induction k using Nat.strongRecOn with
    | ind k ih =>
      by_cases c : ∃ j, j < k ∧ Done least (stN L s j)
      · obtain ⟨j, hj, hd⟩ := c
        exact ih j hj hd
      · exact ⟨k, fun j hj hd => c ⟨j, hj, hd⟩, hk⟩
  · exact .inl fun k hk => h ⟨k, hk⟩
/-! ### what is held -/
def Letters (l : List Nat) : Prop := ∀ c ∈ l, c ∈ abcd
theorem Letters.app {l m : List Nat} (h : Letters l) (g : Letters m) : Letters (l ++ m) := fun c hc => (List.mem_append.mp hc).elim (h c) (g c)
theorem Letters.take {l : List Nat} (h : Letters l) (n : Nat) : Letters (l.take n) := fun c hc => h c (List.mem_of_mem_take hc)
theorem Letters.drop {l : List Nat} (h : Letters l) (n : Nat) : Letters (l.drop n) := fun c hc => h c (List.mem_of_mem_drop hc)
theorem Letters.one {c : Nat} (h : c ∈ abcd) : Letters [c] := fun x hx => by rw [List.mem_singleton.mp hx]; exact h
theorem app_letters {e : Ed} {l : List Nat} (he : okEd e) (h : Letters l) : Letters (app e l) := by
  cases e with
  | put c => exact fun x hx => (List.mem_or_eq_of_mem_set hx).elim (h x) fun z => by rw [z]; exact he
  | before c => exact (Letters.one he).app h
  | after c => exact ((h.take 1).app (Letters.one he)).app (h.drop 1)
  | drop => exact fun x hx => h x (List.mem_of_mem_eraseIdx hx)
  | dropNext => exact fun x hx => h x (List.mem_of_mem_eraseIdx hx)
  | mark m => exact h
  | brk => exact h
theorem carry_ok : ∀ (es : List Ed) (s : Nat × Bool × List Nat), (∀ e ∈ es, okEd e) → s.1 < 4 → Letters s.2.2 → (carry es s).1 < 4 ∧ Letters (carry es s).2.2
  | [], s, _, h1, h2 => ⟨h1, h2⟩
  | e :: es, s, he, h1, h2 => by
    have h0 := he e (List.mem_cons_self ..)
    have hr : ∀ x ∈ es, okEd x := fun x hx => he x (List.mem_cons_of_mem _ hx)
    show (carry es (one s e)).1 < 4 ∧ Letters (carry es (one s e)).2.2
    refine carry_ok es (one s e) hr ?_ ?_
    · cases e <;> first | exact h1 | exact h0
    · cases e <;> first | exact h2 | exact app_letters h0 h2
theorem find_mem {α : Type} {p : α → Bool} {l : List α} {a : α} (h : l.find? p = some a) : a ∈ l := List.mem_of_find?_eq_some h
/-- insertions at most one: the list grows by one at most -/
theorem app_len' (e : Ed) (l : List Nat) : (app e l).length ≤ l.length + (if isIns e = true then 1 else 0) := by
  cases e with
  | before c => simp [app, isIns]
  | after c =>
    simp only [app, isIns, List.length_append, List.length_take, List.length_drop, List.length_singleton, if_true]
    omega
  | put c => simp [app, isIns]
  | drop => simp only [app, List.length_eraseIdx]; split <;> omega
  | dropNext => simp only [app, List.length_eraseIdx]; split <;> omega
  | mark m => simp [app, isIns]
  | brk => simp [app, isIns]
theorem one_len' (s : Nat × Bool × List Nat) (e : Ed) : (one s e).2.2.length ≤ s.2.2.length + (if isIns e = true then 1 else 0) := by
  have h := app_len' e s.2.2
  cases e <;> first | exact h | (simp [one])
theorem carry_len' : ∀ (es : List Ed) (s : Nat × Bool × List Nat), (carry es s).2.2.length ≤ s.2.2.length + (es.filter isIns).length
  | [], s => Nat.le_refl _
  | e :: es, s => by
    have h1 := one_len' s e
    have h2 := carry_len' es (one s e)
    show (carry es (one s e)).2.2.length ≤ _
    rw [List.filter_cons]
    split
    · rename_i c
      rw [if_pos c] at h1
      rw [List.length_cons]
      omega
    · rename_i c
      rw [if_neg c] at h1
      omega
theorem passR_ok {L : Lo} (hV : VLo L) {m : Nat} {l : List Nat} (hm : m < 4) (hl : Letters l) : (passR L.rules m l).1 < 4 ∧ Letters (passR L.rules m l).2.2 ∧ (passR L.rules m l).2.2.length ≤ l.length + 1 := by
  cases l with
  | nil => exact ⟨hm, hl, Nat.zero_le _⟩
  | cons c t =>
    cases h : L.rules.find? (fits m c (nxt (c :: t))) with
    | none =>
      have e : passR L.rules m (c :: t) = (m, false, c :: t) := by simp only [passR, h]
      rw [e]
      exact ⟨hm, hl, Nat.le_succ _⟩
    | some r =>
      have e : passR L.rules m (c :: t) = carry r.edits (m, false, c :: t) := by simp only [passR, h]
      rw [e]
      have hr := (hV.rules r (find_mem h)).edits
      have z := carry_ok r.edits (m, false, c :: t) hr.ok hm hl
      have z2 := carry_len' r.edits (m, false, c :: t)
      have z3 := hr.ins
      refine ⟨z.1, z.2, ?_⟩
      dsimp only at z2 ⊢
      omega
/-- a state within bounds: n items held at most -/
structure OkS (n : Nat) (s : S) : Prop where
  mark : s.mark < 4
  let_ : Letters s.held
  len : s.held.length ≤ n
  brk : s.brk = true → s.held = []
theorem stepS_ok {L : Lo} (hV : VLo L) {n : Nat} {s : S} (h : OkS n s) : OkS n (stepS L s).2 ∧ Letters (stepS L s).1 ∧ (stepS L s).1.length ≤ n + 1 ∧ ((stepS L s).2.brk = false → (stepS L s).1.length ≤ 1) := by
  have z := passR_ok hV h.mark h.let_
  have hn := h.len
  unfold stepS
  split
  · exact ⟨⟨z.1, (fun _ h => nomatch h), Nat.zero_le _, fun _ => rfl⟩, z.2.1, by dsimp only; omega, fun h => by cases h⟩
  · refine ⟨⟨z.1, z.2.1.drop 1, ?_, fun h => by cases h⟩, z.2.1.take 1, ?_, fun _ => ?_⟩
    · show (List.drop 1 _).length ≤ n
      rw [List.length_drop]
      omega
    · show (List.take 1 _).length ≤ n + 1
      rw [List.length_take]
      omega
    · show (List.take 1 _).length ≤ 1
      rw [List.length_take]
      omega
theorem stN_ok {L : Lo} (hV : VLo L) {n : Nat} {s : S} (h : OkS n s) : ∀ k, OkS n (stN L s k)
  | 0 => h
  | k + 1 => (stepS_ok hV (stN_ok hV h k)).1
theorem wlN_len (L : Lo) (s : S) : ∀ k, (wlN L s k).length = k
  | 0 => rfl
  | k + 1 => by
    show (wlN L s k ++ [_]).length = k + 1
    rw [List.length_append, wlN_len L s k]
    rfl
theorem wlN_mem {L : Lo} {s : S} : ∀ {k : Nat} {w : List Nat}, w ∈ wlN L s k → ∃ j, j < k ∧ w = (stepS L (stN L s j)).1
  | 0, w, h => nomatch h
  | k + 1, w, h => by
    rcases List.mem_append.mp (show w ∈ wlN L s k ++ [(stepS L (stN L s k)).1] from h) with h | h
    · obtain ⟨j, hj, e⟩ := wlN_mem h
      exact ⟨j, Nat.lt_succ_of_lt hj, e⟩
    · exact ⟨k, Nat.lt_succ_self k, List.mem_singleton.mp h⟩
/-! ### how many states there are -/
theorem nodup_bound : ∀ (N : Nat) (l : List Nat), l.Nodup → (∀ x ∈ l, x < N) → l.length ≤ N
  | 0, l, _, h => by
    cases l with
    | nil => exact Nat.le_refl _
    | cons a r => exact absurd (h a (List.mem_cons_self ..)) (Nat.not_lt_zero _)
  | N + 1, l, hd, h => by
    have z := nodup_bound N (l.filter fun x => decide (x ≠ N)) (hd.filter _) fun x hx => by
      have m := List.mem_filter.mp hx
      have := h x m.1
      have n := of_decide_eq_true m.2
      omega
    have key : l.length ≤ (l.filter fun x => decide (x ≠ N)).length + 1 := by
      clear z h
      induction l with
      | nil => exact Nat.zero_le _
      | cons a r ih =>
        have hr := ih (List.nodup_cons.mp hd).2
        by_cases c : a = N
        · have na : ∀ x ∈ r, x ≠ N := fun x hx e => (List.nodup_cons.mp hd).1 (by rw [c, ← e]; exact hx)
          have e : r.filter (fun x => decide (x ≠ N)) = r := List.filter_eq_self.mpr fun x hx => decide_eq_true (na x hx)
          rw [List.filter_cons, if_neg (by simp [c]), e, List.length_cons]
          exact Nat.le_refl _
        · rw [List.filter_cons, if_pos (by simp [c]), List.length_cons, List.length_cons]
          omega
    omega
/-- n different values of f, all below N -/
theorem few_of_inj {f : Nat → Nat} {n N : Nat} (hf : ∀ i, i < n → f i < N) (hi : ∀ i j, i < j → j < n → f i ≠ f j) : n ≤ N := by
  have z := nodup_bound N ((List.range n).map f) ?_ ?_
  · rw [List.length_map, List.length_range] at z
    exact z
  · rw [List.nodup_iff_pairwise_ne] at *
    rw [List.pairwise_map]
    refine List.Pairwise.imp_of_mem (R := fun a b => a < b) (fun {a b} ha hb hab => ?_) List.pairwise_lt_range
    exact hi a b hab (List.mem_range.mp hb)
  · intro x hx
    obtain ⟨i, hi', e⟩ := List.mem_map.mp hx
    rw [← e]
    exact hf i (List.mem_range.mp hi')
def hcode : List Nat → Nat
  | [] => 0
  | c :: r => (c - 96) + 5 * hcode r
theorem letter_lt {c : Nat} (h : c ∈ abcd) : 1 ≤ c - 96 ∧ c - 96 ≤ 4 ∧ 96 < c := by
  simp only [List.mem_cons, List.not_mem_nil, or_false] at h
  omega
theorem hcode_inj : ∀ {a b : List Nat}, Letters a → Letters b → hcode a = hcode b → a = b
  | [], [], _, _, _ => rfl
  | [], c :: r, _, hb, e => by
    have := letter_lt (hb c (List.mem_cons_self ..))
    simp only [hcode] at e
    omega
  | c :: r, [], ha, _, e => by
    have := letter_lt (ha c (List.mem_cons_self ..))
    simp only [hcode] at e
    omega
  | c :: r, d :: t, ha, hb, e => by
    have h1 := letter_lt (ha c (List.mem_cons_self ..))
    have h2 := letter_lt (hb d (List.mem_cons_self ..))
    simp only [hcode] at e
    have e1 : c = d := by omega
    have e2 : hcode r = hcode t := by omega
    rw [e1, hcode_inj (fun x hx => ha x (List.mem_cons_of_mem _ hx)) (fun x hx => hb x (List.mem_cons_of_mem _ hx)) e2]
theorem hcode_lt {a : List Nat} (ha : Letters a) (h3 : a.length ≤ 3) : hcode a < 125 := by
  have h := fun c (hc : c ∈ a) => letter_lt (ha c hc)
  match a, h3, h with
  | [], _, _ => decide
  | [x], _, h => have := h x (by simp); simp only [hcode]; omega
  | [x, y], _, h => have := h x (by simp); have := h y (by simp); simp only [hcode]; omega
  | [x, y, z], _, h => have := h x (by simp); have := h y (by simp); have := h z (by simp); simp only [hcode]; omega
/-- states that are not broken, three items at most -/
def code3 (s : S) : Nat := s.mark * 125 + hcode s.held
theorem code3_lt {s : S} (h : OkS 3 s) : code3 s < 500 := by
  have := hcode_lt h.let_ h.len
  have := h.mark
  unfold code3
  omega
theorem code3_inj {s t : S} (h : OkS 3 s) (g : OkS 3 t) (hs : s.brk = false) (ht : t.brk = false) (e : code3 s = code3 t) : s = t := by
  have h1 := hcode_lt h.let_ h.len
  have h2 := hcode_lt g.let_ g.len
  unfold code3 at e
  have e1 : s.mark = t.mark := by omega
  have e2 := hcode_inj h.let_ g.let_ (by omega)
  cases s
  cases t
  simp only at e1 e2 hs ht
  rw [e1, e2, hs, ht]
/-- two items at most: 84, and the broken ones -/
def hc2 : List Nat → Nat
  | [] => 0
  | [x] => 1 + (x - 97)
  | x :: y :: _ => 5 + 4 * (x - 97) + (y - 97)
def code2 (s : S) : Nat := if s.brk = true then 84 + s.mark else s.mark * 21 + hc2 s.held
theorem hc2_lt {a : List Nat} (ha : Letters a) (h2 : a.length ≤ 2) : hc2 a < 21 := by
  have h := fun c (hc : c ∈ a) => letter_lt (ha c hc)
  match a, h2, h with
  | [], _, _ => decide
  | [x], _, h => have := h x (by simp); simp only [hc2]; omega
  | [x, y], _, h => have := h x (by simp); have := h y (by simp); simp only [hc2]; omega
theorem hc2_inj {a b : List Nat} (ha : Letters a) (hb : Letters b) (h2 : a.length ≤ 2) (g2 : b.length ≤ 2) (e : hc2 a = hc2 b) : a = b := by
  have h := fun c (hc : c ∈ a) => letter_lt (ha c hc)
  have g := fun c (hc : c ∈ b) => letter_lt (hb c hc)
  match a, h2, h, b, g2, g, e with
  | [], _, _, [], _, _, _ => rfl
  | [], _, _, [x], _, g, e => have := g x (by simp); simp only [hc2] at e; omega
  | [], _, _, [x, y], _, g, e => have := g x (by simp); simp only [hc2] at e; omega
  | [x], _, h, [], _, _, e => have := h x (by simp); simp only [hc2] at e; omega
  | [x], _, h, [y], _, g, e =>
    have := h x (by simp)
    have := g y (by simp)
    simp only [hc2] at e
    have : x = y := by omega
    rw [this]
  | [x], _, h, [y, z], _, g, e => have := h x (by simp); have := g y (by simp); have := g z (by simp); simp only [hc2] at e; omega
  | [x, y], _, h, [], _, _, e => have := h x (by simp); simp only [hc2] at e; omega
  | [x, y], _, h, [z], _, g, e => have := h x (by simp); have := h y (by simp); have := g z (by simp); simp only [hc2] at e; omega
  | [x, y], _, h, [z, u], _, g, e =>
    have := h x (by simp)
    have := h y (by simp)
    have := g z (by simp)
    have := g u (by simp)
    simp only [hc2] at e
    have e1 : x = z := by omega
    have e2 : y = u := by omega
    rw [e1, e2]
theorem code2_lt {s : S} (h : OkS 2 s) : code2 s < 88 := by
  have := hc2_lt h.let_ h.len
  have := h.mark
  unfold code2
  split <;> omega
theorem code2_inj {s t : S} (h : OkS 2 s) (g : OkS 2 t) (e : code2 s = code2 t) : s = t := by
  have h1 := hc2_lt h.let_ h.len
  have h2 := hc2_lt g.let_ g.len
  have m1 := h.mark
  have m2 := g.mark
  have b1 := h.brk
  have b2 := g.brk
  unfold code2 at e
  obtain ⟨sm, sh, sb⟩ := s
  obtain ⟨tm, th, tb⟩ := t
  cases sb <;> cases tb <;> simp only [if_true, if_false, Bool.false_eq_true, reduceIte] at e b1 b2 <;> simp only at m1 m2 h1 h2
  · have e1 : sm = tm := by omega
    have e2 := hc2_inj h.let_ g.let_ h.len g.len (by simp only; omega)
    simp only at e2
    rw [e1, e2]
  · omega
  · omega
  · have e1 : sm = tm := by omega
    rw [e1, b1 trivial, b2 trivial]
/-- no more than 500 passes before it ends or comes back -/
theorem passes_few {L : Lo} (hV : VLo L) {s : S} (h : OkS 3 s) {least k : Nat} (hn : ∀ j, j < k → ¬ Done least (stN L s j)) (hi : ∀ i j, i < j → j < k → stN L s i ≠ stN L s j) : k ≤ 500 := by
  have nb : ∀ j, j < k → (stN L s j).brk = false := fun j hj => by
    cases e : (stN L s j).brk with
    | false => rfl
    | true => exact absurd (.inr e) (hn j hj)
  exact few_of_inj (f := fun j => code3 (stN L s j)) (fun i _ => code3_lt (stN_ok hV h i)) fun i j hij hj e => hi i j hij hj (code3_inj (stN_ok hV h i) (stN_ok hV h j) (nb i (Nat.lt_trans hij hj)) (nb j hj) e)
theorem ends_few {L : Lo} (hV : VLo L) {s : S} (h : OkS 3 s) {least k : Nat} (hk : Ends L least s k) : k ≤ 500 :=
  passes_few hV h hk.1 fun i j hij hj e => (never_of_rep hij e fun m hm => hk.1 m (Nat.lt_of_le_of_lt hm hj)) k hk.2
/-! ### feeding -/
open Classical in
/-- an item is fed: what is written, how many passes, the state behind -/
noncomputable def fed (L : Lo) (s : S) (c : Nat) : Option (List Nat × Nat × S) :=
  if s.brk = true then some ([c], 0, s)
  else if h : ∃ k, Ends L 3 ⟨s.mark, s.held ++ [c], false⟩ k then some ((wlN L ⟨s.mark, s.held ++ [c], false⟩ h.choose).flatten, h.choose, stN L ⟨s.mark, s.held ++ [c], false⟩ h.choose)
  else none
theorem fed_brk {L : Lo} {s : S} {c : Nat} (h : s.brk = true) : fed L s c = some ([c], 0, s) := by unfold fed; rw [if_pos h]
theorem fed_ends {L : Lo} {s : S} {c k : Nat} (h : s.brk = false) (hk : Ends L 3 ⟨s.mark, s.held ++ [c], false⟩ k) :
    fed L s c = some ((wlN L ⟨s.mark, s.held ++ [c], false⟩ k).flatten, k, stN L ⟨s.mark, s.held ++ [c], false⟩ k) := by
  unfold fed
  have hx : ∃ k, Ends L 3 ⟨s.mark, s.held ++ [c], false⟩ k := ⟨k, hk⟩
  rw [if_neg (by rw [h]; exact Bool.false_ne_true), dif_pos hx, ends_unique hx.choose_spec hk]
theorem fed_never {L : Lo} {s : S} {c : Nat} (h : s.brk = false) (hk : Never L 3 ⟨s.mark, s.held ++ [c], false⟩) : fed L s c = none := by
  unfold fed
  rw [if_neg (by rw [h]; exact Bool.false_ne_true), dif_neg fun ⟨k, z⟩ => hk k z.2]
noncomputable def feedL (L : Lo) (s : S) : List Nat → Option (List Nat × Nat × S)
  | [] => some ([], 0, s)
  | c :: r => (fed L s c).bind fun x => (feedL L x.2.2 r).bind fun y => some (x.1 ++ y.1, x.2.1 + y.2.1, y.2.2)
theorem feedL_app (L : Lo) : ∀ (l m : List Nat) (s : S), feedL L s (l ++ m) = (feedL L s l).bind fun x => (feedL L x.2.2 m).bind fun y => some (x.1 ++ y.1, x.2.1 + y.2.1, y.2.2)
  | [], m, s => by
    show feedL L s m = (feedL L s m).bind fun y => some ([] ++ y.1, 0 + y.2.1, y.2.2)
    cases feedL L s m with
    | none => rfl
    | some y =>
      show some y = some ([] ++ y.1, 0 + y.2.1, y.2.2)
      rw [List.nil_append, Nat.zero_add]
  | c :: r, m, s => by
    show (fed L s c).bind _ = ((fed L s c).bind _).bind _
    cases fed L s c with
    | none => rfl
    | some x =>
      show (feedL L x.2.2 (r ++ m)).bind _ = ((feedL L x.2.2 r).bind _).bind _
      rw [feedL_app L r m x.2.2]
      cases feedL L x.2.2 r with
      | none => rfl
      | some y =>
        show ((feedL L y.2.2 m).bind _).bind _ = (feedL L y.2.2 m).bind _
        cases feedL L y.2.2 m with
        | none => rfl
        | some z =>
          show some (x.1 ++ (y.1 ++ z.1), x.2.1 + (y.2.1 + z.2.1), z.2.2) = some (x.1 ++ y.1 ++ z.1, x.2.1 + y.2.1 + z.2.1, z.2.2)
          rw [List.append_assoc, Nat.add_assoc]
/-- what is fed keeps within bounds -/
structure FedOk (L : Lo) (n : Nat) (x : List Nat × Nat × S) : Prop where
  st : OkS 2 x.2.2
  let_ : Letters x.1
  len : x.1.length ≤ 510 * n
  passes : x.2.1 ≤ 500 * n
theorem flat_letters {ws : List (List Nat)} (h : ∀ w ∈ ws, Letters w) : Letters ws.flatten := fun c hc => by
  obtain ⟨w, hw, hcw⟩ := List.mem_flatten.mp hc
  exact h w hw c hcw
theorem wl_letters {L : Lo} (hV : VLo L) {n : Nat} {s : S} (h : OkS n s) (k : Nat) : ∀ w ∈ wlN L s k, Letters w := fun w hw => by
  obtain ⟨j, _, e⟩ := wlN_mem hw
  rw [e]
  exact (stepS_ok hV (stN_ok hV h j)).2.1
theorem wl_len {L : Lo} (hV : VLo L) {n least : Nat} {s : S} (h : OkS n s) : ∀ k, (∀ j, j < k → ¬ Done least (stN L s j)) → (wlN L s k).flatten.length ≤ k + n
  | 0, _ => Nat.zero_le _
  | k + 1, hn => by
    have hs := stepS_ok hV (stN_ok hV h k)
    show (wlN L s k ++ [(stepS L (stN L s k)).1]).flatten.length ≤ k + 1 + n
    rw [List.flatten_append, List.length_append, List.flatten_singleton]
    -- all passes ahead of the last write one at most
    have one : ∀ m, m ≤ k → (wlN L s m).flatten.length ≤ m := by
      intro m
      induction m with
      | zero => intro _; exact Nat.le_refl _
      | succ m ih =>
        intro hm
        have z := ih (by omega)
        have hb : (stN L s (m + 1)).brk = false := by
          cases e : (stN L s (m + 1)).brk with
          | false => rfl
          | true => exact absurd (.inr e) (hn (m + 1) (by omega))
        have w1 := (stepS_ok hV (stN_ok hV h m)).2.2.2 hb
        show (wlN L s m ++ [(stepS L (stN L s m)).1]).flatten.length ≤ m + 1
        rw [List.flatten_append, List.length_append, List.flatten_singleton]
        omega
    have z := one k (Nat.le_refl _)
    have := hs.2.2.1
    omega
theorem done_ok {L : Lo} (hV : VLo L) {n m : Nat} {s : S} (h : OkS n s) {k : Nat} (hd : Done (m + 1) (stN L s k)) : OkS m (stN L s k) := by
  have z := stN_ok hV h k
  refine ⟨z.mark, z.let_, ?_, z.brk⟩
  rcases hd with hd | hd
  · omega
  · rw [z.brk hd]
    exact Nat.zero_le _
theorem fed_ok {L : Lo} (hV : VLo L) {s : S} (h : OkS 2 s) {c : Nat} (hc : c ∈ abcd) {x : List Nat × Nat × S} (e : fed L s c = some x) : FedOk L 1 x := by
  cases hb : s.brk with
  | true =>
    rw [fed_brk hb] at e
    cases e
    exact ⟨h, .one hc, by show 1 ≤ 510 * 1; omega, Nat.zero_le _⟩
  | false =>
    have h3 : OkS 3 ⟨s.mark, s.held ++ [c], false⟩ := ⟨h.mark, h.let_.app (.one hc), by have := h.len; simp only [List.length_append, List.length_singleton]; omega, fun z => by cases z⟩
    rcases never_or_ends L 3 ⟨s.mark, s.held ++ [c], false⟩ with hk | ⟨k, hk⟩
    · rw [fed_never hb hk] at e
      cases e
    · rw [fed_ends hb hk] at e
      cases e
      have hf := ends_few hV h3 hk
      have hl := wl_len hV h3 k hk.1
      exact ⟨done_ok hV h3 hk.2, flat_letters (wl_letters hV h3 k), by dsimp only; omega, by dsimp only; omega⟩
theorem feedL_ok {L : Lo} (hV : VLo L) : ∀ (l : List Nat) (s : S), OkS 2 s → Letters l → ∀ x, feedL L s l = some x → FedOk L l.length x
  | [], s, h, _, x, e => by
    cases e
    exact ⟨h, (fun _ h => nomatch h), Nat.zero_le _, Nat.zero_le _⟩
  | c :: r, s, h, hl, x, e => by
    have e' : (fed L s c).bind (fun x => (feedL L x.2.2 r).bind fun y => some (x.1 ++ y.1, x.2.1 + y.2.1, y.2.2)) = some x := e
    cases e1 : fed L s c with
    | none => rw [e1] at e'; cases e'
    | some y =>
      rw [e1, Option.bind_some] at e'
      have k1 := fed_ok hV h (hl c (List.mem_cons_self ..)) e1
      cases e2 : feedL L y.2.2 r with
      | none => rw [e2] at e'; cases e'
      | some z =>
        rw [e2, Option.bind_some] at e'
        cases e'
        have k2 := feedL_ok hV r y.2.2 k1.st (fun c hc => hl c (List.mem_cons_of_mem _ hc)) z e2
        have a1 := k1.len
        have a2 := k2.len
        have a3 := k1.passes
        have a4 := k2.passes
        refine ⟨k2.st, k1.let_.app k2.let_, ?_, ?_⟩
        · dsimp only
          rw [List.length_append, List.length_cons]
          omega
        · dsimp only
          rw [List.length_cons]
          omega
/-! ### the end -/
open Classical in
noncomputable def fin (L : Lo) (s : S) : Option (List Nat × Nat × Bool) :=
  if h : ∃ k, Ends L 1 s k then some ((wlN L s h.choose).flatten ++ (if (stN L s h.choose).brk = true then [] else L.ends.getD (stN L s h.choose).mark []), h.choose, (stN L s h.choose).brk)
  else none
theorem fin_ends {L : Lo} {s : S} {k : Nat} (hk : Ends L 1 s k) : fin L s = some ((wlN L s k).flatten ++ (if (stN L s k).brk = true then [] else L.ends.getD (stN L s k).mark []), k, (stN L s k).brk) := by
  unfold fin
  have hx : ∃ k, Ends L 1 s k := ⟨k, hk⟩
  rw [dif_pos hx, ends_unique hx.choose_spec hk]
theorem fin_never {L : Lo} {s : S} (hk : Never L 1 s) : fin L s = none := by
  unfold fin
  rw [dif_neg fun ⟨k, z⟩ => hk k z.2]
def s0 : S := ⟨0, [], false⟩
theorem s0_ok : OkS 2 s0 := ⟨by decide, (fun _ h => nomatch h), Nat.zero_le _, fun _ => rfl⟩
noncomputable def whole (L : Lo) (l : List Nat) : Option (List Nat × Nat × Bool) :=
  (feedL L s0 l).bind fun x => (fin L x.2.2).bind fun y => some (x.1 ++ y.1, x.2.1 + y.2.1, y.2.2)
end OB
set_option Elab.async false
set_option linter.all false
set_option maxRecDepth 100000
set_option maxHeartbeats 4000000
namespace OB
open PySem PySem.Spec PySem.Calls PyProof.Rows L2 PySem.W StX
/-! ### stays, tracks, feeders in the heap -/
def IsStay (K : Frag) (H : Hp) (v : V) (s : S) : Prop := ∃ a dx, v = .ref a ∧ H a = some (.ins (He.ga K "Stay") dx (sF s.mark s.held s.brk))
/-- a track at a, its list at l -/
def TrkAt (K : Frag) (H : Hp) (a l : Addr) (ps : Prs') (n : Nat) : Prop := (∃ dx, H a = some (.ins (He.ga K "Track") dx (kF (.ref l) (n : Int)))) ∧ IsPairs H l ps
theorem ofS_inj : ∀ {a b : String}, (PySem.Str.ofString a == PySem.Str.ofString b) = false → PySem.Str.ofString a ≠ PySem.Str.ofString b := fun h e => by
  rw [e, beq_self_eq_true] at h
  cases h
theorem sF_ne_kF {m : Nat} {h : List Nat} {b : Bool} {p : V} {n : Int} : sF m h b ≠ kF p n := fun e => by
  have := (List.cons.inj e).1
  have := (Prod.mk.inj this).1
  exact absurd this (by decide +kernel)
/-- what stands there may be changed: no tuple, no stay -/
def Soft (H : Hp) (a : Addr) : Prop := (∀ xs, H a ≠ some (.tup xs)) ∧ ∀ C dx m h b, H a ≠ some (.ins C dx (sF m h b))
theorem Soft.none {H : Hp} {a : Addr} (h : H a = none) : Soft H a := by
  refine ⟨fun _ z => ?_, fun _ _ _ _ _ z => ?_⟩ <;> (rw [h] at z; cases z)
theorem Soft.lst {H : Hp} {a : Addr} {xs : List V} (h : H a = some (.lst xs)) : Soft H a := by
  refine ⟨fun _ z => ?_, fun _ _ _ _ _ z => ?_⟩ <;> (rw [h] at z; cases z)
theorem Soft.trk {H : Hp} {a C dx : Addr} {p : V} {n : Int} (h : H a = some (.ins C dx (kF p n))) : Soft H a := by
  refine ⟨fun _ z => ?_, fun C' dx' m' h' b' z => ?_⟩
  · rw [h] at z
    cases z
  · rw [h] at z
    exact sF_ne_kF (HO.ins.inj (Option.some.inj z)).2.2.symm
theorem Soft.nd {H : Hp} {a : Addr} {P : Program} {w : World} {kvs : NEs} (h : H a = some (ndO P w a kvs)) : Soft H a := by
  refine ⟨fun _ z => ?_, fun _ _ _ _ _ z => ?_⟩ <;> (rw [h] at z; cases z)
theorem TrkAt.soft {K : Frag} {H : Hp} {a l : Addr} {ps : Prs'} {n : Nat} (h : TrkAt K H a l ps n) : Soft H a ∧ Soft H l := by
  obtain ⟨⟨dx, e⟩, vs, e2, _⟩ := h
  exact ⟨.trk e, .lst e2⟩
/-- tuples and stays stand -/
structure Kst (H H' : Hp) : Prop where
  tk : TK H H'
  st : ∀ a C dx m h b, H a = some (.ins C dx (sF m h b)) → H' a = some (.ins C dx (sF m h b))
theorem Kp.kst {M : List Addr} {H H' : Hp} (k : Kp M H H') (h : ∀ a ∈ M, Soft H a) : Kst H H' :=
  ⟨fun a xs e => k a _ e fun z => (h a z).1 xs e, fun a C dx m g b e => k a _ e fun z => (h a z).2 C dx m g b e⟩
theorem Kst.rfl' {H : Hp} : Kst H H := ⟨TK.rfl', fun _ _ _ _ _ _ h => h⟩
theorem Kst.trans {H H1 H2 : Hp} (x : Kst H H1) (y : Kst H1 H2) : Kst H H2 := ⟨x.tk.trans y.tk, fun a C dx m g b e => y.st a C dx m g b (x.st a C dx m g b e)⟩
theorem Ext.kst {H H' : Hp} (x : Ext H H') : Kst H H' := ⟨Ext.tk x, fun a _ _ _ _ _ e => x a _ e⟩
theorem IsStay.keep {K : Frag} {H H' : Hp} {v : V} {s : S} (k : Kst H H') (h : IsStay K H v s) : IsStay K H' v s := by
  obtain ⟨a, dx, e1, e2⟩ := h
  exact ⟨a, dx, e1, k.st _ _ _ _ _ _ e2⟩
theorem TrkAt.mono {K : Frag} {H H' : Hp} {a l : Addr} {ps : Prs'} {n : Nat} (e : Ext H H') (h : TrkAt K H a l ps n) : TrkAt K H' a l ps n := by
  obtain ⟨⟨dx, e1⟩, p⟩ := h
  exact ⟨⟨dx, e _ _ e1⟩, p.mono e⟩
/-- texts of a list of pairs, all behind one another; their numbers' sum -/
def tts (rs : Prs') : List Nat := (rs.map (·.1)).flatten
def mds (rs : Prs') : Nat := (rs.map (·.2)).sum
/-- each once -/
def ones (rs : Prs') : Prs' := rs.map fun q => (q.1, 1)
theorem den_ones (rs : Prs') : den (ones rs) = tts rs := by
  induction rs with
  | nil => rfl
  | cons q r ih =>
    show pw q.1 1 ++ den (ones r) = q.1 ++ tts r
    rw [pw_one, ih]
theorem tts_append (a b : Prs') : tts (a ++ b) = tts a ++ tts b := by unfold tts; rw [List.map_append, List.flatten_append]
theorem mds_append (a b : Prs') : mds (a ++ b) = mds a + mds b := by unfold mds; rw [List.map_append, List.sum_append]
/-- what may be written in a track -/
structure Tk (N : Nat) (ps : Prs') : Prop where
  up : Upto 1000000 ps
  abc : Abc ps
  len : ps.length ≤ N
theorem Tk.app {N M : Nat} {ps qs : Prs'} (h : Tk N ps) (g : Tk M qs) : Tk (N + M) (ps ++ qs) :=
  ⟨fun q hq => (List.mem_append.mp hq).elim (h.up q) (g.up q), fun q hq => (List.mem_append.mp hq).elim (h.abc q) (g.abc q), by rw [List.length_append]; have := h.len; have := g.len; omega⟩
theorem Tk.mono {N M : Nat} {ps : Prs'} (h : Tk N ps) (e : N ≤ M) : Tk M ps := ⟨h.up, h.abc, Nat.le_trans h.len e⟩
theorem Tk.one {t : List Nat} {n : Nat} (h : t.length ≤ 1000000) (a : Letters t) : Tk 1 [(t, n)] :=
  ⟨fun q hq => by rw [List.mem_singleton.mp hq]; exact h, fun q hq => by rw [List.mem_singleton.mp hq]; exact a, Nat.le_refl _⟩
end OB
set_option Elab.async false
set_option linter.all false
set_option maxRecDepth 100000
set_option maxHeartbeats 4000000
namespace OB
open PySem PySem.Spec PySem.Calls PyProof.Rows L2 PySem.W StX
section
variable {P : Program} {w : World} {K : Frag} {mg : Str → Option Value} {base : Heap}
/- Result.__init__: slots self=0 text=1 passes=2 ways=3 -/
def sp_Result_init (K : Frag) : Sp := fun vs H Q _ => ∃ p dx r y z, vs = [.ref p, r, y, z] ∧ H p = some (.ins (He.ga K "Result") dx []) ∧ ∀ H', Kp [p] H H' → H' p = some (.ins (He.ga K "Result") dx (zF r y z)) → Q .non H'
def N_Result_init : List Str := ["self", "text", "passes", "ways"]
theorem sc_Result_init : FnScope N_Result_init ["self", "text", "passes", "ways"] (defScope s_Result_init) := ⟨rfl, rfl, rfl, by decide +kernel, rfl, by decide +kernel, by decide +kernel⟩
theorem ok_Result_init (T : Txt K mg w) : FnR P w K mg base CX0 1 (He.ma K (He.ga K "Result") "__init__") (sp_Result_init K) := by
  refine ok_of T.f_Result_init sc_Result_init (fun _ _ _ _ _ _ us hl => match us, hl with | [_, _, _, _], _ => rfl) (fun vs H Q E h => ?_) (fun cdv A outer s H vs Q E hr h => ?_)
  · repeat (first | (obtain ⟨rfl, _⟩ := h; rfl) | (obtain ⟨_, h⟩ := h))
  refine ⟨_, (pss_cons (ps_fld (pv 0) (pv 1) rfl)
    (pss_cons (ps_fld (pv 0) (pv 2) rfl)
    (pss_one (ps_fld (pv 0) (pv 3) rfl)))), ?_⟩
  obtain ⟨p, dx, r, y, z, rfl, hp, q⟩ := h
  refine ⟨_, rfl, _, rfl, _, _, _, _, rfl, hp, T.c_Result, T.n_Result_remains, by show 0 < 1000; decide, ?_⟩
  rw [zF_new0 r y z]
  refine ⟨_, rfl, _, rfl, _, _, _, _, rfl, upd_same, T.c_Result, T.n_Result_made, by show 1 < 1000; decide, ?_⟩
  rw [zF_new1 r y z]
  refine ⟨_, rfl, _, rfl, _, _, _, _, rfl, upd_same, T.c_Result, T.n_Result_ended, by show 2 < 1000; decide, ?_⟩
  rw [zF_new2 r y z]
  exact q _ (((Kp.put (by simp)).trans (Kp.put (by simp))).trans (Kp.put (by simp))) upd_same
/- Result.text: slots self=0 -/
def sp_Result_text (K : Frag) : Sp := fun vs H Q _ => ∃ a dx r y z, vs = [.ref a] ∧ H a = some (.ins (He.ga K "Result") dx (zF r y z)) ∧ Q r H
def N_Result_text : List Str := ["self"]
theorem sc_Result_text : FnScope N_Result_text ["self"] (defScope s_Result_text) := ⟨rfl, rfl, rfl, by decide +kernel, rfl, by decide +kernel, by decide +kernel⟩
theorem ok_Result_text (T : Txt K mg w) : FnR P w K mg base CX0 1 (pg K (He.ga K "Result") "text") (sp_Result_text K) := by
  refine ok_of T.f_Result_text sc_Result_text (fun _ _ _ _ _ _ us hl => match us, hl with | [_], _ => rfl) (fun vs H Q E h => ?_) (fun cdv A outer s H vs Q E hr h => ?_)
  · repeat (first | (obtain ⟨rfl, _⟩ := h; rfl) | (obtain ⟨_, h⟩ := h))
  refine ⟨_, (pss_one (ps_ret (pe_fld (pv 0) rfl))), ?_⟩
  obtain ⟨a, dx, r, y, z, rfl, ha, q⟩ := h
  exact ⟨_, rfl, _, _, _, _, _, rfl, ha, T.c_Result, T.n_Result_remains, zF_remains r y z, q⟩
/- Result.passes: slots self=0 -/
def sp_Result_passes (K : Frag) : Sp := fun vs H Q _ => ∃ a dx r y z, vs = [.ref a] ∧ H a = some (.ins (He.ga K "Result") dx (zF r y z)) ∧ Q y H
def N_Result_passes : List Str := ["self"]
theorem sc_Result_passes : FnScope N_Result_passes ["self"] (defScope s_Result_passes) := ⟨rfl, rfl, rfl, by decide +kernel, rfl, by decide +kernel, by decide +kernel⟩
theorem ok_Result_passes (T : Txt K mg w) : FnR P w K mg base CX0 1 (pg K (He.ga K "Result") "passes") (sp_Result_passes K) := by
  refine ok_of T.f_Result_passes sc_Result_passes (fun _ _ _ _ _ _ us hl => match us, hl with | [_], _ => rfl) (fun vs H Q E h => ?_) (fun cdv A outer s H vs Q E hr h => ?_)
  · repeat (first | (obtain ⟨rfl, _⟩ := h; rfl) | (obtain ⟨_, h⟩ := h))
  refine ⟨_, (pss_one (ps_ret (pe_fld (pv 0) rfl))), ?_⟩
  obtain ⟨a, dx, r, y, z, rfl, ha, q⟩ := h
  exact ⟨_, rfl, _, _, _, _, _, rfl, ha, T.c_Result, T.n_Result_made, zF_made r y z, q⟩
/- Result.ways: slots self=0 -/
def sp_Result_ways (K : Frag) : Sp := fun vs H Q _ => ∃ a dx r y z, vs = [.ref a] ∧ H a = some (.ins (He.ga K "Result") dx (zF r y z)) ∧ Q z H
def N_Result_ways : List Str := ["self"]
theorem sc_Result_ways : FnScope N_Result_ways ["self"] (defScope s_Result_ways) := ⟨rfl, rfl, rfl, by decide +kernel, rfl, by decide +kernel, by decide +kernel⟩
theorem ok_Result_ways (T : Txt K mg w) : FnR P w K mg base CX0 1 (pg K (He.ga K "Result") "ways") (sp_Result_ways K) := by
  refine ok_of T.f_Result_ways sc_Result_ways (fun _ _ _ _ _ _ us hl => match us, hl with | [_], _ => rfl) (fun vs H Q E h => ?_) (fun cdv A outer s H vs Q E hr h => ?_)
  · repeat (first | (obtain ⟨rfl, _⟩ := h; rfl) | (obtain ⟨_, h⟩ := h))
  refine ⟨_, (pss_one (ps_ret (pe_fld (pv 0) rfl))), ?_⟩
  obtain ⟨a, dx, r, y, z, rfl, ha, q⟩ := h
  exact ⟨_, rfl, _, _, _, _, _, rfl, ha, T.c_Result, T.n_Result_ended, zF_ended r y z, q⟩
/- Stay.__init__: slots self=0 mark=1 held=2 is_broken=3 -/
def sp_Stay_init (K : Frag) : Sp := fun vs H Q _ => ∃ p dx, ∃ m : Nat, ∃ h b, vs = [.ref p, .int (m : Int), .str (tx h), .bl b] ∧ H p = some (.ins (He.ga K "Stay") dx []) ∧ ∀ H', Kp [p] H H' → H' p = some (.ins (He.ga K "Stay") dx (sF m h b)) → Q .non H'
def N_Stay_init : List Str := ["self", "mark", "held", "is_broken"]
theorem sc_Stay_init : FnScope N_Stay_init ["self", "mark", "held", "is_broken"] (defScope s_Stay_init) := ⟨rfl, rfl, rfl, by decide +kernel, rfl, by decide +kernel, by decide +kernel⟩
theorem okk_Stay_init (T : Txt K mg w) : ∃ fd, FunD K "__init__" "Stay.__init__" (defArgs s_Stay_init) (defBody s_Stay_init) (defScope s_Stay_init) [.bl false] [] (He.ma K (He.ga K "Stay") "__init__") fd ∧
    FnOk P w K mg base CX0 1 (He.ma K (He.ga K "Stay") "__init__") fd ["self", "mark", "held", "is_broken"] (sp_Stay_init K) := by
  obtain ⟨fd, F⟩ := T.f_Stay_init
  refine ⟨fd, F, F.ok sc_Stay_init (fun vs H Q E h => ?_) (fun cdv A outer s H vs Q E hr h => ?_)⟩
  · repeat (first | (obtain ⟨rfl, _⟩ := h; rfl) | (obtain ⟨_, h⟩ := h))
  refine (fun ⟨t, p, q⟩ => ⟨t, PSs.nox p, q⟩ : (∃ t, PSs (cxOf CX0 P w K mg base N_Stay_init "Stay.__init__" (defScope s_Stay_init) (He.ma K (He.ga K "Stay") "__init__") cdv A outer s H E).nox (defBody s_Stay_init) t ∧ t { nx := fun _ H' => Q .non H', rt := Q } (start N_Stay_init vs) H) → _) ?_
  refine ⟨_, (pss_cons (ps_fld (pv 0) (pv 1) rfl)
    (pss_cons (ps_fld (pv 0) (pv 2) rfl)
    (pss_one (ps_fld (pv 0) (pv 3) rfl)))), ?_⟩
  obtain ⟨p, dx, m, h, b, rfl, hp, q⟩ := h
  refine ⟨_, rfl, _, rfl, _, _, _, _, rfl, hp, T.c_Stay, T.n_Stay_mark, by show 0 < 1000; decide, ?_⟩
  rw [sF_new0 m h b]
  refine ⟨_, rfl, _, rfl, _, _, _, _, rfl, upd_same, T.c_Stay, T.n_Stay_held, by show 1 < 1000; decide, ?_⟩
  rw [sF_new1 m h b]
  refine ⟨_, rfl, _, rfl, _, _, _, _, rfl, upd_same, T.c_Stay, T.n_Stay_is_broken, by show 2 < 1000; decide, ?_⟩
  rw [sF_new2 m h b]
  exact q _ (((Kp.put (by simp)).trans (Kp.put (by simp))).trans (Kp.put (by simp))) upd_same
theorem ok_Stay_init (T : Txt K mg w) : FnR P w K mg base CX0 1 (He.ma K (He.ga K "Stay") "__init__") (sp_Stay_init K) := by
  obtain ⟨fd, F, O⟩ := okk_Stay_init (P := P) (base := base) T
  obtain ⟨ds, hd, hb⟩ := F.binds1 (ps := ["self", "mark", "held", "is_broken"]) 4 1 (by simp) rfl (fun T kV doc pm an cdv ct us its h1 h2 => match us, its, h1, h2 with | [_, _, _, _], [_], _, _ => ⟨_, rfl, rfl⟩)
  exact (O.raw hb hd).imp fun vs H Q E h => by
    show sp_Stay_init K (vs ++ []) H Q E
    rw [List.append_nil]
    exact h
def sp_Stay_init2 (K : Frag) : Sp := fun vs H Q E => sp_Stay_init K (vs ++ [.bl false]) H Q E
theorem ok_Stay_init2 (T : Txt K mg w) : FnR P w K mg base CX0 1 (He.ma K (He.ga K "Stay") "__init__") (sp_Stay_init2 K) := by
  obtain ⟨fd, F, O⟩ := okk_Stay_init (P := P) (base := base) T
  obtain ⟨ds, hd, hb⟩ := F.binds1 (ps := ["self", "mark", "held", "is_broken"]) 3 0 (by simp) rfl (fun T kV doc pm an cdv ct us its h1 h2 => match us, its, h1, h2 with | [_, _, _], [_], _, _ => ⟨_, rfl, rfl⟩)
  exact O.raw hb hd
/- Stay.key: slots self=0 -/
def keyV (s : S) : List V := [.int (s.mark : Int), .str (tx s.held), .bl s.brk]
def sp_Stay_key (K : Frag) : Sp := fun vs H Q _ => ∃ v s, vs = [v] ∧ IsStay K H v s ∧ ∀ p, H p = none → Q (.ref p) (upd H p (.tup (keyV s)))
def N_Stay_key : List Str := ["self"]
theorem sc_Stay_key : FnScope N_Stay_key ["self"] (defScope s_Stay_key) := ⟨rfl, rfl, rfl, by decide +kernel, rfl, by decide +kernel, by decide +kernel⟩
theorem ok_Stay_key (T : Txt K mg w) : FnR P w K mg base CX0 1 (He.ma K (He.ga K "Stay") "key") (sp_Stay_key K) := by
  refine ok_of T.f_Stay_key sc_Stay_key (fun _ _ _ _ _ _ us hl => match us, hl with | [_], _ => rfl) (fun vs H Q E h => ?_) (fun cdv A outer s H vs Q E hr h => ?_)
  · repeat (first | (obtain ⟨rfl, _⟩ := h; rfl) | (obtain ⟨_, h⟩ := h))
  refine ⟨_, (pss_one (ps_ret (pe_tup (pa_cons (pe_fld (pv 0) rfl) (pa_cons (pe_fld (pv 0) rfl) (pa_cons (pe_fld (pv 0) rfl) pa_nil)))))), ?_⟩
  obtain ⟨v, s, rfl, ⟨a, dx, rfl, ha⟩, q⟩ := h
  refine ⟨_, rfl, _, _, _, _, _, rfl, ha, T.c_Stay, T.n_Stay_mark, sF_mark _ _ _, ?_⟩
  refine ⟨_, rfl, _, _, _, _, _, rfl, ha, T.c_Stay, T.n_Stay_held, sF_held _ _ _, ?_⟩
  refine ⟨_, rfl, _, _, _, _, _, rfl, ha, T.c_Stay, T.n_Stay_is_broken, sF_is_broken _ _ _, ?_⟩
  exact ⟨sz2 (by simp), q⟩
/- Track.__init__: slots self=0 -/
def sp_Track_init (K : Frag) : Sp := fun vs H Q _ => ∃ p dx, vs = [.ref p] ∧ H p = some (.ins (He.ga K "Track") dx []) ∧ ∀ H' l, Kp [p] H H' → H l = none → TrkAt K H' p l [] 0 → Q .non H'
def N_Track_init : List Str := ["self"]
theorem sc_Track_init : FnScope N_Track_init ["self"] (defScope s_Track_init) := ⟨rfl, rfl, rfl, by decide +kernel, rfl, by decide +kernel, by decide +kernel⟩
theorem ok_Track_init (T : Txt K mg w) : FnR P w K mg base CX0 1 (He.ma K (He.ga K "Track") "__init__") (sp_Track_init K) := by
  refine ok_of T.f_Track_init sc_Track_init (fun _ _ _ _ _ _ us hl => match us, hl with | [_], _ => rfl) (fun vs H Q E h => ?_) (fun cdv A outer s H vs Q E hr h => ?_)
  · repeat (first | (obtain ⟨rfl, _⟩ := h; rfl) | (obtain ⟨_, h⟩ := h))
  refine ⟨_, (pss_cons (ps_fld (pv 0) (pe_lst pa_nil) rfl)
    (pss_one (ps_fld (pv 0) pe_int rfl))), ?_⟩
  obtain ⟨p, dx, rfl, hp, q⟩ := h
  refine ⟨sz2 (by simp), fun l hl => ?_⟩
  have npl : p ≠ l := fun z => by rw [← z, hp] at hl; cases hl
  refine ⟨_, rfl, _, _, _, _, rfl, by rw [upd_ne npl]; exact hp, T.c_Track, T.n_Track_pairs, by show 0 < 1000; decide, ?_⟩
  rw [kF_new0 (.ref l) 0]
  refine ⟨_, rfl, _, _, _, _, rfl, upd_same, T.c_Track, T.n_Track_made, by show 1 < 1000; decide, ?_⟩
  rw [kF_new1 (.ref l) 0]
  refine q _ l (((Kp.new hl).trans (Kp.put (by simp))).trans (Kp.put (by simp))) hl ⟨⟨dx, upd_same⟩, .nil ?_⟩
  rw [upd_ne npl.symm, upd_ne npl.symm]
  exact upd_same
/- Track.write: slots self=0 part=1 made=2 times=3 -/
def sp_Track_write (K : Frag) : Sp := fun vs H Q _ => ∃ a l ps n t, ∃ m k : Nat, vs = [.ref a, .str (tx t), .int (m : Int), .int (k : Int)] ∧ TrkAt K H a l ps n ∧ ps.length ≤ 1000000 ∧ m ≤ 1000000000 ∧
  ∀ H', Kp [a, l] H H' → TrkAt K H' a l (ps ++ [(t, k)]) (n + m * k) → Q .non H'
def N_Track_write : List Str := ["self", "part", "made", "times"]
theorem sc_Track_write : FnScope N_Track_write ["self", "part", "made", "times"] (defScope s_Track_write) := ⟨rfl, rfl, rfl, by decide +kernel, rfl, by decide +kernel, by decide +kernel⟩
theorem okk_Track_write (T : Txt K mg w) : ∃ fd, FunD K "write" "Track.write" (defArgs s_Track_write) (defBody s_Track_write) (defScope s_Track_write) [.int 1] [] (He.ma K (He.ga K "Track") "write") fd ∧
    FnOk P w K mg base CX0 1 (He.ma K (He.ga K "Track") "write") fd ["self", "part", "made", "times"] (sp_Track_write K) := by
  obtain ⟨fd, F⟩ := T.f_Track_write
  refine ⟨fd, F, F.ok sc_Track_write (fun vs H Q E h => ?_) (fun cdv A outer s H vs Q E hr h => ?_)⟩
  · repeat (first | (obtain ⟨rfl, _⟩ := h; rfl) | (obtain ⟨_, h⟩ := h))
  refine (fun ⟨t, p, q⟩ => ⟨t, PSs.nox p, q⟩ : (∃ t, PSs (cxOf CX0 P w K mg base N_Track_write "Track.write" (defScope s_Track_write) (He.ma K (He.ga K "Track") "write") cdv A outer s H E).nox (defBody s_Track_write) t ∧ t { nx := fun _ H' => Q .non H', rt := Q } (start N_Track_write vs) H) → _) ?_
  refine ⟨_, (pss_cons (ps_expr (pe_bm PySem.F.plainAttrs_list PySem.F.slot_list_append PySem.F.type_list_append mt_append (pe_fld (pv 0) rfl) (pa_cons (pe_tup (pa_cons (pv 1) (pa_cons (pv 3) pa_nil))) pa_nil)))
    (pss_one (ps_fldaug (pv 0) (pe_op op_mul (pv 2) (pv 3)) in_add))), ?_⟩
  obtain ⟨a, l, ps, n, t, m, k, rfl, ⟨⟨dx, ha⟩, hP⟩, hz, hm, q⟩ := h
  obtain ⟨xs, hx, hxl⟩ := hP.len
  have hal : a ≠ l := ne_of_at ha hx (fun z => by cases z)
  refine ⟨_, rfl, _, _, _, _, _, rfl, ha, T.c_Track, T.n_Track_pairs, kF_pairs _ _, tyL hx, _, rfl, _, rfl, sz2 (by simp), fun p hp => ?_⟩
  have E1 : Ext H (upd H p (.tup [.str (tx t), .int (k : Int)])) := Ext.upd hp
  obtain ⟨us, hus, hul, hsn⟩ := (hP.mono E1).snoc (q := (t, k)) upd_same
  have eus : us = xs := HO.lst.inj (Option.some.inj (hus.symm.trans (E1 _ _ hx)))
  subst eus
  refine ⟨_, _, _, rfl, rfl, hus, Nat.lt_of_lt_of_le (by omega) sizeBig, ?_⟩
  have ha1 : (upd (upd H p (.tup [.str (tx t), .int (k : Int)])) l (.lst (us ++ [.ref p]))) a = some (.ins (He.ga K "Track") dx (kF (.ref l) (n : Int))) := by rw [upd_ne hal]; exact E1 _ _ ha
  have k1 : Kp [a, l] H (upd (upd H p (.tup [.str (tx t), .int (k : Int)])) l (.lst (us ++ [.ref p]))) := (Kp.of E1).trans (Kp.put (by simp))
  generalize upd (upd H p (.tup [.str (tx t), .int (k : Int)])) l (.lst (us ++ [.ref p])) = H2 at hsn ha1 k1 ⊢
  refine ⟨_, rfl, _, _, _, _, _, rfl, ha1, T.c_Track, T.n_Track_made, kF_made _ _, _, rfl, _, rfl, _, _, rfl, rfl, .inl ⟨by omega, by omega⟩, _, _, rfl, rfl, _, _, ha1, by rw [kF_len]; decide, ?_⟩
  rw [kF_put_made]
  refine q _ (k1.trans (Kp.put (by simp))) ⟨⟨dx, ?_⟩, hsn.put hal.symm (fun xs z => by rw [ha1] at z; cases z)⟩
  rw [upd_same, Int.natCast_add, Int.natCast_mul]
theorem ok_Track_write (T : Txt K mg w) : FnR P w K mg base CX0 1 (He.ma K (He.ga K "Track") "write") (sp_Track_write K) := by
  obtain ⟨fd, F, O⟩ := okk_Track_write (P := P) (base := base) T
  obtain ⟨ds, hd, hb⟩ := F.binds1 (ps := ["self", "part", "made", "times"]) 4 1 (by simp) rfl (fun T kV doc pm an cdv ct us its h1 h2 => match us, its, h1, h2 with | [_, _, _, _], [_], _, _ => ⟨_, rfl, rfl⟩)
  exact (O.raw hb hd).imp fun vs H Q E h => by
    show sp_Track_write K (vs ++ []) H Q E
    rw [List.append_nil]
    exact h
def sp_Track_write2 (K : Frag) : Sp := fun vs H Q E => sp_Track_write K (vs ++ [.int ((1 : Nat) : Int)]) H Q E
theorem ok_Track_write2 (T : Txt K mg w) : FnR P w K mg base CX0 1 (He.ma K (He.ga K "Track") "write") (sp_Track_write2 K) := by
  obtain ⟨fd, F, O⟩ := okk_Track_write (P := P) (base := base) T
  obtain ⟨ds, hd, hb⟩ := F.binds1 (ps := ["self", "part", "made", "times"]) 3 0 (by simp) rfl (fun T kV doc pm an cdv ct us its h1 h2 => match us, its, h1, h2 with | [_, _, _], [_], _, _ => ⟨_, rfl, rfl⟩)
  exact O.raw hb hd
/- joined_parts: slots pairs=0 pair=1 -/
def sp_joined_parts (_ : Frag) : Sp := fun vs H Q _ => ∃ l ps, vs = [.ref l] ∧ IsPairs H l ps ∧ ps.length ≤ 100000 ∧ (tts ps).length ≤ 16000000 ∧ ∀ H', Ext H H' → Q (.str (tx (tts ps))) H'
def N_joined_parts : List Str := ["pairs", "pair"]
theorem sc_joined_parts : FnScope N_joined_parts ["pairs"] (defScope s_joined_parts) := ⟨rfl, rfl, rfl, by decide +kernel, rfl, by decide +kernel, by decide +kernel⟩
theorem ok_joined_parts (T : Txt K mg w) : FnR P w K mg base CX0 1 (He.ga K "joined_parts") (sp_joined_parts K) := by
  refine ok_of T.f_joined_parts sc_joined_parts (fun _ _ _ _ _ _ us hl => match us, hl with | [_], _ => rfl) (fun vs H Q E h => ?_) (fun cdv A outer s H vs Q E hr h => ?_)
  · repeat (first | (obtain ⟨rfl, _⟩ := h; rfl) | (obtain ⟨_, h⟩ := h))
  refine ⟨_, (pss_one (ps_ret (pe_join pe_str (pe_lc (own := [("pair", 1)]) rfl sc_joined_parts.nd (pi_list (pv 0)) (blkOk_by (own := [("pair", 1)]) (N := N_joined_parts) (sc := defScope s_joined_parts) (by decide +kernel)) (fun _ _ _ _ _ => (pg_name (i := 1) sc_joined_parts.nd rfl (Or.inl rfl))) (fun _ _ _ _ _ => pts_nil) (fun _ _ _ _ _ => (pe_ix (ix_tup : IxR _ (rIxT K)) (pv 1) pe_int (fun _ _ => rfl))))))), ?_⟩
  obtain ⟨l, ps, rfl, hP, hz, ht, q⟩ := h
  obtain ⟨vs, hl, hPP⟩ := hP
  refine ⟨⟨_, rfl⟩, _, rfl, _, rfl, ⟨_, sl hl⟩, fun D hD => ?_⟩
  refine lc_fm ps (fun _ => true) (fun q => V.str (tx q.1)) (walk_pairs hPP) (Nat.lt_of_lt_of_le (by omega) sizeBig) hD (fun H1 e => sl (e _ _ hl)) (gm_name 1) (fun i x y Ha Hb hi e2 ⟨e3, q', hc, hr⟩ => ?_) (fun H2 e2 d => ?_)
  · subst e3
    rw [hi] at hc
    cases hc
    obtain ⟨pa, rfl, hpa⟩ := hr
    exact ⟨rfl, Ext.rfl', tY rfl, fun _ H3 e3 Q3 q3 => ⟨_, rfl, _, _, 0, _, rfl, rfl, sq (e3 _ _ (e2 _ _ hpa)), atI_nat (j := 0) rfl, q3 _ Ext.rfl'⟩⟩
  · refine ⟨_, _, (ps.map (·.1)).map tx, rfl, rfl, .inl (sl (by rw [d, filter_tt, List.map_map, List.map_map]; rfl)), ?_, ?_⟩
    · rw [lens_tx, emp_tx, tx_len, List.length_nil]
      show (tts ps).length + _ ≤ _
      omega
    · rw [emp_tx, join_tx]
      exact q H2 e2
end
end OB
set_option Elab.async false
set_option linter.all false
set_option maxRecDepth 100000
set_option maxHeartbeats 4000000
namespace OB
open PySem PySem.Spec PySem.Calls PyProof.Rows L2 PySem.W StX
section
variable {P : Program} {w : World} {K : Frag} {mg : Str → Option Value} {base : Heap}
/- Track.write_round: slots self=0 parts=1 first=2 many=3 round_parts=4 rounds=5 left=6 part=7 made=8 made_each=9 -/
def sp_Track_write_round (K : Frag) : Sp := fun vs H Q _ => ∃ a l ps n r rs, ∃ f many : Nat, vs = [.ref a, .ref r, .int (f : Int), .int (many : Int)] ∧ TrkAt K H a l ps n ∧ IsPairs H r rs ∧ f < rs.length ∧ rs.length ≤ 1000 ∧ ps.length ≤ 900000 ∧ (tts rs).length ≤ 1000000 ∧ mds rs ≤ 1000000000 ∧ many < 2 ^ 4000 ∧
  ∀ H', Kp [a, l] H H' → TrkAt K H' a l (ps ++ [(tts (rs.drop f), many / (rs.length - f))] ++ ones ((rs.drop f).take (many % (rs.length - f)))) (n + mds (rs.drop f) * (many / (rs.length - f)) + mds ((rs.drop f).take (many % (rs.length - f)))) → Q (.int ((f + many % (rs.length - f) : Nat) : Int)) H'
theorem paired_drop {α β : Type} {R : α → β → Prop} : ∀ {xs : List α} {ys : List β} (n : Nat), Paired R xs ys → Paired R (xs.drop n) (ys.drop n)
  | _, _, 0, h => h
  | _, _, _ + 1, .nil => .nil
  | _, _, n + 1, .cons _ t => paired_drop n t
theorem cutVT {xs : List V} {i : Nat} (h : i ≤ xs.length) : cutV xs none (some (i : Int)) = xs.take i := cutV_to h
theorem sub_tts {rs : Prs'} (f : Nat) : (tts (rs.drop f)).length ≤ (tts rs).length := by
  have e : tts rs = tts (rs.take f) ++ tts (rs.drop f) := by rw [← tts_append, List.take_append_drop]
  rw [e, List.length_append]
  omega
theorem sub_mds {rs : Prs'} (f : Nat) : mds (rs.drop f) ≤ mds rs := by
  have e : mds rs = mds (rs.take f) + mds (rs.drop f) := by rw [← mds_append, List.take_append_drop]
  omega
theorem mem_mds {rs : Prs'} {q : List Nat × Nat} (h : q ∈ rs) : q.2 ≤ mds rs := by
  obtain ⟨s, t, e⟩ := List.append_of_mem h
  rw [e, mds_append]
  show q.2 ≤ mds s + (q.2 + mds t)
  omega
theorem mds_sum (ps : Prs') : ((ps.map fun q => ((q.2 : Nat) : Int)).sum) = (mds ps : Nat) := by
  induction ps with
  | nil => rfl
  | cons q r ih =>
    rw [List.map_cons, List.sum_cons, ih]
    show _ = ((q.2 + mds r : Nat) : Int)
    rw [Int.natCast_add]
theorem ones_snoc {rs : Prs'} {i : Nat} {q : List Nat × Nat} (h : rs[i]? = some q) : ones (rs.take (i + 1)) = ones (rs.take i) ++ [(q.1, 1)] := by
  rw [take_more' h]
  unfold ones
  rw [List.map_append]
  rfl
theorem mds_snoc {rs : Prs'} {i : Nat} {q : List Nat × Nat} (h : rs[i]? = some q) : mds (rs.take (i + 1)) = mds (rs.take i) + q.2 := by
  rw [take_more' h, mds_append]
  rfl
def N_Track_write_round : List Str := ["self", "parts", "first", "many", "round_parts", "rounds", "left", "part", "made", "made_each"]
theorem sc_Track_write_round : FnScope N_Track_write_round ["self", "parts", "first", "many"] (defScope s_Track_write_round) := ⟨rfl, rfl, rfl, by decide +kernel, rfl, by decide +kernel, by decide +kernel⟩
theorem ok_Track_write_round (T : Txt K mg w) : FnR P w K mg base CX0 2 (He.ma K (He.ga K "Track") "write_round") (sp_Track_write_round K) := by
  refine ok_of T.f_Track_write_round sc_Track_write_round (fun _ _ _ _ _ _ us hl => match us, hl with | [_, _, _, _], _ => rfl) (fun vs H Q E h => ?_) (fun cdv A outer s H vs Q E hr h => ?_)
  · repeat (first | (obtain ⟨rfl, _⟩ := h; rfl) | (obtain ⟨_, h⟩ := h))
  refine ⟨_, (pss_cons (ps_set (i := 4) sc_Track_write_round.nd rfl (Or.inl rfl) (pe_slice sl_list (pv 1) (po_some (pv 2)) po_none))
    (pss_cons (ps_asg (pe_callB call_divmodW (by rfl) T.z_divmod boot_divmod (pa_cons (pv 3) (pa_cons (pe_callB call_len_seq (by rfl) T.z_len boot_len (pa_cons (pv 4) pa_nil)) pa_nil))) (pg_tup rfl (pgs_cons (pg_name (i := 5) sc_Track_write_round.nd rfl (Or.inl rfl)) (pgs_cons (pg_name (i := 6) sc_Track_write_round.nd rfl (Or.inl rfl)) pgs_nil))))
    (pss_cons (ps_setLc (i := 9) (own := [("part", 7), ("made", 8)]) rfl sc_Track_write_round.nd rfl rfl (sw_true rfl rfl rfl (by decide +kernel)) (pi_list (pv 4)) (blkOk_by (own := [("part", 7), ("made", 8)]) (N := N_Track_write_round) (sc := defScope s_Track_write_round) (by decide +kernel)) (fun _ _ _ _ _ => (show PG _ _ (gTup K 2 _) from pg_tup rfl (pgs_cons (pg_name (i := 7) sc_Track_write_round.nd rfl (Or.inl rfl)) (pgs_cons (pg_name (i := 8) sc_Track_write_round.nd rfl (Or.inl rfl)) pgs_nil)))) (fun _ _ _ _ _ => pts_nil) (fun _ _ _ _ _ => (pv 8)))
    (pss_cons (ps_expr (pe_met (ok_Track_write T) T.c_Track T.mt_Track_write (hr.mono (by decide)) pass0 (pv 0) (pa_cons (pe_join pe_str (pe_lc (own := [("part", 7), ("made", 8)]) rfl sc_Track_write_round.nd (pi_list (pv 4)) (blkOk_by (own := [("part", 7), ("made", 8)]) (N := N_Track_write_round) (sc := defScope s_Track_write_round) (by decide +kernel)) (fun _ _ _ _ _ => (show PG _ _ (gTup K 2 _) from pg_tup rfl (pgs_cons (pg_name (i := 7) sc_Track_write_round.nd rfl (Or.inl rfl)) (pgs_cons (pg_name (i := 8) sc_Track_write_round.nd rfl (Or.inl rfl)) pgs_nil)))) (fun _ _ _ _ _ => pts_nil) (fun _ _ _ _ _ => (pv 7)))) (pa_cons (pe_callB (cr_sum rfl) (by rfl) T.z_sum boot_sum (pa_cons (pv 9) pa_nil)) (pa_cons (pv 5) pa_nil)))))
    (pss_cons (ps_for PassesOwn.never rfl (pi_list (pe_slice sl_list (pv 4) po_none (po_some (pv 6)))) (pg_tup rfl (pgs_cons (pg_name (i := 7) sc_Track_write_round.nd rfl (Or.inl rfl)) (pgs_cons (pg_name (i := 8) sc_Track_write_round.nd rfl (Or.inl rfl)) pgs_nil)))
      (pss_one (ps_expr (pe_met (ok_Track_write2 T) T.c_Track T.mt_Track_write (hr.mono (by decide)) pass0 (pv 0) (pa_cons (pv 7) (pa_cons (pv 8) pa_nil))))))
    (pss_one (ps_ret (pe_op op_add (pv 2) (pv 6))))))))), ?_⟩
  obtain ⟨a, l, ps, n, r, rs, f, many, rfl, hT, ⟨vs, hr, hRR⟩, hf, hrz, hpz, htt, hmd, hmany, q⟩ := h
  have hlen := paired_len hRR
  obtain ⟨⟨dx, ha⟩, hP⟩ := id hT
  obtain ⟨xs, hx, hxl⟩ := hP.len
  -- round_parts
  refine ⟨_, rfl, _, rfl, _, rfl, _, _, rfl, sl hr, fun rp hrp => ?_⟩
  rw [cutVF (by omega)]
  have E1 : Ext H (upd H rp (.lst (vs.drop f))) := Ext.upd hrp
  have hRP1 : IsPairs (upd H rp (.lst (vs.drop f))) rp (rs.drop f) := ⟨_, upd_same, paired_mono (fun _ _ z => IsPair.mono (Ext.tk E1) z) (paired_drop f hRR)⟩
  have hrd : (rs.drop f).length = rs.length - f := List.length_drop
  have hvd : (vs.drop f).length = rs.length - f := by rw [List.length_drop, hlen]
  generalize hrr : rs.drop f = rr at hRP1 hrd q
  have htr : (tts rr).length ≤ 1000000 := by rw [← hrr]; exact Nat.le_trans (sub_tts f) htt
  have hmr : mds rr ≤ 1000000000 := by rw [← hrr]; exact Nat.le_trans (sub_mds f) hmd
  have hu0 : (upd H rp (.lst (vs.drop f))) rp = some (.lst (vs.drop f)) := upd_same
  generalize upd H rp (.lst (vs.drop f)) = H1 at E1 hRP1 hu0 ⊢
  -- divmod
  refine ⟨_, rfl, _, rfl, _, _, rfl, .inl (sl hu0), _, _, rfl, by rw [hvd]; exact divp_nat (by omega) hmany, fun dm hdm => ?_⟩
  rw [hvd, ← Int.natCast_emod, ← Int.natCast_ediv]
  have E2 := E1.trans (Ext.upd (o := .tup [.int ((many / (rs.length - f) : Nat) : Int), .int ((many % (rs.length - f) : Nat) : Int)]) hdm)
  have E12 := Ext.upd (o := .tup [.int ((many / (rs.length - f) : Nat) : Int), .int ((many % (rs.length - f) : Nat) : Int)]) hdm
  refine ⟨_, _, rfl, sq upd_same, rfl, _, _, rfl, _, _, rfl, rfl, ?_⟩
  have hRP2 := hRP1.mono E12
  have hu2 := E12 _ _ hu0
  have hleft : many % (rs.length - f) < rs.length - f := Nat.mod_lt _ (by omega)
  generalize many / (rs.length - f) = rounds at E2 E12 hRP2 q hu2 ⊢
  generalize many % (rs.length - f) = left at E2 E12 hRP2 q hu2 hleft ⊢
  generalize upd H1 dm (.tup [.int (rounds : Int), .int (left : Int)]) = H2 at E2 hRP2 hu2 ⊢
  -- made_each
  obtain ⟨ws, hws, hWW⟩ := id hRP2
  refine ⟨_, rfl, _, rfl, ⟨_, sl hws⟩, fun D hD => ?_⟩
  refine lc_fm rr (fun _ => true) (fun q => V.int ((q.2 : Nat) : Int)) (walk_pairs hWW) (Nat.lt_of_lt_of_le (by omega) sizeBig) hD (fun H1 e => sl (e _ _ hws)) (gm_tup2 7 8) (fun i x y Ha Hb hi e2 ⟨e3, q', hc, hr⟩ => ?_) (fun H3 e3 d3 => ?_)
  · subst e3
    rw [hi] at hc
    cases hc
    obtain ⟨pa, rfl, hpa⟩ := hr
    exact ⟨pa, _, rfl, sq (e2 _ _ hpa), rfl, _, _, rfl, _, _, rfl, rfl, rfl, Ext.rfl', tY rfl, fun _ H3 e3 Q3 q3 => ⟨_, rfl, q3 _ Ext.rfl'⟩⟩
  have E3 := E2.trans e3
  rw [filter_tt] at d3
  -- the call of write
  refine ⟨_, rfl, _, _, _, rfl, E3 _ _ ha, kF_no_write _ _, ⟨_, rfl⟩, _, rfl, _, rfl, ⟨_, sl (e3 _ _ hws)⟩, fun D2 hD2 => ?_⟩
  refine lc_fm rr (fun _ => true) (fun q => V.str (tx q.1)) (walk_pairs hWW) (Nat.lt_of_lt_of_le (by omega) sizeBig) hD2 (fun H1 e => sl (e _ _ (e3 _ _ hws))) (gm_tup2 7 8) (fun i x y Ha Hb hi e4 ⟨e5, q', hc, hr⟩ => ?_) (fun H4 e4 d4 => ?_)
  · subst e5
    rw [hi] at hc
    cases hc
    obtain ⟨pa, rfl, hpa⟩ := hr
    exact ⟨pa, _, rfl, sq (e4 _ _ (e3 _ _ hpa)), rfl, _, _, rfl, _, _, rfl, rfl, rfl, Ext.rfl', tY rfl, fun _ H3 e3 Q3 q3 => ⟨_, rfl, q3 _ Ext.rfl'⟩⟩
  refine ⟨_, _, (rr.map (·.1)).map tx, rfl, rfl, .inl (sl (by rw [d4, filter_tt, List.map_map, List.map_map]; rfl)), ?_, ?_⟩
  · rw [lens_tx, emp_tx, tx_len, List.length_nil]
    show (tts rr).length + _ ≤ _
    omega
  rw [emp_tx, join_tx]
  refine ⟨_, rfl, _, rr.map fun q => ((q.2 : Nat) : Int), rfl, sl (by rw [e4 _ _ d3, List.map_map]; rfl), ?_⟩
  rw [mds_sum]
  have E4 := E3.trans e4
  refine ⟨_, rfl, a, l, ps, n, tts rr, mds rr, rounds, rfl, hT.mono E4, by omega, hmr, fun H5 k5 T5 => ?_⟩
  -- what stays
  have S5 : ∀ {b : Addr} {o : HO}, H4 b = some o → b ≠ a → b ≠ l → H5 b = some o := fun hb h1 h2 => k5 _ _ hb (by simp [h1, h2])
  have TK5 : TK H4 H5 := Kp.tk k5 fun b hb xs z => by
    simp only [List.mem_cons, List.not_mem_nil, or_false] at hb
    rcases hb with e | e
    · rw [e, E4 _ _ ha] at z; cases z
    · rw [e, E4 _ _ hx] at z; cases z
  have hwa : rp ≠ a := ne_of_at hu0 (E1 _ _ ha) (fun z => by cases z)
  have hwl : rp ≠ l := fun z => by
    rw [z, hx] at hrp
    cases hrp
  have hws5 : H5 rp = some (.lst ws) := S5 (e4 _ _ (e3 _ _ hws)) hwa hwl
  have hWW5 : Paired (IsPair H5) ws rr := paired_mono (fun _ _ z => IsPair.mono (TK.trans (Ext.tk (e3.trans e4)) TK5) z) hWW
  have hwsl := paired_len hWW
  -- the rest
  refine ⟨_, rfl, _, rfl, _, rfl, _, _, rfl, sl hws5, fun sp hsp => ⟨_, rfl, ⟨_, sl upd_same⟩, ?_⟩⟩
  rw [cutVT (show left ≤ ws.length by omega)]
  have hsa : sp ≠ a := fun z => by obtain ⟨⟨dx', e⟩, _⟩ := T5; rw [z, e] at hsp; cases hsp
  have hsl : sp ≠ l := fun z => by obtain ⟨_, vs', e, _⟩ := T5; rw [z, e] at hsp; cases hsp
  have K6 : Kp [a, l] H (upd H5 sp (.lst (ws.take left))) := ((Kp.of E4).trans k5).trans (Kp.new hsp)
  have T6 := T5.mono (Ext.upd (o := .lst (ws.take left)) hsp)
  have WW6 : Paired (IsPair (upd H5 sp (.lst (ws.take left)))) (ws.take left) (rr.take left) := paired_take left (paired_mono (fun _ _ z => IsPair.mono (Ext.tk (Ext.upd hsp)) z) hWW5)
  refine for_list (xs := ws.take left) (fun i σ H' => ∃ x7 x8, σ = [some (.ref a), some (.ref r), some (.int (f : Int)), some (.int (many : Int)), some (.ref rp), some (.int (rounds : Int)), some (.int (left : Int)), x7, x8, some (.ref D)] ∧ Kp [a, l] H H' ∧ H' sp = some (.lst (ws.take left)) ∧ Paired (IsPair H') (ws.take left) (rr.take left) ∧
    TrkAt K H' a l (ps ++ [(tts rr, rounds)] ++ ones ((rr.take left).take i)) (n + mds rr * rounds + mds ((rr.take left).take i))) ⟨_, _, rfl, K6, upd_same, WW6, by rw [List.take_zero]; show TrkAt K _ a l (ps ++ [(tts rr, rounds)] ++ []) (n + mds rr * rounds + 0); rw [List.append_nil, Nat.add_zero]; exact T6⟩ (fun i σ H' _ ⟨_, _, _, _, h, _⟩ => sl h) ?_ ?_
  · rintro i x σ H6 hi ⟨x7, x8, rfl, k6, s6, w6, t6⟩
    obtain ⟨⟨t, m⟩, hq, ⟨pa, rfl, hpa⟩⟩ := paired_at w6 hi
    refine ⟨pa, _, rfl, sq hpa, rfl, _, _, rfl, _, _, rfl, rfl, ?_⟩
    obtain ⟨⟨dx6, ha6⟩, hP6⟩ := id t6
    obtain ⟨us, hus, hul⟩ := hP6.len
    have hil : i < (rr.take left).length := (List.getElem?_eq_some_iff.mp hq).1
    have hol : (ones ((rr.take left).take i)).length ≤ 1000 := by
      unfold ones
      rw [List.length_map, List.length_take]
      rw [List.length_take] at hil
      omega
    have hmm : m ≤ 1000000000 := by
      have := mem_mds (List.mem_of_mem_take (List.mem_of_getElem? hq))
      dsimp only at this
      omega
    refine ⟨_, rfl, a, dx6, _, rfl, ha6, kF_no_write _ _, _, rfl, _, rfl, a, l, _, _, t, m, 1, rfl, t6, by rw [List.length_append, List.length_append, List.length_singleton]; omega, hmm, fun H7 k7 t7 => ?_⟩
    have tk7 : TK H6 H7 := Kp.tk k7 fun b hb xs z => by
      simp only [List.mem_cons, List.not_mem_nil, or_false] at hb
      rcases hb with e | e
      · rw [e, ha6] at z; cases z
      · rw [e, hus] at z; cases z
    refine ⟨_, _, rfl, k6.trans k7, k7 _ _ s6 (by simp [hsa, hsl]), paired_mono (fun _ _ z => IsPair.mono tk7 z) w6, ?_⟩
    rw [ones_snoc hq, mds_snoc hq, ← List.append_assoc]
    have e : n + mds rr * rounds + mds ((rr.take left).take i) + m * 1 = n + mds rr * rounds + (mds ((rr.take left).take i) + m) := by omega
    rw [e] at t7
    exact t7
  · rintro σ H6 ⟨x7, x8, rfl, k6, s6, w6, t6⟩
    have e : (ws.take left).length = (rr.take left).length := paired_len w6
    rw [e, List.take_length] at t6
    refine ⟨_, rfl, _, rfl, _, _, rfl, rfl, ?_⟩
    dsimp only
    rw [ad_nat]
    exact q H6 k6 t6
end
end OB
set_option Elab.async false
set_option linter.all false
set_option maxRecDepth 100000
set_option maxHeartbeats 4000000
namespace OB
open PySem PySem.Spec PySem.Calls PyProof.Rows L2 PySem.W StX
section
variable {P : Program} {w : World} {K : Frag} {mg : Str → Option Value} {base : Heap}
/- one_pass: slots loop=0 stay=1 items=2 step=3 -/
def sp_one_pass (K : Frag) : Sp := fun vs H Q _ => ∃ lv sv L s, vs = [lv, sv] ∧ IsLo H lv L ∧ VLo L ∧ IsStay K H sv s ∧ OkS 3 s ∧ s.held ≠ [] ∧
  ∀ H' p v, Ext H H' → H' p = some (.tup [.str (tx (stepS L s).1), v]) → IsStay K H' v (stepS L s).2 → Q (.ref p) H'
theorem join_signs (l : List Nat) : Txt.join (tx []) (l.map fun c => tx [c]) = tx l := by
  have z : (l.map fun c => tx [c]) = (l.map fun c => [c]).map tx := by rw [List.map_map]; rfl
  rw [z, join_tx]
  congr 1
  induction l with
  | nil => rfl
  | cons x r ih => rw [List.map_cons, List.flatten_cons, ih (by rw [List.map_map]; rfl)]; rfl
theorem sum_signs (l : List Nat) : ((l.map fun c => tx [c]).map (·.length)).sum = l.length := by
  induction l with
  | nil => rfl
  | cons x r ih => rw [List.map_cons, List.map_cons, List.sum_cons, ih, tx_len, List.length_singleton, List.length_cons]; omega
theorem signs_str (l : List Nat) : signsV l = (l.map fun c => tx [c]).map V.str := by rw [List.map_map]; rfl
def N_one_pass : List Str := ["loop", "stay", "items", "step"]
theorem sc_one_pass : FnScope N_one_pass ["loop", "stay"] (defScope s_one_pass) := ⟨rfl, rfl, rfl, by decide +kernel, rfl, by decide +kernel, by decide +kernel⟩
theorem ok_one_pass (T : Txt K mg w) : FnR P w K mg base CX0 5 (He.ga K "one_pass") (sp_one_pass K) := by
  refine ok_of T.f_one_pass sc_one_pass (fun _ _ _ _ _ _ us hl => match us, hl with | [_, _], _ => rfl) (fun vs H Q E h => ?_) (fun cdv A outer s H vs Q E hr h => ?_)
  · repeat (first | (obtain ⟨rfl, _⟩ := h; rfl) | (obtain ⟨_, h⟩ := h))
  refine ⟨_, (pss_cons (ps_set (i := 2) sc_one_pass.nd rfl (Or.inl rfl) (pe_callTy (call_list_strR rfl) (by rfl) T.z_list boot_list (pa_cons (pe_fld (pv 1) rfl) pa_nil)))
    (pss_cons (ps_set (i := 3) sc_one_pass.nd rfl (Or.inl rfl) (pe_mk (ok_Pass_init T) T.m_Pass T.g_Pass (hr.mono (by decide)) pass0 (pa_cons (pv 0) (pa_cons (pv 2) (pa_cons pe_int (pa_cons (pe_fld (pv 1) rfl) pa_nil))))))
    (pss_cons (ps_if (pt_val (pe_fld (pv 3) rfl))
      (pss_one (ps_ret (pe_tup (pa_cons (pe_join pe_str (pv 2)) (pa_cons (pe_mk (ok_Stay_init T) T.m_Stay T.g_Stay (hr.mono (by decide)) pass0 (pa_cons (pe_fld (pv 3) rfl) (pa_cons pe_str (pa_cons pe_bl pa_nil)))) pa_nil)))))
      pss_nil)
    (pss_one (ps_ret (pe_tup (pa_cons (pe_join pe_str (pe_slice sl_list (pv 2) po_none (po_some pe_int))) (pa_cons (pe_mk (ok_Stay_init2 T) T.m_Stay T.g_Stay (hr.mono (by decide)) pass0 (pa_cons (pe_fld (pv 3) rfl) (pa_cons (pe_join pe_str (pe_slice sl_list (pv 2) (po_some pe_int) po_none)) pa_nil))) pa_nil)))))))), ?_⟩
  obtain ⟨lv, sv, L, s0, rfl, hL, hV, ⟨a, dx, rfl, ha⟩, hO, hne, q⟩ := h
  obtain ⟨c, t, hct⟩ : ∃ c t, s0.held = c :: t := by
    cases e : s0.held with
    | nil => exact absurd e hne
    | cons c t => exact ⟨c, t, rfl⟩
  have hl3 := hO.len
  rw [hct, List.length_cons] at hl3
  refine ⟨_, rfl, _, _, _, _, _, rfl, ha, T.c_Stay, T.n_Stay_held, sF_held _ _ _, s0.held, rfl, Nat.le_trans (by rw [hct, List.length_cons]; omega) sizeBig, fun it hit => ?_⟩
  have E1 : Ext H (upd H it (.lst (s0.held.map fun c => V.str (tx [c])))) := Ext.upd hit
  have i1 : (upd H it (.lst (s0.held.map fun c => V.str (tx [c])))) it = some (.lst (signsV (c :: t))) := by rw [upd_same, hct]; rfl
  generalize upd H it (.lst (s0.held.map fun c => V.str (tx [c]))) = H1 at E1 i1 ⊢
  refine ⟨_, rfl, _, rfl, _, rfl, _, _, _, _, _, rfl, E1 _ _ ha, T.c_Stay, T.n_Stay_mark, sF_mark _ _ _, ?_⟩
  intro p dp n1 n2 n3
  have ip : it ≠ p := fun z => by rw [← z, i1] at n1; cases n1
  have EM := ext_made (u := .own p) (o := .ins (He.ga K "Pass") dp []) n1 n2
  refine ⟨p, dp, lv, it, s0.mark, c, t, L, rfl, upd_same, hL.mono (Ext.tk (E1.trans EM)), hV, EM _ _ i1, by omega, fun H2 rv k2 p2 i2 => ⟨rfl, ?_⟩⟩
  -- H ext to H2
  have E2 : Ext H H2 := fun b o hb => by
    have hb1 := E1 _ _ hb
    have hbi : b ≠ it := fun z => by rw [z, hit] at hb; cases hb
    have hbp : b ≠ p := fun z => by rw [z, n1] at hb1; cases hb1
    exact k2 _ _ (EM _ _ hb1) (by simp [hbi, hbp])
  have hst : stepS L s0 = if (passR L.rules s0.mark (c :: t)).2.1 = true then ((passR L.rules s0.mark (c :: t)).2.2, ⟨(passR L.rules s0.mark (c :: t)).1, [], true⟩) else ((passR L.rules s0.mark (c :: t)).2.2.take 1, ⟨(passR L.rules s0.mark (c :: t)).1, (passR L.rules s0.mark (c :: t)).2.2.drop 1, false⟩) := by
    unfold stepS
    rw [hct]
  have hlet : Letters (c :: t) := by rw [← hct]; exact hO.let_
  have hpl := (passR_ok hV hO.mark hlet).2.2
  rw [List.length_cons] at hpl
  generalize passR L.rules s0.mark (c :: t) = R at p2 i2 hst hpl
  obtain ⟨m', br, its⟩ := R
  dsimp only at p2 i2 hst hpl
  refine ⟨_, rfl, _, _, _, _, _, rfl, p2, T.c_Pass, T.n_Pass_is_broken, pF_is_broken _ _ _ _, _, rfl, ?_⟩
  cases br with
  | true =>
    rw [if_pos rfl] at hst
    rw [hst] at q
    refine if_t rfl ?_
    refine ⟨⟨_, rfl⟩, _, rfl, _, _, its.map fun c => tx [c], rfl, rfl, .inl (sl (by rw [i2, signs_str])), by rw [sum_signs, emp_tx, tx_len, List.length_nil]; omega, ?_⟩
    rw [emp_tx, join_signs]
    refine ⟨_, rfl, _, _, _, _, _, rfl, p2, T.c_Pass, T.n_Pass_mark, pF_mark _ _ _ _, ?_⟩
    intro x dx1 m1 m2 m3
    refine ⟨x, dx1, m', [], true, rfl, upd_same, fun H3 k3 hx3 => ⟨rfl, ?_⟩⟩
    have e3 := kp_made m1 m2 k3
    have hy : IsStay K H3 (.ref x) ⟨m', [], true⟩ := ⟨x, dx1, rfl, hx3⟩
    refine ⟨sz2 (by simp), fun tp htp => ?_⟩
    have E4 := Ext.upd (o := .tup [.str (tx its), .ref x]) htp
    exact q _ tp (.ref x) (E2.trans (e3.trans E4)) upd_same (hy.keep (Ext.kst E4))
  | false =>
    rw [if_neg Bool.false_ne_true] at hst
    rw [hst] at q
    refine if_f rfl ?_
    refine ⟨⟨_, rfl⟩, _, rfl, _, rfl, _, _, rfl, sl i2, fun s1 hs1 => ?_⟩
    rw [show (some (1 : Int)) = some (((1 : Nat) : Int)) from rfl]
    have c1 : cutV (signsV its) none (some ((1 : Nat) : Int)) = signsV (its.take 1) := by
      unfold cutV
      rw [HT.sIx_none, HT.sIx_nat, List.drop_zero, Nat.sub_zero, sg_take, sg_len]
      congr 1
      by_cases z : 1 ≤ its.length
      · rw [Nat.min_eq_left z]
      · have : its = [] := List.eq_nil_of_length_eq_zero (by omega)
        rw [this]; rfl
    rw [c1]
    refine ⟨_, _, (its.take 1).map fun c => tx [c], rfl, rfl, .inl (sl (by rw [upd_same, signs_str])), by rw [sum_signs, emp_tx, tx_len, List.length_nil, List.length_take]; omega, ?_⟩
    rw [emp_tx, join_signs]
    have E5 := Ext.upd (o := .lst (signsV (its.take 1))) hs1
    refine ⟨_, rfl, _, _, _, _, _, rfl, E5 _ _ p2, T.c_Pass, T.n_Pass_mark, pF_mark _ _ _ _, ⟨_, rfl⟩, _, rfl, _, rfl, _, _, rfl, sl (E5 _ _ i2), fun s2 hs2 => ?_⟩
    have c2 : cutV (signsV its) (some ((1 : Nat) : Int)) none = signsV (its.drop 1) := by
      unfold cutV
      rw [HT.sIx_none, HT.sIx_nat, sg_len, sg_drop, sg_take]
      congr 1
      by_cases z : 1 ≤ its.length
      · rw [Nat.min_eq_left z, List.take_of_length_le (by rw [List.length_drop]; omega)]
      · have : its = [] := List.eq_nil_of_length_eq_zero (by omega)
        rw [this]; rfl
    rw [show (some (1 : Int)) = some (((1 : Nat) : Int)) from rfl, c2]
    refine ⟨_, _, (its.drop 1).map fun c => tx [c], rfl, rfl, .inl (sl (by rw [upd_same, signs_str])), by rw [sum_signs, tx_len, List.length_nil, List.length_drop]; omega, ?_⟩
    rw [join_signs]
    intro x dx1 m1 m2 m3
    refine ⟨x, dx1, m', its.drop 1, false, rfl, upd_same, fun H3 k3 hx3 => ⟨rfl, ?_⟩⟩
    have e3 := kp_made m1 m2 k3
    have hy : IsStay K H3 (.ref x) ⟨m', its.drop 1, false⟩ := ⟨x, dx1, rfl, hx3⟩
    refine ⟨sz2 (by simp), fun tp htp => ?_⟩
    have E4 := Ext.upd (o := .tup [.str (tx (its.take 1)), .ref x]) htp
    exact q _ tp (.ref x) (E2.trans (E5.trans ((Ext.upd hs2).trans (e3.trans E4)))) upd_same (hy.keep (Ext.kst E4))
end
end OB
set_option Elab.async false
set_option linter.all false
set_option maxRecDepth 100000
set_option maxHeartbeats 4000000
namespace OB
open PySem PySem.Spec PySem.Calls PyProof.Rows L2 PySem.W StX
/-! ### keys of places -/
def nkey (s : S) : NestedKey := .tup [.num (s.mark : Int), .text (tx s.held), .num (if s.brk = true then 1 else 0)]
def fkey (s : S) (c : Nat) : NestedKey := .tup [nkey s, .text (tx [c])]
theorem nkey_inj {s t : S} (h : nkey s = nkey t) : s = t := by
  unfold nkey at h
  have h1 := NestedKey.tup.inj h
  have h2 := List.cons.inj h1
  have h3 := List.cons.inj h2.2
  have h4 := List.cons.inj h3.2
  have e1 := NestedKey.num.inj h2.1
  have e2 := tx_inj (NestedKey.text.inj h3.1)
  have e3 := NestedKey.num.inj h4.1
  obtain ⟨sm, sh, sb⟩ := s
  obtain ⟨tm, th, tb⟩ := t
  dsimp only at e1 e2 e3
  have e1' : sm = tm := by omega
  have e3' : sb = tb := by cases sb <;> cases tb <;> simp at e3 <;> rfl
  rw [e1', e2, e3']
theorem fkey_inj {s t : S} {c d : Nat} (h : fkey s c = fkey t d) : s = t ∧ c = d := by
  unfold fkey at h
  have h1 := NestedKey.tup.inj h
  have h2 := List.cons.inj h1
  have h3 := List.cons.inj h2.2
  have e := tx_inj (NestedKey.text.inj h3.1)
  exact ⟨nkey_inj h2.1, (List.cons.inj e).1⟩
theorem nkey_v {H : Hp} {p : Addr} {s : S} (h : H p = some (.tup (keyV s))) : NKV H (nkey s) (.ref p) := .tup h (.cons (.int _) (.cons (.text _) (.cons .bool .nil)))
theorem fkey_v {H : Hp} {p r : Addr} {s : S} {c : Nat} (h : H p = some (.tup (keyV s))) (g : H r = some (.tup [.ref p, .str (tx [c])])) : NKV H (fkey s c) (.ref r) := .tup g (.cons (nkey_v h) (.cons (.text _) .nil))
theorem nkey_depth (s : S) : (nkey s).depth ≤ 8 := by
  simp [nkey, NestedKey.depth, NestedKey.depthAll]
theorem fkey_depth (s : S) (c : Nat) : (fkey s c).depth ≤ 8 := by
  simp [fkey, nkey, NestedKey.depth, NestedKey.depthAll]
/-- the keys so far -/
def Keys (kvs : NEs) (f : Nat → NestedKey) (k : Nat) : Prop := ∀ q, (valN kvs q).isSome = true ↔ ∃ j, j < k ∧ q = f j
theorem Keys.nil (f : Nat → NestedKey) : Keys [] f 0 := fun q => ⟨(fun h => nomatch h), (fun ⟨j, hj, _⟩ => absurd hj (Nat.not_lt_zero _))⟩
theorem Keys.snoc {kvs : NEs} {f : Nat → NestedKey} {k : Nat} {a : Addr} {v : V} (h : Keys kvs f k) (hn : valN kvs (f k) = none) : Keys (kvs ++ [(f k, a, v)]) f (k + 1) := fun q => by
  rw [valN_snoc hn]
  constructor
  · intro z
    by_cases c : q = f k
    · exact ⟨k, Nat.lt_succ_self k, c⟩
    · rw [if_neg c] at z
      obtain ⟨j, hj, e⟩ := (h q).mp z
      exact ⟨j, Nat.lt_succ_of_lt hj, e⟩
  · rintro ⟨j, hj, e⟩
    by_cases c : q = f k
    · rw [if_pos c]
      rfl
    · rw [if_neg c]
      refine (h q).mpr ⟨j, ?_, e⟩
      rcases Nat.lt_succ_iff_lt_or_eq.mp hj with z | z
      · exact z
      · rw [z] at e
        exact absurd e c
/-! ### what stands while passes are made, copies are fed -/
structure MpI (P : Program) (w : World) (K : Frag) (H : Hp) (a l pl st D : Addr) (v : V) (s : S) (ps : Prs') (n : Nat) (ys zs : List V) (kvs : NEs) : Prop where
  stay : IsStay K H v s
  trk : TrkAt K H a l ps n
  parts : H pl = some (.lst ys)
  stays : H st = some (.lst zs)
  nd : ND P w H D kvs
section
variable {P : Program} {w : World} {K : Frag} {H H' : Hp} {a l pl st D : Addr} {v : V} {s : S} {ps : Prs'} {n : Nat} {ys zs : List V} {kvs : NEs}
theorem MpI.mono (h : MpI P w K H a l pl st D v s ps n ys zs kvs) (e : Ext H H') : MpI P w K H' a l pl st D v s ps n ys zs kvs :=
  ⟨h.stay.keep (Ext.kst e), h.trk.mono e, e _ _ h.parts, e _ _ h.stays, h.nd.same (e _ _ h.nd.at_) (Ext.tk e)⟩
theorem MpI.soft (h : MpI P w K H a l pl st D v s ps n ys zs kvs) : Soft H a ∧ Soft H l ∧ Soft H pl ∧ Soft H st ∧ Soft H D := ⟨h.trk.soft.1, h.trk.soft.2, .lst h.parts, .lst h.stays, .nd h.nd.at_⟩
theorem TrkAt.keep {T : List Addr} (k : Kp T H H') (hs : ∀ x ∈ T, Soft H x) (ha : a ∉ T) (hl : l ∉ T) (h : TrkAt K H a l ps n) : TrkAt K H' a l ps n := by
  obtain ⟨⟨dx, e⟩, vs, e2, pp⟩ := h
  exact ⟨⟨dx, k _ _ e ha⟩, vs, k _ _ e2 hl, paired_mono (fun _ _ z => IsPair.mono (k.kst hs).tk z) pp⟩
/-- a change at places that are none of these but one -/
theorem MpI.atSt (h : MpI P w K H a l pl st D v s ps n ys zs kvs) (hne : st ≠ l ∧ st ≠ pl) (zs' : List V) : MpI P w K (upd H st (.lst zs')) a l pl st D v s ps n ys zs' kvs := by
  have k : Kp [st] H (upd H st (.lst zs')) := Kp.put (by simp)
  have hs : ∀ x ∈ [st], Soft H x := fun x hx => by rw [List.mem_singleton.mp hx]; exact .lst h.stays
  obtain ⟨⟨dx, ea⟩, _⟩ := h.trk
  have na : a ≠ st := ne_of_at ea h.stays (fun z => by cases z)
  have nD : D ≠ st := ne_of_at h.nd.at_ h.stays (fun z => by cases z)
  exact ⟨h.stay.keep (k.kst hs), h.trk.keep k hs (nin1 na) (nin1 hne.1.symm), by rw [upd_ne hne.2.symm]; exact h.parts, upd_same, h.nd.same (by rw [upd_ne nD]; exact h.nd.at_) (k.kst hs).tk⟩
theorem MpI.atPl (h : MpI P w K H a l pl st D v s ps n ys zs kvs) (hne : pl ≠ l ∧ st ≠ pl) (ys' : List V) : MpI P w K (upd H pl (.lst ys')) a l pl st D v s ps n ys' zs kvs := by
  have k : Kp [pl] H (upd H pl (.lst ys')) := Kp.put (by simp)
  have hs : ∀ x ∈ [pl], Soft H x := fun x hx => by rw [List.mem_singleton.mp hx]; exact .lst h.parts
  obtain ⟨⟨dx, ea⟩, _⟩ := h.trk
  have na : a ≠ pl := ne_of_at ea h.parts (fun z => by cases z)
  have nD : D ≠ pl := ne_of_at h.nd.at_ h.parts (fun z => by cases z)
  exact ⟨h.stay.keep (k.kst hs), h.trk.keep k hs (nin1 na) (nin1 hne.1.symm), upd_same, by rw [upd_ne hne.2]; exact h.stays, h.nd.same (by rw [upd_ne nD]; exact h.nd.at_) (k.kst hs).tk⟩
theorem MpI.atD (h : MpI P w K H a l pl st D v s ps n ys zs kvs) {q : NestedKey} {b : Addr} {u : V} (hk : NKV H q (.ref b)) (hd : q.depth ≤ 8) (hn : valN kvs q = none) (hl : kvs.length + 1 < sizeLine) :
    MpI P w K (upd H D (ndO P w D (kvs ++ [(q, b, u)]))) a l pl st D v s ps n ys zs (kvs ++ [(q, b, u)]) := by
  have k : Kp [D] H (upd H D (ndO P w D (kvs ++ [(q, b, u)]))) := Kp.put (by simp)
  have hs : ∀ x ∈ [D], Soft H x := fun x hx => by rw [List.mem_singleton.mp hx]; exact .nd h.nd.at_
  obtain ⟨⟨dx, ea⟩, vs, el, _⟩ := h.trk
  have na : a ≠ D := ne_of_at ea h.nd.at_ (fun z => by cases z)
  have nl : l ≠ D := ne_of_at el h.nd.at_ (fun z => by cases z)
  have np : pl ≠ D := ne_of_at h.parts h.nd.at_ (fun z => by cases z)
  have nt : st ≠ D := ne_of_at h.stays h.nd.at_ (fun z => by cases z)
  exact ⟨h.stay.keep (k.kst hs), h.trk.keep k hs (nin1 na) (nin1 nl), by rw [upd_ne np]; exact h.parts, by rw [upd_ne nt]; exact h.stays, h.nd.put hk hd hn hl⟩
theorem MpI.write (h : MpI P w K H a l pl st D v s ps n ys zs kvs) (hne : pl ≠ l ∧ st ≠ l) (k : Kp [a, l] H H') {ps' : Prs'} {n' : Nat} (t : TrkAt K H' a l ps' n') : MpI P w K H' a l pl st D v s ps' n' ys zs kvs := by
  have hs : ∀ x ∈ [a, l], Soft H x := fun x hx => by
    simp only [List.mem_cons, List.not_mem_nil, or_false] at hx
    rcases hx with e | e <;> rw [e]
    · exact h.soft.1
    · exact h.soft.2.1
  obtain ⟨⟨dx, ea⟩, vs, el, _⟩ := h.trk
  have pa : pl ≠ a := ne_of_at h.parts ea (fun z => by cases z)
  have sa : st ≠ a := ne_of_at h.stays ea (fun z => by cases z)
  have da : D ≠ a := ne_of_at h.nd.at_ ea (fun z => by cases z)
  have dl : D ≠ l := ne_of_at h.nd.at_ el (fun z => by cases z)
  exact ⟨h.stay.keep (k.kst hs), t, k _ _ h.parts (by simp [pa, hne.1]), k _ _ h.stays (by simp [sa, hne.2]), h.nd.same (k _ _ h.nd.at_ (by simp [da, dl])) (k.kst hs).tk⟩
theorem MpI.withStay (h : MpI P w K H a l pl st D v s ps n ys zs kvs) {v' : V} {s' : S} (g : IsStay K H v' s') : MpI P w K H a l pl st D v' s' ps n ys zs kvs := ⟨g, h.trk, h.parts, h.stays, h.nd⟩
end
end OB
set_option Elab.async false
set_option linter.all false
set_option maxRecDepth 100000
set_option maxHeartbeats 4000000
namespace OB
open PySem PySem.Spec PySem.Calls PyProof.Rows L2 PySem.W StX
section
variable {P : Program} {w : World} {K : Frag} {mg : Str → Option Value} {base : Heap}
/- make_passes: slots loop=0 stay=1 least=2 most=3 track=4 parts=5 stays=6 places=7 place=8 at=9 part=10 -/
def wOnes (ws : List (List Nat)) : Prs' := ws.map fun w => (w, 1)
def sp_make_passes (K : Frag) : Sp := fun vs H Q _ => ∃ lv sv a l ps n L s, ∃ least : Nat, vs = [lv, sv, .int (least : Int), .non, .ref a] ∧ IsLo H lv L ∧ VLo L ∧ IsStay K H sv s ∧ OkS 3 s ∧ 1 ≤ least ∧ TrkAt K H a l ps n ∧ ps.length ≤ 900000 ∧
  (Never L least s → ∀ H', Kp [a, l] H H' → Q .non H') ∧ (∀ k, Ends L least s k → ∀ H' v, Kp [a, l] H H' → IsStay K H' v (stN L s k) → TrkAt K H' a l (ps ++ wOnes (wlN L s k)) (n + k) → Q v H')
theorem wOnes_len (ws : List (List Nat)) : (wOnes ws).length = ws.length := List.length_map ..
theorem wOnes_snoc (L : Lo) (s : S) (k : Nat) : wOnes (wlN L s (k + 1)) = wOnes (wlN L s k) ++ [((stepS L (stN L s k)).1, 1)] := by
  show wOnes (wlN L s k ++ [_]) = _
  unfold wOnes
  rw [List.map_append]
  rfl
/-- the loop's word -/
def MpW (P : Program) (w : World) (K : Frag) (H0 : Hp) (lv : V) (a l : Addr) (ps : Prs') (n : Nat) (L : Lo) (s : S) (least : Nat) (pl st D : Addr) (m : Nat) (σ : L2.St) (H : Hp) : Prop :=
  ∃ k v ys zs kvs x8 x9 x10, σ = [some lv, some v, some (.int (least : Int)), some .non, some (.ref a), some (.ref pl), some (.ref st), some (.ref D), x8, x9, x10] ∧ Kp [a, l] H0 H ∧ TK H0 H ∧
    MpI P w K H a l pl st D v (stN L s k) (ps ++ wOnes (wlN L s k)) (n + k) ys zs kvs ∧ kvs.length = k ∧ ys.length = k ∧ zs.length = k ∧ Keys kvs (fun j => nkey (stN L s j)) k ∧
    (∀ j, j < k → ¬ Done least (stN L s j)) ∧ (∀ i j, i < j → j < k → stN L s i ≠ stN L s j) ∧ m = 501 - k
def N_make_passes : List Str := ["loop", "stay", "least", "most", "track", "parts", "stays", "places", "place", "at", "part"]
theorem sc_make_passes : FnScope N_make_passes ["loop", "stay", "least", "most", "track"] (defScope s_make_passes) := ⟨rfl, rfl, rfl, by decide +kernel, rfl, by decide +kernel, by decide +kernel⟩
theorem ok_make_passes (T : Txt K mg w) : FnR P w K mg base CX0 6 (He.ga K "make_passes") (sp_make_passes K) := by
  refine ok_of T.f_make_passes sc_make_passes (fun _ _ _ _ _ _ us hl => match us, hl with | [_, _, _, _, _], _ => rfl) (fun vs H Q E h => ?_) (fun cdv A outer s H vs Q E hr h => ?_)
  · repeat (first | (obtain ⟨rfl, _⟩ := h; rfl) | (obtain ⟨_, h⟩ := h))
  refine ⟨_, (pss_cons (ps_par3 (i := 5) (j := 6) (l := 7) rfl sc_make_passes.nd rfl rfl rfl (by decide) (by decide) (by decide) rfl rfl rfl (pa_cons (pe_lst pa_nil) (pa_cons (pe_lst pa_nil) (pa_cons pe_nd pa_nil))) (by rfl))
    (pss_cons (ps_while PassesOwn.never (PW.pt (pw_and (pt_cmpR op_ge (pe_callB call_len_str (by rfl) T.z_len boot_len (pa_cons (pe_fld (pv 1) rfl) pa_nil)) (pv 2) (nomark _)) (pw_and (pt_not (pt_val (pe_fld (pv 1) rfl))) (pw_and1 (PW.pt (pw_or (pt_cmpR op_isN (pv 3) pe_non (nomark _)) (pw_or1 (pt_cmpR op_lt (pe_callB call_len_seq (by rfl) T.z_len boot_len (pa_cons (pv 5) pa_nil)) (pv 3) (nomark _)))))))))
      (pss_cons (ps_if (pt_cmpR (op_nin hr.units) (pe_met0 (ok_Stay_key T) T.c_Stay T.mt_Stay_key (hr.mono (by decide)) pass0 (pv 1)) (pv 7) rfl)
        (pss_cons (ps_if (pt_cmpR op_isN (pv 3) pe_non (nomark _))
          (pss_one (ps_ret pe_non))
          pss_nil)
        (pss_cons (ps_set (i := 8) sc_make_passes.nd rfl (Or.inl rfl) (pe_nget hr.units (pv 7) (pe_met0 (ok_Stay_key T) T.c_Stay T.mt_Stay_key (hr.mono (by decide)) pass0 (pv 1)) (fun _ _ => rfl)))
        (pss_cons (ps_set (i := 9) sc_make_passes.nd rfl (Or.inl rfl) (pe_met (ok_Track_write_round T) T.c_Track T.mt_Track_write_round (hr.mono (by decide)) pass0 (pv 4) (pa_cons (pv 5) (pa_cons (pv 8) (pa_cons (pe_op op_sub (pv 3) (pe_callB call_len_seq (by rfl) T.z_len boot_len (pa_cons (pv 5) pa_nil))) pa_nil)))))
        (pss_one (ps_ret (pe_ix ix_list (pv 6) (pv 9) (fun _ _ => rfl)))))))
        pss_nil)
      (pss_cons (ps_asg (pe_callB call_len_seq (by rfl) T.z_len boot_len (pa_cons (pv 5) pa_nil)) (pg_sub (pv 7) (pe_met0 (ok_Stay_key T) T.c_Stay T.mt_Stay_key (hr.mono (by decide)) pass0 (pv 1)) (set_nd hr.units)))
      (pss_cons (ps_expr (pe_bm PySem.F.plainAttrs_list PySem.F.slot_list_append PySem.F.type_list_append mt_append (pv 6) (pa_cons (pv 1) pa_nil)))
      (pss_cons (ps_asg (pe_f (ok_one_pass T) T.g_one_pass (kp_of T.f_one_pass) (hr.mono (by decide)) pass0 (pa_cons (pv 0) (pa_cons (pv 1) pa_nil))) (pg_tup rfl (pgs_cons (pg_name (i := 10) sc_make_passes.nd rfl (Or.inl rfl)) (pgs_cons (pg_name (i := 1) sc_make_passes.nd rfl (Or.inl rfl)) pgs_nil))))
      (pss_cons (ps_expr (pe_bm PySem.F.plainAttrs_list PySem.F.slot_list_append PySem.F.type_list_append mt_append (pv 5) (pa_cons (pe_tup (pa_cons (pv 10) (pa_cons pe_int pa_nil))) pa_nil)))
      (pss_one (ps_expr (pe_met (ok_Track_write2 T) T.c_Track T.mt_Track_write (hr.mono (by decide)) pass0 (pv 4) (pa_cons (pv 10) (pa_cons pe_int pa_nil)))))))))))
    (pss_one (ps_ret (pv 1))))), ?_⟩
  obtain ⟨lv, sv, a, l, ps, n, L, s0, least, rfl, hL, hV, hS, hO, hle, hT, hpz, qN, qE⟩ := h
  obtain ⟨⟨dx, ha⟩, hP⟩ := id hT
  obtain ⟨xs, hx, hxl⟩ := hP.len
  refine ⟨sz2 (by simp), fun pl hpl => ⟨sz2 (by simp), fun st hst => fun D hD hsys => ⟨_, _, _, rfl, ?_⟩⟩⟩
  have E1 : Ext H (upd H pl (.lst [])) := Ext.upd hpl
  have E2 : Ext H (upd (upd H pl (.lst [])) st (.lst [])) := E1.trans (Ext.upd hst)
  have E3 : Ext H (upd (upd (upd H pl (.lst [])) st (.lst [])) D (ndO P w D [])) := E2.trans (Ext.upd hD)
  have hsp : st ≠ pl := fun z => by rw [z, upd_same] at hst; cases hst
  have hDs : D ≠ st := fun z => by rw [z, upd_same] at hD; cases hD
  have hDp : D ≠ pl := fun z => by rw [z, upd_ne hsp.symm, upd_same] at hD; cases hD
  have hpll : pl ≠ l := fun z => by rw [z, hx] at hpl; cases hpl
  have hstl : st ≠ l := fun z => by
    have := E1 _ _ hx
    rw [z, this] at hst
    cases hst
  have hst0 : H st = none := by
    rw [upd_ne hsp] at hst
    exact hst
  have hD0 : H D = none := by
    rw [upd_ne hDs, upd_ne hDp] at hD
    exact hD
  have I0 : MpI P w K (upd (upd (upd H pl (.lst [])) st (.lst [])) D (ndO P w D [])) a l pl st D sv (stN L s0 0) (ps ++ wOnes (wlN L s0 0)) (n + 0) [] [] [] :=
    ⟨hS.keep (Ext.kst E3), by
      show TrkAt K _ a l (ps ++ []) (n + 0)
      rw [List.append_nil]
      exact hT.mono E3, by rw [upd_ne hDp.symm, upd_ne hsp.symm, upd_same], by rw [upd_ne hDs.symm, upd_same], nd_nil hsys⟩
  refine ⟨MpW P w K H lv a l ps n L s0 least pl st D, ⟨_, 0, sv, [], [], [], _, _, _, rfl, Kp.of E3, Ext.tk E3, I0, rfl, rfl, rfl, Keys.nil _, (fun j hj => absurd hj (Nat.not_lt_zero _)), (fun i j _ hj => absurd hj (Nat.not_lt_zero _)), rfl⟩, ?_⟩
  rintro m σ H1 ⟨k, v, ys, zs, kvs, x8, x9, x10, rfl, k1, t1, I, hkl, hyl, hzl, hK, hnd, hinj, rfl⟩
  obtain ⟨sa, sdx, rfl, hsa⟩ := id I.stay
  have hOk := stN_ok hV hO k
  have hk500 := passes_few hV hO hnd hinj
  -- the test
  have exit_ : Done least (stN L s0 k) → tRet (tVar 1) { nx := fun _ H' => Q .non H', rt := Q } [some lv, some (.ref sa), some (.int (least : Int)), some .non, some (.ref a), some (.ref pl), some (.ref st), some (.ref D), x8, x9, x10] H1 := fun hd =>
    ⟨_, rfl, qE k ⟨hnd, hd⟩ H1 _ k1 I.stay I.trk⟩
  refine ⟨_, rfl, _, _, _, _, _, rfl, hsa, T.c_Stay, T.n_Stay_held, sF_held _ _ _, _, rfl, Nat.le_trans (by rw [tx_len]; have := hOk.len; omega) sizeBig, _, rfl, _, _, rfl, rfl, _, rfl, ?_⟩
  refine ifb (fun c1 => ?_) (fun c1 => ?_)
  rotate_left
  · have c1' := of_decide_eq_false c1
    rw [tx_len] at c1'
    exact if_f rfl (exit_ (.inl (by omega)))
  have c1' := of_decide_eq_true c1
  rw [tx_len] at c1'
  refine ⟨_, rfl, _, _, _, _, _, rfl, hsa, T.c_Stay, T.n_Stay_is_broken, sF_is_broken _ _ _, _, rfl, ?_⟩
  cases hbr : (stN L s0 k).brk with
  | true =>
    refine if_f rfl (if_f rfl (exit_ (.inr hbr)))
  | false =>
  refine if_t rfl ?_
  refine ⟨_, rfl, rfl, _, rfl, if_t rfl (if_t rfl ?_)⟩
  have hnotd : ¬ Done least (stN L s0 k) := fun hd => by
    rcases hd with hd | hd
    · omega
    · rw [hbr] at hd; cases hd
  refine ⟨fun σ' H' => ∃ m', m' < 501 - k ∧ MpW P w K H lv a l ps n L s0 least pl st D m' σ' H', fun _ _ h => h, ?_⟩
  -- if stay.key() in places
  refine ⟨_, rfl, sa, sdx, _, rfl, hsa, sF_no_key _ _ _, .ref sa, stN L s0 k, rfl, I.stay, fun p1 hp1 => ?_⟩
  have F1 := Ext.upd (o := .tup (keyV (stN L s0 k))) hp1
  have I1 := I.mono F1
  have kv1 : NKV (upd H1 p1 (.tup (keyV (stN L s0 k)))) (nkey (stN L s0 k)) (.ref p1) := nkey_v upd_same
  have k2 : Kp [a, l] H (upd H1 p1 (.tup (keyV (stN L s0 k)))) := k1.trans (Kp.of F1)
  have t2 : TK H (upd H1 p1 (.tup (keyV (stN L s0 k)))) := t1.trans (Ext.tk F1)
  generalize upd H1 p1 (.tup (keyV (stN L s0 k))) = H2 at I1 kv1 k2 t2 ⊢
  refine ⟨_, rfl, p1, D, nkey (stN L s0 k), kvs, rfl, rfl, I1.nd, kv1, nkey_depth _, _, rfl, ?_⟩
  refine ifb (fun c2 => ?_) (fun c2 => ?_)
  · obtain ⟨j, hj, ej⟩ := (hK _).mp c2
    have es := nkey_inj ej
    refine ⟨_, rfl, rfl, _, rfl, if_t rfl ?_⟩
    refine qN (never_of_rep hj es.symm fun i hi => ?_) H2 k2
    rcases Nat.lt_or_eq_of_le hi with z | z
    · exact hnd i z
    · rw [z]; exact hnotd
  have hfresh : valN kvs (nkey (stN L s0 k)) = none := by
    cases z : valN kvs (nkey (stN L s0 k)) with
    | none => rfl
    | some u => rw [z] at c2; cases c2
  have hinj' : ∀ i j, i < j → j < k + 1 → stN L s0 i ≠ stN L s0 j := fun i j hij hj => by
    rcases Nat.lt_succ_iff_lt_or_eq.mp hj with z | z
    · exact hinj i j hij z
    · intro e
      rw [z] at e hij
      have := (hK (nkey (stN L s0 k))).mpr ⟨i, hij, congrArg nkey e.symm⟩
      rw [hfresh] at this
      cases this
  have hnd' : ∀ j, j < k + 1 → ¬ Done least (stN L s0 j) := fun j hj => by
    rcases Nat.lt_succ_iff_lt_or_eq.mp hj with z | z
    · exact hnd j z
    · rw [z]; exact hnotd
  -- places[stay.key()] = len(parts)
  obtain ⟨sa', sdx', e', hsa2⟩ := id I1.stay
  cases e'
  refine ⟨_, rfl, _, _, rfl, .inl (sl I1.parts), ?_⟩
  refine ⟨_, rfl, _, rfl, sa, sdx', _, rfl, hsa2, sF_no_key _ _ _, .ref sa, stN L s0 k, rfl, I1.stay, fun p2 hp2 => ?_⟩
  have F2 := Ext.upd (o := .tup (keyV (stN L s0 k))) hp2
  have I2 := I1.mono F2
  have kv2 : NKV (upd H2 p2 (.tup (keyV (stN L s0 k)))) (nkey (stN L s0 k)) (.ref p2) := nkey_v upd_same
  have k3 : Kp [a, l] H (upd H2 p2 (.tup (keyV (stN L s0 k)))) := k2.trans (Kp.of F2)
  have t3 : TK H (upd H2 p2 (.tup (keyV (stN L s0 k)))) := t2.trans (Ext.tk F2)
  generalize upd H2 p2 (.tup (keyV (stN L s0 k))) = H3 at I2 kv2 k3 t3 ⊢
  refine ⟨p2, D, nkey (stN L s0 k), kvs, rfl, rfl, I2.nd, kv2, nkey_depth _, hfresh, ?_⟩
  have I3 := I2.atD (u := .int (ys.length : Int)) kv2 (nkey_depth _) hfresh (Nat.lt_of_lt_of_le (by omega) sizeBig)
  have softD : Soft H3 D := .nd I2.nd.at_
  have k4 : Kp [a, l] H (upd H3 D (ndO P w D (kvs ++ [(nkey (stN L s0 k), p2, .int (ys.length : Int))]))) := fun b o e nb => by
    rw [upd_ne (fun z => by rw [z, hD0] at e; cases e)]
    exact k3 b o e nb
  have t4 : TK H (upd H3 D (ndO P w D (kvs ++ [(nkey (stN L s0 k), p2, .int (ys.length : Int))]))) := fun b xs e => by
    rw [upd_ne (fun z => by rw [z, hD0] at e; cases e)]
    exact t3 b xs e
  dsimp only [cxOf, Cx.nox, Cx.wish]
  generalize upd H3 D (ndO P w D (kvs ++ [(nkey (stN L s0 k), p2, .int (ys.length : Int))])) = H4 at I3 k4 t4 ⊢
  -- stays.append(stay)
  refine ⟨_, rfl, tyL I3.stays, _, rfl, _, _, _, rfl, rfl, I3.stays, Nat.lt_of_lt_of_le (by omega) sizeBig, ?_⟩
  have I4 := I3.atSt ⟨hstl, hsp⟩ (zs ++ [.ref sa])
  have k5 : Kp [a, l] H (upd H4 st (.lst (zs ++ [.ref sa]))) := fun b o e nb => by
    rw [upd_ne (fun z => by rw [z, hst0] at e; cases e)]
    exact k4 b o e nb
  have t5 : TK H (upd H4 st (.lst (zs ++ [.ref sa]))) := fun b xs e => by
    rw [upd_ne (fun z => by rw [z, hst0] at e; cases e)]
    exact t4 b xs e
  generalize upd H4 st (.lst (zs ++ [.ref sa])) = H5 at I4 k5 t5 ⊢
  -- one pass
  have hne : (stN L s0 k).held ≠ [] := fun z => by rw [z] at c1'; simp at c1'; omega
  refine ⟨_, rfl, _, rfl, lv, .ref sa, L, stN L s0 k, rfl, hL.mono t5, hV, I4.stay, hOk, hne, fun H6 tp v' e6 htp hv' => ?_⟩
  have I5 := I4.mono e6
  have k6 : Kp [a, l] H H6 := k5.trans (Kp.of e6)
  have t6 : TK H H6 := t5.trans (Ext.tk e6)
  refine ⟨_, _, rfl, sq htp, rfl, _, _, rfl, _, _, rfl, rfl, ?_⟩
  -- parts.append
  refine ⟨_, rfl, tyL I5.parts, _, rfl, sz2 (by simp), fun pp hpp => ?_⟩
  have F7 := Ext.upd (o := .tup [.str (tx (stepS L (stN L s0 k)).1), .int 1]) hpp
  have I6 := (I5.withStay (s' := stN L s0 (k + 1)) hv').mono F7
  have k7 : Kp [a, l] H (upd H6 pp (.tup [.str (tx (stepS L (stN L s0 k)).1), .int 1])) := k6.trans (Kp.of F7)
  have t7 : TK H (upd H6 pp (.tup [.str (tx (stepS L (stN L s0 k)).1), .int 1])) := t6.trans (Ext.tk F7)
  generalize upd H6 pp (.tup [.str (tx (stepS L (stN L s0 k)).1), .int 1]) = H7 at I6 k7 t7 ⊢
  refine ⟨_, _, _, rfl, rfl, I6.parts, Nat.lt_of_lt_of_le (by omega) sizeBig, ?_⟩
  have I7 := I6.atPl ⟨hpll, hsp⟩ (ys ++ [.ref pp])
  have k8 : Kp [a, l] H (upd H7 pl (.lst (ys ++ [.ref pp]))) := fun b o e nb => by
    rw [upd_ne (fun z => by rw [z, hpl] at e; cases e)]
    exact k7 b o e nb
  have t8 : TK H (upd H7 pl (.lst (ys ++ [.ref pp]))) := fun b xs e => by
    rw [upd_ne (fun z => by rw [z, hpl] at e; cases e)]
    exact t7 b xs e
  generalize upd H7 pl (.lst (ys ++ [.ref pp])) = H8 at I7 k8 t8 ⊢
  -- track.write(part, 1)
  obtain ⟨⟨dx8, ha8⟩, hP8⟩ := id I7.trk
  obtain ⟨us8, hus8, _⟩ := hP8.len
  refine ⟨_, rfl, a, dx8, _, rfl, ha8, kF_no_write _ _, _, rfl, a, l, ps ++ wOnes (wlN L s0 k), n + k, (stepS L (stN L s0 k)).1, 1, 1, rfl, I7.trk, by rw [List.length_append, wOnes_len, wlN_len]; omega, by decide, fun H9 k9 t9 => ?_⟩
  have I8 := I7.write ⟨hpll, hstl⟩ k9 t9
  have soft8 : ∀ x ∈ [a, l], Soft H8 x := fun x hx => by
    simp only [List.mem_cons, List.not_mem_nil, or_false] at hx
    rcases hx with e | e <;> rw [e]
    · exact I7.soft.1
    · exact I7.soft.2.1
  refine ⟨501 - (k + 1), by omega, k + 1, v', ys ++ [.ref pp], zs ++ [.ref sa], kvs ++ [(nkey (stN L s0 k), p2, .int (ys.length : Int))], _, _, _, rfl, k8.trans k9, t8.trans (k9.kst soft8).tk, ?_, by rw [List.length_append, hkl]; rfl, by rw [List.length_append, hyl]; rfl, by rw [List.length_append, hzl]; rfl, Keys.snoc (f := fun j => nkey (stN L s0 j)) hK hfresh, hnd', hinj', rfl⟩
  rw [wOnes_snoc, ← List.append_assoc]
  exact I8
end
end OB
set_option Elab.async false
set_option linter.all false
set_option maxRecDepth 100000
set_option maxHeartbeats 4000000
namespace OB
open PySem PySem.Spec PySem.Calls PyProof.Rows L2 PySem.W StX
/-! ### feeders -/
def FedV (K : Frag) (H : Hp) (v : V) : Option (List Nat × Nat × S) → Prop
  | none => v = .non
  | some x => ∃ p u, v = .ref p ∧ H p = some (.tup [.str (tx x.1), .int (x.2.1 : Int), u]) ∧ IsStay K H u x.2.2
theorem FedV.keep {K : Frag} {H H' : Hp} {v : V} {x : Option (List Nat × Nat × S)} (k : Kst H H') (h : FedV K H v x) : FedV K H' v x := by
  cases x with
  | none => exact h
  | some x =>
    obtain ⟨p, u, e1, e2, e3⟩ := h
    exact ⟨p, u, e1, k.tk _ _ e2, e3.keep k⟩
/-- what is known: state, item, where the key stands, value -/
abbrev Kn := List (S × Nat × Addr × V)
def kn (es : Kn) : NEs := es.map fun e => (fkey e.1 e.2.1, e.2.2.1, e.2.2.2)
structure OkKn (K : Frag) (L : Lo) (H : Hp) (e : S × Nat × Addr × V) : Prop where
  st : OkS 2 e.1
  item : e.2.1 ∈ abcd
  val : FedV K H e.2.2.2 (fed L e.1 e.2.1)
structure FdAt (P : Program) (w : World) (K : Frag) (H : Hp) (f : Addr) (lv : V) (D : Addr) (L : Lo) (es : Kn) : Prop where
  at_ : ∃ dx, H f = some (.ins (He.ga K "Feeder") dx (fF lv (.ref D)))
  nd : ND P w H D (kn es)
  ok : ∀ e ∈ es, OkKn K L H e
theorem OkKn.keep {K : Frag} {L : Lo} {H H' : Hp} {e : S × Nat × Addr × V} (k : Kst H H') (h : OkKn K L H e) : OkKn K L H' e := ⟨h.st, h.item, h.val.keep k⟩
section
variable {P : Program} {w : World} {K : Frag} {H H' : Hp} {f D : Addr} {lv v : V} {L : Lo} {es : Kn}
theorem FdAt.mono (h : FdAt P w K H f lv D L es) (e : Ext H H') : FdAt P w K H' f lv D L es := by
  obtain ⟨dx, h1⟩ := h.at_
  exact ⟨⟨dx, e _ _ h1⟩, h.nd.same (e _ _ h.nd.at_) (Ext.tk e), fun x hx => (h.ok x hx).keep (Ext.kst e)⟩
/-- the feeder is no stay, no track -/
theorem fF_ne_sF {l k : V} {m : Nat} {h : List Nat} {b : Bool} : fF l k ≠ sF m h b := fun e => by
  have := (List.cons.inj e).1
  have := (Prod.mk.inj this).1
  exact absurd this (by decide +kernel)
theorem fF_ne_kF {l k p : V} {n : Int} : fF l k ≠ kF p n := fun e => by
  have := (List.cons.inj e).1
  have := (Prod.mk.inj this).1
  exact absurd this (by decide +kernel)
theorem FdAt.keep (h : FdAt P w K H f lv D L es) {M : List Addr} (k : Kp M H H') (hs : ∀ x ∈ M, Soft H x) (hf : f ∉ M) (hD : D ∉ M) : FdAt P w K H' f lv D L es := by
  obtain ⟨dx, h1⟩ := h.at_
  exact ⟨⟨dx, k _ _ h1 hf⟩, h.nd.same (k _ _ h.nd.at_ hD) (k.kst hs).tk, fun x hx => (h.ok x hx).keep (k.kst hs)⟩
theorem kn_val : ∀ {es : Kn} {s : S} {c : Nat} {u : V}, valN (kn es) (fkey s c) = some u → ∃ e ∈ es, e.1 = s ∧ e.2.1 = c ∧ e.2.2.2 = u
  | [], _, _, _, h => nomatch h
  | (t, d, a, x) :: r, s, c, u, h => by
    have h' : (if fkey t d = fkey s c then some x else valN (kn r) (fkey s c)) = some u := h
    by_cases e : fkey t d = fkey s c
    · rw [if_pos e] at h'
      obtain ⟨e1, e2⟩ := fkey_inj e
      exact ⟨_, List.mem_cons_self .., e1, e2, Option.some.inj h'⟩
    · rw [if_neg e] at h'
      obtain ⟨y, hy, z⟩ := kn_val h'
      exact ⟨y, List.mem_cons_of_mem _ hy, z⟩
theorem FdAt.few (h : FdAt P w K H f lv D L es) : es.length ≤ 352 := by
  have nd := h.nd.nodup
  have z := nodup_bound 352 (es.map fun e => code2 e.1 * 4 + (e.2.1 - 97)) ?_ ?_
  · rw [List.length_map] at z
    exact z
  · rw [List.nodup_iff_pairwise_ne, List.pairwise_map] at *
    have nd2 : List.Pairwise (fun a b => fkey a.1 a.2.1 ≠ fkey b.1 b.2.1) es := by
      unfold kn at nd
      rw [List.pairwise_map] at nd
      exact nd
    refine List.Pairwise.imp_of_mem (fun {a b} ha hb hab e => hab ?_) nd2
    have oa := h.ok a ha
    have ob := h.ok b hb
    have la := letter_lt oa.item
    have lb := letter_lt ob.item
    have e1 : code2 a.1 = code2 b.1 := by omega
    have e2 : a.2.1 = b.2.1 := by omega
    rw [code2_inj oa.st ob.st e1, e2]
  · intro x hx
    obtain ⟨e, he, ex⟩ := List.mem_map.mp hx
    have o := h.ok e he
    have := code2_lt o.st
    have := letter_lt o.item
    omega
theorem FdAt.put (h : FdAt P w K H f lv D L es) {s : S} {c : Nat} {b : Addr} {u : V} (hk : NKV H (fkey s c) (.ref b)) (hn : valN (kn es) (fkey s c) = none) (hs : OkS 2 s) (hc : c ∈ abcd) (hv : FedV K H u (fed L s c)) :
    FdAt P w K (upd H D (ndO P w D (kn es ++ [(fkey s c, b, u)]))) f lv D L (es ++ [(s, c, b, u)]) ∧ valN (kn (es ++ [(s, c, b, u)])) (fkey s c) = some u := by
  have k : Kp [D] H (upd H D (ndO P w D (kn es ++ [(fkey s c, b, u)]))) := Kp.put (by simp)
  have sf : ∀ x ∈ [D], Soft H x := fun x hx => by rw [List.mem_singleton.mp hx]; exact .nd h.nd.at_
  obtain ⟨dx, h1⟩ := h.at_
  have nf : f ≠ D := ne_of_at h1 h.nd.at_ (fun z => by cases z)
  have ek : kn (es ++ [(s, c, b, u)]) = kn es ++ [(fkey s c, b, u)] := by unfold kn; rw [List.map_append]; rfl
  have fw := h.few
  refine ⟨⟨⟨dx, by rw [upd_ne nf]; exact h1⟩, ?_, fun x hx => ?_⟩, ?_⟩
  · rw [ek]
    exact h.nd.put hk (fkey_depth _ _) hn (Nat.lt_of_lt_of_le (by unfold kn; rw [List.length_map]; omega) sizeBig)
  · rcases List.mem_append.mp hx with hx | hx
    · exact (h.ok x hx).keep (k.kst sf)
    · rw [List.mem_singleton.mp hx]
      exact OkKn.keep (k.kst sf) ⟨hs, hc, hv⟩
  · rw [ek, valN_snoc hn, if_pos rfl]
end
theorem tts_wOnes (ws : List (List Nat)) : tts (wOnes ws) = ws.flatten := by
  unfold tts wOnes
  rw [List.map_map]
  congr 1
  induction ws with
  | nil => rfl
  | cons x r ih => rw [List.map_cons, ih]; rfl
/-- back to what stood ahead -/
theorem ext_of_kp {M : List Addr} {H H1 H2 : Hp} (e : Ext H H1) (k : Kp M H1 H2) (h : ∀ x ∈ M, H x = none) : Ext H H2 := fun b o hb => k _ _ (e _ _ hb) fun z => by rw [h b z] at hb; cases hb
theorem fresh_of {H H1 : Hp} {a : Addr} (e : Ext H H1) (h : H1 a = none) : H a = none := by
  cases c : H a with
  | none => rfl
  | some o => rw [e _ _ c] at h; cases h
end OB
set_option Elab.async false
set_option linter.all false
set_option maxRecDepth 100000
set_option maxHeartbeats 4000000
namespace OB
/-! ### copies of a text, one behind another -/
theorem feed_join {L : Lo} {s : S} {a b : List Nat} {x y : List Nat × Nat × S} (h : feedL L s a = some x) (g : feedL L x.2.2 b = some y) : feedL L s (a ++ b) = some (x.1 ++ y.1, x.2.1 + y.2.1, y.2.2) := by
  rw [feedL_app, h, Option.bind_some, g, Option.bind_some]
theorem feed_split {L : Lo} {s : S} {a b : List Nat} {x z : List Nat × Nat × S} (h : feedL L s a = some x) (g : feedL L s (a ++ b) = some z) : ∃ y, feedL L x.2.2 b = some y ∧ z = (x.1 ++ y.1, x.2.1 + y.2.1, y.2.2) := by
  rw [feedL_app, h, Option.bind_some] at g
  cases e : feedL L x.2.2 b with
  | none => rw [e] at g; cases g
  | some y =>
    rw [e, Option.bind_some] at g
    exact ⟨y, rfl, (Option.some.inj g).symm⟩
theorem feed_none {L : Lo} {s : S} {a b : List Nat} {x : List Nat × Nat × S} (h : feedL L s a = some x) (g : feedL L x.2.2 b = none) (c : List Nat) : feedL L s (a ++ (b ++ c)) = none := by
  rw [feedL_app, h, Option.bind_some, feedL_app, g]
  rfl
theorem feed_pow {L : Lo} {s : S} {u w : List Nat} {m : Nat} (h : feedL L s u = some (w, m, s)) : ∀ q, feedL L s (pw u q) = some (pw w q, m * q, s)
  | 0 => rfl
  | q + 1 => by
    rw [pw_succ, feed_join h (feed_pow h q), pw_succ, Nat.mul_succ, Nat.add_comm]
/-- the state behind j copies -/
noncomputable def stR (L : Lo) (s : S) (t : List Nat) (j : Nat) : S := match feedL L s (pw t j) with
  | some x => x.2.2
  | none => s
theorem stR_zero (L : Lo) (s : S) (t : List Nat) : stR L s t 0 = s := rfl
theorem stR_of {L : Lo} {s : S} {t : List Nat} {j : Nat} {x : List Nat × Nat × S} (h : feedL L s (pw t j) = some x) : stR L s t j = x.2.2 := by
  unfold stR
  rw [h]
/-- what is known of the copies so far -/
def Rows (L : Lo) (s : S) (t : List Nat) (rs : Prs') : Prop := ∀ j, j ≤ rs.length → feedL L s (pw t j) = some (tts (rs.take j), mds (rs.take j), stR L s t j)
theorem Rows.nil (L : Lo) (s : S) (t : List Nat) : Rows L s t [] := fun j hj => by
  have : j = 0 := Nat.le_zero.mp hj
  rw [this]
  rfl
theorem Rows.all {L : Lo} {s : S} {t : List Nat} {rs : Prs'} (h : Rows L s t rs) : feedL L s (pw t rs.length) = some (tts rs, mds rs, stR L s t rs.length) := by
  have z := h rs.length (Nat.le_refl _)
  rw [List.take_length] at z
  exact z
theorem pw_last (t : List Nat) (k : Nat) : pw t (k + 1) = pw t k ++ t := by rw [pw_add, pw_one]
theorem Rows.snoc {L : Lo} {s : S} {t : List Nat} {rs : Prs'} (h : Rows L s t rs) {x : List Nat × Nat × S} (hx : feedL L (stR L s t rs.length) t = some x) : Rows L s t (rs ++ [(x.1, x.2.1)]) ∧ stR L s t (rs.length + 1) = x.2.2 := by
  have e := feed_join h.all (b := t) hx
  rw [← pw_last] at e
  have e2 := stR_of e
  refine ⟨fun j hj => ?_, e2⟩
  rw [List.length_append, List.length_singleton] at hj
  by_cases c : j ≤ rs.length
  · rw [List.take_append_of_le_length c]
    exact h j c
  · have ej : j = rs.length + 1 := by omega
    rw [ej, e, e2, List.take_of_length_le (by rw [List.length_append, List.length_singleton]; omega), tts_append, mds_append]
    simp [tts, mds]
theorem Rows.from {L : Lo} {s : S} {t : List Nat} {rs : Prs'} (h : Rows L s t rs) {j r : Nat} (hj : j + r ≤ rs.length) : feedL L (stR L s t j) (pw t r) = some (tts ((rs.drop j).take r), mds ((rs.drop j).take r), stR L s t (j + r)) := by
  have h1 := h j (by omega)
  have h2 := h (j + r) hj
  rw [pw_add] at h2
  obtain ⟨y, hy, e⟩ := feed_split h1 h2
  have ha : rs.take (j + r) = rs.take j ++ (rs.drop j).take r := by rw [List.take_add]
  rw [ha, tts_append, mds_append] at e
  have e1 := (Prod.mk.inj e).1
  have e2 := (Prod.mk.inj (Prod.mk.inj e).2).1
  have e3 := (Prod.mk.inj (Prod.mk.inj e).2).2
  have f1 := List.append_cancel_left e1
  dsimp only at e2 hy
  have f2 : mds ((rs.drop j).take r) = y.2.1 := by omega
  rw [hy, f1, f2, e3]
/-- the states come round -/
theorem Rows.cycle {L : Lo} {s : S} {t : List Nat} {rs : Prs'} (h : Rows L s t rs) {j : Nat} (hj : j < rs.length) (hs : stR L s t j = stR L s t rs.length) (more : Nat) :
    feedL L s (pw t (rs.length + more)) = some (tts rs ++ (pw (tts (rs.drop j)) (more / (rs.length - j)) ++ tts ((rs.drop j).take (more % (rs.length - j)))), mds rs + (mds (rs.drop j) * (more / (rs.length - j)) + mds ((rs.drop j).take (more % (rs.length - j)))), stR L s t (j + more % (rs.length - j))) := by
  have hp : 0 < rs.length - j := by omega
  have h1 := h.from (j := j) (r := rs.length - j) (by omega)
  have hd : (rs.drop j).length = rs.length - j := List.length_drop
  rw [← hd, List.take_length, hd, show j + (rs.length - j) = rs.length by omega, ← hs] at h1
  have h2 := feed_pow h1 (more / (rs.length - j))
  rw [pw_mul] at h2
  have hm := Nat.mod_lt more hp
  have h3 := h.from (j := j) (r := more % (rs.length - j)) (by omega)
  have h4 := feed_join h2 h3
  rw [← pw_add, Nat.div_add_mod] at h4
  have h0 := h.all
  rw [← hs] at h0
  have h5 := feed_join h0 h4
  rw [← pw_add] at h5
  exact h5
theorem rows_bound {L : Lo} (hV : VLo L) {s : S} (h : OkS 2 s) {t : List Nat} (ht : Letters t) {k : Nat} {x : List Nat × Nat × S} (e : feedL L s (pw t k) = some x) : OkS 2 x.2.2 := by
  refine (feedL_ok hV (pw t k) s h ?_ x e).st
  unfold pw
  exact flat_letters fun w hw => by rw [(List.mem_replicate.mp hw).2]; exact ht
/-- no more than 88 different states -/
theorem rows_few {L : Lo} (hV : VLo L) {s : S} (h : OkS 2 s) {t : List Nat} (ht : Letters t) {rs : Prs'} (hr : Rows L s t rs) (hi : ∀ i j, i < j → j < rs.length → stR L s t i ≠ stR L s t j) : rs.length ≤ 88 := by
  have ok : ∀ j, j ≤ rs.length → OkS 2 (stR L s t j) := fun j hj => rows_bound hV h ht (hr j hj)
  exact few_of_inj (f := fun j => code2 (stR L s t j)) (fun i hi' => code2_lt (ok i (Nat.le_of_lt hi'))) fun i j hij hj e => hi i j hij hj (code2_inj (ok i (by omega)) (ok j (by omega)) e)
theorem Rows.ok {L : Lo} (hV : VLo L) {s : S} (h : OkS 2 s) {t : List Nat} (ht : Letters t) {rs : Prs'} (hr : Rows L s t rs) {j : Nat} (hj : j ≤ rs.length) : OkS 2 (stR L s t j) := rows_bound hV h ht (hr j hj)
end OB
set_option Elab.async false
set_option linter.all false
set_option maxRecDepth 100000
set_option maxHeartbeats 4000000
namespace OB
open PySem PySem.Spec PySem.Calls PyProof.Rows L2 PySem.W StX
section
variable {P : Program} {w : World} {K : Frag} {mg : Str → Option Value} {base : Heap}
/- Feeder.__init__: slots self=0 loop=1 -/
def sp_Feeder_init (P : Program) (w : World) (K : Frag) : Sp := fun vs H Q _ => ∃ p dx lv, vs = [.ref p, lv] ∧ H p = some (.ins (He.ga K "Feeder") dx []) ∧ ∀ H' D L, Kp [p] H H' → H D = none → FdAt P w K H' p lv D L [] → Q .non H'
def N_Feeder_init : List Str := ["self", "loop"]
theorem sc_Feeder_init : FnScope N_Feeder_init ["self", "loop"] (defScope s_Feeder_init) := ⟨rfl, rfl, rfl, by decide +kernel, rfl, by decide +kernel, by decide +kernel⟩
theorem ok_Feeder_init (T : Txt K mg w) : FnR P w K mg base CX0 1 (He.ma K (He.ga K "Feeder") "__init__") (sp_Feeder_init P w K) := by
  refine ok_of T.f_Feeder_init sc_Feeder_init (fun _ _ _ _ _ _ us hl => match us, hl with | [_, _], _ => rfl) (fun vs H Q E h => ?_) (fun cdv A outer s H vs Q E hr h => ?_)
  · repeat (first | (obtain ⟨rfl, _⟩ := h; rfl) | (obtain ⟨_, h⟩ := h))
  refine ⟨_, (pss_cons (ps_fld (pv 0) (pv 1) rfl)
    (pss_one (ps_fld (pv 0) pe_nd rfl))), ?_⟩
  obtain ⟨p, dx, lv, rfl, hp, q⟩ := h
  refine ⟨_, rfl, _, rfl, _, _, _, _, rfl, hp, T.c_Feeder, T.n_Feeder_loop, by show 0 < 1000; decide, ?_⟩
  rw [fF_new0 lv .non]
  intro D hD hsys
  have npD : p ≠ D := fun z => by rw [← z, upd_same] at hD; cases hD
  have hD0 : H D = none := by rw [upd_ne npD.symm] at hD; exact hD
  refine ⟨_, rfl, _, _, _, _, rfl, by rw [upd_ne npD]; exact upd_same, T.c_Feeder, T.n_Feeder_known, by show 1 < 1000; decide, ?_⟩
  rw [fF_new1 lv (.ref D)]
  dsimp only [cxOf, Cx.nox, Cx.wish]
  refine q _ D ⟨[], []⟩ (((Kp.put (by simp)).trans (Kp.new hD)).trans (Kp.put (by simp))) hD0 ⟨⟨dx, upd_same⟩, ?_, fun _ h => nomatch h⟩
  exact (nd_nil (H := upd H p (.ins (He.ga K "Feeder") dx [("loop", lv)])) hsys).same (by rw [upd_ne npD.symm]; exact upd_same) (fun a xs hx => by
    have n : a ≠ p := fun z => by
      rw [z, upd_ne npD, upd_same] at hx
      cases hx
    rw [upd_ne n]
    exact hx)
/- Feeder.feed: slots self=0 stay=1 item=2 key=3 track=4 after=5 -/
def sp_Feeder_feed (P : Program) (w : World) (K : Frag) : Sp := fun vs H Q _ => ∃ f sv lv D L es s c, vs = [.ref f, sv, .str (tx [c])] ∧ FdAt P w K H f lv D L es ∧ IsLo H lv L ∧ VLo L ∧ IsStay K H sv s ∧ OkS 2 s ∧ c ∈ abcd ∧
  ∀ H' v es', Kp [D] H H' → FdAt P w K H' f lv D L es' → FedV K H' v (fed L s c) → Q v H'
def N_Feeder_feed : List Str := ["self", "stay", "item", "key", "track", "after"]
theorem sc_Feeder_feed : FnScope N_Feeder_feed ["self", "stay", "item"] (defScope s_Feeder_feed) := ⟨rfl, rfl, rfl, by decide +kernel, rfl, by decide +kernel, by decide +kernel⟩
theorem ok_Feeder_feed (T : Txt K mg w) : FnR P w K mg base CX0 7 (He.ma K (He.ga K "Feeder") "feed") (sp_Feeder_feed P w K) := by
  refine ok_of T.f_Feeder_feed sc_Feeder_feed (fun _ _ _ _ _ _ us hl => match us, hl with | [_, _, _], _ => rfl) (fun vs H Q E h => ?_) (fun cdv A outer s H vs Q E hr h => ?_)
  · repeat (first | (obtain ⟨rfl, _⟩ := h; rfl) | (obtain ⟨_, h⟩ := h))
  refine ⟨_, (pss_cons (ps_if (pt_val (pe_fld (pv 1) rfl))
      (pss_one (ps_ret (pe_tup (pa_cons (pv 2) (pa_cons pe_int (pa_cons (pv 1) pa_nil))))))
      pss_nil)
    (pss_cons (ps_set (i := 3) sc_Feeder_feed.nd rfl (Or.inl rfl) (pe_tup (pa_cons (pe_met0 (ok_Stay_key T) T.c_Stay T.mt_Stay_key (hr.mono (by decide)) pass0 (pv 1)) (pa_cons (pv 2) pa_nil))))
    (pss_cons (ps_if (pt_cmpR (op_nnotin hr.units) (pv 3) (pe_fld (pv 0) rfl) rfl)
      (pss_cons (ps_set (i := 4) sc_Feeder_feed.nd rfl (Or.inl rfl) (pe_mk0 (ok_Track_init T) T.m_Track T.g_Track (hr.mono (by decide)) pass0))
      (pss_cons (ps_set (i := 5) sc_Feeder_feed.nd rfl (Or.inl rfl) (pe_f (ok_make_passes T) T.g_make_passes (kp_of T.f_make_passes) (hr.mono (by decide)) pass0 (pa_cons (pe_fld (pv 0) rfl) (pa_cons (pe_mk (ok_Stay_init2 T) T.m_Stay T.g_Stay (hr.mono (by decide)) pass0 (pa_cons (pe_fld (pv 1) rfl) (pa_cons (pe_op op_add_str (pe_fld (pv 1) rfl) (pv 2)) pa_nil))) (pa_cons (pe_gi T.g_REACH) (pa_cons pe_non (pa_cons (pv 4) pa_nil)))))))
      (pss_one (ps_asg (pe_ifExp (pt_cmpR op_isN (pv 5) pe_non (nomark _)) pe_non (pe_tup (pa_cons (pe_f (ok_joined_parts T) T.g_joined_parts (kp_of T.f_joined_parts) (hr.mono (by decide)) pass0 (pa_cons (pe_fld (pv 4) rfl) pa_nil)) (pa_cons (pe_fld (pv 4) rfl) (pa_cons (pv 5) pa_nil))))) (pg_sub (pe_fld (pv 0) rfl) (pv 3) (set_nd hr.units))))))
      pss_nil)
    (pss_one (ps_ret (pe_nget hr.units (pe_fld (pv 0) rfl) (pv 3) (fun _ _ => rfl))))))), ?_⟩
  obtain ⟨f, sv, lv, D, L, es, s0, c, rfl, hF, hL, hV, hS, hO, hc, q⟩ := h
  obtain ⟨fdx, hf⟩ := id hF.at_
  obtain ⟨sa, sdx, rfl, hsa⟩ := id hS
  refine ⟨_, rfl, _, _, _, _, _, rfl, hsa, T.c_Stay, T.n_Stay_is_broken, sF_is_broken _ _ _, _, rfl, ?_⟩
  cases hb : s0.brk with
  | true =>
    refine if_t rfl ⟨_, rfl, _, rfl, sz2 (by simp), fun p hp => ?_⟩
    have e := Ext.upd (o := .tup [.str (tx [c]), .int 0, .ref sa]) hp
    refine q _ _ es (Kp.of e) (hF.mono e) ?_
    rw [fed_brk hb]
    exact ⟨p, _, rfl, upd_same, hS.keep (Ext.kst e)⟩
  | false =>
  refine if_f rfl ?_
  -- the key
  refine ⟨_, rfl, sa, sdx, _, rfl, hsa, sF_no_key _ _ _, .ref sa, s0, rfl, hS, fun p1 hp1 => ⟨_, rfl, sz2 (by simp), fun r1 hr1 => ?_⟩⟩
  have F1 := Ext.upd (o := .tup (keyV s0)) hp1
  have F2 := Ext.upd (o := .tup [.ref p1, .str (tx [c])]) hr1
  have np : p1 ≠ r1 := fun z => by rw [← z, upd_same] at hr1; cases hr1
  have E1 := F1.trans F2
  have kv : NKV (upd (upd H p1 (.tup (keyV s0))) r1 (.tup [.ref p1, .str (tx [c])])) (fkey s0 c) (.ref r1) := fkey_v (by rw [upd_ne np]; exact upd_same) upd_same
  generalize upd (upd H p1 (.tup (keyV s0))) r1 (.tup [.ref p1, .str (tx [c])]) = H1 at E1 kv ⊢
  have hF1 := hF.mono E1
  have last : ∀ (H2 : Hp) (es2 : Kn) (u : V) (x4 x5 : Option V), Kp [D] H H2 → FdAt P w K H2 f lv D L es2 → NKV H2 (fkey s0 c) (.ref r1) → valN (kn es2) (fkey s0 c) = some u → FedV K H2 u (fed L s0 c) →
      tRet (tOp (rNget (cxOf CX0 P w K mg base N_Feeder_feed "Feeder.feed" (defScope s_Feeder_feed) (He.ma K (He.ga K "Feeder") "feed") cdv A outer s H E).nox) (tFld K (tVar 0) "known") (tVar 3)) { nx := fun _ H' => Q .non H', rt := Q } [some (.ref f), some (.ref sa), some (.str (tx [c])), some (.ref r1), x4, x5] H2 := by
    intro H2 es2 u x4 x5 k2 hF2 kv2 hv hfe
    obtain ⟨dx2, hf2⟩ := hF2.at_
    exact ⟨_, rfl, _, _, _, _, _, rfl, hf2, T.c_Feeder, T.n_Feeder_known, fF_known _ _, _, rfl, r1, D, fkey s0 c, kn es2, u, rfl, rfl, hF2.nd, kv2, fkey_depth _ _, hv, q H2 u es2 k2 hF2 hfe⟩
  refine ⟨_, rfl, _, rfl, _, _, _, _, _, rfl, E1 _ _ hf, T.c_Feeder, T.n_Feeder_known, fF_known _ _, r1, D, fkey s0 c, kn es, rfl, rfl, hF1.nd, kv, fkey_depth _ _, _, rfl, ?_⟩
  refine ifb (fun c1 => ?_) (fun c1 => ?_)
  rotate_left
  · cases hv : valN (kn es) (fkey s0 c) with
    | none => rw [hv] at c1; cases c1
    | some u =>
      obtain ⟨e, he, e1, e2, e3⟩ := kn_val hv
      have ok := (hF1.ok e he).val
      rw [e1, e2, e3] at ok
      exact last H1 es u _ _ (Kp.of E1) hF1 kv hv ok
  have hfresh : valN (kn es) (fkey s0 c) = none := by
    cases z : valN (kn es) (fkey s0 c) with
    | none => rfl
    | some u => rw [z] at c1; cases c1
  -- Track()
  intro ta tdx n1 n2 n3
  have EM := ext_made (u := .own ta) (o := .ins (He.ga K "Track") tdx []) n1 n2
  refine ⟨ta, tdx, rfl, upd_same, fun H2 tl k2 htl t2 => ⟨rfl, ?_⟩⟩
  have e2 := kp_made n1 n2 k2
  have E2 := E1.trans e2
  have hta0 : H ta = none := fresh_of E1 n1
  have htl0 : H1 tl = none := fresh_of EM htl
  have hS2 := hS.keep (Ext.kst E2)
  obtain ⟨sa', sdx', e', hsa2⟩ := id hS2
  cases e'
  -- Stay(..), make_passes(..)
  refine ⟨_, rfl, _, _, _, _, _, rfl, E2 _ _ hf, T.c_Feeder, T.n_Feeder_loop, fF_loop _ _, ?_⟩
  refine ⟨_, rfl, _, _, _, _, _, rfl, hsa2, T.c_Stay, T.n_Stay_mark, sF_mark _ _ _, _, rfl, _, _, _, _, _, rfl, hsa2, T.c_Stay, T.n_Stay_held, sF_held _ _ _, _, rfl, _, _, rfl, rfl, Nat.le_trans (by rw [tx_len, tx_len]; have := hO.len; simp; omega) sizeBig, ?_⟩
  rw [tx_app]
  intro y dy m1 m2 m3
  refine ⟨y, dy, s0.mark, s0.held ++ [c], false, rfl, upd_same, fun H3 k3 hy => ⟨rfl, ?_⟩⟩
  have e3 := kp_made m1 m2 k3
  have hy3 : IsStay K H3 (.ref y) ⟨s0.mark, s0.held ++ [c], false⟩ := ⟨y, dy, rfl, hy⟩
  have E3 := E2.trans e3
  have t3 := t2.mono e3
  have O3 : OkS 3 ⟨s0.mark, s0.held ++ [c], false⟩ := ⟨hO.mark, hO.let_.app (.one hc), by have := hO.len; simp only [List.length_append, List.length_singleton]; omega, fun z => by cases z⟩
  refine ⟨_, rfl, lv, .ref y, ta, tl, [], 0, L, ⟨s0.mark, s0.held ++ [c], false⟩, 3, rfl, hL.mono (Ext.tk E3), hV, hy3, O3, by decide, t3, by decide, fun hN => fun H4 k4 => ?_, fun k hk H4 v k4 hv t4 => ?_⟩
  · -- it never ends
    have e4 : Ext H H4 := ext_of_kp E3 k4 fun x hx => by
      simp only [List.mem_cons, List.not_mem_nil, or_false] at hx
      rcases hx with z | z <;> rw [z]
      · exact hta0
      · exact fresh_of E1 htl0
    have e14 : Ext H1 H4 := ext_of_kp (e2.trans e3) k4 fun x hx => by
      simp only [List.mem_cons, List.not_mem_nil, or_false] at hx
      rcases hx with z | z <;> rw [z]
      · exact n1
      · exact htl0
    have hF4 := hF1.mono e14
    have kv4 := NKV.same (Ext.tk e14) _ _ kv
    obtain ⟨dx4, hf4⟩ := hF4.at_
    have fv : FedV K H4 .non (fed L s0 c) := by rw [fed_never hb hN]; rfl
    obtain ⟨g1, g2⟩ := hF4.put kv4 hfresh hO hc fv
    refine ⟨_, rfl, rfl, _, rfl, if_t rfl ?_⟩
    refine ⟨_, rfl, _, _, _, _, _, rfl, hf4, T.c_Feeder, T.n_Feeder_known, fF_known _ _, _, rfl, r1, D, fkey s0 c, kn es, rfl, rfl, hF4.nd, kv4, fkey_depth _ _, hfresh, ?_⟩
    have k5 : Kp [D] H4 (upd H4 D (ndO P w D (kn es ++ [(fkey s0 c, r1, .non)]))) := Kp.put (by simp)
    have sf : ∀ x ∈ [D], Soft H4 x := fun x hx => by rw [List.mem_singleton.mp hx]; exact .nd hF4.nd.at_
    refine last _ _ .non _ _ ((Kp.of e4).trans k5) g1 (NKV.same (k5.kst sf).tk _ _ kv4) g2 ?_
    rw [fed_never hb hN]
    rfl
  · -- it ends
    have e4 : Ext H H4 := ext_of_kp E3 k4 fun x hx => by
      simp only [List.mem_cons, List.not_mem_nil, or_false] at hx
      rcases hx with z | z <;> rw [z]
      · exact hta0
      · exact fresh_of E1 htl0
    have e14 : Ext H1 H4 := ext_of_kp (e2.trans e3) k4 fun x hx => by
      simp only [List.mem_cons, List.not_mem_nil, or_false] at hx
      rcases hx with z | z <;> rw [z]
      · exact n1
      · exact htl0
    have hk5 := ends_few hV O3 hk
    have hwl := wl_len hV O3 k hk.1
    obtain ⟨va, vdx, rfl, hva⟩ := id hv
    refine ⟨_, rfl, rfl, _, rfl, if_f rfl ?_⟩
    rw [List.nil_append, Nat.zero_add] at t4
    obtain ⟨⟨tdx4, hta4⟩, hP4⟩ := id t4
    refine ⟨_, rfl, _, _, _, _, _, rfl, hta4, T.c_Track, T.n_Track_pairs, kF_pairs _ _, tl, _, rfl, hP4, by rw [wOnes_len, wlN_len]; omega, by rw [tts_wOnes]; omega, fun H5 e5 => ?_⟩
    rw [tts_wOnes]
    refine ⟨_, rfl, _, _, _, _, _, rfl, e5 _ _ hta4, T.c_Track, T.n_Track_made, kF_made _ _, _, rfl, sz2 (by simp), fun tp htp => ?_⟩
    have F6 := Ext.upd (o := .tup [.str (tx (wlN L ⟨s0.mark, s0.held ++ [c], false⟩ k).flatten), .int (k : Int), .ref va]) htp
    have e16 := e14.trans (e5.trans F6)
    have hF6 := hF1.mono e16
    have kv6 := NKV.same (Ext.tk e16) _ _ kv
    obtain ⟨dx6, hf6⟩ := hF6.at_
    have fv : FedV K (upd H5 tp (.tup [.str (tx (wlN L ⟨s0.mark, s0.held ++ [c], false⟩ k).flatten), .int (k : Int), .ref va])) (.ref tp) (fed L s0 c) := by
      rw [fed_ends hb hk]
      exact ⟨tp, _, rfl, upd_same, hv.keep (Ext.kst (e5.trans F6))⟩
    have e46 := e4.trans (e5.trans F6)
    generalize upd H5 tp (.tup [.str (tx (wlN L ⟨s0.mark, s0.held ++ [c], false⟩ k).flatten), .int (k : Int), .ref va]) = H6 at hF6 kv6 hf6 fv e46 ⊢
    obtain ⟨g1, g2⟩ := hF6.put kv6 hfresh hO hc fv
    refine ⟨_, rfl, _, _, _, _, _, rfl, hf6, T.c_Feeder, T.n_Feeder_known, fF_known _ _, _, rfl, r1, D, fkey s0 c, kn es, rfl, rfl, hF6.nd, kv6, fkey_depth _ _, hfresh, ?_⟩
    have k7 : Kp [D] H6 (upd H6 D (ndO P w D (kn es ++ [(fkey s0 c, r1, .ref tp)]))) := Kp.put (by simp)
    have sf : ∀ x ∈ [D], Soft H6 x := fun x hx => by rw [List.mem_singleton.mp hx]; exact .nd hF6.nd.at_
    exact last _ _ (.ref tp) _ _ ((Kp.of e46).trans k7) g1 (NKV.same (k7.kst sf).tk _ _ kv6) g2 (fv.keep (k7.kst sf))
end
end OB
set_option Elab.async false
set_option linter.all false
set_option maxRecDepth 100000
set_option maxHeartbeats 4000000
namespace OB
open PySem PySem.Spec PySem.Calls PyProof.Rows L2 PySem.W StX
section
variable {P : Program} {w : World} {K : Frag} {mg : Str → Option Value} {base : Heap}
/- Feeder.feed_text: slots self=0 stay=1 text=2 written=3 made=4 item=5 found=6 part=7 more=8 -/
def sp_Feeder_feed_text (P : Program) (w : World) (K : Frag) : Sp := fun vs H Q _ => ∃ f sv lv D L es s t, vs = [.ref f, sv, .str (tx t)] ∧ FdAt P w K H f lv D L es ∧ IsLo H lv L ∧ VLo L ∧ IsStay K H sv s ∧ OkS 2 s ∧ Letters t ∧ t.length ≤ 20 ∧
  ∀ H' v es', Kp [D] H H' → FdAt P w K H' f lv D L es' → FedV K H' v (feedL L s t) → Q v H'
theorem feedL_snoc {L : Lo} {s : S} {l : List Nat} {c : Nat} {x : List Nat × Nat × S} (h : feedL L s l = some x) : (fed L x.2.2 c = none → ∀ r, feedL L s (l ++ c :: r) = none) ∧ ∀ y, fed L x.2.2 c = some y → feedL L s (l ++ [c]) = some (x.1 ++ y.1, x.2.1 + y.2.1, y.2.2) := by
  refine ⟨fun e r => ?_, fun y e => ?_⟩
  · rw [feedL_app, h, Option.bind_some]
    show ((fed L x.2.2 c).bind _).bind _ = none
    rw [e]
    rfl
  · rw [feedL_app, h, Option.bind_some]
    show ((fed L x.2.2 c).bind _).bind _ = _
    rw [e]
    show (some (y.1 ++ [], y.2.1 + 0, y.2.2)).bind _ = _
    rw [List.append_nil, Nat.add_zero]
    rfl
def N_Feeder_feed_text : List Str := ["self", "stay", "text", "written", "made", "item", "found", "part", "more"]
theorem sc_Feeder_feed_text : FnScope N_Feeder_feed_text ["self", "stay", "text"] (defScope s_Feeder_feed_text) := ⟨rfl, rfl, rfl, by decide +kernel, rfl, by decide +kernel, by decide +kernel⟩
theorem ok_Feeder_feed_text (T : Txt K mg w) : FnR P w K mg base CX0 8 (He.ma K (He.ga K "Feeder") "feed_text") (sp_Feeder_feed_text P w K) := by
  refine ok_of T.f_Feeder_feed_text sc_Feeder_feed_text (fun _ _ _ _ _ _ us hl => match us, hl with | [_, _, _], _ => rfl) (fun vs H Q E h => ?_) (fun cdv A outer s H vs Q E hr h => ?_)
  · repeat (first | (obtain ⟨rfl, _⟩ := h; rfl) | (obtain ⟨_, h⟩ := h))
  refine ⟨_, (pss_cons (ps_par (i := 3) (j := 4) rfl sc_Feeder_feed_text.nd rfl rfl (by decide) rfl rfl (pa_cons (pe_lst pa_nil) (pa_cons pe_int pa_nil)) (by rfl))
    (pss_cons (ps_for PassesOwn.never rfl (pi_str (pv 2)) (pg_name (i := 5) sc_Feeder_feed_text.nd rfl (Or.inl rfl))
      (pss_cons (ps_set (i := 6) sc_Feeder_feed_text.nd rfl (Or.inl rfl) (pe_met (ok_Feeder_feed T) T.c_Feeder T.mt_Feeder_feed (hr.mono (by decide)) pass0 (pv 0) (pa_cons (pv 1) (pa_cons (pv 5) pa_nil))))
      (pss_cons (ps_if (pt_cmpR op_isN (pv 6) pe_non (nomark _))
        (pss_one (ps_ret pe_non))
        pss_nil)
      (pss_cons (ps_asg (pv 6) (pg_tup rfl (pgs_cons (pg_name (i := 7) sc_Feeder_feed_text.nd rfl (Or.inl rfl)) (pgs_cons (pg_name (i := 8) sc_Feeder_feed_text.nd rfl (Or.inl rfl)) (pgs_cons (pg_name (i := 1) sc_Feeder_feed_text.nd rfl (Or.inl rfl)) pgs_nil)))))
      (pss_cons (ps_expr (pe_bm PySem.F.plainAttrs_list PySem.F.slot_list_append PySem.F.type_list_append mt_append (pv 3) (pa_cons (pv 7) pa_nil)))
      (pss_one (ps_aug (i := 4) sc_Feeder_feed_text.nd rfl (Or.inl rfl) (pv 8) ip_add)))))))
    (pss_one (ps_ret (pe_tup (pa_cons (pe_join pe_str (pv 3)) (pa_cons (pv 4) (pa_cons (pv 1) pa_nil)))))))), ?_⟩
  obtain ⟨f, sv, lv, D, L, es, s0, t, rfl, hF, hL, hV, hS, hO, ht, htl, q⟩ := h
  obtain ⟨fdx, hf⟩ := id hF.at_
  refine ⟨sz2 (by simp), fun wl hwl => ⟨_, _, rfl, ?_⟩⟩
  have E0 : Ext H (upd H wl (.lst [])) := Ext.upd hwl
  have hDw : D ≠ wl := fun z => by rw [← z, hF.nd.at_] at hwl; cases hwl
  refine ⟨_, rfl, _, rfl, for_it walk_tx (fun i σ H' => ∃ v es' ws x x5 x6 x7 x8, σ = [some (.ref f), some v, some (.str (tx t)), some (.ref wl), some (.int ((x : List Nat × Nat × S).2.1 : Int)), x5, x6, x7, x8] ∧ Kp [D] H H' ∧ FdAt P w K H' f lv D L es' ∧ IsStay K H' v x.2.2 ∧
    H' wl = some (.lst ((ws : List (List Nat)).map fun z => .str (tx z))) ∧ ws.length = i ∧ ws.flatten = x.1 ∧ feedL L s0 (t.take i) = some x) ⟨sv, es, [], ([], 0, s0), _, _, _, _, rfl, Kp.of E0, hF.mono E0, hS.keep (Ext.kst E0), upd_same, rfl, rfl, rfl⟩ (fun _ _ _ _ _ => trivial) ?_ ?_⟩
  · rintro i x σ H1 H1' hi ⟨v, es1, ws, x0, x5, x6, x7, x8, rfl, k1, hF1, hS1, hw1, hwl1, hfl, hfd⟩ ⟨rfl, c, hc, rfl⟩
    have hcm := List.mem_of_getElem? hc
    have hbnd := feedL_ok hV (t.take i) s0 hO (fun z hz => ht z (List.mem_of_mem_take hz)) x0 hfd
    obtain ⟨dx1, hf1⟩ := hF1.at_
    have t1 : TK H H1' := Kp.tk k1 fun y hy xs z => by
      rw [List.mem_singleton.mp hy, hF.nd.at_] at z
      cases z
    refine ⟨_, rfl, f, dx1, _, rfl, hf1, fF_no_feed _ _, _, rfl, _, rfl, f, v, lv, D, L, es1, x0.2.2, c, rfl, hF1, hL.mono t1, hV, hS1, hbnd.st, ht c hcm, fun H2 u es2 k2 hF2 hv => ?_⟩
    have sf : ∀ y ∈ [D], Soft H1' y := fun y hy => by rw [List.mem_singleton.mp hy]; exact .nd hF1.nd.at_
    obtain ⟨sn1, sn2⟩ := feedL_snoc (c := c) hfd
    have etk : t.take (i + 1) = t.take i ++ [c] := take_more' hc
    cases hfe : fed L x0.2.2 c with
    | none =>
      rw [hfe] at hv
      have hv' : u = .non := hv
      subst hv'
      refine ⟨_, rfl, rfl, _, rfl, if_t rfl ?_⟩
      refine q H2 .non es2 (k1.trans k2) hF2 ?_
      have z : t = t.take i ++ c :: t.drop (i + 1) := by
        have := List.take_append_drop (i + 1) t
        rw [etk, List.append_assoc] at this
        exact this.symm
      rw [z, sn1 hfe]
      rfl
    | some y =>
      rw [hfe] at hv
      obtain ⟨p, u', rfl, hp, hu⟩ := hv
      refine ⟨_, rfl, rfl, _, rfl, if_f rfl ?_⟩
      refine ⟨_, rfl, _, _, rfl, sq hp, rfl, _, _, rfl, _, _, rfl, _, _, rfl, rfl, ?_⟩
      have hw2 := k2 _ _ hw1 (nin1 hDw.symm)
      refine ⟨_, rfl, tyL hw2, _, rfl, _, _, _, rfl, rfl, hw2, Nat.lt_of_lt_of_le (by rw [List.length_map]; omega) sizeBig, ?_⟩
      have k3 : Kp [wl] H2 (upd H2 wl (.lst (ws.map (fun z => V.str (tx z)) ++ [.str (tx y.1)]))) := Kp.put (by simp)
      have sf3 : ∀ z ∈ [wl], Soft H2 z := fun z hz => by rw [List.mem_singleton.mp hz]; exact .lst hw2
      obtain ⟨dx2, hf2⟩ := hF2.at_
      have nf : f ≠ wl := ne_of_at hf2 hw2 (fun z => by cases z)
      refine ⟨_, rfl, _, rfl, _, _, rfl, rfl, ?_⟩
      dsimp only
      rw [ad_nat]
      refine ⟨u', es2, ws ++ [y.1], (x0.1 ++ y.1, x0.2.1 + y.2.1, y.2.2), _, _, _, _, rfl, fun b o e nb => ?_, hF2.keep k3 sf3 (nin1 nf) (nin1 hDw), hu.keep (k3.kst sf3), ?_, by rw [List.length_append, hwl1]; rfl, by rw [List.flatten_append, hfl, List.flatten_singleton], by rw [etk]; exact sn2 y hfe⟩
      · rw [upd_ne (fun z => by rw [z, hwl] at e; cases e)]
        exact (k1.trans k2) b o e nb
      · rw [upd_same, List.map_append]
        rfl
  · rintro σ H1 ⟨v, es1, ws, x0, x5, x6, x7, x8, rfl, k1, hF1, hS1, hw1, hwl1, hfl, hfd⟩
    rw [List.take_length] at hfd
    have hb := feedL_ok hV t s0 hO ht x0 hfd
    have hbl := hb.len
    refine ⟨⟨_, rfl⟩, _, rfl, _, _, ws.map tx, rfl, rfl, .inl (sl (by rw [hw1, List.map_map]; rfl)), by rw [lens_tx, emp_tx, tx_len, List.length_nil, hfl]; omega, ?_⟩
    rw [emp_tx, join_tx, hfl]
    refine ⟨_, rfl, _, rfl, sz2 (by simp), fun p hp => ?_⟩
    have e := Ext.upd (o := .tup [.str (tx x0.1), .int (x0.2.1 : Int), v]) hp
    refine q _ _ es1 (k1.trans (Kp.of e)) (hF1.mono e) ?_
    rw [hfd]
    exact ⟨p, v, rfl, upd_same, hS1.keep (Ext.kst e)⟩
/- Feeder.finish: slots self=0 stay=1 track=2 -/
def wayV (b : Bool) : V := if b = true then .str "break" else .str "end"
def sp_Feeder_finish (K : Frag) : Sp := fun vs H Q _ => ∃ f dx sv lv dv a l ps n L s, vs = [.ref f, sv, .ref a] ∧ H f = some (.ins (He.ga K "Feeder") dx (fF lv dv)) ∧ IsLo H lv L ∧ VLo L ∧ IsStay K H sv s ∧ OkS 2 s ∧ TrkAt K H a l ps n ∧ ps.length ≤ 800000 ∧
  (fin L s = none → ∀ H', Kp [a, l] H H' → Q .non H') ∧ (∀ x, fin L s = some x → ∀ H' qs, Kp [a, l] H H' → TrkAt K H' a l (ps ++ qs) (n + x.2.1) → den qs = x.1 → Tk 600 qs → Q (wayV x.2.2) H')
theorem den_wOnes (ws : List (List Nat)) : den (wOnes ws) = ws.flatten := by
  induction ws with
  | nil => rfl
  | cons x r ih =>
    show pw x 1 ++ den (wOnes r) = _
    rw [pw_one, ih]
    rfl
theorem tk_wOnes {L : Lo} (hV : VLo L) {n : Nat} {s : S} (h : OkS n s) (hn : n ≤ 1000) (k : Nat) : Tk k (wOnes (wlN L s k)) := by
  refine ⟨fun q hq => ?_, fun q hq => ?_, by rw [wOnes_len, wlN_len]; exact Nat.le_refl _⟩
  · obtain ⟨x, hx, e⟩ := List.mem_map.mp hq
    obtain ⟨j, _, e2⟩ := wlN_mem hx
    have := (stepS_ok hV (stN_ok hV h j)).2.2.1
    rw [← e, e2]
    dsimp only
    omega
  · obtain ⟨x, hx, e⟩ := List.mem_map.mp hq
    rw [← e]
    exact wl_letters hV h k x hx
def N_Feeder_finish : List Str := ["self", "stay", "track"]
theorem sc_Feeder_finish : FnScope N_Feeder_finish ["self", "stay", "track"] (defScope s_Feeder_finish) := ⟨rfl, rfl, rfl, by decide +kernel, rfl, by decide +kernel, by decide +kernel⟩
theorem ok_Feeder_finish (T : Txt K mg w) : FnR P w K mg base CX0 7 (He.ma K (He.ga K "Feeder") "finish") (sp_Feeder_finish K) := by
  refine ok_of T.f_Feeder_finish sc_Feeder_finish (fun _ _ _ _ _ _ us hl => match us, hl with | [_, _, _], _ => rfl) (fun vs H Q E h => ?_) (fun cdv A outer s H vs Q E hr h => ?_)
  · repeat (first | (obtain ⟨rfl, _⟩ := h; rfl) | (obtain ⟨_, h⟩ := h))
  refine ⟨_, (pss_cons (ps_set (i := 1) sc_Feeder_finish.nd rfl (Or.inl rfl) (pe_f (ok_make_passes T) T.g_make_passes (kp_of T.f_make_passes) (hr.mono (by decide)) pass0 (pa_cons (pe_fld (pv 0) rfl) (pa_cons (pv 1) (pa_cons pe_int (pa_cons pe_non (pa_cons (pv 2) pa_nil)))))))
    (pss_cons (ps_if (pt_cmpR op_isN (pv 1) pe_non (nomark _))
      (pss_one (ps_ret pe_non))
      pss_nil)
    (pss_cons (ps_if (pt_val (pe_fld (pv 1) rfl))
      (pss_one (ps_ret (pe_gs T.g_BREAK_WAY)))
      pss_nil)
    (pss_cons (ps_expr (pe_met (ok_Track_write2 T) T.c_Track T.mt_Track_write (hr.mono (by decide)) pass0 (pv 2) (pa_cons (pe_ix ix_seq (pe_ix ix_tup (pe_fld (pv 0) rfl) pe_int (fun _ _ => rfl)) (pe_fld (pv 1) rfl) (fun _ _ => rfl)) (pa_cons pe_int pa_nil))))
    (pss_one (ps_ret (pe_gs T.g_END_WAY))))))), ?_⟩
  obtain ⟨f, dx, sv, lv, dv, a, l, ps, n, L, s0, rfl, hf, hL, hV, hS, hO, hT, hz, qN, qE⟩ := h
  have O3 : OkS 3 s0 := ⟨hO.mark, hO.let_, Nat.le_succ_of_le hO.len, hO.brk⟩
  have soft : ∀ x ∈ [a, l], Soft H x := fun x hx => by
    simp only [List.mem_cons, List.not_mem_nil, or_false] at hx
    rcases hx with e | e <;> rw [e]
    · exact hT.soft.1
    · exact hT.soft.2
  obtain ⟨⟨tdx, hta⟩, tvs, htl, _⟩ := id hT
  have nfa : f ≠ a := fun z => by
    rw [z, hta] at hf
    exact fF_ne_kF (HO.ins.inj (Option.some.inj hf)).2.2.symm
  have nfl : f ≠ l := ne_of_at hf htl (fun z => by cases z)
  refine ⟨_, rfl, _, _, _, _, _, rfl, hf, T.c_Feeder, T.n_Feeder_loop, fF_loop _ _, _, rfl, _, rfl, lv, sv, a, l, ps, n, L, s0, 1, rfl, hL, hV, hS, O3, by decide, hT, by omega, fun hN => fun H1 k1 => ?_, fun k hk H1 v k1 hv t1 => ?_⟩
  · refine ⟨_, rfl, rfl, _, rfl, if_t rfl ?_⟩
    exact qN (fin_never hN) H1 k1
  · have hk5 := ends_few hV O3 hk
    have hfin := fin_ends hk
    obtain ⟨va, vdx, rfl, hva⟩ := id hv
    have tk := tk_wOnes hV O3 (by decide) k
    refine ⟨_, rfl, rfl, _, rfl, if_f rfl ?_⟩
    refine ⟨_, rfl, _, _, _, _, _, rfl, hva, T.c_Stay, T.n_Stay_is_broken, sF_is_broken _ _ _, _, rfl, ?_⟩
    cases hb : (stN L s0 k).brk with
    | true =>
      rw [hb, if_pos rfl, List.append_nil] at hfin
      exact if_t rfl (qE _ hfin H1 _ k1 t1 (den_wOnes _) (tk.mono (by omega)))
    | false =>
      rw [hb, if_neg Bool.false_ne_true] at hfin
      refine if_f rfl ?_
      have hf1 : H1 f = some (.ins (He.ga K "Feeder") dx (fF lv dv)) := k1 _ _ hf (by simp [nfa, nfl])
      obtain ⟨lo, rv, ev, rfl, hlo, _, ⟨ea, rfl, hea⟩⟩ := hL.mono (k1.kst soft).tk
      have hm := (stN_ok hV O3 k).mark
      have h4 := hV.four
      have hget : (L.ends.map fun e => V.str (tx e))[(stN L s0 k).mark]? = some (.str (tx (L.ends.getD (stN L s0 k).mark []))) := by
        rw [List.getElem?_map, List.getD_eq_getElem?_getD, List.getElem?_eq_getElem (by omega)]
        rfl
      have hmem : L.ends.getD (stN L s0 k).mark [] ∈ L.ends := by
        rw [List.getD_eq_getElem?_getD, List.getElem?_eq_getElem (by omega)]
        exact List.getElem_mem _
      obtain ⟨en1, en2⟩ := hV.ends _ hmem
      obtain ⟨⟨tdx1, hta1⟩, _⟩ := id t1
      refine ⟨_, rfl, a, tdx1, _, rfl, hta1, kF_no_write _ _, _, rfl, _, _, _, _, _, rfl, hf1, T.c_Feeder, T.n_Feeder_loop, fF_loop _ _, lo, _, 1, _, rfl, rfl, sq hlo, atI_nat (j := 1) rfl, ?_⟩
      refine ⟨_, rfl, _, _, _, _, _, rfl, hva, T.c_Stay, T.n_Stay_mark, sF_mark _ _ _, .inr (.inl ⟨_, _, _, _, rfl, rfl, sq hea, atI_nat hget, ?_⟩)⟩
      refine ⟨a, l, ps ++ wOnes (wlN L s0 k), n + k, L.ends.getD (stN L s0 k).mark [], 0, 1, rfl, t1, by rw [List.length_append, wOnes_len, wlN_len]; omega, by decide, fun H2 k2 t2 => ?_⟩
      have e0 : n + k + 0 * 1 = n + k := by omega
      rw [e0, List.append_assoc] at t2
      refine qE _ hfin H2 (wOnes (wlN L s0 k) ++ [(L.ends.getD (stN L s0 k).mark [], 1)]) (k1.trans k2) t2 ?_ ?_
      · rw [den_append, den_wOnes, den_one, pw_one]
      · exact (tk.app (Tk.one (by omega) en1)).mono (by omega)
end
end OB
set_option Elab.async false
set_option linter.all false
set_option maxRecDepth 100000
set_option maxHeartbeats 4000000
namespace OB
open PySem PySem.Spec PySem.Calls PyProof.Rows L2 PySem.W StX
section
variable {P : Program} {w : World} {K : Frag} {mg : Str → Option Value} {base : Heap}
/- Feeder.feed_row: slots self=0 stay=1 text=2 times=3 track=4 parts=5 stays=6 places=7 at=8 found=9 part=10 made=11 -/
def sp_Feeder_feed_row (P : Program) (w : World) (K : Frag) : Sp := fun vs H Q _ => ∃ f sv lv D L es s t a l ps m, ∃ n : Nat, vs = [.ref f, sv, .str (tx t), .int (n : Int), .ref a] ∧ FdAt P w K H f lv D L es ∧ IsLo H lv L ∧ VLo L ∧ IsStay K H sv s ∧ OkS 2 s ∧ Letters t ∧ t.length ≤ 20 ∧ n < 2 ^ 4000 ∧
  TrkAt K H a l ps m ∧ ps.length ≤ 700000 ∧
  (feedL L s (pw t n) = none → ∀ H', Kp [D, a, l] H H' → Q .non H') ∧
  (∀ x, feedL L s (pw t n) = some x → ∀ H' v es' qs, Kp [D, a, l] H H' → FdAt P w K H' f lv D L es' → IsStay K H' v x.2.2 → TrkAt K H' a l (ps ++ qs) (m + x.2.1) → den qs = x.1 → Tk 400 qs → Q v H')
/-- all that has been laid in a list -/
def StaysAt (K : Frag) (H : Hp) (zs : List V) (st : Nat → S) : Prop := ∀ j v, zs[j]? = some v → IsStay K H v (st j)
theorem StaysAt.keep {K : Frag} {H H' : Hp} {zs : List V} {st : Nat → S} (k : Kst H H') (h : StaysAt K H zs st) : StaysAt K H' zs st := fun j v e => (h j v e).keep k
theorem StaysAt.snoc {K : Frag} {H : Hp} {zs : List V} {st : Nat → S} {v : V} (h : StaysAt K H zs st) (g : IsStay K H v (st zs.length)) : StaysAt K H (zs ++ [v]) st := fun j u e => by
  by_cases c : j < zs.length
  · rw [List.getElem?_append_left c] at e
    exact h j u e
  · rw [List.getElem?_append_right (by omega)] at e
    have ej : j = zs.length := by
      rcases Nat.eq_zero_or_pos (j - zs.length) with z | z
      · omega
      · rw [List.getElem?_eq_none (by rw [List.length_singleton]; omega)] at e; cases e
    rw [ej, Nat.sub_self] at e
    rw [ej, ← Option.some.inj e]
    exact g
/-- places: each state's number -/
def Nums (kvs : NEs) (st : Nat → S) (k : Nat) : Prop := Keys kvs (fun j => nkey (st j)) k ∧ ∀ j, j < k → (∀ i, i < k → i ≠ j → st i ≠ st j) → valN kvs (nkey (st j)) = some (.int (j : Int))
theorem Nums.snoc {kvs : NEs} {st : Nat → S} {k : Nat} {a : Addr} (h : Nums kvs st k) (hn : valN kvs (nkey (st k)) = none) : Nums (kvs ++ [(nkey (st k), a, .int (k : Int))]) st (k + 1) := by
  refine ⟨h.1.snoc (f := fun j => nkey (st j)) hn, fun j hj hd => ?_⟩
  rw [valN_snoc hn]
  by_cases c : nkey (st j) = nkey (st k)
  · rw [if_pos c]
    have ek : j = k := by
      rcases Nat.lt_succ_iff_lt_or_eq.mp hj with z | z
      · exact absurd (nkey_inj c).symm (hd k (Nat.lt_succ_self k) (by omega))
      · exact z
    rw [ek]
  · rw [if_neg c]
    rcases Nat.lt_succ_iff_lt_or_eq.mp hj with z | z
    · exact h.2 j z fun i hi hne => hd i (Nat.lt_succ_of_lt hi) hne
    · rw [z] at c
      exact absurd rfl c
structure RowI (P : Program) (w : World) (K : Frag) (H : Hp) (f : Addr) (lv : V) (DD : Addr) (L : Lo) (es : Kn) (a l pl st D : Addr) (v : V) (st_ : Nat → S) (ps : Prs') (m : Nat) (rs : Prs') (zs : List V) (kvs : NEs) : Prop where
  fd : FdAt P w K H f lv DD L es
  stay : IsStay K H v (st_ rs.length)
  trk : TrkAt K H a l (ps ++ ones rs) (m + mds rs)
  parts : IsPairs H pl rs
  stays : H st = some (.lst zs)
  all : StaysAt K H zs st_
  nd : ND P w H D kvs
section
variable {P : Program} {w : World} {K : Frag} {H H' : Hp} {f DD a l pl st D : Addr} {lv v : V} {L : Lo} {es : Kn} {st_ : Nat → S} {ps rs : Prs'} {m : Nat} {zs : List V} {kvs : NEs}
theorem RowI.mono (h : RowI P w K H f lv DD L es a l pl st D v st_ ps m rs zs kvs) (e : Ext H H') : RowI P w K H' f lv DD L es a l pl st D v st_ ps m rs zs kvs :=
  ⟨h.fd.mono e, h.stay.keep (Ext.kst e), h.trk.mono e, h.parts.mono e, e _ _ h.stays, h.all.keep (Ext.kst e), h.nd.same (e _ _ h.nd.at_) (Ext.tk e)⟩
/-- the places, apart -/
structure Apart (f DD a l pl st D : Addr) : Prop where
  fd : f ≠ DD ∧ f ≠ a ∧ f ≠ l ∧ f ≠ pl ∧ f ≠ st ∧ f ≠ D
  dd : DD ≠ a ∧ DD ≠ l ∧ DD ≠ pl ∧ DD ≠ st ∧ DD ≠ D
  aa : a ≠ l ∧ a ≠ pl ∧ a ≠ st ∧ a ≠ D
  ll : l ≠ pl ∧ l ≠ st ∧ l ≠ D
  pp : pl ≠ st ∧ pl ≠ D
  ss : st ≠ D
theorem IsPairs.kp {T : List Addr} (k : Kp T H H') (hs : ∀ x ∈ T, Soft H x) {b : Addr} (hb : b ∉ T) (h : IsPairs H b rs) : IsPairs H' b rs := by
  obtain ⟨vs, e, pp⟩ := h
  exact ⟨vs, k _ _ e hb, paired_mono (fun _ _ z => IsPair.mono (k.kst hs).tk z) pp⟩
theorem RowI.soft (h : RowI P w K H f lv DD L es a l pl st D v st_ ps m rs zs kvs) : Soft H DD ∧ Soft H a ∧ Soft H l ∧ Soft H pl ∧ Soft H st ∧ Soft H D := by
  obtain ⟨vs, e, _⟩ := h.parts
  exact ⟨.nd h.fd.nd.at_, h.trk.soft.1, h.trk.soft.2, .lst e, .lst h.stays, .nd h.nd.at_⟩
/-- the text's copy is fed: only what is known changes -/
theorem RowI.fed (h : RowI P w K H f lv DD L es a l pl st D v st_ ps m rs zs kvs) (A : Apart f DD a l pl st D) (k : Kp [DD] H H') {es' : Kn} (hF : FdAt P w K H' f lv DD L es') : RowI P w K H' f lv DD L es' a l pl st D v st_ ps m rs zs kvs := by
  have hs : ∀ x ∈ [DD], Soft H x := fun x hx => by rw [List.mem_singleton.mp hx]; exact h.soft.1
  exact ⟨hF, h.stay.keep (k.kst hs), h.trk.keep k hs (nin1 A.dd.1.symm) (nin1 A.dd.2.1.symm), h.parts.kp k hs (nin1 A.dd.2.2.1.symm), k _ _ h.stays (nin1 A.dd.2.2.2.1.symm), h.all.keep (k.kst hs), h.nd.same (k _ _ h.nd.at_ (nin1 A.dd.2.2.2.2.symm)) (k.kst hs).tk⟩
theorem RowI.atD (h : RowI P w K H f lv DD L es a l pl st D v st_ ps m rs zs kvs) (A : Apart f DD a l pl st D) {q : NestedKey} {b : Addr} {u : V} (hk : NKV H q (.ref b)) (hd : q.depth ≤ 8) (hn : valN kvs q = none) (hl : kvs.length + 1 < sizeLine) :
    RowI P w K (upd H D (ndO P w D (kvs ++ [(q, b, u)]))) f lv DD L es a l pl st D v st_ ps m rs zs (kvs ++ [(q, b, u)]) := by
  have k : Kp [D] H (upd H D (ndO P w D (kvs ++ [(q, b, u)]))) := Kp.put (by simp)
  have hs : ∀ x ∈ [D], Soft H x := fun x hx => by rw [List.mem_singleton.mp hx]; exact .nd h.nd.at_
  exact ⟨h.fd.keep k hs (nin1 A.fd.2.2.2.2.2) (nin1 A.dd.2.2.2.2), h.stay.keep (k.kst hs), h.trk.keep k hs (nin1 A.aa.2.2.2) (nin1 A.ll.2.2), h.parts.kp k hs (nin1 A.pp.2), by rw [upd_ne A.ss]; exact h.stays, h.all.keep (k.kst hs), h.nd.put hk hd hn hl⟩
theorem RowI.atSt (h : RowI P w K H f lv DD L es a l pl st D v st_ ps m rs zs kvs) (A : Apart f DD a l pl st D) (hz : zs.length = rs.length) : RowI P w K (upd H st (.lst (zs ++ [v]))) f lv DD L es a l pl st D v st_ ps m rs (zs ++ [v]) kvs := by
  have k : Kp [st] H (upd H st (.lst (zs ++ [v]))) := Kp.put (by simp)
  have hs : ∀ x ∈ [st], Soft H x := fun x hx => by rw [List.mem_singleton.mp hx]; exact .lst h.stays
  exact ⟨h.fd.keep k hs (nin1 A.fd.2.2.2.2.1) (nin1 A.dd.2.2.2.1), h.stay.keep (k.kst hs), h.trk.keep k hs (nin1 A.aa.2.2.1) (nin1 A.ll.2.1), h.parts.kp k hs (nin1 A.pp.1), upd_same, (h.all.snoc (by rw [hz]; exact h.stay)).keep (k.kst hs), h.nd.same (by rw [upd_ne A.ss.symm]; exact h.nd.at_) (k.kst hs).tk⟩
end
def RowW (P : Program) (w : World) (K : Frag) (H0 : Hp) (f : Addr) (lv : V) (DD : Addr) (L : Lo) (s : S) (t : List Nat) (n : Nat) (a l pl st D : Addr) (ps : Prs') (m : Nat) (μ : Nat) (σ : L2.St) (H : Hp) : Prop :=
  ∃ v es rs zs kvs x8 x9 x10 x11, σ = [some (.ref f), some v, some (.str (tx t)), some (.int (n : Int)), some (.ref a), some (.ref pl), some (.ref st), some (.ref D), x8, x9, x10, x11] ∧ Kp [DD, a, l] H0 H ∧ TK H0 H ∧
    RowI P w K H f lv DD L es a l pl st D v (stR L s t) ps m rs zs kvs ∧ Rows L s t rs ∧ rs.length ≤ n ∧ kvs.length = rs.length ∧ zs.length = rs.length ∧ Nums kvs (stR L s t) rs.length ∧ (∀ i j, i < j → j < rs.length → stR L s t i ≠ stR L s t j) ∧
    (tts rs).length ≤ rs.length * 10200 ∧ mds rs ≤ rs.length * 10000 ∧ Tk rs.length (ones rs) ∧ μ = 89 - rs.length
theorem ones_len (rs : Prs') : (ones rs).length = rs.length := List.length_map ..
theorem ones_app (a b : Prs') : ones (a ++ b) = ones a ++ ones b := by unfold ones; rw [List.map_append]
theorem tk_take {N : Nat} {rs : Prs'} (h : Tk N (ones rs)) (j i : Nat) : Tk N (ones ((rs.drop j).take i)) := by
  have sub : ∀ q, q ∈ ones ((rs.drop j).take i) → q ∈ ones rs := fun q hq => by
    obtain ⟨x, hx, e⟩ := List.mem_map.mp hq
    exact List.mem_map.mpr ⟨x, List.mem_of_mem_drop (List.mem_of_mem_take hx), e⟩
  refine ⟨fun q hq => h.up q (sub q hq), fun q hq => h.abc q (sub q hq), ?_⟩
  have := h.len
  rw [ones_len] at this ⊢
  rw [List.length_take, List.length_drop]
  omega
theorem tts_letters {N : Nat} {rs : Prs'} (h : Tk N (ones rs)) : Letters (tts rs) := by
  rw [← den_ones]
  exact den_mem h.abc
def N_Feeder_feed_row : List Str := ["self", "stay", "text", "times", "track", "parts", "stays", "places", "at", "found", "part", "made"]
theorem sc_Feeder_feed_row : FnScope N_Feeder_feed_row ["self", "stay", "text", "times", "track"] (defScope s_Feeder_feed_row) := ⟨rfl, rfl, rfl, by decide +kernel, rfl, by decide +kernel, by decide +kernel⟩
theorem ok_Feeder_feed_row (T : Txt K mg w) : FnR P w K mg base CX0 9 (He.ma K (He.ga K "Feeder") "feed_row") (sp_Feeder_feed_row P w K) := by
  refine ok_of T.f_Feeder_feed_row sc_Feeder_feed_row (fun _ _ _ _ _ _ us hl => match us, hl with | [_, _, _, _, _], _ => rfl) (fun vs H Q E h => ?_) (fun cdv A outer s H vs Q E hr h => ?_)
  · repeat (first | (obtain ⟨rfl, _⟩ := h; rfl) | (obtain ⟨_, h⟩ := h))
  refine ⟨_, (pss_cons (ps_par3 (i := 5) (j := 6) (l := 7) rfl sc_Feeder_feed_row.nd rfl rfl rfl (by decide) (by decide) (by decide) rfl rfl rfl (pa_cons (pe_lst pa_nil) (pa_cons (pe_lst pa_nil) (pa_cons pe_nd pa_nil))) (by rfl))
    (pss_cons (ps_while PassesOwn.never (pt_cmpR op_lt (pe_callB call_len_seq (by rfl) T.z_len boot_len (pa_cons (pv 5) pa_nil)) (pv 3) (nomark _))
      (pss_cons (ps_if (pt_cmpR (op_nin hr.units) (pe_met0 (ok_Stay_key T) T.c_Stay T.mt_Stay_key (hr.mono (by decide)) pass0 (pv 1)) (pv 7) rfl)
        (pss_cons (ps_set (i := 8) sc_Feeder_feed_row.nd rfl (Or.inl rfl) (pe_met (ok_Track_write_round T) T.c_Track T.mt_Track_write_round (hr.mono (by decide)) pass0 (pv 4) (pa_cons (pv 5) (pa_cons (pe_nget hr.units (pv 7) (pe_met0 (ok_Stay_key T) T.c_Stay T.mt_Stay_key (hr.mono (by decide)) pass0 (pv 1)) (fun _ _ => rfl)) (pa_cons (pe_op op_sub (pv 3) (pe_callB call_len_seq (by rfl) T.z_len boot_len (pa_cons (pv 5) pa_nil))) pa_nil)))))
        (pss_one (ps_ret (pe_ix ix_list (pv 6) (pv 8) (fun _ _ => rfl)))))
        pss_nil)
      (pss_cons (ps_asg (pe_callB call_len_seq (by rfl) T.z_len boot_len (pa_cons (pv 5) pa_nil)) (pg_sub (pv 7) (pe_met0 (ok_Stay_key T) T.c_Stay T.mt_Stay_key (hr.mono (by decide)) pass0 (pv 1)) (set_nd hr.units)))
      (pss_cons (ps_expr (pe_bm PySem.F.plainAttrs_list PySem.F.slot_list_append PySem.F.type_list_append mt_append (pv 6) (pa_cons (pv 1) pa_nil)))
      (pss_cons (ps_set (i := 9) sc_Feeder_feed_row.nd rfl (Or.inl rfl) (pe_met (ok_Feeder_feed_text T) T.c_Feeder T.mt_Feeder_feed_text (hr.mono (by decide)) pass0 (pv 0) (pa_cons (pv 1) (pa_cons (pv 2) pa_nil))))
      (pss_cons (ps_if (pt_cmpR op_isN (pv 9) pe_non (nomark _))
        (pss_one (ps_ret pe_non))
        pss_nil)
      (pss_cons (ps_asg (pv 9) (pg_tup rfl (pgs_cons (pg_name (i := 10) sc_Feeder_feed_row.nd rfl (Or.inl rfl)) (pgs_cons (pg_name (i := 11) sc_Feeder_feed_row.nd rfl (Or.inl rfl)) (pgs_cons (pg_name (i := 1) sc_Feeder_feed_row.nd rfl (Or.inl rfl)) pgs_nil)))))
      (pss_cons (ps_expr (pe_bm PySem.F.plainAttrs_list PySem.F.slot_list_append PySem.F.type_list_append mt_append (pv 5) (pa_cons (pe_tup (pa_cons (pv 10) (pa_cons (pv 11) pa_nil))) pa_nil)))
      (pss_one (ps_expr (pe_met (ok_Track_write2 T) T.c_Track T.mt_Track_write (hr.mono (by decide)) pass0 (pv 4) (pa_cons (pv 10) (pa_cons (pv 11) pa_nil)))))))))))))
    (pss_one (ps_ret (pv 1))))), ?_⟩
  obtain ⟨f, sv, lv, DD, L, es, s0, t, a, l, ps, m, n, rfl, hF, hL, hV, hS, hO, ht, htl, hn4, hT, hpz, qN, qE⟩ := h
  obtain ⟨fdx, hf⟩ := id hF.at_
  obtain ⟨⟨tdx, ha⟩, hP⟩ := id hT
  obtain ⟨xs, hx, hxl⟩ := hP.len
  have hDD := hF.nd.at_
  refine ⟨sz2 (by simp), fun pl hpl => ⟨sz2 (by simp), fun st hst => fun D hD hsys => ⟨_, _, _, rfl, ?_⟩⟩⟩
  have E1 : Ext H (upd H pl (.lst [])) := Ext.upd hpl
  have E2 : Ext H (upd (upd H pl (.lst [])) st (.lst [])) := E1.trans (Ext.upd hst)
  have E3 : Ext H (upd (upd (upd H pl (.lst [])) st (.lst [])) D (ndO P w D [])) := E2.trans (Ext.upd hD)
  have hsp : st ≠ pl := fun z => by rw [z, upd_same] at hst; cases hst
  have hDs : D ≠ st := fun z => by rw [z, upd_same] at hD; cases hD
  have hDp : D ≠ pl := fun z => by rw [z, upd_ne hsp.symm, upd_same] at hD; cases hD
  have hst0 : H st = none := by rw [upd_ne hsp] at hst; exact hst
  have hD0 : H D = none := by rw [upd_ne hDs, upd_ne hDp] at hD; exact hD
  have nn : ∀ {x y : Addr} {o : HO}, H x = some o → H y = none → x ≠ y := fun h1 h2 z => by rw [z, h2] at h1; cases h1
  have A : Apart f DD a l pl st D := {
    fd := ⟨ne_of_at hf hDD (fun z => by cases z), fun z => by
      rw [z, ha] at hf
      exact fF_ne_kF (HO.ins.inj (Option.some.inj hf)).2.2.symm, ne_of_at hf hx (fun z => by cases z), nn hf hpl, nn hf hst0, nn hf hD0⟩
    dd := ⟨ne_of_at hDD ha (fun z => by cases z), ne_of_at hDD hx (fun z => by cases z), nn hDD hpl, nn hDD hst0, nn hDD hD0⟩
    aa := ⟨ne_of_at ha hx (fun z => by cases z), nn ha hpl, nn ha hst0, nn ha hD0⟩
    ll := ⟨nn hx hpl, nn hx hst0, nn hx hD0⟩
    pp := ⟨hsp.symm, hDp.symm⟩
    ss := hDs.symm }
  have I0 : RowI P w K (upd (upd (upd H pl (.lst [])) st (.lst [])) D (ndO P w D [])) f lv DD L es a l pl st D sv (stR L s0 t) ps m [] [] [] :=
    ⟨hF.mono E3, hS.keep (Ext.kst E3), by
      show TrkAt K _ a l (ps ++ []) (m + 0)
      rw [List.append_nil]
      exact hT.mono E3, .nil (by rw [upd_ne hDp.symm, upd_ne hsp.symm, upd_same]), by rw [upd_ne hDs.symm, upd_same], (fun j v e => by simp at e), nd_nil hsys⟩
  refine ⟨RowW P w K H f lv DD L s0 t n a l pl st D ps m, ⟨_, sv, es, [], [], [], _, _, _, _, rfl, Kp.of E3, Ext.tk E3, I0, Rows.nil L s0 t, Nat.zero_le _, rfl, rfl, ⟨Keys.nil _, fun j hj => absurd hj (Nat.not_lt_zero _)⟩, (fun i j _ hj => absurd hj (Nat.not_lt_zero _)), Nat.zero_le _, Nat.zero_le _, ⟨(fun _ h => nomatch h), (fun _ h => nomatch h), Nat.le_refl _⟩, rfl⟩, ?_⟩
  rintro μ σ H1 ⟨v, es1, rs, zs, kvs, x8, x9, x10, x11, rfl, k1, t1, I, hR, hrn, hkl, hzl, hK, hinj, htts, hmds, htk, rfl⟩
  have h88 := rows_few hV hO ht hR hinj
  have hOk := hR.ok hV hO ht (Nat.le_refl _)
  obtain ⟨pvs, hpv, hpp⟩ := id I.parts
  have hpl1 := paired_len hpp
  refine ⟨_, rfl, _, _, rfl, .inl (sl hpv), _, rfl, _, _, rfl, rfl, _, rfl, ?_⟩
  refine ifb (fun c1 => ?_) (fun c1 => ?_)
  rotate_left
  · -- all copies are fed
    have c1' := of_decide_eq_false c1
    have en : rs.length = n := by omega
    have z := hR.all
    rw [en] at z
    have hst' := I.stay
    rw [en] at hst'
    exact ⟨_, rfl, qE _ z H1 v es1 (ones rs) k1 I.fd hst' I.trk (den_ones rs) (htk.mono (by omega))⟩
  have c1' := of_decide_eq_true c1
  have hlt : rs.length < n := by omega
  refine ⟨fun σ' H' => ∃ m', m' < 89 - rs.length ∧ RowW P w K H f lv DD L s0 t n a l pl st D ps m m' σ' H', fun _ _ h => h, ?_⟩
  obtain ⟨sa, sdx, rfl, hsa⟩ := id I.stay
  -- if stay.key() in places
  refine ⟨_, rfl, sa, sdx, _, rfl, hsa, sF_no_key _ _ _, .ref sa, stR L s0 t rs.length, rfl, I.stay, fun p1 hp1 => ?_⟩
  have F1 := Ext.upd (o := .tup (keyV (stR L s0 t rs.length))) hp1
  have I1 := I.mono F1
  have kv1 : NKV (upd H1 p1 (.tup (keyV (stR L s0 t rs.length)))) (nkey (stR L s0 t rs.length)) (.ref p1) := nkey_v upd_same
  have k2 : Kp [DD, a, l] H (upd H1 p1 (.tup (keyV (stR L s0 t rs.length)))) := k1.trans (Kp.of F1)
  have t2 : TK H (upd H1 p1 (.tup (keyV (stR L s0 t rs.length)))) := t1.trans (Ext.tk F1)
  have hpv2 := F1 _ _ hpv
  generalize upd H1 p1 (.tup (keyV (stR L s0 t rs.length))) = H2 at I1 kv1 k2 t2 hpv2 ⊢
  refine ⟨_, rfl, p1, D, nkey (stR L s0 t rs.length), kvs, rfl, rfl, I1.nd, kv1, nkey_depth _, _, rfl, ?_⟩
  obtain ⟨sa', sdx', e', hsa2⟩ := id I1.stay
  cases e'
  obtain ⟨⟨tdx2, ha2⟩, hP2⟩ := id I1.trk
  obtain ⟨us2, hus2, hul2⟩ := hP2.len
  refine ifb (fun c2 => ?_) (fun c2 => ?_)
  · -- it comes round
    obtain ⟨j, hj, ej⟩ := (hK.1 _).mp c2
    have es' := nkey_inj ej
    have hval := hK.2 j hj fun i hi hne => by
      rcases Nat.lt_or_gt_of_ne hne with z | z
      · exact hinj i j z hj
      · exact fun e => hinj j i z hi e.symm
    have hval' : valN kvs (nkey (stR L s0 t rs.length)) = some (.int (j : Int)) := by rw [es']; exact hval
    refine ⟨_, rfl, a, tdx2, _, rfl, ha2, kF_no_write_round _ _, _, rfl, _, rfl, _, rfl, sa, sdx', _, rfl, hsa2, sF_no_key _ _ _, .ref sa, stR L s0 t rs.length, rfl, I1.stay, fun p2 hp2 => ?_⟩
    have F2 := Ext.upd (o := .tup (keyV (stR L s0 t rs.length))) hp2
    have I2 := I1.mono F2
    have kv2 : NKV (upd H2 p2 (.tup (keyV (stR L s0 t rs.length)))) (nkey (stR L s0 t rs.length)) (.ref p2) := nkey_v upd_same
    have k3 : Kp [DD, a, l] H (upd H2 p2 (.tup (keyV (stR L s0 t rs.length)))) := k2.trans (Kp.of F2)
    have hpv3 := F2 _ _ hpv2
    generalize upd H2 p2 (.tup (keyV (stR L s0 t rs.length))) = H3 at I2 kv2 k3 hpv3 ⊢
    refine ⟨p2, D, nkey (stR L s0 t rs.length), kvs, .int (j : Int), rfl, rfl, I2.nd, kv2, nkey_depth _, hval', ?_⟩
    refine ⟨_, rfl, _, rfl, _, _, rfl, .inl (sl hpv3), _, _, rfl, rfl, ?_⟩
    dsimp only
    rw [hpl1, su_nat hrn]
    refine ⟨a, l, ps ++ ones rs, m + mds rs, pl, rs, j, n - rs.length, rfl, I2.trk, I2.parts, hj, by omega, by rw [List.length_append, ones_len]; omega, by omega, by omega, by omega, fun H4 k4 t4 => ?_⟩
    have soft3 : ∀ x ∈ [a, l], Soft H3 x := fun x hx => by
      simp only [List.mem_cons, List.not_mem_nil, or_false] at hx
      rcases hx with e | e <;> rw [e]
      · exact I2.soft.2.1
      · exact I2.soft.2.2.1
    have hst4 : H4 st = some (.lst zs) := k4 _ _ I2.stays (by simp [A.aa.2.2.1.symm, A.ll.2.1.symm])
    have hsz : j + (n - rs.length) % (rs.length - j) < zs.length := by
      have := Nat.mod_lt (n - rs.length) (show 0 < rs.length - j by omega)
      omega
    have hget : zs[j + (n - rs.length) % (rs.length - j)]? = some zs[j + (n - rs.length) % (rs.length - j)] := List.getElem?_eq_getElem hsz
    have hsv := I2.all _ _ hget
    have hF4 := I2.fd.keep k4 soft3 (by simp [A.fd.2.1, A.fd.2.2.1]) (by simp [A.dd.1, A.dd.2.1])
    have cyc := hR.cycle hj es'.symm (n - rs.length)
    rw [show rs.length + (n - rs.length) = n by omega] at cyc
    refine ⟨_, rfl, _, rfl, _, _, _, _, rfl, rfl, sl hst4, atI_nat hget, ?_⟩
    refine qE _ cyc H4 _ es1 (ones rs ++ ([(tts (rs.drop j), (n - rs.length) / (rs.length - j))] ++ ones ((rs.drop j).take ((n - rs.length) % (rs.length - j))))) (k3.trans (k4.mono fun x hx => by simp at hx; simp; exact .inr hx)) hF4 (hsv.keep (k4.kst soft3)) ?_ ?_ ?_
    · have e1 : ps ++ (ones rs ++ ([(tts (rs.drop j), (n - rs.length) / (rs.length - j))] ++ ones ((rs.drop j).take ((n - rs.length) % (rs.length - j))))) = ps ++ ones rs ++ [(tts (rs.drop j), (n - rs.length) / (rs.length - j))] ++ ones ((rs.drop j).take ((n - rs.length) % (rs.length - j))) := by simp only [List.append_assoc]
      have e2 : m + (mds rs + (mds (rs.drop j) * ((n - rs.length) / (rs.length - j)) + mds ((rs.drop j).take ((n - rs.length) % (rs.length - j))))) = m + mds rs + mds (rs.drop j) * ((n - rs.length) / (rs.length - j)) + mds ((rs.drop j).take ((n - rs.length) % (rs.length - j))) := by omega
      rw [e1]
      show TrkAt K H4 a l _ (m + (mds rs + (mds (rs.drop j) * ((n - rs.length) / (rs.length - j)) + mds ((rs.drop j).take ((n - rs.length) % (rs.length - j))))))
      rw [e2]
      exact t4
    · rw [den_append, den_append, den_ones, den_one, den_ones]
    · have lt1 : (tts (rs.drop j)).length ≤ 1000000 := Nat.le_trans (sub_tts j) (by omega)
      have la : Letters (tts (rs.drop j)) := by
        have h0 := tts_letters htk
        have e : tts rs = tts (rs.take j) ++ tts (rs.drop j) := by rw [← tts_append, List.take_append_drop]
        rw [e] at h0
        exact fun c hc => h0 c (List.mem_append.mpr (.inr hc))
      exact (htk.app ((Tk.one lt1 la).app (tk_take htk _ _))).mono (by omega)
  have hfresh : valN kvs (nkey (stR L s0 t rs.length)) = none := by
    cases z : valN kvs (nkey (stR L s0 t rs.length)) with
    | none => rfl
    | some u => rw [z] at c2; cases c2
  -- places[stay.key()] = len(parts)
  refine ⟨_, rfl, _, _, rfl, .inl (sl hpv2), ?_⟩
  refine ⟨_, rfl, _, rfl, sa, sdx', _, rfl, hsa2, sF_no_key _ _ _, .ref sa, stR L s0 t rs.length, rfl, I1.stay, fun p2 hp2 => ?_⟩
  have F2 := Ext.upd (o := .tup (keyV (stR L s0 t rs.length))) hp2
  have I2 := I1.mono F2
  have kv2 : NKV (upd H2 p2 (.tup (keyV (stR L s0 t rs.length)))) (nkey (stR L s0 t rs.length)) (.ref p2) := nkey_v upd_same
  have k3 : Kp [DD, a, l] H (upd H2 p2 (.tup (keyV (stR L s0 t rs.length)))) := k2.trans (Kp.of F2)
  have t3 : TK H (upd H2 p2 (.tup (keyV (stR L s0 t rs.length)))) := t2.trans (Ext.tk F2)
  generalize upd H2 p2 (.tup (keyV (stR L s0 t rs.length))) = H3 at I2 kv2 k3 t3 ⊢
  refine ⟨p2, D, nkey (stR L s0 t rs.length), kvs, rfl, rfl, I2.nd, kv2, nkey_depth _, hfresh, ?_⟩
  dsimp only [cxOf, Cx.nox, Cx.wish]
  rw [hpl1]
  have I3 := I2.atD A (u := .int (rs.length : Int)) kv2 (nkey_depth _) hfresh (Nat.lt_of_lt_of_le (by omega) sizeBig)
  have k4 : Kp [DD, a, l] H (upd H3 D (ndO P w D (kvs ++ [(nkey (stR L s0 t rs.length), p2, .int (rs.length : Int))]))) := fun b o e nb => by
    rw [upd_ne (fun z => by rw [z, hD0] at e; cases e)]
    exact k3 b o e nb
  have t4 : TK H (upd H3 D (ndO P w D (kvs ++ [(nkey (stR L s0 t rs.length), p2, .int (rs.length : Int))]))) := fun b xs e => by
    rw [upd_ne (fun z => by rw [z, hD0] at e; cases e)]
    exact t3 b xs e
  have hK' := hK.snoc (a := p2) hfresh
  generalize upd H3 D (ndO P w D (kvs ++ [(nkey (stR L s0 t rs.length), p2, .int (rs.length : Int))])) = H4 at I3 k4 t4 ⊢
  -- stays.append(stay)
  refine ⟨_, rfl, tyL I3.stays, _, rfl, _, _, _, rfl, rfl, I3.stays, Nat.lt_of_lt_of_le (by omega) sizeBig, ?_⟩
  have I4 := I3.atSt A hzl
  have k5 : Kp [DD, a, l] H (upd H4 st (.lst (zs ++ [.ref sa]))) := fun b o e nb => by
    rw [upd_ne (fun z => by rw [z, hst0] at e; cases e)]
    exact k4 b o e nb
  have t5 : TK H (upd H4 st (.lst (zs ++ [.ref sa]))) := fun b xs e => by
    rw [upd_ne (fun z => by rw [z, hst0] at e; cases e)]
    exact t4 b xs e
  generalize upd H4 st (.lst (zs ++ [.ref sa])) = H5 at I4 k5 t5 ⊢
  -- feed_text
  obtain ⟨fdx5, hf5⟩ := id I4.fd.at_
  refine ⟨_, rfl, f, fdx5, _, rfl, hf5, fF_no_feed_text _ _, _, rfl, _, rfl, f, .ref sa, lv, DD, L, es1, stR L s0 t rs.length, t, rfl, I4.fd, hL.mono t5, hV, I4.stay, hOk, ht, htl, fun H6 u es6 k6 hF6 hu => ?_⟩
  have I5 := I4.fed A k6 hF6
  have sf5 : ∀ y ∈ [DD], Soft H5 y := fun y hy => by rw [List.mem_singleton.mp hy]; exact .nd I4.fd.nd.at_
  have k7 : Kp [DD, a, l] H H6 := k5.trans (k6.mono fun x hx => by rw [List.mem_singleton.mp hx]; simp)
  have t7 : TK H H6 := t5.trans (k6.kst sf5).tk
  cases hfe : feedL L (stR L s0 t rs.length) t with
  | none =>
    rw [hfe] at hu
    have hu' : u = .non := hu
    subst hu'
    refine ⟨_, rfl, rfl, _, rfl, if_t rfl (qN ?_ H6 k7)⟩
    have z := feed_none hR.all hfe (pw t (n - rs.length - 1))
    rw [← pw_succ, ← pw_add] at z
    rw [show rs.length + (n - rs.length - 1 + 1) = n by omega] at z
    exact z
  | some x =>
    rw [hfe] at hu
    obtain ⟨rp, v', rfl, hrp, hv'⟩ := hu
    have hxo := feedL_ok hV t _ hOk ht x hfe
    have hxl := hxo.len
    have hxp := hxo.passes
    have hxw : x.1.length ≤ 10200 := by omega
    have hxm : x.2.1 ≤ 10000 := by omega
    obtain ⟨hR', hst'⟩ := hR.snoc hfe
    refine ⟨_, rfl, rfl, _, rfl, if_f rfl ?_⟩
    refine ⟨_, rfl, _, _, rfl, sq hrp, rfl, _, _, rfl, _, _, rfl, _, _, rfl, rfl, ?_⟩
    -- parts.append
    obtain ⟨pv6, hpv6, hpp6⟩ := id I5.parts
    have hpl6 := paired_len hpp6
    refine ⟨_, rfl, tyL hpv6, _, rfl, _, rfl, sz2 (by simp), fun pp hpp' => ?_⟩
    have F7 := Ext.upd (o := .tup [.str (tx x.1), .int (x.2.1 : Int)]) hpp'
    have I6 := I5.mono F7
    obtain ⟨us7, hus7, _, hsn7⟩ := I6.parts.snoc (q := (x.1, x.2.1)) upd_same
    have eus : us7 = pv6 := HO.lst.inj (Option.some.inj (hus7.symm.trans (F7 _ _ hpv6)))
    subst eus
    refine ⟨_, _, _, rfl, rfl, hus7, Nat.lt_of_lt_of_le (by omega) sizeBig, ?_⟩
    have k8 : Kp [DD, a, l] H (upd (upd H6 pp (.tup [.str (tx x.1), .int (x.2.1 : Int)])) pl (.lst (us7 ++ [.ref pp]))) := fun b o e nb => by
      rw [upd_ne (fun z => by rw [z, hpl] at e; cases e)]
      exact (k7.trans (Kp.of F7)) b o e nb
    have kk : Kp [pl] (upd H6 pp (.tup [.str (tx x.1), .int (x.2.1 : Int)])) (upd (upd H6 pp (.tup [.str (tx x.1), .int (x.2.1 : Int)])) pl (.lst (us7 ++ [.ref pp]))) := Kp.put (by simp)
    have sp7 : ∀ y ∈ [pl], Soft (upd H6 pp (.tup [.str (tx x.1), .int (x.2.1 : Int)])) y := fun y hy => by rw [List.mem_singleton.mp hy]; exact .lst hus7
    have t8 := (t7.trans (Ext.tk F7)).trans (kk.kst sp7).tk
    have hv8 := (hv'.keep (Ext.kst F7)).keep (kk.kst sp7)
    have fd8 := I6.fd.keep kk sp7 (nin1 A.fd.2.2.2.1) (nin1 A.dd.2.2.1)
    have trk8 := I6.trk.keep kk sp7 (nin1 A.aa.2.1) (nin1 A.ll.1)
    have sts8 : (upd (upd H6 pp (.tup [.str (tx x.1), .int (x.2.1 : Int)])) pl (.lst (us7 ++ [.ref pp]))) st = some (.lst (zs ++ [.ref sa])) := by rw [upd_ne A.pp.1.symm]; exact I6.stays
    have all8 := I6.all.keep (kk.kst sp7)
    have nd8 : ND P w (upd (upd H6 pp (.tup [.str (tx x.1), .int (x.2.1 : Int)])) pl (.lst (us7 ++ [.ref pp]))) D _ := I6.nd.same (by rw [upd_ne A.pp.2.symm]; exact I6.nd.at_) (kk.kst sp7).tk
    generalize upd (upd H6 pp (.tup [.str (tx x.1), .int (x.2.1 : Int)])) pl (.lst (us7 ++ [.ref pp])) = H8 at hsn7 k8 t8 hv8 fd8 trk8 sts8 all8 nd8 ⊢
    -- track.write(part, made)
    obtain ⟨⟨dx8, ha8⟩, hP8⟩ := id trk8
    obtain ⟨us8, hus8, _⟩ := hP8.len
    refine ⟨_, rfl, a, dx8, _, rfl, ha8, kF_no_write _ _, _, rfl, _, rfl, a, l, ps ++ ones rs, m + mds rs, x.1, x.2.1, 1, rfl, trk8, by rw [List.length_append, ones_len]; omega, by omega, fun H9 k9 t9 => ?_⟩
    have soft8 : ∀ y ∈ [a, l], Soft H8 y := fun y hy => by
      simp only [List.mem_cons, List.not_mem_nil, or_false] at hy
      rcases hy with e | e <;> rw [e]
      · exact trk8.soft.1
      · exact trk8.soft.2
    have er : (rs ++ [(x.1, x.2.1)]).length = rs.length + 1 := by rw [List.length_append]; rfl
    have eo : ones (rs ++ [(x.1, x.2.1)]) = ones rs ++ [(x.1, 1)] := ones_app _ _
    have em : mds (rs ++ [(x.1, x.2.1)]) = mds rs + x.2.1 := by rw [mds_append]; rfl
    have et : tts (rs ++ [(x.1, x.2.1)]) = tts rs ++ x.1 := by rw [tts_append]; simp [tts]
    refine ⟨89 - (rs.length + 1), by omega, v', es6, rs ++ [(x.1, x.2.1)], zs ++ [.ref sa], kvs ++ [(nkey (stR L s0 t rs.length), p2, .int (rs.length : Int))], _, _, _, _, rfl, k8.trans (k9.mono fun y hy => by simp at hy; simp; exact .inr hy), t8.trans (k9.kst soft8).tk, ?_, hR', by rw [er]; omega, by rw [er, List.length_append, hkl]; rfl, by rw [er, List.length_append, hzl]; rfl, by rw [er]; exact hK', ?_, by rw [et, List.length_append, er]; omega, by rw [em, er]; omega, ?_, by rw [er]⟩
    · refine ⟨fd8.keep k9 soft8 (by simp [A.fd.2.1, A.fd.2.2.1]) (by simp [A.dd.1, A.dd.2.1]), ?_, ?_, hsn7.kp k9 soft8 (by simp [A.aa.2.1.symm, A.ll.1.symm]), k9 _ _ sts8 (by simp [A.aa.2.2.1.symm, A.ll.2.1.symm]), all8.keep (k9.kst soft8), nd8.same (k9 _ _ nd8.at_ (by simp [A.aa.2.2.2.symm, A.ll.2.2.symm])) (k9.kst soft8).tk⟩
      · rw [er, hst']
        exact hv8.keep (k9.kst soft8)
      · rw [eo, em, ← List.append_assoc]
        have e : m + mds rs + x.2.1 * 1 = m + (mds rs + x.2.1) := by omega
        rw [e] at t9
        exact t9
    · rw [er]
      intro i j hij hj
      rcases Nat.lt_succ_iff_lt_or_eq.mp hj with z | z
      · exact hinj i j hij z
      · intro e
        rw [z] at e hij
        have := (hK.1 (nkey (stR L s0 t rs.length))).mpr ⟨i, hij, congrArg nkey e.symm⟩
        rw [hfresh] at this
        cases this
    · rw [eo, er]
      exact htk.app (Tk.one (by omega) hxo.let_)
end
end OB
set_option Elab.async false
set_option linter.all false
set_option maxRecDepth 100000
set_option maxHeartbeats 4000000
namespace OB
open PySem PySem.Spec PySem.Calls PyProof.Rows L2 PySem.W StX
section
variable {P : Program} {w : World} {K : Frag} {mg : Str → Option Value} {base : Heap}
/- run_loop_far: slots loop=0 repeats=1 mark=2 track=3 feeder=4 stay=5 text=6 times=7 -/
def sp_run_loop_far (P : Program) (w : World) (K : Frag) : Sp := fun vs H Q _ => ∃ lv ra rdx rl ps L a l qs0 m, vs = [lv, .ref ra, .int 0, .ref a] ∧ IsLo H lv L ∧ VLo L ∧ H ra = some (.ins (He.ga K "Repeats") rdx (rF (.ref rl))) ∧ IsPairs H rl ps ∧ Good ps ∧ rl ≠ l ∧ Upto 20 ps ∧ ps.length ≤ 100 ∧ (∀ q ∈ ps, q.2 < 2 ^ 4000) ∧
  TrkAt K H a l qs0 m ∧ qs0.length ≤ 100 ∧
  (whole L (den ps) = none → ∀ H', Kp [a, l] H H' → Q .non H') ∧
  (∀ x, whole L (den ps) = some x → ∀ H' qs, Kp [a, l] H H' → TrkAt K H' a l (qs0 ++ qs) (m + x.2.1) → den qs = x.1 → Tk (400 * ps.length + 600) qs → Q (wayV x.2.2) H')
theorem rF_ne_kF {l p : V} {n : Int} : rF l ≠ kF p n := fun e => by
  have := (List.cons.inj e).1
  have := (Prod.mk.inj this).1
  exact absurd this (by decide +kernel)
theorem whole_none1 {L : Lo} {a b : List Nat} {x : List Nat × Nat × S} (h : feedL L s0 a = some x) (g : feedL L x.2.2 b = none) (c : List Nat) : whole L (a ++ (b ++ c)) = none := by
  unfold whole
  rw [feed_none h g]
  rfl
theorem whole_none2 {L : Lo} {a : List Nat} {x : List Nat × Nat × S} (h : feedL L s0 a = some x) (g : fin L x.2.2 = none) : whole L a = none := by
  unfold whole
  rw [h, Option.bind_some, g]
  rfl
theorem whole_some {L : Lo} {a : List Nat} {x : List Nat × Nat × S} {y : List Nat × Nat × Bool} (h : feedL L s0 a = some x) (g : fin L x.2.2 = some y) : whole L a = some (x.1 ++ y.1, x.2.1 + y.2.1, y.2.2) := by
  unfold whole
  rw [h, Option.bind_some, g, Option.bind_some]
theorem den_split {ps : Prs'} {i : Nat} {q : List Nat × Nat} (h : ps[i]? = some q) : den ps = den (ps.take i) ++ (pw q.1 q.2 ++ den (ps.drop (i + 1))) := by
  have e : ps = ps.take i ++ ps.drop i := (List.take_append_drop _ _).symm
  have e2 := drop_at h
  conv => lhs; rw [e]
  rw [den_append, e2]
def N_run_loop_far : List Str := ["loop", "repeats", "mark", "track", "feeder", "stay", "text", "times"]
theorem sc_run_loop_far : FnScope N_run_loop_far ["loop", "repeats", "mark", "track"] (defScope s_run_loop_far) := ⟨rfl, rfl, rfl, by decide +kernel, rfl, by decide +kernel, by decide +kernel⟩
theorem ok_run_loop_far (T : Txt K mg w) : FnR P w K mg base CX0 10 (He.ga K "run_loop_far") (sp_run_loop_far P w K) := by
  refine ok_of T.f_run_loop_far sc_run_loop_far (fun _ _ _ _ _ _ us hl => match us, hl with | [_, _, _, _], _ => rfl) (fun vs H Q E h => ?_) (fun cdv A outer s H vs Q E hr h => ?_)
  · repeat (first | (obtain ⟨rfl, _⟩ := h; rfl) | (obtain ⟨_, h⟩ := h))
  refine ⟨_, (pss_cons (ps_par (i := 4) (j := 5) rfl sc_run_loop_far.nd rfl rfl (by decide) rfl rfl (pa_cons (pe_mk (ok_Feeder_init T) T.m_Feeder T.g_Feeder (hr.mono (by decide)) pass0 (pa_cons (pv 0) pa_nil)) (pa_cons (pe_mk (ok_Stay_init2 T) T.m_Stay T.g_Stay (hr.mono (by decide)) pass0 (pa_cons (pv 2) (pa_cons pe_str pa_nil))) pa_nil)) (by rfl))
    (pss_cons (ps_for PassesOwn.never rfl (pi_list (pe_fld (pv 1) rfl)) (pg_tup rfl (pgs_cons (pg_name (i := 6) sc_run_loop_far.nd rfl (Or.inl rfl)) (pgs_cons (pg_name (i := 7) sc_run_loop_far.nd rfl (Or.inl rfl)) pgs_nil)))
      (pss_cons (ps_set (i := 5) sc_run_loop_far.nd rfl (Or.inl rfl) (pe_met (ok_Feeder_feed_row T) T.c_Feeder T.mt_Feeder_feed_row (hr.mono (by decide)) pass0 (pv 4) (pa_cons (pv 5) (pa_cons (pv 6) (pa_cons (pv 7) (pa_cons (pv 3) pa_nil))))))
      (pss_one (ps_if (pt_cmpR op_isN (pv 5) pe_non (nomark _))
        (pss_one (ps_ret pe_non))
        pss_nil))))
    (pss_one (ps_ret (pe_met (ok_Feeder_finish T) T.c_Feeder T.mt_Feeder_finish (hr.mono (by decide)) pass0 (pv 4) (pa_cons (pv 5) (pa_cons (pv 3) pa_nil))))))), ?_⟩
  obtain ⟨lv, ra, rdx, rl, ps, L, a, l, qs0, m, rfl, hL, hV, hra, hP, hG, hrl, hU, hpz, hn4, hT, hqz, qN, qE⟩ := h
  obtain ⟨⟨tdx, ha⟩, hPT⟩ := id hT
  obtain ⟨txs, htx, _⟩ := hPT.len
  obtain ⟨vs, hvs, hPP⟩ := id hP
  have hlen := paired_len hPP
  -- Feeder(loop)
  refine ⟨_, rfl, ?_⟩
  intro f fdx n1 n2 n3
  have EM := ext_made (u := .own f) (o := .ins (He.ga K "Feeder") fdx []) n1 n2
  refine ⟨f, fdx, lv, rfl, upd_same, fun H1 D L' k1 hD F0 => ⟨rfl, ?_⟩⟩
  have E1 := kp_made n1 n2 k1
  have hD0 : H D = none := fresh_of EM hD
  have hF1 : FdAt P w K H1 f lv D L [] := ⟨F0.at_, F0.nd, fun _ h => nomatch h⟩
  -- Stay(mark, '')
  refine ⟨_, rfl, ?_⟩
  intro y dy m1 m2 m3
  refine ⟨y, dy, 0, [], false, by rw [emp_tx]; rfl, upd_same, fun H2 k2 hy => ⟨rfl, ?_⟩⟩
  have e2 := kp_made m1 m2 k2
  have hS2 : IsStay K H2 (.ref y) s0 := ⟨y, dy, rfl, hy⟩
  have E2 := E1.trans e2
  have hF2 := hF1.mono e2
  refine ⟨_, _, rfl, ?_⟩
  have nn : ∀ {x y : Addr} {o : HO}, H x = some o → H y = none → x ≠ y := fun h1 h2 z => by rw [z, h2] at h1; cases h1
  have kD : ∀ {H' : Hp}, Kp [D, a, l] H H' → Kp [a, l] H H' := fun k => k.drop hD0
  have nrD : ra ≠ D := nn hra hD0
  have nra : ra ≠ a := fun z => by
    rw [z, ha] at hra
    exact rF_ne_kF (HO.ins.inj (Option.some.inj hra)).2.2.symm
  have nrl : ra ≠ l := ne_of_at hra htx (fun z => by cases z)
  have nlD : rl ≠ D := nn hvs hD0
  have nla : rl ≠ a := ne_of_at hvs ha (fun z => by cases z)
  refine ⟨_, rfl, _, _, _, _, _, rfl, E2 _ _ hra, T.c_Repeats, T.n_Repeats_runs, rF_runs _, _, rfl, ⟨_, sl (E2 _ _ hvs)⟩, for_list (xs := vs) (fun i σ H' => ∃ v es x qs x6 x7, σ = [some lv, some (.ref ra), some (.int 0), some (.ref a), some (.ref f), some v, x6, x7] ∧ Kp [D, a, l] H H' ∧ TK H H' ∧ FdAt P w K H' f lv D L es ∧
      feedL L s0 (den (ps.take i)) = some x ∧ IsStay K H' v x.2.2 ∧ TrkAt K H' a l (qs0 ++ qs) (m + x.2.1) ∧ den qs = x.1 ∧ Tk (400 * i) qs)
    ⟨.ref y, [], ([], 0, s0), [], _, _, rfl, Kp.of E2, Ext.tk E2, hF2, rfl, hS2, by rw [List.append_nil]; exact hT.mono E2, rfl, ⟨(fun _ h => nomatch h), (fun _ h => nomatch h), Nat.zero_le _⟩⟩ (fun i σ H' _ ⟨_, _, _, _, _, _, _, k, _⟩ => sl (k _ _ hvs (by simp [nlD, nla, hrl]))) ?_ ?_⟩
  · rintro i x σ H3 hi ⟨v, es, x0, qs, x6, x7, rfl, k3, t3, hF3, hfd, hS3, hT3, hdq, htk⟩
    obtain ⟨⟨t, n⟩, hq, ⟨pa, rfl, hpa⟩⟩ := paired_at hPP hi
    have hm := List.mem_of_getElem? hq
    have hpa3 : H3 pa = some (.tup [.str (tx t), .int (n : Int)]) := t3 _ _ hpa
    have ut : t.length ≤ 20 := hU (t, n) hm
    have at_ : Letters t := hG.abc (t, n) hm
    have un : n < 2 ^ 4000 := hn4 (t, n) hm
    have hi100 : i < ps.length := (List.getElem?_eq_some_iff.mp hq).1
    have hOx := (feedL_ok hV (den (ps.take i)) s0 s0_ok (den_mem fun q hq => hG.abc q (List.mem_of_mem_take hq)) x0 hfd).st
    obtain ⟨fdx3, hf3⟩ := hF3.at_
    have hql := htk.len
    refine ⟨_, _, rfl, sq hpa3, rfl, _, _, rfl, _, _, rfl, rfl, ?_⟩
    refine ⟨_, rfl, f, fdx3, _, rfl, hf3, fF_no_feed_row _ _, _, rfl, _, rfl, _, rfl, _, rfl, f, v, lv, D, L, es, x0.2.2, t, a, l, qs0 ++ qs, m + x0.2.1, n, rfl, hF3, hL.mono t3, hV, hS3, hOx, at_, ut, un, hT3, by rw [List.length_append]; omega, fun hN => fun H4 k4 => ?_, fun z hz H4 v' es4 qs4 k4 hF4 hS4 hT4 hd4 htk4 => ?_⟩
    · refine ⟨_, rfl, rfl, _, rfl, if_t rfl (qN ?_ H4 (kD (k3.trans k4)))⟩
      rw [den_split hq]
      exact whole_none1 hfd hN _
    · obtain ⟨va, vdx, rfl, hva⟩ := id hS4
      refine ⟨_, rfl, rfl, _, rfl, if_f rfl ?_⟩
      have soft3 : ∀ b ∈ [D, a, l], Soft H3 b := fun b hb => by
        simp only [List.mem_cons, List.not_mem_nil, or_false] at hb
        rcases hb with e | e | e <;> rw [e]
        · exact .nd hF3.nd.at_
        · exact hT3.soft.1
        · exact hT3.soft.2
      refine ⟨.ref va, es4, (x0.1 ++ z.1, x0.2.1 + z.2.1, z.2.2), qs ++ qs4, _, _, rfl, k3.trans k4, t3.trans (k4.kst soft3).tk, hF4, ?_, hS4, ?_, by rw [den_append, hdq, hd4], ?_⟩
      · rw [den_take hq]
        exact feed_join hfd hz
      · rw [← List.append_assoc, ← Nat.add_assoc]
        exact hT4
      · exact (htk.app htk4).mono (by omega)
  · rintro σ H3 ⟨v, es, x0, qs, x6, x7, rfl, k3, t3, hF3, hfd, hS3, hT3, hdq, htk⟩
    rw [hlen, List.take_length] at hfd
    rw [hlen] at htk
    have hOx := (feedL_ok hV (den ps) s0 s0_ok (den_mem hG.abc) x0 hfd).st
    obtain ⟨fdx3, hf3⟩ := hF3.at_
    have hql := htk.len
    refine ⟨_, rfl, f, fdx3, _, rfl, hf3, fF_no_finish _ _, _, rfl, _, rfl, f, fdx3, v, lv, _, a, l, qs0 ++ qs, m + x0.2.1, L, x0.2.2, rfl, hf3, hL.mono t3, hV, hS3, hOx, hT3, by rw [List.length_append]; omega, fun hN => fun H4 k4 => ?_, fun z hz H4 qs4 k4 hT4 hd4 htk4 => ?_⟩
    · exact qN (whole_none2 hfd hN) H4 (kD (k3.trans (k4.mono fun b hb => by simp at hb; simp; exact .inr hb)))
    · refine qE _ (whole_some hfd hz) H4 (qs ++ qs4) (kD (k3.trans (k4.mono fun b hb => by simp at hb; simp; exact .inr hb))) ?_ (by rw [den_append, hdq, hd4]) ((htk.app htk4).mono (by omega))
      rw [← List.append_assoc, ← Nat.add_assoc]
      exact hT4
end
end OB
set_option Elab.async false
set_option linter.all false
set_option maxRecDepth 100000
set_option maxHeartbeats 4000000
namespace OB
open PySem PySem.Spec PySem.Calls PyProof.Rows L2 PySem.W StX
section
variable {P : Program} {w : World} {K : Frag} {mg : Str → Option Value} {base : Heap}
/- run_far: slots program=0 repeats=1 passes=2 ways=3 number=4 loop=5 track=6 way=7 -/
/-- a Result -/
def IsRes (K : Frag) (H : Hp) (v : V) (ws : Prs') (n : Nat) (b : Bool) : Prop := ∃ a dx rv pa wa, v = .ref a ∧ H a = some (.ins (He.ga K "Result") dx (zF rv (.ref pa) (.ref wa))) ∧ IsRep K H rv ws ∧ H pa = some (.tup [.int (n : Int)]) ∧ H wa = some (.tup [wayV b])
theorem IsRes.mono {K : Frag} {H H' : Hp} {v : V} {ws : Prs'} {n : Nat} {b : Bool} (e : Ext H H') (h : IsRes K H v ws n b) : IsRes K H' v ws n b := by
  obtain ⟨a, dx, rv, pa, wa, e1, e2, e3, e4, e5⟩ := h
  exact ⟨a, dx, rv, pa, wa, e1, e _ _ e2, e3.mono e, e _ _ e4, e _ _ e5⟩
def sp_run_far (K : Frag) : Sp := fun vs H Q E => ∃ p lv rv ps L, vs = [.ref p, rv] ∧ H p = some (.tup [lv]) ∧ IsLo H lv L ∧ VLo L ∧ IsRep K H rv ps ∧ Upto 20 ps ∧ ps.length ≤ 100 ∧ (∀ q ∈ ps, q.2 < 2 ^ 4000) ∧
  (whole L (den ps) = none → ∀ H' d, Ext H H' → E (.ref (He.ga K "Endless")) (some d) H') ∧
  (∀ x, whole L (den ps) = some x → ∀ H' v ws, Ext H H' → IsRes K H' v ws x.2.1 x.2.2 → den ws = x.1 → ws.length ≤ 400 * ps.length + 600 → Q v H')
def N_run_far : List Str := ["program", "repeats", "passes", "ways", "number", "loop", "track", "way"]
theorem sc_run_far : FnScope N_run_far ["program", "repeats"] (defScope s_run_far) := ⟨rfl, rfl, rfl, by decide +kernel, rfl, by decide +kernel, by decide +kernel⟩
theorem ok_run_far (T : Txt K mg w) : FnR P w K mg base (L2.CX P w) 11 (He.ga K "run_far") (sp_run_far K) := by
  refine okX_of T.f_run_far sc_run_far (fun _ _ _ _ _ _ us hl => match us, hl with | [_, _], _ => rfl) (fun vs H Q E h => ?_) (fun cdv A outer s H vs Q E hr h => ?_)
  · repeat (first | (obtain ⟨rfl, _⟩ := h; rfl) | (obtain ⟨_, h⟩ := h))
  refine ⟨_, (pss_cons (ps_expr (pe_f (ok_check_program T) T.g_check_program (kp_of T.f_check_program) (hr.mono (by decide)) pass0 (pa_cons (pv 0) pa_nil)))
    (pss_cons (ps_par (i := 2) (j := 3) rfl sc_run_far.nd rfl rfl (by decide) rfl rfl (pa_cons (pe_lst pa_nil) (pa_cons (pe_lst pa_nil) pa_nil)) (by rfl))
    (pss_cons (ps_for (passes_of rfl) rfl (pi_enumT rfl T.z_enumerate (pa_cons (pv 0) pa_nil)) (pg_tup rfl (pgs_cons (pg_name (i := 4) sc_run_far.nd rfl (Or.inl rfl)) (pgs_cons (pg_name (i := 5) sc_run_far.nd rfl (Or.inl rfl)) pgs_nil)))
      (pss_cons (ps_set (i := 6) sc_run_far.nd rfl (Or.inl rfl) (pe_mk0 (ok_Track_init T) T.m_Track T.g_Track (hr.mono (by decide)) pass0))
      (pss_cons (ps_set (i := 7) sc_run_far.nd rfl (Or.inl rfl) (pe_f (ok_run_loop_far T) T.g_run_loop_far (kp_of T.f_run_loop_far) (hr.mono (by decide)) pass0 (pa_cons (pv 5) (pa_cons (pv 1) (pa_cons pe_int (pa_cons (pv 6) pa_nil))))))
      (pss_cons (ps_if (pt_cmpR op_isN (pv 7) pe_non (nomark _))
        (pss_one (ps_raiseEn rfl T.endless hr (takes_of rfl rfl rfl rfl) (pa_cons (pv 4) pa_nil)))
        pss_nil)
      (pss_cons (ps_set (i := 1) sc_run_far.nd rfl (Or.inl rfl) (pe_mk (ok_Repeats_init T) T.m_Repeats T.g_Repeats (hr.mono (by decide)) pass0 (pa_cons (pe_mk (ok_Runs_init T) T.m_Runs T.g_Runs (hr.mono (by decide)) pass0 (pa_cons (pe_fld (pv 6) rfl) pa_nil)) pa_nil)))
      (pss_cons (ps_expr (pe_bm PySem.F.plainAttrs_list PySem.F.slot_list_append PySem.F.type_list_append mt_append (pv 2) (pa_cons (pe_fld (pv 6) rfl) pa_nil)))
      (pss_one (ps_expr (pe_bm PySem.F.plainAttrs_list PySem.F.slot_list_append PySem.F.type_list_append mt_append (pv 3) (pa_cons (pv 7) pa_nil))))))))))
    (pss_one (ps_ret (pe_mk (ok_Result_init T) T.m_Result T.g_Result (hr.mono (by decide)) pass0 (pa_cons (pv 1) (pa_cons (pe_callTy call_tuple_of (by rfl) T.z_tuple boot_tuple (pa_cons (pv 2) pa_nil)) (pa_cons (pe_callTy call_tuple_of (by rfl) T.z_tuple boot_tuple (pa_cons (pv 3) pa_nil)) pa_nil))))))))), ?_⟩
  obtain ⟨p, lv, rv, ps, L, rfl, hp, hL, hV, ⟨ra, rdx, rl, rfl, hra, hP, hG⟩, hU, hpz, hn4, qN, qE⟩ := h
  refine ⟨_, rfl, p, lv, L, rfl, hp, hL, hV, fun H1 e1 => ?_⟩
  refine ⟨sz2 (by simp), fun pl hpl => ⟨sz2 (by simp), fun wl hwl => ⟨_, _, rfl, ?_⟩⟩⟩
  have hpw : pl ≠ wl := fun z => by rw [← z, upd_same] at hwl; cases hwl
  have e2 := e1.trans (Ext.upd (o := .lst []) hpl)
  have e3 := e2.trans (Ext.upd (o := .lst []) hwl)
  have hpl0 : H pl = none := fresh_of e1 hpl
  have hwl0 : H wl = none := fresh_of e2 hwl
  have hp3 : (upd (upd H1 pl (.lst [])) wl (.lst [])) pl = some (.lst []) := by rw [upd_ne hpw, upd_same]
  have hw3 : (upd (upd H1 pl (.lst [])) wl (.lst [])) wl = some (.lst []) := upd_same
  generalize upd (upd H1 pl (.lst [])) wl (.lst []) = H3 at e3 hp3 hw3 ⊢
  refine ⟨_, rfl, _, _, rfl, sq (e3 _ _ hp), for_enumT (xs := [lv]) (fun i σ H' => (i = 0 ∧ H' = H3 ∧ ∃ x4 x5 x6 x7, σ = [some (.ref p), some (.ref ra), some (.ref pl), some (.ref wl), x4, x5, x6, x7]) ∨
      (i = 1 ∧ ∃ x rv' ws x4 x5 x6 x7, σ = [some (.ref p), some rv', some (.ref pl), some (.ref wl), x4, x5, x6, x7] ∧ whole L (den ps) = some x ∧ Ext H H' ∧ IsRep K H' rv' ws ∧ den ws = x.1 ∧ ws.length ≤ 400 * ps.length + 600 ∧ H' pl = some (.lst [.int (x.2.1 : Int)]) ∧ H' wl = some (.lst [wayV x.2.2])))
    (.inl ⟨rfl, rfl, _, _, _, _, rfl⟩) ?_ ?_ ?_⟩
  · rintro i σ H' _ (⟨_, rfl, _⟩ | ⟨_, _, _, _, _, _, _, _, _, _, e, _⟩)
    · exact sq (e3 _ _ hp)
    · exact sq (e _ _ hp)
  · rintro i x σ H' hi (⟨rfl, rfl, x4, x5, x6, x7, rfl⟩ | ⟨rfl, _⟩) Tp hTp
    rotate_left
    · simp at hi
    have ex : lv = x := by simpa using hi
    subst ex
    have e4 := e3.trans (Ext.upd (o := .tup [.int ((0 : Nat) : Int), lv]) hTp)
    have hp4 := (Ext.upd (o := .tup [.int ((0 : Nat) : Int), lv]) hTp) _ _ hp3
    have hw4 := (Ext.upd (o := .tup [.int ((0 : Nat) : Int), lv]) hTp) _ _ hw3
    refine ⟨_, _, rfl, sq upd_same, rfl, _, _, rfl, _, _, rfl, rfl, ?_⟩
    generalize upd H' Tp (.tup [.int ((0 : Nat) : Int), lv]) = H4 at e4 hp4 hw4 ⊢
    -- Track()
    intro ta tdx n1 n2 n3
    have EM := ext_made (u := .own ta) (o := .ins (He.ga K "Track") tdx []) n1 n2
    refine ⟨ta, tdx, rfl, upd_same, fun H5 tl k5 htl t5 => ⟨rfl, ?_⟩⟩
    have e45 := kp_made n1 n2 k5
    have e5 := e4.trans e45
    have hta0 : H ta = none := fresh_of e4 n1
    have htl4 : H4 tl = none := fresh_of EM htl
    have htl0 : H tl = none := fresh_of e4 htl4
    obtain ⟨rvs, hrvs, _⟩ := hP.len
    have nrl : rl ≠ tl := fun z => by rw [z, htl0] at hrvs; cases hrvs
    refine ⟨_, rfl, _, rfl, _, rfl, lv, ra, rdx, rl, ps, L, ta, tl, [], 0, rfl, hL.mono (Ext.tk e5), hV, e5 _ _ hra, hP.mono e5, hG, nrl, hU, hpz, hn4, t5, by decide, fun hN => fun H6 k6 => ?_, fun z hz H6 qs k6 t6 hd6 htk6 => ?_⟩
    · have e6 : Ext H H6 := ext_of_kp e5 k6 fun b hb => by
        simp only [List.mem_cons, List.not_mem_nil, or_false] at hb
        rcases hb with e | e <;> rw [e]
        · exact hta0
        · exact htl0
      refine ⟨_, rfl, rfl, _, rfl, if_t rfl ?_⟩
      exact ⟨_, rfl, _, rfl, fun d hd => qN hN _ d (e6.trans (Ext.upd hd))⟩
    · have e6 : Ext H H6 := ext_of_kp e5 k6 fun b hb => by
        simp only [List.mem_cons, List.not_mem_nil, or_false] at hb
        rcases hb with e | e <;> rw [e]
        · exact hta0
        · exact htl0
      have e46 : Ext H4 H6 := ext_of_kp e45 k6 fun b hb => by
        simp only [List.mem_cons, List.not_mem_nil, or_false] at hb
        rcases hb with e | e <;> rw [e]
        · exact n1
        · exact htl4
      rw [List.nil_append, Nat.zero_add] at t6
      obtain ⟨⟨tdx6, hta6⟩, hP6⟩ := id t6
      have hway : decide (wayV z.2.2 = V.non) = false := by cases z.2.2 <;> rfl
      refine ⟨_, rfl, rfl, _, rfl, if_f hway ?_⟩
      refine ⟨_, rfl, _, _, _, _, _, rfl, hta6, T.c_Track, T.n_Track_pairs, kF_pairs _ _, ?_⟩
      intro x1 dx1 m1 m2 m3
      refine ⟨x1, dx1, tl, _, rfl, upd_same, hP6.mono (ext_made m1 m2), by have := htk6.len; omega, htk6.up, htk6.abc, fun H7 l7 ps7 k7 hx7 hP7 hd7 hg7 hn7 hfr7 => ⟨rfl, ?_⟩⟩
      have e7 := kp_made m1 m2 k7
      have hR7 : IsRuns K H7 (.ref x1) ps7 := ⟨x1, dx1, l7, rfl, hx7, hP7, hg7⟩
      intro x2 dx2 m4 m5 m6
      refine ⟨x2, dx2, .ref x1, _, rfl, upd_same, .inl (hR7.mono (ext_made m4 m5)), fun H8 l8 ws k8 hx8 hP8 hd8 hg8 hn8 hfr8 => ⟨rfl, ?_⟩⟩
      have e8 := kp_made m4 m5 k8
      have hR8 : IsRep K H8 (.ref x2) ws := ⟨x2, dx2, l8, rfl, hx8, hP8, hg8⟩
      have e68 := e7.trans e8
      have hp8 := (e46.trans e68) _ _ hp4
      have hw8 := (e46.trans e68) _ _ hw4
      have tk6 := htk6.len
      refine ⟨_, rfl, tyL hp8, _, rfl, _, _, _, _, _, rfl, e68 _ _ hta6, T.c_Track, T.n_Track_made, kF_made _ _, _, _, _, rfl, rfl, hp8, Nat.lt_of_lt_of_le (by decide : 0 < 16777216) sizeBig, ?_⟩
      have hw9 : (upd H8 pl (.lst ([] ++ [.int (z.2.1 : Int)]))) wl = some (.lst []) := by rw [upd_ne hpw.symm]; exact hw8
      refine ⟨_, rfl, tyL hw9, _, rfl, _, _, _, rfl, rfl, hw9, Nat.lt_of_lt_of_le (by decide : 0 < 16777216) sizeBig, ?_⟩
      have kk : Kp [pl, wl] H8 (upd (upd H8 pl (.lst ([] ++ [.int (z.2.1 : Int)]))) wl (.lst ([] ++ [wayV z.2.2]))) := (Kp.put (by simp)).trans (Kp.put (by simp))
      have e8' : Ext H H8 := e6.trans e68
      have ef : Ext H (upd (upd H8 pl (.lst ([] ++ [.int (z.2.1 : Int)]))) wl (.lst ([] ++ [wayV z.2.2]))) := ext_of_kp e8' kk fun b hb => by
        simp only [List.mem_cons, List.not_mem_nil, or_false] at hb
        rcases hb with e | e <;> rw [e]
        · exact hpl0
        · exact hwl0
      have sft : ∀ b ∈ [pl, wl], Soft H8 b := fun b hb => by
        simp only [List.mem_cons, List.not_mem_nil, or_false] at hb
        rcases hb with e | e <;> rw [e]
        · exact .lst hp8
        · exact .lst hw8
      have x2p : x2 ≠ pl := ne_of_at hx8 hp8 (fun z => by cases z)
      have x2w : x2 ≠ wl := ne_of_at hx8 hw8 (fun z => by cases z)
      obtain ⟨v8, hv8, hp8P⟩ := id hP8
      have away : ∀ {b : Addr} {o : HO}, H6 b = some o → l8 ≠ b := fun {b o} hb e => by
        rcases hfr8 with h | ⟨c, dy, hc, hcr⟩
        · rw [e, ext_made m4 m5 _ _ (e7 _ _ hb)] at h
          cases h
        · cases hc
          have hx7' := ext_made (u := .own x2) (o := .ins (He.ga K "Repeats") dx2 []) m4 m5 _ _ hx7
          rw [hx7'] at hcr
          have e2 := (HO.ins.inj (Option.some.inj hcr)).2.2
          have e3 : l7 = l8 := V.ref.inj (Prod.mk.inj (List.cons.inj e2).1).2
          rw [e3, e, ext_made m1 m2 _ _ hb] at hfr7
          cases hfr7
      have l8p : l8 ≠ pl := away (e46 _ _ hp4)
      have l8w : l8 ≠ wl := away (e46 _ _ hw4)
      refine .inr ⟨rfl, z, .ref x2, ws, _, _, _, _, rfl, hz, ef, ⟨x2, dx2, l8, rfl, kk _ _ hx8 (by simp [x2p, x2w]), hP8.kp kk sft (by simp [l8p, l8w]), hg8⟩, by rw [hd8, hd7, hd6], by have z1 := hn7.1; have z2 := hn8.1; omega, by rw [upd_ne hpw]; exact upd_same, upd_same⟩
  · rintro σ H' (⟨h, _⟩ | ⟨_, x, rv', ws, x4, x5, x6, x7, rfl, hw, e, hR, hd, hwz, hpl', hwl'⟩)
    · simp at h
    refine ⟨_, rfl, _, rfl, _, _, rfl, .inl ⟨sl hpl', fun tp htp => ?_⟩⟩
    have f1 := Ext.upd (o := .tup [.int (x.2.1 : Int)]) htp
    refine ⟨_, rfl, _, _, rfl, .inl ⟨sl (f1 _ _ hwl'), fun tw htw => ?_⟩⟩
    have f2 := f1.trans (Ext.upd (o := .tup [wayV x.2.2]) htw)
    have ntw : tp ≠ tw := fun z => by rw [← z, upd_same] at htw; cases htw
    intro y dy m1 m2 m3
    refine ⟨y, dy, rv', .ref tp, .ref tw, rfl, upd_same, fun H9 k9 hy => ⟨rfl, ?_⟩⟩
    have f3 := kp_made m1 m2 k9
    have f23 := f2.trans f3
    exact qE x hw H9 _ ws (e.trans f23) ⟨y, dy, rv', tp, tw, rfl, hy, hR.mono f23, f3 _ _ (by rw [upd_ne ntw, upd_same]), f3 _ _ upd_same⟩ hd hwz
end
end OB
set_option Elab.async false
set_option linter.all false
set_option maxRecDepth 100000
set_option maxHeartbeats 4000000
namespace OB
open PySem PySem.Spec PySem.Calls PyProof.Rows L2 PySem.W StX
section
variable {P : Program} {w : World} {K : Frag} {mg : Str → Option Value} {base : Heap}
/- _law_bag: slots _law_script=0 _law_at=1 _law_cell=2 _law_great=3 -/
/-- the bag of a law: numbers drawn from it change it -/
def BagAt (H : Hp) (g : Addr) : Prop := ∃ G s c : Int, H g = some (.lst [.int G, .int s, .int c]) ∧ 0 ≤ G
theorem BagAt.soft {H : Hp} {g : Addr} (h : BagAt H g) : Soft H g := by
  obtain ⟨G, s, c, e, _⟩ := h
  exact .lst e
theorem kp_fresh {M : List Addr} {H H' : Hp} {D : Addr} {o : HO} (k : Kp M H H') (h : H D = none) : Kp M H (upd H' D o) := fun b u e nb => by
  rw [upd_ne (fun z => by rw [z, h] at e; cases e)]
  exact k b u e nb
theorem BagAt.fresh {H : Hp} {g D : Addr} {o : HO} (h : BagAt H g) (n : D ≠ g) : BagAt (upd H D o) g := by
  obtain ⟨G, s, c, e, h0⟩ := h
  exact ⟨G, s, c, by rw [upd_ne n.symm]; exact e, h0⟩
theorem BagAt.ne {H : Hp} {g D : Addr} (h : BagAt H g) (n : H D = none) : D ≠ g := fun z => by
  obtain ⟨G, s, c, e, _⟩ := h
  rw [z, e] at n
  cases n
theorem BagAt.mono {H H' : Hp} {g : Addr} (e : Ext H H') (h : BagAt H g) : BagAt H' g := by
  obtain ⟨G, s, c, e1, h0⟩ := h
  exact ⟨G, s, c, e _ _ e1, h0⟩
def sp_law_bag (K : Frag) : Sp := fun vs H Q _ => ∃ a, ∃ ns : List Int, ∃ i : Nat, vs = [.ref a, .int (i : Int)] ∧ SqL K H a (ns.map V.int) ∧ i ≤ 100 ∧ ∀ H' g, Ext H H' → H g = none → BagAt H' g → Q (.ref g) H'
def N_law_bag : List Str := ["_law_script", "_law_at", "_law_cell", "_law_great"]
theorem sc_law_bag : FnScope N_law_bag ["_law_script", "_law_at"] (defScope s_law_bag) := ⟨rfl, rfl, rfl, by decide +kernel, rfl, by decide +kernel, by decide +kernel⟩
theorem ok_law_bag (T : Txt K mg w) : FnR P w K mg base CX0 1 (He.ga K "_law_bag") (sp_law_bag K) := by
  refine ok_of T.f_law_bag sc_law_bag (fun _ _ _ _ _ _ us hl => match us, hl with | [_, _], _ => rfl) (fun vs H Q E h => ?_) (fun cdv A outer s H vs Q E hr h => ?_)
  · repeat (first | (obtain ⟨rfl, _⟩ := h; rfl) | (obtain ⟨_, h⟩ := h))
  refine ⟨_, (pss_cons (ps_set (i := 2) sc_law_bag.nd rfl (Or.inl rfl) (pe_ifExp (pt_cmpR op_lt (pv 1) (pe_callB call_len_seq (by rfl) T.z_len boot_len (pa_cons (pv 0) pa_nil)) (nomark _)) (pe_ix ix_list (pv 0) (pv 1) (fun _ _ => rfl)) pe_int))
    (pss_cons (ps_set (i := 3) sc_law_bag.nd rfl (Or.inl rfl) (pe_ifExp (pt_cmpR op_ge (pe_callB call_abs (by rfl) T.z_abs boot_abs (pa_cons (pv 2) pa_nil)) (pe_op op_pow pe_int pe_int) (nomark _)) (pe_callB call_abs (by rfl) T.z_abs boot_abs (pa_cons (pv 2) pa_nil)) pe_int))
    (pss_one (ps_ret (pe_lst (pa_cons (pv 3) (pa_cons (pe_op op_add (pe_op op_mod (pe_op op_add (pe_op op_add (pe_op op_mul (pe_op op_mod (pv 2) pe_int) pe_int) (pe_op op_mul pe_int (pv 1))) pe_int) pe_int) pe_int) (pa_cons pe_int pa_nil)))))))), ?_⟩
  obtain ⟨a, ns, i, rfl, hS, hi, q⟩ := h
  have cell : ∀ (Z : V → Hp → Prop), (∀ c : Int, Z (.int c) H) → (if decide ((i : Int) < ((ns.map V.int).length : Int)) = true then tOp (rIxL K) (tVar 0) (tVar 1) (start N_law_bag [.ref a, .int (i : Int)]) H Z else tC (.int 0) (start N_law_bag [.ref a, .int (i : Int)]) H Z) := by
    intro Z hZ
    refine ifb (fun c => ?_) (fun c => hZ 0)
    have c' := of_decide_eq_true c
    have hlt : i < (ns.map V.int).length := by omega
    have hlt2 : i < ns.length := by rw [List.length_map] at hlt; exact hlt
    exact ⟨_, rfl, _, rfl, _, _, _, .int ns[i], rfl, rfl, hS, atI_nat (by rw [List.getElem?_map, List.getElem?_eq_getElem hlt2]; rfl), hZ _⟩
  refine ⟨_, rfl, _, rfl, _, _, rfl, .inl hS, _, _, rfl, rfl, _, rfl, cell _ fun c => ?_⟩
  have fin : ∀ G : Int, 0 ≤ G → ∀ s' : Int, ∀ l, H l = none → Q (.ref l) (upd H l (.lst [.int G, .int s', .int 0])) := fun G hG s' l hl => q _ l (Ext.upd hl) hl ⟨G, s', 0, upd_same, hG⟩
  refine ⟨_, rfl, c, rfl, _, _, rfl, rfl, ⟨by decide, by decide, by decide⟩, _, _, rfl, rfl, _, rfl, ?_⟩
  refine ifb (fun h => ?_) (fun h => ?_)
  · refine ⟨_, rfl, c, rfl, ?_⟩
    refine ⟨_, rfl, _, rfl, _, _, rfl, rfl, by show (0 : Int) < 2147483647; decide, _, _, rfl, rfl, .inr ⟨by decide, by decide⟩, _, rfl, _, _, rfl, rfl, .inl ⟨by decide, by decide⟩, _, _, rfl, rfl, _, _, rfl, rfl, _, _, rfl, rfl, by show (0 : Int) < 2147483629; decide, _, _, rfl, rfl, sz2 (by simp), fun l hl => ?_⟩
    exact fin _ (by split <;> omega) _ l hl
  · refine ⟨_, rfl, _, rfl, _, _, rfl, rfl, by show (0 : Int) < 2147483647; decide, _, _, rfl, rfl, .inr ⟨by decide, by decide⟩, _, rfl, _, _, rfl, rfl, .inl ⟨by decide, by decide⟩, _, _, rfl, rfl, _, _, rfl, rfl, _, _, rfl, rfl, by show (0 : Int) < 2147483629; decide, _, _, rfl, rfl, sz2 (by simp), fun l hl => ?_⟩
    exact fin 0 (Int.le_refl _) _ l hl
/- _law_take: slots _law_bag_here=0 _law_many=1 _law_digit=2 -/
def sp_law_take (_ : Frag) : Sp := fun vs H Q _ => ∃ g, ∃ n : Int, vs = [.ref g, .int n] ∧ BagAt H g ∧ 0 < n ∧ n < 2 ^ 250 ∧ ∀ H', ∀ d : Nat, Kp [g] H H' → BagAt H' g → (d : Int) < n → Q (.int (d : Int)) H'
theorem nat_of_mod {i n : Int} (h : 0 < n) : ∃ d : Nat, i % n = (d : Int) ∧ (d : Int) < n := by
  have h1 := Int.emod_nonneg i (show n ≠ 0 by omega)
  have h2 := Int.emod_lt_of_pos i h
  exact ⟨(i % n).toNat, by omega, by omega⟩
def N_law_take : List Str := ["_law_bag_here", "_law_many", "_law_digit"]
theorem sc_law_take : FnScope N_law_take ["_law_bag_here", "_law_many"] (defScope s_law_take) := ⟨rfl, rfl, rfl, by decide +kernel, rfl, by decide +kernel, by decide +kernel⟩
theorem ok_law_take (T : Txt K mg w) : FnR P w K mg base CX0 1 (He.ga K "_law_take") (sp_law_take K) := by
  refine ok_of T.f_law_take sc_law_take (fun _ _ _ _ _ _ us hl => match us, hl with | [_, _], _ => rfl) (fun vs H Q E h => ?_) (fun cdv A outer s H vs Q E hr h => ?_)
  · repeat (first | (obtain ⟨rfl, _⟩ := h; rfl) | (obtain ⟨_, h⟩ := h))
  refine ⟨_, (pss_cons (ps_if (pt_cmpR op_gt (pe_ix ix_list (pv 0) pe_int (fun _ _ => rfl)) pe_int (nomark _))
      (pss_cons (ps_set (i := 2) sc_law_take.nd rfl (Or.inl rfl) (pe_op op_mod (pe_ix ix_list (pv 0) pe_int (fun _ _ => rfl)) (pv 1)))
      (pss_cons (ps_asg (pe_op op_fdivW (pe_ix ix_list (pv 0) pe_int (fun _ _ => rfl)) (pv 1)) (pg_sub (pv 0) pe_int set_list))
      (pss_one (ps_ret (pv 2)))))
      pss_nil)
    (pss_cons (ps_asg (pe_op op_add (pe_ix ix_list (pv 0) pe_int (fun _ _ => rfl)) pe_int) (pg_sub (pv 0) pe_int set_list))
    (pss_cons (ps_asg (pe_op op_mod (pe_op op_add (pe_op op_add (pe_op op_mul (pe_ix ix_list (pv 0) pe_int (fun _ _ => rfl)) pe_int) (pe_op op_mul pe_int (pe_ix ix_list (pv 0) pe_int (fun _ _ => rfl)))) pe_int) pe_int) (pg_sub (pv 0) pe_int set_list))
    (pss_one (ps_ret (pe_op op_mod (pe_op op_mod (pe_op op_pow (pe_op op_fdivW (pe_ix ix_list (pv 0) pe_int (fun _ _ => rfl)) pe_int) pe_int) pe_int) (pv 1))))))), ?_⟩
  obtain ⟨g, n, rfl, ⟨G, s', c, hg, hG⟩, hn, hn2, q⟩ := h
  have hnd : CDivW G n := wide_div hn (b := 250) (by omega) (by decide) (by decide)
  have a0 : atI [V.int G, .int s', .int c] 0 = some (.int G) := atI_nat (j := 0) rfl
  refine ⟨_, rfl, _, _, 0, _, rfl, rfl, sl hg, a0, _, _, rfl, rfl, _, rfl, ?_⟩
  refine ifb (fun h1 => ?_) (fun h1 => ?_)
  · refine ⟨_, rfl, _, _, 0, _, rfl, rfl, sl hg, a0, _, rfl, _, _, rfl, rfl, hn, ?_⟩
    obtain ⟨d, hd, hdn⟩ := nat_of_mod (i := G) hn
    dsimp only
    rw [hd]
    refine ⟨_, rfl, _, _, 0, _, rfl, rfl, sl hg, a0, _, rfl, _, _, rfl, rfl, hnd, ?_⟩
    refine ⟨_, rfl, _, _, 0, 0, rfl, rfl, hg, rfl, ?_⟩
    refine ⟨_, rfl, q _ d (Kp.put (by simp)) ⟨G / n, s', c, upd_same, Int.ediv_nonneg hG (Int.le_of_lt hn)⟩ hdn⟩
  · refine ⟨_, rfl, _, _, 2, _, rfl, rfl, sl hg, atI_nat (j := 2) rfl, _, _, rfl, rfl, ?_⟩
    refine ⟨_, rfl, _, _, 2, 2, rfl, rfl, hg, rfl, ?_⟩
    have hg2 : (upd H g (.lst ([V.int G, .int s', .int c].set 2 (.int (c + 1))))) g = some (.lst [.int G, .int s', .int (c + 1)]) := upd_same
    have k2 : Kp [g] H (upd H g (.lst ([V.int G, .int s', .int c].set 2 (.int (c + 1))))) := Kp.put (by simp)
    dsimp only
    generalize upd H g (.lst ([V.int G, .int s', .int c].set 2 (.int (c + 1)))) = H2 at hg2 k2 ⊢
    refine ⟨_, rfl, _, _, 1, _, rfl, rfl, sl hg2, atI_nat (j := 1) rfl, _, _, rfl, rfl, .inr ⟨by decide, by decide⟩, _, rfl, _, _, 2, _, rfl, rfl, sl hg2, atI_nat (j := 2) rfl, _, _, rfl, rfl, .inl ⟨by decide, by decide⟩, _, _, rfl, rfl, _, _, rfl, rfl, _, _, rfl, rfl, by show (0 : Int) < 2147483647; decide, ?_⟩
    obtain ⟨e, he, hen⟩ := nat_of_mod (i := s' * 48271 + 7919 * (c + 1) + 13) (n := 2147483647) (by decide)
    dsimp only
    rw [he]
    refine ⟨_, rfl, _, _, 1, 1, rfl, rfl, hg2, rfl, ?_⟩
    have hg3 : (upd H2 g (.lst ([V.int G, .int s', .int (c + 1)].set 1 (.int (e : Int))))) g = some (.lst [.int G, .int (e : Int), .int (c + 1)]) := upd_same
    have k3 : Kp [g] H (upd H2 g (.lst ([V.int G, .int s', .int (c + 1)].set 1 (.int (e : Int))))) := k2.trans (Kp.put (by simp))
    generalize upd H2 g (.lst ([V.int G, .int s', .int (c + 1)].set 1 (.int (e : Int)))) = H3 at hg3 k3 ⊢
    have hp : CPow ((e : Int) / 8) 2 := ⟨by decide, by decide, by omega⟩
    refine ⟨_, rfl, _, _, 1, _, rfl, rfl, sl hg3, atI_nat (j := 1) rfl, _, _, rfl, rfl, wide_div (b := 64) (by decide) (by decide) (by decide) (by decide), _, _, rfl, rfl, hp, _, _, rfl, rfl, by show (0 : Int) < 2147483629; decide, _, rfl, _, _, rfl, rfl, hn, ?_⟩
    obtain ⟨d, hd, hdn⟩ := nat_of_mod (i := ((e : Int) / 8) ^ (2 : Int).toNat % 2147483629) hn
    dsimp only
    rw [hd]
    exact q H3 d k3 ⟨G, _, _, hg3, hG⟩ hdn
/- _law_text: slots _law_bag_here=0 _law_most=1 _law_turn=2 -/
def sp_law_text (_ : Frag) : Sp := fun vs H Q _ => ∃ g, ∃ most : Nat, vs = [.ref g, .int (most : Int)] ∧ BagAt H g ∧ most ≤ 100 ∧ ∀ H' l, Kp [g] H H' → BagAt H' g → Letters l → l.length ≤ most → Q (.str (tx l)) H'
theorem letter_at {d : Nat} (h : (d : Int) < 4) : ∃ c, c ∈ abcd ∧ atI ("abcd" : Str).cps.toList (d : Int) = some c := by
  rw [abcd_cps]
  have h4 : d < 4 := by omega
  match d, h4 with
  | 0, _ => exact ⟨97, by decide, rfl⟩
  | 1, _ => exact ⟨98, by decide, rfl⟩
  | 2, _ => exact ⟨99, by decide, rfl⟩
  | 3, _ => exact ⟨100, by decide, rfl⟩
theorem abcd_sz : ("abcd" : Str).length ≤ sizeLine := Nat.le_trans (by rw [abcd_tx, tx_len]; decide) sizeBig
def N_law_text : List Str := ["_law_bag_here", "_law_most", "_law_turn"]
theorem sc_law_text : FnScope N_law_text ["_law_bag_here", "_law_most"] (defScope s_law_text) := ⟨rfl, rfl, rfl, by decide +kernel, rfl, by decide +kernel, by decide +kernel⟩
theorem ok_law_text (T : Txt K mg w) : FnR P w K mg base CX0 2 (He.ga K "_law_text") (sp_law_text K) := by
  refine ok_of T.f_law_text sc_law_text (fun _ _ _ _ _ _ us hl => match us, hl with | [_, _], _ => rfl) (fun vs H Q E h => ?_) (fun cdv A outer s H vs Q E hr h => ?_)
  · repeat (first | (obtain ⟨rfl, _⟩ := h; rfl) | (obtain ⟨_, h⟩ := h))
  refine ⟨_, (pss_one (ps_ret (pe_join pe_str (pe_lc (own := [("_law_turn", 2)]) rfl sc_law_text.nd (pi_range1 rfl T.z_range (pa_cons (pe_f (ok_law_take T) T.g_law_take (kp_of T.f_law_take) (hr.mono (by decide)) pass0 (pa_cons (pv 0) (pa_cons (pe_op op_add (pv 1) pe_int) pa_nil))) pa_nil)) (blkOk_by (own := [("_law_turn", 2)]) (N := N_law_text) (sc := defScope s_law_text) (by decide +kernel)) (fun _ _ _ _ _ => (pg_name (i := 2) sc_law_text.nd rfl (Or.inl rfl))) (fun _ _ _ _ _ => pts_nil) (fun _ _ _ _ _ => (pe_ix ix_str pe_str (pe_f (ok_law_take T) T.g_law_take (kp_of T.f_law_take) (hr.mono (by decide)) pass0 (pa_cons (pv 0) (pa_cons pe_int pa_nil))) (fun _ _ => rfl))))))), ?_⟩
  obtain ⟨g, most, rfl, hB, hm, q⟩ := h
  refine ⟨⟨_, rfl⟩, _, rfl, _, rfl, _, _, rfl, rfl, g, (most : Int) + 1, rfl, hB, by omega, by omega, fun H1 d k1 b1 hd => ⟨(d : Int), rfl, by omega, by omega, fun D hD => ?_⟩⟩
  have hDg : D ≠ g := b1.ne hD
  rw [Int.toNat_natCast]
  refine lc_range (fun i H' => Kp [g] H1 H' ∧ BagAt H' g ∧ ∃ l, Letters l ∧ l.length = i ∧ H' D = some (.lst (signsV l))) ⟨Kp.new hD, b1.fresh hDg, [], (fun _ h => nomatch h), rfl, upd_same⟩ ?_ ?_
  · rintro i H2 hi ⟨k2, b2, l, hl, hll, hlD⟩
    refine ⟨rfl, ?_⟩
    unfold tYes
    refine if_t rfl ?_
    refine ⟨_, rfl, g, 4, rfl, b2, by decide, by decide, fun H3 e k3 b3 he => ?_⟩
    obtain ⟨c, hc, hat⟩ := letter_at he
    have hlD3 := k3 _ _ hlD (nin1 hDg)
    refine ⟨_, _, c, rfl, rfl, abcd_sz, hat, _, hlD3, Nat.lt_of_lt_of_le (by rw [sg_len]; omega) sizeBig, kp_fresh (k2.trans k3) hD, b3.fresh hDg, l ++ [c], hl.app (.one hc), by rw [List.length_append, hll]; rfl, ?_⟩
    rw [upd_same]
    show some (HO.lst (signsV l ++ signsV [c])) = _
    rw [sg_app]
  · rintro H2 ⟨k2, b2, l, hl, hll, hlD⟩
    refine ⟨_, _, l.map fun c => tx [c], rfl, rfl, .inl (sl (by rw [hlD, signs_str])), by rw [sum_signs, emp_tx, tx_len, List.length_nil]; omega, ?_⟩
    rw [emp_tx, join_signs]
    exact q H2 l (k1.trans k2) b2 hl (by omega)
/- _law_selected: slots _law_bag_here=0 _law_allowed=1 _law_mask=2 _law_at=3 -/
/-- which of the allowed a mask takes -/
def mtake (m : Int) (i : Nat) : Bool := decide (V.int (Builtin.bitAnd (m / 2 ^ ((i : Int)).toNat) 1) = .int 1)
def msel (m : Nat) (al : List Nat) : List Nat := ((List.range al.length).filter (mtake (m : Int))).map fun i => al.getD i 0
theorem msel4 : ∀ m, m < 16 → 1 ≤ m → Sel (msel m abcd) abcd := by
  have h : ∀ m, m < 16 → (1 ≤ m → (msel m abcd ≠ [] ∧ msel m abcd = abcd.filter fun c => decide (c ∈ msel m abcd))) := by decide +kernel
  exact fun m hm h1 => h m hm h1
theorem msel5 : ∀ m, m < 32 → 1 ≤ m → Sel (msel m abcdE) abcdE := by
  have h : ∀ m, m < 32 → (1 ≤ m → (msel m abcdE ≠ [] ∧ msel m abcdE = abcdE.filter fun c => decide (c ∈ msel m abcdE))) := by decide +kernel
  exact fun m hm h1 => h m hm h1
theorem sel_all4 : Sel abcd abcd := by
  have h : abcd ≠ [] ∧ abcd = abcd.filter fun c => decide (c ∈ abcd) := by decide +kernel
  exact h
theorem sel_all5 : Sel abcdE abcdE := by
  have h : abcdE ≠ [] ∧ abcdE = abcdE.filter fun c => decide (c ∈ abcdE) := by decide +kernel
  exact h
theorem msel_ok {al : List Nat} (h : al = abcd ∨ al = abcdE) {m : Nat} (h1 : 1 ≤ m) (h2 : m < 2 ^ al.length) : Sel (msel m al) al := by
  rcases h with e | e <;> rw [e] at h2 ⊢
  · exact msel4 m h2 h1
  · exact msel5 m h2 h1
theorem sel_all {al : List Nat} (h : al = abcd ∨ al = abcdE) : Sel al al := by
  rcases h with e | e <;> rw [e]
  · exact sel_all4
  · exact sel_all5
def sp_law_selected (_ : Frag) : Sp := fun vs H Q _ => ∃ g al, vs = [.ref g, .str (tx al)] ∧ BagAt H g ∧ (al = abcd ∨ al = abcdE) ∧ ∀ H' l, Kp [g] H H' → BagAt H' g → Sel l al → Q (.str (tx l)) H'
def N_law_selected : List Str := ["_law_bag_here", "_law_allowed", "_law_mask", "_law_at"]
theorem sc_law_selected : FnScope N_law_selected ["_law_bag_here", "_law_allowed"] (defScope s_law_selected) := ⟨rfl, rfl, rfl, by decide +kernel, rfl, by decide +kernel, by decide +kernel⟩
theorem ok_law_selected (T : Txt K mg w) : FnR P w K mg base CX0 2 (He.ga K "_law_selected") (sp_law_selected K) := by
  refine ok_of T.f_law_selected sc_law_selected (fun _ _ _ _ _ _ us hl => match us, hl with | [_, _], _ => rfl) (fun vs H Q E h => ?_) (fun cdv A outer s H vs Q E hr h => ?_)
  · repeat (first | (obtain ⟨rfl, _⟩ := h; rfl) | (obtain ⟨_, h⟩ := h))
  refine ⟨_, (pss_cons (ps_if (pt_cmpR op_eq (pe_f (ok_law_take T) T.g_law_take (kp_of T.f_law_take) (hr.mono (by decide)) pass0 (pa_cons (pv 0) (pa_cons pe_int pa_nil))) pe_int (nomark _))
      (pss_one (ps_ret (pv 1)))
      pss_nil)
    (pss_cons (ps_set (i := 2) sc_law_selected.nd rfl (Or.inr rfl) (pe_op op_add pe_int (pe_f (ok_law_take T) T.g_law_take (kp_of T.f_law_take) (hr.mono (by decide)) pass0 (pa_cons (pv 0) (pa_cons (pe_op op_sub (pe_op op_shl pe_int (pe_callB call_len_str (by rfl) T.z_len boot_len (pa_cons (pv 1) pa_nil))) pe_int) pa_nil)))))
    (pss_one (ps_ret (pe_join pe_str (pe_lc (own := [("_law_at", 3)]) rfl sc_law_selected.nd (pi_range1 rfl T.z_range (pa_cons (pe_callB call_len_str (by rfl) T.z_len boot_len (pa_cons (pv 1) pa_nil)) pa_nil)) (blkOk_by (own := [("_law_at", 3)]) (N := N_law_selected) (sc := defScope s_law_selected) (by decide +kernel)) (fun _ _ _ _ _ => (pg_name (i := 3) sc_law_selected.nd rfl (Or.inl rfl))) (fun _ _ _ _ _ => pts_one (pt_cmpR op_eq (pe_op op_and (pe_op op_shr (pv 2) (pv 3)) pe_int) pe_int (nomark _))) (fun _ _ _ _ _ => (pe_ix ix_str (pv 1) (pv 3) (fun _ _ => rfl))))))))), ?_⟩
  obtain ⟨g, al, rfl, hB, hal, q⟩ := h
  have hal5 : al.length ≤ 5 := by rcases hal with e | e <;> rw [e] <;> decide
  have hal4 : 4 ≤ al.length := by rcases hal with e | e <;> rw [e] <;> decide
  have hsz : (tx al).length ≤ sizeLine := Nat.le_trans (by rw [tx_len]; omega) sizeBig
  refine ⟨_, rfl, g, 3, rfl, hB, by decide, by decide, fun H1 d k1 b1 hd => ⟨rfl, _, rfl, ?_⟩⟩
  refine ifb (fun c => ?_) (fun c => ?_)
  · exact ⟨_, rfl, q H1 al k1 b1 (sel_all hal)⟩
  have hp : (1 : Int) * 2 ^ ((al.length : Int)).toNat = ((2 ^ al.length : Nat) : Int) := by
    rw [Int.one_mul, Int.toNat_natCast, Int.natCast_pow]
    rfl
  have hp2 : 2 ^ 4 ≤ 2 ^ al.length := Nat.pow_le_pow_right (by decide) hal4
  have hp3 : 2 ^ al.length ≤ 2 ^ 5 := Nat.pow_le_pow_right (by decide) hal5
  refine ⟨_, rfl, _, rfl, _, rfl, hsz, _, _, rfl, rfl, ⟨by omega, by rw [tx_len]; omega, by decide⟩, _, _, rfl, rfl, g, _, rfl, b1, ?_, ?_, fun H2 e k2 b2 he => ⟨_, _, rfl, rfl, ?_⟩⟩
  · rw [tx_len, hp]
    omega
  · rw [tx_len, hp]
    omega
  dsimp only
  rw [tx_len, hp] at he
  have em : (1 : Int) + (e : Int) = ((e + 1 : Nat) : Int) := by omega
  rw [em]
  have hm : e + 1 < 2 ^ al.length := by omega
  refine ⟨⟨_, rfl⟩, _, rfl, _, rfl, hsz, _, rfl, by omega, by rw [tx_len]; omega, fun D hD => ?_⟩
  rw [tx_len, Int.toNat_natCast]
  have er : (List.range al.length).length = al.length := List.length_range
  have w' : Walk (Itr 0 al.length) (List.range al.length).length (fun _ => True) (YFn fun i => V.int (0 + (i : Int))) := by
    rw [er]
    exact walk_range
  refine lc_fm (List.range al.length) (mtake ((e + 1 : Nat) : Int)) (fun i => V.str (tx [al.getD i 0])) w' (Nat.lt_of_lt_of_le (by rw [er]; omega) sizeBig) hD (fun _ _ => trivial) (gm_name 3) (fun i a x Ha Hb hi e1 y => ?_) (fun H3 e3 d => ?_)
  · obtain ⟨e2, ex⟩ := y
    subst e2 ex
    have hlt : i < al.length := by have := (List.getElem?_eq_some_iff.mp hi).1; rw [er] at this; exact this
    have ea : a = i := by
      rw [List.getElem?_range hlt] at hi
      exact (Option.some.inj hi).symm
    subst ea
    refine ⟨rfl, Ext.rfl', fun R hR => ?_, fun hp H3 e3 Q3 q3 => ?_⟩
    · refine ⟨_, rfl, _, rfl, _, _, rfl, rfl, by show (0 : Int) ≤ 0 + (a : Int); omega, _, _, rfl, rfl, rfl, _, rfl, ?_⟩
      have z := hR Hb Ext.rfl'
      unfold mtake at z
      rw [show (a : Int) = (0 : Int) + (a : Int) by omega] at z
      exact z
    · refine ⟨_, rfl, _, rfl, _, _, al.getD a 0, rfl, rfl, hsz, ?_, q3 _ Ext.rfl'⟩
      show atI al ((0 : Int) + (a : Int)) = _
      rw [show (0 : Int) + (a : Int) = (a : Int) by omega]
      refine atI_nat ?_
      rw [List.getElem?_eq_getElem hlt, List.getD_eq_getElem?_getD, List.getElem?_eq_getElem hlt]
      rfl
  · have ed : ((List.range al.length).filter (mtake ((e + 1 : Nat) : Int))).map (fun i => V.str (tx [al.getD i 0])) = (msel (e + 1) al).map fun c => V.str (tx [c]) := by
      unfold msel
      rw [List.map_map]
      rfl
    rw [ed] at d
    have hlen : (msel (e + 1) al).length ≤ al.length := by
      unfold msel
      rw [List.length_map]
      exact Nat.le_trans (List.length_filter_le _ _) (by rw [er]; exact Nat.le_refl _)
    refine ⟨_, _, (msel (e + 1) al).map fun c => tx [c], rfl, rfl, .inl (sl (by rw [d, List.map_map]; rfl)), by rw [sum_signs, emp_tx, tx_len, List.length_nil]; omega, ?_⟩
    rw [emp_tx, join_signs]
    exact q H3 _ (k1.trans (k2.trans (Kp.of e3))) (b2.mono e3) (msel_ok hal (by omega) hm)
end
end OB
set_option Elab.async false
set_option linter.all false
set_option maxRecDepth 100000
set_option maxHeartbeats 4000000
namespace OB
open PySem PySem.Spec PySem.Calls PyProof.Rows L2 PySem.W StX
section
variable {P : Program} {w : World} {K : Frag} {mg : Str → Option Value} {base : Heap}
/- _law_edits: slots _law_bag_here=0 _law_found=1 _law_inserted=2 _law_deleted=3 _law_turn=4 _law_kind=5 -/
structure EdI (es : List Ed) (i ins del : Nat) : Prop where
  len : es.length ≤ i
  ok : ∀ e ∈ es, okEd e
  insE : (es.filter isIns).length = ins
  delE : (es.filter isDel).length = del
  ins1 : ins ≤ 1
  del2 : del ≤ 2
  brk : ∀ e ∈ es, isBrk e = false
theorem mem_snoc {α : Type} {P : α → Prop} {es : List α} {e : α} (h : ∀ x ∈ es, P x) (g : P e) : ∀ x ∈ es ++ [e], P x := fun x hx => by
  rcases List.mem_append.mp hx with hx | hx
  · exact h x hx
  · rw [List.mem_singleton.mp hx]; exact g
theorem filt_snoc (es : List Ed) (e : Ed) (p : Ed → Bool) : ((es ++ [e]).filter p).length = (es.filter p).length + (if p e = true then 1 else 0) := by
  rw [List.filter_append, List.length_append]
  congr 1
  by_cases c : p e = true <;> simp [c]
theorem EdI.snoc {es : List Ed} {i ins del : Nat} (h : EdI es i ins del) (e : Ed) (hb : isBrk e = false) (ho : okEd e) {ins' del' : Nat} (hi : ins' = ins + (if isIns e = true then 1 else 0)) (hd : del' = del + (if isDel e = true then 1 else 0)) (h1 : ins' ≤ 1) (h2 : del' ≤ 2) : EdI (es ++ [e]) (i + 1) ins' del' :=
  ⟨by rw [List.length_append]; have := h.len; simp; omega, mem_snoc h.ok ho, by rw [filt_snoc, h.insE, hi], by rw [filt_snoc, h.delE, hd], h1, h2, mem_snoc h.brk hb⟩
theorem EdI.more {es : List Ed} {i ins del : Nat} (h : EdI es i ins del) : EdI es (i + 1) ins del := ⟨Nat.le_succ_of_le h.len, h.ok, h.insE, h.delE, h.ins1, h.del2, h.brk⟩
theorem EdI.veds {es : List Ed} {i ins del : Nat} (h : EdI es i ins del) (hi : i ≤ 4) : VEds es :=
  ⟨h.ok, Nat.le_trans h.len hi, by rw [h.insE]; exact h.ins1, by rw [h.delE]; exact h.del2, fun a b e => by
    have := h.brk .brk (by rw [e]; simp)
    cases this⟩
theorem EdI.vbrk {es : List Ed} {i ins del : Nat} (h : EdI es i ins del) (hl : es.length < 4) : VEds (es ++ [.brk]) := by
  refine ⟨mem_snoc h.ok trivial, by rw [List.length_append]; exact hl, by rw [filt_snoc, h.insE]; exact h.ins1, by rw [filt_snoc, h.delE]; exact h.del2, fun a b e => ?_⟩
  rcases List.eq_nil_or_concat b with z | ⟨b0, x, z⟩
  · exact z
  · rw [z, List.concat_eq_append, ← List.append_assoc] at e
    have e2 := (List.append_inj' e rfl).1
    have := h.brk .brk (by rw [e2]; simp)
    cases this
/-- edits in a list at f -/
def EdsAt (H : Hp) (f : Addr) (es : List Ed) : Prop := ∃ vs, H f = some (.lst vs) ∧ Paired (IsEd H) vs es
theorem EdsAt.kp {M : List Addr} {H H' : Hp} {f : Addr} {es : List Ed} (h : EdsAt H f es) (k : Kp M H H') (hs : ∀ x ∈ M, Soft H x) (hf : f ∉ M) : EdsAt H' f es := by
  obtain ⟨vs, e, p⟩ := h
  exact ⟨vs, k _ _ e hf, paired_mono (fun _ _ z => IsEd.mono (k.kst hs).tk z) p⟩
theorem EdsAt.put {H : Hp} {f : Addr} {es : List Ed} {v : V} {e : Ed} (h : EdsAt H f es) (hv : IsEd H v e) : ∃ vs, H f = some (.lst vs) ∧ vs.length = es.length ∧ EdsAt (upd H f (.lst (vs ++ [v]))) f (es ++ [e]) := by
  obtain ⟨vs, e1, p⟩ := h
  have t : TK H (upd H f (.lst (vs ++ [v]))) := fun a xs hx => by rw [upd_ne (ne_of_at hx e1 (fun z => by cases z))]; exact hx
  exact ⟨vs, e1, p.length, _, upd_same, paired_snoc (hv.mono t) (paired_mono (fun _ _ z => IsEd.mono t z) p)⟩
theorem EdsAt.len {H : Hp} {f : Addr} {es : List Ed} (h : EdsAt H f es) : ∃ vs, H f = some (.lst vs) ∧ vs.length = es.length := by
  obtain ⟨vs, e1, p⟩ := h
  exact ⟨vs, e1, p.length⟩
theorem sgl {M : Hp} {g : Addr} (h : Soft M g) : ∀ x ∈ [g], Soft M x := fun x hx => by rw [List.mem_singleton.mp hx]; exact h
def sp_law_edits (_ : Frag) : Sp := fun vs H Q _ => ∃ g, vs = [.ref g] ∧ BagAt H g ∧ ∀ H' v es, Kp [g] H H' → BagAt H' g → IsEds H' v es → VEds es → Q v H'
def N_law_edits : List Str := ["_law_bag_here", "_law_found", "_law_inserted", "_law_deleted", "_law_turn", "_law_kind"]
theorem sc_law_edits : FnScope N_law_edits ["_law_bag_here"] (defScope s_law_edits) := ⟨rfl, rfl, rfl, by decide +kernel, rfl, by decide +kernel, by decide +kernel⟩
theorem ok_law_edits (T : Txt K mg w) : FnR P w K mg base CX0 2 (He.ga K "_law_edits") (sp_law_edits K) := by
  refine ok_of T.f_law_edits sc_law_edits (fun _ _ _ _ _ _ us hl => match us, hl with | [_], _ => rfl) (fun vs H Q E h => ?_) (fun cdv A outer s H vs Q E hr h => ?_)
  · repeat (first | (obtain ⟨rfl, _⟩ := h; rfl) | (obtain ⟨_, h⟩ := h))
  refine ⟨_, (pss_cons (ps_par3 (i := 1) (j := 2) (l := 3) rfl sc_law_edits.nd rfl rfl rfl (by decide) (by decide) (by decide) rfl rfl rfl (pa_cons (pe_lst pa_nil) (pa_cons pe_int (pa_cons pe_int pa_nil))) (by rfl))
    (pss_cons (ps_for PassesOwn.never rfl (pi_range1 rfl T.z_range (pa_cons (pe_f (ok_law_take T) T.g_law_take (kp_of T.f_law_take) (hr.mono (by decide)) pass0 (pa_cons (pv 0) (pa_cons pe_int pa_nil))) pa_nil)) (pg_name (i := 4) sc_law_edits.nd rfl (Or.inl rfl))
      (pss_cons (ps_set (i := 5) sc_law_edits.nd rfl (Or.inl rfl) (pe_f (ok_law_take T) T.g_law_take (kp_of T.f_law_take) (hr.mono (by decide)) pass0 (pa_cons (pv 0) (pa_cons pe_int pa_nil))))
      (pss_one (ps_if (pt_cmpR op_eq (pv 5) pe_int (nomark _))
        (pss_one (ps_expr (pe_bm PySem.F.plainAttrs_list PySem.F.slot_list_append PySem.F.type_list_append mt_append (pv 1) (pa_cons (pe_tup (pa_cons pe_str (pa_cons (pe_ix ix_str pe_str (pe_f (ok_law_take T) T.g_law_take (kp_of T.f_law_take) (hr.mono (by decide)) pass0 (pa_cons (pv 0) (pa_cons pe_int pa_nil))) (fun _ _ => rfl)) pa_nil))) pa_nil))))
        (pss_one (ps_if (pt_cmpR op_eq (pv 5) pe_int (nomark _))
          (pss_one (ps_expr (pe_bm PySem.F.plainAttrs_list PySem.F.slot_list_append PySem.F.type_list_append mt_append (pv 1) (pa_cons (pe_tup (pa_cons pe_str (pa_cons (pe_f (ok_law_take T) T.g_law_take (kp_of T.f_law_take) (hr.mono (by decide)) pass0 (pa_cons (pv 0) (pa_cons pe_int pa_nil))) pa_nil))) pa_nil))))
          (pss_one (ps_if (PW.pt (pw_and (pt_cmpR op_lt (pv 5) pe_int (nomark _)) (pw_and1 (pt_cmpR op_lt (pv 3) pe_int (nomark _)))))
            (pss_cons (ps_expr (pe_bm PySem.F.plainAttrs_list PySem.F.slot_list_append PySem.F.type_list_append mt_append (pv 1) (pa_cons (pe_ix ix_list (pe_lst (pa_cons (pe_tup (pa_cons pe_str pa_nil)) (pa_cons (pe_tup (pa_cons pe_str pa_nil)) pa_nil))) (pe_op op_sub (pv 5) pe_int) (fun _ _ => rfl)) pa_nil)))
            (pss_one (ps_set (i := 3) sc_law_edits.nd rfl (Or.inl rfl) (pe_op op_add (pv 3) pe_int))))
            (pss_one (ps_if (PW.pt (pw_and (pt_cmpR op_gt (pv 5) pe_int (nomark _)) (pw_and1 (pt_cmpR op_eq (pv 2) pe_int (nomark _)))))
              (pss_cons (ps_expr (pe_bm PySem.F.plainAttrs_list PySem.F.slot_list_append PySem.F.type_list_append mt_append (pv 1) (pa_cons (pe_tup (pa_cons (pe_ix ix_list (pe_lst (pa_cons pe_str (pa_cons pe_str pa_nil))) (pe_op op_sub (pv 5) pe_int) (fun _ _ => rfl)) (pa_cons (pe_ix ix_str pe_str (pe_f (ok_law_take T) T.g_law_take (kp_of T.f_law_take) (hr.mono (by decide)) pass0 (pa_cons (pv 0) (pa_cons pe_int pa_nil))) (fun _ _ => rfl)) pa_nil))) pa_nil)))
              (pss_one (ps_set (i := 2) sc_law_edits.nd rfl (Or.inl rfl) pe_int)))
              pss_nil))))))))))
    (pss_cons (ps_if (PW.pt (pw_and (pt_cmpR op_lt (pe_callB call_len_seq (by rfl) T.z_len boot_len (pa_cons (pv 1) pa_nil)) pe_int (nomark _)) (pw_and1 (pt_cmpR op_eq (pe_f (ok_law_take T) T.g_law_take (kp_of T.f_law_take) (hr.mono (by decide)) pass0 (pa_cons (pv 0) (pa_cons pe_int pa_nil))) pe_int (nomark _)))))
      (pss_one (ps_expr (pe_bm PySem.F.plainAttrs_list PySem.F.slot_list_append PySem.F.type_list_append mt_append (pv 1) (pa_cons (pe_tup (pa_cons pe_str pa_nil)) pa_nil))))
      pss_nil)
    (pss_one (ps_ret (pe_callTy call_tuple_of (by rfl) T.z_tuple boot_tuple (pa_cons (pv 1) pa_nil))))))), ?_⟩
  obtain ⟨g, rfl, hB, q⟩ := h
  refine ⟨sz2 (by simp), fun f hf => ⟨_, _, _, rfl, ?_⟩⟩
  have hfg : f ≠ g := hB.ne hf
  have E0 : Ext H (upd H f (.lst [])) := Ext.upd hf
  refine ⟨_, rfl, g, 5, rfl, hB.mono E0, by decide, by decide, fun H1 d k1 b1 hd => ⟨(d : Int), rfl, by omega, by omega, ?_⟩⟩
  rw [Int.toNat_natCast]
  have f1 : H1 f = some (.lst []) := k1 _ _ upd_same (nin1 hfg)
  refine for_range (fun i σ H' => ∃ es, ∃ ins del : Nat, ∃ x4 x5, σ = [some (.ref g), some (.ref f), some (.int (ins : Int)), some (.int (del : Int)), x4, x5] ∧ Kp [g] H H' ∧ BagAt H' g ∧ EdsAt H' f es ∧ EdI es i ins del)
    ⟨[], 0, 0, _, _, rfl, (Kp.of E0).trans k1, b1, ⟨[], f1, .nil⟩, ⟨Nat.le_refl _, (fun _ h => nomatch h), rfl, rfl, by decide, by decide, (fun _ h => nomatch h)⟩⟩ ?_ ?_
  · rintro i σ H2 hi ⟨es, ins, del, x4, x5, rfl, k2, b2, hE, I⟩
    have hi4 : i < 4 := by omega
    have hel := I.len
    refine ⟨_, rfl, g, 6, rfl, b2, by decide, by decide, fun H3 k k3 b3 hk => ?_⟩
    have hE3 := hE.kp k3 (sgl b2.soft) (nin1 hfg)
    have k23 := k2.trans k3
    -- an edit more
    have add : ∀ (H4 : Hp) (v : V) (e : Ed) (ins' del' : Nat), Kp [g] H H4 → BagAt H4 g → EdsAt H4 f es → IsEd H4 v e → EdI (es ++ [e]) (i + 1) ins' del' → ∃ vs, H4 f = some (.lst vs) ∧ vs.length < sizeLine ∧ Kp [g] H (upd H4 f (.lst (vs ++ [v]))) ∧ BagAt (upd H4 f (.lst (vs ++ [v]))) g ∧ EdsAt (upd H4 f (.lst (vs ++ [v]))) f (es ++ [e]) := by
      intro H4 v e ins' del' k4 b4 e4 hv _
      obtain ⟨vs, h1, h2, h3⟩ := e4.put hv
      exact ⟨vs, h1, Nat.lt_of_lt_of_le (by omega) sizeBig, kp_fresh k4 hf, b4.fresh hfg, h3⟩
    have hk6 : k < 6 := by omega
    match k, hk6 with
    | 0, _ =>
      refine ⟨_, rfl, rfl, _, rfl, if_t rfl ?_⟩
      obtain ⟨vs3, hv3, _⟩ := hE3.len
      refine ⟨_, rfl, tyL hv3, _, rfl, g, 4, rfl, b3, by decide, by decide, fun H4 e k4 b4 he => ?_⟩
      obtain ⟨c, hc, hat⟩ := letter_at he
      refine ⟨_, _, c, rfl, rfl, abcd_sz, hat, sz2 (by simp), fun p hp => ?_⟩
      rw [tx_one]
      have E5 := Ext.upd (o := .tup [.str "put", .str (tx [c])]) hp
      have hE5 := (hE3.kp k4 (sgl b3.soft) (nin1 hfg)).kp (Kp.of E5) (M := [g]) (sgl b4.soft) (nin1 hfg)
      obtain ⟨vs, h1, h2, h3, h4, h5⟩ := add _ (.ref p) (.put c) ins del ((k23.trans k4).trans (Kp.of E5)) (b4.mono E5) hE5 ⟨p, rfl, upd_same⟩ (I.snoc (.put c) rfl hc rfl rfl I.ins1 I.del2)
      exact ⟨_, _, _, rfl, rfl, h1, h2, es ++ [.put c], ins, del, _, _, rfl, h3, h4, h5, I.snoc (.put c) rfl hc rfl rfl I.ins1 I.del2⟩
    | 1, _ =>
      refine ⟨_, rfl, rfl, _, rfl, if_f rfl ?_⟩
      refine ⟨_, rfl, rfl, _, rfl, if_t rfl ?_⟩
      obtain ⟨vs3, hv3, _⟩ := hE3.len
      refine ⟨_, rfl, tyL hv3, _, rfl, g, 4, rfl, b3, by decide, by decide, fun H4 e k4 b4 he => ⟨sz2 (by simp), fun p hp => ?_⟩⟩
      have E5 := Ext.upd (o := .tup [.str "mark", .int (e : Int)]) hp
      have hE5 := (hE3.kp k4 (sgl b3.soft) (nin1 hfg)).kp (Kp.of E5) (M := [g]) (sgl b4.soft) (nin1 hfg)
      have hem : okEd (.mark e) := by show e < 4; omega
      obtain ⟨vs, h1, h2, h3, h4, h5⟩ := add _ (.ref p) (.mark e) ins del ((k23.trans k4).trans (Kp.of E5)) (b4.mono E5) hE5 ⟨p, rfl, upd_same⟩ (I.snoc (.mark e) rfl hem rfl rfl I.ins1 I.del2)
      exact ⟨_, _, _, rfl, rfl, h1, h2, es ++ [.mark e], ins, del, _, _, rfl, h3, h4, h5, I.snoc (.mark e) rfl hem rfl rfl I.ins1 I.del2⟩
    | 2, _ =>
      refine ⟨_, rfl, rfl, _, rfl, if_f rfl ?_⟩
      refine ⟨_, rfl, rfl, _, rfl, if_f rfl ?_⟩
      refine ⟨_, rfl, _, _, rfl, rfl, _, rfl, if_t rfl ?_⟩
      refine ⟨_, rfl, _, _, rfl, rfl, _, rfl, ?_⟩
      refine ifb (fun c => ?_) (fun c => ?_)
      · have c' := of_decide_eq_true c
        obtain ⟨vs3, hv3, _⟩ := hE3.len
        refine ⟨_, rfl, tyL hv3, sz2 (by simp), fun p1 hp1 => ⟨sz2 (by simp), fun p2 hp2 => ⟨sz2 (by simp), fun p3 hp3 => ?_⟩⟩⟩
        have n12 : p1 ≠ p2 := fun z => by rw [← z, upd_same] at hp2; cases hp2
        have n13 : p1 ≠ p3 := fun z => by rw [← z, upd_ne n12, upd_same] at hp3; cases hp3
        have E5 : Ext H3 (upd (upd (upd H3 p1 (.tup [.str "drop"])) p2 (.tup [.str "drop_next"])) p3 (.lst [.ref p1, .ref p2])) := ((Ext.upd hp1).trans (Ext.upd hp2)).trans (Ext.upd hp3)
        refine ⟨_, rfl, _, _, rfl, rfl, _, _, 0, .ref p1, rfl, rfl, sl upd_same, atI_nat (j := 0) rfl, ?_⟩
        have ho : EdI (es ++ [.drop]) (i + 1) ins (del + 1) := I.snoc .drop rfl trivial rfl rfl I.ins1 (by omega)
        obtain ⟨vs, h1, h2, h3, h4, h5⟩ := add _ (.ref p1) .drop ins (del + 1) (k23.trans (Kp.of E5)) (b3.mono E5) (hE3.kp (Kp.of E5) (M := [g]) (sgl b3.soft) (nin1 hfg)) ⟨p1, rfl, by rw [upd_ne n13, upd_ne n12]; exact upd_same⟩ ho
        refine ⟨_, _, _, rfl, rfl, h1, h2, ?_⟩
        refine ⟨_, rfl, _, _, rfl, rfl, ?_⟩
        exact ⟨es ++ [.drop], ins, del + 1, _, _, rfl, h3, h4, h5, ho⟩
      · refine ⟨_, rfl, _, _, rfl, rfl, _, rfl, if_f rfl (if_f rfl ?_)⟩
        exact ⟨es, ins, del, _, _, rfl, k23, b3, hE3, I.more⟩
    | 3, _ =>
      refine ⟨_, rfl, rfl, _, rfl, if_f rfl ?_⟩
      refine ⟨_, rfl, rfl, _, rfl, if_f rfl ?_⟩
      refine ⟨_, rfl, _, _, rfl, rfl, _, rfl, if_t rfl ?_⟩
      refine ⟨_, rfl, _, _, rfl, rfl, _, rfl, ?_⟩
      refine ifb (fun c => ?_) (fun c => ?_)
      · have c' := of_decide_eq_true c
        obtain ⟨vs3, hv3, _⟩ := hE3.len
        refine ⟨_, rfl, tyL hv3, sz2 (by simp), fun p1 hp1 => ⟨sz2 (by simp), fun p2 hp2 => ⟨sz2 (by simp), fun p3 hp3 => ?_⟩⟩⟩
        have n23 : p2 ≠ p3 := fun z => by rw [← z, upd_same] at hp3; cases hp3
        have E5 : Ext H3 (upd (upd (upd H3 p1 (.tup [.str "drop"])) p2 (.tup [.str "drop_next"])) p3 (.lst [.ref p1, .ref p2])) := ((Ext.upd hp1).trans (Ext.upd hp2)).trans (Ext.upd hp3)
        refine ⟨_, rfl, _, _, rfl, rfl, _, _, 1, .ref p2, rfl, rfl, sl upd_same, atI_nat (j := 1) rfl, ?_⟩
        have ho : EdI (es ++ [.dropNext]) (i + 1) ins (del + 1) := I.snoc .dropNext rfl trivial rfl rfl I.ins1 (by omega)
        obtain ⟨vs, h1, h2, h3, h4, h5⟩ := add _ (.ref p2) .dropNext ins (del + 1) (k23.trans (Kp.of E5)) (b3.mono E5) (hE3.kp (Kp.of E5) (M := [g]) (sgl b3.soft) (nin1 hfg)) ⟨p2, rfl, by rw [upd_ne n23]; exact upd_same⟩ ho
        refine ⟨_, _, _, rfl, rfl, h1, h2, ?_⟩
        refine ⟨_, rfl, _, _, rfl, rfl, ?_⟩
        exact ⟨es ++ [.dropNext], ins, del + 1, _, _, rfl, h3, h4, h5, ho⟩
      · refine ⟨_, rfl, _, _, rfl, rfl, _, rfl, if_f rfl (if_f rfl ?_)⟩
        exact ⟨es, ins, del, _, _, rfl, k23, b3, hE3, I.more⟩
    | 4, _ =>
      refine ⟨_, rfl, rfl, _, rfl, if_f rfl ?_⟩
      refine ⟨_, rfl, rfl, _, rfl, if_f rfl ?_⟩
      refine ⟨_, rfl, _, _, rfl, rfl, _, rfl, if_f rfl (if_f rfl ?_)⟩
      refine ⟨_, rfl, _, _, rfl, rfl, _, rfl, if_t rfl ?_⟩
      refine ⟨_, rfl, rfl, _, rfl, ?_⟩
      refine ifb (fun c => ?_) (fun c => ?_)
      · have c' : ins = 0 := by have := V.int.inj (of_decide_eq_true c); omega
        obtain ⟨vs3, hv3, _⟩ := hE3.len
        refine ⟨_, rfl, tyL hv3, sz2 (by simp), fun p1 hp1 => ?_⟩
        have E4 := Ext.upd (o := .lst [.str "before", .str "after"]) hp1
        refine ⟨_, rfl, _, _, rfl, rfl, _, _, 0, _, rfl, rfl, sl upd_same, atI_nat (j := 0) rfl, _, rfl, g, 4, rfl, b3.mono E4, by decide, by decide, fun H5 e k5 b5 he => ?_⟩
        obtain ⟨c, hc, hat⟩ := letter_at he
        refine ⟨_, _, c, rfl, rfl, abcd_sz, hat, sz2 (by simp), fun p hp => ?_⟩
        rw [tx_one]
        have E6 := Ext.upd (o := .tup [.str "before", .str (tx [c])]) hp
        have hE6 := ((hE3.kp (Kp.of E4) (M := [g]) (sgl b3.soft) (nin1 hfg)).kp k5 (sgl (b3.mono E4).soft) (nin1 hfg)).kp (Kp.of E6) (M := [g]) (sgl b5.soft) (nin1 hfg)
        have ho : EdI (es ++ [.before c]) (i + 1) 1 del := I.snoc (.before c) rfl hc (by rw [c']; rfl) rfl (Nat.le_refl _) I.del2
        obtain ⟨vs, h1, h2, h3, h4, h5⟩ := add _ (.ref p) (.before c) 1 del (((k23.trans (Kp.of E4)).trans k5).trans (Kp.of E6)) (b5.mono E6) hE6 ⟨p, rfl, upd_same⟩ ho
        refine ⟨_, _, _, rfl, rfl, h1, h2, ?_⟩
        exact ⟨es ++ [.before c], 1, del, _, _, rfl, h3, h4, h5, ho⟩
      · exact ⟨es, ins, del, _, _, rfl, k23, b3, hE3, I.more⟩
    | 5, _ =>
      refine ⟨_, rfl, rfl, _, rfl, if_f rfl ?_⟩
      refine ⟨_, rfl, rfl, _, rfl, if_f rfl ?_⟩
      refine ⟨_, rfl, _, _, rfl, rfl, _, rfl, if_f rfl (if_f rfl ?_)⟩
      refine ⟨_, rfl, _, _, rfl, rfl, _, rfl, if_t rfl ?_⟩
      refine ⟨_, rfl, rfl, _, rfl, ?_⟩
      refine ifb (fun c => ?_) (fun c => ?_)
      · have c' : ins = 0 := by have := V.int.inj (of_decide_eq_true c); omega
        obtain ⟨vs3, hv3, _⟩ := hE3.len
        refine ⟨_, rfl, tyL hv3, sz2 (by simp), fun p1 hp1 => ?_⟩
        have E4 := Ext.upd (o := .lst [.str "before", .str "after"]) hp1
        refine ⟨_, rfl, _, _, rfl, rfl, _, _, 1, _, rfl, rfl, sl upd_same, atI_nat (j := 1) rfl, _, rfl, g, 4, rfl, b3.mono E4, by decide, by decide, fun H5 e k5 b5 he => ?_⟩
        obtain ⟨c, hc, hat⟩ := letter_at he
        refine ⟨_, _, c, rfl, rfl, abcd_sz, hat, sz2 (by simp), fun p hp => ?_⟩
        rw [tx_one]
        have E6 := Ext.upd (o := .tup [.str "after", .str (tx [c])]) hp
        have hE6 := ((hE3.kp (Kp.of E4) (M := [g]) (sgl b3.soft) (nin1 hfg)).kp k5 (sgl (b3.mono E4).soft) (nin1 hfg)).kp (Kp.of E6) (M := [g]) (sgl b5.soft) (nin1 hfg)
        have ho : EdI (es ++ [.after c]) (i + 1) 1 del := I.snoc (.after c) rfl hc (by rw [c']; rfl) rfl (Nat.le_refl _) I.del2
        obtain ⟨vs, h1, h2, h3, h4, h5⟩ := add _ (.ref p) (.after c) 1 del (((k23.trans (Kp.of E4)).trans k5).trans (Kp.of E6)) (b5.mono E6) hE6 ⟨p, rfl, upd_same⟩ ho
        refine ⟨_, _, _, rfl, rfl, h1, h2, ?_⟩
        exact ⟨es ++ [.after c], 1, del, _, _, rfl, h3, h4, h5, ho⟩
      · exact ⟨es, ins, del, _, _, rfl, k23, b3, hE3, I.more⟩
  · rintro σ H2 ⟨es, ins, del, x4, x5, rfl, k2, b2, hE, I⟩
    have last : ∀ (H3 : Hp) (es' : List Ed) (x4 x5 : Option V), Kp [g] H H3 → BagAt H3 g → EdsAt H3 f es' → VEds es' → tRet (tCB (fun xs H Q => ∃ p ys, xs = [V.ref p] ∧ ((SqL K H p ys ∧ ∀ l, H l = none → Q (.ref l) (upd H l (.tup ys))) ∨ (SqT K H p ys ∧ Q (.ref p) H))) (tCons (tVar 1) tNil)) { nx := fun _ H' => Q .non H', rt := Q } [some (.ref g), some (.ref f), some (.int (ins : Int)), some (.int (del : Int)), x4, x5] H3 := by
      intro H3 es' x4 x5 k3 b3 ⟨vs, hv, hp⟩ hV
      refine ⟨_, rfl, _, _, rfl, .inl ⟨sl hv, fun l hl => ?_⟩⟩
      have E4 := Ext.upd (o := .tup vs) hl
      exact q _ _ es' (k3.trans (Kp.of E4)) (b3.mono E4) ⟨l, vs, rfl, upd_same, paired_mono (fun _ _ z => IsEd.mono (Ext.tk E4) z) hp⟩ hV
    obtain ⟨vs2, hv2, hvl⟩ := hE.len
    have hil := I.len
    refine ⟨_, rfl, _, _, rfl, .inl (sl hv2), _, _, rfl, rfl, _, rfl, ?_⟩
    refine ifb (fun c => ?_) (fun c => ?_)
    · have c' := of_decide_eq_true c
      refine ⟨_, rfl, g, 9, rfl, b2, by decide, by decide, fun H3 e k3 b3 he => ⟨rfl, _, rfl, ?_⟩⟩
      have hE3 := hE.kp k3 (sgl b2.soft) (nin1 hfg)
      refine ifb (fun c2 => ?_) (fun c2 => ?_)
      · obtain ⟨vs3, hv3, _⟩ := hE3.len
        refine ⟨_, rfl, tyL hv3, sz2 (by simp), fun p hp => ?_⟩
        have E4 := Ext.upd (o := .tup [.str "break"]) hp
        obtain ⟨vs, h1, h2, h3⟩ := (hE3.kp (Kp.of E4) (M := [g]) (sgl b3.soft) (nin1 hfg)).put (v := .ref p) (e := .brk) ⟨p, rfl, upd_same⟩
        refine ⟨_, _, _, rfl, rfl, h1, Nat.lt_of_lt_of_le (by omega) sizeBig, ?_⟩
        exact last _ _ _ _ (kp_fresh ((k2.trans k3).trans (Kp.of E4)) hf) ((b3.mono E4).fresh hfg) h3 (I.vbrk (by omega))
      · exact last _ _ _ _ (k2.trans k3) b3 hE3 (I.veds (by omega))
    · exact if_f rfl (last _ _ _ _ k2 b2 hE (I.veds (by omega)))
/- _law_loop: slots _law_bag_here=0 _law_most=1 _law_rules=2 _law_turn=3 _law_mark=4 _law_ends=5 -/
def RusAt (H : Hp) (f : Addr) (rs : List Ru) : Prop := ∃ vs, H f = some (.lst vs) ∧ Paired (IsRu H) vs rs
theorem RusAt.kp {M : List Addr} {H H' : Hp} {f : Addr} {rs : List Ru} (h : RusAt H f rs) (k : Kp M H H') (hs : ∀ x ∈ M, Soft H x) (hf : f ∉ M) : RusAt H' f rs := by
  obtain ⟨vs, e, p⟩ := h
  exact ⟨vs, k _ _ e hf, paired_mono (fun _ _ z => IsRu.mono (k.kst hs).tk z) p⟩
def sp_law_loop (_ : Frag) : Sp := fun vs H Q _ => ∃ g, vs = [.ref g, .int 5] ∧ BagAt H g ∧ ∀ H' v L, Kp [g] H H' → BagAt H' g → IsLo H' v L → VLo L → Q v H'
theorem mark_at {d : Nat} (h : (d : Int) < 6) : ∃ m : Option Nat, (∀ k, m = some k → k < 4) ∧ atI [V.non, .non, .int 0, .int 1, .int 2, .int 3] (d : Int) = some (mkV m) := by
  have h6 : d < 6 := by omega
  match d, h6 with
  | 0, _ => exact ⟨none, (fun _ h => by cases h), rfl⟩
  | 1, _ => exact ⟨none, (fun _ h => by cases h), rfl⟩
  | 2, _ => exact ⟨some 0, (fun _ h => by cases h; decide), rfl⟩
  | 3, _ => exact ⟨some 1, (fun _ h => by cases h; decide), rfl⟩
  | 4, _ => exact ⟨some 2, (fun _ h => by cases h; decide), rfl⟩
  | 5, _ => exact ⟨some 3, (fun _ h => by cases h; decide), rfl⟩
theorem end_at {d : Nat} (h : (d : Int) < 3) : ∃ t : List Nat, Letters t ∧ t.length ≤ 4 ∧ atI [V.str "a", .str "bc", .str "dddd"] (d : Int) = some (.str (tx t)) := by
  have h3 : d < 3 := by omega
  match d, h3 with
  | 0, _ => exact ⟨[97], (by intro c hc; simp at hc; simp [hc]), by decide, by show some (V.str "a") = _; rw [show ("a" : Str) = tx [97] by decide +kernel]⟩
  | 1, _ => exact ⟨[98, 99], (by intro c hc; simp at hc; rcases hc with e | e <;> simp [e]), by decide, by show some (V.str "bc") = _; rw [show ("bc" : Str) = tx [98, 99] by decide +kernel]⟩
  | 2, _ => exact ⟨[100, 100, 100, 100], (by intro c hc; simp at hc; simp [hc]), by decide, by show some (V.str "dddd") = _; rw [show ("dddd" : Str) = tx [100, 100, 100, 100] by decide +kernel]⟩
def N_law_loop : List Str := ["_law_bag_here", "_law_most", "_law_rules", "_law_turn", "_law_mark", "_law_ends"]
theorem sc_law_loop : FnScope N_law_loop ["_law_bag_here", "_law_most"] (defScope s_law_loop) := ⟨rfl, rfl, rfl, by decide +kernel, rfl, by decide +kernel, by decide +kernel⟩
theorem ok_law_loop (T : Txt K mg w) : FnR P w K mg base CX0 3 (He.ga K "_law_loop") (sp_law_loop K) := by
  refine ok_of T.f_law_loop sc_law_loop (fun _ _ _ _ _ _ us hl => match us, hl with | [_, _], _ => rfl) (fun vs H Q E h => ?_) (fun cdv A outer s H vs Q E hr h => ?_)
  · repeat (first | (obtain ⟨rfl, _⟩ := h; rfl) | (obtain ⟨_, h⟩ := h))
  refine ⟨_, (pss_cons (ps_set (i := 2) sc_law_loop.nd rfl (Or.inl rfl) (pe_lst pa_nil))
    (pss_cons (ps_for PassesOwn.never rfl (pi_range1 rfl T.z_range (pa_cons (pe_f (ok_law_take T) T.g_law_take (kp_of T.f_law_take) (hr.mono (by decide)) pass0 (pa_cons (pv 0) (pa_cons (pe_op op_add (pv 1) pe_int) pa_nil))) pa_nil)) (pg_name (i := 3) sc_law_loop.nd rfl (Or.inl rfl))
      (pss_cons (ps_set (i := 4) sc_law_loop.nd rfl (Or.inl rfl) (pe_ix ix_list (pe_lst (pa_cons pe_non (pa_cons pe_non (pa_cons pe_int (pa_cons pe_int (pa_cons pe_int (pa_cons pe_int pa_nil))))))) (pe_f (ok_law_take T) T.g_law_take (kp_of T.f_law_take) (hr.mono (by decide)) pass0 (pa_cons (pv 0) (pa_cons pe_int pa_nil))) (fun _ _ => rfl)))
      (pss_one (ps_expr (pe_bm PySem.F.plainAttrs_list PySem.F.slot_list_append PySem.F.type_list_append mt_append (pv 2) (pa_cons (pe_tup (pa_cons (pv 4) (pa_cons (pe_f (ok_law_selected T) T.g_law_selected (kp_of T.f_law_selected) (hr.mono (by decide)) pass0 (pa_cons (pv 0) (pa_cons pe_str pa_nil))) (pa_cons (pe_f (ok_law_selected T) T.g_law_selected (kp_of T.f_law_selected) (hr.mono (by decide)) pass0 (pa_cons (pv 0) (pa_cons pe_str pa_nil))) (pa_cons (pe_f (ok_law_edits T) T.g_law_edits (kp_of T.f_law_edits) (hr.mono (by decide)) pass0 (pa_cons (pv 0) pa_nil)) pa_nil))))) pa_nil))))))
    (pss_cons (ps_set (i := 5) sc_law_loop.nd rfl (Or.inl rfl) (pe_lst (pa_cons pe_str (pa_cons pe_str (pa_cons pe_str (pa_cons pe_str pa_nil))))))
    (pss_cons (ps_if (pt_cmpR op_eq (pe_f (ok_law_take T) T.g_law_take (kp_of T.f_law_take) (hr.mono (by decide)) pass0 (pa_cons (pv 0) (pa_cons pe_int pa_nil))) pe_int (nomark _))
      (pss_one (ps_asg (pe_ix ix_list (pe_lst (pa_cons pe_str (pa_cons pe_str (pa_cons pe_str pa_nil)))) (pe_f (ok_law_take T) T.g_law_take (kp_of T.f_law_take) (hr.mono (by decide)) pass0 (pa_cons (pv 0) (pa_cons pe_int pa_nil))) (fun _ _ => rfl)) (pg_sub (pv 5) (pe_f (ok_law_take T) T.g_law_take (kp_of T.f_law_take) (hr.mono (by decide)) pass0 (pa_cons (pv 0) (pa_cons pe_int pa_nil))) set_list)))
      pss_nil)
    (pss_one (ps_ret (pe_tup (pa_cons (pe_callTy call_tuple_of (by rfl) T.z_tuple boot_tuple (pa_cons (pv 2) pa_nil)) (pa_cons (pe_callTy call_tuple_of (by rfl) T.z_tuple boot_tuple (pa_cons (pv 5) pa_nil)) pa_nil))))))))), ?_⟩
  obtain ⟨g, rfl, hB, q⟩ := h
  refine ⟨sz2 (by simp), fun r hr0 => ?_⟩
  have hrg : r ≠ g := hB.ne hr0
  have E0 : Ext H (upd H r (.lst [])) := Ext.upd hr0
  refine ⟨_, rfl, _, rfl, _, _, rfl, rfl, g, 6, rfl, hB.mono E0, by decide, by decide, fun H1 d k1 b1 hd => ⟨(d : Int), rfl, by omega, by omega, ?_⟩⟩
  rw [Int.toNat_natCast]
  have r1 : H1 r = some (.lst []) := k1 _ _ upd_same (nin1 hrg)
  refine for_range (fun i σ H' => ∃ rs x3 x4 x5, σ = [some (.ref g), some (.int 5), some (.ref r), x3, x4, x5] ∧ Kp [g] H H' ∧ BagAt H' g ∧ RusAt H' r rs ∧ rs.length = i ∧ ∀ x ∈ rs, VRu x)
    ⟨[], _, _, _, rfl, (Kp.of E0).trans k1, b1, ⟨[], r1, .nil⟩, rfl, fun _ h => nomatch h⟩ ?_ ?_
  · rintro i σ H2 hi ⟨rs, x3, x4, x5, rfl, k2, b2, hR, hrl, hRV⟩
    refine ⟨sz2 (by simp), fun p1 hp1 => ?_⟩
    have E3 := Ext.upd (o := .lst [.non, .non, .int 0, .int 1, .int 2, .int 3]) hp1
    refine ⟨_, rfl, g, 6, rfl, b2.mono E3, by decide, by decide, fun H4 m k4 b4 hm => ?_⟩
    obtain ⟨mk, hmk, hat⟩ := mark_at hm
    have hp1g : p1 ≠ g := b2.ne hp1
    have hl4 : H4 p1 = some (.lst [.non, .non, .int 0, .int 1, .int 2, .int 3]) := k4 _ _ upd_same (nin1 hp1g)
    refine ⟨_, _, _, _, rfl, rfl, sl hl4, hat, ?_⟩
    have hR3 := hR.kp (Kp.of E3) (M := [g]) (sgl b2.soft) (nin1 hrg)
    have hR4 := hR3.kp k4 (sgl (b2.mono E3).soft) (nin1 hrg)
    obtain ⟨vs4, hv4, _⟩ := id hR4
    refine ⟨_, rfl, tyL hv4, _, rfl, _, rfl, g, abcd, by rw [← abcd_tx], b4, .inl rfl, fun H5 it k5 b5 hit => ?_⟩
    refine ⟨_, rfl, g, abcdE, by rw [← abcdE_tx], b5, .inr rfl, fun H6 nx k6 b6 hnx => ?_⟩
    refine ⟨_, rfl, g, rfl, b6, fun H7 ev es k7 b7 hes hVE => ⟨sz2 (by simp), fun p hp => ?_⟩⟩
    have E8 := Ext.upd (o := .tup [mkV mk, .str (tx it), .str (tx nx), ev]) hp
    have hR7 := ((hR4.kp k5 (sgl b4.soft) (nin1 hrg)).kp k6 (sgl b5.soft) (nin1 hrg)).kp k7 (sgl b6.soft) (nin1 hrg)
    obtain ⟨vs, hv, hpp⟩ := hR7.kp (Kp.of E8) (M := [g]) (sgl b7.soft) (nin1 hrg)
    have hvl := paired_len hpp
    have hru : IsRu (upd H7 p (.tup [mkV mk, .str (tx it), .str (tx nx), ev])) (.ref p) ⟨mk, it, nx, es⟩ := ⟨p, ev, rfl, upd_same, hes.mono (Ext.tk E8)⟩
    refine ⟨_, _, _, rfl, rfl, hv, Nat.lt_of_lt_of_le (by omega) sizeBig, ?_⟩
    have b8 := b7.mono E8
    have k8 : Kp [g] H (upd H7 p (.tup [mkV mk, .str (tx it), .str (tx nx), ev])) := (((((k2.trans (Kp.of E3)).trans k4).trans k5).trans k6).trans k7).trans (Kp.of E8)
    generalize upd H7 p (.tup [mkV mk, .str (tx it), .str (tx nx), ev]) = H8 at hv hpp hru b8 k8 ⊢
    have t : TK H8 (upd H8 r (.lst (vs ++ [.ref p]))) := fun a xs hx => by rw [upd_ne (ne_of_at hx hv (fun z => by cases z))]; exact hx
    refine ⟨rs ++ [⟨mk, it, nx, es⟩], _, _, _, rfl, kp_fresh k8 hr0, b8.fresh hrg, ⟨_, upd_same, paired_snoc (hru.mono t) (paired_mono (fun _ _ z => IsRu.mono t z) hpp)⟩, by rw [List.length_append, hrl]; rfl, mem_snoc hRV ⟨hmk, hit, hnx, hVE⟩⟩
  · rintro σ H2 ⟨rs, x3, x4, x5, rfl, k2, b2, hR, hrl, hRV⟩
    refine ⟨sz2 (by simp), fun e he => ?_⟩
    have heg : e ≠ g := b2.ne he
    have E3 := Ext.upd (o := .lst [.str "", .str "", .str "", .str ""]) he
    have her : e ≠ r := fun z => by obtain ⟨vs, hv, _⟩ := hR; rw [z, hv] at he; cases he
    have hR3 := hR.kp (Kp.of E3) (M := [g]) (sgl b2.soft) (nin1 hrg)
    have e3 : (upd H2 e (.lst [.str "", .str "", .str "", .str ""])) e = some (.lst (([[], [], [], []] : List (List Nat)).map fun t => .str (tx t))) := by rw [upd_same, emp_tx]; rfl
    have k3 := k2.trans (Kp.of E3)
    have b3 := b2.mono E3
    have he0 : H e = none ∨ e = r := by
      cases c : H e with
      | none => exact .inl rfl
      | some o =>
        have := k2 _ _ c (nin1 heg)
        rw [he] at this
        cases this
    have he0' : H e = none := he0.elim id fun z => absurd z her
    generalize upd H2 e (.lst [.str "", .str "", .str "", .str ""]) = H3 at hR3 e3 k3 b3 ⊢
    have last : ∀ (H4 : Hp) (en : List (List Nat)), Kp [g] H H4 → BagAt H4 g → RusAt H4 r rs → H4 e = some (.lst (en.map fun t => .str (tx t))) → en.length = 4 → (∀ x ∈ en, Letters x ∧ x.length ≤ 4) →
        tRet (tTup (tCons (tCB (fun xs H Q => ∃ p ys, xs = [V.ref p] ∧ ((SqL K H p ys ∧ ∀ l, H l = none → Q (.ref l) (upd H l (.tup ys))) ∨ (SqT K H p ys ∧ Q (.ref p) H))) (tCons (tVar 2) tNil)) (tCons (tCB (fun xs H Q => ∃ p ys, xs = [V.ref p] ∧ ((SqL K H p ys ∧ ∀ l, H l = none → Q (.ref l) (upd H l (.tup ys))) ∨ (SqT K H p ys ∧ Q (.ref p) H))) (tCons (tVar 5) tNil)) tNil))) { nx := fun _ H' => Q .non H', rt := Q } [some (.ref g), some (.int 5), some (.ref r), x3, x4, some (.ref e)] H4 := by
      intro H4 en k4 b4 ⟨vs, hv, hpp⟩ h4 hlen hen
      refine ⟨_, rfl, _, _, rfl, .inl ⟨sl hv, fun t1 ht1 => ?_⟩⟩
      have F1 := Ext.upd (o := .tup vs) ht1
      refine ⟨_, rfl, _, _, rfl, .inl ⟨sl (F1 _ _ h4), fun t2 ht2 => ⟨sz2 (by simp), fun t3 ht3 => ?_⟩⟩⟩
      have F2 := F1.trans (Ext.upd (o := .tup (en.map fun t => .str (tx t))) ht2)
      have F3 := F2.trans (Ext.upd (o := .tup [.ref t1, .ref t2]) ht3)
      have n12 : t1 ≠ t2 := fun z => by rw [← z, upd_same] at ht2; cases ht2
      have n13 : t1 ≠ t3 := fun z => by rw [← z, upd_ne n12, upd_same] at ht3; cases ht3
      have n23 : t2 ≠ t3 := fun z => by rw [← z, upd_same] at ht3; cases ht3
      refine q _ _ ⟨rs, en⟩ (k4.trans (Kp.of F3)) (b4.mono F3) ⟨t3, .ref t1, .ref t2, rfl, upd_same, ⟨t1, vs, rfl, by rw [upd_ne n13, upd_ne n12]; exact upd_same, paired_mono (fun _ _ z => IsRu.mono (Ext.tk F3) z) hpp⟩, ⟨t2, rfl, by rw [upd_ne n23]; exact upd_same⟩⟩ ⟨by dsimp only; omega, hRV, hlen, hen⟩
    refine ⟨_, rfl, g, 3, rfl, b3, by decide, by decide, fun H4 d1 k4 b4 hd1 => ⟨rfl, _, rfl, ?_⟩⟩
    have e4 := k4 _ _ e3 (nin1 heg)
    have hR4 := hR3.kp k4 (sgl b3.soft) (nin1 hrg)
    refine ifb (fun c => ?_) (fun c => ?_)
    · refine ⟨sz2 (by simp), fun p1 hp1 => ?_⟩
      have E5 := Ext.upd (o := .lst [.str "a", .str "bc", .str "dddd"]) hp1
      refine ⟨_, rfl, g, 3, rfl, b4.mono E5, by decide, by decide, fun H6 d2 k6 b6 hd2 => ?_⟩
      obtain ⟨t, ht, htl, hat⟩ := end_at hd2
      have hp1g : p1 ≠ g := b4.ne hp1
      have hl6 : H6 p1 = some (.lst [.str "a", .str "bc", .str "dddd"]) := k6 _ _ upd_same (nin1 hp1g)
      refine ⟨_, _, _, _, rfl, rfl, sl hl6, hat, ?_⟩
      refine ⟨_, rfl, _, rfl, g, 4, rfl, b6, by decide, by decide, fun H7 d3 k7 b7 hd3 => ?_⟩
      have e7 := k7 _ _ (k6 _ _ (E5 _ _ e4) (nin1 heg)) (nin1 heg)
      have hd34 : d3 < 4 := by omega
      refine ⟨_, _, _, d3, rfl, rfl, e7, Evl.ixN_nat (by simp; omega), ?_⟩
      have hR7 := ((hR4.kp (Kp.of E5) (M := [g]) (sgl b4.soft) (nin1 hrg)).kp k6 (sgl (b4.mono E5).soft) (nin1 hrg)).kp k7 (sgl b6.soft) (nin1 hrg)
      have k8 : Kp [e] H7 (upd H7 e (.lst ((([[], [], [], []] : List (List Nat)).map fun t => V.str (tx t)).set d3 (.str (tx t))))) := Kp.put (by simp)
      refine last _ (([[], [], [], []] : List (List Nat)).set d3 t) (kp_fresh (((k3.trans k4).trans (Kp.of E5)).trans (k6.trans k7)) he0') (b7.fresh heg) (hR7.kp k8 (sgl (.lst e7)) (nin1 her.symm)) ?_ (by rw [List.length_set]; rfl) (fun x hx => ?_)
      · rw [upd_same, List.map_set]
      · rcases List.mem_or_eq_of_mem_set hx with h | h
        · have : x = [] := by simpa using h
          rw [this]
          exact ⟨(fun _ h => nomatch h), Nat.zero_le _⟩
        · rw [h]
          exact ⟨ht, htl⟩
    · exact last H4 _ (k3.trans k4) b4 hR4 e4 rfl fun x hx => by
        have : x = [] := by simpa using hx
        rw [this]
        exact ⟨(fun _ h => nomatch h), Nat.zero_le _⟩
end
end OB
set_option Elab.async false
set_option linter.all false
set_option maxRecDepth 100000
set_option maxHeartbeats 4000000
namespace OB
open PySem PySem.Spec PySem.Calls PyProof.Rows L2 PySem.W StX
section
variable {P : Program} {w : World} {K : Frag} {mg : Str → Option Value} {base : Heap}
/- _law_edited: slots _law_edits_here=0 _law_items=1 _law_k=2 _law_mark=3 _law_edit=4 -/
def sp_law_edited (_ : Frag) : Sp := fun vs H Q _ => ∃ v b es, ∃ m : Nat, ∃ l, vs = [v, .ref b, .int 0, .int (m : Int)] ∧ IsEds H v es ∧ VEds es ∧ H b = some (.lst (signsV l)) ∧ l.length ≤ 50 ∧
  ∀ H' p, Kp [b] H H' → H' b = some (.lst (signsV (carry es (m, false, l)).2.2)) → H' p = some (.tup [.int ((carry es (m, false, l)).1 : Int), .bl (carry es (m, false, l)).2.1]) → Q (.ref p) H'
theorem VEds.last {es : List Ed} (h : VEds es) {i : Nat} (hi : es[i]? = some .brk) : es = es.take i ++ [.brk] := by
  have e : es = es.take i ++ [.brk] ++ es.drop (i + 1) := by
    rw [← take_more' hi, List.take_append_drop]
  have z := h.brk _ _ e
  rw [z, List.append_nil] at e
  exact e
def N_law_edited : List Str := ["_law_edits_here", "_law_items", "_law_k", "_law_mark", "_law_edit"]
theorem sc_law_edited : FnScope N_law_edited ["_law_edits_here", "_law_items", "_law_k", "_law_mark"] (defScope s_law_edited) := ⟨rfl, rfl, rfl, by decide +kernel, rfl, by decide +kernel, by decide +kernel⟩
theorem ok_law_edited (T : Txt K mg w) : FnR P w K mg base CX0 1 (He.ga K "_law_edited") (sp_law_edited K) := by
  refine ok_of T.f_law_edited sc_law_edited (fun _ _ _ _ _ _ us hl => match us, hl with | [_, _, _, _], _ => rfl) (fun vs H Q E h => ?_) (fun cdv A outer s H vs Q E hr h => ?_)
  · repeat (first | (obtain ⟨rfl, _⟩ := h; rfl) | (obtain ⟨_, h⟩ := h))
  refine ⟨_, (pss_cons (ps_for PassesOwn.never rfl (pi_tup (pv 0)) (pg_name (i := 4) sc_law_edited.nd rfl (Or.inl rfl))
      (pss_one (ps_if (PW.pt (pw_and (pt_cmpR op_eq (pe_ix ix_tup (pv 4) pe_int (fun _ _ => rfl)) pe_str (nomark _)) (pw_and1 (pt_cmpR op_lt (pv 2) (pe_callB call_len_seq (by rfl) T.z_len boot_len (pa_cons (pv 1) pa_nil)) (nomark _)))))
        (pss_one (ps_asg (pe_ix ix_tup (pv 4) pe_int (fun _ _ => rfl)) (pg_sub (pv 1) (pv 2) set_list)))
        (pss_one (ps_if (PW.pt (pw_and (pt_cmpR op_eq (pe_ix ix_tup (pv 4) pe_int (fun _ _ => rfl)) pe_str (nomark _)) (pw_and1 (pt_cmpR op_lt (pv 2) (pe_callB call_len_seq (by rfl) T.z_len boot_len (pa_cons (pv 1) pa_nil)) (nomark _)))))
          (pss_one (ps_expr (pe_bm PySem.F.plainAttrs_list PySem.F.slot_list_pop PySem.F.type_list_pop mt_popAt (pv 1) (pa_cons (pv 2) pa_nil))))
          (pss_one (ps_if (PW.pt (pw_and (pt_cmpR op_eq (pe_ix ix_tup (pv 4) pe_int (fun _ _ => rfl)) pe_str (nomark _)) (pw_and1 (pt_cmpR op_lt (pe_op op_add (pv 2) pe_int) (pe_callB call_len_seq (by rfl) T.z_len boot_len (pa_cons (pv 1) pa_nil)) (nomark _)))))
            (pss_one (ps_expr (pe_bm PySem.F.plainAttrs_list PySem.F.slot_list_pop PySem.F.type_list_pop mt_popAt (pv 1) (pa_cons (pe_op op_add (pv 2) pe_int) pa_nil))))
            (pss_one (ps_if (pt_cmpR op_eq (pe_ix ix_tup (pv 4) pe_int (fun _ _ => rfl)) pe_str (nomark _))
              (pss_one (ps_expr (pe_bm PySem.F.plainAttrs_list PySem.F.slot_list_insert PySem.F.type_list_insert mt_insert (pv 1) (pa_cons (pv 2) (pa_cons (pe_ix ix_tup (pv 4) pe_int (fun _ _ => rfl)) pa_nil)))))
              (pss_one (ps_if (pt_cmpR op_eq (pe_ix ix_tup (pv 4) pe_int (fun _ _ => rfl)) pe_str (nomark _))
                (pss_one (ps_expr (pe_bm PySem.F.plainAttrs_list PySem.F.slot_list_insert PySem.F.type_list_insert mt_insert (pv 1) (pa_cons (pe_op op_add (pv 2) pe_int) (pa_cons (pe_ix ix_tup (pv 4) pe_int (fun _ _ => rfl)) pa_nil)))))
                (pss_one (ps_if (pt_cmpR op_eq (pe_ix ix_tup (pv 4) pe_int (fun _ _ => rfl)) pe_str (nomark _))
                  (pss_one (ps_set (i := 3) sc_law_edited.nd rfl (Or.inl rfl) (pe_ix ix_tup (pv 4) pe_int (fun _ _ => rfl))))
                  (pss_one (ps_if (pt_cmpR op_eq (pe_ix ix_tup (pv 4) pe_int (fun _ _ => rfl)) pe_str (nomark _))
                    (pss_one (ps_ret (pe_tup (pa_cons (pv 3) (pa_cons pe_bl pa_nil)))))
                    pss_nil)))))))))))))))
    (pss_one (ps_ret (pe_tup (pa_cons (pv 3) (pa_cons pe_bl pa_nil)))))), ?_⟩
  obtain ⟨v, b, es, m, l, rfl, ⟨ea, xs, rfl, hT, hP⟩, hV, hb, h50, q⟩ := h
  have hl := paired_len hP
  have heb : ea ≠ b := ne_of_at hT hb (fun z => by cases z)
  have hV4 := hV.len
  refine ⟨_, rfl, _, rfl, ⟨_, sq hT⟩, for_tup (xs := xs) (fun i σ H' => ∃ x4, σ = [some (.ref ea), some (.ref b), some (.int 0), some (.int ((carry (es.take i) (m, false, l)).1 : Int)), x4] ∧ Kp [b] H H' ∧ H' b = some (.lst (signsV (carry (es.take i) (m, false, l)).2.2)) ∧ (carry (es.take i) (m, false, l)).2.1 = false) ⟨_, rfl, Kp.rfl', hb, rfl⟩
    (fun i σ H' _ ⟨_, _, k, _⟩ => sq (k _ _ hT (nin1 heb))) ?_ ?_⟩
  · rintro i x σ H1 hi ⟨x4, rfl, k1, b1, br⟩
    obtain ⟨e, he, ⟨xa, rfl, hx⟩⟩ := paired_at hP hi
    have hxb : xa ≠ b := ne_of_at hx hb (fun z => by cases z)
    have hx1 : H1 xa = some (.tup (edV e)) := k1 _ _ hx (nin1 hxb)
    have cs : carry (es.take (i + 1)) (m, false, l) = one (carry (es.take i) (m, false, l)) e := by rw [take_more' he, carry_snoc]
    have hlt : i < es.length := (List.getElem?_eq_some_iff.mp he).1
    have hlen := carry_len (es.take i) (m, false, l)
    have hlen' : (carry (es.take i) (m, false, l)).2.2.length ≤ 54 := by
      have z := List.length_take_le i es
      have : (m, false, l).2.2.length = l.length := rfl
      omega
    have hbrk : e = .brk → carry es (m, false, l) = one (carry (es.take i) (m, false, l)) .brk := fun z => by
      rw [z] at he
      have := hV.last he
      conv => lhs; rw [this]
      rw [carry_snoc]
    generalize carry (es.take i) (m, false, l) = s0 at cs b1 hlen' br hbrk
    rw [cs]
    obtain ⟨m0, br0, l0⟩ := s0
    dsimp only at b1 hlen' br
    subst br
    have z0 : atI (edV e) 0 = some (.str (wd e)) := by rw [edV_eq]; exact atI_nat (j := 0) rfl
    have hsz : l0.length < sizeLine := Nat.lt_of_lt_of_le (by omega) sizeBig
    have fin : ∀ ys, ys = signsV (app e l0) → plain e = true → ∃ x4, [some (V.ref ea), some (.ref b), some (.int 0), some (.int (m0 : Int)), some (.ref xa)] = [some (.ref ea), some (.ref b), some (.int 0), some (.int ((one (m0, false, l0) e).1 : Int)), x4] ∧ Kp [b] H (upd H1 b (.lst ys)) ∧ (upd H1 b (.lst ys)) b = some (.lst (signsV (one (m0, false, l0) e).2.2)) ∧ (one (m0, false, l0) e).2.1 = false := fun ys z hp => by
      have o : one (m0, false, l0) e = (m0, false, app e l0) := by cases e <;> first | rfl | cases hp
      rw [o]
      exact ⟨_, rfl, k1.trans (Kp.put (by simp)), by rw [upd_same, z], rfl⟩
    have fin0 : app e l0 = l0 → plain e = true → ∃ x4, [some (V.ref ea), some (.ref b), some (.int 0), some (.int (m0 : Int)), some (.ref xa)] = [some (.ref ea), some (.ref b), some (.int 0), some (.int ((one (m0, false, l0) e).1 : Int)), x4] ∧ Kp [b] H H1 ∧ H1 b = some (.lst (signsV (one (m0, false, l0) e).2.2)) ∧ (one (m0, false, l0) e).2.1 = false := fun z hp => by
      have o : one (m0, false, l0) e = (m0, false, app e l0) := by cases e <;> first | rfl | cases hp
      rw [o]
      exact ⟨_, rfl, k1, by rw [z]; exact b1, rfl⟩
    cases e with
    | put c =>
      refine ⟨_, rfl, _, _, 0, _, rfl, rfl, sq hx1, z0, rfl, _, rfl, if_t (by show decide (V.str "put" = V.str "put") = true; decide +kernel) ?_⟩
      refine ⟨_, rfl, _, rfl, _, _, rfl, .inl (sl b1), _, _, rfl, rfl, _, rfl, ?_⟩
      refine ifb (fun c1 => ?_) (fun c1 => ?_)
      · have hp := of_decide_eq_true c1
        refine ⟨_, rfl, _, _, 1, _, rfl, rfl, sq hx1, atI_nat (j := 1) rfl, _, rfl, _, rfl, _, _, 0, 0, rfl, rfl, b1, Evl.ixN_nat (n := (signsV l0).length) (j := 0) (by omega), ?_⟩
        exact fin _ (sg_set _ _ _) rfl
      · have hp := of_decide_eq_false c1
        rw [sg_len] at hp
        refine ⟨_, rfl, _, _, 0, _, rfl, rfl, sq hx1, z0, rfl, _, rfl, if_f (by show decide (V.str "put" = V.str "drop") = false; decide +kernel) (if_f rfl ?_)⟩
        refine ⟨_, rfl, _, _, 0, _, rfl, rfl, sq hx1, z0, rfl, _, rfl, if_f (by show decide (V.str "put" = V.str "drop_next") = false; decide +kernel) (if_f rfl ?_)⟩
        refine ⟨_, rfl, _, _, 0, _, rfl, rfl, sq hx1, z0, rfl, _, rfl, if_f (by show decide (V.str "put" = V.str "before") = false; decide +kernel) ?_⟩
        refine ⟨_, rfl, _, _, 0, _, rfl, rfl, sq hx1, z0, rfl, _, rfl, if_f (by show decide (V.str "put" = V.str "after") = false; decide +kernel) ?_⟩
        refine ⟨_, rfl, _, _, 0, _, rfl, rfl, sq hx1, z0, rfl, _, rfl, if_f (by show decide (V.str "put" = V.str "mark") = false; decide +kernel) ?_⟩
        refine ⟨_, rfl, _, _, 0, _, rfl, rfl, sq hx1, z0, rfl, _, rfl, if_f (by show decide (V.str "put" = V.str "break") = false; decide +kernel) ?_⟩
        exact fin0 (by have : l0 = [] := List.eq_nil_of_length_eq_zero (by omega); rw [this]; rfl) rfl
    | drop =>
      refine ⟨_, rfl, _, _, 0, _, rfl, rfl, sq hx1, z0, rfl, _, rfl, if_f (by show decide (V.str "drop" = V.str "put") = false; decide +kernel) (if_f rfl ?_)⟩
      refine ⟨_, rfl, _, _, 0, _, rfl, rfl, sq hx1, z0, rfl, _, rfl, if_t (by show decide (V.str "drop" = V.str "drop") = true; decide +kernel) ?_⟩
      refine ⟨_, rfl, _, rfl, _, _, rfl, .inl (sl b1), _, _, rfl, rfl, _, rfl, ?_⟩
      refine ifb (fun c1 => ?_) (fun c1 => ?_)
      · have hp := of_decide_eq_true c1
        rw [sg_len] at hp
        have hg : (signsV l0)[0]? = some (.str (tx [l0[0]])) := sg_at _ _ _ (List.getElem?_eq_getElem (by omega))
        refine ⟨_, rfl, tyL b1, _, rfl, _, _, 0, 0, _, rfl, rfl, b1, by decide, by decide, (ixN_seq (Evl.ixN_nat (n := (signsV l0).length) (j := 0) (by rw [sg_len]; omega))).1, hg, ?_⟩
        exact fin _ (sg_erase l0 0) rfl
      · have hp := of_decide_eq_false c1
        rw [sg_len] at hp
        refine ⟨_, rfl, _, _, 0, _, rfl, rfl, sq hx1, z0, rfl, _, rfl, if_f (by show decide (V.str "drop" = V.str "drop_next") = false; decide +kernel) (if_f rfl ?_)⟩
        refine ⟨_, rfl, _, _, 0, _, rfl, rfl, sq hx1, z0, rfl, _, rfl, if_f (by show decide (V.str "drop" = V.str "before") = false; decide +kernel) ?_⟩
        refine ⟨_, rfl, _, _, 0, _, rfl, rfl, sq hx1, z0, rfl, _, rfl, if_f (by show decide (V.str "drop" = V.str "after") = false; decide +kernel) ?_⟩
        refine ⟨_, rfl, _, _, 0, _, rfl, rfl, sq hx1, z0, rfl, _, rfl, if_f (by show decide (V.str "drop" = V.str "mark") = false; decide +kernel) ?_⟩
        refine ⟨_, rfl, _, _, 0, _, rfl, rfl, sq hx1, z0, rfl, _, rfl, if_f (by show decide (V.str "drop" = V.str "break") = false; decide +kernel) ?_⟩
        exact fin0 (by have : l0 = [] := List.eq_nil_of_length_eq_zero (by omega); rw [this]; rfl) rfl
    | dropNext =>
      refine ⟨_, rfl, _, _, 0, _, rfl, rfl, sq hx1, z0, rfl, _, rfl, if_f (by show decide (V.str "drop_next" = V.str "put") = false; decide +kernel) (if_f rfl ?_)⟩
      refine ⟨_, rfl, _, _, 0, _, rfl, rfl, sq hx1, z0, rfl, _, rfl, if_f (by show decide (V.str "drop_next" = V.str "drop") = false; decide +kernel) (if_f rfl ?_)⟩
      refine ⟨_, rfl, _, _, 0, _, rfl, rfl, sq hx1, z0, rfl, _, rfl, if_t (by show decide (V.str "drop_next" = V.str "drop_next") = true; decide +kernel) ?_⟩
      refine ⟨_, rfl, _, _, rfl, rfl, _, rfl, _, _, rfl, .inl (sl b1), _, _, rfl, rfl, _, rfl, ?_⟩
      refine ifb (fun c1 => ?_) (fun c1 => ?_)
      · have hp := of_decide_eq_true c1
        rw [sg_len] at hp
        have hg : (signsV l0)[1]? = some (.str (tx [l0[1]])) := sg_at _ _ _ (List.getElem?_eq_getElem (by omega))
        refine ⟨_, rfl, tyL b1, _, rfl, _, _, rfl, rfl, _, _, 1, 1, _, rfl, rfl, b1, by decide, by decide, (ixN_seq (Evl.ixN_nat (n := (signsV l0).length) (j := 1) (by rw [sg_len]; omega))).1, hg, ?_⟩
        exact fin _ (sg_erase l0 1) rfl
      · have hp := of_decide_eq_false c1
        rw [sg_len] at hp
        refine ⟨_, rfl, _, _, 0, _, rfl, rfl, sq hx1, z0, rfl, _, rfl, if_f (by show decide (V.str "drop_next" = V.str "before") = false; decide +kernel) ?_⟩
        refine ⟨_, rfl, _, _, 0, _, rfl, rfl, sq hx1, z0, rfl, _, rfl, if_f (by show decide (V.str "drop_next" = V.str "after") = false; decide +kernel) ?_⟩
        refine ⟨_, rfl, _, _, 0, _, rfl, rfl, sq hx1, z0, rfl, _, rfl, if_f (by show decide (V.str "drop_next" = V.str "mark") = false; decide +kernel) ?_⟩
        refine ⟨_, rfl, _, _, 0, _, rfl, rfl, sq hx1, z0, rfl, _, rfl, if_f (by show decide (V.str "drop_next" = V.str "break") = false; decide +kernel) ?_⟩
        exact fin0 (List.eraseIdx_of_length_le (by omega)) rfl
    | before c =>
      refine ⟨_, rfl, _, _, 0, _, rfl, rfl, sq hx1, z0, rfl, _, rfl, if_f (by show decide (V.str "before" = V.str "put") = false; decide +kernel) (if_f rfl ?_)⟩
      refine ⟨_, rfl, _, _, 0, _, rfl, rfl, sq hx1, z0, rfl, _, rfl, if_f (by show decide (V.str "before" = V.str "drop") = false; decide +kernel) (if_f rfl ?_)⟩
      refine ⟨_, rfl, _, _, 0, _, rfl, rfl, sq hx1, z0, rfl, _, rfl, if_f (by show decide (V.str "before" = V.str "drop_next") = false; decide +kernel) (if_f rfl ?_)⟩
      refine ⟨_, rfl, _, _, 0, _, rfl, rfl, sq hx1, z0, rfl, _, rfl, if_t (by show decide (V.str "before" = V.str "before") = true; decide +kernel) ?_⟩
      refine ⟨_, rfl, tyL b1, _, rfl, _, rfl, _, _, 1, _, rfl, rfl, sq hx1, atI_nat (j := 1) rfl, _, _, 0, _, rfl, rfl, b1, by rw [sg_len]; exact hsz, by decide, by decide, ?_⟩
      exact fin _ rfl rfl
    | after c =>
      refine ⟨_, rfl, _, _, 0, _, rfl, rfl, sq hx1, z0, rfl, _, rfl, if_f (by show decide (V.str "after" = V.str "put") = false; decide +kernel) (if_f rfl ?_)⟩
      refine ⟨_, rfl, _, _, 0, _, rfl, rfl, sq hx1, z0, rfl, _, rfl, if_f (by show decide (V.str "after" = V.str "drop") = false; decide +kernel) (if_f rfl ?_)⟩
      refine ⟨_, rfl, _, _, 0, _, rfl, rfl, sq hx1, z0, rfl, _, rfl, if_f (by show decide (V.str "after" = V.str "drop_next") = false; decide +kernel) (if_f rfl ?_)⟩
      refine ⟨_, rfl, _, _, 0, _, rfl, rfl, sq hx1, z0, rfl, _, rfl, if_f (by show decide (V.str "after" = V.str "before") = false; decide +kernel) ?_⟩
      refine ⟨_, rfl, _, _, 0, _, rfl, rfl, sq hx1, z0, rfl, _, rfl, if_t (by show decide (V.str "after" = V.str "after") = true; decide +kernel) ?_⟩
      refine ⟨_, rfl, tyL b1, _, rfl, _, _, rfl, rfl, _, rfl, _, _, 1, _, rfl, rfl, sq hx1, atI_nat (j := 1) rfl, _, _, 1, _, rfl, rfl, b1, by rw [sg_len]; exact hsz, by decide, by decide, ?_⟩
      refine fin _ ?_ rfl
      show (signsV l0).take 1 ++ [.str (tx [c])] ++ (signsV l0).drop 1 = _
      rw [sg_take, sg_drop, show [V.str (tx [c])] = signsV [c] from rfl, sg_app, sg_app]
      rfl
    | mark m' =>
      refine ⟨_, rfl, _, _, 0, _, rfl, rfl, sq hx1, z0, rfl, _, rfl, if_f (by show decide (V.str "mark" = V.str "put") = false; decide +kernel) (if_f rfl ?_)⟩
      refine ⟨_, rfl, _, _, 0, _, rfl, rfl, sq hx1, z0, rfl, _, rfl, if_f (by show decide (V.str "mark" = V.str "drop") = false; decide +kernel) (if_f rfl ?_)⟩
      refine ⟨_, rfl, _, _, 0, _, rfl, rfl, sq hx1, z0, rfl, _, rfl, if_f (by show decide (V.str "mark" = V.str "drop_next") = false; decide +kernel) (if_f rfl ?_)⟩
      refine ⟨_, rfl, _, _, 0, _, rfl, rfl, sq hx1, z0, rfl, _, rfl, if_f (by show decide (V.str "mark" = V.str "before") = false; decide +kernel) ?_⟩
      refine ⟨_, rfl, _, _, 0, _, rfl, rfl, sq hx1, z0, rfl, _, rfl, if_f (by show decide (V.str "mark" = V.str "after") = false; decide +kernel) ?_⟩
      refine ⟨_, rfl, _, _, 0, _, rfl, rfl, sq hx1, z0, rfl, _, rfl, if_t (by show decide (V.str "mark" = V.str "mark") = true; decide +kernel) ?_⟩
      refine ⟨_, rfl, _, _, 1, .int (m' : Int), rfl, rfl, sq hx1, atI_nat (j := 1) rfl, ?_⟩
      exact ⟨_, rfl, k1, b1, rfl⟩
    | brk =>
      refine ⟨_, rfl, _, _, 0, _, rfl, rfl, sq hx1, z0, rfl, _, rfl, if_f (by show decide (V.str "break" = V.str "put") = false; decide +kernel) (if_f rfl ?_)⟩
      refine ⟨_, rfl, _, _, 0, _, rfl, rfl, sq hx1, z0, rfl, _, rfl, if_f (by show decide (V.str "break" = V.str "drop") = false; decide +kernel) (if_f rfl ?_)⟩
      refine ⟨_, rfl, _, _, 0, _, rfl, rfl, sq hx1, z0, rfl, _, rfl, if_f (by show decide (V.str "break" = V.str "drop_next") = false; decide +kernel) (if_f rfl ?_)⟩
      refine ⟨_, rfl, _, _, 0, _, rfl, rfl, sq hx1, z0, rfl, _, rfl, if_f (by show decide (V.str "break" = V.str "before") = false; decide +kernel) ?_⟩
      refine ⟨_, rfl, _, _, 0, _, rfl, rfl, sq hx1, z0, rfl, _, rfl, if_f (by show decide (V.str "break" = V.str "after") = false; decide +kernel) ?_⟩
      refine ⟨_, rfl, _, _, 0, _, rfl, rfl, sq hx1, z0, rfl, _, rfl, if_f (by show decide (V.str "break" = V.str "mark") = false; decide +kernel) ?_⟩
      refine ⟨_, rfl, _, _, 0, _, rfl, rfl, sq hx1, z0, rfl, _, rfl, if_t (by show decide (V.str "break" = V.str "break") = true; decide +kernel) ?_⟩
      refine ⟨_, rfl, sz2 (by simp), fun p hp => ?_⟩
      have hc := hbrk rfl
      rw [hc] at q
      have hpb : p ≠ b := fun z => by rw [z, b1] at hp; cases hp
      exact q _ p (k1.trans (Kp.new hp)) (by rw [upd_ne hpb.symm]; exact b1) upd_same
  · rintro σ H1 ⟨x4, rfl, k1, b1, br⟩
    rw [hl, List.take_length] at b1 br ⊢
    refine ⟨_, rfl, sz2 (by simp), fun p hp => ?_⟩
    have hpb : p ≠ b := fun z => by rw [z, b1] at hp; cases hp
    refine q _ p (k1.trans (Kp.new hp)) (by rw [upd_ne hpb.symm]; exact b1) ?_
    rw [br]
    exact upd_same
end
end OB
set_option Elab.async false
set_option linter.all false
set_option maxRecDepth 100000
set_option maxHeartbeats 4000000
namespace OB
open PySem PySem.Spec PySem.Calls PyProof.Rows L2 PySem.W StX
section
variable {P : Program} {w : World} {K : Frag} {mg : Str → Option Value} {base : Heap}
/- _law_passed: slots _law_loop_here=0 _law_items=1 _law_k=2 _law_mark=3 _law_following=4 _law_wanted=5 _law_some=6 _law_nexts=7 _law_edits_here=8 -/
def sp_law_passed (_ : Frag) : Sp := fun vs H Q _ => ∃ lv b L, ∃ m c : Nat, ∃ t, vs = [lv, .ref b, .int 0, .int (m : Int)] ∧ IsLo H lv L ∧ VLo L ∧ H b = some (.lst (signsV (c :: t))) ∧ t.length ≤ 20 ∧
  ∀ H' p, Kp [b] H H' → H' b = some (.lst (signsV (passR L.rules m (c :: t)).2.2)) → H' p = some (.tup [.int ((passR L.rules m (c :: t)).1 : Int), .bl (passR L.rules m (c :: t)).2.1]) → Q (.ref p) H'
def N_law_passed : List Str := ["_law_loop_here", "_law_items", "_law_k", "_law_mark", "_law_following", "_law_wanted", "_law_some", "_law_nexts", "_law_edits_here"]
theorem sc_law_passed : FnScope N_law_passed ["_law_loop_here", "_law_items", "_law_k", "_law_mark"] (defScope s_law_passed) := ⟨rfl, rfl, rfl, by decide +kernel, rfl, by decide +kernel, by decide +kernel⟩
theorem ok_law_passed (T : Txt K mg w) : FnR P w K mg base CX0 2 (He.ga K "_law_passed") (sp_law_passed K) := by
  refine ok_of T.f_law_passed sc_law_passed (fun _ _ _ _ _ _ us hl => match us, hl with | [_, _, _, _], _ => rfl) (fun vs H Q E h => ?_) (fun cdv A outer s H vs Q E hr h => ?_)
  · repeat (first | (obtain ⟨rfl, _⟩ := h; rfl) | (obtain ⟨_, h⟩ := h))
  refine ⟨_, (pss_cons (ps_set (i := 4) sc_law_passed.nd rfl (Or.inl rfl) (pe_ifExp (pt_cmpR op_lt (pe_op op_add (pv 2) pe_int) (pe_callB call_len_seq (by rfl) T.z_len boot_len (pa_cons (pv 1) pa_nil)) (nomark _)) (pe_ix ix_list (pv 1) (pe_op op_add (pv 2) pe_int) (fun _ _ => rfl)) pe_str))
    (pss_cons (ps_for PassesOwn.never rfl (pi_tup (pe_ix ix_tup (pv 0) pe_int (fun _ _ => rfl))) (pg_tup rfl (pgs_cons (pg_name (i := 5) sc_law_passed.nd rfl (Or.inl rfl)) (pgs_cons (pg_name (i := 6) sc_law_passed.nd rfl (Or.inl rfl)) (pgs_cons (pg_name (i := 7) sc_law_passed.nd rfl (Or.inl rfl)) (pgs_cons (pg_name (i := 8) sc_law_passed.nd rfl (Or.inl rfl)) pgs_nil)))))
      (pss_one (ps_if (PW.pt (pw_and (PW.pt (pw_or (pt_cmpR op_isN (pv 5) pe_non (nomark _)) (pw_or1 (pt_cmpR op_eq (pv 5) (pv 3) (nomark _))))) (pw_and (pt_cmpR op_in_sign (pe_ix ix_list (pv 1) (pv 2) (fun _ _ => rfl)) (pv 6) rfl) (pw_and1 (pt_cmpR op_in_sign (pv 4) (pv 7) rfl)))))
        (pss_one (ps_ret (pe_f (ok_law_edited T) T.g_law_edited (kp_of T.f_law_edited) (hr.mono (by decide)) pass0 (pa_cons (pv 8) (pa_cons (pv 1) (pa_cons (pv 2) (pa_cons (pv 3) pa_nil)))))))
        pss_nil)))
    (pss_one (ps_ret (pe_tup (pa_cons (pv 3) (pa_cons pe_bl pa_nil))))))), ?_⟩
  obtain ⟨lv, b, L, m, c, t, rfl, ⟨a, rv, ev, rfl, hT, hR, hE⟩, hV, hb, hz, q⟩ := h
  obtain ⟨ra, rs, rfl, hRT, hRP⟩ := id hR
  have hlr := paired_len hRP
  have fol : ∀ (Z : V → Hp → Prop), Z (.str (tx [nxt (c :: t)])) H → (if decide ((0 : Int) + 1 < ((signsV (c :: t)).length : Int)) = true then tOp (rIxL K) (tVar 1) (tOp (rI0 fun i j => .int (i + j)) (tVar 2) (tC (.int 1))) (start N_law_passed [V.ref a, V.ref b, V.int 0, V.int (m : Int)]) H Z else tC (.str "$") (start N_law_passed [V.ref a, V.ref b, V.int 0, V.int (m : Int)]) H Z) := by
    intro Z hZ
    cases t with
    | nil =>
      refine if_f (decide_eq_false (by rw [sg_len, List.length_singleton]; decide)) ?_
      show Z (.str "$") H
      exact qv (show V.str "$" = .str (tx [36]) by decide +kernel) hZ
    | cons x t =>
      refine if_t (decide_eq_true (by rw [sg_len, List.length_cons, List.length_cons]; omega)) ?_
      exact ⟨_, rfl, _, rfl, _, _, rfl, rfl, _, _, 1, _, rfl, rfl, sl hb, atI_nat (j := 1) rfl, hZ⟩
  refine ⟨_, rfl, _, _, rfl, rfl, _, rfl, _, _, rfl, .inl (sl hb), _, _, rfl, rfl, _, rfl, fol _ ?_⟩
  refine ⟨_, rfl, _, _, 0, _, rfl, rfl, sq hT, atI_nat (j := 0) rfl, ra, rfl, ⟨_, sq hRT⟩, for_tup (xs := rs) (fun i σ H' => ∃ x5 x6 x7 x8, σ = [some (.ref a), some (.ref b), some (.int 0), some (.int (m : Int)), some (.str (tx [nxt (c :: t)])), x5, x6, x7, x8] ∧ H' = H ∧ (L.rules.take i).find? (fits m c (nxt (c :: t))) = none) ⟨_, _, _, _, rfl, rfl, by simp⟩
    (fun i σ H' _ ⟨_, _, _, _, _, e, _⟩ => by rw [e]; exact sq hRT) ?_ ?_⟩
  · rintro i x σ H' hi ⟨x5, x6, x7, x8, rfl, rfl, hn⟩
    obtain ⟨r, hr1, ⟨xa, xe, rfl, hx, hxE⟩⟩ := paired_at hRP hi
    have ft := find_take hn hr1
    refine ⟨_, _, rfl, sq hx, rfl, _, _, rfl, _, _, rfl, _, _, rfl, _, _, rfl, rfl, ?_⟩
    -- the test of the mark
    have next_ : fits m c (nxt (c :: t)) r = false → ∃ x5 x6 x7 x8, [some (V.ref a), some (.ref b), some (.int 0), some (.int (m : Int)), some (.str (tx [nxt (c :: t)])), some (mkV r.mark), some (.str (tx r.items)), some (.str (tx r.nexts)), some xe] = [some (.ref a), some (.ref b), some (.int 0), some (.int (m : Int)), some (.str (tx [nxt (c :: t)])), x5, x6, x7, x8] ∧ H' = H' ∧ (L.rules.take (i + 1)).find? (fits m c (nxt (c :: t))) = none := fun h => ⟨_, _, _, _, rfl, rfl, ft.2 h⟩
    cases hm : r.mark with
    | none =>
      rw [hm] at next_
      refine ⟨.non, rfl, rfl, _, rfl, if_t rfl (if_t rfl ?_)⟩
      refine ⟨_, rfl, _, rfl, _, _, 0, _, rfl, rfl, sl hb, atI_nat (j := 0) rfl, _, rfl, c, _, rfl, rfl, _, rfl, ?_⟩
      refine ifb (fun c2 => ?_) (fun c2 => ?_)
      · refine ⟨_, rfl, _, rfl, nxt (c :: t), _, rfl, rfl, _, rfl, ?_⟩
        refine ifb (fun c3 => ?_) (fun c3 => ?_)
        · have c2' : decide (c ∈ r.items) = true := c2
          have c3' : decide (nxt (c :: t) ∈ r.nexts) = true := c3
          have hf := ft.1 (by unfold fits; rw [hm, c2', c3']; rfl)
          have e : passR L.rules m (c :: t) = carry r.edits (m, false, c :: t) := by simp only [passR, hf]
          rw [e] at q
          exact ⟨_, rfl, _, rfl, _, rfl, _, rfl, xe, b, r.edits, m, c :: t, rfl, hxE, (hV.rules r (List.mem_of_getElem? hr1)).edits, hb, by rw [List.length_cons]; omega, q⟩
        · have c3' : decide (nxt (c :: t) ∈ r.nexts) = false := c3
          exact next_ (by unfold fits; rw [c3', Bool.and_false, Bool.and_false])
      · refine if_f rfl ?_
        have c2' : decide (c ∈ r.items) = false := c2
        exact next_ (by unfold fits; rw [c2', Bool.false_and, Bool.and_false])
    | some k =>
      rw [hm] at next_
      refine ⟨.int (k : Int), rfl, rfl, _, rfl, if_f rfl ?_⟩
      refine ⟨.int (k : Int), rfl, _, rfl, rfl, _, rfl, ?_⟩
      refine ifb (fun c1 => ?_) (fun c1 => ?_)
      · have hbm : decide (k = m) = true := by
          have := V.int.inj (of_decide_eq_true c1)
          exact decide_eq_true (by omega)
        refine ⟨_, rfl, _, rfl, _, _, 0, _, rfl, rfl, sl hb, atI_nat (j := 0) rfl, _, rfl, c, _, rfl, rfl, _, rfl, ?_⟩
        refine ifb (fun c2 => ?_) (fun c2 => ?_)
        · refine ⟨_, rfl, _, rfl, nxt (c :: t), _, rfl, rfl, _, rfl, ?_⟩
          refine ifb (fun c3 => ?_) (fun c3 => ?_)
          · have c2' : decide (c ∈ r.items) = true := c2
            have c3' : decide (nxt (c :: t) ∈ r.nexts) = true := c3
            have hf := ft.1 (by unfold fits; rw [hm, c2', c3']; show (decide (k = m) && (true && true)) = true; rw [hbm]; rfl)
            have e : passR L.rules m (c :: t) = carry r.edits (m, false, c :: t) := by simp only [passR, hf]
            rw [e] at q
            exact ⟨_, rfl, _, rfl, _, rfl, _, rfl, xe, b, r.edits, m, c :: t, rfl, hxE, (hV.rules r (List.mem_of_getElem? hr1)).edits, hb, by rw [List.length_cons]; omega, q⟩
          · have c3' : decide (nxt (c :: t) ∈ r.nexts) = false := c3
            exact next_ (by unfold fits; rw [c3', Bool.and_false, Bool.and_false])
        · refine if_f rfl ?_
          have c2' : decide (c ∈ r.items) = false := c2
          exact next_ (by unfold fits; rw [c2', Bool.false_and, Bool.and_false])
      · refine if_f rfl ?_
        have hbm : decide (k = m) = false := by
          refine decide_eq_false fun z => ?_
          rw [z, decide_eq_true rfl] at c1
          cases c1
        exact next_ (by unfold fits; rw [hm]; show (decide (k = m) && _) = false; rw [hbm]; rfl)
  · rintro σ H' ⟨x5, x6, x7, x8, rfl, rfl, hn⟩
    rw [hlr, List.take_length] at hn
    have e : passR L.rules m (c :: t) = (m, false, c :: t) := by simp only [passR, hn]
    rw [e] at q
    refine ⟨_, rfl, sz2 (by simp), fun p hp => ?_⟩
    have hpb : p ≠ b := fun z => by rw [z, hb] at hp; cases hp
    exact q _ p (Kp.new hp) (by rw [upd_ne hpb.symm]; exact hb) upd_same
end
end OB
set_option Elab.async false
set_option linter.all false
set_option maxRecDepth 100000
set_option maxHeartbeats 4000000
namespace OB
open PySem PySem.Spec PySem.Calls PyProof.Rows L2 PySem.W StX
/-! ### the law's own states -/
def lkey (s : S) : List Key := if s.brk = true then [.inr "broken", .inr ""] else [.inl (s.mark : Int), .inr (tx s.held)]
theorem lkey_brk {s : S} (h : s.brk = true) : (lkey s).map kV = [.str "broken", .str ""] := by unfold lkey; rw [if_pos h]; rfl
theorem lkey_not {s : S} (h : s.brk = false) : (lkey s).map kV = [.int (s.mark : Int), .str (tx s.held)] := by unfold lkey; rw [if_neg (by rw [h]; exact Bool.false_ne_true)]; rfl
theorem lkey_eq {s t : S} (h : lkey s = lkey t) : s.brk = t.brk ∧ (s.brk = false → s = t) := by
  obtain ⟨sm, sh, sb⟩ := s
  obtain ⟨tm, th, tb⟩ := t
  unfold lkey at h
  cases sb <;> cases tb <;> simp only [if_true, if_false, Bool.false_eq_true, reduceIte] at h
  · refine ⟨rfl, fun _ => ?_⟩
    have h1 := List.cons.inj h
    have h2 := List.cons.inj h1.2
    have e1 : sm = tm := by have := Sum.inl.inj h1.1; omega
    have e2 := tx_inj (Sum.inr.inj h2.1)
    rw [e1, e2]
  · have := (List.cons.inj h).1
    cases this
  · have := (List.cons.inj h).1
    cases this
  · exact ⟨rfl, fun z => by cases z⟩
def IsLSt (H : Hp) (v : V) (s : S) : Prop := ∃ a, v = .ref a ∧ H a = some (.tup ((lkey s).map kV))
theorem IsLSt.mono {H H' : Hp} {v : V} {s : S} (h : IsLSt H v s) (e : Ext H H') : IsLSt H' v s := by
  obtain ⟨a, r, g⟩ := h
  exact ⟨a, r, e _ _ g⟩
def IsFd (H : Hp) (v : V) : Option (List Nat × Nat × S) → Prop
  | none => v = .non
  | some x => ∃ a b, v = .ref a ∧ H a = some (.tup [.str (tx x.1), .int (x.2.1 : Int), .ref b]) ∧ H b = some (.tup ((lkey x.2.2).map kV))
/-- the keys so far -/
def KeysT (kvs : List (List Key × V)) (f : Nat → List Key) (k : Nat) : Prop := ∀ q, (valV kvs q).isSome = true ↔ ∃ j, j < k ∧ q = f j
theorem KeysT.nil (f : Nat → List Key) : KeysT [] f 0 := fun q => ⟨(fun h => nomatch h), (fun ⟨j, hj, _⟩ => absurd hj (Nat.not_lt_zero _))⟩
theorem KeysT.snoc {kvs : List (List Key × V)} {f : Nat → List Key} {k : Nat} {v : V} (h : KeysT kvs f k) (hn : valV kvs (f k) = none) : KeysT (kvs ++ [(f k, v)]) f (k + 1) := fun q => by
  rw [valV_snoc (f k) q v kvs hn]
  constructor
  · intro z
    by_cases c : q = f k
    · exact ⟨k, Nat.lt_succ_self k, c⟩
    · rw [if_neg c] at z
      obtain ⟨j, hj, e⟩ := (h q).mp z
      exact ⟨j, Nat.lt_succ_of_lt hj, e⟩
  · rintro ⟨j, hj, e⟩
    by_cases c : q = f k
    · rw [if_pos c]
      rfl
    · rw [if_neg c]
      refine (h q).mpr ⟨j, ?_, e⟩
      rcases Nat.lt_succ_iff_lt_or_eq.mp hj with z | z
      · exact z
      · rw [z] at e
        exact absurd e c
theorem wl_flat (L : Lo) (s : S) (k : Nat) : (wlN L s (k + 1)).flatten = (wlN L s k).flatten ++ (stepS L (stN L s k)).1 := by
  show (wlN L s k ++ [_]).flatten = _
  rw [List.flatten_append, List.flatten_singleton]
/-- the law's loop while it feeds -/
def LfW (K : Frag) (H0 : Hp) (L : Lo) (lv sv cv : V) (s : S) (D : Addr) (m : Nat) (σ : L2.St) (H : Hp) : Prop :=
  ∃ k b kvs x8 x9, σ = [some lv, some sv, some cv, some (.int ((stN L s k).mark : Int)), some (.ref b), some (.str (tx (wlN L s k).flatten)), some (.int (k : Int)), some (.ref D), x8, x9] ∧ Ext H0 H ∧ H0 b = none ∧ b ≠ D ∧
    H b = some (.lst (signsV (stN L s k).held)) ∧ H D = some (.dT kvs) ∧ kvs.length = k ∧ KeysT kvs (fun j => lkey (stN L s j)) k ∧ (∀ j, j ≤ k → (stN L s j).brk = false) ∧
    (∀ j, j < k → ¬ Done 3 (stN L s j)) ∧ (∀ i j, i < j → j < k → stN L s i ≠ stN L s j) ∧ m = 501 - k
end OB
set_option Elab.async false
set_option linter.all false
set_option maxRecDepth 100000
set_option maxHeartbeats 4000000
namespace OB
open PySem PySem.Spec PySem.Calls PyProof.Rows L2 PySem.W StX
section
variable {P : Program} {w : World} {K : Frag} {mg : Str → Option Value} {base : Heap}
/- _law_fed: slots _law_loop_here=0 _law_state=1 _law_item=2 _law_mark=3 _law_held=4 _law_written=5 _law_made=6 _law_seen=7 _law_here=8 _law_broken=9 -/
def sp_law_fed (K : Frag) : Sp := fun vs H Q _ => ∃ lv sv L s c, vs = [lv, sv, .str (tx [c])] ∧ IsLo H lv L ∧ VLo L ∧ IsLSt H sv s ∧ OkS 2 s ∧ c ∈ abcd ∧
  ∀ H' v, Ext H H' → IsFd H' v (fed L s c) → Q v H'
def N_law_fed : List Str := ["_law_loop_here", "_law_state", "_law_item", "_law_mark", "_law_held", "_law_written", "_law_made", "_law_seen", "_law_here", "_law_broken"]
theorem sc_law_fed : FnScope N_law_fed ["_law_loop_here", "_law_state", "_law_item"] (defScope s_law_fed) := ⟨rfl, rfl, rfl, by decide +kernel, rfl, by decide +kernel, by decide +kernel⟩
theorem ok_law_fed (T : Txt K mg w) : FnR P w K mg base CX0 3 (He.ga K "_law_fed") (sp_law_fed K) := by
  refine ok_of T.f_law_fed sc_law_fed (fun _ _ _ _ _ _ us hl => match us, hl with | [_, _, _], _ => rfl) (fun vs H Q E h => ?_) (fun cdv A outer s H vs Q E hr h => ?_)
  · repeat (first | (obtain ⟨rfl, _⟩ := h; rfl) | (obtain ⟨_, h⟩ := h))
  refine ⟨_, (pss_cons (ps_if (pt_cmpR op_eq (pe_ix ix_tup (pv 1) pe_int (fun _ _ => rfl)) pe_str (nomark _))
      (pss_one (ps_ret (pe_tup (pa_cons (pv 2) (pa_cons pe_int (pa_cons (pv 1) pa_nil))))))
      pss_nil)
    (pss_cons (ps_par (i := 3) (j := 4) rfl sc_law_fed.nd rfl rfl (by decide) rfl rfl (pa_cons (pe_ix ix_tup (pv 1) pe_int (fun _ _ => rfl)) (pa_cons (pe_op op_cat (pe_callTy (call_list_strR rfl) (by rfl) T.z_list boot_list (pa_cons (pe_ix ix_tup (pv 1) pe_int (fun _ _ => rfl)) pa_nil)) (pe_lst (pa_cons (pv 2) pa_nil))) pa_nil)) (by rfl))
    (pss_cons (ps_par3 (i := 5) (j := 6) (l := 7) rfl sc_law_fed.nd rfl rfl rfl (by decide) (by decide) (by decide) rfl rfl rfl (pa_cons pe_str (pa_cons pe_int (pa_cons pe_dnewT pa_nil))) (by rfl))
    (pss_cons (ps_while PassesOwn.never (pt_cmpR op_gt (pe_callB call_len_seq (by rfl) T.z_len boot_len (pa_cons (pv 4) pa_nil)) pe_int (nomark _))
      (pss_cons (ps_set (i := 8) sc_law_fed.nd rfl (Or.inl rfl) (pe_tup (pa_cons (pv 3) (pa_cons (pe_join pe_str (pv 4)) pa_nil))))
      (pss_cons (ps_if (pt_cmp (pc_din (hu_of hr) (pv 8) (pv 7)))
        (pss_one (ps_ret pe_non))
        pss_nil)
      (pss_cons (ps_dput (hu_of hr) (pv 7) (pv 8) pe_bl rfl)
      (pss_cons (ps_asg (pe_f (ok_law_passed T) T.g_law_passed (kp_of T.f_law_passed) (hr.mono (by decide)) pass0 (pa_cons (pv 0) (pa_cons (pv 4) (pa_cons pe_int (pa_cons (pv 3) pa_nil))))) (pg_tup rfl (pgs_cons (pg_name (i := 3) sc_law_fed.nd rfl (Or.inl rfl)) (pgs_cons (pg_name (i := 9) sc_law_fed.nd rfl (Or.inl rfl)) pgs_nil))))
      (pss_cons (ps_set (i := 6) sc_law_fed.nd rfl (Or.inl rfl) (pe_op op_add (pv 6) pe_int))
      (pss_cons (ps_if (pt_val (pv 9))
        (pss_one (ps_ret (pe_tup (pa_cons (pe_op op_add_str (pv 5) (pe_join pe_str (pv 4))) (pa_cons (pv 6) (pa_cons (pe_tup (pa_cons pe_str (pa_cons pe_str pa_nil))) pa_nil))))))
        pss_nil)
      (pss_cons (ps_set (i := 5) sc_law_fed.nd rfl (Or.inl rfl) (pe_op op_add_str (pv 5) (pe_join pe_str (pe_slice sl_list (pv 4) po_none (po_some pe_int)))))
      (pss_one (ps_set (i := 4) sc_law_fed.nd rfl (Or.inl rfl) (pe_slice sl_list (pv 4) (po_some pe_int) po_none)))))))))))
    (pss_one (ps_ret (pe_tup (pa_cons (pv 5) (pa_cons (pv 6) (pa_cons (pe_tup (pa_cons (pv 3) (pa_cons (pe_join pe_str (pv 4)) pa_nil))) pa_nil)))))))))), ?_⟩
  obtain ⟨lv, sv, L, s0, c, rfl, hL, hV, ⟨sa, rfl, hsa⟩, hO, hc, q⟩ := h
  cases hb : s0.brk with
  | true =>
    have hs1 := hsa
    rw [lkey_brk hb] at hs1
    refine ⟨_, rfl, _, _, 0, _, rfl, rfl, sq hs1, atI_nat (j := 0) rfl, rfl, _, rfl, if_t (decide_eq_true rfl) ?_⟩
    refine ⟨_, rfl, _, rfl, sz2 (by simp), fun p hp => ?_⟩
    refine q _ _ (Ext.upd hp) ?_
    rw [fed_brk hb]
    exact ⟨p, sa, rfl, upd_same, Ext.upd hp _ _ hsa⟩
  | false =>
  have hs1 := hsa
  rw [lkey_not hb] at hs1
  refine ⟨_, rfl, _, _, 0, _, rfl, rfl, sq hs1, atI_nat (j := 0) rfl, rfl, _, rfl, if_f (decide_eq_false (fun z => by cases z)) ?_⟩
  have hl2 := hO.len
  refine ⟨_, rfl, _, _, 0, _, rfl, rfl, sq hs1, atI_nat (j := 0) rfl, _, rfl, _, _, 1, _, rfl, rfl, sq hs1, atI_nat (j := 1) rfl, s0.held, rfl, Nat.le_trans (by omega) sizeBig, fun i1 h1 => ?_⟩
  refine ⟨_, rfl, sz2 (by simp), fun i2 h2 => ?_⟩
  have n12 : i1 ≠ i2 := fun z => by rw [← z, upd_same] at h2; cases h2
  refine ⟨_, _, _, _, rfl, rfl, by rw [upd_ne n12]; exact upd_same, upd_same, Nat.le_trans (by rw [List.length_map]; simp; omega) sizeBig, fun b0 hb0 => ?_⟩
  have E1 : Ext H _ := (Ext.upd h1).trans ((Ext.upd h2).trans (Ext.upd (o := .lst (s0.held.map (fun c => V.str (tx [c])) ++ [.str (tx [c])])) hb0))
  have b0n : H b0 = none := by
    have := fresh_of (Ext.upd h2) hb0
    exact fresh_of (Ext.upd h1) this
  have hbb : upd (upd (upd H i1 (.lst (s0.held.map fun c => V.str (tx [c])))) i2 (.lst [.str (tx [c])])) b0 (.lst (s0.held.map (fun c => V.str (tx [c])) ++ [.str (tx [c])])) b0 = some (.lst (signsV (s0.held ++ [c]))) := by
    rw [upd_same]
    unfold signsV
    rw [List.map_append]
    rfl
  generalize upd (upd (upd H i1 (.lst (s0.held.map fun c => V.str (tx [c])))) i2 (.lst [.str (tx [c])])) b0 (.lst (s0.held.map (fun c => V.str (tx [c])) ++ [.str (tx [c])])) = H1 at E1 hbb ⊢
  refine ⟨_, _, rfl, fun D hD => ⟨_, _, _, rfl, ?_⟩⟩
  have nbD : b0 ≠ D := fun z => by rw [z, hD] at hbb; cases hbb
  have hD0 : H D = none := fresh_of E1 hD
  have O3 : OkS 3 ⟨s0.mark, s0.held ++ [c], false⟩ := ⟨hO.mark, hO.let_.app (.one hc), by simp only [List.length_append, List.length_singleton]; omega, fun z => by cases z⟩
  refine ⟨LfW K H L lv (.ref sa) (.str (tx [c])) ⟨s0.mark, s0.held ++ [c], false⟩ D, ⟨_, 0, b0, [], _, _, rfl, E1.trans (Ext.upd hD), b0n, nbD, by rw [upd_ne nbD]; exact hbb, upd_same, rfl, KeysT.nil _, fun j hj => by rw [Nat.le_zero.mp hj]; rfl, (fun j hj => absurd hj (Nat.not_lt_zero _)), (fun i j _ hj => absurd hj (Nat.not_lt_zero _)), rfl⟩, ?_⟩
  generalize hz0 : (⟨s0.mark, s0.held ++ [c], false⟩ : S) = z0 at O3 ⊢
  rintro m σ H2 ⟨k, b, kvs, x8, x9, rfl, e2, hb0, hbD, hbH, hDH, hkl, hK, hnb, hnd, hinj, rfl⟩
  have hOk := stN_ok hV O3 k
  have hk500 := passes_few hV O3 hnd hinj
  have hl3 := hOk.len
  refine ⟨_, rfl, _, _, rfl, .inl (sl hbH), _, _, rfl, rfl, _, rfl, ?_⟩
  refine ifb (fun c1 => ?_) (fun c1 => ?_)
  rotate_left
  · have c1' := of_decide_eq_false c1
    rw [sg_len] at c1'
    have hE : Ends L 3 z0 k := ⟨hnd, .inl (by omega)⟩
    refine ⟨_, rfl, _, rfl, _, rfl, ⟨_, rfl⟩, _, rfl, _, _, (stN L z0 k).held.map fun c => tx [c], rfl, rfl, .inl (sl (by rw [hbH, signs_str])), by rw [sum_signs, emp_tx, tx_len, List.length_nil]; omega, ?_⟩
    rw [emp_tx, join_signs]
    refine ⟨sz2 (by simp), fun p hp => ⟨sz2 (by simp), fun r hr => ?_⟩⟩
    have F1 := Ext.upd (o := .tup [.int ((stN L z0 k).mark : Int), .str (tx (stN L z0 k).held)]) hp
    have F2 := Ext.upd (o := .tup [.str (tx (wlN L z0 k).flatten), .int (k : Int), .ref p]) hr
    refine q _ _ (e2.trans (F1.trans F2)) ?_
    rw [← hz0] at hE
    rw [fed_ends hb hE, hz0]
    refine ⟨r, p, rfl, upd_same, F2 _ _ ?_⟩
    rw [upd_same, lkey_not (hnb k (Nat.le_refl k))]
  have c1' := of_decide_eq_true c1
  rw [sg_len] at c1'
  have hnotd : ¬ Done 3 (stN L z0 k) := fun hd => by
    rcases hd with hd | hd
    · omega
    · rw [hnb k (Nat.le_refl k)] at hd; cases hd
  refine ⟨fun σ' H' => ∃ m', m' < 501 - k ∧ LfW K H L lv (.ref sa) (.str (tx [c])) z0 D m' σ' H', fun _ _ h => h, ?_⟩
  -- the place
  refine ⟨_, rfl, ⟨_, rfl⟩, _, rfl, _, _, (stN L z0 k).held.map fun c => tx [c], rfl, rfl, .inl (sl (by rw [hbH, signs_str])), by rw [sum_signs, emp_tx, tx_len, List.length_nil]; omega, ?_⟩
  rw [emp_tx, join_signs]
  refine ⟨sz2 (by simp), fun p hp => ?_⟩
  have F1 := Ext.upd (o := .tup [.int ((stN L z0 k).mark : Int), .str (tx (stN L z0 k).held)]) hp
  have hpk : upd H2 p (.tup [.int ((stN L z0 k).mark : Int), .str (tx (stN L z0 k).held)]) p = some (.tup ((lkey (stN L z0 k)).map kV)) := by rw [upd_same, lkey_not (hnb k (Nat.le_refl k))]
  have e3 := e2.trans F1
  have hbH3 := F1 _ _ hbH
  have hDH3 := F1 _ _ hDH
  generalize upd H2 p (.tup [.int ((stN L z0 k).mark : Int), .str (tx (stN L z0 k).held)]) = H3 at hpk e3 hbH3 hDH3 ⊢
  refine ⟨_, rfl, _, rfl, D, _, rfl, DGet.t hDH3 hpk, _, rfl, ?_⟩
  refine ifb (fun c2 => ?_) (fun c2 => ?_)
  · obtain ⟨j, hj, ej⟩ := (hK _).mp c2
    have es := (lkey_eq ej).2 (hnb k (Nat.le_refl k))
    have hN : Never L 3 z0 := never_of_rep hj es.symm fun i hi => by
      rcases Nat.lt_or_eq_of_le hi with z | z
      · exact hnd i z
      · rw [z]; exact hnotd
    refine q _ _ e3 ?_
    rw [← hz0] at hN
    rw [fed_never hb hN]
    rfl
  have hfresh : valV kvs (lkey (stN L z0 k)) = none := by
    cases z : valV kvs (lkey (stN L z0 k)) with
    | none => rfl
    | some u => rw [z] at c2; cases c2
  have hinj' : ∀ i j, i < j → j < k + 1 → stN L z0 i ≠ stN L z0 j := fun i j hij hj => by
    rcases Nat.lt_succ_iff_lt_or_eq.mp hj with z | z
    · exact hinj i j hij z
    · intro e
      rw [z] at e hij
      have := (hK (lkey (stN L z0 k))).mpr ⟨i, hij, congrArg lkey e.symm⟩
      rw [hfresh] at this
      cases this
  have hnd' : ∀ j, j < k + 1 → ¬ Done 3 (stN L z0 j) := fun j hj => by
    rcases Nat.lt_succ_iff_lt_or_eq.mp hj with z | z
    · exact hnd j z
    · rw [z]; exact hnotd
  refine ⟨_, rfl, _, rfl, D, _, rfl, DPut.t hDH3 hpk (Nat.lt_of_lt_of_le (by omega) sizeBig), ?_⟩
  rw [putK_new _ hfresh]
  have e4 : Ext H (upd H3 D (.dT (kvs ++ [(lkey (stN L z0 k), .bl true)]))) := fun x o hx => by
    rw [upd_ne (fun z => by rw [z, hD0] at hx; cases hx)]
    exact e3 _ _ hx
  have hbH4 : upd H3 D (.dT (kvs ++ [(lkey (stN L z0 k), .bl true)])) b = some (.lst (signsV (stN L z0 k).held)) := by rw [upd_ne hbD]; exact hbH3
  have hDH4 : upd H3 D (.dT (kvs ++ [(lkey (stN L z0 k), .bl true)])) D = some (.dT (kvs ++ [(lkey (stN L z0 k), .bl true)])) := upd_same
  generalize upd H3 D (.dT (kvs ++ [(lkey (stN L z0 k), .bl true)])) = H4 at e4 hbH4 hDH4 ⊢
  obtain ⟨c0, t0, hct⟩ : ∃ c t, (stN L z0 k).held = c :: t := by
    cases e : (stN L z0 k).held with
    | nil => rw [e] at c1'; simp at c1'
    | cons c t => exact ⟨c, t, rfl⟩
  have hst : stepS L (stN L z0 k) = if (passR L.rules (stN L z0 k).mark (c0 :: t0)).2.1 = true then ((passR L.rules (stN L z0 k).mark (c0 :: t0)).2.2, ⟨(passR L.rules (stN L z0 k).mark (c0 :: t0)).1, [], true⟩) else ((passR L.rules (stN L z0 k).mark (c0 :: t0)).2.2.take 1, ⟨(passR L.rules (stN L z0 k).mark (c0 :: t0)).1, (passR L.rules (stN L z0 k).mark (c0 :: t0)).2.2.drop 1, false⟩) := by
    unfold stepS
    rw [hct]
  have hlet : Letters (c0 :: t0) := by rw [← hct]; exact hOk.let_
  have hpl := (passR_ok hV hOk.mark hlet).2.2
  have hwl := wl_len hV O3 k hnd
  rw [hct] at hbH4 hl3
  rw [List.length_cons] at hpl hl3
  refine ⟨_, rfl, _, rfl, _, rfl, lv, b, L, (stN L z0 k).mark, c0, t0, rfl, hL.mono (Ext.tk e4), hV, hbH4, by omega, fun H5 tp k5 hb5 htp => ?_⟩
  have e5 : Ext H H5 := fun x o hx => k5 _ _ (e4 _ _ hx) (nin1 (fun z => by rw [z, hb0] at hx; cases hx))
  have hDH5 := k5 _ _ hDH4 (nin1 hbD.symm)
  generalize passR L.rules (stN L z0 k).mark (c0 :: t0) = R at hb5 htp hst hpl
  obtain ⟨m', br, its⟩ := R
  dsimp only at hb5 htp hst hpl
  refine ⟨_, _, rfl, sq htp, rfl, _, _, rfl, _, _, rfl, rfl, ?_⟩
  refine ⟨_, rfl, _, _, rfl, rfl, ?_⟩
  have hstk : stN L z0 (k + 1) = (stepS L (stN L z0 k)).2 := rfl
  refine ⟨_, rfl, _, rfl, ?_⟩
  cases br with
  | true =>
    rw [if_pos rfl] at hst
    rw [hst] at hstk
    have hE : Ends L 3 z0 (k + 1) := ⟨hnd', .inr (by rw [hstk])⟩
    have hwf : (wlN L z0 (k + 1)).flatten = (wlN L z0 k).flatten ++ its := by rw [wl_flat, hst]
    refine if_t rfl ?_
    refine ⟨_, rfl, ⟨_, rfl⟩, _, rfl, _, _, its.map fun c => tx [c], rfl, rfl, .inl (sl (by rw [hb5, signs_str])), by rw [sum_signs, tx_len, List.length_nil]; omega, ?_⟩
    rw [join_signs]
    refine ⟨_, _, rfl, rfl, Nat.le_trans (by rw [tx_len, tx_len]; omega) sizeBig, ?_⟩
    rw [tx_app]
    refine ⟨_, rfl, sz2 (by simp), fun p1 hp1 => ⟨sz2 (by simp), fun r hr => ?_⟩⟩
    have G1 := Ext.upd (o := .tup [.str "broken", .str ""]) hp1
    have G2 := Ext.upd (o := .tup [.str (tx ((wlN L z0 k).flatten ++ its)), .int ((k + 1 : Nat) : Int), .ref p1]) hr
    refine q _ _ (e5.trans (G1.trans G2)) ?_
    rw [← hz0] at hE
    rw [fed_ends hb hE, hz0, hwf, hstk]
    refine ⟨r, p1, rfl, upd_same, G2 _ _ ?_⟩
    rw [upd_same, lkey_brk rfl]
    rfl
  | false =>
    rw [if_neg Bool.false_ne_true] at hst
    rw [hst] at hstk
    have hwf : (wlN L z0 (k + 1)).flatten = (wlN L z0 k).flatten ++ its.take 1 := by rw [wl_flat, hst]
    refine if_f rfl ?_
    refine ⟨_, rfl, ⟨_, rfl⟩, _, rfl, _, rfl, _, _, rfl, sl hb5, fun s1 hs1' => ?_⟩
    rw [show (some (1 : Int)) = some (((1 : Nat) : Int)) from rfl]
    have c3 : cutV (signsV its) none (some ((1 : Nat) : Int)) = signsV (its.take 1) := by
      unfold cutV
      rw [HT.sIx_none, HT.sIx_nat, List.drop_zero, Nat.sub_zero, sg_take, sg_len]
      congr 1
      by_cases z : 1 ≤ its.length
      · rw [Nat.min_eq_left z]
      · have : its = [] := List.eq_nil_of_length_eq_zero (by omega)
        rw [this]; rfl
    rw [c3]
    refine ⟨_, _, (its.take 1).map fun c => tx [c], rfl, rfl, .inl (sl (by rw [upd_same, signs_str])), by rw [sum_signs, tx_len, List.length_nil, List.length_take]; omega, ?_⟩
    rw [join_signs]
    have E5 := Ext.upd (o := .lst (signsV (its.take 1))) hs1'
    refine ⟨_, _, rfl, rfl, Nat.le_trans (by rw [tx_len, tx_len, List.length_take]; omega) sizeBig, ?_⟩
    rw [tx_app]
    refine ⟨_, rfl, _, rfl, _, _, rfl, sl (E5 _ _ hb5), fun s2 hs2 => ?_⟩
    have c4 : cutV (signsV its) (some ((1 : Nat) : Int)) none = signsV (its.drop 1) := by
      unfold cutV
      rw [HT.sIx_none, HT.sIx_nat, sg_len, sg_drop, sg_take]
      congr 1
      by_cases z : 1 ≤ its.length
      · rw [Nat.min_eq_left z, List.take_of_length_le (by rw [List.length_drop]; omega)]
      · have : its = [] := List.eq_nil_of_length_eq_zero (by omega)
        rw [this]; rfl
    rw [show (some (1 : Int)) = some (((1 : Nat) : Int)) from rfl, c4]
    have E6 := Ext.upd (o := .lst (signsV (its.drop 1))) hs2
    have hs20 : H s2 = none := fresh_of (e5.trans E5) hs2
    have hs2D : s2 ≠ D := fun z => by rw [z, E5 _ _ hDH5] at hs2; cases hs2
    refine ⟨501 - (k + 1), by omega, k + 1, s2, kvs ++ [(lkey (stN L z0 k), .bl true)], some (.ref p), some (.bl false), ?_, e5.trans (E5.trans E6), hs20, hs2D, ?_, E6 _ _ (E5 _ _ hDH5), by rw [List.length_append, hkl]; rfl, KeysT.snoc (f := fun j => lkey (stN L z0 j)) hK hfresh, fun j hj => ?_, hnd', hinj', rfl⟩
    · rw [hwf, hstk]
      rfl
    · rw [upd_same, hstk]
    · rcases Nat.lt_or_eq_of_le hj with z | z
      · exact hnb j (by omega)
      · rw [z, hstk]
end
end OB
set_option Elab.async false
set_option linter.all false
set_option maxRecDepth 100000
set_option maxHeartbeats 4000000
namespace OB
open PySem PySem.Spec PySem.Calls PyProof.Rows L2 PySem.W StX
section
variable {P : Program} {w : World} {K : Frag} {mg : Str → Option Value} {base : Heap}
/- _law_copy_fed: slots _law_loop_here=0 _law_state=1 _law_some=2 _law_written=3 _law_made=4 _law_item=5 _law_found=6 -/
def sp_law_copy_fed (K : Frag) : Sp := fun vs H Q _ => ∃ lv sv L s t, vs = [lv, sv, .str (tx t)] ∧ IsLo H lv L ∧ VLo L ∧ IsLSt H sv s ∧ OkS 2 s ∧ Letters t ∧ t.length ≤ 20 ∧
  ∀ H' v, Ext H H' → IsFd H' v (feedL L s t) → Q v H'
def N_law_copy_fed : List Str := ["_law_loop_here", "_law_state", "_law_some", "_law_written", "_law_made", "_law_item", "_law_found"]
theorem sc_law_copy_fed : FnScope N_law_copy_fed ["_law_loop_here", "_law_state", "_law_some"] (defScope s_law_copy_fed) := ⟨rfl, rfl, rfl, by decide +kernel, rfl, by decide +kernel, by decide +kernel⟩
theorem ok_law_copy_fed (T : Txt K mg w) : FnR P w K mg base CX0 4 (He.ga K "_law_copy_fed") (sp_law_copy_fed K) := by
  refine ok_of T.f_law_copy_fed sc_law_copy_fed (fun _ _ _ _ _ _ us hl => match us, hl with | [_, _, _], _ => rfl) (fun vs H Q E h => ?_) (fun cdv A outer s H vs Q E hr h => ?_)
  · repeat (first | (obtain ⟨rfl, _⟩ := h; rfl) | (obtain ⟨_, h⟩ := h))
  refine ⟨_, (pss_cons (ps_asg (pe_tup (pa_cons pe_str (pa_cons pe_int pa_nil))) (pg_tup rfl (pgs_cons (pg_name (i := 3) sc_law_copy_fed.nd rfl (Or.inl rfl)) (pgs_cons (pg_name (i := 4) sc_law_copy_fed.nd rfl (Or.inl rfl)) pgs_nil))))
    (pss_cons (ps_for PassesOwn.never rfl (pi_str (pv 2)) (pg_name (i := 5) sc_law_copy_fed.nd rfl (Or.inl rfl))
      (pss_cons (ps_set (i := 6) sc_law_copy_fed.nd rfl (Or.inl rfl) (pe_f (ok_law_fed T) T.g_law_fed (kp_of T.f_law_fed) (hr.mono (by decide)) pass0 (pa_cons (pv 0) (pa_cons (pv 1) (pa_cons (pv 5) pa_nil)))))
      (pss_cons (ps_if (pt_cmpR op_isN (pv 6) pe_non (nomark _))
        (pss_one (ps_ret pe_non))
        pss_nil)
      (pss_one (ps_par3 (i := 3) (j := 4) (l := 1) rfl sc_law_copy_fed.nd rfl rfl rfl (by decide) (by decide) (by decide) rfl rfl rfl (pa_cons (pe_op op_add_str (pv 3) (pe_ix ix_tup (pv 6) pe_int (fun _ _ => rfl))) (pa_cons (pe_op op_add (pv 4) (pe_ix ix_tup (pv 6) pe_int (fun _ _ => rfl))) (pa_cons (pe_ix ix_tup (pv 6) pe_int (fun _ _ => rfl)) pa_nil))) (by rfl))))))
    (pss_one (ps_ret (pe_tup (pa_cons (pv 3) (pa_cons (pv 4) (pa_cons (pv 1) pa_nil)))))))), ?_⟩
  obtain ⟨lv, sv, L, s0, t, rfl, hL, hV, hS, hO, ht, htl, q⟩ := h
  refine ⟨sz2 (by simp), fun p0 hp0 => ⟨_, _, rfl, sq upd_same, rfl, _, _, rfl, _, _, rfl, rfl, ?_⟩⟩
  have E0 : Ext H (upd H p0 (.tup [.str "", .int 0])) := Ext.upd hp0
  refine ⟨_, rfl, _, rfl, for_it walk_tx (fun i σ H' => ∃ v x x5 x6, σ = [some lv, some v, some (.str (tx t)), some (.str (tx (x : List Nat × Nat × S).1)), some (.int (x.2.1 : Int)), x5, x6] ∧ Ext H H' ∧ IsLSt H' v x.2.2 ∧ feedL L s0 (t.take i) = some x)
    ⟨sv, ([], 0, s0), _, _, by rw [emp_tx]; rfl, E0, hS.mono E0, rfl⟩ (fun _ _ _ _ _ => trivial) ?_ ?_⟩
  · rintro i x σ H1 H1' hi ⟨v, x0, x5, x6, rfl, e1, hS1, hfd⟩ ⟨rfl, c, hc, rfl⟩
    have hcm := List.mem_of_getElem? hc
    have hil : i < t.length := (List.getElem?_eq_some_iff.mp hc).1
    have hbnd := feedL_ok hV (t.take i) s0 hO (fun z hz => ht z (List.mem_of_mem_take hz)) x0 hfd
    have hbl := hbnd.len
    rw [List.length_take] at hbl
    refine ⟨_, rfl, _, rfl, _, rfl, lv, v, L, x0.2.2, c, rfl, hL.mono (Ext.tk e1), hV, hS1, hbnd.st, ht c hcm, fun H2 u e2 hv => ?_⟩
    obtain ⟨sn1, sn2⟩ := feedL_snoc (c := c) hfd
    have etk : t.take (i + 1) = t.take i ++ [c] := take_more' hc
    cases hfe : fed L x0.2.2 c with
    | none =>
      rw [hfe] at hv
      have hv' : u = .non := hv
      subst hv'
      refine ⟨_, rfl, rfl, _, rfl, if_t rfl ?_⟩
      refine q H2 .non (e1.trans e2) ?_
      have z : t = t.take i ++ c :: t.drop (i + 1) := by
        have := List.take_append_drop (i + 1) t
        rw [etk, List.append_assoc] at this
        exact this.symm
      rw [z, sn1 hfe]
      rfl
    | some y =>
      rw [hfe] at hv
      obtain ⟨p, u', rfl, hp, hu⟩ := hv
      have hyb := (fed_ok hV hbnd.st (ht c hcm) hfe).len
      refine ⟨_, rfl, rfl, _, rfl, if_f rfl ?_⟩
      refine ⟨_, rfl, _, rfl, _, _, 0, _, rfl, rfl, sq hp, atI_nat (j := 0) rfl, _, _, rfl, rfl, Nat.le_trans (by rw [tx_len, tx_len]; omega) sizeBig, ?_⟩
      rw [tx_app]
      refine ⟨_, rfl, _, rfl, _, _, 1, _, rfl, rfl, sq hp, atI_nat (j := 1) rfl, _, _, rfl, rfl, ?_⟩
      refine ⟨_, rfl, _, _, 2, _, rfl, rfl, sq hp, atI_nat (j := 2) rfl, ?_⟩
      refine ⟨_, _, _, rfl, ?_⟩
      refine ⟨.ref u', (x0.1 ++ y.1, x0.2.1 + y.2.1, y.2.2), _, _, rfl, e1.trans e2, ⟨u', rfl, hu⟩, by rw [etk]; exact sn2 y hfe⟩
  · rintro σ H1 ⟨v, x0, x5, x6, rfl, e1, ⟨va, rfl, hva⟩, hfd⟩
    rw [List.take_length] at hfd
    refine ⟨_, rfl, _, rfl, _, rfl, sz2 (by simp), fun p hp => ?_⟩
    have e := Ext.upd (o := .tup [.str (tx x0.1), .int (x0.2.1 : Int), .ref va]) hp
    refine q _ _ (e1.trans e) ?_
    rw [hfd]
    exact ⟨p, va, rfl, upd_same, e _ _ hva⟩
end
end OB
set_option Elab.async false
set_option linter.all false
set_option maxRecDepth 100000
set_option maxHeartbeats 4000000
namespace OB
open PySem PySem.Spec PySem.Calls PyProof.Rows L2 PySem.W StX
/-! ### states that come round, by the law's keys -/
theorem feed_brk {L : Lo} {s : S} (h : s.brk = true) : ∀ t, feedL L s t = some (t, 0, s)
  | [] => rfl
  | c :: r => by
    show (fed L s c).bind _ = _
    rw [fed_brk h, Option.bind_some]
    dsimp only
    rw [feed_brk h r]
    rfl
theorem Rows.brkEq {L : Lo} {s : S} {t : List Nat} {rs : Prs'} (h : Rows L s t rs) {j k : Nat} (hj : j ≤ k) (hk : k ≤ rs.length) (hb : (stR L s t j).brk = true) : stR L s t k = stR L s t j := by
  have z := h.from (j := j) (r := k - j) (by omega)
  rw [feed_brk hb, show j + (k - j) = k by omega] at z
  exact (Prod.mk.inj (Prod.mk.inj (Option.some.inj z)).2).2.symm
theorem Rows.keyEq {L : Lo} {s : S} {t : List Nat} {rs : Prs'} (h : Rows L s t rs) {j k : Nat} (hj : j ≤ k) (hk : k ≤ rs.length) (e : lkey (stR L s t k) = lkey (stR L s t j)) : stR L s t k = stR L s t j := by
  obtain ⟨e1, e2⟩ := lkey_eq e
  cases hb : (stR L s t k).brk with
  | false => exact e2 hb
  | true => exact h.brkEq hj hk (by rw [← e1]; exact hb)
/-- the law's loop that looks for the ring -/
def LrW (H0 : Hp) (L : Lo) (lv : V) (t : List Nat) (D pl : Addr) (m : Nat) (σ : L2.St) (H : Hp) : Prop :=
  ∃ v rs ys kvs x5 x6 x7 x8 x9 x10 x11 x12, σ = [some lv, some (.str (tx t)), some v, some (.ref D), some (.ref pl), x5, x6, x7, x8, x9, x10, x11, x12] ∧ Ext H0 H ∧ IsLSt H v (stR L s0 t rs.length) ∧
    H pl = some (.lst ys) ∧ Paired (IsPair H) ys rs ∧ H D = some (.dT kvs) ∧ kvs.length = rs.length ∧ KeysT kvs (fun j => lkey (stR L s0 t j)) rs.length ∧ (∀ j, j < rs.length → valV kvs (lkey (stR L s0 t j)) = some (.int (j : Int))) ∧
    Rows L s0 t rs ∧ (∀ i j, i < j → j < rs.length → stR L s0 t i ≠ stR L s0 t j) ∧ m = 89 - rs.length
def rJoinK (K : Frag) : V → List V → Hp → VK → Prop := fun x xs H Q => ∃ a p, ∃ ys : List Str, x = .str a ∧ xs = [.ref p] ∧ (SqL K H p (ys.map V.str) ∨ SqT K H p (ys.map V.str)) ∧ (ys.map (·.length)).sum + ys.length * a.length ≤ 16777216 ∧ Q (.str (Txt.join a ys)) H
def tJoinRows (K : Frag) : TE := tM1 (rJoinK K) (tC (.str "")) (tLc (iList K (tVar 10)) (gTup K 2 (gCons (gName 11) (gCons (gName 12) gNil))) tYes (tVar 11) [11, 12])
theorem tk_upd {H : Hp} {a : Addr} {o o' : HO} (h : H a = some o) (hn : ∀ xs, o ≠ .tup xs) : TK H (upd H a o') := fun b xs e => by
  rw [upd_ne (fun z => by rw [z, h] at e; exact hn xs (Option.some.inj e))]
  exact e
theorem rows_len {L : Lo} (hV : VLo L) {s : S} (hs : OkS 2 s) {t : List Nat} (ht : Letters t) {rs : Prs'} (h : Rows L s t rs) {k : Nat} (hk : k ≤ rs.length) : (tts (rs.take k)).length ≤ 510 * (k * t.length) ∧ mds (rs.take k) ≤ 500 * (k * t.length) := by
  have z := feedL_ok hV (pw t k) s hs (by
    unfold pw
    exact flat_letters fun w hw => by rw [(List.mem_replicate.mp hw).2]; exact ht) _ (h k hk)
  have l : (pw t k).length = k * t.length := by
    unfold pw
    rw [List.length_flatten, List.map_replicate, List.sum_replicate_nat]
  have z1 := z.len
  have z2 := z.passes
  rw [l] at z1 z2
  exact ⟨z1, z2⟩
end OB
set_option Elab.async false
set_option linter.all false
set_option maxRecDepth 100000
set_option maxHeartbeats 4000000
namespace OB
open PySem PySem.Spec PySem.Calls PyProof.Rows L2 PySem.W StX
section
variable {P : Program} {w : World} {K : Frag} {mg : Str → Option Value} {base : Heap}
/- _law_ring: slots _law_loop_here=0 _law_some=1 _law_state=2 _law_places=3 _law_parts=4 _law_found=5 _law_first=6 _law_ahead=7 _law_ring_here=8 _law_written=9 _law_rows=10 _law_part=11 _law_more=12 -/
def sp_law_ring (K : Frag) : Sp := fun vs H Q _ => ∃ lv L t, vs = [lv, .str (tx t)] ∧ IsLo H lv L ∧ VLo L ∧ Letters t ∧ t.length ≤ 20 ∧
  (∀ j, j ≤ 89 → feedL L s0 (pw t j) = none → ∀ H', Ext H H' → Q .non H') ∧
  (∀ rs f, Rows L s0 t rs → f < rs.length → rs.length ≤ 88 → stR L s0 t rs.length = stR L s0 t f → ∀ H' a, Ext H H' →
    H' a = some (.tup [.int (f : Int), .int ((rs.length - f : Nat) : Int), .int ((tts (rs.take f)).length : Int), .str (tx (tts (rs.drop f))), .int (mds (rs.drop f) : Int)]) → Q (.ref a) H')
def N_law_ring : List Str := ["_law_loop_here", "_law_some", "_law_state", "_law_places", "_law_parts", "_law_found", "_law_first", "_law_ahead", "_law_ring_here", "_law_written", "_law_rows", "_law_part", "_law_more"]
theorem sc_law_ring : FnScope N_law_ring ["_law_loop_here", "_law_some"] (defScope s_law_ring) := ⟨rfl, rfl, rfl, by decide +kernel, rfl, by decide +kernel, by decide +kernel⟩
theorem ok_law_ring (T : Txt K mg w) : FnR P w K mg base CX0 5 (He.ga K "_law_ring") (sp_law_ring K) := by
  refine ok_of T.f_law_ring sc_law_ring (fun _ _ _ _ _ _ us hl => match us, hl with | [_, _], _ => rfl) (fun vs H Q E h => ?_) (fun cdv A outer s H vs Q E hr h => ?_)
  · repeat (first | (obtain ⟨rfl, _⟩ := h; rfl) | (obtain ⟨_, h⟩ := h))
  refine ⟨_, (pss_cons (ps_par3 (i := 2) (j := 3) (l := 4) rfl sc_law_ring.nd rfl rfl rfl (by decide) (by decide) (by decide) rfl rfl rfl (pa_cons (pe_tup (pa_cons pe_int (pa_cons pe_str pa_nil))) (pa_cons pe_dnewT (pa_cons (pe_lst pa_nil) pa_nil))) (by rfl))
    (pss_cons (ps_while PassesOwn.never (pt_cmp (pc_dnotin (hu_of hr) (pv 2) (pv 3)))
      (pss_cons (ps_dput (hu_of hr) (pv 3) (pv 2) (pe_callB call_len_seq (by rfl) T.z_len boot_len (pa_cons (pv 4) pa_nil)) rfl)
      (pss_cons (ps_set (i := 5) sc_law_ring.nd rfl (Or.inl rfl) (pe_f (ok_law_copy_fed T) T.g_law_copy_fed (kp_of T.f_law_copy_fed) (hr.mono (by decide)) pass0 (pa_cons (pv 0) (pa_cons (pv 2) (pa_cons (pv 1) pa_nil)))))
      (pss_cons (ps_if (pt_cmpR op_isN (pv 5) pe_non (nomark _))
        (pss_one (ps_ret pe_non))
        pss_nil)
      (pss_cons (ps_expr (pe_bm PySem.F.plainAttrs_list PySem.F.slot_list_append PySem.F.type_list_append mt_append (pv 4) (pa_cons (pe_slice sl_tup (pv 5) po_none (po_some pe_int)) pa_nil)))
      (pss_one (ps_set (i := 2) sc_law_ring.nd rfl (Or.inl rfl) (pe_ix ix_tup (pv 5) pe_int (fun _ _ => rfl)))))))))
    (pss_cons (ps_set (i := 6) sc_law_ring.nd rfl (Or.inl rfl) (pe_dget (hu_of hr) (pv 3) (pv 2) (fun _ _ => rfl)))
    (pss_cons (ps_par (i := 7) (j := 8) rfl sc_law_ring.nd rfl rfl (by decide) rfl rfl (pa_cons (pe_slice sl_list (pv 4) po_none (po_some (pv 6))) (pa_cons (pe_slice sl_list (pv 4) (po_some (pv 6)) po_none) pa_nil)) (by rfl))
    (pss_cons (ps_setLc (i := 9) (own := [("_law_rows", 10)]) rfl sc_law_ring.nd rfl rfl (sw_true rfl rfl rfl (by decide +kernel)) (pi_list (pe_lst (pa_cons (pv 7) (pa_cons (pv 8) pa_nil)))) (blkOk_by (own := [("_law_rows", 10)]) (N := N_law_ring) (sc := defScope s_law_ring) (by decide +kernel)) (fun _ _ _ _ _ => (pg_name (i := 10) sc_law_ring.nd rfl (Or.inl rfl))) (fun _ _ _ _ _ => pts_nil) (fun _ _ _ _ _ => (show PE _ _ (tJoinRows K) from pe_join pe_str (pe_lc (own := [("_law_part", 11), ("_law_more", 12)]) rfl sc_law_ring.nd (pi_list (pv 10)) (blkOk_by (own := [("_law_part", 11), ("_law_more", 12)]) (N := N_law_ring) (sc := { kind := .function, names := [(Str.ofString ".0", .local), (Str.ofString "_law_rows", .local)], isGenerator := false, isCoroutine := false }) (by decide +kernel)) (fun _ _ _ _ _ => (show PG _ _ (gTup K 2 _) from pg_tup rfl (pgs_cons (pg_name (i := 11) sc_law_ring.nd rfl (Or.inl rfl)) (pgs_cons (pg_name (i := 12) sc_law_ring.nd rfl (Or.inl rfl)) pgs_nil)))) (fun _ _ _ _ _ => pts_nil) (fun _ _ _ _ _ => (pv 11))))))
    (pss_one (ps_ret (pe_tup (pa_cons (pv 6) (pa_cons (pe_callB call_len_seq (by rfl) T.z_len boot_len (pa_cons (pv 8) pa_nil)) (pa_cons (pe_callB call_len_str (by rfl) T.z_len boot_len (pa_cons (pe_ix ix_list (pv 9) pe_int (fun _ _ => rfl)) pa_nil)) (pa_cons (pe_ix ix_list (pv 9) pe_int (fun _ _ => rfl)) (pa_cons (pe_callB (cr_sum rfl) (by rfl) T.z_sum boot_sum (pa_cons (pe_lc (own := [("_law_part", 11), ("_law_more", 12)]) rfl sc_law_ring.nd (pi_list (pv 8)) (blkOk_by (own := [("_law_part", 11), ("_law_more", 12)]) (N := N_law_ring) (sc := defScope s_law_ring) (by decide +kernel)) (fun _ _ _ _ _ => (show PG _ _ (gTup K 2 _) from pg_tup rfl (pgs_cons (pg_name (i := 11) sc_law_ring.nd rfl (Or.inl rfl)) (pgs_cons (pg_name (i := 12) sc_law_ring.nd rfl (Or.inl rfl)) pgs_nil)))) (fun _ _ _ _ _ => pts_nil) (fun _ _ _ _ _ => (pv 12))) pa_nil)) pa_nil))))))))))))), ?_⟩
  obtain ⟨lv, L, t, rfl, hL, hV, ht, htl, qN, qE⟩ := h
  refine ⟨sz2 (by simp), fun s hs => fun D hD => ⟨sz2 (by simp), fun pl hpl => ⟨_, _, _, rfl, ?_⟩⟩⟩
  have E1 : Ext H (upd H s (.tup [.int 0, .str ""])) := Ext.upd hs
  have hs1 : upd H s (.tup [.int 0, .str ""]) s = some (.tup ((lkey s0).map kV)) := by rw [upd_same, lkey_not rfl, emp_tx]; rfl
  generalize upd H s (.tup [.int 0, .str ""]) = H1 at E1 hs1 hD hpl ⊢
  have hD0 : H D = none := fresh_of E1 hD
  have E2 := Ext.upd (o := .dT []) hD
  have hpl0 : H pl = none := fresh_of (E1.trans E2) hpl
  have nDp : D ≠ pl := fun z => by rw [← z, upd_same] at hpl; cases hpl
  have E3 := Ext.upd (o := .lst []) hpl
  refine ⟨LrW H L lv t D pl, ⟨_, .ref s, [], [], [], _, _, _, _, _, _, _, _, rfl, E1.trans (E2.trans E3), ⟨s, rfl, E3 _ _ (E2 _ _ hs1)⟩, upd_same, .nil, by rw [upd_ne nDp]; exact upd_same, rfl, KeysT.nil _, (fun j hj => absurd hj (Nat.not_lt_zero _)), Rows.nil L s0 t, (fun i j _ hj => absurd hj (Nat.not_lt_zero _)), rfl⟩, ?_⟩
  rintro m σ H2 ⟨v, rs, ys, kvs, x5, x6, x7, x8, x9, x10, x11, x12, rfl, e2, hS, hyl, hPP, hDH, hkl, hK, hval, hR, hinj, rfl⟩
  obtain ⟨va, rfl, hva⟩ := id hS
  have h88 := rows_few hV s0_ok ht hR hinj
  have hlen := paired_len hPP
  have hOk := hR.ok hV s0_ok ht (Nat.le_refl _)
  refine ⟨_, rfl, _, rfl, D, _, rfl, DGet.t hDH hva, _, rfl, ?_⟩
  refine ifb (fun c1 => ?_) (fun c1 => ?_)
  rotate_left
  · -- found
    have c1' : (valV kvs (lkey (stR L s0 t rs.length))).isSome = true := by
      cases z : (valV kvs (lkey (stR L s0 t rs.length))).isSome with
      | true => rfl
      | false => rw [z] at c1; cases c1
    obtain ⟨f, hf, ef⟩ := (hK _).mp c1'
    have hst := hR.keyEq (Nat.le_of_lt hf) (Nat.le_refl _) ef
    have hv := hval f hf
    have hg : DGet H2 D (.ref va) (some (.int (f : Int))) := by
      have z := DGet.t (b := va) hDH hva
      rw [ef, hv] at z
      exact z
    refine ⟨_, rfl, _, rfl, D, _, rfl, hg, ?_⟩
    have rlT := rows_len hV s0_ok ht hR (Nat.le_of_lt hf)
    have rlA := rows_len hV s0_ok ht hR (Nat.le_refl rs.length)
    rw [List.take_length] at rlA
    have ka : rs.length * t.length ≤ 88 * 20 := Nat.mul_le_mul h88 htl
    have sd := sub_tts (rs := rs) f
    have sm := sub_mds (rs := rs) f
    have st : (tts (rs.take f)).length ≤ (tts rs).length := by
      have e : tts rs = tts (rs.take f) ++ tts (rs.drop f) := by rw [← tts_append, List.take_append_drop]
      rw [e, List.length_append]
      omega
    -- the parts ahead, of the ring
    refine ⟨_, rfl, _, rfl, _, rfl, _, _, rfl, sl hyl, fun a1 h1 => ?_⟩
    rw [cutVT (by omega)]
    have F1 := Ext.upd (o := .lst (ys.take f)) h1
    refine ⟨_, rfl, _, rfl, _, rfl, _, _, rfl, sl (F1 _ _ hyl), fun a2 h2 => ?_⟩
    rw [cutVF (by omega)]
    have F2 := Ext.upd (o := .lst (ys.drop f)) h2
    have n12 : a1 ≠ a2 := fun z => by rw [← z, upd_same] at h2; cases h2
    have e3 := e2.trans (F1.trans F2)
    have P1 : IsPairs (upd (upd H2 a1 (.lst (ys.take f))) a2 (.lst (ys.drop f))) a1 (rs.take f) := ⟨_, F2 _ _ upd_same, paired_mono (fun _ _ z => IsPair.mono (Ext.tk (F1.trans F2)) z) (paired_take f hPP)⟩
    have P2 : IsPairs (upd (upd H2 a1 (.lst (ys.take f))) a2 (.lst (ys.drop f))) a2 (rs.drop f) := ⟨_, upd_same, paired_mono (fun _ _ z => IsPair.mono (Ext.tk (F1.trans F2)) z) (paired_drop f hPP)⟩
    generalize upd (upd H2 a1 (.lst (ys.take f))) a2 (.lst (ys.drop f)) = H3 at e3 P1 P2 ⊢
    refine ⟨_, _, rfl, ?_⟩
    -- the two texts
    refine ⟨_, rfl, _, rfl, sz2 (by simp), fun a3 h3 => ⟨_, rfl, ⟨_, sl upd_same⟩, fun D2 hD2 => ?_⟩⟩
    have F3 := Ext.upd (o := .lst [.ref a1, .ref a2]) h3
    have Q1 := P1.mono F3
    have Q2 := P2.mono F3
    have e4 := e3.trans F3
    have ha3 : upd H3 a3 (.lst [.ref a1, .ref a2]) a3 = some (.lst [.ref a1, .ref a2]) := upd_same
    generalize upd H3 a3 (.lst [.ref a1, .ref a2]) = H4 at Q1 Q2 e4 hD2 ha3 ⊢
    have hW : Paired (fun v (q : Prs') => ∃ a, v = V.ref a ∧ IsPairs H4 a q ∧ q.length ≤ 88 ∧ (tts q).length ≤ 900000) [.ref a1, .ref a2] [rs.take f, rs.drop f] :=
      .cons ⟨a1, rfl, Q1, by rw [List.length_take]; omega, by omega⟩ (.cons ⟨a2, rfl, Q2, by rw [List.length_drop]; omega, by omega⟩ .nil)
    refine lc_fm [rs.take f, rs.drop f] (fun _ => true) (fun q => V.str (tx (tts q))) (walk_pairs hW) (Nat.lt_of_lt_of_le (by show 2 < 16777216; omega) sizeBig) hD2 (fun H1 e => sl (e _ _ ha3)) (gm_name 10) (fun i x y Ha Hb hi e5 ⟨e6, q', hc, hr⟩ => ?_) (fun H5 e5 d5 => ?_)
    · subst e6
      rw [hi] at hc
      cases hc
      obtain ⟨pa, rfl, ⟨ws, hws, hWW⟩, hz1, hz2⟩ := hr
      refine ⟨rfl, Ext.rfl', tY rfl, fun _ H6 e6 Q6 q6 => ?_⟩
      refine ⟨⟨_, rfl⟩, _, rfl, _, rfl, ⟨_, sl (e6 _ _ (e5 _ _ hws))⟩, fun D3 hD3 => ?_⟩
      refine lc_fm x (fun _ => true) (fun q => V.str (tx q.1)) (walk_pairs hWW) (Nat.lt_of_lt_of_le (by omega) sizeBig) hD3 (fun H1 e => sl (e _ _ (e6 _ _ (e5 _ _ hws)))) (gm_tup2 11 12) (fun i x y Ha Hb hi e7 ⟨e8, q', hc, hr⟩ => ?_) (fun H7 e7 d7 => ?_)
      · subst e8
        rw [hi] at hc
        cases hc
        obtain ⟨pa, rfl, hpa⟩ := hr
        exact ⟨pa, _, rfl, sq (e7 _ _ (e6 _ _ (e5 _ _ hpa))), rfl, _, _, rfl, _, _, rfl, rfl, rfl, Ext.rfl', tY rfl, fun _ H3 e3 Q3 q3 => ⟨_, rfl, q3 _ Ext.rfl'⟩⟩
      · refine ⟨_, _, (x.map (·.1)).map tx, rfl, rfl, .inl (sl (by rw [d7, filter_tt, List.map_map, List.map_map]; rfl)), ?_, ?_⟩
        · rw [lens_tx, emp_tx, tx_len, List.length_nil]
          show (tts x).length + _ ≤ _
          omega
        · rw [emp_tx, join_tx]
          exact q6 _ e7
    rw [filter_tt] at d5
    have d5' : H5 D2 = some (.lst [.str (tx (tts (rs.take f))), .str (tx (tts (rs.drop f)))]) := d5
    have R2 := Q2.mono e5
    have hlr : (rs.drop f).length = rs.length - f := List.length_drop
    obtain ⟨ws2, hws2, hWW2⟩ := id R2
    have hlw := paired_len hWW2
    have e6 := e4.trans e5
    refine ⟨_, rfl, _, rfl, _, _, rfl, .inl (sl hws2), ?_⟩
    refine ⟨_, rfl, _, _, 0, _, rfl, rfl, sl d5', atI_nat (j := 0) rfl, _, rfl, Nat.le_trans (by rw [tx_len]; omega) sizeBig, ?_⟩
    refine ⟨_, rfl, _, _, 1, _, rfl, rfl, sl d5', atI_nat (j := 1) rfl, ?_⟩
    refine ⟨_, rfl, _, rfl, ⟨_, sl hws2⟩, fun D3 hD3 => ?_⟩
    refine lc_fm (rs.drop f) (fun _ => true) (fun q => V.int ((q.2 : Nat) : Int)) (walk_pairs hWW2) (Nat.lt_of_lt_of_le (by omega) sizeBig) hD3 (fun H1 e => sl (e _ _ hws2)) (gm_tup2 11 12) (fun i x y Ha Hb hi e7 ⟨e8, q', hc, hr⟩ => ?_) (fun H7 e7 d7 => ?_)
    · subst e8
      rw [hi] at hc
      cases hc
      obtain ⟨pa, rfl, hpa⟩ := hr
      exact ⟨pa, _, rfl, sq (e7 _ _ hpa), rfl, _, _, rfl, _, _, rfl, rfl, rfl, Ext.rfl', tY rfl, fun _ H3 e3 Q3 q3 => ⟨_, rfl, q3 _ Ext.rfl'⟩⟩
    refine ⟨_, (rs.drop f).map fun q => ((q.2 : Nat) : Int), rfl, sl (by rw [d7, filter_tt, List.map_map]; rfl), ?_⟩
    rw [mds_sum]
    refine ⟨sz2 (by simp), fun ra hra => ?_⟩
    refine qE rs f hR hf h88 hst _ ra (e6.trans (e7.trans (Ext.upd hra))) ?_
    rw [upd_same, hlw, hlr, tx_len]
  -- the turn
  have hfresh : valV kvs (lkey (stR L s0 t rs.length)) = none := by
    cases z : valV kvs (lkey (stR L s0 t rs.length)) with
    | none => rfl
    | some u => rw [z] at c1; cases c1
  have hinj' : ∀ i j, i < j → j < rs.length + 1 → stR L s0 t i ≠ stR L s0 t j := fun i j hij hj => by
    rcases Nat.lt_succ_iff_lt_or_eq.mp hj with z | z
    · exact hinj i j hij z
    · intro e
      rw [z] at e hij
      have := (hK (lkey (stR L s0 t rs.length))).mpr ⟨i, hij, congrArg lkey e.symm⟩
      rw [hfresh] at this
      cases this
  refine ⟨fun σ' H' => ∃ m', m' < 89 - rs.length ∧ LrW H L lv t D pl m' σ' H', fun _ _ h => h, ?_⟩
  have nDp2 : D ≠ pl := nDp
  refine ⟨_, rfl, _, _, rfl, .inl (sl hyl), _, rfl, _, rfl, D, _, rfl, DPut.t hDH hva (Nat.lt_of_lt_of_le (by omega) sizeBig), ?_⟩
  rw [putK_new _ hfresh]
  have t3 : TK H2 (upd H2 D (.dT (kvs ++ [(lkey (stR L s0 t rs.length), .int (ys.length : Int))]))) := tk_upd hDH (fun _ z => by cases z)
  have e3 : Ext H (upd H2 D (.dT (kvs ++ [(lkey (stR L s0 t rs.length), .int (ys.length : Int))]))) := fun x o hx => by
    rw [upd_ne (fun z => by rw [z, hD0] at hx; cases hx)]
    exact e2 _ _ hx
  have hva3 := t3 _ _ hva
  have hyl3 : upd H2 D (.dT (kvs ++ [(lkey (stR L s0 t rs.length), .int (ys.length : Int))])) pl = some (.lst ys) := by rw [upd_ne nDp.symm]; exact hyl
  have hDH3 : upd H2 D (.dT (kvs ++ [(lkey (stR L s0 t rs.length), .int (ys.length : Int))])) D = some (.dT (kvs ++ [(lkey (stR L s0 t rs.length), .int (ys.length : Int))])) := upd_same
  have hPP3 : Paired (IsPair (upd H2 D (.dT (kvs ++ [(lkey (stR L s0 t rs.length), .int (ys.length : Int))])))) ys rs := paired_mono (fun _ _ z => IsPair.mono t3 z) hPP
  generalize upd H2 D (.dT (kvs ++ [(lkey (stR L s0 t rs.length), .int (ys.length : Int))])) = H3 at e3 hva3 hyl3 hDH3 hPP3 ⊢
  refine ⟨_, rfl, _, rfl, _, rfl, lv, .ref va, L, stR L s0 t rs.length, t, rfl, hL.mono (Ext.tk e3), hV, ⟨va, rfl, hva3⟩, hOk, ht, htl, fun H4 u e4 hv => ?_⟩
  cases hfe : feedL L (stR L s0 t rs.length) t with
  | none =>
    rw [hfe] at hv
    have hv' : u = .non := hv
    subst hv'
    refine ⟨_, rfl, rfl, _, rfl, if_t rfl ?_⟩
    refine qN (rs.length + 1) (by omega) ?_ H4 (e3.trans e4)
    rw [pw_last, feedL_app, hR.all, Option.bind_some]
    dsimp only
    rw [hfe]
    rfl
  | some x =>
    rw [hfe] at hv
    obtain ⟨p, u', rfl, hp, hu⟩ := hv
    obtain ⟨hR', hst'⟩ := hR.snoc hfe
    refine ⟨_, rfl, rfl, _, rfl, if_f rfl ?_⟩
    have hyl4 := e4 _ _ hyl3
    have hDH4 := e4 _ _ hDH3
    refine ⟨_, rfl, tyL hyl4, _, rfl, _, rfl, _, _, rfl, sq hp, by show ¬(HT.sIx 3 0 none = 0 ∧ HT.sIx 3 3 (some 2) = 3); decide, fun p2 hp2 => ?_⟩
    have F5 := Ext.upd (o := .tup (cutV [.str (tx x.1), .int (x.2.1 : Int), .ref u'] none (some 2))) hp2
    have hp2' : upd H4 p2 (.tup (cutV [.str (tx x.1), .int (x.2.1 : Int), .ref u'] none (some 2))) p2 = some (.tup [.str (tx x.1), .int (x.2.1 : Int)]) := upd_same
    have hPP5 : Paired (IsPair (upd H4 p2 (.tup (cutV [.str (tx x.1), .int (x.2.1 : Int), .ref u'] none (some 2))))) (ys ++ [.ref p2]) (rs ++ [(x.1, x.2.1)]) := paired_snoc ⟨p2, rfl, hp2'⟩ (paired_mono (fun _ _ z => IsPair.mono (Ext.tk (e4.trans F5)) z) hPP3)
    have e5 := e3.trans (e4.trans F5)
    have hyl5 := F5 _ _ hyl4
    have hDH5 := F5 _ _ hDH4
    have hp5 := F5 _ _ hp
    have hu5 := F5 _ _ hu
    generalize upd H4 p2 (.tup (cutV [.str (tx x.1), .int (x.2.1 : Int), .ref u'] none (some 2))) = H5 at hPP5 e5 hyl5 hDH5 hp5 hu5 ⊢
    refine ⟨_, _, _, rfl, rfl, hyl5, Nat.lt_of_lt_of_le (by omega) sizeBig, ?_⟩
    have t6 : TK H5 (upd H5 pl (.lst (ys ++ [.ref p2]))) := tk_upd hyl5 (fun _ z => by cases z)
    refine ⟨_, rfl, _, _, 2, _, rfl, rfl, sq (t6 _ _ hp5), atI_nat (j := 2) rfl, ?_⟩
    have hl1 : (rs ++ [(x.1, x.2.1)]).length = rs.length + 1 := by rw [List.length_append]; rfl
    refine ⟨89 - (rs.length + 1), by omega, .ref u', rs ++ [(x.1, x.2.1)], ys ++ [.ref p2], kvs ++ [(lkey (stR L s0 t rs.length), .int (ys.length : Int))], some (.ref p), x6, x7, x8, x9, x10, x11, x12, rfl, fun y o hy => ?_, ?_, upd_same, paired_mono (fun _ _ z => IsPair.mono t6 z) hPP5, by rw [upd_ne nDp]; exact hDH5, by rw [List.length_append, hkl, hl1]; rfl, ?_, ?_, hR', by rw [hl1]; exact hinj', by rw [hl1]⟩
    · rw [upd_ne (fun z => by rw [z, hpl0] at hy; cases hy)]
      exact e5 _ _ hy
    · rw [hl1, hst']
      exact ⟨u', rfl, t6 _ _ hu5⟩
    · rw [hl1]
      exact KeysT.snoc (f := fun j => lkey (stR L s0 t j)) hK hfresh
    · rw [hl1]
      intro j hj
      rw [valV_snoc (lkey (stR L s0 t rs.length)) _ _ kvs hfresh]
      rcases Nat.lt_succ_iff_lt_or_eq.mp hj with z | z
      · rw [if_neg (fun e => by
          have := hval j z
          rw [e, hfresh] at this
          cases this)]
        exact hval j z
      · rw [z, if_pos rfl, hlen]
end
end OB
set_option Elab.async false
set_option linter.all false
set_option maxRecDepth 100000
set_option maxHeartbeats 4000000
namespace OB
open PySem PySem.Spec PySem.Calls PyProof.Rows L2 PySem.W StX
section
variable {X : Cx} {k : Nat} {f : Addr} {sp : Sp} {x : Str} {q pos : Pos} {e : Expr} {es : List Expr} {t : TA} {CX : CXT}
theorem run_fnRS {pins : List (Addr × Obj)} {σ : L2.St} {H : Hp} {s : Shared} {Q : VK} {us : List Value} {vs : List V} {E : L2.St → XK} (F : FnR X.prog X.w X.K X.mg X.base CX k f sp) (hr : Room k X.A) (hx : PassesAt CX X σ (E σ))
    (I : Inv X pins σ H s) (r : Vals vs us) (h : sp vs H Q (E σ)) : wpAny (model X.prog X.w) X.A (call (.ref f) us) (EP X pins σ Q) X.xe s := by
  refine wpAny_call (codeAny_mono (F X.A X.stack s H us vs Q (E σ) hr I.env0 r h) fun r s' hq => ?_)
  cases r with
  | error e => exact hx pins H s e s' I hq
  | ok fl =>
    cases fl with
    | ret u => exact I.after hq
    | next => exact False.elim hq
    | brk => exact False.elim hq
    | cont => exact False.elim hq
/-- a call that may raise, where exceptions are caught -/
theorem pe_fS {E : L2.St → XK} (F : FnR X.prog X.w X.K X.mg X.base CX k f sp) (hm : X.mg x = some (.ref f)) (hk : keepIn X.K (.ref f) = true) (hr : Room k X.A) (hx : ∀ σ, PassesAt CX X σ (E σ)) (ha : PA X (e :: es) t) (hg : Gl X x := by rfl) (hdb : (x == ("__debug__" : Str)) = false := by decide)
    (he : starEach (e :: es) X.env = (false, eval e X.env) :: starEach es X.env := by rfl) (hpl : (backTo pos (starEach es X.env)).any (·.1) = false := by rfl) : PE X (.Call (.Name x q) (e :: es) [] pos) (tCallS sp E t) := by
  refine ⟨fun pins s σ H Q I h => ?_⟩
  refine wpAny_Call_Name_kw (ld_glob I hg hm ?_ hdb)
  refine callWith_K (h₀ := X.base) I.ok.mod.kin hk (thn (ha.run pos pins s σ H _ I h) fun us s1 ⟨vs, H1, I1, r, q⟩ => ⟨I1.kIn, ?_⟩) he hpl
  exact run_fnRS F hr (hx σ) I1 r q
end
end OB
set_option Elab.async false
set_option linter.all false
set_option maxRecDepth 100000
set_option maxHeartbeats 4000000
namespace OB
open PySem PySem.Spec PySem.Calls PyProof.Rows L2 PySem.W StX
section
variable {P : Program} {w : World} {K : Frag} {mg : Str → Option Value} {base : Heap}
/- _law_told: slots _law_loop_here=0 _law_home=1 -/
def sp_law_told (K : Frag) : Sp := fun vs H Q _ => ∃ lv rv L ps, vs = [lv, rv] ∧ IsLo H lv L ∧ VLo L ∧ IsRep K H rv ps ∧ Upto 20 ps ∧ ps.length ≤ 100 ∧ (∀ q ∈ ps, q.2 < 2 ^ 4000) ∧
  (whole L (den ps) = none → ∀ H', Ext H H' → Q .non H') ∧
  (∀ x, whole L (den ps) = some x → ∀ H' v ws, Ext H H' → IsRes K H' v ws x.2.1 x.2.2 → den ws = x.1 → ws.length ≤ 400 * ps.length + 600 → Q v H')
def N_law_told : List Str := ["_law_loop_here", "_law_home"]
theorem sc_law_told : FnScope N_law_told ["_law_loop_here", "_law_home"] (defScope s_law_told) := ⟨rfl, rfl, rfl, by decide +kernel, rfl, by decide +kernel, by decide +kernel⟩
theorem ok_law_told (T : Txt K mg w) : FnR P w K mg base CX0 12 (He.ga K "_law_told") (sp_law_told K) := by
  refine ok_of T.f_law_told sc_law_told (fun _ _ _ _ _ _ us hl => match us, hl with | [_, _], _ => rfl) (fun vs H Q E h => ?_) (fun cdv A outer s H vs Q E hr h => ?_)
  · repeat (first | (obtain ⟨rfl, _⟩ := h; rfl) | (obtain ⟨_, h⟩ := h))

  refine ⟨_, pss_one (ps_try_only (c := .ref (He.ga K "Endless")) (Wout := fun _ _ _ _ => False)
      (tb := fun W => tRet (tCallS (sp_run_far K) (WE W) (tCons (tTup (tCons (tVar 0) tNil)) (tCons (tVar 1) tNil)))) (ts := fun _ _ _ => tRet (tC .non))
      rfl rfl ⟨rfl, by decide, .inl T.endless.gC⟩ takes_none5 (fun W pn xe tk _ => pss_one (ps_ret (pe_fS (ok_run_far T) T.g_run_far (kp_of T.f_run_far) (hr.mono (by decide)) (fun σ => passAt tk σ) (pa_cons (pe_tup (pa_cons (pv 0) pa_nil)) (pa_cons (pv 1) pa_nil)))))
      (fun a oe cls d pn _ _ => pss_one (ps_ret pe_non))), ?_⟩
  obtain ⟨lv, rv, L, ps, rfl, hL, hV, hR, hU, hz, hn, qN, qE⟩ := h
  refine ⟨_, rfl, sz2 (by simp), fun p hp => ⟨_, rfl, ?_⟩⟩
  have E1 := Ext.upd (o := .tup [lv]) hp
  refine ⟨p, lv, rv, ps, L, rfl, upd_same, hL.mono (Ext.tk E1), hV, hR.mono E1, hU, hz, hn, fun h0 H' d e => ?_, fun x hx H' v ws e hr hd hl => qE x hx H' v ws (E1.trans e) hr hd hl⟩
  exact ⟨true, T.eexm, fun _ a _ => qN h0 H' (E1.trans e), fun z => by cases z⟩
end
end OB
set_option Elab.async false
set_option linter.all false
set_option maxRecDepth 100000
set_option maxHeartbeats 4000000
namespace OB
/-! ### the ring, wound more often -/
theorem Rows.ring {L : Lo} {s : S} {t : List Nat} {rs : Prs'} (h : Rows L s t rs) {f : Nat} (hf : f < rs.length) (hs : stR L s t rs.length = stR L s t f) (q i : Nat) (hi : i ≤ rs.length - f) :
    feedL L s (pw t (f + ((rs.length - f) * q + i))) = some (tts (rs.take f) ++ (pw (tts (rs.drop f)) q ++ tts ((rs.drop f).take i)), mds (rs.take f) + (mds (rs.drop f) * q + mds ((rs.drop f).take i)), stR L s t (f + i)) := by
  have h1 := h.from (j := f) (r := rs.length - f) (by omega)
  have hd : (rs.drop f).length = rs.length - f := List.length_drop
  rw [← hd, List.take_length, hd, show f + (rs.length - f) = rs.length by omega, hs] at h1
  have h2 := feed_pow h1 q
  rw [pw_mul] at h2
  have h3 := h.from (j := f) (r := i) (by omega)
  have h4 := feed_join h2 h3
  rw [← pw_add] at h4
  have h5 := feed_join (h f (by omega)) h4
  rw [← pw_add] at h5
  exact h5
/-- one more round, m times -/
theorem two_wholes {L : Lo} {t : List Nat} {rs : Prs'} (h : Rows L s0 t rs) {f : Nat} (hf : f < rs.length) (hs : stR L s0 t rs.length = stR L s0 t f) (c m : Nat) :
    (whole L (pw t (f + c)) = none ∧ whole L (pw t (f + c + (rs.length - f) * m)) = none) ∨
    ∃ rest n b, whole L (pw t (f + c)) = some (tts (rs.take f) ++ rest, n, b) ∧ whole L (pw t (f + c + (rs.length - f) * m)) = some (tts (rs.take f) ++ (pw (tts (rs.drop f)) m ++ rest), n + m * mds (rs.drop f), b) := by
  have hp : 0 < rs.length - f := by omega
  generalize hpp : rs.length - f = p at hp
  have hm := Nat.mod_lt c hp
  have hc := Nat.div_add_mod c p
  have r1 := h.ring hf hs (c / p) (c % p) (by omega)
  have r2 := h.ring hf hs (m + c / p) (c % p) (by omega)
  rw [hpp, hc] at r1
  rw [hpp, Nat.mul_add, Nat.add_assoc (p * m), hc, ← Nat.add_assoc, Nat.add_right_comm] at r2
  unfold whole
  rw [r1, r2, Option.bind_some, Option.bind_some]
  dsimp only
  cases e : fin L (stR L s0 t (f + c % p)) with
  | none => exact .inl ⟨rfl, rfl⟩
  | some y =>
    refine .inr ⟨pw (tts (rs.drop f)) (c / p) ++ tts ((rs.drop f).take (c % p)) ++ y.1, mds (rs.take f) + (mds (rs.drop f) * (c / p) + mds ((rs.drop f).take (c % p))) + y.2.1, y.2.2, ?_, ?_⟩
    · rw [Option.bind_some, List.append_assoc]
    · rw [Option.bind_some, pw_add]
      have e1 : tts (rs.take f) ++ (pw (tts (rs.drop f)) m ++ pw (tts (rs.drop f)) (c / p) ++ tts ((rs.drop f).take (c % p))) ++ y.1 = tts (rs.take f) ++ (pw (tts (rs.drop f)) m ++ (pw (tts (rs.drop f)) (c / p) ++ tts ((rs.drop f).take (c % p)) ++ y.1)) := by
        simp only [List.append_assoc]
      have e2 : mds (rs.take f) + (mds (rs.drop f) * (m + c / p) + mds ((rs.drop f).take (c % p))) + y.2.1 = mds (rs.take f) + (mds (rs.drop f) * (c / p) + mds ((rs.drop f).take (c % p))) + y.2.1 + m * mds (rs.drop f) := by
        rw [Nat.mul_add, Nat.mul_comm (mds (rs.drop f)) m]
        omega
      rw [e1, e2]
/-- how much may be left -/
theorem whole_len {L : Lo} (hV : VLo L) {l : List Nat} (hl : Letters l) {x : List Nat × Nat × Bool} (e : whole L l = some x) : x.1.length ≤ 510 * l.length + 600 := by
  unfold whole at e
  cases h1 : feedL L s0 l with
  | none => rw [h1] at e; cases e
  | some y =>
    rw [h1, Option.bind_some] at e
    have k := feedL_ok hV l s0 s0_ok hl y h1
    cases h2 : fin L y.2.2 with
    | none => rw [h2] at e; cases e
    | some z =>
      rw [h2, Option.bind_some] at e
      cases e
      dsimp only
      rw [List.length_append]
      have k1 := k.len
      have z1 : z.1.length ≤ 600 := by
        rcases never_or_ends L 1 y.2.2 with hk | ⟨q, hk⟩
        · rw [fin_never hk] at h2
          cases h2
        · rw [fin_ends hk] at h2
          cases h2
          have O3 : OkS 3 y.2.2 := ⟨k.st.mark, k.st.let_, Nat.le_trans k.st.len (by decide), k.st.brk⟩
          have hf := ends_few hV O3 hk
          have hw := wl_len hV O3 q hk.1
          have he : (if (stN L y.2.2 q).brk = true then [] else L.ends.getD (stN L y.2.2 q).mark []).length ≤ 4 := by
            split
            · exact Nat.zero_le _
            · rw [List.getD_eq_getElem?_getD]
              cases c : L.ends[(stN L y.2.2 q).mark]? with
              | none => exact Nat.zero_le _
              | some v => exact (hV.ends v (List.mem_of_getElem? c)).2
          dsimp only
          rw [List.length_append]
          omega
      omega
theorem whole_dead {L : Lo} {t : List Nat} {j : Nat} (h : feedL L s0 (pw t j) = none) {n : Nat} (hn : j ≤ n) : whole L (pw t n) = none := by
  unfold whole
  rw [show n = j + (n - j) by omega, pw_add, feedL_app, h]
  rfl
end OB
set_option Elab.async false
set_option linter.all false
set_option maxRecDepth 100000
set_option maxHeartbeats 4000000
namespace OB
open PySem PySem.Spec PySem.Calls PyProof.Rows L2 PySem.W StX
theorem mem_lenP : ∀ {ps : Prs'} {q : List Nat × Nat}, q ∈ ps → q.1 ≠ [] → q.2 ≤ lenP ps
  | p :: r, q, h, hq => by
    rcases List.mem_cons.mp h with e | e
    · rw [← e]
      have h1 : 0 < q.1.length := List.length_pos_iff.mpr hq
      have h2 : 1 * q.2 ≤ q.1.length * q.2 := Nat.mul_le_mul_right _ h1
      show q.2 ≤ q.1.length * q.2 + lenP r
      omega
    · have := mem_lenP e hq
      show q.2 ≤ p.1.length * p.2 + lenP r
      omega
/-- what a list made of few pairs asks of run_far -/
theorem rep_fit {ps ps' : Prs'} (hd : den ps' = den ps) (hg : Good ps') (hl : Less ps' ps) (hu : Upto 20 ps) (hz : lenP ps < 2 ^ 4000) : Upto 20 ps' ∧ ps'.length ≤ ps.length ∧ ∀ q ∈ ps', q.2 < 2 ^ 4000 := by
  refine ⟨hl.2 20 hu, hl.1, fun q hq => ?_⟩
  have h1 := mem_lenP hq (hg.norm q hq).1
  rw [← den_len, hd, den_len] at h1
  exact Nat.lt_of_le_of_lt h1 hz
theorem eqv_int1 (n : Int) : PyData.eqv (.tuple [.int n]) (.tuple [.int n]) = true := by
  simp [PyData.eqv, PyData.eqvAll]
theorem eqv_way (b : Bool) : ∃ z, wayV b = .str z ∧ PyData.eqv (.tuple [.str z]) (.tuple [.str z]) = true ∧ SeqAt.shaped (.tuple [.str z]) = true := by
  cases b
  · exact ⟨_, rfl, by simp [PyData.eqv, PyData.eqvAll], by decide +kernel⟩
  · exact ⟨_, rfl, by simp [PyData.eqv, PyData.eqvAll], by decide +kernel⟩
theorem p60 : (10 : Int) ^ ((60 : Int).toNat) = ((10 ^ 60 : Nat) : Int) := by decide +kernel
theorem p58 : (10 : Int) ^ ((58 : Int).toNat) = ((10 ^ 58 : Nat) : Int) := by decide +kernel
theorem p60' : (60 : Int).toNat = 60 := rfl
theorem big_ok {a b : Nat} (ha : a ≤ 20) (hb : b ≤ 10 ^ 60) : 510 * (a * b) + 600 < 2 ^ 4000 := by
  have h1 : a * b ≤ 20 * 10 ^ 60 := Nat.mul_le_mul ha hb
  have h2 : (2 : Nat) ^ 300 ≤ 2 ^ 4000 := Nat.pow_le_pow_right (by decide) (by decide)
  have h3 : 510 * (20 * 10 ^ 60) + 600 < 2 ^ 300 := by decide +kernel
  omega
end OB
set_option Elab.async false
set_option linter.all false
set_option maxRecDepth 100000
set_option maxHeartbeats 4000000
namespace OB
open PySem PySem.Spec PySem.Calls PyProof.Rows L2 PySem.W StX
section
variable {P : Program} {w : World} {K : Frag} {mg : Str → Option Value} {base : Heap}
/- _law_right: slots _law_bag_here=0 _law_loop_here=1 _law_some=2 _law_ring_here=3 _law_first=4 _law_size=5 _law_at=6 _law_written=7 _law_passes=8 _law_copies=9 _law_many=10 _law_one=11 _law_other=12 _law_longer_one=13 -/
def sp_law_right (K : Frag) : Sp := fun vs H Q _ => ∃ g lv L t, vs = [.ref g, lv, .str (tx t)] ∧ BagAt H g ∧ IsLo H lv L ∧ VLo L ∧ Letters t ∧ t.length ≤ 20 ∧ ∀ H', Kp [g] H H' → BagAt H' g → Q (.bl true) H'
def N_law_right : List Str := ["_law_bag_here", "_law_loop_here", "_law_some", "_law_ring_here", "_law_first", "_law_size", "_law_at", "_law_written", "_law_passes", "_law_copies", "_law_many", "_law_one", "_law_other", "_law_longer_one"]
theorem sc_law_right : FnScope N_law_right ["_law_bag_here", "_law_loop_here", "_law_some"] (defScope s_law_right) := ⟨rfl, rfl, rfl, by decide +kernel, rfl, by decide +kernel, by decide +kernel⟩
theorem ok_law_right (T : Txt K mg w) : FnR P w K mg base CX0 13 (He.ga K "_law_right") (sp_law_right K) := by
  refine ok_of T.f_law_right sc_law_right (fun _ _ _ _ _ _ us hl => match us, hl with | [_, _, _], _ => rfl) (fun vs H Q E h => ?_) (fun cdv A outer s H vs Q E hr h => ?_)
  · repeat (first | (obtain ⟨rfl, _⟩ := h; rfl) | (obtain ⟨_, h⟩ := h))
  refine ⟨_, (pss_cons (ps_set (i := 3) sc_law_right.nd rfl (Or.inl rfl) (pe_f (ok_law_ring T) T.g_law_ring (kp_of T.f_law_ring) (hr.mono (by decide)) pass0 (pa_cons (pv 1) (pa_cons (pv 2) pa_nil))))
    (pss_cons (ps_if (PW.pt (pw_or (pt_cmpR op_isN (pv 3) pe_non (nomark _)) (pw_or1 (pt_cmpR op_gt (pe_callB call_len_str (by rfl) T.z_len boot_len (pa_cons (pe_ix ix_tup (pv 3) pe_int (fun _ _ => rfl)) pa_nil)) pe_int (nomark _)))))
      (pss_one (ps_ret (pe_or (pe_cmpR op_notN (pv 3) pe_non (nomark _)) (pe_one (pe_cmpR op_isN (pe_f (ok_law_told T) T.g_law_told (kp_of T.f_law_told) (hr.mono (by decide)) pass0 (pa_cons (pv 1) (pa_cons (pe_mk (ok_Repeats_init T) T.m_Repeats T.g_Repeats (hr.mono (by decide)) pass0 (pa_cons (pe_lst (pa_cons (pe_tup (pa_cons (pv 2) (pa_cons (pe_op op_pow pe_int pe_int) pa_nil))) pa_nil)) pa_nil)) pa_nil))) pe_non (nomark _))))))
      pss_nil)
    (pss_cons (ps_asg (pv 3) (pg_tup rfl (pgs_cons (pg_name (i := 4) sc_law_right.nd rfl (Or.inl rfl)) (pgs_cons (pg_name (i := 5) sc_law_right.nd rfl (Or.inl rfl)) (pgs_cons (pg_name (i := 6) sc_law_right.nd rfl (Or.inl rfl)) (pgs_cons (pg_name (i := 7) sc_law_right.nd rfl (Or.inl rfl)) (pgs_cons (pg_name (i := 8) sc_law_right.nd rfl (Or.inl rfl)) pgs_nil)))))))
    (pss_cons (ps_par (i := 9) (j := 10) rfl sc_law_right.nd rfl rfl (by decide) rfl rfl (pa_cons (pe_op op_add (pv 4) (pe_f (ok_law_take T) T.g_law_take (kp_of T.f_law_take) (hr.mono (by decide)) pass0 (pa_cons (pv 0) (pa_cons (pe_op op_mul pe_int (pv 5)) pa_nil)))) (pa_cons (pe_f (ok_law_take T) T.g_law_take (kp_of T.f_law_take) (hr.mono (by decide)) pass0 (pa_cons (pv 0) (pa_cons (pe_op op_pow pe_int pe_int) pa_nil))) pa_nil)) (by rfl))
    (pss_cons (ps_par (i := 11) (j := 12) rfl sc_law_right.nd rfl rfl (by decide) rfl rfl (pa_cons (pe_f (ok_law_told T) T.g_law_told (kp_of T.f_law_told) (hr.mono (by decide)) pass0 (pa_cons (pv 1) (pa_cons (pe_mk (ok_Repeats_init T) T.m_Repeats T.g_Repeats (hr.mono (by decide)) pass0 (pa_cons (pe_lst (pa_cons (pe_tup (pa_cons (pv 2) (pa_cons (pv 9) pa_nil))) pa_nil)) pa_nil)) pa_nil))) (pa_cons (pe_f (ok_law_told T) T.g_law_told (kp_of T.f_law_told) (hr.mono (by decide)) pass0 (pa_cons (pv 1) (pa_cons (pe_mk (ok_Repeats_init T) T.m_Repeats T.g_Repeats (hr.mono (by decide)) pass0 (pa_cons (pe_lst (pa_cons (pe_tup (pa_cons (pv 2) (pa_cons (pe_op op_add (pv 9) (pe_op op_mul (pv 5) (pv 10))) pa_nil))) pa_nil)) pa_nil)) pa_nil))) pa_nil)) (by rfl))
    (pss_cons (ps_if (PW.pt (pw_or (pt_cmpR op_isN (pv 11) pe_non (nomark _)) (pw_or1 (pt_cmpR op_isN (pv 12) pe_non (nomark _)))))
      (pss_one (ps_ret (pe_and (pe_cmpR op_isN (pv 11) pe_non (nomark _)) (pe_one (pe_cmpR op_isN (pv 12) pe_non (nomark _))))))
      pss_nil)
    (pss_cons (ps_set (i := 13) sc_law_right.nd rfl (Or.inl rfl) (pe_op (op_addO (fo := .Add) (ok_Repeats_add T) T.rfirst T.mt_Repeats_add.at_ T.mt_Repeats_add.fn pass0 (hr.mono (by decide))) (pe_op (op_addO (fo := .Add) (ok_Repeats_add T) T.rfirst T.mt_Repeats_add.at_ T.mt_Repeats_add.fn pass0 (hr.mono (by decide))) (pe_met (ok_Repeats_part T) T.c_Repeats T.mt_Repeats_part (hr.mono (by decide)) pass0 (pe_prR (ok_Result_text T) T.c_Result T.p_Result_text (hr.mono (by decide)) pass0 (pv 11)) (pa_cons pe_int (pa_cons (pv 6) pa_nil))) (pe_op (op_mulO (ok_Repeats_mul T) T.rfirst T.mt_Repeats_mul.at_ T.mt_Repeats_mul.fn T.rrmul T.imul T.irmul T.isub pass0 (hr.mono (by decide))) (pe_cm (ok_Repeats_once T) T.crd T.cmt (hr.mono (by decide)) pass0 (pe_gr T.g_Repeats) (pa_cons (pv 7) pa_nil)) (pv 10))) (pe_met (ok_Repeats_part T) T.c_Repeats T.mt_Repeats_part (hr.mono (by decide)) pass0 (pe_prR (ok_Result_text T) T.c_Result T.p_Result_text (hr.mono (by decide)) pass0 (pv 11)) (pa_cons (pv 6) (pa_cons (pe_prR (ok_Repeats_length T) T.c_Repeats T.p_Repeats_length (hr.mono (by decide)) pass0 (pe_prR (ok_Result_text T) T.c_Result T.p_Result_text (hr.mono (by decide)) pass0 (pv 11))) pa_nil)))))
    (pss_cons (ps_if (PW.pt (pw_or (pt_cmpR (op_neR (ok_Repeats_eq T) T.mt_Repeats_eq.at_ T.rne T.rmro T.mt_Repeats_eq.fn pass0 (hr.mono (by decide))) (pe_prR (ok_Result_text T) T.c_Result T.p_Result_text (hr.mono (by decide)) pass0 (pv 12)) (pv 13) (nomark _)) (pw_or1 (pt_cmpR (op_neD hr.units) (pe_prR (ok_Result_passes T) T.c_Result T.p_Result_passes (hr.mono (by decide)) pass0 (pv 12)) (pe_tup (pa_cons (pe_op op_add (pe_ix ix_tup (pe_prR (ok_Result_passes T) T.c_Result T.p_Result_passes (hr.mono (by decide)) pass0 (pv 11)) pe_int (fun _ _ => rfl)) (pe_op op_mul (pv 10) (pv 8))) pa_nil)) (nomark _)))))
      (pss_one (ps_ret pe_bl))
      pss_nil)
    (pss_one (ps_ret (pe_cmpR (op_eqD hr.units) (pe_prR (ok_Result_ways T) T.c_Result T.p_Result_ways (hr.mono (by decide)) pass0 (pv 12)) (pe_prR (ok_Result_ways T) T.c_Result T.p_Result_ways (hr.mono (by decide)) pass0 (pv 11)) (nomark _)))))))))))), ?_⟩
  obtain ⟨g, lv, L, t, rfl, hB, hL, hV, ht, htl, q⟩ := h
  have okp : ∀ n : Nat, n ≤ 10 ^ 60 → OkPair (t, n) := fun n hn => ⟨ht, htl, hn⟩
  have fit : ∀ (n : Nat) (ps' : Prs'), n ≤ 10 ^ 60 → den ps' = den [(t, n)] → Good ps' → Less ps' [(t, n)] → Upto 20 ps' ∧ ps'.length ≤ 1 ∧ ∀ q ∈ ps', q.2 < 2 ^ 4000 := fun n ps' hn hd hg hl =>
    rep_fit hd hg hl (fun x hx => by rw [List.mem_singleton.mp hx]; exact htl) (by
      show t.length * n + 0 < 2 ^ 4000
      have := big_ok htl hn
      omega)
  refine ⟨_, rfl, _, rfl, lv, L, t, rfl, hL, hV, ht, htl, fun j hj h0 H1 e1 => ?_, fun rs f hR hf h88 hst H1 a e1 ha => ?_⟩
  · -- no ring: it never ends
    refine ⟨_, rfl, rfl, _, rfl, if_t rfl (if_t rfl ?_)⟩
    refine ⟨_, rfl, rfl, _, rfl, if_f rfl ?_⟩
    refine ⟨_, rfl, _, rfl, _, _, rfl, rfl, ⟨by decide, by decide, by decide⟩, ?_⟩
    dsimp only
    rw [p60]
    refine ⟨sz2 (by simp), fun p hp => ⟨sz2 (by simp), fun l hl => ?_⟩⟩
    have E2 := (Ext.upd (o := .tup [.str (tx t), .int ((10 ^ 60 : Nat) : Int)]) hp).trans (Ext.upd (o := .lst [.ref p]) hl)
    have npl : p ≠ l := fun z => by rw [← z, upd_same] at hl; cases hl
    have hPl : IsPairs (upd (upd H1 p (.tup [.str (tx t), .int ((10 ^ 60 : Nat) : Int)])) l (.lst [.ref p])) l [(t, 10 ^ 60)] := ⟨[.ref p], upd_same, .cons ⟨p, rfl, by rw [upd_ne npl, upd_same]⟩ .nil⟩
    generalize upd (upd H1 p (.tup [.str (tx t), .int ((10 ^ 60 : Nat) : Int)])) l (.lst [.ref p]) = H2 at E2 hPl ⊢
    intro x1 dx1 n1 n2 n3
    refine ⟨x1, dx1, .ref l, [(t, 10 ^ 60)], rfl, upd_same, .inr ⟨l, rfl, hPl.mono (ext_made n1 n2), by simp, fun q hq => by rw [List.mem_singleton.mp hq]; exact okp _ (Nat.le_refl _)⟩, fun H3 l3 ps' k3 hx3 hP3 hd hg hn _ => ⟨rfl, ?_⟩⟩
    have e3 := kp_made n1 n2 k3
    have E3 := e1.trans (E2.trans e3)
    obtain ⟨u1, u2, u3⟩ := fit _ ps' (Nat.le_refl _) hd hg hn
    have hw : whole L (den ps') = none := by
      rw [hd, den_one]
      exact whole_dead h0 (Nat.le_trans hj (by decide))
    refine ⟨lv, .ref x1, L, ps', rfl, hL.mono (Ext.tk E3), hV, ⟨x1, dx1, l3, rfl, hx3, hP3, hg⟩, u1, by omega, u3, fun _ H4 e4 => ?_, fun x hx => by rw [hw] at hx; cases hx⟩
    refine ⟨rfl, ?_⟩
    exact q H4 (Kp.of (E3.trans e4)) (hB.mono (E3.trans e4))
  · -- the ring
    have rl1 := (rows_len hV s0_ok ht hR (Nat.le_of_lt hf)).1
    have hp1 : 0 < rs.length - f := by omega
    refine ⟨_, rfl, rfl, _, rfl, if_f rfl ?_⟩
    refine ⟨_, rfl, _, _, 3, _, rfl, rfl, sq ha, atI_nat (j := 3) rfl, _, rfl, Nat.le_trans (by
      have rlA := (rows_len hV s0_ok ht hR (Nat.le_refl rs.length)).1
      rw [List.take_length] at rlA
      have ka : rs.length * t.length ≤ 88 * 20 := Nat.mul_le_mul h88 htl
      have := sub_tts (rs := rs) f
      rw [tx_len]; omega) sizeBig, _, _, rfl, rfl, _, rfl, ?_⟩
    refine ifb (fun c1 => ?_) (fun c1 => ?_)
    · refine ⟨_, rfl, rfl, _, rfl, if_t rfl ?_⟩
      exact q H1 (Kp.of e1) (hB.mono e1)
    have c1' := of_decide_eq_false c1
    rw [tx_len] at c1'
    refine ⟨_, rfl, _, _, rfl, sq ha, rfl, _, _, rfl, _, _, rfl, _, _, rfl, _, _, rfl, _, _, rfl, rfl, ?_⟩
    have hmrb : mds (rs.drop f) ≤ 880000 := by
      have rlA := (rows_len hV s0_ok ht hR (Nat.le_refl rs.length)).2
      rw [List.take_length] at rlA
      have ka : rs.length * t.length ≤ 88 * 20 := Nat.mul_le_mul h88 htl
      have := sub_mds (rs := rs) f
      omega
    have hrab : Letters (tts (rs.drop f)) := by
      have z := feedL_ok hV (pw t (rs.length - f)) (stR L s0 t f) (hR.ok hV s0_ok ht (Nat.le_of_lt hf)) (by
        unfold pw
        exact flat_letters fun w hw => by rw [(List.mem_replicate.mp hw).2]; exact ht) _ (hR.from (j := f) (r := rs.length - f) (by omega))
      have z1 := z.let_
      dsimp only at z1
      rw [← List.length_drop, List.take_length] at z1
      exact z1
    generalize hrr : tts (rs.drop f) = r at ha c1' hrab ⊢
    generalize hmr : mds (rs.drop f) = mr at ha hmrb ⊢
    generalize hpp : rs.length - f = p at ha hp1 ⊢
    have hp88 : p ≤ 88 := by omega
    -- copies, many
    refine ⟨_, rfl, _, rfl, _, rfl, _, _, rfl, rfl, .inl ⟨by decide, by decide⟩, ?_⟩
    refine ⟨g, 2 * (p : Int), rfl, hB.mono e1, by omega, by omega, fun H2 c k2 b2 hc => ⟨_, _, rfl, rfl, ?_⟩⟩
    dsimp only
    rw [ad_nat]
    refine ⟨_, rfl, _, _, rfl, rfl, ⟨by decide, by decide, by decide⟩, ?_⟩
    dsimp only
    rw [p58]
    refine ⟨g, ((10 ^ 58 : Nat) : Int), rfl, b2, by decide, by decide, fun H3 m k3 b3 hm => ⟨_, _, rfl, ?_⟩⟩
    have hm' : m < 10 ^ 58 := Int.ofNat_lt.mp hm
    have hn1 : f + c ≤ 10 ^ 60 := by omega
    have hpm : p * m ≤ 88 * 10 ^ 58 := Nat.mul_le_mul hp88 (Nat.le_of_lt hm')
    have hn2 : f + c + p * m ≤ 10 ^ 60 := by omega
    have k13 : Kp [g] H H3 := (Kp.of e1).trans (k2.trans k3)
    have t13 : TK H H3 := Kp.tk k13 fun y hy xs z => by
      rw [List.mem_singleton.mp hy] at z
      exact hB.soft.1 xs z
    have ha3 : H3 a = _ := (Kp.tk (k2.trans k3) (fun y hy xs z => by
      rw [List.mem_singleton.mp hy] at z
      exact (hB.mono e1).soft.1 xs z)) _ _ ha
    -- the first list
    refine ⟨_, rfl, _, rfl, _, rfl, sz2 (by simp), fun p1 hq1 => ⟨sz2 (by simp), fun l1 hl1 => ?_⟩⟩
    have E4 := (Ext.upd (o := .tup [.str (tx t), .int ((f + c : Nat) : Int)]) hq1).trans (Ext.upd (o := .lst [.ref p1]) hl1)
    have npl : p1 ≠ l1 := fun z => by rw [← z, upd_same] at hl1; cases hl1
    have hPl : IsPairs (upd (upd H3 p1 (.tup [.str (tx t), .int ((f + c : Nat) : Int)])) l1 (.lst [.ref p1])) l1 [(t, f + c)] := ⟨[.ref p1], upd_same, .cons ⟨p1, rfl, by rw [upd_ne npl, upd_same]⟩ .nil⟩
    generalize upd (upd H3 p1 (.tup [.str (tx t), .int ((f + c : Nat) : Int)])) l1 (.lst [.ref p1]) = H4 at E4 hPl ⊢
    intro x1 dx1 n1 n2 n3
    refine ⟨x1, dx1, .ref l1, [(t, f + c)], rfl, upd_same, .inr ⟨l1, rfl, hPl.mono (ext_made n1 n2), by simp, fun q hq => by rw [List.mem_singleton.mp hq]; exact okp _ hn1⟩, fun H5 l5 ps1 k5 hx5 hP5 hd5 hg5 hl5 _ => ⟨rfl, ?_⟩⟩
    have E5 := E4.trans (kp_made n1 n2 k5)
    obtain ⟨u1, u2, u3⟩ := fit _ ps1 hn1 hd5 hg5 hl5
    rw [den_one] at hd5
    rcases two_wholes hR hf hst c m with ⟨w1, w2⟩ | ⟨rest, n, b, w1, w2⟩
    · rw [hpp] at w2
      refine ⟨lv, .ref x1, L, ps1, rfl, hL.mono (t13.trans (Ext.tk E5)), hV, ⟨x1, dx1, l5, rfl, hx5, hP5, hg5⟩, u1, by omega, u3, fun _ H6 e6 => ?_, fun x hx => by rw [hd5, w1] at hx; cases hx⟩
      have E6 := E5.trans e6
      refine ⟨_, rfl, _, rfl, _, rfl, _, rfl, _, rfl, _, _, rfl, rfl, .inl ⟨by omega, by omega⟩, _, _, rfl, rfl, ?_⟩
      dsimp only
      rw [show ((f + c : Nat) : Int) + (p : Int) * (m : Int) = ((f + c + p * m : Nat) : Int) by rw [Int.natCast_add (f + c), Int.natCast_mul]]
      refine ⟨sz2 (by simp), fun p2 hq2 => ⟨sz2 (by simp), fun l2 hl2 => ?_⟩⟩
      have E7 := (Ext.upd (o := .tup [.str (tx t), .int ((f + c + p * m : Nat) : Int)]) hq2).trans (Ext.upd (o := .lst [.ref p2]) hl2)
      have npl2 : p2 ≠ l2 := fun z => by rw [← z, upd_same] at hl2; cases hl2
      have hPl2 : IsPairs (upd (upd H6 p2 (.tup [.str (tx t), .int ((f + c + p * m : Nat) : Int)])) l2 (.lst [.ref p2])) l2 [(t, f + c + p * m)] := ⟨[.ref p2], upd_same, .cons ⟨p2, rfl, by rw [upd_ne npl2, upd_same]⟩ .nil⟩
      generalize upd (upd H6 p2 (.tup [.str (tx t), .int ((f + c + p * m : Nat) : Int)])) l2 (.lst [.ref p2]) = H7 at E7 hPl2 ⊢
      intro x2 dx2 n4 n5 n6
      refine ⟨x2, dx2, .ref l2, [(t, f + c + p * m)], rfl, upd_same, .inr ⟨l2, rfl, hPl2.mono (ext_made n4 n5), by simp, fun q hq => by rw [List.mem_singleton.mp hq]; exact okp _ hn2⟩, fun H8 l8 ps2 k8 hx8 hP8 hd8 hg8 hl8 _ => ⟨rfl, ?_⟩⟩
      have E8 := E7.trans (kp_made n4 n5 k8)
      obtain ⟨y1, y2, y3⟩ := fit _ ps2 hn2 hd8 hg8 hl8
      rw [den_one] at hd8
      refine ⟨lv, .ref x2, L, ps2, rfl, hL.mono (t13.trans (Ext.tk (E6.trans E8))), hV, ⟨x2, dx2, l8, rfl, hx8, hP8, hg8⟩, y1, by omega, y3, fun _ H9 e9 => ?_, fun x hx => by rw [hd8, w2] at hx; cases hx⟩
      have E9 := E6.trans (E8.trans e9)
      refine ⟨_, _, rfl, ?_⟩
      refine ⟨_, rfl, rfl, _, rfl, if_t rfl (if_t rfl ?_)⟩
      refine ⟨_, rfl, rfl, _, rfl, if_t rfl ⟨_, rfl, rfl, ?_⟩⟩
      exact q H9 (k13.trans (Kp.of E9)) (b3.mono E9)
    · rw [hpp] at w2
      rw [hrr] at w2
      rw [hmr] at w2
      refine ⟨lv, .ref x1, L, ps1, rfl, hL.mono (t13.trans (Ext.tk E5)), hV, ⟨x1, dx1, l5, rfl, hx5, hP5, hg5⟩, u1, by omega, u3, (fun h0 => by rw [hd5, w1] at h0; cases h0), fun x hx H6 v1 ws1 e6 hr1 hz1 hl1' => ?_⟩
      rw [hd5, w1] at hx
      cases hx
      dsimp only at hr1 hz1
      have E6 := E5.trans e6
      refine ⟨_, rfl, _, rfl, _, rfl, _, rfl, _, rfl, _, _, rfl, rfl, .inl ⟨by omega, by omega⟩, _, _, rfl, rfl, ?_⟩
      dsimp only
      rw [show ((f + c : Nat) : Int) + (p : Int) * (m : Int) = ((f + c + p * m : Nat) : Int) by rw [Int.natCast_add (f + c), Int.natCast_mul]]
      refine ⟨sz2 (by simp), fun p2 hq2 => ⟨sz2 (by simp), fun l2 hl2 => ?_⟩⟩
      have E7 := (Ext.upd (o := .tup [.str (tx t), .int ((f + c + p * m : Nat) : Int)]) hq2).trans (Ext.upd (o := .lst [.ref p2]) hl2)
      have npl2 : p2 ≠ l2 := fun z => by rw [← z, upd_same] at hl2; cases hl2
      have hPl2 : IsPairs (upd (upd H6 p2 (.tup [.str (tx t), .int ((f + c + p * m : Nat) : Int)])) l2 (.lst [.ref p2])) l2 [(t, f + c + p * m)] := ⟨[.ref p2], upd_same, .cons ⟨p2, rfl, by rw [upd_ne npl2, upd_same]⟩ .nil⟩
      generalize upd (upd H6 p2 (.tup [.str (tx t), .int ((f + c + p * m : Nat) : Int)])) l2 (.lst [.ref p2]) = H7 at E7 hPl2 ⊢
      intro x2 dx2 n4 n5 n6
      refine ⟨x2, dx2, .ref l2, [(t, f + c + p * m)], rfl, upd_same, .inr ⟨l2, rfl, hPl2.mono (ext_made n4 n5), by simp, fun q hq => by rw [List.mem_singleton.mp hq]; exact okp _ hn2⟩, fun H8 l8 ps2 k8 hx8 hP8 hd8 hg8 hl8 _ => ⟨rfl, ?_⟩⟩
      have E8 := E7.trans (kp_made n4 n5 k8)
      obtain ⟨y1, y2, y3⟩ := fit _ ps2 hn2 hd8 hg8 hl8
      rw [den_one] at hd8
      refine ⟨lv, .ref x2, L, ps2, rfl, hL.mono (t13.trans (Ext.tk (E6.trans E8))), hV, ⟨x2, dx2, l8, rfl, hx8, hP8, hg8⟩, y1, by omega, y3, (fun h0 => by rw [hd8, w2] at h0; cases h0), fun x hx H9 v2 ws2 e9 hr2 hz2 hl2' => ?_⟩
      rw [hd8, w2] at hx
      cases hx
      dsimp only at hr2 hz2
      have E9 := E6.trans (E8.trans e9)
      have hr1' := hr1.mono (E8.trans e9)
      obtain ⟨a1, d1, rv1, pa1, wa1, rfl, o1, R1, t1, y1'⟩ := hr1'
      obtain ⟨a2, d2, rv2, pa2, wa2, rfl, o2, R2', t2, y2'⟩ := hr2
      refine ⟨_, _, rfl, ?_⟩
      refine ⟨_, rfl, rfl, _, rfl, if_f rfl ⟨_, rfl, rfl, _, rfl, if_f rfl ?_⟩⟩
      generalize hA : tts (rs.take f) = A at hz1 hz2 w1 ⊢
      have hpt : ∀ k, Letters (pw t k) := fun k => by
        unfold pw
        exact flat_letters fun w hw => by rw [(List.mem_replicate.mp hw).2]; exact ht
      have lw1 : lenP ws1 = (A ++ rest).length := by rw [← den_len, hz1]
      have lb1 : lenP ws1 < 2 ^ 4000 := by
        have z := whole_len hV (hpt _) w1
        have z2 := big_ok htl hn1
        rw [pw_len, Nat.mul_comm (f + c) t.length] at z
        dsimp only at z
        omega
      have lA : A.length ≤ lenP ws1 := by rw [lw1, List.length_append]; omega
      have ln1 : ws1.length ≤ 1000 := by omega
      obtain ⟨q1, dq1, lq1, rfl, oq1, _⟩ := id R1
      -- the longer one
      refine ⟨_, rfl, a1, d1, _, rfl, o1, a1, d1, _, _, _, rfl, o1, q1, dq1, _, rfl, oq1, rF_no_part _, _, rfl, .ref q1, ws1, 0, A.length, rfl, R1, by omega, lb1, Nat.zero_le _, lA, fun H10 v3 ps3 e10 R3 hd3 hz3 => ?_⟩
      refine ⟨rfl, _, rfl, r, rfl, hrab, by omega, fun H11 v4 ps4 e11 R4 hd4 hl4 => ?_⟩
      obtain ⟨q4, dq4, lq4, rfl, oq4, _⟩ := id R4
      have lp4 : lenP ps4 = r.length := by rw [← den_len, hd4]
      refine ⟨_, rfl, q4, (m : Int), dq4, _, rfl, rfl, oq4, .ref q4, ps4, m, rfl, R4, by omega, fun H12 v5 ps5 e12 R5 hd5' hl5' => ?_⟩
      obtain ⟨q5, dq5, lq5, rfl, oq5, _⟩ := id R5
      refine ⟨⟨_, rfl⟩, ?_⟩
      have R3' := R3.mono (e11.trans e12)
      obtain ⟨q3, dq3, lq3, rfl, oq3, _⟩ := id R3'
      refine ⟨q3, q5, dq3, dq5, _, _, rfl, rfl, oq3, oq5, .ref q3, .ref q5, ps3, ps5, rfl, R3', R5, by omega, fun H13 v6 ps6 e13 R6 hd6 hl6 => ?_⟩
      obtain ⟨q6, dq6, lq6, rfl, oq6, _⟩ := id R6
      refine ⟨⟨_, rfl⟩, ?_⟩
      have e13' : Ext H9 H13 := e10.trans (e11.trans (e12.trans e13))
      refine ⟨_, rfl, a1, d1, _, rfl, e13' _ _ o1, a1, d1, _, _, _, rfl, e13' _ _ o1, q1, dq1, _, rfl, e13' _ _ oq1, rF_no_part _, _, rfl, _, rfl, a1, d1, _, rfl, e13' _ _ o1, a1, d1, _, _, _, rfl, e13' _ _ o1, q1, dq1, _, rfl, e13' _ _ oq1, .ref q1, ws1, rfl, R1.mono e13', fun H14 e14 => ?_⟩
      refine ⟨.ref q1, ws1, A.length, lenP ws1, rfl, R1.mono (e13'.trans e14), by omega, lb1, lA, Nat.le_refl _, fun H15 v7 ps7 e15 R7 hd7 hz7 => ?_⟩
      obtain ⟨q7, dq7, lq7, rfl, oq7, _⟩ := id R7
      have R6' := R6.mono (e14.trans e15)
      refine ⟨q6, q7, dq6, dq7, _, _, rfl, rfl, (e14.trans e15) _ _ oq6, oq7, .ref q6, .ref q7, ps6, ps7, rfl, R6', R7, by omega, fun H16 v8 ps8 e16 R8 hd8' hl8' => ?_⟩
      obtain ⟨q8, dq8, lq8, rfl, oq8, _⟩ := id R8
      refine ⟨⟨_, rfl⟩, ?_⟩
      have e16' : Ext H9 H16 := e13'.trans (e14.trans (e15.trans e16))
      have fin_den : den ps8 = den ws2 := by
        have z1 : den ps3 = A := by rw [hd3, hz1, List.drop_zero, List.take_left' rfl]
        have z2 : den ps7 = rest := by rw [hd7, lw1, hz1, List.take_length, List.drop_left' rfl]
        rw [hd8', hd6, z1, hd5', hd4, z2, hz2, List.append_assoc]
      obtain ⟨q2, dq2, lq2, rfl, oq2, _⟩ := id R2'
      -- the texts
      refine ⟨_, rfl, a2, d2, _, rfl, e16' _ _ o2, a2, d2, _, _, _, rfl, e16' _ _ o2, _, rfl, ⟨q2, q8, dq2, dq8, _, _, rfl, rfl, e16' _ _ oq2, oq8, ws2, ps8, R2'.mono e16', R8, fin_den.symm⟩, fun H17 e17 => ⟨_, rfl, if_f rfl ?_⟩⟩
      have e17' := e16'.trans e17
      -- the passes
      refine ⟨_, rfl, a2, d2, _, rfl, e17' _ _ o2, a2, d2, _, _, _, rfl, e17' _ _ o2, ?_⟩
      refine ⟨_, rfl, a1, d1, _, rfl, e17' _ _ o1, a1, d1, _, _, _, rfl, e17' _ _ o1, _, _, 0, _, rfl, rfl, sq (e17' _ _ t1), atI_nat (j := 0) rfl, _, rfl, _, rfl, _, _, rfl, rfl, .inr ⟨by omega, by omega⟩, _, _, rfl, rfl, ?_⟩
      dsimp only
      rw [show (n : Int) + (m : Int) * (mr : Int) = ((n + m * mr : Nat) : Int) by rw [Int.natCast_add, Int.natCast_mul]]
      refine ⟨sz2 (by simp), fun tp htp => ?_⟩
      have F18 := Ext.upd (o := .tup [.int ((n + m * mr : Nat) : Int)]) htp
      have e18 := e17'.trans F18
      refine ⟨.tuple [.int ((n + m * mr : Nat) : Int)], .tuple [.int ((n + m * mr : Nat) : Int)], .tup (sq (e18 _ _ t2)) (.cons (.int _) .nil), .tup (sq upd_same) (.cons (.int _) .nil), rfl, rfl, _, rfl, if_f (by rw [eqv_int1]; rfl) ?_⟩
      -- the ways
      obtain ⟨z, hz, hzz, hsh⟩ := eqv_way b
      rw [hz] at y1' y2'
      refine ⟨_, rfl, a2, d2, _, rfl, e18 _ _ o2, a2, d2, _, _, _, rfl, e18 _ _ o2, _, rfl, a1, d1, _, rfl, e18 _ _ o1, a1, d1, _, _, _, rfl, e18 _ _ o1, ?_⟩
      refine ⟨.tuple [.str z], .tuple [.str z], .tup (sq (e18 _ _ y2')) (.cons (.str _) .nil), .tup (sq (e18 _ _ y1')) (.cons (.str _) .nil), hsh, hsh, ?_⟩
      rw [hzz]
      exact q _ (k13.trans (Kp.of (E9.trans e18))) (b3.mono (E9.trans e18))
end
end OB
set_option Elab.async false
set_option linter.all false
set_option maxRecDepth 100000
set_option maxHeartbeats 4000000
namespace OB
theorem fed_by {L : Lo} {s : S} {c k : Nat} {x : List Nat × Nat × S} (hb : s.brk = false) (hk : Ends L 3 ⟨s.mark, s.held ++ [c], false⟩ k) (e : ((wlN L ⟨s.mark, s.held ++ [c], false⟩ k).flatten, k, stN L ⟨s.mark, s.held ++ [c], false⟩ k) = x) : fed L s c = some x := by
  rw [fed_ends hb hk, e]
theorem fin_by {L : Lo} {s : S} {k : Nat} {x : List Nat × Nat × Bool} (hk : Ends L 1 s k) (e : ((wlN L s k).flatten ++ (if (stN L s k).brk = true then [] else L.ends.getD (stN L s k).mark []), k, (stN L s k).brk) = x) : fin L s = some x := by
  rw [fin_ends hk, e]
theorem feed_step {L : Lo} {s : S} {c : Nat} {r : List Nat} {x y : List Nat × Nat × S} (h : fed L s c = some x) (g : feedL L x.2.2 r = some y) : feedL L s (c :: r) = some (x.1 ++ y.1, x.2.1 + y.2.1, y.2.2) := by
  show (fed L s c).bind _ = _
  rw [h, Option.bind_some, g, Option.bind_some]
theorem feed_nil (L : Lo) (s : S) : feedL L s [] = some ([], 0, s) := rfl
instance (L : Lo) (n : Nat) (s : S) (k : Nat) : Decidable (Ends L n s k) := by unfold Ends; infer_instance
def LC : Lo := ⟨[⟨some 0, [97], abcdE, [.mark 1]⟩, ⟨some 1, [97], abcdE, [.mark 2]⟩, ⟨some 2, [97], abcdE, [.mark 3]⟩, ⟨some 3, [97], abcdE, [.put 98, .mark 0]⟩], [[], [98], [99, 99], [100]]⟩
def LB : Lo := ⟨[⟨none, [98], [97], [.put 97, .dropNext, .after 99]⟩, ⟨none, [99], [97], [.put 97, .dropNext, .after 100]⟩, ⟨some 0, [100], [97], [.put 97, .dropNext, .after 98, .mark 1]⟩, ⟨some 1, [100], [97], [.put 97, .dropNext, .after 98, .mark 2]⟩,
  ⟨some 2, [100], [97], [.put 97, .dropNext, .after 98, .mark 3]⟩, ⟨some 3, [100], [97], [.put 99, .dropNext, .after 98, .mark 0]⟩], [[], [], [], []]⟩
theorem c_f0 : fed LC ⟨0, [97, 97], false⟩ 97 = some ([97], 1, ⟨1, [97, 97], false⟩) := fed_by (k := 1) rfl (by decide) (by decide)
theorem c_f1 : fed LC ⟨1, [97, 97], false⟩ 97 = some ([97], 1, ⟨2, [97, 97], false⟩) := fed_by (k := 1) rfl (by decide) (by decide)
theorem c_f2 : fed LC ⟨2, [97, 97], false⟩ 97 = some ([97], 1, ⟨3, [97, 97], false⟩) := fed_by (k := 1) rfl (by decide) (by decide)
theorem c_f3 : fed LC ⟨3, [97, 97], false⟩ 97 = some ([98], 1, ⟨0, [97, 97], false⟩) := fed_by (k := 1) rfl (by decide) (by decide)
theorem c_0 : fed LC s0 97 = some ([], 0, ⟨0, [97], false⟩) := fed_by (k := 0) rfl (by decide) (by decide)
theorem c_1 : fed LC ⟨0, [97], false⟩ 97 = some ([], 0, ⟨0, [97, 97], false⟩) := fed_by (k := 0) rfl (by decide) (by decide)
theorem cw0 : feedL LC ⟨0, [97, 97], false⟩ [] = some ([], 0, ⟨0, [97, 97], false⟩) := feed_nil _ _
theorem cw1 : feedL LC ⟨0, [97, 97], false⟩ [97] = some ([97], 1, ⟨1, [97, 97], false⟩) := feed_step c_f0 (feed_nil _ _)
theorem cw2 : feedL LC ⟨0, [97, 97], false⟩ [97, 97] = some ([97, 97], 2, ⟨2, [97, 97], false⟩) := feed_step c_f0 (feed_step c_f1 (feed_nil _ _))
theorem cw3 : feedL LC ⟨0, [97, 97], false⟩ [97, 97, 97] = some ([97, 97, 97], 3, ⟨3, [97, 97], false⟩) := feed_step c_f0 (feed_step c_f1 (feed_step c_f2 (feed_nil _ _)))
theorem cw4 : feedL LC ⟨0, [97, 97], false⟩ [97, 97, 97, 97] = some ([97, 97, 97, 98], 4, ⟨0, [97, 97], false⟩) := feed_step c_f0 (feed_step c_f1 (feed_step c_f2 (feed_step c_f3 (feed_nil _ _))))
theorem c_e0 : fin LC ⟨0, [97, 97], false⟩ = some ([97, 97, 99, 99], 2, false) := fin_by (k := 2) (by decide) (by decide)
theorem c_e1 : fin LC ⟨1, [97, 97], false⟩ = some ([97, 97, 100], 2, false) := fin_by (k := 2) (by decide) (by decide)
theorem c_e2 : fin LC ⟨2, [97, 97], false⟩ = some ([97, 98], 2, false) := fin_by (k := 2) (by decide) (by decide)
theorem c_e3 : fin LC ⟨3, [97, 97], false⟩ = some ([98, 97, 98], 2, false) := fin_by (k := 2) (by decide) (by decide)
theorem c_s0 : fin LC s0 = some ([], 0, false) := fin_by (k := 0) (by decide) (by decide)
theorem c_s1 : fin LC ⟨0, [97], false⟩ = some ([97, 98], 1, false) := fin_by (k := 1) (by decide) (by decide)
theorem b_f0 : fed LB ⟨0, [98, 97], false⟩ 97 = some ([97], 1, ⟨0, [99, 97], false⟩) := fed_by (k := 1) rfl (by decide) (by decide)
theorem b_f1 : fed LB ⟨0, [99, 97], false⟩ 97 = some ([97], 1, ⟨0, [100, 97], false⟩) := fed_by (k := 1) rfl (by decide) (by decide)
theorem b_f2 : fed LB ⟨0, [100, 97], false⟩ 97 = some ([97], 1, ⟨1, [98, 97], false⟩) := fed_by (k := 1) rfl (by decide) (by decide)
theorem b_f3 : fed LB ⟨1, [98, 97], false⟩ 97 = some ([97], 1, ⟨1, [99, 97], false⟩) := fed_by (k := 1) rfl (by decide) (by decide)
theorem b_f4 : fed LB ⟨1, [99, 97], false⟩ 97 = some ([97], 1, ⟨1, [100, 97], false⟩) := fed_by (k := 1) rfl (by decide) (by decide)
theorem b_f5 : fed LB ⟨1, [100, 97], false⟩ 97 = some ([97], 1, ⟨2, [98, 97], false⟩) := fed_by (k := 1) rfl (by decide) (by decide)
theorem b_f6 : fed LB ⟨2, [98, 97], false⟩ 97 = some ([97], 1, ⟨2, [99, 97], false⟩) := fed_by (k := 1) rfl (by decide) (by decide)
theorem b_f7 : fed LB ⟨2, [99, 97], false⟩ 97 = some ([97], 1, ⟨2, [100, 97], false⟩) := fed_by (k := 1) rfl (by decide) (by decide)
theorem b_f8 : fed LB ⟨2, [100, 97], false⟩ 97 = some ([97], 1, ⟨3, [98, 97], false⟩) := fed_by (k := 1) rfl (by decide) (by decide)
theorem b_f9 : fed LB ⟨3, [98, 97], false⟩ 97 = some ([97], 1, ⟨3, [99, 97], false⟩) := fed_by (k := 1) rfl (by decide) (by decide)
theorem b_f10 : fed LB ⟨3, [99, 97], false⟩ 97 = some ([97], 1, ⟨3, [100, 97], false⟩) := fed_by (k := 1) rfl (by decide) (by decide)
theorem b_f11 : fed LB ⟨3, [100, 97], false⟩ 97 = some ([99], 1, ⟨0, [98, 97], false⟩) := fed_by (k := 1) rfl (by decide) (by decide)
theorem b_0 : fed LB s0 98 = some ([], 0, ⟨0, [98], false⟩) := fed_by (k := 0) rfl (by decide) (by decide)
theorem b_1 : fed LB ⟨0, [98], false⟩ 97 = some ([], 0, ⟨0, [98, 97], false⟩) := fed_by (k := 0) rfl (by decide) (by decide)
theorem bw0 : feedL LB ⟨0, [98, 97], false⟩ [] = some ([], 0, ⟨0, [98, 97], false⟩) := feed_nil _ _
theorem bw1 : feedL LB ⟨0, [98, 97], false⟩ [97] = some ([97], 1, ⟨0, [99, 97], false⟩) := feed_step b_f0 (feed_nil _ _)
theorem bw2 : feedL LB ⟨0, [98, 97], false⟩ [97, 97] = some ([97, 97], 2, ⟨0, [100, 97], false⟩) := feed_step b_f0 (feed_step b_f1 (feed_nil _ _))
theorem bw3 : feedL LB ⟨0, [98, 97], false⟩ [97, 97, 97] = some ([97, 97, 97], 3, ⟨1, [98, 97], false⟩) := feed_step b_f0 (feed_step b_f1 (feed_step b_f2 (feed_nil _ _)))
theorem bw4 : feedL LB ⟨0, [98, 97], false⟩ [97, 97, 97, 97] = some ([97, 97, 97, 97], 4, ⟨1, [99, 97], false⟩) := feed_step b_f0 (feed_step b_f1 (feed_step b_f2 (feed_step b_f3 (feed_nil _ _))))
theorem bw5 : feedL LB ⟨0, [98, 97], false⟩ [97, 97, 97, 97, 97] = some ([97, 97, 97, 97, 97], 5, ⟨1, [100, 97], false⟩) := feed_step b_f0 (feed_step b_f1 (feed_step b_f2 (feed_step b_f3 (feed_step b_f4 (feed_nil _ _)))))
theorem bw6 : feedL LB ⟨0, [98, 97], false⟩ [97, 97, 97, 97, 97, 97] = some ([97, 97, 97, 97, 97, 97], 6, ⟨2, [98, 97], false⟩) := feed_step b_f0 (feed_step b_f1 (feed_step b_f2 (feed_step b_f3 (feed_step b_f4 (feed_step b_f5 (feed_nil _ _))))))
theorem bw7 : feedL LB ⟨0, [98, 97], false⟩ [97, 97, 97, 97, 97, 97, 97] = some ([97, 97, 97, 97, 97, 97, 97], 7, ⟨2, [99, 97], false⟩) := feed_step b_f0 (feed_step b_f1 (feed_step b_f2 (feed_step b_f3 (feed_step b_f4 (feed_step b_f5 (feed_step b_f6 (feed_nil _ _)))))))
theorem bw8 : feedL LB ⟨0, [98, 97], false⟩ [97, 97, 97, 97, 97, 97, 97, 97] = some ([97, 97, 97, 97, 97, 97, 97, 97], 8, ⟨2, [100, 97], false⟩) := feed_step b_f0 (feed_step b_f1 (feed_step b_f2 (feed_step b_f3 (feed_step b_f4 (feed_step b_f5 (feed_step b_f6 (feed_step b_f7 (feed_nil _ _))))))))
theorem bw9 : feedL LB ⟨0, [98, 97], false⟩ [97, 97, 97, 97, 97, 97, 97, 97, 97] = some ([97, 97, 97, 97, 97, 97, 97, 97, 97], 9, ⟨3, [98, 97], false⟩) := feed_step b_f0 (feed_step b_f1 (feed_step b_f2 (feed_step b_f3 (feed_step b_f4 (feed_step b_f5 (feed_step b_f6 (feed_step b_f7 (feed_step b_f8 (feed_nil _ _)))))))))
theorem bw10 : feedL LB ⟨0, [98, 97], false⟩ [97, 97, 97, 97, 97, 97, 97, 97, 97, 97] = some ([97, 97, 97, 97, 97, 97, 97, 97, 97, 97], 10, ⟨3, [99, 97], false⟩) := feed_step b_f0 (feed_step b_f1 (feed_step b_f2 (feed_step b_f3 (feed_step b_f4 (feed_step b_f5 (feed_step b_f6 (feed_step b_f7 (feed_step b_f8 (feed_step b_f9 (feed_nil _ _))))))))))
theorem bw11 : feedL LB ⟨0, [98, 97], false⟩ [97, 97, 97, 97, 97, 97, 97, 97, 97, 97, 97] = some ([97, 97, 97, 97, 97, 97, 97, 97, 97, 97, 97], 11, ⟨3, [100, 97], false⟩) := feed_step b_f0 (feed_step b_f1 (feed_step b_f2 (feed_step b_f3 (feed_step b_f4 (feed_step b_f5 (feed_step b_f6 (feed_step b_f7 (feed_step b_f8 (feed_step b_f9 (feed_step b_f10 (feed_nil _ _)))))))))))
theorem bw12 : feedL LB ⟨0, [98, 97], false⟩ [97, 97, 97, 97, 97, 97, 97, 97, 97, 97, 97, 97] = some ([97, 97, 97, 97, 97, 97, 97, 97, 97, 97, 97, 99], 12, ⟨0, [98, 97], false⟩) := feed_step b_f0 (feed_step b_f1 (feed_step b_f2 (feed_step b_f3 (feed_step b_f4 (feed_step b_f5 (feed_step b_f6 (feed_step b_f7 (feed_step b_f8 (feed_step b_f9 (feed_step b_f10 (feed_step b_f11 (feed_nil _ _))))))))))))
theorem b_e0 : fin LB ⟨0, [98, 97], false⟩ = some ([97, 99], 2, false) := fin_by (k := 2) (by decide) (by decide)
theorem b_e1 : fin LB ⟨0, [99, 97], false⟩ = some ([97, 100], 2, false) := fin_by (k := 2) (by decide) (by decide)
theorem b_e2 : fin LB ⟨0, [100, 97], false⟩ = some ([97, 98], 2, false) := fin_by (k := 2) (by decide) (by decide)
theorem b_e3 : fin LB ⟨1, [98, 97], false⟩ = some ([97, 99], 2, false) := fin_by (k := 2) (by decide) (by decide)
theorem b_e4 : fin LB ⟨1, [99, 97], false⟩ = some ([97, 100], 2, false) := fin_by (k := 2) (by decide) (by decide)
theorem b_e5 : fin LB ⟨1, [100, 97], false⟩ = some ([97, 98], 2, false) := fin_by (k := 2) (by decide) (by decide)
theorem b_e6 : fin LB ⟨2, [98, 97], false⟩ = some ([97, 99], 2, false) := fin_by (k := 2) (by decide) (by decide)
theorem b_e7 : fin LB ⟨2, [99, 97], false⟩ = some ([97, 100], 2, false) := fin_by (k := 2) (by decide) (by decide)
theorem b_e8 : fin LB ⟨2, [100, 97], false⟩ = some ([97, 98], 2, false) := fin_by (k := 2) (by decide) (by decide)
theorem b_e9 : fin LB ⟨3, [98, 97], false⟩ = some ([97, 99], 2, false) := fin_by (k := 2) (by decide) (by decide)
theorem b_e10 : fin LB ⟨3, [99, 97], false⟩ = some ([97, 100], 2, false) := fin_by (k := 2) (by decide) (by decide)
theorem b_e11 : fin LB ⟨3, [100, 97], false⟩ = some ([99, 98], 2, false) := fin_by (k := 2) (by decide) (by decide)
theorem b_s1 : fin LB ⟨0, [98], false⟩ = some ([98], 1, false) := fin_by (k := 1) (by decide) (by decide)
def endC (i : Nat) : List Nat := [[], [98], [99, 99], [100]].getD i []
def endB (i : Nat) : Nat := [98, 99, 100].getD i 0
theorem pw_four (n : Nat) (c : Nat) : pw [c] (4 * n) = pw [c, c, c, c] n := by rw [← pw_mul]; rfl
theorem pw_twelve (n : Nat) (c : Nat) : pw [c] (12 * n) = pw [c, c, c, c, c, c, c, c, c, c, c, c] n := by rw [← pw_mul]; rfl
theorem counted (n : Nat) : whole LC (pw [97] n) = some (pw [97, 97, 97, 98] (n / 4) ++ (pw [97] (n % 4) ++ endC (n % 4)), n, false) := by
  by_cases h0 : n = 0
  · subst h0
    exact whole_some (x := ([], 0, s0)) rfl c_s0
  by_cases h1 : n = 1
  · subst h1
    exact whole_some (feed_step c_0 (feed_nil _ _)) c_s1
  obtain ⟨q, i, hi, hn⟩ : ∃ q i, i < 4 ∧ n = 2 + (4 * q + i) := ⟨(n - 2) / 4, (n - 2) % 4, Nat.mod_lt _ (by decide), by have := Nat.div_add_mod (n - 2) 4; omega⟩
  have a1 : feedL LC s0 [97, 97] = some ([], 0, ⟨0, [97, 97], false⟩) := feed_step c_0 (feed_step c_1 (feed_nil _ _))
  have a2 : feedL LC ⟨0, [97, 97], false⟩ (pw [97] (4 * q)) = some (pw [97, 97, 97, 98] q, 4 * q, ⟨0, [97, 97], false⟩) := by
    rw [pw_four]
    exact feed_pow cw4 q
  have e0 : pw [97] n = [97, 97] ++ (pw [97] (4 * q) ++ pw [97] i) := by rw [hn, pw_add, pw_add]; rfl
  rw [e0]
  match i, hi with
  | 0, _ =>
    have a3 := feed_join a1 (feed_join a2 (show feedL LC ⟨0, [97, 97], false⟩ (pw [97] 0) = _ from cw0))
    have z := whole_some a3 c_e0
    have e1 : n / 4 = q + 0 := by omega
    have e2 : n % 4 = 2 := by omega
    rw [z, e1, e2, pw_add, hn]
    refine congrArg some (Prod.ext ?_ (Prod.ext ?_ rfl))
    · show [] ++ (pw [97, 97, 97, 98] q ++ []) ++ [97, 97, 99, 99] = pw [97, 97, 97, 98] q ++ [] ++ ([97, 97] ++ [99, 99])
      simp only [List.nil_append, List.append_assoc, List.cons_append]
    · show 0 + (4 * q + 0) + 2 = 2 + (4 * q + 0)
      omega
  | 1, _ =>
    have a3 := feed_join a1 (feed_join a2 (show feedL LC ⟨0, [97, 97], false⟩ (pw [97] 1) = _ from cw1))
    have z := whole_some a3 c_e1
    have e1 : n / 4 = q + 0 := by omega
    have e2 : n % 4 = 3 := by omega
    rw [z, e1, e2, pw_add, hn]
    refine congrArg some (Prod.ext ?_ (Prod.ext ?_ rfl))
    · show [] ++ (pw [97, 97, 97, 98] q ++ [97]) ++ [97, 97, 100] = pw [97, 97, 97, 98] q ++ [] ++ ([97, 97, 97] ++ [100])
      simp only [List.nil_append, List.append_assoc, List.cons_append]
    · show 0 + (4 * q + 1) + 2 = 2 + (4 * q + 1)
      omega
  | 2, _ =>
    have a3 := feed_join a1 (feed_join a2 (show feedL LC ⟨0, [97, 97], false⟩ (pw [97] 2) = _ from cw2))
    have z := whole_some a3 c_e2
    have e1 : n / 4 = q + 1 := by omega
    have e2 : n % 4 = 0 := by omega
    rw [z, e1, e2, pw_add, hn]
    refine congrArg some (Prod.ext ?_ (Prod.ext ?_ rfl))
    · show [] ++ (pw [97, 97, 97, 98] q ++ [97, 97]) ++ [97, 98] = pw [97, 97, 97, 98] q ++ [97, 97, 97, 98] ++ ([] ++ [])
      simp only [List.nil_append, List.append_assoc, List.cons_append]
    · show 0 + (4 * q + 2) + 2 = 2 + (4 * q + 2)
      omega
  | 3, _ =>
    have a3 := feed_join a1 (feed_join a2 (show feedL LC ⟨0, [97, 97], false⟩ (pw [97] 3) = _ from cw3))
    have z := whole_some a3 c_e3
    have e1 : n / 4 = q + 1 := by omega
    have e2 : n % 4 = 1 := by omega
    rw [z, e1, e2, pw_add, hn]
    refine congrArg some (Prod.ext ?_ (Prod.ext ?_ rfl))
    · show [] ++ (pw [97, 97, 97, 98] q ++ [97, 97, 97]) ++ [98, 97, 98] = pw [97, 97, 97, 98] q ++ [97, 97, 97, 98] ++ ([97] ++ [98])
      simp only [List.nil_append, List.append_assoc, List.cons_append]
    · show 0 + (4 * q + 3) + 2 = 2 + (4 * q + 3)
      omega
theorem carried (n : Nat) : whole LB (98 :: pw [97] n) = some (pw [97, 97, 97, 97, 97, 97, 97, 97, 97, 97, 97, 99] (n / 12) ++ (pw [97] (n % 12) ++ [endB (n % 3)]), n + 1, false) := by
  by_cases h0 : n = 0
  · subst h0
    exact whole_some (feed_step b_0 (feed_nil _ _)) b_s1
  obtain ⟨q, i, hi, hn⟩ : ∃ q i, i < 12 ∧ n = 1 + (12 * q + i) := ⟨(n - 1) / 12, (n - 1) % 12, Nat.mod_lt _ (by decide), by have := Nat.div_add_mod (n - 1) 12; omega⟩
  have a1 : feedL LB s0 [98, 97] = some ([], 0, ⟨0, [98, 97], false⟩) := feed_step b_0 (feed_step b_1 (feed_nil _ _))
  have a2 : feedL LB ⟨0, [98, 97], false⟩ (pw [97] (12 * q)) = some (pw [97, 97, 97, 97, 97, 97, 97, 97, 97, 97, 97, 99] q, 12 * q, ⟨0, [98, 97], false⟩) := by
    rw [pw_twelve]
    exact feed_pow bw12 q
  have e0 : 98 :: pw [97] n = [98, 97] ++ (pw [97] (12 * q) ++ pw [97] i) := by rw [hn, pw_add, pw_add]; rfl
  rw [e0]
  match i, hi with
  | 0, _ =>
    have a3 := feed_join a1 (feed_join a2 (show feedL LB ⟨0, [98, 97], false⟩ (pw [97] 0) = _ from bw0))
    have z := whole_some a3 b_e0
    have e1 : n / 12 = q + 0 := by omega
    have e2 : n % 12 = 1 := by omega
    have e3 : n % 3 = 1 := by omega
    rw [z, e1, e2, e3, pw_add, hn]
    refine congrArg some (Prod.ext ?_ (Prod.ext ?_ rfl))
    · show [] ++ (pw [97, 97, 97, 97, 97, 97, 97, 97, 97, 97, 97, 99] q ++ []) ++ [97, 99] = pw [97, 97, 97, 97, 97, 97, 97, 97, 97, 97, 97, 99] q ++ [] ++ ([97] ++ [99])
      simp only [List.nil_append, List.append_assoc, List.cons_append]
    · show 0 + (12 * q + 0) + 2 = 1 + (12 * q + 0) + 1
      omega
  | 1, _ =>
    have a3 := feed_join a1 (feed_join a2 (show feedL LB ⟨0, [98, 97], false⟩ (pw [97] 1) = _ from bw1))
    have z := whole_some a3 b_e1
    have e1 : n / 12 = q + 0 := by omega
    have e2 : n % 12 = 2 := by omega
    have e3 : n % 3 = 2 := by omega
    rw [z, e1, e2, e3, pw_add, hn]
    refine congrArg some (Prod.ext ?_ (Prod.ext ?_ rfl))
    · show [] ++ (pw [97, 97, 97, 97, 97, 97, 97, 97, 97, 97, 97, 99] q ++ [97]) ++ [97, 100] = pw [97, 97, 97, 97, 97, 97, 97, 97, 97, 97, 97, 99] q ++ [] ++ ([97, 97] ++ [100])
      simp only [List.nil_append, List.append_assoc, List.cons_append]
    · show 0 + (12 * q + 1) + 2 = 1 + (12 * q + 1) + 1
      omega
  | 2, _ =>
    have a3 := feed_join a1 (feed_join a2 (show feedL LB ⟨0, [98, 97], false⟩ (pw [97] 2) = _ from bw2))
    have z := whole_some a3 b_e2
    have e1 : n / 12 = q + 0 := by omega
    have e2 : n % 12 = 3 := by omega
    have e3 : n % 3 = 0 := by omega
    rw [z, e1, e2, e3, pw_add, hn]
    refine congrArg some (Prod.ext ?_ (Prod.ext ?_ rfl))
    · show [] ++ (pw [97, 97, 97, 97, 97, 97, 97, 97, 97, 97, 97, 99] q ++ [97, 97]) ++ [97, 98] = pw [97, 97, 97, 97, 97, 97, 97, 97, 97, 97, 97, 99] q ++ [] ++ ([97, 97, 97] ++ [98])
      simp only [List.nil_append, List.append_assoc, List.cons_append]
    · show 0 + (12 * q + 2) + 2 = 1 + (12 * q + 2) + 1
      omega
  | 3, _ =>
    have a3 := feed_join a1 (feed_join a2 (show feedL LB ⟨0, [98, 97], false⟩ (pw [97] 3) = _ from bw3))
    have z := whole_some a3 b_e3
    have e1 : n / 12 = q + 0 := by omega
    have e2 : n % 12 = 4 := by omega
    have e3 : n % 3 = 1 := by omega
    rw [z, e1, e2, e3, pw_add, hn]
    refine congrArg some (Prod.ext ?_ (Prod.ext ?_ rfl))
    · show [] ++ (pw [97, 97, 97, 97, 97, 97, 97, 97, 97, 97, 97, 99] q ++ [97, 97, 97]) ++ [97, 99] = pw [97, 97, 97, 97, 97, 97, 97, 97, 97, 97, 97, 99] q ++ [] ++ ([97, 97, 97, 97] ++ [99])
      simp only [List.nil_append, List.append_assoc, List.cons_append]
    · show 0 + (12 * q + 3) + 2 = 1 + (12 * q + 3) + 1
      omega
  | 4, _ =>
    have a3 := feed_join a1 (feed_join a2 (show feedL LB ⟨0, [98, 97], false⟩ (pw [97] 4) = _ from bw4))
    have z := whole_some a3 b_e4
    have e1 : n / 12 = q + 0 := by omega
    have e2 : n % 12 = 5 := by omega
    have e3 : n % 3 = 2 := by omega
    rw [z, e1, e2, e3, pw_add, hn]
    refine congrArg some (Prod.ext ?_ (Prod.ext ?_ rfl))
    · show [] ++ (pw [97, 97, 97, 97, 97, 97, 97, 97, 97, 97, 97, 99] q ++ [97, 97, 97, 97]) ++ [97, 100] = pw [97, 97, 97, 97, 97, 97, 97, 97, 97, 97, 97, 99] q ++ [] ++ ([97, 97, 97, 97, 97] ++ [100])
      simp only [List.nil_append, List.append_assoc, List.cons_append]
    · show 0 + (12 * q + 4) + 2 = 1 + (12 * q + 4) + 1
      omega
  | 5, _ =>
    have a3 := feed_join a1 (feed_join a2 (show feedL LB ⟨0, [98, 97], false⟩ (pw [97] 5) = _ from bw5))
    have z := whole_some a3 b_e5
    have e1 : n / 12 = q + 0 := by omega
    have e2 : n % 12 = 6 := by omega
    have e3 : n % 3 = 0 := by omega
    rw [z, e1, e2, e3, pw_add, hn]
    refine congrArg some (Prod.ext ?_ (Prod.ext ?_ rfl))
    · show [] ++ (pw [97, 97, 97, 97, 97, 97, 97, 97, 97, 97, 97, 99] q ++ [97, 97, 97, 97, 97]) ++ [97, 98] = pw [97, 97, 97, 97, 97, 97, 97, 97, 97, 97, 97, 99] q ++ [] ++ ([97, 97, 97, 97, 97, 97] ++ [98])
      simp only [List.nil_append, List.append_assoc, List.cons_append]
    · show 0 + (12 * q + 5) + 2 = 1 + (12 * q + 5) + 1
      omega
  | 6, _ =>
    have a3 := feed_join a1 (feed_join a2 (show feedL LB ⟨0, [98, 97], false⟩ (pw [97] 6) = _ from bw6))
    have z := whole_some a3 b_e6
    have e1 : n / 12 = q + 0 := by omega
    have e2 : n % 12 = 7 := by omega
    have e3 : n % 3 = 1 := by omega
    rw [z, e1, e2, e3, pw_add, hn]
    refine congrArg some (Prod.ext ?_ (Prod.ext ?_ rfl))
    · show [] ++ (pw [97, 97, 97, 97, 97, 97, 97, 97, 97, 97, 97, 99] q ++ [97, 97, 97, 97, 97, 97]) ++ [97, 99] = pw [97, 97, 97, 97, 97, 97, 97, 97, 97, 97, 97, 99] q ++ [] ++ ([97, 97, 97, 97, 97, 97, 97] ++ [99])
      simp only [List.nil_append, List.append_assoc, List.cons_append]
    · show 0 + (12 * q + 6) + 2 = 1 + (12 * q + 6) + 1
      omega
  | 7, _ =>
    have a3 := feed_join a1 (feed_join a2 (show feedL LB ⟨0, [98, 97], false⟩ (pw [97] 7) = _ from bw7))
    have z := whole_some a3 b_e7
    have e1 : n / 12 = q + 0 := by omega
    have e2 : n % 12 = 8 := by omega
    have e3 : n % 3 = 2 := by omega
    rw [z, e1, e2, e3, pw_add, hn]
    refine congrArg some (Prod.ext ?_ (Prod.ext ?_ rfl))
    · show [] ++ (pw [97, 97, 97, 97, 97, 97, 97, 97, 97, 97, 97, 99] q ++ [97, 97, 97, 97, 97, 97, 97]) ++ [97, 100] = pw [97, 97, 97, 97, 97, 97, 97, 97, 97, 97, 97, 99] q ++ [] ++ ([97, 97, 97, 97, 97, 97, 97, 97] ++ [100])
      simp only [List.nil_append, List.append_assoc, List.cons_append]
    · show 0 + (12 * q + 7) + 2 = 1 + (12 * q + 7) + 1
      omega
  | 8, _ =>
    have a3 := feed_join a1 (feed_join a2 (show feedL LB ⟨0, [98, 97], false⟩ (pw [97] 8) = _ from bw8))
    have z := whole_some a3 b_e8
    have e1 : n / 12 = q + 0 := by omega
    have e2 : n % 12 = 9 := by omega
    have e3 : n % 3 = 0 := by omega
    rw [z, e1, e2, e3, pw_add, hn]
    refine congrArg some (Prod.ext ?_ (Prod.ext ?_ rfl))
    · show [] ++ (pw [97, 97, 97, 97, 97, 97, 97, 97, 97, 97, 97, 99] q ++ [97, 97, 97, 97, 97, 97, 97, 97]) ++ [97, 98] = pw [97, 97, 97, 97, 97, 97, 97, 97, 97, 97, 97, 99] q ++ [] ++ ([97, 97, 97, 97, 97, 97, 97, 97, 97] ++ [98])
      simp only [List.nil_append, List.append_assoc, List.cons_append]
    · show 0 + (12 * q + 8) + 2 = 1 + (12 * q + 8) + 1
      omega
  | 9, _ =>
    have a3 := feed_join a1 (feed_join a2 (show feedL LB ⟨0, [98, 97], false⟩ (pw [97] 9) = _ from bw9))
    have z := whole_some a3 b_e9
    have e1 : n / 12 = q + 0 := by omega
    have e2 : n % 12 = 10 := by omega
    have e3 : n % 3 = 1 := by omega
    rw [z, e1, e2, e3, pw_add, hn]
    refine congrArg some (Prod.ext ?_ (Prod.ext ?_ rfl))
    · show [] ++ (pw [97, 97, 97, 97, 97, 97, 97, 97, 97, 97, 97, 99] q ++ [97, 97, 97, 97, 97, 97, 97, 97, 97]) ++ [97, 99] = pw [97, 97, 97, 97, 97, 97, 97, 97, 97, 97, 97, 99] q ++ [] ++ ([97, 97, 97, 97, 97, 97, 97, 97, 97, 97] ++ [99])
      simp only [List.nil_append, List.append_assoc, List.cons_append]
    · show 0 + (12 * q + 9) + 2 = 1 + (12 * q + 9) + 1
      omega
  | 10, _ =>
    have a3 := feed_join a1 (feed_join a2 (show feedL LB ⟨0, [98, 97], false⟩ (pw [97] 10) = _ from bw10))
    have z := whole_some a3 b_e10
    have e1 : n / 12 = q + 0 := by omega
    have e2 : n % 12 = 11 := by omega
    have e3 : n % 3 = 2 := by omega
    rw [z, e1, e2, e3, pw_add, hn]
    refine congrArg some (Prod.ext ?_ (Prod.ext ?_ rfl))
    · show [] ++ (pw [97, 97, 97, 97, 97, 97, 97, 97, 97, 97, 97, 99] q ++ [97, 97, 97, 97, 97, 97, 97, 97, 97, 97]) ++ [97, 100] = pw [97, 97, 97, 97, 97, 97, 97, 97, 97, 97, 97, 99] q ++ [] ++ ([97, 97, 97, 97, 97, 97, 97, 97, 97, 97, 97] ++ [100])
      simp only [List.nil_append, List.append_assoc, List.cons_append]
    · show 0 + (12 * q + 10) + 2 = 1 + (12 * q + 10) + 1
      omega
  | 11, _ =>
    have a3 := feed_join a1 (feed_join a2 (show feedL LB ⟨0, [98, 97], false⟩ (pw [97] 11) = _ from bw11))
    have z := whole_some a3 b_e11
    have e1 : n / 12 = q + 1 := by omega
    have e2 : n % 12 = 0 := by omega
    have e3 : n % 3 = 0 := by omega
    rw [z, e1, e2, e3, pw_add, hn]
    refine congrArg some (Prod.ext ?_ (Prod.ext ?_ rfl))
    · show [] ++ (pw [97, 97, 97, 97, 97, 97, 97, 97, 97, 97, 97, 99] q ++ [97, 97, 97, 97, 97, 97, 97, 97, 97, 97, 97]) ++ [99, 98] = pw [97, 97, 97, 97, 97, 97, 97, 97, 97, 97, 97, 99] q ++ [97, 97, 97, 97, 97, 97, 97, 97, 97, 97, 97, 99] ++ ([] ++ [98])
      simp only [List.nil_append, List.append_assoc, List.cons_append]
    · show 0 + (12 * q + 11) + 2 = 1 + (12 * q + 11) + 1
      omega
end OB
set_option Elab.async false
set_option linter.all false
set_option maxRecDepth 100000
set_option maxHeartbeats 4000000
namespace OB
open PySem PySem.Spec PySem.Calls PyProof.Rows L2 PySem.W StX
theorem passN {X : Cx} : Passes (L2.CX X.prog X.w) X E0 := fun _ _ _ _ _ _ _ ⟨_, _, _, _, _, _, _, _, _, _, _, _, z⟩ => z.elim
theorem veds_of {es : List Ed} (h1 : ∀ e ∈ es, okEd e) (h2 : es.length ≤ 4) (h3 : (es.filter isIns).length ≤ 1) (h4 : (es.filter isDel).length ≤ 2) (h5 : ∀ e ∈ es, isBrk e = false) : VEds es :=
  ⟨h1, h2, h3, h4, fun a b e => by
    have := h5 .brk (by rw [e]; simp)
    cases this⟩
theorem sel_a : Sel [97] abcd := ⟨by decide, by decide⟩
theorem sel_a' : Sel [97] abcdE := ⟨by decide, by decide⟩
theorem sel_b : Sel [98] abcd := ⟨by decide, by decide⟩
theorem sel_c : Sel [99] abcd := ⟨by decide, by decide⟩
theorem sel_d : Sel [100] abcd := ⟨by decide, by decide⟩
theorem sel_e : Sel abcdE abcdE := ⟨by decide, by decide⟩
def okEdB : Ed → Bool
  | .put c => decide (c ∈ abcd)
  | .before c => decide (c ∈ abcd)
  | .after c => decide (c ∈ abcd)
  | .mark m => decide (m < 4)
  | _ => true
theorem okEdB_ok {e : Ed} (h : okEdB e = true) : okEd e := by
  cases e with
  | put c => exact of_decide_eq_true (p := c ∈ abcd) h
  | before c => exact of_decide_eq_true (p := c ∈ abcd) h
  | after c => exact of_decide_eq_true (p := c ∈ abcd) h
  | mark m => exact of_decide_eq_true (p := m < 4) h
  | drop => trivial
  | dropNext => trivial
  | brk => trivial
def vedsB (es : List Ed) : Bool := es.all okEdB && decide (es.length ≤ 4) && decide ((es.filter isIns).length ≤ 1) && decide ((es.filter isDel).length ≤ 2) && es.all fun e => !isBrk e
theorem vedsB_ok {es : List Ed} (h : vedsB es = true) : VEds es := by
  unfold vedsB at h
  simp only [Bool.and_eq_true, List.all_eq_true, decide_eq_true_eq, Bool.not_eq_true'] at h
  exact veds_of (fun e he => okEdB_ok (h.1.1.1.1 e he)) h.1.1.1.2 h.1.1.2 h.1.2 h.2
def selB (l al : List Nat) : Bool := !l.isEmpty && decide (l = al.filter fun c => decide (c ∈ l))
theorem selB_ok {l al : List Nat} (h : selB l al = true) : Sel l al := by
  unfold selB at h
  rw [Bool.and_eq_true] at h
  refine ⟨fun z => ?_, of_decide_eq_true h.2⟩
  rw [z] at h
  cases h.1
def vruB (r : Ru) : Bool := (match r.mark with | none => true | some m => decide (m < 4)) && selB r.items abcd && selB r.nexts abcdE && vedsB r.edits
theorem vruB_ok {r : Ru} (h : vruB r = true) : VRu r := by
  unfold vruB at h
  simp only [Bool.and_eq_true] at h
  refine ⟨fun m hm => ?_, selB_ok h.1.1.2, selB_ok h.1.2, vedsB_ok h.2⟩
  have z := h.1.1.1
  rw [hm] at z
  exact of_decide_eq_true z
def vloB (L : Lo) : Bool := decide (L.rules.length ≤ 12) && L.rules.all vruB && decide (L.ends.length = 4) && L.ends.all fun e => e.all (fun c => decide (c ∈ abcd)) && decide (e.length ≤ 4)
theorem vloB_ok {L : Lo} (h : vloB L = true) : VLo L := by
  unfold vloB at h
  simp only [Bool.and_eq_true, List.all_eq_true, decide_eq_true_eq] at h
  exact ⟨h.1.1.1, fun r hr => vruB_ok (h.1.1.2 r hr), h.1.2, fun e he => ⟨(h.2 e he).1, (h.2 e he).2⟩⟩
theorem LC_ok : VLo LC := vloB_ok (by decide)
theorem LB_ok : VLo LB := vloB_ok (by decide)
theorem a_tx : ("a" : Str) = tx [97] := by decide +kernel
theorem b_tx : ("b" : Str) = tx [98] := by decide +kernel
theorem c_tx : ("c" : Str) = tx [99] := by decide +kernel
theorem d_tx : ("d" : Str) = tx [100] := by decide +kernel
theorem cc_tx : ("cc" : Str) = tx [99, 99] := by decide +kernel
theorem aaab_tx : ("aaab" : Str) = tx [97, 97, 97, 98] := by decide +kernel
theorem cend_at {d : Nat} (h : d < 4) : atI [V.str "", .str "b", .str "cc", .str "d"] (d : Int) = some (.str (tx (endC d))) := by
  rw [emp_tx, b_tx, cc_tx, d_tx]
  match d, h with
  | 0, _ => rfl
  | 1, _ => rfl
  | 2, _ => rfl
  | 3, _ => rfl
theorem cend_ok {d : Nat} (h : d < 4) : (∀ c ∈ endC d, c ∈ abcd) ∧ (endC d).length ≤ 20 := by
  match d, h with
  | 0, _ => decide
  | 1, _ => decide
  | 2, _ => decide
  | 3, _ => decide
theorem way_end : PyData.eqv (.tuple [.str "end"]) (.tuple [.str "end"]) = true := by simp [PyData.eqv, PyData.eqvAll]
theorem way_end_sh : SeqAt.shaped (.tuple [.str "end"]) = true := by decide +kernel
theorem den3 (a b c : List Nat) (i j : Nat) : den [(a, i), (b, j), (c, 1)] = pw a i ++ (pw b j ++ c) := by
  show pw a i ++ (pw b j ++ (pw c 1 ++ [])) = _
  rw [pw_one, List.append_nil]
theorem rus_len {H : Hp} {D : Addr} {rs : List Ru} (h : RusAt H D rs) : ∃ vs, H D = some (.lst vs) ∧ vs.length = rs.length ∧ Paired (IsRu H) vs rs := by
  obtain ⟨vs, e, p⟩ := h
  exact ⟨vs, e, paired_len p, p⟩
theorem rus_snoc {H : Hp} {D p : Addr} {rs : List Ru} {vs : List V} {r : Ru} (e : H D = some (.lst vs)) (h : Paired (IsRu H) vs rs) (hr : IsRu H (.ref p) r) : RusAt (upd H D (.lst (vs ++ [.ref p]))) D (rs ++ [r]) := by
  have t : TK H (upd H D (.lst (vs ++ [.ref p]))) := fun a xs hx => by rw [upd_ne (ne_of_at hx e (fun z => by cases z))]; exact hx
  exact ⟨_, upd_same, paired_snoc (hr.mono t) (paired_mono (fun _ _ z => IsRu.mono t z) h)⟩
theorem RusAt.ext {H H' : Hp} {D : Addr} {rs : List Ru} (h : RusAt H D rs) (e : Ext H H') : RusAt H' D rs := by
  obtain ⟨vs, e1, p⟩ := h
  exact ⟨vs, e _ _ e1, paired_mono (fun _ _ z => IsRu.mono (Ext.tk e) z) p⟩
theorem ext_fresh {H H1 : Hp} {D : Addr} {o : HO} (e : Ext H H1) (h : H D = none) : Ext H (upd H1 D o) := fun b u hb => by
  rw [upd_ne (fun z => by rw [z, h] at hb; cases hb)]
  exact e _ _ hb
end OB
set_option Elab.async false
set_option linter.all false
set_option maxRecDepth 100000
set_option maxHeartbeats 4000000
namespace OB
open PySem PySem.Spec PySem.Calls PyProof.Rows L2 PySem.W StX
section
variable {P : Program} {w : World} {K : Frag} {mg : Str → Option Value} {base : Heap}
/- _law_counted_right: slots _law_many=0 _law_rules=1 _law_told_here=2 _law_left=3 _law_mark=4 -/
def sp_law_counted_right (_ : Frag) : Sp := fun vs H Q _ => ∃ n : Nat, vs = [.int (n : Int)] ∧ n ≤ 10 ^ 60 ∧ ∀ H', Ext H H' → Q (.bl true) H'
def N_law_counted_right : List Str := ["_law_many", "_law_rules", "_law_told_here", "_law_left", "_law_mark"]
theorem sc_law_counted_right : FnScope N_law_counted_right ["_law_many"] (defScope s_law_counted_right) := ⟨rfl, rfl, rfl, by decide +kernel, rfl, by decide +kernel, by decide +kernel⟩
theorem ok_law_counted_right (T : Txt K mg w) : FnR P w K mg base CX0 12 (He.ga K "_law_counted_right") (sp_law_counted_right K) := by
  refine ok_of T.f_law_counted_right sc_law_counted_right (fun _ _ _ _ _ _ us hl => match us, hl with | [_], _ => rfl) (fun vs H Q E h => ?_) (fun cdv A outer s H vs Q E hr h => ?_)
  · repeat (first | (obtain ⟨rfl, _⟩ := h; rfl) | (obtain ⟨_, h⟩ := h))
  refine ⟨_, (pss_cons (ps_setLc (i := 1) (own := [("_law_mark", 4)]) rfl sc_law_counted_right.nd rfl rfl (sw_true rfl rfl rfl (by decide +kernel)) (pi_range1 rfl T.z_range (pa_cons pe_int pa_nil)) (blkOk_by (own := [("_law_mark", 4)]) (N := N_law_counted_right) (sc := defScope s_law_counted_right) (by decide +kernel)) (fun _ _ _ _ _ => (pg_name (i := 4) sc_law_counted_right.nd rfl (Or.inl rfl))) (fun _ _ _ _ _ => pts_nil) (fun _ _ _ _ _ => (pe_tup (pa_cons (pv 4) (pa_cons pe_str (pa_cons pe_str (pa_cons (pe_tup (pa_cons (pe_tup (pa_cons pe_str (pa_cons (pe_op op_add (pv 4) pe_int) pa_nil))) pa_nil)) pa_nil)))))))
    (pss_cons (ps_expr (pe_bm PySem.F.plainAttrs_list PySem.F.slot_list_append PySem.F.type_list_append mt_append (pv 1) (pa_cons (pe_tup (pa_cons pe_int (pa_cons pe_str (pa_cons pe_str (pa_cons (pe_tup (pa_cons (pe_tup (pa_cons pe_str (pa_cons pe_str pa_nil))) (pa_cons (pe_tup (pa_cons pe_str (pa_cons pe_int pa_nil))) pa_nil))) pa_nil))))) pa_nil)))
    (pss_cons (ps_set (i := 2) sc_law_counted_right.nd rfl (Or.inl rfl) (pe_f (ok_run_far T) T.g_run_far (kp_of T.f_run_far) (hr.mono (by decide)) passN (pa_cons (pe_tup (pa_cons (pe_tup (pa_cons (pe_callTy call_tuple_of (by rfl) T.z_tuple boot_tuple (pa_cons (pv 1) pa_nil)) (pa_cons (pe_tup (pa_cons pe_str (pa_cons pe_str (pa_cons pe_str (pa_cons pe_str pa_nil))))) pa_nil))) pa_nil)) (pa_cons (pe_mk (ok_Repeats_init T) T.m_Repeats T.g_Repeats (hr.mono (by decide)) pass0 (pa_cons (pe_lst (pa_cons (pe_tup (pa_cons pe_str (pa_cons (pv 0) pa_nil))) pa_nil)) pa_nil)) pa_nil))))
    (pss_cons (ps_set (i := 3) sc_law_counted_right.nd rfl (Or.inl rfl) (pe_mk (ok_Repeats_init T) T.m_Repeats T.g_Repeats (hr.mono (by decide)) pass0 (pa_cons (pe_lst (pa_cons (pe_tup (pa_cons pe_str (pa_cons (pe_op op_fdivW (pv 0) pe_int) pa_nil))) (pa_cons (pe_tup (pa_cons pe_str (pa_cons (pe_op op_mod (pv 0) pe_int) pa_nil))) (pa_cons (pe_tup (pa_cons (pe_ix ix_list (pe_lst (pa_cons pe_str (pa_cons pe_str (pa_cons pe_str (pa_cons pe_str pa_nil))))) (pe_op op_mod (pv 0) pe_int) (fun _ _ => rfl)) (pa_cons pe_int pa_nil))) pa_nil)))) pa_nil)))
    (pss_one (ps_ret (pe_and (pe_cmpR (op_eqG (rcG_insR (ok_Repeats_eq T) T.mt_Repeats_eq.at_ T.mt_Repeats_eq.fn pass0) (hr.mono (by decide))) (pe_prR (ok_Result_text T) T.c_Result T.p_Result_text (hr.mono (by decide)) pass0 (pv 2)) (pv 3) (nomark _)) (pe_and (pe_cmpR (op_eqD hr.units) (pe_prR (ok_Result_passes T) T.c_Result T.p_Result_passes (hr.mono (by decide)) pass0 (pv 2)) (pe_tup (pa_cons (pv 0) pa_nil)) (nomark _)) (pe_one (pe_cmpR (op_eqD hr.units) (pe_prR (ok_Result_ways T) T.c_Result T.p_Result_ways (hr.mono (by decide)) pass0 (pv 2)) (pe_tup (pa_cons pe_str pa_nil)) (nomark _))))))))))), ?_⟩
  obtain ⟨n, rfl, hn, q⟩ := h
  refine ⟨(3 : Int), rfl, by decide, by decide, fun D hD => ?_⟩
  refine lc_range (fun i H' => Ext H H' ∧ RusAt H' D (LC.rules.take i)) ⟨Ext.upd hD, [], upd_same, .nil⟩ ?_ ?_
  · rintro i H1 hi ⟨e1, hR⟩
    have hi3 : i < 3 := hi
    refine ⟨rfl, ?_⟩
    unfold tYes
    refine if_t rfl ?_
    refine ⟨_, rfl, _, rfl, _, _, rfl, rfl, sz2 (by simp), fun p1 h1 => ⟨sz2 (by simp), fun p2 h2 => ⟨sz2 (by simp), fun p3 h3 => ?_⟩⟩⟩
    have F1 := Ext.upd (o := .tup [.str "mark", .int (0 + (i : Int) + 1)]) h1
    have F2 := Ext.upd (o := .tup [.ref p1]) h2
    have F3 := Ext.upd (o := .tup [.int (0 + (i : Int)), .str "a", .str "abcd$", .ref p2]) h3
    have g1 : upd (upd (upd H1 p1 (.tup [.str "mark", .int (0 + (i : Int) + 1)])) p2 (.tup [.ref p1])) p3 (.tup [.int (0 + (i : Int)), .str "a", .str "abcd$", .ref p2]) p1 = some (.tup (edV (.mark (i + 1)))) := F3 _ _ (F2 _ _ (by rw [upd_same, Int.zero_add]; rfl))
    have g2 := F3 _ _ (upd_same (H := upd H1 p1 (.tup [.str "mark", .int (0 + (i : Int) + 1)])) (a := p2) (o := .tup [.ref p1]))
    have g3 : upd (upd (upd H1 p1 (.tup [.str "mark", .int (0 + (i : Int) + 1)])) p2 (.tup [.ref p1])) p3 (.tup [.int (0 + (i : Int)), .str "a", .str "abcd$", .ref p2]) p3 = some (.tup [mkV (some i), .str (tx [97]), .str (tx abcdE), .ref p2]) := by
      rw [upd_same, a_tx, abcdE_tx, Int.zero_add]
      rfl
    have F := F1.trans (F2.trans F3)
    generalize upd (upd (upd H1 p1 (.tup [.str "mark", .int (0 + (i : Int) + 1)])) p2 (.tup [.ref p1])) p3 (.tup [.int (0 + (i : Int)), .str "a", .str "abcd$", .ref p2]) = H4 at g1 g2 g3 F ⊢
    have hr : IsRu H4 (.ref p3) ⟨some i, [97], abcdE, [.mark (i + 1)]⟩ := ⟨p3, .ref p2, rfl, g3, p2, [.ref p1], rfl, g2, .cons ⟨p1, rfl, g1⟩ .nil⟩
    obtain ⟨vs, hv, hl, hP⟩ := rus_len (hR.ext F)
    have hi' : LC.rules[i]? = some ⟨some i, [97], abcdE, [.mark (i + 1)]⟩ := by
      match i, hi3 with
      | 0, _ => rfl
      | 1, _ => rfl
      | 2, _ => rfl
    rw [List.length_take] at hl
    refine ⟨vs, hv, Nat.lt_of_lt_of_le (by omega) sizeBig, ext_fresh (e1.trans F) hD, ?_⟩
    rw [take_more' hi']
    exact rus_snoc hv hP hr
  · rintro H1 ⟨e1, hR⟩
    -- the last rule
    refine ⟨_, rfl, ?_⟩
    obtain ⟨vs, hv, hl, hP⟩ := rus_len hR
    refine ⟨tyL hv, ?_⟩
    refine ⟨sz2 (by simp), fun p1 h1 => ⟨sz2 (by simp), fun p2 h2 => ⟨sz2 (by simp), fun p3 h3 => ⟨sz2 (by simp), fun p4 h4 => ?_⟩⟩⟩⟩
    have F1 := Ext.upd (o := .tup [.str "put", .str "b"]) h1
    have F2 := Ext.upd (o := .tup [.str "mark", .int 0]) h2
    have F3 := Ext.upd (o := .tup [.ref p1, .ref p2]) h3
    have F4 := Ext.upd (o := .tup [.int 3, .str "a", .str "abcd$", .ref p3]) h4
    have F := F1.trans (F2.trans (F3.trans F4))
    have g1 := F4 _ _ (F3 _ _ (F2 _ _ (show upd H1 p1 (.tup [.str "put", .str "b"]) p1 = some (.tup (edV (.put 98))) by rw [upd_same, b_tx]; rfl)))
    have g2 := F4 _ _ (F3 _ _ (show upd (upd H1 p1 (.tup [.str "put", .str "b"])) p2 (.tup [.str "mark", .int 0]) p2 = some (.tup (edV (.mark 0))) by rw [upd_same]; rfl))
    have g3 := F4 _ _ (upd_same (H := upd (upd H1 p1 (.tup [.str "put", .str "b"])) p2 (.tup [.str "mark", .int 0])) (a := p3) (o := .tup [.ref p1, .ref p2]))
    have g4 : upd (upd (upd (upd H1 p1 (.tup [.str "put", .str "b"])) p2 (.tup [.str "mark", .int 0])) p3 (.tup [.ref p1, .ref p2])) p4 (.tup [.int 3, .str "a", .str "abcd$", .ref p3]) p4 = some (.tup [mkV (some 3), .str (tx [97]), .str (tx abcdE), .ref p3]) := by
      rw [upd_same, a_tx, abcdE_tx]
      rfl
    generalize upd (upd (upd (upd H1 p1 (.tup [.str "put", .str "b"])) p2 (.tup [.str "mark", .int 0])) p3 (.tup [.ref p1, .ref p2])) p4 (.tup [.int 3, .str "a", .str "abcd$", .ref p3]) = H4 at g1 g2 g3 g4 F ⊢
    have hr : IsRu H4 (.ref p4) ⟨some 3, [97], abcdE, [.put 98, .mark 0]⟩ := ⟨p4, .ref p3, rfl, g4, p3, [.ref p1, .ref p2], rfl, g3, .cons ⟨p1, rfl, g1⟩ (.cons ⟨p2, rfl, g2⟩ .nil)⟩
    obtain ⟨vs4, hv4, hl4, hP4⟩ := rus_len (hR.ext F)
    rw [List.length_take] at hl4
    refine ⟨_, _, _, rfl, rfl, hv4, Nat.lt_of_lt_of_le (by omega) sizeBig, ?_⟩
    have R5 := rus_snoc hv4 hP4 hr
    rw [show LC.rules.take (Int.toNat 3) ++ [⟨some 3, [97], abcdE, [.put 98, .mark 0]⟩] = LC.rules from rfl] at R5
    have e5 := ext_fresh (o := .lst (vs4 ++ [.ref p4])) (e1.trans F) hD
    generalize upd H4 D (.lst (vs4 ++ [.ref p4])) = H5 at R5 e5 ⊢
    obtain ⟨vs5, hv5, hl5, hP5⟩ := rus_len R5
    -- the loop, the list
    refine ⟨_, rfl, _, _, rfl, .inl ⟨sl hv5, fun t1 ht1 => ?_⟩⟩
    have G1 := Ext.upd (o := .tup vs5) ht1
    refine ⟨sz2 (by simp), fun t2 ht2 => ⟨sz2 (by simp), fun t3 ht3 => ⟨sz2 (by simp), fun t4 ht4 => ?_⟩⟩⟩
    have G2 := Ext.upd (o := .tup [.str "", .str "b", .str "cc", .str "d"]) ht2
    have G3 := Ext.upd (o := .tup [.ref t1, .ref t2]) ht3
    have G4 := Ext.upd (o := .tup [.ref t3]) ht4
    have w1 := (G2.trans (G3.trans G4)) _ _ (upd_same (H := H5) (a := t1) (o := .tup vs5))
    have w2 := (G3.trans G4) _ _ (show upd (upd H5 t1 (.tup vs5)) t2 (.tup [.str "", .str "b", .str "cc", .str "d"]) t2 = some (.tup (LC.ends.map fun e => .str (tx e))) by rw [upd_same, emp_tx, b_tx, cc_tx, d_tx]; rfl)
    have w3 := G4 _ _ (upd_same (H := upd (upd H5 t1 (.tup vs5)) t2 (.tup [.str "", .str "b", .str "cc", .str "d"])) (a := t3) (o := .tup [.ref t1, .ref t2]))
    have w4 := upd_same (H := upd (upd (upd H5 t1 (.tup vs5)) t2 (.tup [.str "", .str "b", .str "cc", .str "d"])) t3 (.tup [.ref t1, .ref t2])) (a := t4) (o := .tup [.ref t3])
    have G := G1.trans (G2.trans (G3.trans G4))
    generalize upd (upd (upd (upd H5 t1 (.tup vs5)) t2 (.tup [.str "", .str "b", .str "cc", .str "d"])) t3 (.tup [.ref t1, .ref t2])) t4 (.tup [.ref t3]) = H6 at w1 w2 w3 w4 G ⊢
    have hLo : IsLo H6 (.ref t3) LC := ⟨t3, .ref t1, .ref t2, rfl, w3, ⟨t1, vs5, rfl, w1, paired_mono (fun _ _ z => IsRu.mono (Ext.tk G) z) hP5⟩, ⟨t2, rfl, w2⟩⟩
    have e6 := e5.trans G
    refine ⟨_, rfl, sz2 (by simp), fun p5 h5 => ⟨sz2 (by simp), fun l5 hl5 => ?_⟩⟩
    have E7 := (Ext.upd (o := .tup [.str "a", .int (n : Int)]) h5).trans (Ext.upd (o := .lst [.ref p5]) hl5)
    have npl : p5 ≠ l5 := fun z => by rw [← z, upd_same] at hl5; cases hl5
    have hPl : IsPairs (upd (upd H6 p5 (.tup [.str "a", .int (n : Int)])) l5 (.lst [.ref p5])) l5 [([97], n)] := ⟨[.ref p5], upd_same, .cons ⟨p5, rfl, by rw [upd_ne npl, upd_same, a_tx]⟩ .nil⟩
    generalize upd (upd H6 p5 (.tup [.str "a", .int (n : Int)])) l5 (.lst [.ref p5]) = H7 at E7 hPl ⊢
    intro x1 dx1 n1 n2 n3
    refine ⟨x1, dx1, .ref l5, [([97], n)], rfl, upd_same, .inr ⟨l5, rfl, hPl.mono (ext_made n1 n2), by simp, fun q hq => by rw [List.mem_singleton.mp hq]; exact ⟨by show ∀ c ∈ [97], c ∈ abcd; decide, by show 1 ≤ 20; decide, hn⟩⟩, fun H8 l8 ps k8 hx8 hP8 hd8 hg8 hl8 _ => ⟨rfl, ?_⟩⟩
    have E8 := E7.trans (kp_made n1 n2 k8)
    obtain ⟨u1, u2, u3⟩ := rep_fit hd8 hg8 hl8 (fun x hx => by rw [List.mem_singleton.mp hx]; exact (by decide : (1 : Nat) ≤ 20)) (by
      show 1 * n + 0 < 2 ^ 4000
      have := big_ok (a := 1) (b := n) (by decide) hn
      omega)
    rw [den_one] at hd8
    have cw := counted n
    refine ⟨t4, .ref t3, .ref x1, ps, LC, rfl, E8 _ _ w4, hLo.mono (Ext.tk E8), LC_ok, ⟨x1, dx1, l8, rfl, hx8, hP8, hg8⟩, u1, Nat.le_trans u2 (by show 1 ≤ 100; decide), u3, (fun h0 => by rw [hd8, cw] at h0; cases h0), fun x hx H9 v ws e9 hr hz hwl => ?_⟩
    rw [hd8, cw] at hx
    cases hx
    dsimp only at hr hz
    obtain ⟨a1, d1, rv1, pa1, wa1, rfl, o1, R1, y1, y2⟩ := hr
    have e9' := e6.trans (E8.trans e9)
    -- what is expected
    have lt4 : n % 4 < 4 := Nat.mod_lt _ (by decide)
    refine ⟨_, rfl, _, _, rfl, rfl, ⟨by decide, by decide⟩, ?_⟩
    dsimp only
    rw [show (n : Int) / 4 = ((n / 4 : Nat) : Int) from (Int.natCast_ediv n 4).symm]
    refine ⟨sz2 (by simp), fun z1 hz1 => ?_⟩
    refine ⟨_, rfl, _, _, rfl, rfl, (by show (0 : Int) < 4; decide), ?_⟩
    dsimp only
    rw [show (n : Int) % 4 = ((n % 4 : Nat) : Int) from (Int.natCast_emod n 4).symm]
    refine ⟨sz2 (by simp), fun z2 hz2 => ?_⟩
    refine ⟨sz2 (by simp), fun z3 hz3 => ?_⟩
    refine ⟨_, rfl, _, _, rfl, rfl, (by show (0 : Int) < 4; decide), ?_⟩
    dsimp only
    rw [show (n : Int) % 4 = ((n % 4 : Nat) : Int) from (Int.natCast_emod n 4).symm]
    refine ⟨_, _, ((n % 4 : Nat) : Int), _, rfl, rfl, sl upd_same, cend_at lt4, ?_⟩
    refine ⟨sz2 (by simp), fun z4 hz4 => ⟨sz2 (by simp), fun l9 hl9 => ?_⟩⟩
    have K1 := Ext.upd (o := .tup [.str "aaab", .int ((n / 4 : Nat) : Int)]) hz1
    have K2 := Ext.upd (o := .tup [.str "a", .int ((n % 4 : Nat) : Int)]) hz2
    have K3 := Ext.upd (o := .lst [.str "", .str "b", .str "cc", .str "d"]) hz3
    have K4 := Ext.upd (o := .tup [.str (tx (endC (n % 4))), .int 1]) hz4
    have K5 := Ext.upd (o := .lst [.ref z1, .ref z2, .ref z4]) hl9
    have m1 := (K2.trans (K3.trans (K4.trans K5))) _ _ (show upd H9 z1 (.tup [.str "aaab", .int ((n / 4 : Nat) : Int)]) z1 = some (.tup [.str (tx [97, 97, 97, 98]), .int ((n / 4 : Nat) : Int)]) by rw [upd_same, aaab_tx])
    have m2 := (K3.trans (K4.trans K5)) _ _ (show upd (upd H9 z1 (.tup [.str "aaab", .int ((n / 4 : Nat) : Int)])) z2 (.tup [.str "a", .int ((n % 4 : Nat) : Int)]) z2 = some (.tup [.str (tx [97]), .int ((n % 4 : Nat) : Int)]) by rw [upd_same, a_tx])
    have m4 := K5 _ _ (upd_same (H := upd (upd (upd H9 z1 (.tup [.str "aaab", .int ((n / 4 : Nat) : Int)])) z2 (.tup [.str "a", .int ((n % 4 : Nat) : Int)])) z3 (.lst [.str "", .str "b", .str "cc", .str "d"])) (a := z4) (o := .tup [.str (tx (endC (n % 4))), .int 1]))
    have m5 := upd_same (H := upd (upd (upd (upd H9 z1 (.tup [.str "aaab", .int ((n / 4 : Nat) : Int)])) z2 (.tup [.str "a", .int ((n % 4 : Nat) : Int)])) z3 (.lst [.str "", .str "b", .str "cc", .str "d"])) z4 (.tup [.str (tx (endC (n % 4))), .int 1])) (a := l9) (o := .lst [.ref z1, .ref z2, .ref z4])
    have KK := K1.trans (K2.trans (K3.trans (K4.trans K5)))
    generalize upd (upd (upd (upd (upd H9 z1 (.tup [.str "aaab", .int ((n / 4 : Nat) : Int)])) z2 (.tup [.str "a", .int ((n % 4 : Nat) : Int)])) z3 (.lst [.str "", .str "b", .str "cc", .str "d"])) z4 (.tup [.str (tx (endC (n % 4))), .int 1])) l9 (.lst [.ref z1, .ref z2, .ref z4]) = H10 at m1 m2 m4 m5 KK ⊢
    have hP10 : IsPairs H10 l9 [([97, 97, 97, 98], n / 4), ([97], n % 4), (endC (n % 4), 1)] := ⟨_, m5, .cons ⟨z1, rfl, m1⟩ (.cons ⟨z2, rfl, m2⟩ (.cons ⟨z4, rfl, m4⟩ .nil))⟩
    intro x2 dx2 n4 n5 n6
    refine ⟨x2, dx2, .ref l9, _, rfl, upd_same, .inr ⟨l9, rfl, hP10.mono (ext_made n4 n5), by show 3 ≤ 50; decide, fun q hq => ?_⟩, fun H11 l11 ps2 k11 hx11 hP11 hd11 hg11 hl11 _ => ⟨rfl, ?_⟩⟩
    · simp only [List.mem_cons, List.not_mem_nil, or_false] at hq
      rcases hq with e | e | e <;> rw [e]
      · exact ⟨by show ∀ c ∈ [97, 97, 97, 98], c ∈ abcd; decide, by show 4 ≤ 20; decide, Nat.le_trans (Nat.div_le_self _ _) hn⟩
      · exact ⟨by show ∀ c ∈ [97], c ∈ abcd; decide, by show 1 ≤ 20; decide, Nat.le_trans (Nat.le_of_lt lt4) (by decide)⟩
      · exact ⟨(cend_ok lt4).1, (cend_ok lt4).2, by show 1 ≤ 10 ^ 60; decide⟩
    have E11 := KK.trans (kp_made n4 n5 k11)
    rw [den3] at hd11
    obtain ⟨q1, dq1, lq1, rfl, oq1, _⟩ := id R1
    -- told
    refine ⟨_, rfl, a1, d1, _, rfl, E11 _ _ o1, a1, d1, _, _, _, rfl, E11 _ _ o1, _, rfl, ⟨q1, x2, dq1, dx2, _, _, rfl, rfl, E11 _ _ oq1, hx11, ws, ps2, R1.mono E11, ⟨x2, dx2, l11, rfl, hx11, hP11, hg11⟩, by rw [hz, hd11]⟩, fun H12 e12 => ⟨_, rfl, if_t rfl ?_⟩⟩
    have E12 := E11.trans e12
    refine ⟨_, rfl, a1, d1, _, rfl, E12 _ _ o1, a1, d1, _, _, _, rfl, E12 _ _ o1, _, rfl, sz2 (by simp), fun tp htp => ?_⟩
    have F18 := Ext.upd (o := .tup [.int (n : Int)]) htp
    refine ⟨.tuple [.int (n : Int)], .tuple [.int (n : Int)], .tup (sq (F18 _ _ (E12 _ _ y1))) (.cons (.int _) .nil), .tup (sq upd_same) (.cons (.int _) .nil), rfl, rfl, _, rfl, if_t (eqv_int1 _) ?_⟩
    have E13 := E12.trans F18
    refine ⟨_, rfl, a1, d1, _, rfl, E13 _ _ o1, a1, d1, _, _, _, rfl, E13 _ _ o1, sz2 (by simp), fun tw htw => ?_⟩
    have F19 := Ext.upd (o := .tup [.str "end"]) htw
    refine ⟨.tuple [.str "end"], .tuple [.str "end"], .tup (sq (F19 _ _ (E13 _ _ y2))) (.cons (.str _) .nil), .tup (sq upd_same) (.cons (.str _) .nil), way_end_sh, way_end_sh, ?_⟩
    rw [way_end]
    exact q _ (e9'.trans (E13.trans F19))
end
end OB
set_option Elab.async false
set_option linter.all false
set_option maxRecDepth 100000
set_option maxHeartbeats 4000000
namespace OB
open PySem PySem.Spec PySem.Calls PyProof.Rows L2 PySem.W StX
section
variable {P : Program} {w : World} {K : Frag} {mg : Str → Option Value} {base : Heap}
/- _law_carried_right: slots _law_many=0 _law_rules=1 _law_mark=2 _law_made=3 _law_told_here=4 _law_left=5 -/
def sp_law_carried_right (_ : Frag) : Sp := fun vs H Q _ => ∃ n : Nat, vs = [.int (n : Int)] ∧ n ≤ 10 ^ 60 ∧ ∀ H', Ext H H' → Q (.bl true) H'
theorem cb_at {d : Nat} (h : d < 3) : atI ("bcd" : Str).cps.toList (d : Int) = some (endB d) := by
  rw [show ("bcd" : Str) = tx [98, 99, 100] by decide +kernel]
  match d, h with
  | 0, _ => rfl
  | 1, _ => rfl
  | 2, _ => rfl
theorem bcd_sz : ("bcd" : Str).length ≤ sizeLine := Nat.le_trans (by rw [show ("bcd" : Str) = tx [98, 99, 100] by decide +kernel, tx_len]; decide) sizeBig
theorem cb_ok {d : Nat} (h : d < 3) : endB d ∈ abcd := by
  match d, h with
  | 0, _ => decide
  | 1, _ => decide
  | 2, _ => decide
theorem aac_tx : tx (List.replicate 11 [97]).flatten ++ ("c" : Str) = tx [97, 97, 97, 97, 97, 97, 97, 97, 97, 97, 97, 99] := by rw [c_tx, tx_app]; rfl
def N_law_carried_right : List Str := ["_law_many", "_law_rules", "_law_mark", "_law_made", "_law_told_here", "_law_left"]
theorem sc_law_carried_right : FnScope N_law_carried_right ["_law_many"] (defScope s_law_carried_right) := ⟨rfl, rfl, rfl, by decide +kernel, rfl, by decide +kernel, by decide +kernel⟩
theorem ok_law_carried_right (T : Txt K mg w) : FnR P w K mg base CX0 12 (He.ga K "_law_carried_right") (sp_law_carried_right K) := by
  refine ok_of T.f_law_carried_right sc_law_carried_right (fun _ _ _ _ _ _ us hl => match us, hl with | [_], _ => rfl) (fun vs H Q E h => ?_) (fun cdv A outer s H vs Q E hr h => ?_)
  · repeat (first | (obtain ⟨rfl, _⟩ := h; rfl) | (obtain ⟨_, h⟩ := h))
  refine ⟨_, (pss_cons (ps_set (i := 1) sc_law_carried_right.nd rfl (Or.inl rfl) (pe_lst (pa_cons (pe_tup (pa_cons pe_non (pa_cons pe_str (pa_cons pe_str (pa_cons (pe_tup (pa_cons (pe_tup (pa_cons pe_str (pa_cons pe_str pa_nil))) (pa_cons (pe_tup (pa_cons pe_str pa_nil)) (pa_cons (pe_tup (pa_cons pe_str (pa_cons pe_str pa_nil))) pa_nil)))) pa_nil))))) pa_nil)))
    (pss_cons (ps_expr (pe_bm PySem.F.plainAttrs_list PySem.F.slot_list_append PySem.F.type_list_append mt_append (pv 1) (pa_cons (pe_tup (pa_cons pe_non (pa_cons pe_str (pa_cons pe_str (pa_cons (pe_tup (pa_cons (pe_tup (pa_cons pe_str (pa_cons pe_str pa_nil))) (pa_cons (pe_tup (pa_cons pe_str pa_nil)) (pa_cons (pe_tup (pa_cons pe_str (pa_cons pe_str pa_nil))) pa_nil)))) pa_nil))))) pa_nil)))
    (pss_cons (ps_for PassesOwn.never rfl (pi_range1 rfl T.z_range (pa_cons pe_int pa_nil)) (pg_name (i := 2) sc_law_carried_right.nd rfl (Or.inl rfl))
      (pss_cons (ps_set (i := 3) sc_law_carried_right.nd rfl (Or.inl rfl) (pe_ifExp (pt_cmpR op_eq (pv 2) pe_int (nomark _)) pe_str pe_str))
      (pss_one (ps_expr (pe_bm PySem.F.plainAttrs_list PySem.F.slot_list_append PySem.F.type_list_append mt_append (pv 1) (pa_cons (pe_tup (pa_cons (pv 2) (pa_cons pe_str (pa_cons pe_str (pa_cons (pe_tup (pa_cons (pe_tup (pa_cons pe_str (pa_cons (pv 3) pa_nil))) (pa_cons (pe_tup (pa_cons pe_str pa_nil)) (pa_cons (pe_tup (pa_cons pe_str (pa_cons pe_str pa_nil))) (pa_cons (pe_tup (pa_cons pe_str (pa_cons (pe_op op_mod (pe_op op_add (pv 2) pe_int) pe_int) pa_nil))) pa_nil))))) pa_nil))))) pa_nil))))))
    (pss_cons (ps_set (i := 4) sc_law_carried_right.nd rfl (Or.inl rfl) (pe_f (ok_run_far T) T.g_run_far (kp_of T.f_run_far) (hr.mono (by decide)) passN (pa_cons (pe_tup (pa_cons (pe_tup (pa_cons (pe_callTy call_tuple_of (by rfl) T.z_tuple boot_tuple (pa_cons (pv 1) pa_nil)) (pa_cons (pe_tup (pa_cons pe_str (pa_cons pe_str (pa_cons pe_str (pa_cons pe_str pa_nil))))) pa_nil))) pa_nil)) (pa_cons (pe_mk (ok_Repeats_init T) T.m_Repeats T.g_Repeats (hr.mono (by decide)) pass0 (pa_cons (pe_lst (pa_cons (pe_tup (pa_cons pe_str (pa_cons pe_int pa_nil))) (pa_cons (pe_tup (pa_cons pe_str (pa_cons (pv 0) pa_nil))) pa_nil))) pa_nil)) pa_nil))))
    (pss_cons (ps_set (i := 5) sc_law_carried_right.nd rfl (Or.inl rfl) (pe_mk (ok_Repeats_init T) T.m_Repeats T.g_Repeats (hr.mono (by decide)) pass0 (pa_cons (pe_lst (pa_cons (pe_tup (pa_cons (pe_op op_add_str (pe_op op_repS pe_str pe_int) pe_str) (pa_cons (pe_op op_fdivW (pv 0) pe_int) pa_nil))) (pa_cons (pe_tup (pa_cons pe_str (pa_cons (pe_op op_mod (pv 0) pe_int) pa_nil))) (pa_cons (pe_tup (pa_cons (pe_ix ix_str pe_str (pe_op op_mod (pv 0) pe_int) (fun _ _ => rfl)) (pa_cons pe_int pa_nil))) pa_nil)))) pa_nil)))
    (pss_one (ps_ret (pe_and (pe_cmpR (op_eqG (rcG_insR (ok_Repeats_eq T) T.mt_Repeats_eq.at_ T.mt_Repeats_eq.fn pass0) (hr.mono (by decide))) (pe_prR (ok_Result_text T) T.c_Result T.p_Result_text (hr.mono (by decide)) pass0 (pv 4)) (pv 5) (nomark _)) (pe_and (pe_cmpR (op_eqD hr.units) (pe_prR (ok_Result_passes T) T.c_Result T.p_Result_passes (hr.mono (by decide)) pass0 (pv 4)) (pe_tup (pa_cons (pe_op op_add (pv 0) pe_int) pa_nil)) (nomark _)) (pe_one (pe_cmpR (op_eqD hr.units) (pe_prR (ok_Result_ways T) T.c_Result T.p_Result_ways (hr.mono (by decide)) pass0 (pv 4)) (pe_tup (pa_cons pe_str pa_nil)) (nomark _)))))))))))), ?_⟩
  obtain ⟨n, rfl, hn, q⟩ := h
  refine ⟨sz2 (by simp), fun u1 ah0 => ⟨sz2 (by simp), fun u2 ah1 => ⟨sz2 (by simp), fun u3 ah2 => ⟨sz2 (by simp), fun u4 ah3 => ⟨sz2 (by simp), fun u5 ah4 => ⟨sz2 (by simp), fun D hD => ?_⟩⟩⟩⟩⟩⟩
  have aF0 := Ext.upd (o := .tup [.str "put", .str "a"]) ah0
  have aF1 := Ext.upd (o := .tup [.str "drop_next"]) ah1
  have aF2 := Ext.upd (o := .tup [.str "after", .str "c"]) ah2
  have aF3 := Ext.upd (o := .tup [.ref u1, .ref u2, .ref u3]) ah3
  have aF4 := Ext.upd (o := .tup [.non, .str "b", .str "a", .ref u4]) ah4
  have ag0 := (aF1.trans (aF2.trans (aF3.trans aF4))) _ _ (show (upd H u1 (.tup [.str "put", .str "a"])) u1 = some (.tup (edV (.put 97))) by rw [upd_same, a_tx]; rfl)
  have ag1 := (aF2.trans (aF3.trans aF4)) _ _ (show (upd (upd H u1 (.tup [.str "put", .str "a"])) u2 (.tup [.str "drop_next"])) u2 = some (.tup (edV .dropNext)) by rw [upd_same]; rfl)
  have ag2 := (aF3.trans aF4) _ _ (show (upd (upd (upd H u1 (.tup [.str "put", .str "a"])) u2 (.tup [.str "drop_next"])) u3 (.tup [.str "after", .str "c"])) u3 = some (.tup (edV (.after 99))) by rw [upd_same, c_tx]; rfl)
  have ag3 := aF4 _ _ (show (upd (upd (upd (upd H u1 (.tup [.str "put", .str "a"])) u2 (.tup [.str "drop_next"])) u3 (.tup [.str "after", .str "c"])) u4 (.tup [.ref u1, .ref u2, .ref u3])) u4 = some (.tup [.ref u1, .ref u2, .ref u3]) from upd_same)
  have ag4 := (show (upd (upd (upd (upd (upd H u1 (.tup [.str "put", .str "a"])) u2 (.tup [.str "drop_next"])) u3 (.tup [.str "after", .str "c"])) u4 (.tup [.ref u1, .ref u2, .ref u3])) u5 (.tup [.non, .str "b", .str "a", .ref u4])) u5 = some (.tup [mkV none, .str (tx [98]), .str (tx [97]), .ref u4]) by rw [upd_same, b_tx, a_tx]; rfl)
  have aFF := aF0.trans (aF1.trans (aF2.trans (aF3.trans (aF4))))
  generalize upd (upd (upd (upd (upd H u1 (.tup [.str "put", .str "a"])) u2 (.tup [.str "drop_next"])) u3 (.tup [.str "after", .str "c"])) u4 (.tup [.ref u1, .ref u2, .ref u3])) u5 (.tup [.non, .str "b", .str "a", .ref u4]) = aH at ag0 ag1 ag2 ag3 ag4 aFF hD ⊢
  have aR : IsRu aH (.ref u5) ⟨none, [98], [97], [.put 97, .dropNext, .after 99]⟩ := ⟨u5, .ref u4, rfl, ag4, u4, _, rfl, ag3, .cons ⟨u1, rfl, ag0⟩ (.cons ⟨u2, rfl, ag1⟩ (.cons ⟨u3, rfl, ag2⟩ .nil))⟩
  have hD0 : H D = none := fresh_of aFF hD
  have R1 : RusAt (upd aH D (.lst [.ref u5])) D (LB.rules.take 1) := by
    have t : Ext aH (upd aH D (.lst [.ref u5])) := Ext.upd hD
    exact ⟨_, upd_same, .cons (aR.mono (Ext.tk t)) .nil⟩
  have e1 : Ext H (upd aH D (.lst [.ref u5])) := aFF.trans (Ext.upd hD)
  generalize upd aH D (.lst [.ref u5]) = H1 at R1 e1 ⊢
  obtain ⟨vs1, hv1, hl1, hP1⟩ := rus_len R1
  refine ⟨_, rfl, tyL hv1, ?_⟩
  refine ⟨sz2 (by simp), fun w1 bh0 => ⟨sz2 (by simp), fun w2 bh1 => ⟨sz2 (by simp), fun w3 bh2 => ⟨sz2 (by simp), fun w4 bh3 => ⟨sz2 (by simp), fun w5 bh4 => ?_⟩⟩⟩⟩⟩
  have bF0 := Ext.upd (o := .tup [.str "put", .str "a"]) bh0
  have bF1 := Ext.upd (o := .tup [.str "drop_next"]) bh1
  have bF2 := Ext.upd (o := .tup [.str "after", .str "d"]) bh2
  have bF3 := Ext.upd (o := .tup [.ref w1, .ref w2, .ref w3]) bh3
  have bF4 := Ext.upd (o := .tup [.non, .str "c", .str "a", .ref w4]) bh4
  have bg0 := (bF1.trans (bF2.trans (bF3.trans bF4))) _ _ (show (upd H1 w1 (.tup [.str "put", .str "a"])) w1 = some (.tup (edV (.put 97))) by rw [upd_same, a_tx]; rfl)
  have bg1 := (bF2.trans (bF3.trans bF4)) _ _ (show (upd (upd H1 w1 (.tup [.str "put", .str "a"])) w2 (.tup [.str "drop_next"])) w2 = some (.tup (edV .dropNext)) by rw [upd_same]; rfl)
  have bg2 := (bF3.trans bF4) _ _ (show (upd (upd (upd H1 w1 (.tup [.str "put", .str "a"])) w2 (.tup [.str "drop_next"])) w3 (.tup [.str "after", .str "d"])) w3 = some (.tup (edV (.after 100))) by rw [upd_same, d_tx]; rfl)
  have bg3 := bF4 _ _ (show (upd (upd (upd (upd H1 w1 (.tup [.str "put", .str "a"])) w2 (.tup [.str "drop_next"])) w3 (.tup [.str "after", .str "d"])) w4 (.tup [.ref w1, .ref w2, .ref w3])) w4 = some (.tup [.ref w1, .ref w2, .ref w3]) from upd_same)
  have bg4 := (show (upd (upd (upd (upd (upd H1 w1 (.tup [.str "put", .str "a"])) w2 (.tup [.str "drop_next"])) w3 (.tup [.str "after", .str "d"])) w4 (.tup [.ref w1, .ref w2, .ref w3])) w5 (.tup [.non, .str "c", .str "a", .ref w4])) w5 = some (.tup [mkV none, .str (tx [99]), .str (tx [97]), .ref w4]) by rw [upd_same, c_tx, a_tx]; rfl)
  have bFF := bF0.trans (bF1.trans (bF2.trans (bF3.trans (bF4))))
  generalize upd (upd (upd (upd (upd H1 w1 (.tup [.str "put", .str "a"])) w2 (.tup [.str "drop_next"])) w3 (.tup [.str "after", .str "d"])) w4 (.tup [.ref w1, .ref w2, .ref w3])) w5 (.tup [.non, .str "c", .str "a", .ref w4]) = bH at bg0 bg1 bg2 bg3 bg4 bFF ⊢
  have bR : IsRu bH (.ref w5) ⟨none, [99], [97], [.put 97, .dropNext, .after 100]⟩ := ⟨w5, .ref w4, rfl, bg4, w4, _, rfl, bg3, .cons ⟨w1, rfl, bg0⟩ (.cons ⟨w2, rfl, bg1⟩ (.cons ⟨w3, rfl, bg2⟩ .nil))⟩
  obtain ⟨vs2, hv2, hl2, hP2⟩ := rus_len (R1.ext bFF)
  rw [List.length_take] at hl2
  refine ⟨_, _, _, rfl, rfl, hv2, Nat.lt_of_lt_of_le (by omega) sizeBig, ?_⟩
  have R2 : RusAt (upd bH D (.lst (vs2 ++ [.ref w5]))) D (LB.rules.take 2) := rus_snoc hv2 hP2 bR
  have e2 := ext_fresh (o := .lst (vs2 ++ [.ref w5])) (e1.trans bFF) hD0
  generalize upd bH D (.lst (vs2 ++ [.ref w5])) = H2 at R2 e2 ⊢
  refine ⟨(4 : Int), rfl, by decide, by decide, ?_⟩
  refine for_range (fun i σ H' => ∃ x2 x3 x4 x5, σ = [some (.int (n : Int)), some (.ref D), x2, x3, x4, x5] ∧ Ext H H' ∧ RusAt H' D (LB.rules.take (2 + i))) ⟨_, _, _, _, rfl, e2, R2⟩ ?_ ?_
  · rintro i σ H3 hi ⟨x2, x3, x4, x5, rfl, e3, R3⟩
    have hi4 : i < 4 := hi
    obtain ⟨vs3, hv3, hl3, hP3⟩ := rus_len R3
    have ex1 : ((0 : Int) + (i : Int) + 1) % 4 = (((i + 1) % 4 : Nat) : Int) := by omega
    have ex0 : (0 : Int) + (i : Int) = (i : Int) := Int.zero_add _
    refine ⟨_, rfl, rfl, _, rfl, ?_⟩
    refine ifb (fun c1 => ?_) (fun c1 => ?_)
    · have hi3 : i = 3 := by
        have := V.int.inj (of_decide_eq_true c1)
        omega
      refine ⟨_, rfl, tyL hv3, ?_⟩
      refine ⟨_, rfl, _, rfl, sz2 (by simp), fun v1 ch0 => ⟨sz2 (by simp), fun v2 ch1 => ⟨sz2 (by simp), fun v3 ch2 => ⟨_, rfl, _, _, rfl, rfl, _, _, rfl, rfl, (by show (0 : Int) < 4; decide), sz2 (by simp), fun v4 ch3 => ⟨sz2 (by simp), fun v5 ch4 => ⟨sz2 (by simp), fun v6 ch5 => ?_⟩⟩⟩⟩⟩⟩
      have cF0 := Ext.upd (o := .tup [.str "put", .str "c"]) ch0
      have cF1 := Ext.upd (o := .tup [.str "drop_next"]) ch1
      have cF2 := Ext.upd (o := .tup [.str "after", .str "b"]) ch2
      have cF3 := Ext.upd (o := .tup [.str "mark", .int ((0 + (i : Int) + 1) % 4)]) ch3
      have cF4 := Ext.upd (o := .tup [.ref v1, .ref v2, .ref v3, .ref v4]) ch4
      have cF5 := Ext.upd (o := .tup [.int (0 + (i : Int)), .str "d", .str "a", .ref v5]) ch5
      have cg0 := (cF1.trans (cF2.trans (cF3.trans (cF4.trans cF5)))) _ _ (show (upd H3 v1 (.tup [.str "put", .str "c"])) v1 = some (.tup (edV (.put 99))) by rw [upd_same, c_tx]; rfl)
      have cg1 := (cF2.trans (cF3.trans (cF4.trans cF5))) _ _ (show (upd (upd H3 v1 (.tup [.str "put", .str "c"])) v2 (.tup [.str "drop_next"])) v2 = some (.tup (edV .dropNext)) by rw [upd_same]; rfl)
      have cg2 := (cF3.trans (cF4.trans cF5)) _ _ (show (upd (upd (upd H3 v1 (.tup [.str "put", .str "c"])) v2 (.tup [.str "drop_next"])) v3 (.tup [.str "after", .str "b"])) v3 = some (.tup (edV (.after 98))) by rw [upd_same, b_tx]; rfl)
      have cg3 := (cF4.trans cF5) _ _ (show (upd (upd (upd (upd H3 v1 (.tup [.str "put", .str "c"])) v2 (.tup [.str "drop_next"])) v3 (.tup [.str "after", .str "b"])) v4 (.tup [.str "mark", .int ((0 + (i : Int) + 1) % 4)])) v4 = some (.tup (edV (.mark ((i + 1) % 4)))) by rw [upd_same, ex1]; rfl)
      have cg4 := cF5 _ _ (show (upd (upd (upd (upd (upd H3 v1 (.tup [.str "put", .str "c"])) v2 (.tup [.str "drop_next"])) v3 (.tup [.str "after", .str "b"])) v4 (.tup [.str "mark", .int ((0 + (i : Int) + 1) % 4)])) v5 (.tup [.ref v1, .ref v2, .ref v3, .ref v4])) v5 = some (.tup [.ref v1, .ref v2, .ref v3, .ref v4]) from upd_same)
      have cg5 := (show (upd (upd (upd (upd (upd (upd H3 v1 (.tup [.str "put", .str "c"])) v2 (.tup [.str "drop_next"])) v3 (.tup [.str "after", .str "b"])) v4 (.tup [.str "mark", .int ((0 + (i : Int) + 1) % 4)])) v5 (.tup [.ref v1, .ref v2, .ref v3, .ref v4])) v6 (.tup [.int (0 + (i : Int)), .str "d", .str "a", .ref v5])) v6 = some (.tup [mkV (some i), .str (tx [100]), .str (tx [97]), .ref v5]) by rw [upd_same, d_tx, a_tx, ex0]; rfl)
      have cFF := cF0.trans (cF1.trans (cF2.trans (cF3.trans (cF4.trans (cF5)))))
      generalize upd (upd (upd (upd (upd (upd H3 v1 (.tup [.str "put", .str "c"])) v2 (.tup [.str "drop_next"])) v3 (.tup [.str "after", .str "b"])) v4 (.tup [.str "mark", .int ((0 + (i : Int) + 1) % 4)])) v5 (.tup [.ref v1, .ref v2, .ref v3, .ref v4])) v6 (.tup [.int (0 + (i : Int)), .str "d", .str "a", .ref v5]) = cH at cg0 cg1 cg2 cg3 cg4 cg5 cFF ⊢
      have cR : IsRu cH (.ref v6) ⟨some i, [100], [97], [.put 99, .dropNext, .after 98, .mark ((i + 1) % 4)]⟩ := ⟨v6, .ref v5, rfl, cg5, v5, _, rfl, cg4, .cons ⟨v1, rfl, cg0⟩ (.cons ⟨v2, rfl, cg1⟩ (.cons ⟨v3, rfl, cg2⟩ (.cons ⟨v4, rfl, cg3⟩ .nil)))⟩
      have hr3 : LB.rules[2 + i]? = some ⟨some i, [100], [97], [.put 99, .dropNext, .after 98, .mark ((i + 1) % 4)]⟩ := by
        subst hi3
        rfl
      obtain ⟨vs4, hv4, hl4, hP4⟩ := rus_len (R3.ext cFF)
      rw [List.length_take] at hl4
      refine ⟨_, _, _, rfl, rfl, hv4, Nat.lt_of_lt_of_le (by omega) sizeBig, ?_⟩
      refine ⟨_, _, _, _, rfl, ext_fresh (e3.trans cFF) hD0, ?_⟩
      rw [← Nat.add_assoc, take_more' hr3]
      exact rus_snoc hv4 hP4 cR
    · have hi3 : i < 3 := by
        have z : ¬ ((0 : Int) + (i : Int) = 3) := fun z => by
          rw [z, decide_eq_true rfl] at c1
          cases c1
        omega
      refine ⟨_, rfl, tyL hv3, ?_⟩
      refine ⟨_, rfl, _, rfl, sz2 (by simp), fun v1 ch0 => ⟨sz2 (by simp), fun v2 ch1 => ⟨sz2 (by simp), fun v3 ch2 => ⟨_, rfl, _, _, rfl, rfl, _, _, rfl, rfl, (by show (0 : Int) < 4; decide), sz2 (by simp), fun v4 ch3 => ⟨sz2 (by simp), fun v5 ch4 => ⟨sz2 (by simp), fun v6 ch5 => ?_⟩⟩⟩⟩⟩⟩
      have cF0 := Ext.upd (o := .tup [.str "put", .str "a"]) ch0
      have cF1 := Ext.upd (o := .tup [.str "drop_next"]) ch1
      have cF2 := Ext.upd (o := .tup [.str "after", .str "b"]) ch2
      have cF3 := Ext.upd (o := .tup [.str "mark", .int ((0 + (i : Int) + 1) % 4)]) ch3
      have cF4 := Ext.upd (o := .tup [.ref v1, .ref v2, .ref v3, .ref v4]) ch4
      have cF5 := Ext.upd (o := .tup [.int (0 + (i : Int)), .str "d", .str "a", .ref v5]) ch5
      have cg0 := (cF1.trans (cF2.trans (cF3.trans (cF4.trans cF5)))) _ _ (show (upd H3 v1 (.tup [.str "put", .str "a"])) v1 = some (.tup (edV (.put 97))) by rw [upd_same, a_tx]; rfl)
      have cg1 := (cF2.trans (cF3.trans (cF4.trans cF5))) _ _ (show (upd (upd H3 v1 (.tup [.str "put", .str "a"])) v2 (.tup [.str "drop_next"])) v2 = some (.tup (edV .dropNext)) by rw [upd_same]; rfl)
      have cg2 := (cF3.trans (cF4.trans cF5)) _ _ (show (upd (upd (upd H3 v1 (.tup [.str "put", .str "a"])) v2 (.tup [.str "drop_next"])) v3 (.tup [.str "after", .str "b"])) v3 = some (.tup (edV (.after 98))) by rw [upd_same, b_tx]; rfl)
      have cg3 := (cF4.trans cF5) _ _ (show (upd (upd (upd (upd H3 v1 (.tup [.str "put", .str "a"])) v2 (.tup [.str "drop_next"])) v3 (.tup [.str "after", .str "b"])) v4 (.tup [.str "mark", .int ((0 + (i : Int) + 1) % 4)])) v4 = some (.tup (edV (.mark ((i + 1) % 4)))) by rw [upd_same, ex1]; rfl)
      have cg4 := cF5 _ _ (show (upd (upd (upd (upd (upd H3 v1 (.tup [.str "put", .str "a"])) v2 (.tup [.str "drop_next"])) v3 (.tup [.str "after", .str "b"])) v4 (.tup [.str "mark", .int ((0 + (i : Int) + 1) % 4)])) v5 (.tup [.ref v1, .ref v2, .ref v3, .ref v4])) v5 = some (.tup [.ref v1, .ref v2, .ref v3, .ref v4]) from upd_same)
      have cg5 := (show (upd (upd (upd (upd (upd (upd H3 v1 (.tup [.str "put", .str "a"])) v2 (.tup [.str "drop_next"])) v3 (.tup [.str "after", .str "b"])) v4 (.tup [.str "mark", .int ((0 + (i : Int) + 1) % 4)])) v5 (.tup [.ref v1, .ref v2, .ref v3, .ref v4])) v6 (.tup [.int (0 + (i : Int)), .str "d", .str "a", .ref v5])) v6 = some (.tup [mkV (some i), .str (tx [100]), .str (tx [97]), .ref v5]) by rw [upd_same, d_tx, a_tx, ex0]; rfl)
      have cFF := cF0.trans (cF1.trans (cF2.trans (cF3.trans (cF4.trans (cF5)))))
      generalize upd (upd (upd (upd (upd (upd H3 v1 (.tup [.str "put", .str "a"])) v2 (.tup [.str "drop_next"])) v3 (.tup [.str "after", .str "b"])) v4 (.tup [.str "mark", .int ((0 + (i : Int) + 1) % 4)])) v5 (.tup [.ref v1, .ref v2, .ref v3, .ref v4])) v6 (.tup [.int (0 + (i : Int)), .str "d", .str "a", .ref v5]) = cH at cg0 cg1 cg2 cg3 cg4 cg5 cFF ⊢
      have cR : IsRu cH (.ref v6) ⟨some i, [100], [97], [.put 97, .dropNext, .after 98, .mark ((i + 1) % 4)]⟩ := ⟨v6, .ref v5, rfl, cg5, v5, _, rfl, cg4, .cons ⟨v1, rfl, cg0⟩ (.cons ⟨v2, rfl, cg1⟩ (.cons ⟨v3, rfl, cg2⟩ (.cons ⟨v4, rfl, cg3⟩ .nil)))⟩
      have hr3 : LB.rules[2 + i]? = some ⟨some i, [100], [97], [.put 97, .dropNext, .after 98, .mark ((i + 1) % 4)]⟩ := by
        match i, hi3 with
        | 0, _ => rfl
        | 1, _ => rfl
        | 2, _ => rfl
      obtain ⟨vs4, hv4, hl4, hP4⟩ := rus_len (R3.ext cFF)
      rw [List.length_take] at hl4
      refine ⟨_, _, _, rfl, rfl, hv4, Nat.lt_of_lt_of_le (by omega) sizeBig, ?_⟩
      refine ⟨_, _, _, _, rfl, ext_fresh (e3.trans cFF) hD0, ?_⟩
      rw [← Nat.add_assoc, take_more' hr3]
      exact rus_snoc hv4 hP4 cR
  · rintro σ H5 ⟨x2, x3, x4, x5, rfl, e5, R5⟩
    rw [show LB.rules.take (2 + Int.toNat 4) = LB.rules from rfl] at R5
    obtain ⟨vs5, hv5, hl5, hP5⟩ := rus_len R5
    -- the loop, the list
    refine ⟨_, rfl, _, _, rfl, .inl ⟨sl hv5, fun t1 ht1 => ?_⟩⟩
    have G1 := Ext.upd (o := .tup vs5) ht1
    refine ⟨sz2 (by simp), fun t2 ht2 => ⟨sz2 (by simp), fun t3 ht3 => ⟨sz2 (by simp), fun t4 ht4 => ?_⟩⟩⟩
    have G2 := Ext.upd (o := .tup [.str "", .str "", .str "", .str ""]) ht2
    have G3 := Ext.upd (o := .tup [.ref t1, .ref t2]) ht3
    have G4 := Ext.upd (o := .tup [.ref t3]) ht4
    have w1 := (G2.trans (G3.trans G4)) _ _ (upd_same (H := H5) (a := t1) (o := .tup vs5))
    have w2 := (G3.trans G4) _ _ (show upd (upd H5 t1 (.tup vs5)) t2 (.tup [.str "", .str "", .str "", .str ""]) t2 = some (.tup (LB.ends.map fun e => .str (tx e))) by rw [upd_same, emp_tx]; rfl)
    have w3 := G4 _ _ (upd_same (H := upd (upd H5 t1 (.tup vs5)) t2 (.tup [.str "", .str "", .str "", .str ""])) (a := t3) (o := .tup [.ref t1, .ref t2]))
    have w4 := upd_same (H := upd (upd (upd H5 t1 (.tup vs5)) t2 (.tup [.str "", .str "", .str "", .str ""])) t3 (.tup [.ref t1, .ref t2])) (a := t4) (o := .tup [.ref t3])
    have G := G1.trans (G2.trans (G3.trans G4))
    generalize upd (upd (upd (upd H5 t1 (.tup vs5)) t2 (.tup [.str "", .str "", .str "", .str ""])) t3 (.tup [.ref t1, .ref t2])) t4 (.tup [.ref t3]) = H6 at w1 w2 w3 w4 G ⊢
    have hLo : IsLo H6 (.ref t3) LB := ⟨t3, .ref t1, .ref t2, rfl, w3, ⟨t1, vs5, rfl, w1, paired_mono (fun _ _ z => IsRu.mono (Ext.tk G) z) hP5⟩, ⟨t2, rfl, w2⟩⟩
    have e6 := e5.trans G
    refine ⟨sz2 (by simp), fun p4 h4 => ?_⟩
    refine ⟨_, rfl, sz2 (by simp), fun p5 h5 => ⟨sz2 (by simp), fun l5 hl5 => ?_⟩⟩
    have B1 := Ext.upd (o := .tup [.str "b", .int 1]) h4
    have B2 := Ext.upd (o := .tup [.str "a", .int (n : Int)]) h5
    have B3 := Ext.upd (o := .lst [.ref p4, .ref p5]) hl5
    have E7 := B1.trans (B2.trans B3)
    have s1 := (B2.trans B3) _ _ (show upd H6 p4 (.tup [.str "b", .int 1]) p4 = some (.tup [.str (tx [98]), .int 1]) by rw [upd_same, b_tx])
    have s2 := B3 _ _ (show upd (upd H6 p4 (.tup [.str "b", .int 1])) p5 (.tup [.str "a", .int (n : Int)]) p5 = some (.tup [.str (tx [97]), .int (n : Int)]) by rw [upd_same, a_tx])
    have hPl : IsPairs (upd (upd (upd H6 p4 (.tup [.str "b", .int 1])) p5 (.tup [.str "a", .int (n : Int)])) l5 (.lst [.ref p4, .ref p5])) l5 [([98], 1), ([97], n)] := ⟨_, upd_same, .cons ⟨p4, rfl, s1⟩ (.cons ⟨p5, rfl, s2⟩ .nil)⟩
    generalize upd (upd (upd H6 p4 (.tup [.str "b", .int 1])) p5 (.tup [.str "a", .int (n : Int)])) l5 (.lst [.ref p4, .ref p5]) = H7 at E7 hPl ⊢
    intro x1 dx1 n1 n2 n3
    refine ⟨x1, dx1, .ref l5, _, rfl, upd_same, .inr ⟨l5, rfl, hPl.mono (ext_made n1 n2), by show 2 ≤ 50; decide, fun q hq => ?_⟩, fun H8 l8 ps k8 hx8 hP8 hd8 hg8 hl8 _ => ⟨rfl, ?_⟩⟩
    · simp only [List.mem_cons, List.not_mem_nil, or_false] at hq
      rcases hq with e | e <;> rw [e]
      · exact ⟨by show ∀ c ∈ [98], c ∈ abcd; decide, by show 1 ≤ 20; decide, by show 1 ≤ 10 ^ 60; decide⟩
      · exact ⟨by show ∀ c ∈ [97], c ∈ abcd; decide, by show 1 ≤ 20; decide, hn⟩
    have E8 := E7.trans (kp_made n1 n2 k8)
    obtain ⟨u1, u2, u3⟩ := rep_fit hd8 hg8 hl8 (fun x hx => by
      simp only [List.mem_cons, List.not_mem_nil, or_false] at hx
      rcases hx with e | e <;> rw [e] <;> exact (by decide : (1 : Nat) ≤ 20)) (by
      show 1 * 1 + (1 * n + 0) < 2 ^ 4000
      have := big_ok (a := 1) (b := n) (by decide) hn
      omega)
    have hd8' : den ps = 98 :: pw [97] n := by
      rw [hd8]
      show pw [98] 1 ++ (pw [97] n ++ []) = _
      rw [pw_one, List.append_nil]
      rfl
    have cw := carried n
    refine ⟨t4, .ref t3, .ref x1, ps, LB, rfl, E8 _ _ w4, hLo.mono (Ext.tk E8), LB_ok, ⟨x1, dx1, l8, rfl, hx8, hP8, hg8⟩, u1, Nat.le_trans u2 (by show 2 ≤ 100; decide), u3, (fun h0 => by rw [hd8', cw] at h0; cases h0), fun x hx H9 v ws e9 hr hz hwl => ?_⟩
    rw [hd8', cw] at hx
    cases hx
    dsimp only at hr hz
    obtain ⟨a1, d1, rv1, pa1, wa1, rfl, o1, R1, y1, y2⟩ := hr
    have e9' := e6.trans (E8.trans e9)
    -- what is expected
    have lt12 : n % 12 < 12 := Nat.mod_lt _ (by decide)
    have lt3 : n % 3 < 3 := Nat.mod_lt _ (by decide)
    refine ⟨[97], 11, by rw [a_tx], rfl, by decide, by decide, by decide, ?_⟩
    refine ⟨_, _, rfl, rfl, Nat.le_trans (by rw [tx_len, c_tx, tx_len]; decide) sizeBig, ?_⟩
    rw [aac_tx]
    refine ⟨_, rfl, _, _, rfl, rfl, ⟨by decide, by decide⟩, ?_⟩
    dsimp only
    rw [show (n : Int) / 12 = ((n / 12 : Nat) : Int) from (Int.natCast_ediv n 12).symm]
    refine ⟨sz2 (by simp), fun z1 hz1 => ?_⟩
    refine ⟨_, rfl, _, _, rfl, rfl, (by show (0 : Int) < 12; decide), ?_⟩
    dsimp only
    rw [show (n : Int) % 12 = ((n % 12 : Nat) : Int) from (Int.natCast_emod n 12).symm]
    refine ⟨sz2 (by simp), fun z2 hz2 => ?_⟩
    refine ⟨_, rfl, _, _, rfl, rfl, (by show (0 : Int) < 3; decide), ?_⟩
    dsimp only
    rw [show (n : Int) % 3 = ((n % 3 : Nat) : Int) from (Int.natCast_emod n 3).symm]
    refine ⟨_, _, endB (n % 3), rfl, rfl, bcd_sz, cb_at lt3, ?_⟩
    rw [tx_one]
    refine ⟨sz2 (by simp), fun z4 hz4 => ⟨sz2 (by simp), fun l9 hl9 => ?_⟩⟩
    have K1 := Ext.upd (o := .tup [.str (tx [97, 97, 97, 97, 97, 97, 97, 97, 97, 97, 97, 99]), .int ((n / 12 : Nat) : Int)]) hz1
    have K2 := Ext.upd (o := .tup [.str "a", .int ((n % 12 : Nat) : Int)]) hz2
    have K4 := Ext.upd (o := .tup [.str (tx [endB (n % 3)]), .int 1]) hz4
    have K5 := Ext.upd (o := .lst [.ref z1, .ref z2, .ref z4]) hl9
    have m1 := (K2.trans (K4.trans K5)) _ _ (upd_same (H := H9) (a := z1) (o := .tup [.str (tx [97, 97, 97, 97, 97, 97, 97, 97, 97, 97, 97, 99]), .int ((n / 12 : Nat) : Int)]))
    have m2 := (K4.trans K5) _ _ (show upd (upd H9 z1 (.tup [.str (tx [97, 97, 97, 97, 97, 97, 97, 97, 97, 97, 97, 99]), .int ((n / 12 : Nat) : Int)])) z2 (.tup [.str "a", .int ((n % 12 : Nat) : Int)]) z2 = some (.tup [.str (tx [97]), .int ((n % 12 : Nat) : Int)]) by rw [upd_same, a_tx])
    have m4 := K5 _ _ (upd_same (H := upd (upd H9 z1 (.tup [.str (tx [97, 97, 97, 97, 97, 97, 97, 97, 97, 97, 97, 99]), .int ((n / 12 : Nat) : Int)])) z2 (.tup [.str "a", .int ((n % 12 : Nat) : Int)])) (a := z4) (o := .tup [.str (tx [endB (n % 3)]), .int 1]))
    have m5 := upd_same (H := upd (upd (upd H9 z1 (.tup [.str (tx [97, 97, 97, 97, 97, 97, 97, 97, 97, 97, 97, 99]), .int ((n / 12 : Nat) : Int)])) z2 (.tup [.str "a", .int ((n % 12 : Nat) : Int)])) z4 (.tup [.str (tx [endB (n % 3)]), .int 1])) (a := l9) (o := .lst [.ref z1, .ref z2, .ref z4])
    have KK := K1.trans (K2.trans (K4.trans K5))
    generalize upd (upd (upd (upd H9 z1 (.tup [.str (tx [97, 97, 97, 97, 97, 97, 97, 97, 97, 97, 97, 99]), .int ((n / 12 : Nat) : Int)])) z2 (.tup [.str "a", .int ((n % 12 : Nat) : Int)])) z4 (.tup [.str (tx [endB (n % 3)]), .int 1])) l9 (.lst [.ref z1, .ref z2, .ref z4]) = H10 at m1 m2 m4 m5 KK ⊢
    have hP10 : IsPairs H10 l9 [([97, 97, 97, 97, 97, 97, 97, 97, 97, 97, 97, 99], n / 12), ([97], n % 12), ([endB (n % 3)], 1)] := ⟨_, m5, .cons ⟨z1, rfl, m1⟩ (.cons ⟨z2, rfl, m2⟩ (.cons ⟨z4, rfl, m4⟩ .nil))⟩
    intro x2 dx2 n4 n5 n6
    refine ⟨x2, dx2, .ref l9, _, rfl, upd_same, .inr ⟨l9, rfl, hP10.mono (ext_made n4 n5), by show 3 ≤ 50; decide, fun q hq => ?_⟩, fun H11 l11 ps2 k11 hx11 hP11 hd11 hg11 hl11 _ => ⟨rfl, ?_⟩⟩
    · simp only [List.mem_cons, List.not_mem_nil, or_false] at hq
      rcases hq with e | e | e <;> rw [e]
      · exact ⟨by show ∀ c ∈ [97, 97, 97, 97, 97, 97, 97, 97, 97, 97, 97, 99], c ∈ abcd; decide, by show 12 ≤ 20; decide, Nat.le_trans (Nat.div_le_self _ _) hn⟩
      · exact ⟨by show ∀ c ∈ [97], c ∈ abcd; decide, by show 1 ≤ 20; decide, Nat.le_trans (Nat.le_of_lt lt12) (by decide)⟩
      · exact ⟨fun c hc => by rw [List.mem_singleton.mp hc]; exact cb_ok lt3, by show 1 ≤ 20; decide, by show 1 ≤ 10 ^ 60; decide⟩
    have E11 := KK.trans (kp_made n4 n5 k11)
    rw [den3] at hd11
    obtain ⟨q1, dq1, lq1, rfl, oq1, _⟩ := id R1
    -- told
    refine ⟨_, rfl, a1, d1, _, rfl, E11 _ _ o1, a1, d1, _, _, _, rfl, E11 _ _ o1, _, rfl, ⟨q1, x2, dq1, dx2, _, _, rfl, rfl, E11 _ _ oq1, hx11, ws, ps2, R1.mono E11, ⟨x2, dx2, l11, rfl, hx11, hP11, hg11⟩, by rw [hz, hd11]⟩, fun H12 e12 => ⟨_, rfl, if_t rfl ?_⟩⟩
    have E12 := E11.trans e12
    refine ⟨_, rfl, a1, d1, _, rfl, E12 _ _ o1, a1, d1, _, _, _, rfl, E12 _ _ o1, _, rfl, _, _, rfl, rfl, ?_⟩
    dsimp only
    rw [show (n : Int) + 1 = ((n + 1 : Nat) : Int) from rfl]
    refine ⟨sz2 (by simp), fun tp htp => ?_⟩
    have F18 := Ext.upd (o := .tup [.int ((n + 1 : Nat) : Int)]) htp
    refine ⟨.tuple [.int ((n + 1 : Nat) : Int)], .tuple [.int ((n + 1 : Nat) : Int)], .tup (sq (F18 _ _ (E12 _ _ y1))) (.cons (.int _) .nil), .tup (sq upd_same) (.cons (.int _) .nil), rfl, rfl, _, rfl, if_t (eqv_int1 _) ?_⟩
    have E13 := E12.trans F18
    refine ⟨_, rfl, a1, d1, _, rfl, E13 _ _ o1, a1, d1, _, _, _, rfl, E13 _ _ o1, sz2 (by simp), fun tw htw => ?_⟩
    have F19 := Ext.upd (o := .tup [.str "end"]) htw
    refine ⟨.tuple [.str "end"], .tuple [.str "end"], .tup (sq (F19 _ _ (E13 _ _ y2))) (.cons (.str _) .nil), .tup (sq upd_same) (.cons (.str _) .nil), way_end_sh, way_end_sh, ?_⟩
    rw [way_end]
    exact q _ (e9'.trans (E13.trans F19))
end
end OB
set_option Elab.async false
set_option linter.all false
set_option maxRecDepth 100000
set_option maxHeartbeats 4000000
namespace OB
open PySem PySem.Spec PySem.Calls PyProof.Rows L2 PySem.W StX
section
variable {P : Program} {w : World} {K : Frag} {mg : Str → Option Value} {base : Heap}
/- law: slots _law_script=0 _law_k=1 _law_bag_here=2 _law_turn=3 _law_loop_here=4 _law_some=5 _law_many=6 -/
def sp_law (K : Frag) : Sp := fun vs H Q _ => ∃ a, ∃ ns : List Int, vs = [.ref a] ∧ SqL K H a (ns.map V.int) ∧ ns.length ≤ 1000 ∧ ∀ H', Q (.bl true) H'
theorem ext_drop {H H' : Hp} {g : Addr} (k : Kp [g] H H') (h : H g = none) : Ext H H' := (k.drop h).ext
/-- as ok_of, bound by name -/
theorem okF_of {k : Nat} {x q : Str} {st : Stmt} {f : Addr} {fd : FuncData} {N ps : List Str} {sp : Sp} (F : FunD K x q (defArgs st) (defBody st) (defScope st) [] [] f fd) (S : FnScope N ps (defScope st)) (len : ∀ vs H Q E, sp vs H Q E → vs.length = ps.length)
    (hbody : ∀ (cdv : Value) (A : Around) (outer : List Env) (s : Shared) (H : Hp) (vs : List V) (Q : VK) (E : XK), Room k (A.deeper (envOfC q (defScope st) s.heap.objs.size f cdv)) → sp vs H Q E →
      ∃ t, PSs (cxOf CX0 P w K mg base N q (defScope st) f cdv A outer s H E).nox (defBody st) t ∧ t { nx := fun _ H' => Q .non H', rt := Q } (start N vs) H) : FnOk P w K mg base CX0 (k + 1) f fd ps sp :=
  F.ok S len fun cdv A outer s H vs Q E hr h => by
    obtain ⟨t, p, q⟩ := hbody cdv A outer s H vs Q E hr h
    exact ⟨t, PSs.nox p, q⟩
def N_law : List Str := ["_law_script", "_law_k", "_law_bag_here", "_law_turn", "_law_loop_here", "_law_some", "_law_many"]
theorem sc_law : FnScope N_law ["_law_script"] (defScope s_law) := ⟨rfl, rfl, rfl, by decide +kernel, rfl, by decide +kernel, by decide +kernel⟩
theorem ok_law (T : Txt K mg w) {fd : FuncData} (F : FunD K "law" "law" (defArgs s_law) (defBody s_law) (defScope s_law) [] [] (He.ga K "law") fd) : FnOk P w K mg base CX0 14 (He.ga K "law") fd ["_law_script"] (sp_law K) := by
  refine okF_of F sc_law (fun vs H Q E h => ?_) (fun cdv A outer s H vs Q E hr h => ?_)
  · repeat (first | (obtain ⟨rfl, _⟩ := h; rfl) | (obtain ⟨_, h⟩ := h))
  refine ⟨_, (pss_cons (ps_for PassesOwn.never rfl (pi_range1 rfl T.z_range (pa_cons (pe_op op_add pe_int (pe_callB (call_min2 rfl) (by rfl) T.z_min boot_min (pa_cons pe_int (pa_cons (pe_callB call_len_seq (by rfl) T.z_len boot_len (pa_cons (pv 0) pa_nil)) pa_nil)))) pa_nil)) (pg_name (i := 1) sc_law.nd rfl (Or.inl rfl))
      (pss_cons (ps_set (i := 2) sc_law.nd rfl (Or.inl rfl) (pe_f (ok_law_bag T) T.g_law_bag (kp_of T.f_law_bag) (hr.mono (by decide)) pass0 (pa_cons (pv 0) (pa_cons (pv 1) pa_nil))))
      (pss_cons (ps_for PassesOwn.never rfl (pi_range1 rfl T.z_range (pa_cons pe_int pa_nil)) (pg_name (i := 3) sc_law.nd rfl (Or.inl rfl))
        (pss_cons (ps_par (i := 4) (j := 5) rfl sc_law.nd rfl rfl (by decide) rfl rfl (pa_cons (pe_f (ok_law_loop T) T.g_law_loop (kp_of T.f_law_loop) (hr.mono (by decide)) pass0 (pa_cons (pv 2) (pa_cons pe_int pa_nil))) (pa_cons (pe_op op_add_str (pe_f (ok_law_text T) T.g_law_text (kp_of T.f_law_text) (hr.mono (by decide)) pass0 (pa_cons (pv 2) (pa_cons pe_int pa_nil))) (pe_ix ix_str pe_str (pe_f (ok_law_take T) T.g_law_take (kp_of T.f_law_take) (hr.mono (by decide)) pass0 (pa_cons (pv 2) (pa_cons pe_int pa_nil))) (fun _ _ => rfl))) pa_nil)) (by rfl))
        (pss_one (ps_if (pt_not (pt_val (pe_f (ok_law_right T) T.g_law_right (kp_of T.f_law_right) (hr.mono (by decide)) pass0 (pa_cons (pv 2) (pa_cons (pv 4) (pa_cons (pv 5) pa_nil))))))
          (pss_one (ps_ret pe_bl))
          pss_nil))))
      (pss_one (ps_for PassesOwn.never rfl (pi_list (pe_lst (pa_cons (pe_f (ok_law_take T) T.g_law_take (kp_of T.f_law_take) (hr.mono (by decide)) pass0 (pa_cons (pv 2) (pa_cons pe_int pa_nil))) (pa_cons (pe_f (ok_law_take T) T.g_law_take (kp_of T.f_law_take) (hr.mono (by decide)) pass0 (pa_cons (pv 2) (pa_cons (pe_op op_pow pe_int pe_int) pa_nil))) pa_nil)))) (pg_name (i := 6) sc_law.nd rfl (Or.inl rfl))
        (pss_one (ps_if (PW.pt (pw_or (pt_not (pt_val (pe_f (ok_law_counted_right T) T.g_law_counted_right (kp_of T.f_law_counted_right) (hr.mono (by decide)) pass0 (pa_cons (pv 6) pa_nil)))) (pw_or1 (pt_not (pt_val (pe_f (ok_law_carried_right T) T.g_law_carried_right (kp_of T.f_law_carried_right) (hr.mono (by decide)) pass0 (pa_cons (pv 6) pa_nil)))))))
          (pss_one (ps_ret pe_bl))
          pss_nil)))))))
    (pss_one (ps_ret pe_bl))), ?_⟩
  obtain ⟨a, ns, rfl, hs, hz, q⟩ := h
  refine ⟨_, rfl, _, _, rfl, .inl hs, _, _, rfl, _, _, rfl, rfl, ?_⟩
  rw [List.length_map]
  refine ⟨1 + (if (ns.length : Int) < 2 then (ns.length : Int) else 2), rfl, by split <;> omega, by split <;> omega, ?_⟩
  have h3 : (1 + (if (ns.length : Int) < 2 then (ns.length : Int) else 2)).toNat ≤ 3 := by split <;> omega
  generalize (1 + (if (ns.length : Int) < 2 then (ns.length : Int) else 2)).toNat = N at h3 ⊢
  refine for_range (fun i σ H' => ∃ x1 x2 x3 x4 x5 x6, σ = [some (.ref a), x1, x2, x3, x4, x5, x6] ∧ Ext H H') ⟨_, _, _, _, _, _, rfl, Ext.rfl'⟩ ?_ ?_
  · rintro i σ H1 hi ⟨x1, x2, x3, x4, x5, x6, rfl, e1⟩
    have hi3 : i < 3 := by omega
    refine ⟨_, rfl, _, rfl, a, ns, i, by rw [Int.zero_add], Evl.ex_l (fun b o h => e1 b o h) hs, by omega, fun H2 g e2 hg b2 => ?_⟩
    refine ⟨(2 : Int), rfl, by decide, by decide, ?_⟩
    refine for_range (fun j σ H' => ∃ x3 x4 x5 x6, σ = [some (.ref a), some (.int (0 + (i : Int))), some (.ref g), x3, x4, x5, x6] ∧ Kp [g] H1 H' ∧ BagAt H' g) ⟨_, _, _, _, rfl, Kp.of e2, b2⟩ ?_ ?_
    · rintro j σ H3 hj ⟨x3, x4, x5, x6, rfl, k3, b3⟩
      refine ⟨_, rfl, g, rfl, b3, fun H4 lv L k4 b4 hLo hV => ?_⟩
      refine ⟨_, rfl, g, 3, rfl, b4, by decide, fun H5 l k5 b5 hl hll => ?_⟩
      refine ⟨_, rfl, g, 4, rfl, b5, by decide, by decide, fun H6 e k6 b6 he => ?_⟩
      obtain ⟨c, hc, hat⟩ := letter_at he
      refine ⟨_, _, c, rfl, rfl, abcd_sz, hat, ?_⟩
      rw [tx_one]
      refine ⟨_, _, rfl, rfl, Nat.le_trans (by rw [tx_len, tx_len, List.length_singleton]; omega) sizeBig, ?_⟩
      rw [tx_app]
      refine ⟨_, _, rfl, ?_⟩
      have t46 : TK H4 H6 := (Kp.tk k5 fun y hy xs z => by
        rw [List.mem_singleton.mp hy] at z
        exact b4.soft.1 xs z).trans (Kp.tk k6 fun y hy xs z => by
        rw [List.mem_singleton.mp hy] at z
        exact b5.soft.1 xs z)
      refine ⟨_, rfl, _, rfl, _, rfl, g, lv, L, l ++ [c], rfl, b6, hLo.mono t46, hV, hl.app (.one hc), by rw [List.length_append, List.length_singleton]; omega, fun H7 k7 b7 => ⟨_, rfl, if_f rfl ?_⟩⟩
      exact ⟨_, _, _, _, rfl, k3.trans (k4.trans (k5.trans (k6.trans k7))), b7⟩
    · rintro σ H3 ⟨x3, x4, x5, x6, rfl, k3, b3⟩
      refine ⟨_, rfl, g, 40, rfl, b3, by decide, by decide, fun H4 d1 k4 b4 hd1 => ?_⟩
      refine ⟨_, rfl, _, _, rfl, rfl, ⟨by decide, by decide, by decide⟩, ?_⟩
      dsimp only
      rw [p60]
      refine ⟨g, ((10 ^ 60 : Nat) : Int), rfl, b4, by decide, by decide, fun H5 d2 k5 b5 hd2 => ?_⟩
      have hd1' : d1 ≤ 10 ^ 60 := by omega
      have hd2' : d2 ≤ 10 ^ 60 := Nat.le_of_lt (Int.ofNat_lt.mp hd2)
      refine ⟨sz2 (by simp), fun l hl => ?_⟩
      have e6 : Ext H (upd H5 l (.lst [.int (d1 : Int), .int (d2 : Int)])) := e1.trans ((ext_drop (k3.trans (k4.trans k5)) hg).trans (Ext.upd hl))
      have hl6 : upd H5 l (.lst [.int (d1 : Int), .int (d2 : Int)]) l = some (.lst [.int (d1 : Int), .int (d2 : Int)]) := upd_same
      generalize upd H5 l (.lst [.int (d1 : Int), .int (d2 : Int)]) = H6 at e6 hl6 ⊢
      refine ⟨_, rfl, ⟨_, sl hl6⟩, for_list (D := { nx := fun σ H' => ∃ x1 x2 x3 x4 x5 x6, σ = [some (.ref a), x1, x2, x3, x4, x5, x6] ∧ Ext H H', rt := Q }) (xs := [.int (d1 : Int), .int (d2 : Int)]) (fun j σ H' => ∃ x1 x2 x3 x4 x5 x6, σ = [some (.ref a), x1, x2, x3, x4, x5, x6] ∧ Ext H6 H') ⟨_, _, _, _, _, _, rfl, Ext.rfl'⟩
        (fun j σ H' _ ⟨_, _, _, _, _, _, _, e⟩ => sl (e _ _ hl6)) ?_ ?_⟩
      · rintro j x σ H7 hj ⟨x1, x2, x3, x4, x5, x6, rfl, e7⟩
        obtain ⟨n, hx, hn⟩ : ∃ n : Nat, x = .int (n : Int) ∧ n ≤ 10 ^ 60 := by
          have hm := List.mem_of_getElem? hj
          simp only [List.mem_cons, List.not_mem_nil, or_false] at hm
          rcases hm with e | e
          · exact ⟨d1, e, hd1'⟩
          · exact ⟨d2, e, hd2'⟩
        subst hx
        refine ⟨_, rfl, n, rfl, hn, fun H8 e8 => ⟨_, rfl, if_f rfl ?_⟩⟩
        refine ⟨_, rfl, n, rfl, hn, fun H9 e9 => ⟨_, rfl, if_f rfl ?_⟩⟩
        exact ⟨_, _, _, _, _, _, rfl, e7.trans (e8.trans e9)⟩
      · rintro σ H7 ⟨x1, x2, x3, x4, x5, x6, rfl, e7⟩
        exact ⟨_, _, _, _, _, _, rfl, e6.trans e7⟩
  · rintro σ H1 ⟨x1, x2, x3, x4, x5, x6, rfl, e1⟩
    exact q H1
end
end OB
set_option Elab.async false
set_option linter.all false
set_option maxRecDepth 100000
set_option maxHeartbeats 0
namespace OB
open PySem PySem.Spec PyProof.Rows L2
def d_Endless_init : He5.DefA := ⟨fun K => He.ma K (He.ga K "Endless") "__init__", "__init__", "Endless.__init__", defArgs s_Endless_init, defBody s_Endless_init, defScope s_Endless_init, [], []⟩
def d_is_integer : He5.DefA := ⟨fun K => He.ga K "is_integer", "is_integer", "is_integer", defArgs s_is_integer, defBody s_is_integer, defScope s_is_integer, [], []⟩
def d_is_item : He5.DefA := ⟨fun K => He.ga K "is_item", "is_item", "is_item", defArgs s_is_item, defBody s_is_item, defScope s_is_item, [], []⟩
def d_is_text : He5.DefA := ⟨fun K => He.ga K "is_text", "is_text", "is_text", defArgs s_is_text, defBody s_is_text, defScope s_is_text, [], []⟩
def d_is_selection : He5.DefA := ⟨fun K => He.ga K "is_selection", "is_selection", "is_selection", defArgs s_is_selection, defBody s_is_selection, defScope s_is_selection, [], []⟩
def d_is_edit : He5.DefA := ⟨fun K => He.ga K "is_edit", "is_edit", "is_edit", defArgs s_is_edit, defBody s_is_edit, defScope s_is_edit, [], []⟩
def d_count_words : He5.DefA := ⟨fun K => He.ga K "count_words", "count_words", "count_words", defArgs s_count_words, defBody s_count_words, defScope s_count_words, [], []⟩
def d_may_follow : He5.DefA := ⟨fun K => He.ga K "may_follow", "may_follow", "may_follow", defArgs s_may_follow, defBody s_may_follow, defScope s_may_follow, [], []⟩
def d_are_edits : He5.DefA := ⟨fun K => He.ga K "are_edits", "are_edits", "are_edits", defArgs s_are_edits, defBody s_are_edits, defScope s_are_edits, [], []⟩
def d_is_rule : He5.DefA := ⟨fun K => He.ga K "is_rule", "is_rule", "is_rule", defArgs s_is_rule, defBody s_is_rule, defScope s_is_rule, [], []⟩
def d_is_loop : He5.DefA := ⟨fun K => He.ga K "is_loop", "is_loop", "is_loop", defArgs s_is_loop, defBody s_is_loop, defScope s_is_loop, [], []⟩
def d_is_program : He5.DefA := ⟨fun K => He.ga K "is_program", "is_program", "is_program", defArgs s_is_program, defBody s_is_program, defScope s_is_program, [], []⟩
def d_check_program : He5.DefA := ⟨fun K => He.ga K "check_program", "check_program", "check_program", defArgs s_check_program, defBody s_check_program, defScope s_check_program, [], []⟩
def d_fitting_rule : He5.DefA := ⟨fun K => He.ga K "fitting_rule", "fitting_rule", "fitting_rule", defArgs s_fitting_rule, defBody s_fitting_rule, defScope s_fitting_rule, [], []⟩
def d_apply_edit : He5.DefA := ⟨fun K => He.ga K "apply_edit", "apply_edit", "apply_edit", defArgs s_apply_edit, defBody s_apply_edit, defScope s_apply_edit, [], []⟩
def d_Pass_init : He5.DefA := ⟨fun K => He.ma K (He.ga K "Pass") "__init__", "__init__", "Pass.__init__", defArgs s_Pass_init, defBody s_Pass_init, defScope s_Pass_init, [], []⟩
def d_Pass_carry_out : He5.DefA := ⟨fun K => He.ma K (He.ga K "Pass") "carry_out", "carry_out", "Pass.carry_out", defArgs s_Pass_carry_out, defBody s_Pass_carry_out, defScope s_Pass_carry_out, [], []⟩
def d_is_pair : He5.DefA := ⟨fun K => He.ga K "is_pair", "is_pair", "is_pair", defArgs s_is_pair, defBody s_is_pair, defScope s_is_pair, [], []⟩
def d_root : He5.DefA := ⟨fun K => He.ga K "root", "root", "root", defArgs s_root, defBody s_root, defScope s_root, [], []⟩
def d_tidy : He5.DefA := ⟨fun K => He.ga K "tidy", "tidy", "tidy", defArgs s_tidy, defBody s_tidy, defScope s_tidy, [], []⟩
def d_stretch : He5.DefA := ⟨fun K => He.ga K "stretch", "stretch", "stretch", defArgs s_stretch, defBody s_stretch, defScope s_stretch, [], []⟩
def d_cut : He5.DefA := ⟨fun K => He.ga K "cut", "cut", "cut", defArgs s_cut, defBody s_cut, defScope s_cut, [], []⟩
def d_same_items : He5.DefA := ⟨fun K => He.ga K "same_items", "same_items", "same_items", defArgs s_same_items, defBody s_same_items, defScope s_same_items, [], []⟩
def d_Runs_init : He5.DefA := ⟨fun K => He.ma K (He.ga K "Runs") "__init__", "__init__", "Runs.__init__", defArgs s_Runs_init, defBody s_Runs_init, defScope s_Runs_init, [], []⟩
def d_Repeats_init : He5.DefA := ⟨fun K => He.ma K (He.ga K "Repeats") "__init__", "__init__", "Repeats.__init__", defArgs s_Repeats_init, defBody s_Repeats_init, defScope s_Repeats_init, [], []⟩
def d_Repeats_once : He5.DefA := ⟨fun K => He5.wf K (He.ga K "Repeats") "classmethod" "once", "once", "Repeats.once", defArgs s_Repeats_once, defBody s_Repeats_once, defScope s_Repeats_once, [], []⟩
def d_Repeats_length : He5.DefA := ⟨fun K => pg K (He.ga K "Repeats") "length", "length", "Repeats.length", defArgs s_Repeats_length, defBody s_Repeats_length, defScope s_Repeats_length, [], []⟩
def d_Repeats_part : He5.DefA := ⟨fun K => He.ma K (He.ga K "Repeats") "part", "part", "Repeats.part", defArgs s_Repeats_part, defBody s_Repeats_part, defScope s_Repeats_part, [], []⟩
def d_Repeats_to_text : He5.DefA := ⟨fun K => He.ma K (He.ga K "Repeats") "to_text", "to_text", "Repeats.to_text", defArgs s_Repeats_to_text, defBody s_Repeats_to_text, defScope s_Repeats_to_text, [], []⟩
def d_Repeats_add : He5.DefA := ⟨fun K => He.ma K (He.ga K "Repeats") "__add__", "__add__", "Repeats.__add__", defArgs s_Repeats_add, defBody s_Repeats_add, defScope s_Repeats_add, [], []⟩
def d_Repeats_mul : He5.DefA := ⟨fun K => He.ma K (He.ga K "Repeats") "__mul__", "__mul__", "Repeats.__mul__", defArgs s_Repeats_mul, defBody s_Repeats_mul, defScope s_Repeats_mul, [], []⟩
def d_Repeats_eq : He5.DefA := ⟨fun K => He.ma K (He.ga K "Repeats") "__eq__", "__eq__", "Repeats.__eq__", defArgs s_Repeats_eq, defBody s_Repeats_eq, defScope s_Repeats_eq, [], []⟩
def d_Result_init : He5.DefA := ⟨fun K => He.ma K (He.ga K "Result") "__init__", "__init__", "Result.__init__", defArgs s_Result_init, defBody s_Result_init, defScope s_Result_init, [], []⟩
def d_Result_text : He5.DefA := ⟨fun K => pg K (He.ga K "Result") "text", "text", "Result.text", defArgs s_Result_text, defBody s_Result_text, defScope s_Result_text, [], []⟩
def d_Result_passes : He5.DefA := ⟨fun K => pg K (He.ga K "Result") "passes", "passes", "Result.passes", defArgs s_Result_passes, defBody s_Result_passes, defScope s_Result_passes, [], []⟩
def d_Result_ways : He5.DefA := ⟨fun K => pg K (He.ga K "Result") "ways", "ways", "Result.ways", defArgs s_Result_ways, defBody s_Result_ways, defScope s_Result_ways, [], []⟩
def d_Stay_init : He5.DefA := ⟨fun K => He.ma K (He.ga K "Stay") "__init__", "__init__", "Stay.__init__", defArgs s_Stay_init, defBody s_Stay_init, defScope s_Stay_init, [.bl false], []⟩
def d_Stay_key : He5.DefA := ⟨fun K => He.ma K (He.ga K "Stay") "key", "key", "Stay.key", defArgs s_Stay_key, defBody s_Stay_key, defScope s_Stay_key, [], []⟩
def d_Track_init : He5.DefA := ⟨fun K => He.ma K (He.ga K "Track") "__init__", "__init__", "Track.__init__", defArgs s_Track_init, defBody s_Track_init, defScope s_Track_init, [], []⟩
def d_Track_write : He5.DefA := ⟨fun K => He.ma K (He.ga K "Track") "write", "write", "Track.write", defArgs s_Track_write, defBody s_Track_write, defScope s_Track_write, [.int 1], []⟩
def d_Track_write_round : He5.DefA := ⟨fun K => He.ma K (He.ga K "Track") "write_round", "write_round", "Track.write_round", defArgs s_Track_write_round, defBody s_Track_write_round, defScope s_Track_write_round, [], []⟩
def d_one_pass : He5.DefA := ⟨fun K => He.ga K "one_pass", "one_pass", "one_pass", defArgs s_one_pass, defBody s_one_pass, defScope s_one_pass, [], []⟩
def d_make_passes : He5.DefA := ⟨fun K => He.ga K "make_passes", "make_passes", "make_passes", defArgs s_make_passes, defBody s_make_passes, defScope s_make_passes, [], []⟩
def d_joined_parts : He5.DefA := ⟨fun K => He.ga K "joined_parts", "joined_parts", "joined_parts", defArgs s_joined_parts, defBody s_joined_parts, defScope s_joined_parts, [], []⟩
def d_Feeder_init : He5.DefA := ⟨fun K => He.ma K (He.ga K "Feeder") "__init__", "__init__", "Feeder.__init__", defArgs s_Feeder_init, defBody s_Feeder_init, defScope s_Feeder_init, [], []⟩
def d_Feeder_feed : He5.DefA := ⟨fun K => He.ma K (He.ga K "Feeder") "feed", "feed", "Feeder.feed", defArgs s_Feeder_feed, defBody s_Feeder_feed, defScope s_Feeder_feed, [], []⟩
def d_Feeder_feed_text : He5.DefA := ⟨fun K => He.ma K (He.ga K "Feeder") "feed_text", "feed_text", "Feeder.feed_text", defArgs s_Feeder_feed_text, defBody s_Feeder_feed_text, defScope s_Feeder_feed_text, [], []⟩
def d_Feeder_feed_row : He5.DefA := ⟨fun K => He.ma K (He.ga K "Feeder") "feed_row", "feed_row", "Feeder.feed_row", defArgs s_Feeder_feed_row, defBody s_Feeder_feed_row, defScope s_Feeder_feed_row, [], []⟩
def d_Feeder_finish : He5.DefA := ⟨fun K => He.ma K (He.ga K "Feeder") "finish", "finish", "Feeder.finish", defArgs s_Feeder_finish, defBody s_Feeder_finish, defScope s_Feeder_finish, [], []⟩
def d_run_loop_far : He5.DefA := ⟨fun K => He.ga K "run_loop_far", "run_loop_far", "run_loop_far", defArgs s_run_loop_far, defBody s_run_loop_far, defScope s_run_loop_far, [], []⟩
def d_run_far : He5.DefA := ⟨fun K => He.ga K "run_far", "run_far", "run_far", defArgs s_run_far, defBody s_run_far, defScope s_run_far, [], []⟩
def d_law_bag : He5.DefA := ⟨fun K => He.ga K "_law_bag", "_law_bag", "_law_bag", defArgs s_law_bag, defBody s_law_bag, defScope s_law_bag, [], []⟩
def d_law_take : He5.DefA := ⟨fun K => He.ga K "_law_take", "_law_take", "_law_take", defArgs s_law_take, defBody s_law_take, defScope s_law_take, [], []⟩
def d_law_selected : He5.DefA := ⟨fun K => He.ga K "_law_selected", "_law_selected", "_law_selected", defArgs s_law_selected, defBody s_law_selected, defScope s_law_selected, [], []⟩
def d_law_edits : He5.DefA := ⟨fun K => He.ga K "_law_edits", "_law_edits", "_law_edits", defArgs s_law_edits, defBody s_law_edits, defScope s_law_edits, [], []⟩
def d_law_loop : He5.DefA := ⟨fun K => He.ga K "_law_loop", "_law_loop", "_law_loop", defArgs s_law_loop, defBody s_law_loop, defScope s_law_loop, [], []⟩
def d_law_edited : He5.DefA := ⟨fun K => He.ga K "_law_edited", "_law_edited", "_law_edited", defArgs s_law_edited, defBody s_law_edited, defScope s_law_edited, [], []⟩
def d_law_passed : He5.DefA := ⟨fun K => He.ga K "_law_passed", "_law_passed", "_law_passed", defArgs s_law_passed, defBody s_law_passed, defScope s_law_passed, [], []⟩
def d_law_text : He5.DefA := ⟨fun K => He.ga K "_law_text", "_law_text", "_law_text", defArgs s_law_text, defBody s_law_text, defScope s_law_text, [], []⟩
def d_law_fed : He5.DefA := ⟨fun K => He.ga K "_law_fed", "_law_fed", "_law_fed", defArgs s_law_fed, defBody s_law_fed, defScope s_law_fed, [], []⟩
def d_law_copy_fed : He5.DefA := ⟨fun K => He.ga K "_law_copy_fed", "_law_copy_fed", "_law_copy_fed", defArgs s_law_copy_fed, defBody s_law_copy_fed, defScope s_law_copy_fed, [], []⟩
def d_law_ring : He5.DefA := ⟨fun K => He.ga K "_law_ring", "_law_ring", "_law_ring", defArgs s_law_ring, defBody s_law_ring, defScope s_law_ring, [], []⟩
def d_law_told : He5.DefA := ⟨fun K => He.ga K "_law_told", "_law_told", "_law_told", defArgs s_law_told, defBody s_law_told, defScope s_law_told, [], []⟩
def d_law_right : He5.DefA := ⟨fun K => He.ga K "_law_right", "_law_right", "_law_right", defArgs s_law_right, defBody s_law_right, defScope s_law_right, [], []⟩
def d_law_counted_right : He5.DefA := ⟨fun K => He.ga K "_law_counted_right", "_law_counted_right", "_law_counted_right", defArgs s_law_counted_right, defBody s_law_counted_right, defScope s_law_counted_right, [], []⟩
def d_law_carried_right : He5.DefA := ⟨fun K => He.ga K "_law_carried_right", "_law_carried_right", "_law_carried_right", defArgs s_law_carried_right, defBody s_law_carried_right, defScope s_law_carried_right, [], []⟩
def d_law : He5.DefA := ⟨fun K => He.ga K "law", "law", "law", defArgs s_law, defBody s_law, defScope s_law, [], []⟩
def fn :  List He5.DefA := [d_Endless_init, d_is_integer, d_is_item, d_is_text, d_is_selection, d_is_edit, d_count_words, d_may_follow, d_are_edits, d_is_rule, d_is_loop, d_is_program, d_check_program, d_fitting_rule, d_apply_edit, d_Pass_init, d_Pass_carry_out, d_is_pair, d_root, d_tidy, d_stretch, d_cut, d_same_items, d_Runs_init, d_Repeats_init, d_Repeats_once, d_Repeats_length, d_Repeats_part, d_Repeats_to_text, d_Repeats_add, d_Repeats_mul, d_Repeats_eq, d_Result_init, d_Result_text, d_Result_passes, d_Result_ways, d_Stay_init, d_Stay_key, d_Track_init, d_Track_write, d_Track_write_round, d_one_pass, d_make_passes, d_joined_parts, d_Feeder_init, d_Feeder_feed, d_Feeder_feed_text, d_Feeder_feed_row, d_Feeder_finish, d_run_loop_far, d_run_far, d_law_bag, d_law_take, d_law_selected, d_law_edits, d_law_loop, d_law_edited, d_law_passed, d_law_text, d_law_fed, d_law_copy_fed, d_law_ring, d_law_told, d_law_right, d_law_counted_right, d_law_carried_right, d_law]
/-! ### facts of its own -/
def propB (K : PySem.W.Frag) (C : Addr) (m : Str) : Bool := He.eqO (PySem.W.findIn K (.ref C) m) (some (some (.ref (He.ma K C m)))) && (He.eqO (PySem.W.specialIn K (.ref (He.ma K C m)) "__get__") (some (some (.builtin "property.__get__"))) &&
  (decide (PySem.W.takesIn K (.ref (He.ma K C m)) = some true) && (match PySem.W.recIn K (He.ma K C m) "property" with
    | some (.ref _ :: _) => true
    | _ => false)))
theorem propB_ok {K : PySem.W.Frag} {C : Addr} {m : Str} (h : propB K C m = true) : PropOf K C m (He.ma K C m) (pg K C m) := by
  obtain ⟨h1, h⟩ := He.ba h
  obtain ⟨h2, h⟩ := He.ba h
  obtain ⟨h3, h4⟩ := He.ba h
  refine ⟨He.eqO_ok h1, He.eqO_ok h2, of_decide_eq_true h3, ?_⟩
  unfold pg
  split at h4
  · rename_i g r e
    exact ⟨r, by rw [e]⟩
  · cases h4
def creadB (K : PySem.W.Frag) (C : Addr) : Bool := PySem.W.readsIn K C (.type "type") && He.eqO (PySem.W.specialIn K (.ref C) "__getattribute__") (some (some (.builtin "type.__getattribute__")))
theorem creadB_ok {K : PySem.W.Frag} {C : Addr} (h : creadB K C = true) : ClX.CRead K C (.type "type") := by
  obtain ⟨h1, h2⟩ := He.ba h
  exact ⟨h1, He.eqO_ok h2⟩
def kdTab : List (Str × He.Dv) := [("put", .str "item"), ("drop", .non), ("drop_next", .non), ("before", .str "item"), ("after", .str "item"), ("mark", .str "mark"), ("break", .non)]
def kdKeys : List Str := ["put", "drop", "drop_next", "before", "after", "mark", "break"]
def excB (K : PySem.W.Frag) (C : Addr) : Bool := match K.lookup C with
  | some ⟨.type "type", _, .cls cd, sl⟩ => (match cd.mro, sl.toList with
    | .ref C' :: bm, [_, _, _, _, some (.builtin n), _] => decide (C' = C) && (decide (n = "ArithmeticError.__new__") && (!cd.hasDel && (decide (bm = aeTail) && cd.hasDict)))
    | _, _ => false)
  | _ => false
def enlB (K : PySem.W.Frag) (C : Addr) : Bool := excB K C && (He.eqO (PySem.W.findIn K (.ref C) "__setattr__") (some (some (.builtin "object.__setattr__"))) && (He.eqO (PySem.W.findIn K (.ref C) "loop") (some none) &&
  (He.eqO (PySem.W.findIn K (.ref C) "__init__") (some (some (.ref (He.ma K C "__init__")))) && (decide (PySem.W.typeIn K (.ref (He.ma K C "__init__")) = some (.type "function")) && (PySem.W.keepIn K (.ref C) &&
  (decide (PySem.W.subIn K (.ref C) (.type "BaseException") = some true) && (decide (PySem.W.typeIn K (.ref C) = some (.type "type")) && decide (PySem.W.exmOne K (.ref C) (.ref C) = some true))))))))
def ad0 : List Addr := [3, 87, 104, 111, 118, 123, 128, 135, 140, 147, 154, 161, 166, 171, 178, 185, 192, 216, 227, 234, 241, 248, 255, 262, 279, 387, 446, 475, 509, 520]
def ad1 : List Addr := [527, 532, 577, 588, 595, 602, 609, 614, 621, 628, 635, 642, 654, 671, 678, 709, 716, 723, 728, 735, 742, 86, 110, 117, 122, 127, 134, 139, 146, 153]
def ad2 : List Addr := [160, 165, 170, 177, 184, 191, 215, 226, 233, 240, 247, 254, 261, 278, 386, 445, 474, 508, 519, 526, 531, 576, 587, 594, 601, 608, 613, 620, 627, 634]
def ad3 : List Addr := [641, 653, 670, 677, 708, 715, 722, 727, 734, 741, 84, 206, 213, 276, 295, 304, 311, 332, 337, 356, 363, 370, 405, 413, 421, 429, 465, 472, 493, 501]
def ad4 : List Addr := [506, 546, 553, 560, 567, 574, 83, 205, 212, 275, 294, 302, 310, 331, 336, 355, 362, 369, 404, 412, 420, 428, 464, 458, 471, 492, 500, 494, 505, 545]
def ad5 : List Addr := [552, 559, 566, 573, 301, 309, 411, 419, 427, 2]
def ad : List Addr := ad0 ++ ad1 ++ ad2 ++ ad3 ++ ad4 ++ ad5
def fa0 : List He.Fa := [.glo "is_integer", .glo "is_item", .glo "is_text", .glo "is_selection", .glo "is_edit", .glo "count_words", .glo "may_follow", .glo "are_edits", .glo "is_rule", .glo "is_loop", .glo "is_program", .glo "check_program", .glo "fitting_rule", .glo "apply_edit", .glo "is_pair", .glo "root", .glo "tidy", .glo "stretch", .glo "cut", .glo "same_items", .glo "one_pass", .glo "make_passes", .glo "joined_parts", .glo "run_loop_far", .glo "run_far", .glo "_law_bag", .glo "_law_take", .glo "_law_selected", .glo "_law_edits", .glo "_law_loop"]
def fa1 : List He.Fa := [.glo "_law_edited", .glo "_law_passed", .glo "_law_text", .glo "_law_fed", .glo "_law_copy_fed", .glo "_law_ring", .glo "_law_told", .glo "_law_right", .glo "_law_counted_right", .glo "_law_carried_right", .glo "law", .str "ITEMS" "abcd", .str "END" "$", .str "END_WAY" "end", .str "BREAK_WAY" "break", .int "MOST_RULES" 12, .int "MOST_LOOPS" 5, .int "MOST_EDITS" 4, .int "MOST_DELETIONS" 2, .int "MARKS" 4, .int "LONGEST_END" 4, .int "MOST_PAIRS" 50, .int "LONGEST_PART" 20, .int "LONGEST_TEXT" 2000, .int "MOST_TIMES" 1000000000000000000000000000000000000000000000000000000000000, .int "REACH" 3, .glo "EDIT_KINDS", .glo "Pass", .cls "Pass", .mkr "Pass"]
def fa2 : List He.Fa := [.noat "Pass" "item", .noat "Pass" "rule", .noat "Pass" "mark", .noat "Pass" "is_broken", .glo "Runs", .cls "Runs", .mkr "Runs", .noat "Runs" "tidied", .glo "Repeats", .cls "Repeats", .mkr "Repeats", .noat "Repeats" "runs", .glo "Result", .cls "Result", .mkr "Result", .noat "Result" "remains", .noat "Result" "made", .noat "Result" "ended", .glo "Stay", .cls "Stay", .mkr "Stay", .noat "Stay" "mark", .noat "Stay" "held", .noat "Stay" "is_broken", .glo "Track", .cls "Track", .mkr "Track", .noat "Track" "pairs", .noat "Track" "made", .glo "Feeder"]
def fa3 : List He.Fa := [.cls "Feeder", .mkr "Feeder", .noat "Feeder" "loop", .noat "Feeder" "known", .meth "Pass" "carry_out", .meth "Repeats" "part", .meth "Repeats" "to_text", .meth "Repeats" "__add__", .meth "Repeats" "__mul__", .meth "Repeats" "__eq__", .meth "Stay" "key", .meth "Track" "write", .meth "Track" "write_round", .meth "Feeder" "feed", .meth "Feeder" "feed_text", .meth "Feeder" "feed_row", .meth "Feeder" "finish", .glo "Endless", .exm "Endless" "Endless" true, .free "len", .free "isinstance", .free "min", .free "max", .free "abs", .free "sum", .free "all", .free "divmod", .free "list", .free "tuple", .free "range"]
def fa4 : List He.Fa := [.free "enumerate", .free "int", .free "bool", .free "str"]
def fa : List He.Fa := fa0 ++ fa1 ++ fa2 ++ fa3 ++ fa4
def xs0 : List (PySem.W.Frag → Bool) := [fun K => propB K (He.ga K "Repeats") "length", fun K => propB K (He.ga K "Result") "text", fun K => propB K (He.ga K "Result") "passes", fun K => propB K (He.ga K "Result") "ways", fun K => creadB K (He.ga K "Repeats"), fun K => He5.wrapB K (He.ga K "Repeats") "classmethod" "classmethod.__get__" "once", fun K => PySem.W.fnIn K (He5.wf K (He.ga K "Repeats") "classmethod" "once"), fun K => He.eqO (PySem.W.findIn K (.ref (He.ga K "Repeats")) "__ne__") (some (some (.builtin "object.__ne__"))), fun K => decide (PySem.W.mroIn K (He.ga K "Repeats") (.type "object") = some true), fun K => decide (PySem.W.mroIn K (He.ga K "Runs") (.type "object") = some true), fun K => PySem.W.selfFirst K (He.ga K "Repeats"), fun K => He.eqO (PySem.W.findIn K (.ref (He.ga K "Repeats")) "__rmul__") (some none), fun K => He.eqO (PySem.W.findIn K (.type "int") "__mul__") (some (some (.builtin "int.__mul__"))), fun K => He.eqO (PySem.W.findIn K (.type "int") "__rmul__") (some (some (.builtin "int.__rmul__"))), fun K => decide (PySem.W.subIn K (.type "int") (.ref (He.ga K "Repeats")) = some false), fun K => He.eqO (PySem.W.findIn K (.ref (He.ga K "Repeats")) "__class__") (some (some (.builtin "object.__class__"))), fun K => He.eqO (PySem.W.findIn K (.ref (He.ga K "Runs")) "__class__") (some (some (.builtin "object.__class__"))), fun K => He.eqO (PySem.W.specialIn K (.builtin "object.__class__") "__get__") (some (some (.builtin "getset_descriptor.__get__"))), fun K => decide (PySem.W.takesIn K (.builtin "object.__class__") = some true), fun K => decide (PySem.W.kitOne K (.ref (He.ga K "Runs")) (.ref (He.ga K "Runs")) = some true), fun K => decide (PySem.W.kitOne K (.type "list") (.ref (He.ga K "Runs")) = some false), fun K => decide (PySem.W.kitOne K (.ref (He.ga K "Repeats")) (.ref (He.ga K "Repeats")) = some true), fun K => He.valsB K (He.ga K "EDIT_KINDS") kdTab, fun K => enlB K (He.ga K "Endless")]
def xs : List (PySem.W.Frag → Bool) := xs0
/-! ### the hook -/
abbrev AlX : Type := Bool × List He.FnW × Option (List (Option (Str × Int)))
def obsX (K : PySem.W.Frag) : AlX := ((fa.all fun f => f.ok K) && ((fn.all fun d => d.ok K) && xs.all fun b => b K), fn.map fun d => He5.fnA K (d.at_ K), He.dicW K (He.ga K "EDIT_KINDS"))
def valX (w : World) : AlX := (true, fn.map He5.DefA.val, some (He.keysIn w.params kdKeys))
def SaysX (w : World) (K : PySem.W.Frag) : Prop := obsX K = valX w
def obsXG (g : Addr → Option Obj) : AlX := obsX (He.frG g ad)
def hk : PySem.W.Hook where
  α := AlX
  obs := fun s => obsXG s.heap.get?
  val := valX
  says := fun w h => ∃ K : PySem.W.Frag, K.In h ∧ SaysX w K
  of := fun _ _ e => ⟨_, He.frG_in, e⟩
  keeps := fun _ _ _ ⟨K, hK, c⟩ k => ⟨K, PySem.W.Frag.In.keeps hK k, c⟩
def ob (s : PySem.W.SharedT) : AlX := obsXG (HandSHeadRun.getT s)
theorem ob_eq (s : PySem.W.SharedT) : ob s = hk.obs s.abs := by
  have e : HandSHeadRun.getT s = s.abs.heap.get? := funext (HandSHeadRun.getT_eq s)
  unfold ob
  rw [e] <;> rfl
section
variable {w : World} {K : PySem.W.Frag}
theorem SaysX.fact (c : SaysX w K) (i : Nat) {f : He.Fa} (h : fa[i]? = some f := by rfl) : f.ok K = true := by
  have c1 := (He.ba (show ((fa.all fun f => f.ok K) && ((fn.all fun d => d.ok K) && xs.all fun b => b K)) = true from congrArg (fun z : AlX => z.1) c)).1
  exact List.all_eq_true.mp c1 f (List.mem_of_getElem? h)
theorem SaysX.x (c : SaysX w K) (i : Nat) {b : PySem.W.Frag → Bool} (h : xs[i]? = some b := by rfl) : b K = true := by
  have c1 := (He.ba (He.ba (show ((fa.all fun f => f.ok K) && ((fn.all fun d => d.ok K) && xs.all fun b => b K)) = true from congrArg (fun z : AlX => z.1) c)).2).2
  exact List.all_eq_true.mp c1 b (List.mem_of_getElem? h)
theorem SaysX.def_ (c : SaysX w K) (i : Nat) {d : He5.DefA} (h : fn[i]? = some d := by rfl) : ∃ fd, FunD K d.name d.qual d.params d.body d.scope (d.dvs K) (d.kws K) (d.at_ K) fd := by
  have c2 := (He.ba (He.ba (show ((fa.all fun f => f.ok K) && ((fn.all fun d => d.ok K) && xs.all fun b => b K)) = true from congrArg (fun z : AlX => z.1) c)).2).1
  have e : fn.map (fun d => He5.fnA K (d.at_ K)) = fn.map He5.DefA.val := congrArg (fun z : AlX => z.2.1) c
  have e2 : (fn.map fun d => He5.fnA K (d.at_ K))[i]? = (fn.map He5.DefA.val)[i]? := by rw [e]
  rw [List.getElem?_map, List.getElem?_map, h] at e2
  exact He5.DefA.funD (Option.some.inj e2) (List.all_eq_true.mp c2 d (List.mem_of_getElem? h))
theorem SaysX.tab (c : SaysX w K) : ∃ es n, KDict K w (He.ga K "EDIT_KINDS") es n := He.dicW_ok (ks := kdKeys) (congrArg (fun z : AlX => z.2.2) c)
end
theorem excB_ok {K : PySem.W.Frag} {C : Addr} (h : excB K C = true) : ∃ nm q N bs sn sub ab col dd k0 k1 k2 k3 k5, K.lookup C = some (PySem.excClassObj nm q C N bs aeTail true sn sub ab col dd k0 k1 k2 k3 k5 "ArithmeticError.__new__") := by
  unfold excB at h
  split at h
  · rename_i dd cd sl e
    split at h
    · rename_i C' bm k0 k1 k2 k3 n k5 e1 e2
      obtain ⟨h1, h⟩ := He.ba h
      obtain ⟨h2, h⟩ := He.ba h
      obtain ⟨h3, h⟩ := He.ba h
      obtain ⟨h4, h5⟩ := He.ba h
      have z1 := of_decide_eq_true h1
      have z2 := of_decide_eq_true h2
      have z4 := of_decide_eq_true h4
      obtain ⟨nm, bs, mro, ns, qn, hd, sn, sb, ab, col, del⟩ := cd
      dsimp only at e1 h3 h5
      obtain ⟨sl⟩ := sl
      dsimp only at e2
      cases del with
      | true => cases h3
      | false =>
        subst z1 z2 z4 e1 e2 h5
        exact ⟨nm, qn, ns, bs, sn, sb, ab, col, dd, k0, k1, k2, k3, k5, e⟩
    · cases h
  · cases h
theorem enlB_ok {K : PySem.W.Frag} {mg : Str → Option Value} (g : mg "Endless" = some (.ref (He.ga K "Endless"))) (F : ∃ fd, FunD K "__init__" "Endless.__init__" (defArgs s_Endless_init) (defBody s_Endless_init) (defScope s_Endless_init) [] [] (He.ma K (He.ga K "Endless") "__init__") fd)
    (h : enlB K (He.ga K "Endless") = true) : EndTxt K mg (He.ga K "Endless") (He.ma K (He.ga K "Endless") "__init__") := by
  obtain ⟨h1, h⟩ := He.ba h
  obtain ⟨h2, h⟩ := He.ba h
  obtain ⟨h3, h⟩ := He.ba h
  obtain ⟨h4, h⟩ := He.ba h
  obtain ⟨h5, h⟩ := He.ba h
  obtain ⟨h6, h⟩ := He.ba h
  obtain ⟨h7, h⟩ := He.ba h
  obtain ⟨h8, h9⟩ := He.ba h
  obtain ⟨fd, F⟩ := F
  obtain ⟨oc, od, dV, kV, doc, pm, an, cdv, ct, osl, e, l, cc, hd, _⟩ := F.ex
  refine ⟨g, excB_ok h1, He.eqO_ok h2, He.eqO_ok h3, He.eqO_ok h4, of_decide_eq_true h5, h6, of_decide_eq_true h7, of_decide_eq_true h8, of_decide_eq_true h9, ?_⟩
  rcases hd with ⟨_, e2⟩ | ⟨e2, _⟩
  · subst e2
    subst e
    exact ⟨oc, od, doc, pm, an, cdv, ct, kV, osl, _, _, _, _, _, _, l, cc⟩
  · exact absurd rfl e2
theorem txt {w : World} {K : PySem.W.Frag} {h : Heap} {mg : Str → Option Value} (X : K.In h) (G : h.Ns mainGlobals mg) (c : SaysX w K) : Txt K mg w where
  f_Endless_init := c.def_ 0 (d := d_Endless_init) rfl
  f_is_integer := c.def_ 1 (d := d_is_integer) rfl
  g_is_integer := He.glo_ok X G (c.fact 0 (f := .glo "is_integer") rfl)
  f_is_item := c.def_ 2 (d := d_is_item) rfl
  g_is_item := He.glo_ok X G (c.fact 1 (f := .glo "is_item") rfl)
  f_is_text := c.def_ 3 (d := d_is_text) rfl
  g_is_text := He.glo_ok X G (c.fact 2 (f := .glo "is_text") rfl)
  f_is_selection := c.def_ 4 (d := d_is_selection) rfl
  g_is_selection := He.glo_ok X G (c.fact 3 (f := .glo "is_selection") rfl)
  f_is_edit := c.def_ 5 (d := d_is_edit) rfl
  g_is_edit := He.glo_ok X G (c.fact 4 (f := .glo "is_edit") rfl)
  f_count_words := c.def_ 6 (d := d_count_words) rfl
  g_count_words := He.glo_ok X G (c.fact 5 (f := .glo "count_words") rfl)
  f_may_follow := c.def_ 7 (d := d_may_follow) rfl
  g_may_follow := He.glo_ok X G (c.fact 6 (f := .glo "may_follow") rfl)
  f_are_edits := c.def_ 8 (d := d_are_edits) rfl
  g_are_edits := He.glo_ok X G (c.fact 7 (f := .glo "are_edits") rfl)
  f_is_rule := c.def_ 9 (d := d_is_rule) rfl
  g_is_rule := He.glo_ok X G (c.fact 8 (f := .glo "is_rule") rfl)
  f_is_loop := c.def_ 10 (d := d_is_loop) rfl
  g_is_loop := He.glo_ok X G (c.fact 9 (f := .glo "is_loop") rfl)
  f_is_program := c.def_ 11 (d := d_is_program) rfl
  g_is_program := He.glo_ok X G (c.fact 10 (f := .glo "is_program") rfl)
  f_check_program := c.def_ 12 (d := d_check_program) rfl
  g_check_program := He.glo_ok X G (c.fact 11 (f := .glo "check_program") rfl)
  f_fitting_rule := c.def_ 13 (d := d_fitting_rule) rfl
  g_fitting_rule := He.glo_ok X G (c.fact 12 (f := .glo "fitting_rule") rfl)
  f_apply_edit := c.def_ 14 (d := d_apply_edit) rfl
  g_apply_edit := He.glo_ok X G (c.fact 13 (f := .glo "apply_edit") rfl)
  f_Pass_init := c.def_ 15 (d := d_Pass_init) rfl
  f_Pass_carry_out := c.def_ 16 (d := d_Pass_carry_out) rfl
  f_is_pair := c.def_ 17 (d := d_is_pair) rfl
  g_is_pair := He.glo_ok X G (c.fact 14 (f := .glo "is_pair") rfl)
  f_root := c.def_ 18 (d := d_root) rfl
  g_root := He.glo_ok X G (c.fact 15 (f := .glo "root") rfl)
  f_tidy := c.def_ 19 (d := d_tidy) rfl
  g_tidy := He.glo_ok X G (c.fact 16 (f := .glo "tidy") rfl)
  f_stretch := c.def_ 20 (d := d_stretch) rfl
  g_stretch := He.glo_ok X G (c.fact 17 (f := .glo "stretch") rfl)
  f_cut := c.def_ 21 (d := d_cut) rfl
  g_cut := He.glo_ok X G (c.fact 18 (f := .glo "cut") rfl)
  f_same_items := c.def_ 22 (d := d_same_items) rfl
  g_same_items := He.glo_ok X G (c.fact 19 (f := .glo "same_items") rfl)
  f_Runs_init := c.def_ 23 (d := d_Runs_init) rfl
  f_Repeats_init := c.def_ 24 (d := d_Repeats_init) rfl
  f_Repeats_once := c.def_ 25 (d := d_Repeats_once) rfl
  f_Repeats_length := c.def_ 26 (d := d_Repeats_length) rfl
  f_Repeats_part := c.def_ 27 (d := d_Repeats_part) rfl
  f_Repeats_to_text := c.def_ 28 (d := d_Repeats_to_text) rfl
  f_Repeats_add := c.def_ 29 (d := d_Repeats_add) rfl
  f_Repeats_mul := c.def_ 30 (d := d_Repeats_mul) rfl
  f_Repeats_eq := c.def_ 31 (d := d_Repeats_eq) rfl
  f_Result_init := c.def_ 32 (d := d_Result_init) rfl
  f_Result_text := c.def_ 33 (d := d_Result_text) rfl
  f_Result_passes := c.def_ 34 (d := d_Result_passes) rfl
  f_Result_ways := c.def_ 35 (d := d_Result_ways) rfl
  f_Stay_init := c.def_ 36 (d := d_Stay_init) rfl
  f_Stay_key := c.def_ 37 (d := d_Stay_key) rfl
  f_Track_init := c.def_ 38 (d := d_Track_init) rfl
  f_Track_write := c.def_ 39 (d := d_Track_write) rfl
  f_Track_write_round := c.def_ 40 (d := d_Track_write_round) rfl
  f_one_pass := c.def_ 41 (d := d_one_pass) rfl
  g_one_pass := He.glo_ok X G (c.fact 20 (f := .glo "one_pass") rfl)
  f_make_passes := c.def_ 42 (d := d_make_passes) rfl
  g_make_passes := He.glo_ok X G (c.fact 21 (f := .glo "make_passes") rfl)
  f_joined_parts := c.def_ 43 (d := d_joined_parts) rfl
  g_joined_parts := He.glo_ok X G (c.fact 22 (f := .glo "joined_parts") rfl)
  f_Feeder_init := c.def_ 44 (d := d_Feeder_init) rfl
  f_Feeder_feed := c.def_ 45 (d := d_Feeder_feed) rfl
  f_Feeder_feed_text := c.def_ 46 (d := d_Feeder_feed_text) rfl
  f_Feeder_feed_row := c.def_ 47 (d := d_Feeder_feed_row) rfl
  f_Feeder_finish := c.def_ 48 (d := d_Feeder_finish) rfl
  f_run_loop_far := c.def_ 49 (d := d_run_loop_far) rfl
  g_run_loop_far := He.glo_ok X G (c.fact 23 (f := .glo "run_loop_far") rfl)
  f_run_far := c.def_ 50 (d := d_run_far) rfl
  g_run_far := He.glo_ok X G (c.fact 24 (f := .glo "run_far") rfl)
  f_law_bag := c.def_ 51 (d := d_law_bag) rfl
  g_law_bag := He.glo_ok X G (c.fact 25 (f := .glo "_law_bag") rfl)
  f_law_take := c.def_ 52 (d := d_law_take) rfl
  g_law_take := He.glo_ok X G (c.fact 26 (f := .glo "_law_take") rfl)
  f_law_selected := c.def_ 53 (d := d_law_selected) rfl
  g_law_selected := He.glo_ok X G (c.fact 27 (f := .glo "_law_selected") rfl)
  f_law_edits := c.def_ 54 (d := d_law_edits) rfl
  g_law_edits := He.glo_ok X G (c.fact 28 (f := .glo "_law_edits") rfl)
  f_law_loop := c.def_ 55 (d := d_law_loop) rfl
  g_law_loop := He.glo_ok X G (c.fact 29 (f := .glo "_law_loop") rfl)
  f_law_edited := c.def_ 56 (d := d_law_edited) rfl
  g_law_edited := He.glo_ok X G (c.fact 30 (f := .glo "_law_edited") rfl)
  f_law_passed := c.def_ 57 (d := d_law_passed) rfl
  g_law_passed := He.glo_ok X G (c.fact 31 (f := .glo "_law_passed") rfl)
  f_law_text := c.def_ 58 (d := d_law_text) rfl
  g_law_text := He.glo_ok X G (c.fact 32 (f := .glo "_law_text") rfl)
  f_law_fed := c.def_ 59 (d := d_law_fed) rfl
  g_law_fed := He.glo_ok X G (c.fact 33 (f := .glo "_law_fed") rfl)
  f_law_copy_fed := c.def_ 60 (d := d_law_copy_fed) rfl
  g_law_copy_fed := He.glo_ok X G (c.fact 34 (f := .glo "_law_copy_fed") rfl)
  f_law_ring := c.def_ 61 (d := d_law_ring) rfl
  g_law_ring := He.glo_ok X G (c.fact 35 (f := .glo "_law_ring") rfl)
  f_law_told := c.def_ 62 (d := d_law_told) rfl
  g_law_told := He.glo_ok X G (c.fact 36 (f := .glo "_law_told") rfl)
  f_law_right := c.def_ 63 (d := d_law_right) rfl
  g_law_right := He.glo_ok X G (c.fact 37 (f := .glo "_law_right") rfl)
  f_law_counted_right := c.def_ 64 (d := d_law_counted_right) rfl
  g_law_counted_right := He.glo_ok X G (c.fact 38 (f := .glo "_law_counted_right") rfl)
  f_law_carried_right := c.def_ 65 (d := d_law_carried_right) rfl
  g_law_carried_right := He.glo_ok X G (c.fact 39 (f := .glo "_law_carried_right") rfl)
  f_law := c.def_ 66 (d := d_law) rfl
  g_law := He.glo_ok X G (c.fact 40 (f := .glo "law") rfl)
  g_ITEMS := He.str_ok X G (c.fact 41 (f := .str "ITEMS" "abcd") rfl)
  g_END := He.str_ok X G (c.fact 42 (f := .str "END" "$") rfl)
  g_END_WAY := He.str_ok X G (c.fact 43 (f := .str "END_WAY" "end") rfl)
  g_BREAK_WAY := He.str_ok X G (c.fact 44 (f := .str "BREAK_WAY" "break") rfl)
  g_MOST_RULES := He.int_ok X G (c.fact 45 (f := .int "MOST_RULES" 12) rfl)
  g_MOST_LOOPS := He.int_ok X G (c.fact 46 (f := .int "MOST_LOOPS" 5) rfl)
  g_MOST_EDITS := He.int_ok X G (c.fact 47 (f := .int "MOST_EDITS" 4) rfl)
  g_MOST_DELETIONS := He.int_ok X G (c.fact 48 (f := .int "MOST_DELETIONS" 2) rfl)
  g_MARKS := He.int_ok X G (c.fact 49 (f := .int "MARKS" 4) rfl)
  g_LONGEST_END := He.int_ok X G (c.fact 50 (f := .int "LONGEST_END" 4) rfl)
  g_MOST_PAIRS := He.int_ok X G (c.fact 51 (f := .int "MOST_PAIRS" 50) rfl)
  g_LONGEST_PART := He.int_ok X G (c.fact 52 (f := .int "LONGEST_PART" 20) rfl)
  g_LONGEST_TEXT := He.int_ok X G (c.fact 53 (f := .int "LONGEST_TEXT" 2000) rfl)
  g_MOST_TIMES := He.int_ok X G (c.fact 54 (f := .int "MOST_TIMES" 1000000000000000000000000000000000000000000000000000000000000) rfl)
  g_REACH := He.int_ok X G (c.fact 55 (f := .int "REACH" 3) rfl)
  g_EDIT_KINDS := He.glo_ok X G (c.fact 56 (f := .glo "EDIT_KINDS") rfl)
  g_Pass := He.glo_ok X G (c.fact 57 (f := .glo "Pass") rfl)
  c_Pass := He.cls_ok (c.fact 58 (f := .cls "Pass") rfl)
  m_Pass := He.mkr_ok (c.fact 59 (f := .mkr "Pass") rfl)
  n_Pass_item := He.noat_ok (c.fact 60 (f := .noat "Pass" "item") rfl)
  n_Pass_rule := He.noat_ok (c.fact 61 (f := .noat "Pass" "rule") rfl)
  n_Pass_mark := He.noat_ok (c.fact 62 (f := .noat "Pass" "mark") rfl)
  n_Pass_is_broken := He.noat_ok (c.fact 63 (f := .noat "Pass" "is_broken") rfl)
  g_Runs := He.glo_ok X G (c.fact 64 (f := .glo "Runs") rfl)
  c_Runs := He.cls_ok (c.fact 65 (f := .cls "Runs") rfl)
  m_Runs := He.mkr_ok (c.fact 66 (f := .mkr "Runs") rfl)
  n_Runs_tidied := He.noat_ok (c.fact 67 (f := .noat "Runs" "tidied") rfl)
  g_Repeats := He.glo_ok X G (c.fact 68 (f := .glo "Repeats") rfl)
  c_Repeats := He.cls_ok (c.fact 69 (f := .cls "Repeats") rfl)
  m_Repeats := He.mkr_ok (c.fact 70 (f := .mkr "Repeats") rfl)
  n_Repeats_runs := He.noat_ok (c.fact 71 (f := .noat "Repeats" "runs") rfl)
  g_Result := He.glo_ok X G (c.fact 72 (f := .glo "Result") rfl)
  c_Result := He.cls_ok (c.fact 73 (f := .cls "Result") rfl)
  m_Result := He.mkr_ok (c.fact 74 (f := .mkr "Result") rfl)
  n_Result_remains := He.noat_ok (c.fact 75 (f := .noat "Result" "remains") rfl)
  n_Result_made := He.noat_ok (c.fact 76 (f := .noat "Result" "made") rfl)
  n_Result_ended := He.noat_ok (c.fact 77 (f := .noat "Result" "ended") rfl)
  g_Stay := He.glo_ok X G (c.fact 78 (f := .glo "Stay") rfl)
  c_Stay := He.cls_ok (c.fact 79 (f := .cls "Stay") rfl)
  m_Stay := He.mkr_ok (c.fact 80 (f := .mkr "Stay") rfl)
  n_Stay_mark := He.noat_ok (c.fact 81 (f := .noat "Stay" "mark") rfl)
  n_Stay_held := He.noat_ok (c.fact 82 (f := .noat "Stay" "held") rfl)
  n_Stay_is_broken := He.noat_ok (c.fact 83 (f := .noat "Stay" "is_broken") rfl)
  g_Track := He.glo_ok X G (c.fact 84 (f := .glo "Track") rfl)
  c_Track := He.cls_ok (c.fact 85 (f := .cls "Track") rfl)
  m_Track := He.mkr_ok (c.fact 86 (f := .mkr "Track") rfl)
  n_Track_pairs := He.noat_ok (c.fact 87 (f := .noat "Track" "pairs") rfl)
  n_Track_made := He.noat_ok (c.fact 88 (f := .noat "Track" "made") rfl)
  g_Feeder := He.glo_ok X G (c.fact 89 (f := .glo "Feeder") rfl)
  c_Feeder := He.cls_ok (c.fact 90 (f := .cls "Feeder") rfl)
  m_Feeder := He.mkr_ok (c.fact 91 (f := .mkr "Feeder") rfl)
  n_Feeder_loop := He.noat_ok (c.fact 92 (f := .noat "Feeder" "loop") rfl)
  n_Feeder_known := He.noat_ok (c.fact 93 (f := .noat "Feeder" "known") rfl)
  mt_Pass_carry_out := He.meth_ok (c.fact 94 (f := .meth "Pass" "carry_out") rfl)
  mt_Repeats_part := He.meth_ok (c.fact 95 (f := .meth "Repeats" "part") rfl)
  mt_Repeats_to_text := He.meth_ok (c.fact 96 (f := .meth "Repeats" "to_text") rfl)
  mt_Repeats_add := He.meth_ok (c.fact 97 (f := .meth "Repeats" "__add__") rfl)
  mt_Repeats_mul := He.meth_ok (c.fact 98 (f := .meth "Repeats" "__mul__") rfl)
  mt_Repeats_eq := He.meth_ok (c.fact 99 (f := .meth "Repeats" "__eq__") rfl)
  mt_Stay_key := He.meth_ok (c.fact 100 (f := .meth "Stay" "key") rfl)
  mt_Track_write := He.meth_ok (c.fact 101 (f := .meth "Track" "write") rfl)
  mt_Track_write_round := He.meth_ok (c.fact 102 (f := .meth "Track" "write_round") rfl)
  mt_Feeder_feed := He.meth_ok (c.fact 103 (f := .meth "Feeder" "feed") rfl)
  mt_Feeder_feed_text := He.meth_ok (c.fact 104 (f := .meth "Feeder" "feed_text") rfl)
  mt_Feeder_feed_row := He.meth_ok (c.fact 105 (f := .meth "Feeder" "feed_row") rfl)
  mt_Feeder_finish := He.meth_ok (c.fact 106 (f := .meth "Feeder" "finish") rfl)
  p_Repeats_length := propB_ok (c.x 0 (b := fun K => propB K (He.ga K "Repeats") "length") rfl)
  p_Result_text := propB_ok (c.x 1 (b := fun K => propB K (He.ga K "Result") "text") rfl)
  p_Result_passes := propB_ok (c.x 2 (b := fun K => propB K (He.ga K "Result") "passes") rfl)
  p_Result_ways := propB_ok (c.x 3 (b := fun K => propB K (He.ga K "Result") "ways") rfl)
  crd := creadB_ok (c.x 4 (b := fun K => creadB K (He.ga K "Repeats")) rfl)
  cmt := He5.cmet_of (c.x 5 (b := fun K => He5.wrapB K (He.ga K "Repeats") "classmethod" "classmethod.__get__" "once") rfl) (c.x 6 (b := fun K => PySem.W.fnIn K (He5.wf K (He.ga K "Repeats") "classmethod" "once")) rfl)
  rne := He.eqO_ok (c.x 7 (b := fun K => He.eqO (PySem.W.findIn K (.ref (He.ga K "Repeats")) "__ne__") (some (some (.builtin "object.__ne__")))) rfl)
  rmro := of_decide_eq_true (c.x 8 (b := fun K => decide (PySem.W.mroIn K (He.ga K "Repeats") (.type "object") = some true)) rfl)
  umro := of_decide_eq_true (c.x 9 (b := fun K => decide (PySem.W.mroIn K (He.ga K "Runs") (.type "object") = some true)) rfl)
  rfirst := (c.x 10 (b := fun K => PySem.W.selfFirst K (He.ga K "Repeats")) rfl)
  rrmul := He.eqO_ok (c.x 11 (b := fun K => He.eqO (PySem.W.findIn K (.ref (He.ga K "Repeats")) "__rmul__") (some none)) rfl)
  imul := He.eqO_ok (c.x 12 (b := fun K => He.eqO (PySem.W.findIn K (.type "int") "__mul__") (some (some (.builtin "int.__mul__")))) rfl)
  irmul := He.eqO_ok (c.x 13 (b := fun K => He.eqO (PySem.W.findIn K (.type "int") "__rmul__") (some (some (.builtin "int.__rmul__")))) rfl)
  isub := of_decide_eq_true (c.x 14 (b := fun K => decide (PySem.W.subIn K (.type "int") (.ref (He.ga K "Repeats")) = some false)) rfl)
  rcls := He.eqO_ok (c.x 15 (b := fun K => He.eqO (PySem.W.findIn K (.ref (He.ga K "Repeats")) "__class__") (some (some (.builtin "object.__class__")))) rfl)
  ucls := He.eqO_ok (c.x 16 (b := fun K => He.eqO (PySem.W.findIn K (.ref (He.ga K "Runs")) "__class__") (some (some (.builtin "object.__class__")))) rfl)
  cget := He.eqO_ok (c.x 17 (b := fun K => He.eqO (PySem.W.specialIn K (.builtin "object.__class__") "__get__") (some (some (.builtin "getset_descriptor.__get__")))) rfl)
  ctak := of_decide_eq_true (c.x 18 (b := fun K => decide (PySem.W.takesIn K (.builtin "object.__class__") = some true)) rfl)
  kit_uu := of_decide_eq_true (c.x 19 (b := fun K => decide (PySem.W.kitOne K (.ref (He.ga K "Runs")) (.ref (He.ga K "Runs")) = some true)) rfl)
  kit_lu := of_decide_eq_true (c.x 20 (b := fun K => decide (PySem.W.kitOne K (.type "list") (.ref (He.ga K "Runs")) = some false)) rfl)
  kit_rr := of_decide_eq_true (c.x 21 (b := fun K => decide (PySem.W.kitOne K (.ref (He.ga K "Repeats")) (.ref (He.ga K "Repeats")) = some true)) rfl)
  kinds := c.tab
  kd_put := He.valsB_ok (kvs := kdTab) (c.x 22 (b := fun K => He.valsB K (He.ga K "EDIT_KINDS") kdTab) rfl) (q := ("put", .str "item")) (by simp [kdTab])
  kd_drop := He.valsB_ok (kvs := kdTab) (c.x 22 (b := fun K => He.valsB K (He.ga K "EDIT_KINDS") kdTab) rfl) (q := ("drop", .non)) (by simp [kdTab])
  kd_drop_next := He.valsB_ok (kvs := kdTab) (c.x 22 (b := fun K => He.valsB K (He.ga K "EDIT_KINDS") kdTab) rfl) (q := ("drop_next", .non)) (by simp [kdTab])
  kd_before := He.valsB_ok (kvs := kdTab) (c.x 22 (b := fun K => He.valsB K (He.ga K "EDIT_KINDS") kdTab) rfl) (q := ("before", .str "item")) (by simp [kdTab])
  kd_after := He.valsB_ok (kvs := kdTab) (c.x 22 (b := fun K => He.valsB K (He.ga K "EDIT_KINDS") kdTab) rfl) (q := ("after", .str "item")) (by simp [kdTab])
  kd_mark := He.valsB_ok (kvs := kdTab) (c.x 22 (b := fun K => He.valsB K (He.ga K "EDIT_KINDS") kdTab) rfl) (q := ("mark", .str "mark")) (by simp [kdTab])
  kd_break := He.valsB_ok (kvs := kdTab) (c.x 22 (b := fun K => He.valsB K (He.ga K "EDIT_KINDS") kdTab) rfl) (q := ("break", .non)) (by simp [kdTab])
  endless := enlB_ok (He.glo_ok X G (c.fact 107 (f := .glo "Endless") rfl)) (c.def_ 0 (d := d_Endless_init) rfl) (c.x 23 (b := fun K => enlB K (He.ga K "Endless")) rfl)
  eexm := He.exm_ok (c.fact 108 (f := .exm "Endless" "Endless" true) rfl)
  z_len := He.free_ok X G (c.fact 109 (f := .free "len") rfl)
  z_isinstance := He.free_ok X G (c.fact 110 (f := .free "isinstance") rfl)
  z_min := He.free_ok X G (c.fact 111 (f := .free "min") rfl)
  z_max := He.free_ok X G (c.fact 112 (f := .free "max") rfl)
  z_abs := He.free_ok X G (c.fact 113 (f := .free "abs") rfl)
  z_sum := He.free_ok X G (c.fact 114 (f := .free "sum") rfl)
  z_all := He.free_ok X G (c.fact 115 (f := .free "all") rfl)
  z_divmod := He.free_ok X G (c.fact 116 (f := .free "divmod") rfl)
  z_list := He.free_ok X G (c.fact 117 (f := .free "list") rfl)
  z_tuple := He.free_ok X G (c.fact 118 (f := .free "tuple") rfl)
  z_range := He.free_ok X G (c.fact 119 (f := .free "range") rfl)
  z_enumerate := He.free_ok X G (c.fact 120 (f := .free "enumerate") rfl)
  z_int := He.free_ok X G (c.fact 121 (f := .free "int") rfl)
  z_bool := He.free_ok X G (c.fact 122 (f := .free "bool") rfl)
  z_str := He.free_ok X G (c.fact 123 (f := .free "str") rfl)
end OB
set_option Elab.async false
set_option linter.all false
set_option maxRecDepth 100000
set_option maxHeartbeats 0
namespace OB
open PySem PySem.Spec PyProof.Rows L2
abbrev R : PySem.W.OpenRow := PySem.W.OpenLaw.row PySem.Challenge.rw_ownbranch_k68_whole_one_more_round
def ln0 : List Str := ["_wall", "BranchError", "BadLoop", "BadList", "TooLong", "Endless", "NoIndex", "ITEMS", "END", "MOST_RULES", "MOST_LOOPS", "MOST_EDITS", "MOST_DELETIONS", "MARKS", "LONGEST_END", "EDIT_KINDS", "is_integer", "is_item", "is_text", "is_selection", "is_edit", "count_words", "may_follow", "are_edits", "is_rule", "is_loop", "is_program", "check_program", "fitting_rule", "apply_edit"]
def ln1 : List Str := ["Pass", "MOST_PAIRS", "LONGEST_PART", "LONGEST_TEXT", "MOST_TIMES", "is_pair", "root", "tidy", "stretch", "cut", "same_items", "Runs", "Repeats", "END_WAY", "BREAK_WAY", "Result", "REACH", "Stay", "Track", "one_pass", "make_passes", "joined_parts", "Feeder", "run_loop_far", "run_far", "_law_bag", "_law_take", "_law_selected", "_law_edits", "_law_loop"]
def ln2 : List Str := ["_law_edited", "_law_passed", "_law_walked", "_law_text", "_law_pairs", "_law_plain", "_law_fed", "_law_copy_fed", "_law_finished", "_law_rounds", "_law_far", "_law_list", "_law_ring", "_law_told", "_law_right", "_law_counted_right", "_law_carried_right"]
def loose : List Str := ln0 ++ ln1 ++ ln2
theorem run_f (w : World) : HandSHeadRun.RunEq R (PySem.W.view R.prog [83]) hk ob 6500 loose (w.withFollow "special-get-raises" false) := by
  intro os
  kernel_rfl
theorem run_t (w : World) : HandSHeadRun.RunEq R (PySem.W.view R.prog [83]) hk ob 6500 loose (w.withFollow "special-get-raises" true) := by
  intro os
  kernel_rfl
theorem run (w : World) : HandSHeadRun.RunEq R (PySem.W.view R.prog [83]) hk ob 6500 loose w := PySem.W.byRow2 "special-get-raises" (P := fun w => HandSHeadRun.RunEq R (PySem.W.view R.prog [83]) hk ob 6500 loose w) run_f run_t w
end OB
set_option Elab.async false
set_option linter.all false
set_option maxRecDepth 100000
set_option maxHeartbeats 0
namespace OB
open PySem PySem.Spec PyProof.Rows L2
theorem facts_end {P : Program} {w : World} {K : PySem.W.Frag} {h : Heap} {mg : Str → Option Value} {f : Addr} (X : K.In h) (G : h.Ns mainGlobals mg) (hfa : mg ("law" : Str) = some (.ref f)) (c : SaysX w K) :
    ∃ fd : FuncData, (∀ (s : Shared) (v : Value), BindsTo s fd ⟨[v], []⟩ [("_law_script", v)]) ∧ ∀ base : Heap, K.In base → base.Ns mainGlobals mg → FnOk P w K mg base CX0 14 f fd ["_law_script"] (sp_law K) := by
  have T := txt X G c
  obtain ⟨fd, F⟩ := T.f_law
  have e := hfa.symm.trans T.g_law
  cases e
  have b := FunD.bindsA (ps := ["_law_script"]) F fun _ _ _ _ _ _ us hl => match us, hl with | [_], _ => rfl
  exact ⟨fd, fun s v => b s [v] rfl, fun base _ _ => ok_law T F⟩
end OB
open PySem PySem.W PySem.Calls PyProof.Rows
theorem PySem.Challenge.cw_ownbranch_k68_whole_one_more_round_holds : PySem.Challenge.rw_ownbranch_k68_whole_one_more_round.Holds := by
  w_on; o_law
  refine HandSHeadRun.head_any (r := OpenLaw.row PySem.Challenge.rw_ownbranch_k68_whole_one_more_round) (q := view (OpenLaw.row PySem.Challenge.rw_ownbranch_k68_whole_one_more_round).prog [83]) (H := OB.hk) (ob := OB.ob) (M := 6500) (loose := OB.loose) (d := HandSHeadRun.topDef (OpenLaw.row PySem.Challenge.rw_ownbranch_k68_whole_one_more_round).prog 83) (kwd := []) OB.ob_eq
    (by kernel_rfl) (fun s => by kernel_rfl) OB.run (by kernel_rfl) (by kernel_rfl) (by kernel_rfl) (by rfl) (by first | assumption | decide +kernel) (by decide +kernel) ⟨rfl, rfl, rfl, rfl, rfl, by decide +kernel⟩ ?hw ?hc
  case hw => w_witness2
  case hc =>
    refine L2.walk_ofE (l := PySem.Challenge.rw_ownbranch_k68_whole_one_more_round) (n := 63) (k := 14) (x := "_law_script") (CX := L2.CX0) rfl (by decide) (by kernel_rfl) ⟨rfl, by decide, by decide⟩ ?F (fun _ _ _ _ z => z)
    intro w mg fa h Y G hmg0
    obtain ⟨K, KX, c⟩ := Y
    have hmg : mg ("law" : PySem.Str) = some (.ref fa) := by
      have e : (HandSHeadRun.topDef (OpenLaw.row PySem.Challenge.rw_ownbranch_k68_whole_one_more_round).prog 83).name = ("law" : PySem.Str) := by kernel_rfl
      rw [← e]
      exact hmg0
    obtain ⟨fd, hb, hF⟩ := OB.facts_end (P := (PySem.Challenge.rw_ownbranch_k68_whole_one_more_round).prog) (w := w) KX G hmg c
    exact ⟨K, fd, OB.sp_law K, KX, hb, fun H a ns hl _ hS => ⟨a, ns, rfl, hS, by omega, fun _ => rfl⟩, hF⟩
