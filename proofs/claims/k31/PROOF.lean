import PyProof.Rows.All
import HandS.HotCalls
import HandS.Comp
import HandS.List
import HandS.ExcIs
import HandS.ExcCtx
import HandS.SuiteRaise
import Wide.All
import OpenK.AllK
import Wide.FinOn
import HandS.ForMost
import HandS.Exc
import HandS.TryOnly
import HandS.TryMany
import HandS.ExcOwn
import HandS.WordsExc
import HandS.CallSlots
import HandS.Wide
import HandS.SortInts
import HandS.IsInst
import HandS.Zip
import HandS.Flow
import HandS.Deep
import HandS.TupMul
import HandS.TupAny
import HandS.Style
import HandS.More
import HandS.SetFor
import HandS.Text
import HandS.Flt
import HandS.TupSets
import KE.DataFind
import HandS.Codes
import HandS.Conv
import HandS.Rev
import HandS.EndBits
import HandS.Defaults
import KE.KStateDown
import HandS.Head0
import HandS.Head1
import HandS.Head2
import HandS.Words
import PySem.Challenge.RW_ratehall_k31_halls_and_forms_written
set_option Elab.async false
set_option linter.all false
set_option maxRecDepth 100000
set_option maxHeartbeats 4000000
namespace Rh
open PySem PySem.Spec PyProof.Rows L2 HotX L2H

/-! ## 0. While an exception is handled -/
/-- the exception that is handled, as it stands: its context is None (then c is x1), or the exception at c whose own context is None -/
def HotA (A : Around) (x1 c : Addr) (h : Heap) : Prop :=
  A.handled = some (.ref x1) ∧ ∃ (o : Obj) (vs : Array Value), h.get? x1 = some o ∧ o.data = .fields vs ∧
    ((vs[2]? = some .none ∧ c = x1) ∨ (vs[2]? = some (.ref c) ∧ c ≠ x1 ∧ ∃ (oc : Obj) (vc : Array Value), h.get? c = some oc ∧ oc.data = .fields vc ∧ vc[2]? = some .none))
section
variable {prog : Program} {w : World} {A : Around} {E : Value → Shared → Prop} {s : Shared}
/-- all that stood stands -/
def Stood (h h' : Heap) : Prop := ∀ b o, h.get? b = some o → h'.get? b = some o
theorem HotA.keep {x1 c : Addr} {h h' : Heap} (x : HotA A x1 c h) (k : ∀ b, b = x1 ∨ b = c → ∀ o, h.get? b = some o → h'.get? b = some o) : HotA A x1 c h' := by
  obtain ⟨hh, o, vs, g, d, z⟩ := x
  refine ⟨hh, o, vs, k _ (.inl rfl) _ g, d, z.imp id ?_⟩
  rintro ⟨z1, z2, oc, vc, g2, z3⟩
  exact ⟨z1, z2, oc, vc, k _ (.inr rfl) _ g2, z3⟩
theorem HotA.stood {x1 c : Addr} {h h' : Heap} (x : HotA A x1 c h) (k : Stood h h') : HotA A x1 c h' := x.keep fun b _ => k b
theorem HotA.lt {x1 c : Addr} {h : Heap} (x : HotA A x1 c h) : x1 < h.objs.size ∧ c < h.objs.size := by
  obtain ⟨-, o, vs, g, -, z⟩ := x
  refine ⟨Heap.lt_size g, ?_⟩
  rcases z with ⟨-, rfl⟩ | ⟨-, -, oc, vc, g2, -⟩
  · exact Heap.lt_size g
  · exact Heap.lt_size g2
/-- the chain of contexts is walked; the new exception is not in it -/
theorem unchain_hot {x1 c a : Addr} {Q : Value → Shared → Prop} (hot : HotA A x1 c s.heap) (far : a ≠ c) (q : Q .none s) :
    wpAny (model prog w) A (holding [Value.ref a] (runValue (.builtin "proto.unchain" ⟨[.ref a, .ref x1, .ref x1, .bool false], []⟩))) Q E s := by
  obtain ⟨-, o, vs, g, d, z⟩ := hot
  rcases z with ⟨z, -⟩ | ⟨z1, z2, oc, vc, g2, d2, z3⟩
  · exact unchained g d z q
  refine wpAny_holding (wpAny_runValue (codeAny_builtin entry_unchain ?_))
  show wpAny _ _ (field (.ref x1) 2 >>= _) _ _ s
  refine wpAny_bind (wpAny_field g d z1 ?_)
  rw [if_neg (show ¬ (Value.ref c == Value.none) = true from Bool.false_ne_true)]
  have n1 : ¬ (Value.ref c == Value.ref a) = true := by simpa using fun y => far y.symm
  have n2 : ¬ (Value.ref c == Value.ref x1) = true := by simpa using z2
  rw [if_neg n1, if_neg n2]
  refine wpAny_bind (wpAny_pure ?_)
  refine wpAny_pure ⟨plainId_quiet (show plainId "proto.unchain" = true by decide +kernel) _, codeAny_builtin entry_unchain ?_⟩
  show wpAny _ _ (field (.ref c) 2 >>= _) _ _ s
  refine wpAny_bind (wpAny_field g2 d2 z3 ?_)
  rw [if_pos (show (Value.none == Value.none) = true from rfl)]
  first
  | exact wpAny_bind (wpAny_pure (wpAny_pure q))
  | exact wpAny_pure q
/-- a new exception thrown: the handled one becomes its context -/
theorem throw_hot {α : Type} {a x1 c : Addr} {oe : Obj} {vs : Array Value} {Q : α → Shared → Prop} (hot : HotA A x1 c s.heap) (n1 : x1 ≠ a) (n2 : a ≠ c) (ha : s.heap.get? a = some oe) (da : oe.data = .fields vs) (hi : 2 < vs.size)
    (hE : E (.ref a) { s with heap := s.heap.update a (Obj.mapFields fun x => x.setIfInBounds 2 (.ref x1)) }) : wpAny (model prog w) A (raiseNew (.ref a) : Sem α) Q E s := by
  unfold raiseNew
  refine wpAny_bind (wpAny_handled ?_)
  rw [hot.1]
  have ne := ref_bne n1
  have both : ∀ {Q' : Unit → Shared → Prop}, Q' () { s with heap := s.heap.update a (Obj.mapFields fun x => x.setIfInBounds 2 (.ref x1)) } → wpAny (model prog w) A (updateField a 2 (.ref x1)) Q' E s := fun z => chained ha da hi z
  first
  | (show wpAny _ _ (if (Value.ref x1 != Value.ref a) = true then _ else _) _ _ _
     rw [if_pos ne]
     first
     | exact wpAny_bind (unchain_hot hot n2 (wpAny_bind (both (wpAny_throw hE))))
     | exact wpAny_bind (wpAny_bind (unchain_hot hot n2 (both (wpAny_throw hE)))))
  | (refine wpAny_bind ?_
     show wpAny _ _ (if (Value.ref x1 != Value.ref a) = true then _ else _) _ _ _
     rw [if_pos ne]
     exact wpAny_bind (unchain_hot hot n2 (both (wpAny_throw hE))))
/-- a StopIteration made and thrown: the handled exception becomes its context -/
theorem stop_hot {α : Type} {x1 c : Addr} {Q : α → Shared → Prop} (hot : HotA A x1 c s.heap)
    (hE : ∀ (a : Addr) (h' : Heap), Stood s.heap h' → ({ s with heap := h' } : Shared).TypeIs (.ref a) "StopIteration" → E (.ref a) { s with heap := h' }) :
    wpAny (model prog w) A (newExc (.type "StopIteration") [] >>= fun e => (raiseNew e : Sem α)) Q E s := by
  have up : ∀ (ob pb : Obj), Stood s.heap ((s.heap.push ob).push pb) := fun ob pb b o e => Heap.get?_push_of_some _ (Heap.get?_push_of_some _ e)
  refine wpAny_bind ?_
  simp only [newExc, newTuple]
  refine wpAny_bind (wpAny_newObj_type ?_ (by size_fits))
  refine wpAny_bind (m := firstArgMember _ _) (wpAny_of_eq (a := Value.none) (by first | rfl | (simp only [firstArgMember]; rfl)) (wpAny_newObj_type ?_ (by size_fits)))
  have hot2 := hot.stood (up { cls := .type "tuple", data := .seq #[] } { cls := .type "StopIteration", data := .fields (#[.ref s.heap.objs.size, .none, .none, .none, .bool false, .none] ++ ownMembersOf (.type "StopIteration") []) })
  have s0 : s.heap.objs.size < (s.heap.push { cls := .type "tuple", data := .seq #[] }).objs.size := by rw [Heap.size_push]; exact Nat.lt_succ_self _
  refine throw_hot hot2 (Nat.ne_of_lt (Nat.lt_trans hot.lt.1 s0)) (Nat.ne_of_gt (Nat.lt_trans hot.lt.2 s0)) (Heap.get?_push_size _ rfl) rfl (by simp <;> omega) ?_
  refine hE _ _ (fun b o e => ?_) ⟨_, Heap.get?_update_self _ (Heap.get?_push_size _ rfl) rfl, rfl⟩
  rw [Heap.get?_update_other _ _ (Nat.ne_of_gt (Heap.lt_size (Heap.get?_push_of_some _ e)))]
  exact up _ _ b o e
/-- a list's iterator, past the end -/
theorem list_end_hot {it src x1 c : Addr} {i : Nat} {items : Array Value} {Q : Option Value → Shared → Prop} (hot : HotA A x1 c s.heap) (li : s.heap.IsListIter it src i) (ll : s.heap.IsList src items) (past : items.size ≤ i) (n1 : x1 ≠ it) (n2 : c ≠ it)
    (go : ∀ h', (∀ b o, b ≠ it → s.heap.get? b = some o → h'.get? b = some o) → Q none { s with heap := h' }) : wpAny (model prog w) A (pyNext (.ref it)) Q E s := by
  obtain ⟨oi, gi, -, di⟩ := id li
  obtain ⟨ol, gl, -, nl, dl⟩ := ll
  have none_ : items[i]? = none := Array.getElem?_eq_none past
  unfold pyNext
  refine wpAny_bind (wpAny_attempt (wpAny_callSpecial?_slot (name := Str.ofString "__next__") li.typeIs slot_listiter_next (wpAny_call_entry slot_listiter_next li.typeIs entry_listiter_next ?_ (args_listiter_next _))))
  have f0 : ∀ {R : Value → Shared → Prop} {E' : Value → Shared → Prop} {A' : Around}, R (.ref src) s → wpAny (model prog w) A' (field (.ref it) 0) R E' s := fun q => wpAny_field gi di rfl q
  have f1 : ∀ {R : Value → Shared → Prop} {E' : Value → Shared → Prop} {A' : Around}, R (.int i 0) s → wpAny (model prog w) A' (field (.ref it) 1) R E' s := fun q => wpAny_field gi di rfl q
  show wpAny _ _ (field (.ref it) 0 >>= _) _ _ s
  refine wpAny_bind (f0 ?_)
  show wpAny _ _ (if (Value.ref src == Value.none) = true then _ else _) _ _ s
  have live : ¬ (Value.ref src == Value.none) = true := Bool.false_ne_true
  rw [if_neg live]
  show wpAny _ _ (field (.ref it) 1 >>= _) _ _ s
  refine wpAny_bind (f1 ?_)
  show wpAny _ _ (seqItems? (.ref src) >>= _) _ _ s
  refine wpAny_bind (wpAny_seqItems gl dl ?_)
  simp only [Int.toNat_natCast, none_]
  refine wpAny_bind (wpAny_rule (wpAny_bind (wpAny_setField gi di (by simp) ?_)))
  have hot2 : HotA A.in1 x1 c (s.heap.update it (Obj.mapFields fun x => x.setIfInBounds 0 Value.none)) := HotA.keep (h := s.heap) (show HotA A.in1 x1 c s.heap from hot) fun b hb o e => by
    refine (Heap.get?_update_other s.heap (Obj.mapFields fun x => x.setIfInBounds 0 Value.none) ?_).trans e
    rcases hb with rfl | rfl
    · exact Ne.symm n1
    · exact Ne.symm n2
  refine stop_hot (A := A.in1) hot2 fun a h' st ty => ?_
  refine wpAny_bind (wpAny_isInstance (T := "StopIteration") (b := true) ty isSubtype_stop ?_)
  refine wpAny_pure (go _ fun b o ne e => st b o ?_)
  exact (Heap.get?_update_other s.heap (Obj.mapFields fun x => x.setIfInBounds 0 Value.none) (Ne.symm ne)).trans e
/-- what is known of the list, of its iterator and of the handled exception amid the sum -/
def Midst (A : Around) (x1 c src it : Addr) (items : Array Value) (i : Nat) (h : Heap) : Prop := (h.IsListIter it src i ∧ h.IsList src items) ∧ HotA A x1 c h
theorem walks_hot {x1 c src it : Addr} {items : Array Value} (n1 : src ≠ it) (n2 : x1 ≠ it) (n3 : c ≠ it) : Walks prog w A it [it, src, x1, c] [it] items.size (fun i v => items[i]? = some v) (Midst A x1 c src it items) := by
  refine ⟨by simp, ?_, ?_, ?_, fun i s Q E m q => wpAny_pyIter_listiter m.1.1 q⟩
  · rintro i h h' ⟨⟨m1, m2⟩, z⟩ k
    exact ⟨⟨m1.at (k it (by simp)), m2.at (k src (by simp))⟩, z.keep fun b hb => k b (by rcases hb with rfl | rfl <;> simp)⟩
  · rintro i s Q E lt ⟨⟨m1, m2⟩, z⟩ q
    have there : items[i]? = some items[i] := by simp [lt]
    exact wpAny_pyNext_list_item m1 m2 there fun h' m1' sb => q _ h' s.toks there ⟨⟨m1', m2.extBut sb.extBut n1⟩, z.keep fun b hb o e => sb.extBut b o (by rcases hb with rfl | rfl <;> assumption) e⟩ fun b u nb eb => sb.extBut b u (by simpa using nb) eb
  · rintro s Q E ⟨⟨m1, m2⟩, z⟩ q
    exact list_end_hot z m1 m2 (Nat.le_refl _) n2 n3 fun h' k => q h' s.toks fun b o nb => k b o (by simpa using nb)
theorem sum_hot {x1 c src : Addr} {xs : Array (Int × Tok)} {Q : Value → Shared → Prop} (hot : HotA A x1 c s.heap) (ll : s.heap.IsList src (intItems xs))
    (q : ∀ h' tk t', Stood s.heap h' → Q (.int (preSum (numAt xs) xs.size) t') { s with heap := h', toks := tk }) : wpAny (model prog w) A (call (.builtin "sum") [.ref src]) Q E s := by
  have lt := hot.lt
  refine call_sum_walkG (iter_intList ll ?_)
  rintro _ rfl m12 fp n1
  have m : Midst A.in1 x1 c src s.heap.objs.size (intItems xs) 0 (s.heap.push { cls := .type "list_iterator", data := .fields #[.ref src, .int 0 0] }) := ⟨m12, (show HotA A.in1 x1 c s.heap from hot).stood fun b o e => Heap.get?_push_of_some _ e⟩
  refine ⟨_, _, _, _, _, _, numAt xs, rfl, walks_hot (A := A.in1) n1 (Nat.ne_of_lt lt.1) (Nat.ne_of_lt lt.2), m, ?_, fun i v => intItems_at, fun h' tk t' k => ?_⟩
  · have far : ∀ b, b < s.heap.objs.size → b < (s.heap.push { cls := .type "list_iterator", data := .fields #[.ref src, .int 0 0] }).objs.size := fun b z => by
      rw [Heap.size_push]
      exact Nat.lt_succ_of_lt z
    intro b hb
    simp only [List.mem_cons, List.not_mem_nil, or_false] at hb fp
    rcases hb with z | z | z | z
    · exact fp b (.inl z)
    · exact fp b (.inr z)
    · rw [z]; exact far _ lt.1
    · rw [z]; exact far _ lt.2
  have z := q h' tk t' (old_kept k)
  simpa [intItems] using z
end
/-- p's object is the exception that is handled; q's is its context, or p's where there is none -/
def HotP (A : Around) (p q : Addr × Obj) : Prop :=
  A.handled = some (.ref p.1) ∧ ∃ vs : Array Value, p.2.data = .fields vs ∧ ((vs[2]? = some .none ∧ q = p) ∨ (vs[2]? = some (.ref q.1) ∧ q.1 ≠ p.1 ∧ ∃ vc : Array Value, q.2.data = .fields vc ∧ vc[2]? = some .none))
def HotD (X : Cx) : Prop := ∃ p q : Addr × Obj, HotP X.A p q ∧ p ∈ X.pn ∧ q ∈ X.pn
theorem HotP.at {X : Cx} {pins : List (Addr × Obj)} {σ : L2.St} {H : Hp} {s : Shared} {p q : Addr × Obj} (x : HotP X.A p q) (hp : p ∈ X.pn) (hq : q ∈ X.pn) (I : L2.Inv X pins σ H s) : HotA X.A p.1 q.1 s.heap := by
  have at_ : ∀ r ∈ X.pn, s.heap.get? r.1 = some r.2 := fun r hr => (I.pin r (List.mem_append_left _ hr)).1
  obtain ⟨hh, vs, d, z⟩ := x
  refine ⟨hh, p.2, vs, at_ p hp, d, ?_⟩
  rcases z with ⟨z, e⟩ | ⟨z1, z2, vc, d2, z3⟩
  · exact .inl ⟨z, by rw [e]⟩
  · exact .inr ⟨z1, z2, q.2, vc, at_ q hq, d2, z3⟩
/-! ### a list made item by item there -/
section
variable {X : Cx} {pins : List (Addr × Obj)} {σ : L2.St} {H : Hp} {s : Shared} {E : Value → Shared → Prop} {it src i : Nat} {xs : List V}
theorem item_hot {x : V} (I : L2.Inv X pins σ H s) (f : FpOk X pins H it) (m : s.heap.IsListIter it src i) (sq : SqL X.K H src xs) (ex : xs[i]? = some x) :
    wpAny (model X.prog X.w) X.A (pyNext (.ref it)) (fun r s1 => ∃ u o, r = some u ∧ RelV x u ∧ L2.Inv X pins σ H s1 ∧ s1.heap.IsListIter it src (i + 1) ∧ s1.heap.get? it = some o ∧ (o.cls = .type "list_iterator" ∧ ∃ vs, o.data = .fields vs)) E s := by
  obtain ⟨its, rv, pl, -⟩ := I.list sq
  obtain ⟨u, eu, ru⟩ := rv.get ex
  refine wpAny_pyNext_list_item m pl.isList (x := u) (by simpa using eu) fun h' m' sb => ?_
  obtain ⟨o, eo, co, d⟩ := id m'
  exact ⟨u, o, rfl, ru, I.turned (t' := s.toks) (fun b z nb e => (sb.2 b nb).trans e) f.1 f.2.1 f.2.2.2.1 f.2.2.2.2.1 f.2.2.2.2.2, m', eo, co, _, d⟩
theorem end_hot {x1 c : Addr} (hot : HotA X.A x1 c s.heap) (n1 : x1 ≠ it) (n2 : c ≠ it) (I : L2.Inv X pins σ H s) (f : FpOk X pins H it) (m : s.heap.IsListIter it src i) (sq : SqL X.K H src xs) (past : xs.length ≤ i) :
    wpAny (model X.prog X.w) X.A (pyNext (.ref it)) (fun r s1 => r = none ∧ L2.Inv X pins σ H s1) E s := by
  obtain ⟨its, rv, pl, -⟩ := I.list sq
  have len := rv.length
  refine list_end_hot hot m pl.isList (by rw [List.size_toArray, ← len]; exact past) n1 n2 fun h' k => ⟨rfl, ?_⟩
  exact I.turned (t' := s.toks) k f.1 f.2.1 f.2.2.2.1 f.2.2.2.2.1 f.2.2.2.2.2
end
section
variable {X : Cx} {pins : List (Addr × Obj)} {σ : L2.St} {H3 : Hp} {s3 : Shared} {elt tg l : Expr} {ifs : List Expr} {scope : Scope} {vs : List Nat} {pos : Pos} {g : TG} {tt : TT} {te : TE} {ce : Env} {it src D : Addr}
/-- the block at the head of a turn: i items are read -/
structure Head (X : Cx) (s3 : Shared) (H3 : Hp) (scope : Scope) (ce : Env) (it src : Addr) (τ : L2.St) (W : Nat → Nat → Hp → Prop) (n : Nat) (s : Shared) : Prop where
  h : ∃ i H, L2.Inv (X.blk s3 H3 scope ce [it]) [] τ H s ∧ s.heap.IsListIter it src i ∧ H it = none ∧ W i n H
theorem here_hot {pn : List (Addr × Obj)} {τ : L2.St} {H : Hp} {s : Shared} (I : L2.Inv (X.blk s3 H3 scope ce [it]) pn τ H s) (no : H it = none) : FpOk (X.blk s3 H3 scope ce [it]) [] H it :=
  have x := I.ok.exf it List.mem_cons_self
  ⟨no, x.1, I.ok.exfs it List.mem_cons_self, .inl List.mem_cons_self, x.2, fun p hp => by simp at hp⟩
theorem loop_hot (hc : HotD X) {W : Nat → Nat → Hp → Prop} {Q : VK} (Io : L2.Inv X pins σ H3 s3) (fo : FpOk X pins H3 it) (locs : ce.locals = s3.heap.objs.size)
    (turn : ∀ i n H, W i n H → ((∃ xs, SqL X.K H src xs ∧ xs.length ≤ i) ∧ Q (.ref D) H) ∨ ((∃ xs x, SqL X.K H src xs ∧ xs[i]? = some x) ∧ ∃ Nx : Hp → Prop, (∀ H', Nx H' → ∃ n', n' < n ∧ W (i + 1) n' H') ∧ ∀ x H', (H' = H ∧ ∀ xs, SqL X.K H src xs → xs[i]? = some x) → g x (wipe σ vs) H' fun σ2 H2 => wipe σ2 vs = wipe σ vs ∧ tt σ2 H2 fun b H4 =>
      if b = true then te σ2 H4 fun y H5 => ∃ acc, H5 D = some (.lst acc) ∧ acc.length < sizeLine ∧ Nx (upd H5 D (.lst (acc ++ [y]))) else Nx H4))
    (pg : PG (X.blk s3 H3 scope ce [it]) tg g) (pt : PTs (X.blk s3 H3 scope ce [it]) ifs tt) (pe : PE (X.blk s3 H3 scope ce [it]) elt te) {n : Nat} {s : Shared} (start : Head X s3 H3 scope ce it src (wipe σ vs) W n s) :
    codeAny (model X.prog X.w) X.A (.compLoop (.ListComp elt [⟨tg, l, ifs, 0⟩] scope pos) 0 (.ref it) (.ref D) ce) (compPost (model X.prog X.w) X.A X.xe none (EP X pins σ Q) (.ref D) s3.heap.objs.size) s := by
  refine compLoop_any (Head X s3 H3 scope ce it src (wipe σ vs) W) ?_ n start
  clear start n s
  rintro n s ⟨i, H, I, mi, no, wi⟩
  have back : ∀ {pn : List (Addr × Obj)} {τ : L2.St} {H' : Hp} {s' : Shared}, L2.Inv (X.blk s3 H3 scope ce [it]) pn τ H' s' → L2.Inv X pins σ H' s' := fun J =>
    Io.call' (ch := [it]) J.os J.base J.hok J.bare fun b hb => by
      cases List.mem_singleton.mp hb
      exact ⟨fo.2.2.2.1, fo.2.1, fo.2.2.2.2.1, fo.2.2.2.2.2⟩
  rcases turn i n H wi with ⟨⟨xs, sq, past⟩, q⟩ | ⟨⟨xs, x, sq, ex⟩, Nx, nxt, step⟩
  · obtain ⟨p1, p2, hot, m1, m2⟩ := hc
    have far : ∀ r ∈ X.pn, r.1 ≠ it := fun r hr => fo.2.2.2.2.2 r (List.mem_append_left _ hr)
    refine thnF (end_hot (X := X.blk s3 H3 scope ce [it]) (E := fun _ _ => False) (hot.at m1 m2 (back I)) (far p1 m1) (far p2 m2) I (here_hot I no) mi sq past) ?_
    rintro _ s' ⟨rfl, J⟩
    obtain ⟨m, ns, -⟩ := J.loc
    have free : H ce.locals = none := J.free
    rw [locs] at free
    obtain ⟨f0, f1, -, f3, f4, f5⟩ := Io.fpOk (Nat.le_refl _) free
    exact ⟨m, locs ▸ ns, fun h' sb => ⟨.ref D, H, (back J).turned (t' := s'.toks) (fun b o nb e => (sb.2 b nb).trans e) f0 f1 f3 f4 f5, rfl, q⟩⟩
  · refine thnF (item_hot (X := X.blk s3 H3 scope ce [it]) (E := fun _ _ => False) I (here_hot I no) mi sq ex) ?_
    rintro _ s4 ⟨u, o, rfl, ru, I4, m4, eo, co, ws, d⟩
    refine go_of eo co d (by decide) ?_
    have same : ∀ ys, SqL X.K H src ys → ys[i]? = some x := fun ys sy => by rw [I4.list_inj sy sq]; exact ex
    have I5 := I4.pinned (fp := [it]) (fun b hb => by cases List.mem_singleton.mp hb; exact here_hot I4 no) fun b hb => by
      cases List.mem_singleton.mp hb
      exact ⟨o, eo, fun v z => by rw [d] at z; cases z⟩
    have pin : (it, o) ∈ pinsAt [it] s4.heap := mem_pinsAt List.mem_cons_self eo
    have close : ∀ {τ : L2.St} {H' : Hp} {s' : Shared}, wipe τ vs = wipe σ vs → L2.Inv (X.blk s3 H3 scope ce [it]) ([] ++ pinsAt [it] s4.heap) τ H' s' → Nx H' → ∃ n', n' < n ∧ Head X s3 H3 scope ce it src (wipe σ vs) W n' s' := fun {τ H' s'} ew J nx => by
      obtain ⟨n', lt, w'⟩ := nxt H' nx
      have z := J.pin (it, o) (List.mem_append_right _ pin)
      refine ⟨n', lt, i + 1, H', J.unpinned.weak (by rw [← ew, wipe_length]) fun j v e => (wipe_some (ew ▸ e)).1, m4.at fun o' e' => ?_, z.2.1, w'⟩
      cases eo.symm.trans e'
      exact z.1
    refine thnF (pg.run _ s4 _ H x u _ I5 ru (step x H ⟨rfl, same⟩)) ?_
    rintro _ s5 ⟨σ5, H5, I6, ew, q5⟩
    refine thnF (pt.run _ s5 σ5 H5 _ I6 q5) ?_
    rintro b s6 ⟨H6, I7, q6⟩
    cases b with
    | false =>
      rw [if_neg Bool.false_ne_true] at q6 ⊢
      exact close ew I7 q6
    | true =>
      rw [if_pos rfl] at q6 ⊢
      refine thnF (pe.run _ s6 σ5 H6 _ I7 q6) ?_
      rintro z s7 ⟨y, H7, I8, ry, acc, eD, hz, nx⟩
      exact app_ok (X := X.blk s3 H3 scope ce [it]) I8 eD hz ry fun s8 I9 => close ew I9 nx
end
theorem lc_hot {X : Cx} {elt tg l : Expr} {ifs : List Expr} {scope : Scope} {own : List (Str × Nat)} {pos : Pos} {tl te : TE} {g : TG} {tt : TT} (hc : HotD X) (nd : X.N.Nodup) (hl : PE X l tl) (ok : BlkOk X.N X.env.scope scope own)
    (parts : ∀ (s : Shared) (H : Hp) (C : Addr) (cl : List (Str × Addr)) (fp : List Addr), PG (X.blk s H scope (compEnvC scope cl C X.env) fp) tg g ∧ PTs (X.blk s H scope (compEnvC scope cl C X.env) fp) ifs tt ∧ PE (X.blk s H scope (compEnvC scope cl C X.env) fp) elt te)
    (hs : ∀ x, foldedSetIterable l X.env x = pure x) : PE X (.ListComp elt [⟨tg, l, ifs, 0⟩] scope pos) (tLc (iList X.K tl) g tt te (own.map (·.2))) := by
  refine ⟨fun pins s σ H Q I h => ?_⟩
  rw [eval_ListComp]
  have caps : ∀ y ∈ scope.names, y.2 = .free → ∃ c, X.env.cells.lookup y.1 = some c := fun y m f => I.ok.has _ (ok.free y m f)
  refine wpAny_comprehension_free rfl hs (closure_ok caps) ok.kind (fun y m f => (ok.uniq y m).trans (congrArg some f)) (thn (hl.run pins s σ H _ I h) ?_)
  rintro _ s1 ⟨_, H1, I1, r1, src, rfl, ⟨xs, sq⟩, q⟩
  cases r1
  obtain ⟨its, rv, pl, -⟩ := I1.list sq
  refine wpAny_pyIter_list pl.isList (wpAny_newObj_type (newEnv_comp ?_) (Nat.zero_le _))
  -- the iterator, behind it the list that is made
  generalize eit : s1.heap.objs.size = it
  generalize ih : s1.heap.push { cls := .type "list_iterator", data := .fields #[.ref src, .int 0 0] } = h2
  have up2 : Stood s1.heap h2 := fun b o e => by rw [← ih]; exact Heap.get?_push_of_some _ e
  have I2 : L2.Inv X pins σ H1 { s1 with heap := h2 } := I1.kept (t' := s1.toks) up2
  have sz2 : it < h2.objs.size := by rw [← ih, Heap.size_push, eit]; exact Nat.lt_succ_self _
  have m2 : h2.IsListIter it src 0 := by rw [← ih, ← eit]; exact ⟨_, Heap.get?_push_size _ rfl, rfl, rfl⟩
  have f2 : FpOk X pins H1 it := I1.fpOk (Nat.le_of_eq eit) (I1.hok.fresh (Nat.le_of_eq eit))
  generalize eD : h2.objs.size = D at sz2
  have freeD : H1 D = none := I2.hok.fresh (Nat.le_of_eq eD)
  obtain ⟨W, ⟨m, w0⟩, turn⟩ := q D freeD
  generalize lh : h2.push { cls := .type "list", data := .seq ([] : List Value).toArray } = h3
  have I3 : L2.Inv X pins σ (upd H1 D (.lst [])) { s1 with heap := h3 } := by
    refine I2.laid (t' := s1.toks) (fun b o e => by rw [← lh]; exact Heap.get?_push_of_some _ e) (Nat.le_of_eq eD) ⟨Nat.zero_le _, [], 0, .nil, ?_⟩
    rw [← lh, ← eD]
    exact Heap.get?_push_size _ rfl
  have f3 : FpOk X pins (upd H1 D (.lst [])) it := ⟨by rw [upd_ne (Nat.ne_of_lt sz2)]; exact f2.1, f2.2⟩
  have sz3 : it < h3.objs.size := by rw [← lh, Heap.size_push, eD]; exact Nat.lt_succ_of_lt sz2
  have m4 : ∀ ob nm, (pushCells (h3.push ob) nm).IsListIter it src 0 := fun ob nm => m2.at fun o e => pushCells_keeps _ _ _ _ (Heap.get?_push_of_some _ (by rw [← lh]; exact Heap.get?_push_of_some _ e))
  have I4 := block_start (fp := [it]) I3 ok nd fun b hb => by
    cases List.mem_singleton.mp hb
    exact ⟨f3, sz3⟩
  have loop := loop_hot (X := X) (pins := pins) (σ := σ) (H3 := upd H1 D (.lst [])) (s3 := { s1 with heap := h3 }) (scope := scope) (vs := List.map (fun p : Str × Nat => p.2) own) (it := it) (src := src) (D := D) (pos := pos) (l := l) (g := g) (tt := tt) (te := te) hc (W := W) (Q := Q) I3 f3 rfl turn (parts _ _ _ _ _).1 (parts _ _ _ _ _).2.1 (parts _ _ _ _ _).2.2
    ⟨0, _, I4, ?_, f3.1, w0⟩
  · exact codeAny_compStart_list loop (wpAny_pyIter_listiter (m4 _ _) loop)
  · exact m4 _ _
theorem cr_sum_hot {X : Cx} (hc : HotD X) : CallR X (.builtin "sum") (rSum X.K) := by
  rintro pins s σ H vs us Q I r ⟨a, ns, rfl, sq, q⟩
  obtain ⟨p1, p2, hot, m1, m2⟩ := hc
  have hot := hot.at m1 m2 I
  obtain ⟨its, rv, pl, -⟩ := I.list sq
  obtain ⟨xs, ex⟩ := rv.ints.allInts.items
  have tot : ns = (numsOf (intItems xs).toList) := by rw [← ex]; exact rv.ints.numsOf.symm
  have pl' := pl.isList
  rw [ex] at pl'
  rw [Vals.ref1 r]
  refine sum_hot hot pl' fun h' tk t' st => ⟨.int _, H, I.kept st, ⟨t', ?_⟩, q⟩
  rw [tot, nums_intItems, preSum_eq, List.take_of_length_le (by simp)]
/-! ### isinstance of an exception that is pinned -/
theorem is_hot {X : Cx} {a D : Addr} {oe : Obj} (C : ExcC X.K D) (hz : Zc (.ref D) none oe) (hf : ∃ vs, oe.data = .fields vs) (hp : (a, oe) ∈ X.pn) : CallR X (.builtin "isinstance") (rIsE X.K D a) := by
  rintro pins s σ H _ us Q I r ⟨c, cv, b, rfl, only, e, q⟩
  rcases r with _ | ⟨r1, r⟩
  rcases r with _ | ⟨r2, r⟩
  rcases r with _ | _
  cases r1
  rw [only _ r2]
  obtain ⟨c1, d1, dt, sl⟩ := oe
  obtain ⟨rfl, rfl⟩ : c1 = .ref D ∧ d1 = none := hz
  obtain ⟨ws, rfl⟩ : ∃ ws, dt = .fields ws := hf
  have inst : PySem.W.InstAt s.heap a ⟨.ref D, none, .fields ws, sl⟩ D none := ⟨(I.pin _ (List.mem_append_left _ hp)).1, rfl, rfl, trivial⟩
  have kit := PySem.W.handS_kitx_exc (x := a) (ox := ⟨.ref D, none, .fields ws, sl⟩) C.hg C.hk C.hs C.hd C.ha C.hn C.ht C.hm
  exact PySem.W.kia_one kit I.kIn inst e (fun z => nomatch z) fun tk => ⟨.bl b, H, I.kept (t' := tk) (fun _ _ z => z), rfl, q⟩
/-! ### own defs called there -/
/-- no exception comes out -/
abbrev noE : XK := fun _ _ _ => False
abbrev noX' : Value → Shared → Prop := fun _ _ => False
def CN : CXT := fun _ _ _ _ _ _ => False
/-- what a def promises where p's exception is handled -/
structure FhOk (P : Program) (w : World) (K : PySem.W.Frag) (mg : Str → Option Value) (base : Heap) (k : Nat) (f : Addr) (fd : FuncData) (ps : List Str) (sp : Addr × Obj → Sp) : Prop where
  arity : ∀ p vs H Q, sp p vs H Q noE → vs.length = ps.length
  goes : ∀ (A : Around) (l : List Env) (s : Shared) (H : Hp) (args : Args) (us : List Value) (vs : List V) (Q : VK) (p q : Addr × Obj), HotP A p q → RoomH k A → PinOk l H s p → PinOk l H s q → Env0 P w K mg base A l s H → Vals vs us → BindsTo s fd args (ps.zip us) → sp p vs H Q noE →
    codeAny (model P w) A (.call (.ref f) args) (CR CN l P w H s Q noE) s
theorem fh_of {P : Program} {w : World} {K : PySem.W.Frag} {mg : Str → Option Value} {base : Heap} {k : Nat} {f : Addr} {x qual : Str} {params : Arguments} {body : List Stmt} {sc : Scope} {dV kV doc pm cd ct oc : Value} {an od : Option Addr} {osl : Array (Option Value)} {N ps : List Str} {sp : Addr × Obj → Sp}
    (lk : K.lookup f = some ⟨oc, od, .func (PySem.W.fnOf x qual params body sc dV kV doc pm an cd ct), osl⟩) (hcd : PySem.W.codeIn K cd qual = true) (S : FnScope N ps sc) (arity : ∀ p vs H Q, sp p vs H Q noE → vs.length = ps.length)
    (runs : ∀ (A : Around) (l : List Env) (s : Shared) (H : Hp) (vs : List V) (Q : VK) (p q : Addr × Obj), HotP A p q → RoomH k (A.deeper (envOfC qual sc s.heap.objs.size f cd)) → sp p vs H Q noE →
      ∃ t, PSs ((cxH CN P w K mg base N qual sc f cd A l s H noE p).tr [p, q] noX') body t ∧ t { nx := fun _ H' => Q .non H', rt := Q } (L2.start N vs) H) :
    FhOk P w K mg base (k + 1) f (PySem.W.fnOf x qual params body sc dV kV doc pm an cd ct) ps sp := by
  refine ⟨arity, ?_⟩
  intro A l s H args us vs Q p q hot room pin pin2 e0 rv bt h
  have stays : Stood base s.heap := fun b o e => (e0.bs b o e).1
  have KIn := e0.mod.kin.keeps stays
  obtain ⟨t, ht, qt⟩ := runs A l s H vs Q p q hot (room.deeper _) h
  have ways : ∀ y ∈ ps.zip us, sc.names.lookup y.1 = some .local ∨ sc.names.lookup y.1 = some .cell ∧ ((cellsFrom (s.heap.objs.size + 1) sc.names []).lookup y.1).isSome = true := by
    rintro ⟨y, u⟩ m
    refine (S.par y (List.of_mem_zip m).1).imp id fun c => ⟨c, PySem.W.cellsFrom_some _ _ _ (.inl c)⟩
  refine codeAny_call_function room.depth (KIn _ _ lk) rfl S.co S.gen rfl (PySem.W.codeRec_of KIn hcd) (bt _ _ _ _ (wpAny_newFunctionEnv_cells S.kind ways ?_))
  rintro _ rfl s1 made
  have I : L2.Inv (cxH CN P w K mg base N qual sc f cd A l s H noE p) [] (L2.start N vs) H s1 := inv_startH S pin e0 (arity p vs H Q h) rv made
  have I2 : L2.Inv (cxH CN P w K mg base N qual sc f cd A l s H noE p) [q] (L2.start N vs) H s1 := I.pins_of fun r hr => by
    cases List.mem_singleton.mp hr
    exact ⟨made.toInCall.keep _ _ pin2.get, pin2.free, Nat.ne_of_lt (Heap.lt_size pin2.get), pin2.nofs, pin2.nocell⟩
  have I3 := I2.toTry noX'
  refine ⟨(e0.mod.nolimit.keeps stays).keeps made.toInCall.keep, codeAny_func (wpAny_mono (ht.run [] s1 _ H _ I3 qt) ?_ fun _ _ z => z.elim)⟩
  have out : ∀ {τ : L2.St} {H' : Hp} {v : V} {u : Value} {s' : Shared}, L2.Inv ((cxH CN P w K mg base N qual sc f cd A l s H noE p).tr [p, q] noX') [] τ H' s' → RelV v u → Q v H' → CE l P w H s Q u s' := fun J r z => ⟨_, _, J.os, J.bare, J.base, J.hok, r, z⟩
  rintro (_ | _ | _ | u) s' z
  · obtain ⟨τ, H', J, z⟩ := z
    exact out (v := .non) (u := .none) J rfl z
  · exact z.choose_spec.choose_spec.2.elim
  · exact z.choose_spec.choose_spec.2.elim
  · obtain ⟨v, τ, H', J, r, z⟩ := z
    exact out J r z
section
variable {X : Cx} {k : Nat} {f : Addr} {fd : FuncData} {ps : List Str} {sp : Addr × Obj → Sp}
theorem run_fh {pins : List (Addr × Obj)} {σ : L2.St} {H : Hp} {s : Shared} {Q : VK} {us : List Value} {vs : List V} {p q : Addr × Obj} (F : FhOk X.prog X.w X.K X.mg X.base k f fd ps sp) (room : RoomH k X.A) (hot : HotP X.A p q) (hp : p ∈ X.pn) (hq : q ∈ X.pn) (hb : Binds X.K fd ps []) (I : L2.Inv X pins σ H s) (r : Vals vs us) (h : sp p vs H Q noE) :
    wpAny (model X.prog X.w) X.A (call (.ref f) us) (EP X pins σ Q) X.xe s := by
  have pin : ∀ r ∈ X.pn, PinOk X.stack H s r := fun r hr => by
    obtain ⟨g, free, nl, nf, nc⟩ := I.pin r (List.mem_append_left _ hr)
    exact ⟨g, free, fun m => (List.mem_cons.mp (I.stkSub r.1 m)).elim nl nf, nc⟩
  have b := hb s us I.kIn (by rw [List.append_nil, ← r.length]; exact F.arity p vs H Q h)
  rw [List.append_nil] at b
  refine wpAny_call (codeAny_mono (F.goes X.A X.stack s H ⟨us, []⟩ us vs Q p q hot room (pin p hp) (pin q hq) I.env0 r b h) ?_)
  rintro (e | (_ | _ | _ | u)) s' z
  · exact (show False from z).elim
  · exact z.elim
  · exact z.elim
  · exact z.elim
  · exact I.after z
end
end Rh

namespace Rh
open PySem PySem.Spec PyProof.Rows L2 HotX L2H

/-! ## 0b. Exceptions whose context is None, or another one whose context is None -/
def ctxV : Option Addr → Value
  | none => .none
  | some c => .ref c
/-- class, dict and context of an exception's object -/
def Zr (C : Addr) (d k : Option Addr) : Obj → Prop := fun o => o.cls = .ref C ∧ o.dict = d ∧ ∀ vs : Array Value, o.data = .fields vs → vs[2]? = some (ctxV k)
theorem ctx_steady {x : Value} : PXN.Steady1 fun o => ∀ vs : Array Value, o.data = .fields vs → vs[2]? = some x := by
  rintro ⟨c, d, dt, sl⟩ v h vs e
  cases dt with
  | fields us =>
    have e2 : us.setIfInBounds 1 v = vs := Data.fields.inj e
    rw [← e2, Array.getElem?_setIfInBounds_ne (by decide)]
    exact h us rfl
  | _ => first | exact Data.noConfusion e | cases e
theorem Zr.steady {C : Addr} {d k : Option Addr} : PXN.Steady1 (Zr C d k) := fun o v h => ⟨PXN.steady_cls o v h.1, PXN.steady_dict o v h.2.1, ctx_steady o v h.2.2⟩
theorem Zr.zn {C : Addr} {d : Option Addr} {o : Obj} (h : Zr C d none o) : L2N.Zn (.ref C) d o := h
/-- the context's object in the ground -/
def Behind (B : Heap) (H : Hp) : Option Addr → Prop
  | none => True
  | some c => H c = none ∧ ∃ (oc : Obj) (vc : Array Value), B.get? c = some oc ∧ oc.data = .fields vc ∧ vc[2]? = some .none
/-- how a wish names an exception: with a context by a number -/
def tag : Option Addr → Addr → Value
  | none, C => .ref C
  | some _, C => .int (C : Int) 0
structure Fly (X : Cx) (a : Addr) (B : Heap) (sI : Shared) (pins : List (Addr × Obj)) (σ : L2.St) (H : Hp) (C : Addr) (d k : Option Addr) (s' : Shared) : Prop where
  inv : L2.Inv X pins σ H sI
  nb : ∀ b o, sI.heap.get? b = some o → b ∉ frs X.stack → B.get? b = some o
  up : sI.heap.UpToSlots s'.heap
  sky : Sky B X.stack a (Zr C d k) X.env.locals s'.heap
  na : H a = none
  os : s'.os = sI.os
  ag : AllBare s'.gens
  bk : Behind B H k
def XR (X : Cx) (W : WX) (u : Value) (s' : Shared) : Prop := ∃ a B sI pins σ H C d k, u = .ref a ∧ Fly X a B sI pins σ H C d k s' ∧ W (tag k C) d σ H
def TakesR (X : Cx) (W : WX) : Prop := ∀ u s', XR X W u s' → X.xe u s'
theorem TakesR.imp {X : Cx} {W W' : WX} (t : TakesR X W) (h : ∀ c d σ H, W' c d σ H → W c d σ H) : TakesR X W' := by
  rintro u s' ⟨a, B, sI, pins, σ, H, C, d, k, e, f, w⟩
  exact t u s' ⟨a, B, sI, pins, σ, H, C, d, k, e, f, h _ _ _ _ w⟩
/-- the first kind alone -/
theorem TakesR.n {X : Cx} {W : WX} (t : TakesR X W) : L2N.Takes X fun cls d σ H => ∃ C, cls = .ref C ∧ W (.ref C) d σ H := by
  rintro u s' ⟨a, B, sI, pins, σ, H, cls, d, e, I, nb, up, sky, na, os, ag, C, rfl, w⟩
  exact t u s' ⟨a, B, sI, pins, σ, H, C, d, none, e, ⟨I, nb, up, sky, na, os, ag, trivial⟩, w⟩
/-- behind a call that let one out -/
def CXR (P : Program) (w : World) (outer : List Env) (H : Hp) (s : Shared) (E : XK) (u : Value) (s' : Shared) : Prop :=
  ∃ (a : Addr) (B : Heap) (H' : Hp) (C : Addr) (d k : Option Addr), u = .ref a ∧ HandSPX.FlyingZ B outer a (Zr C d k) s'.heap ∧ HOk P w H' B ∧ UB (frs outer) H H' s.heap B s'.heap ∧ H' a = none ∧ s'.os = s.os ∧ AllBare s'.gens ∧ Behind B H' k ∧ E (tag k C) d H'
section
variable {X : Cx} {pins : List (Addr × Obj)} {σ : L2.St} {H : Hp} {sI s s' : Shared} {W : WX} {E : XK}
theorem XR.of_call (I : L2.Inv X pins σ H s) (hW : ∀ c d H', E c d H' → W c d σ H') {u : Value} (x : CXR X.prog X.w X.stack H s E u s') : XR X W u s' := by
  obtain ⟨a, B, H', C, d, k, rfl, fl, held, ub, na, os, ag, bk, hE⟩ := x
  obtain ⟨D, inD, outD⟩ := restrict s'.heap fun b => (B.get? b).isSome || decide (b ∈ frs X.stack)
  have ground : ∀ b o, B.get? b = some o → D.get? b = some o := fun b o e => (inD b (by simp [e])).trans (fl.1 b o e)
  have frame : ∀ b, b ∈ frs X.stack → D.get? b = s'.heap.get? b := fun b m => inD b (by simp [m])
  have only : ∀ b o, D.get? b = some o → s'.heap.get? b = some o ∧ ((B.get? b).isSome = true ∨ b ∈ frs X.stack) := by
    intro b o e
    cases y : ((B.get? b).isSome || decide (b ∈ frs X.stack)) with
    | true => exact ⟨(inD b y).symm.trans e, by simpa [Bool.or_eq_true] using y⟩
    | false => rw [outD b y] at e; cases e
  have J : L2.Inv X pins σ H' { s with heap := D, gens := s'.gens, drawn := s'.drawn, toks := s'.toks } := by
    refine I.call (ch := []) ⟨fun b o e n m _ => ground b o (ub.keep b o e n m), ?_, fun b o e n _ => ub.free b o e n, ?_, ub.tups, ub.frzs, ub.tbls⟩ (held.kept ground) ag (fun _ z => nomatch z)
    · intro b o e n m _
      rw [frame b m]
      exact ub.slot b o e m
    · intro b o e _
      by_cases m : b ∈ frs X.stack
      · obtain ⟨sl, y⟩ := ub.slot b o e m
        exact ⟨_, (frame b m).trans y⟩
      · obtain ⟨o2, y⟩ := ub.there b o e m
        exact ⟨o2, ground b o2 y⟩
  refine ⟨a, B, _, pins, σ, H', C, d, k, rfl, ⟨J, ?_, Heap.UpToSlots.of_keeps fun b o e => (only b o e).1, .inr (.inl fl), na, os, ag, bk⟩, hW _ _ _ hE⟩
  intro b o e m
  obtain ⟨e2, y | y⟩ := only b o e
  · obtain ⟨o2, y⟩ := Option.isSome_iff_exists.mp y
    have := fl.1 b o2 y
    rw [e2] at this
    cases this
    exact y
  · exact absurd y m
theorem passR (tk : TakesR X W) (σ : L2.St) : PassesAt (CXR X.prog X.w) X σ fun c d H => W c d σ H := fun _ _ _ u s' I x => tk u s' (XR.of_call I (fun _ _ _ h => h) x)
theorem XR.new {a : Addr} {oe : Obj} {vs : Array Value} {C : Addr} {d k : Option Addr} (I : L2.Inv X pins σ H sI) (keep : ∀ b o, sI.heap.get? b = some o → s'.heap.get? b = some o) (far : sI.heap.get? a = none) (he : s'.heap.get? a = some oe)
    (hz : Zr C d k oe) (hd : oe.data = .fields vs) (h1 : vs[1]? = some .none) (na : H a = none) (os : s'.os = sI.os) (ag : AllBare s'.gens) (bk : Behind (PySem.W.hideAll sI.heap (frs X.stack)) H k) (w : W (tag k C) d σ H) : XR X W (.ref a) s' := by
  refine ⟨a, PySem.W.hideAll sI.heap (frs X.stack), sI, pins, σ, H, C, d, k, rfl, ⟨I, fun b o e m => PySem.W.hideAll_get _ e m, Heap.UpToSlots.of_keeps keep, .inl ⟨fun b o e => keep b o (PySem.W.of_hideAll _ e), ?_, ?_, oe, vs, he, hz, hd, h1⟩, na, os, ag, bk⟩, w⟩
  · cases y : (PySem.W.hideAll sI.heap (frs X.stack)).get? a with
    | none => rfl
    | some o => exact absurd (far.symm.trans (PySem.W.of_hideAll _ y)) (by simp)
  · exact (funFrames_none I.stack fun b m => PySem.W.hideAll_none _ m).of_keeps fun b o e _ => ⟨o, keep b o e, rfl⟩
theorem XR.leave (hs : X.stack = X.env :: X.outer) (hf : X.env.frame = some X.env.locals) (hex : X.ex = []) {E₁ : Value → Shared → Prop} (hW : ∀ c d σ H, W c d σ H → E c d H) {u : Value} (x : XR X W u s') :
    wpAny (model X.prog X.w) X.A (leaving X.env u) (fun _ s2 => CXR X.prog X.w X.outer X.H_0 X.s_0 E u s2) E₁ s' := by
  obtain ⟨a, B, sI, pins, σ, H, C, d, k, rfl, ⟨I, nb, up, sky, na, os, ag, bk⟩, w⟩ := x
  have frames : X.A.frames = some (X.env :: X.outer) := hs ▸ I.ok.frames
  have none_ : ∀ b, b ∉ X.ex := fun b m => by rw [hex] at m; cases m
  have out : ∀ b o, X.s_0.heap.get? b = some o → b ∉ X.fs → b ∉ frs X.stack := by
    intro b o e n m
    rcases List.mem_cons.mp (I.stkSub b m) with rfl | y
    · exact absurd (Heap.lt_size e) (Nat.not_lt_of_le I.ok.above)
    · exact n y
  have fin : ∀ h2, HandSPX.FlyingZ B X.outer a (Zr C d k) h2 → s'.heap.UpToSlots h2 → CXR X.prog X.w X.outer X.H_0 X.s_0 E (.ref a) { s' with heap := h2 } := by
    intro h2 fl up2
    refine ⟨a, B, H, C, d, k, rfl, fl, I.inGround nb, ⟨fun b o e n m => nb b o (I.base.keep b o e n m (none_ b)) (out b o e m), ?_, fun b o e n => I.base.free b o e n (none_ b), ?_, I.base.tups, I.base.frzs, I.base.tbls⟩, na, os.trans I.os, ag, bk, hW _ _ _ _ w⟩
    · intro b o e m
      obtain ⟨_, o2, e2, rec_⟩ := I.ok.funs.mem m
      cases e.symm.trans e2
      obtain ⟨_, y1⟩ := I.base.slot b o e (I.ok.frf b m) m (none_ b)
      obtain ⟨_, y2⟩ := up b _ y1 rec_
      obtain ⟨sl, y3⟩ := up2 b _ y2 rec_
      exact ⟨sl, y3⟩
    · intro b o e m
      obtain ⟨o2, y⟩ := I.base.there b o e (none_ b)
      exact ⟨o2, nb b o2 y (out b o e m)⟩
  rw [hs] at sky
  rcases sky with ⟨st, n, fr, oe, vs, he, hz, hd, h1⟩ | fl | held
  · exact PXN.leaving_firstZ Zr.steady frames fr hf he st n hd h1 hz fin
  · exact PXN.leaves_onZ Zr.steady frames hf fl fin
  · exact HandSPX.leaves_heldZ hf held fin
theorem takesR_of (hs : X.stack = X.env :: X.outer) (hf : X.env.frame = some X.env.locals) (hex : X.ex = []) {E₁ : Value → Shared → Prop}
    (hx : X.xe = fun e s2 => wpAny (model X.prog X.w) X.A (leaving X.env e) (fun _ s3 => CXR X.prog X.w X.outer X.H_0 X.s_0 E e s3) E₁ s2) : TakesR X fun c d _ H => E c d H := by
  intro u s2 x
  rw [hx]
  exact x.leave (W := fun c d _ H => E c d H) hs hf hex fun _ _ _ _ h => h
end
/-! ### raise in a suite -/
theorem ps_raise_in {X : Cx} {W : WX} {e : Expr} {t : L2.St → Hp → XK → Prop} {pos : Pos} {p : Addr × Obj} (hot : Hot1 X.A p) (hp : p ∈ X.pn) (tk : TakesR X W) (he : L2N.PMk X e t) :
    PS X (.Raise (some e) none pos) (fun _ σ H => t σ H fun cls d H' => ∃ C, cls = .ref C ∧ W (.int (C : Int) 0) d σ H') := by
  refine ⟨fun pins s σ H D I h => ?_⟩
  obtain ⟨hh, v1, e1, c1⟩ := hot
  show wpAny _ _ (do standAt pos; raiseStmt X.env (some (do let v ← eval e X.env; standAt pos; pure v)) none) _ _ _
  have mk := he pins s σ H _ I h
  refine wpAny_bind (wpAny_standAt (raise_made_hot (x1 := p.1) (wpAny_bind (wpAny_mono mk (fun u s1 made => wpAny_bind (wpAny_standAt (wpAny_pure ?_))) fun _ _ x => x))))
  obtain ⟨a, oe, vs, sI, H', cls, d, rfl, J, keep, far, ha, hz, hd, h1, na, os, ag, r, C, rfl, q⟩ := made
  obtain ⟨r1, r2⟩ := r (model X.prog X.w) s1.heap (J.kIn.keeps keep)
  obtain ⟨pin, pfree, pl, pf, -⟩ := J.pin p (List.mem_append_left _ hp)
  have ne : p.1 ≠ a := fun z => by rw [z, far] at pin; cases pin
  have two : 2 < vs.size := (Array.getElem?_eq_some_iff.mp (hz.2.2 vs hd)).1
  have nfr : p.1 ∉ frs X.stack := fun m => (List.mem_cons.mp (J.stkSub p.1 m)).elim pl pf
  have gone : ∀ b o, sI.heap.get? b = some o → a ≠ b := fun b o z y => by rw [← y, far] at z; cases z
  refine ⟨a, oe, vs, .ref C, rfl, ha, hz.1, hd, h1, two, ne, ⟨hh, p.2, v1, keep _ _ pin, e1, c1⟩, r1, r2, tk _ _ (XR.new (k := some p.1) J (fun b o z => ?_) far (Heap.get?_update_self _ ha (Obj.isFreed_of_fields (Obj.data_mapFields hd _))) ⟨(Obj.cls_mapFields ..).trans hz.1, (HandSPX.dict_mapFields ..).trans hz.2.1, ?_⟩ (Obj.data_mapFields hd _) ?_ na os ag ⟨pfree, p.2, v1, PySem.W.hideAll_get _ pin nfr, e1, c1⟩ q)⟩
  · show (s1.heap.update a (Obj.mapFields fun x => x.setIfInBounds 2 (.ref p.1))).get? b = some o
    rw [Heap.get?_update_other _ _ (gone b o z)]
    exact keep b o z
  · intro us e
    have : us = vs.setIfInBounds 2 (.ref p.1) := by
      have := Obj.data_mapFields hd fun x => x.setIfInBounds 2 (.ref p.1)
      rw [this] at e
      exact (Data.fields.inj e).symm
    rw [this, Array.getElem?_setIfInBounds_self_of_lt two]
    rfl
  · rw [Array.getElem?_setIfInBounds_ne (by decide)]
    exact h1
/-! ### try -/
/-- a clause: what it names, the slot of its name, its suite -/
abbrev Clause := Value × Option Nat × (Addr → Addr → Option Addr → Option Addr → TS)
def wClauses (K : PySem.W.Frag) (Wout : WX) (D : Ends) : List Clause → Addr → Option Addr → Option Addr → L2.St → Hp → Prop
  | [], C, d, k, σ, H => Wout (tag k C) d σ H
  | (c, none, ts) :: r, C, d, k, σ, H => ∃ b, PySem.W.exmOne K (.ref C) c = some b ∧ (b = true → ∀ a, H a = none → ts a C d k D σ H) ∧ (b = false → wClauses K Wout D r C d k σ H)
  | (c, some i, ts) :: r, C, d, k, σ, H => ∃ b, PySem.W.exmOne K (.ref C) c = some b ∧
      (b = true → ∀ a, H a = none → ts a C d k { nx := fun σ' H' => D.nx (σ'.set i none) H', rt := D.rt, bk := fun σ' H' => D.bk (σ'.set i none) H', ct := fun σ' H' => D.ct (σ'.set i none) H' } (σ.set i (some (.ref a))) H) ∧ (b = false → wClauses K Wout D r C d k σ H)
def wBody (K : PySem.W.Frag) (Wout : WX) (D : Ends) (l : List Clause) : WX := fun v d σ H =>
  match v with
  | .ref C => wClauses K Wout D l C d none σ H
  | .int C _ => ∀ c, wClauses K Wout D l C.toNat d (some c) σ H
  | _ => False
theorem wBody_tag {K : PySem.W.Frag} {Wout : WX} {D : Ends} {l : List Clause} {C : Addr} {d k : Option Addr} {σ : L2.St} {H : Hp} (h : wBody K Wout D l (tag k C) d σ H) : wClauses K Wout D l C d k σ H := by
  cases k with
  | none => exact h
  | some c =>
    have := h c
    rwa [Int.toNat_natCast] at this
/-- what is known in a suite of the exception that is handled -/
structure Caught (X : Cx) (a C : Addr) (d k : Option Addr) (p q : Addr × Obj) (pn : List (Addr × Obj)) : Prop where
  at_ : p.1 = a
  z : Zr C d k p.2
  flds : ∃ vs, p.2.data = .fields vs
  hot : HotP (X.A.mark (some (.ref a))) p q
  hp : p ∈ pn
  hq : q ∈ pn
inductive HdsR (X : Cx) (Wout : WX) : List ExceptHandler → List Clause → Prop
  | nil : HdsR X Wout [] []
  | un {x : Str} {c : Value} {ts : Addr → Addr → Option Addr → Option Addr → TS} {b₀ : Stmt} {suite : List Stmt} {np pos' : Pos} {hds : List ExceptHandler} {l : List Clause} (hc : Names X x c)
      (hsu : ∀ (a C : Addr) (d k : Option Addr) (p q : Addr × Obj) (pn : List (Addr × Obj)), Caught X a C d k p q pn → TakesR (suiteX X a pn) Wout → PSs (suiteX X a pn) (b₀ :: suite) (ts a C d k)) (r : HdsR X Wout hds l) :
      HdsR X Wout (.ExceptHandler (some (.Name x np)) none (b₀ :: suite) pos' :: hds) ((c, none, ts) :: l)
  | as {x n : Str} {i : Nat} {c : Value} {ts : Addr → Addr → Option Addr → Option Addr → TS} {b₀ : Stmt} {suite : List Stmt} {np pos' : Pos} {hds : List ExceptHandler} {l : List Clause} (hc : Names X x c) (hi : X.N[i]? = some n) (hl : X.env.kindOf n = some .local)
      (hsu : ∀ (a C : Addr) (d k : Option Addr) (p q : Addr × Obj) (pn : List (Addr × Obj)), Caught X a C d k p q pn → PSs (X.suite a pn) (b₀ :: suite) (ts a C d k)) (r : HdsR X Wout hds l) :
      HdsR X Wout (.ExceptHandler (some (.Name x np)) (some n) (b₀ :: suite) pos' :: hds) ((c, some i, ts) :: l)
section
variable {X : Cx} {pins : List (Addr × Obj)} {σ : L2.St} {H : Hp} {s : Shared}
theorem suite_in {a : Addr} {pn : List (Addr × Obj)} (I : L2.Inv X pins σ H s) (h : ∀ r ∈ pn, s.heap.get? r.1 = some r.2 ∧ H r.1 = none ∧ r.1 ≠ X.env.locals ∧ r.1 ∉ X.fs ∧ ∀ v, r.2.data ≠ .cell v) : L2.Inv (X.suite a pn) [] σ H s :=
  ⟨I.ok.suite a pn, I.os, I.bare, I.base, I.loc, I.cell, I.free, I.freeC, fun r m => h r (by simpa using m), I.hok, I.len⟩
theorem suite_out {a : Addr} {pn pn' : List (Addr × Obj)} (I : L2.Inv (X.suite a pn) pn' σ H s) (ok : X.Ok) (sub : ∀ r ∈ X.pn ++ pins, r ∈ pn) : L2.Inv X pins σ H s :=
  ⟨ok, I.os, I.bare, I.base, I.loc, I.cell, I.free, I.freeC, fun r m => I.pin r (List.mem_append_left _ (sub r m)), I.hok, I.len⟩
end
section
variable {X : Cx} {body : List Stmt} {h₀ : ExceptHandler} {hds : List ExceptHandler} {l : List Clause} {pos : Pos} {tb : WX → TS} {Wout : WX}
theorem ps_tryR (hs : X.stack = X.env :: X.outer) (hf : X.env.frame = some X.env.locals) (hN : X.N.Nodup) (hpa : ∀ hd : Option Value, PassesOwnAt (model X.prog X.w) (X.A.mark hd) X.A X.env X.xe) (tk : TakesR X Wout)
    (hb : ∀ (W : WX) (pn : List (Addr × Obj)) (xe : Value → Shared → Prop), TakesR (X.tr pn xe) W → PassesOwn (model X.prog X.w) X.A X.env xe → (∀ hd : Option Value, PassesOwnAt (model X.prog X.w) (X.A.mark hd) X.A X.env xe) → PSs (X.tr pn xe) body (tb W))
    (hh : HdsR X Wout (h₀ :: hds) l) : PS X (.Try body (h₀ :: hds) [] [] pos) (fun D σ H => tb (wBody X.K Wout D l) D σ H) := by
  refine ⟨fun pins s σ H D I h => ?_⟩
  have ok := I.ok
  have frames : X.A.frames = some (X.env :: X.outer) := hs ▸ ok.frames
  refine wpAny_Try_except ?_
  have run := hb (wBody X.K Wout D l) (X.pn ++ pins) (fun e s₁ => wpAny (model X.prog X.w) X.A (noteFrame e X.env) (fun _ s₂ => wpAny (model X.prog X.w) X.A (setFlight e none) (fun _ s₃ => wpAny (model X.prog X.w) X.A (handleBy e X.env (h₀ :: hds)) (SP X pins D) X.xe s₃) X.xe s₂) X.xe s₁) (fun u s' xx => ?_) PassesOwn.looking fun _ => PassesOwnAt.looking
  · refine wpAny_mono (run.run [] s σ H D (I.toTry _) h) (fun f s1 z => ?_) fun _ _ z => z
    cases f with
    | next =>
      obtain ⟨τ, H', J, q⟩ := z
      exact wpAny_execs_nil ⟨τ, H', J.ofTry ok, q⟩
    | brk =>
      obtain ⟨τ, H', J, q⟩ := z
      exact ⟨τ, H', J.ofTry ok, q⟩
    | cont =>
      obtain ⟨τ, H', J, q⟩ := z
      exact ⟨τ, H', J.ofTry ok, q⟩
    | ret u =>
      obtain ⟨v, τ, H', J, r, q⟩ := z
      exact ⟨v, τ, H', J.ofTry ok, r, q⟩
  obtain ⟨a, B, sI, pins', σ', H', C, d, k, rfl, ⟨J', nb, up, sky, na, os, ag, bk⟩, w⟩ := xx
  have w := wBody_tag w
  have J : L2.Inv X pins σ' H' sI := J'.ofTry ok
  have sky : Sky B (X.env :: X.outer) a (Zr C d k) X.env.locals s'.heap := by rw [← hs]; exact sky
  show wpAny (model X.prog X.w) X.A (noteFrame (.ref a) X.env) _ _ _
  refine L2N.Sky.land Zr.steady frames hf sky fun h3 fl3 up3 => ?_
  have here : ∀ {h4 : Heap}, HandSPX.FlyingZ B (X.env :: X.outer) a (Zr C d k) h4 → s'.heap.UpToSlots h4 → ∃ (p q : Addr × Obj) (pn : List (Addr × Obj)), Caught X a C d k p q pn ∧ L2.Inv (X.suite a pn) [] σ' H' { s' with heap := h4 } ∧ h4.get? a = some p.2 ∧ ∀ r ∈ X.pn ++ pins, r ∈ pn := by
    intro h4 fl4 up4
    have J4 : L2.Inv X pins σ' H' { s' with heap := h4 } := J.landed nb fl4.1 (up.trans up4) os ag
    obtain ⟨oe, vs, he, hz, hd⟩ := fl4.there
    have apart : ∀ b, b ∉ frs (X.env :: X.outer) → b ≠ X.env.locals ∧ b ∉ X.fs := fun b m => ⟨fun z => m (List.mem_filterMap.mpr ⟨X.env, List.mem_cons_self, by rw [hf, z]⟩), fun y => m (by
      obtain ⟨e, he, q⟩ := List.mem_filterMap.mp y
      exact List.mem_filterMap.mpr ⟨e, List.mem_cons_of_mem _ he, q⟩)⟩
    have nfr : a ∉ frs (X.env :: X.outer) := fun m => by
      obtain ⟨_, o2, e2, rec_⟩ := fl4.2.2.1.mem m
      cases he.symm.trans e2
      exact rec_ _ hd
    have pinP : h4.get? a = some oe ∧ H' a = none ∧ a ≠ X.env.locals ∧ a ∉ X.fs ∧ ∀ v, oe.data ≠ .cell v := ⟨he, na, (apart a nfr).1, (apart a nfr).2, fun v z => by rw [hd] at z; cases z⟩
    have old : ∀ r ∈ X.pn ++ pins, h4.get? r.1 = some r.2 ∧ H' r.1 = none ∧ r.1 ≠ X.env.locals ∧ r.1 ∉ X.fs ∧ ∀ v, r.2.data ≠ .cell v := J4.pin
    cases k with
    | none =>
      refine ⟨(a, oe), (a, oe), (a, oe) :: (X.pn ++ pins), ⟨rfl, hz, ⟨vs, hd⟩, ⟨rfl, vs, hd, .inl ⟨hz.2.2 vs hd, rfl⟩⟩, List.mem_cons_self, List.mem_cons_self⟩, suite_in J4 fun r m => ?_, he, fun r m => List.mem_cons_of_mem _ m⟩
      rcases List.mem_cons.mp m with rfl | m
      · exact pinP
      · exact old r m
    | some c =>
      obtain ⟨cfree, oc, vc, gc, dc, zc⟩ := bk
      have ne : c ≠ a := fun z => by rw [z, fl4.2.1] at gc; cases gc
      have cfr : c ∉ frs (X.env :: X.outer) := fun m => by rw [(fl4.2.2.1.mem m).1] at gc; cases gc
      refine ⟨(a, oe), (c, oc), (a, oe) :: (c, oc) :: (X.pn ++ pins), ⟨rfl, hz, ⟨vs, hd⟩, ⟨rfl, vs, hd, .inr ⟨hz.2.2 vs hd, ne, vc, dc, zc⟩⟩, List.mem_cons_self, List.mem_cons_of_mem _ List.mem_cons_self⟩, suite_in J4 fun r m => ?_, he, fun r m => List.mem_cons_of_mem _ (List.mem_cons_of_mem _ m)⟩
      rcases List.mem_cons.mp m with rfl | m
      · exact pinP
      rcases List.mem_cons.mp m with rfl | m
      · exact ⟨fl4.1 c oc gc, cfree, (apart c cfr).1, (apart c cfr).2, fun v z => by rw [dc] at z; cases z⟩
      · exact old r m
  have go : ∀ {hs' : List ExceptHandler} {l' : List Clause}, HdsR X Wout hs' l' → wClauses X.K Wout D l' C d k σ' H' → wpAny (model X.prog X.w) X.A (handleBy (.ref a) X.env hs') (SP X pins D) X.xe { s' with heap := h3 } := by
    intro hs' l' hk
    have test_ : ∀ {x : Str} {c : Value} {np : Pos}, Names X x c → ∀ {Q : Value → Shared → Prop} {E : Value → Shared → Prop}, Q c { s' with heap := h3 } → wpAny (model X.prog X.w) (X.A.mark (some (.ref a))) (eval (.Name x np) X.env) Q E { s' with heap := h3 } := by
      intro x c np hc Q E z
      obtain ⟨_, _, pn, _, S3, _⟩ := here fl3 up3
      obtain ⟨hg, hdbg, hm | ⟨hm, hv, hnn⟩⟩ := hc
      · exact ld_glob (X := X.suite a pn) S3 hg hm z hdbg
      · exact ld_blt (X := X.suite a pn) S3 hg hm hv z hnn hdbg
    have looks : PySem.W.Looks (model X.prog X.w) h3 (typeOf (.ref a)) (.ref C) := by
      obtain ⟨p, _, _, ct, _, g, _⟩ := here fl3 up3
      exact fun A Q E s k q => wpAny_typeOf_ref (k _ _ g) (by rw [ct.z.1]; exact q)
    have KX : X.K.In h3 := (J.landed (s' := { s' with heap := h3 }) nb fl3.1 (up.trans up3) os ag).kIn
    induction hk with
    | nil =>
      intro w
      refine wpAny_handleBy_nil ?_
      obtain ⟨_, _, _, oe, vs, T, oT, ts', he, hz, hd, h1, _⟩ := id fl3
      unfold PySem.passOn
      refine wpAny_bind (wpAny_field he hd h1 ?_)
      rw [if_neg (show ¬ ((Value.ref T == Value.none) = true) from by simp)]
      have fin : wpAny (model X.prog X.w) X.A (setFlight (.ref a) X.env.frame) (fun _ s4 => wpAny (model X.prog X.w) X.A (throw (.ref a) : Sem Flow) (SP X pins D) X.xe s4) X.xe { s' with heap := h3 } := by
        rw [hf]
        refine HandSPX.setFlight_upZ fl3 fun h4 held up4 => wpAny_throw (tk _ _ ⟨a, B, sI, pins, σ', H', C, d, k, rfl, ⟨J, nb, (up.trans up3).trans up4, .inr (.inr ?_), na, os, ag, bk⟩, w⟩)
        rw [hs]
        exact held
      first
        | exact wpAny_bind (wpAny_pure (wpAny_bind fin))
        | exact wpAny_bind fin
    | @un x c ts b₀ suite np pos' hds2 l2 hc hsu r ih =>
      intro w
      obtain ⟨b, hb1, yes, no⟩ := w
      refine wpAny_handleBy_cons (codeAny_handlers_test ?_) (by intro q; cases q)
      refine test_ hc ((PySem.W.exm_one (M := model X.prog X.w) KX looks hb1).here ?_)
      cases b with
      | false => exact ih (no rfl)
      | true =>
        refine codeAny_handlers_suite ?_
        refine HandSPX.lands_againZ fl3 fun h4 fl4 up4 => ?_
        obtain ⟨p, q, pn, ct, S4, _, sub⟩ := here fl4 (up3.trans up4)
        have tkS : TakesR (suiteX X a pn) Wout := by
          rintro u2 s2 ⟨a2, B2, sI2, pn2, τ, H2, C2, d2, k2, e2, ⟨I2, nb2, up2, sky2, na2, os2, ag2, bk2⟩, w2⟩
          exact tk u2 s2 ⟨a2, B2, sI2, pins, τ, H2, C2, d2, k2, e2, ⟨suite_out (a := a) (I2.wish fun _ _ => False) ok sub, nb2, up2, sky2, na2, os2, ag2, bk2⟩, w2⟩
        have done_ : ∀ {τ : L2.St} {H6 : Hp} {s6 : Shared}, L2.Inv (suiteX X a pn) [] τ H6 s6 → L2.Inv X pins τ H6 s6 := fun S => suite_out (a := a) (S.wish fun _ _ => False) ok sub
        refine wpAny_mono ((hsu a C d k p q pn ct tkS).run [] _ _ H' _ (Inv.unwish (X := suiteX X a pn) (E := fun _ _ => False) S4) (yes rfl a na)) (fun f s6 z => ?_) fun e6 s6 z => hpa (some (.ref a)) e6 s6 z
        cases f with
        | next =>
          obtain ⟨τ, H6, S6, q6⟩ := z
          exact ⟨_, _, done_ S6, q6⟩
        | brk =>
          obtain ⟨τ, H6, S6, q6⟩ := z
          exact ⟨_, _, done_ S6, q6⟩
        | cont =>
          obtain ⟨τ, H6, S6, q6⟩ := z
          exact ⟨_, _, done_ S6, q6⟩
        | ret u =>
          obtain ⟨v6, τ, H6, S6, r6, q6⟩ := z
          exact ⟨_, _, _, done_ S6, r6, q6⟩
    | @as x n i c ts b₀ suite np pos' hds2 l2 hc hi hl hsu r ih =>
      intro w
      obtain ⟨b, hb1, yes, no⟩ := w
      refine wpAny_handleBy_cons (codeAny_handlers_test ?_) (by intro q; cases q)
      refine test_ hc ((PySem.W.exm_one (M := model X.prog X.w) KX looks hb1).here ?_)
      cases b with
      | false => exact ih (no rfl)
      | true =>
        refine codeAny_handlers_suite_as ?_
        refine HandSPX.lands_againZ fl3 fun h4 fl4 up4 => ?_
        obtain ⟨p, q, pn, ct, S4, _, sub⟩ := here fl4 (up3.trans up4)
        refine store_ok (X := X.suite a pn) (v := .ref a) S4 hN hi (.inl hl) rfl (fun s5 S5 => ?_) (.inr hl)
        refine wpAny_mono ((hsu a C d k p q pn ct).run [] s5 _ H' _ S5 (yes rfl a na)) (fun f s6 z => ?_) (fun _ _ z => False.elim z)
        have end_ : ∀ {τ : L2.St} {H6 : Hp} {Q : Shared → Prop}, L2.Inv (X.suite a pn) [] τ H6 s6 → (∀ s7, L2.Inv X pins (τ.set i none) H6 s7 → Q s7) →
            wpAny (model X.prog X.w) X.A (do bindName X.env n .none; unbindBehindTheSuite X.env n pos') (fun _ s7 => Q s7) X.xe s6 := fun {τ H6 Q} S6 hq => gone_ok (suite_out S6 ok sub) hN hi hl hq
        cases f with
        | next =>
          obtain ⟨τ, H6, S6, q6⟩ := z
          exact end_ S6 fun s7 J7 => ⟨_, _, J7, q6⟩
        | brk =>
          obtain ⟨τ, H6, S6, q6⟩ := z
          exact end_ S6 fun s7 J7 => ⟨_, _, J7, q6⟩
        | cont =>
          obtain ⟨τ, H6, S6, q6⟩ := z
          exact end_ S6 fun s7 J7 => ⟨_, _, J7, q6⟩
        | ret u =>
          obtain ⟨v6, τ, H6, S6, r6, q6⟩ := z
          exact end_ S6 fun s7 J7 => ⟨_, _, _, J7, r6, q6⟩
  exact go hh w
end
end Rh

namespace Rh
open PySem PySem.Spec PyProof.Rows L2

/-! ## 1. Values without a heap, and a store of the things that change -/
inductive T where
  | non | bl (b : Bool) | int (i : Int) | str (s : Str)
  | tup (ts : List T) | lst (ts : List T) | scr (ts : List T) | own (p : Addr)

inductive Ob where
  | lst (ts : List T) | dict (kvs : List (Key × T)) | obj (c : Nat) (ts : List T)
abbrev Sto := Addr → Option Ob
def Sto.set (μ : Sto) (p : Addr) (o : Ob) : Sto := fun q => if q = p then some o else μ q
theorem Sto.set_same {μ : Sto} {p : Addr} {o : Ob} : μ.set p o p = some o := if_pos rfl
theorem Sto.set_ne {μ : Sto} {p q : Addr} {o : Ob} (h : q ≠ p) : μ.set p o q = μ q := if_neg h
theorem Sto.set_set {μ : Sto} {p : Addr} {o u : Ob} : (μ.set p o).set p u = μ.set p u := by
  funext q
  unfold Sto.set
  split <;> rfl
/-- the one store within the other -/
def Sub (μ' μ : Sto) : Prop := ∀ p o, μ' p = some o → μ p = some o
theorem Sub.refl (μ : Sto) : Sub μ μ := fun _ _ h => h
theorem Sub.trans {a b c : Sto} (h : Sub a b) (k : Sub b c) : Sub a c := fun p o e => k p o (h p o e)
abbrev Ro := List (Option T)
abbrev RP := T → Sto → Prop
abbrev XP := Nat → Sto → Prop

/-- where classes stand, and their fields in the order in which they come to be -/
structure Lay where
  addr : Nat → Addr
  flds : Nat → List Str
  exc : Nat → Addr

/-! ## 2. What a value is worth in a heap that does not change -/
mutual
def Tr (K : PySem.W.Frag) (B : Hp) : V → T → Prop
  | v, .non => v = .non
  | v, .bl b => v = .bl b
  | v, .int i => v = .int i
  | v, .str s => v = .str s
  | v, .tup ts => ∃ a vs, v = .ref a ∧ SqT K B a vs ∧ Trs K B vs ts
  | v, .lst ts => ∃ a vs, v = .ref a ∧ B a = some (.lst vs) ∧ Trs K B vs ts
  | v, .scr ts => ∃ a vs, v = .ref a ∧ SqL K B a vs ∧ Trs K B vs ts
  | v, .own p => v = .ref p
def Trs (K : PySem.W.Frag) (B : Hp) : List V → List T → Prop
  | vs, [] => vs = []
  | vs, t :: ts => ∃ v r, vs = v :: r ∧ Tr K B v t ∧ Trs K B r ts
end
abbrev Le (B B' : Hp) : Prop := Same B B'
section
variable {K : PySem.W.Frag} {B B' H H' : Hp}
theorem Le.seqT {a : Addr} {xs : List V} (e : Le B B') (h : SqT K B a xs) : SqT K B' a xs := by
  rcases h with (h | ⟨o, h⟩) | h
  · exact .inl (.inl (e _ _ h))
  · exact .inl (.inr ⟨o, e _ _ h⟩)
  · exact .inr h
mutual
theorem Tr.mono (e : Le B B') : ∀ {t : T} {v : V}, Tr K B v t → Tr K B' v t
  | .non, _, h => h
  | .bl _, _, h => h
  | .int _, _, h => h
  | .str _, _, h => h
  | .tup _, _, ⟨a, vs, e1, h1, h2⟩ => ⟨a, vs, e1, e.seqT h1, Trs.mono e h2⟩
  | .lst _, _, ⟨a, vs, e1, h1, h2⟩ => ⟨a, vs, e1, e _ _ h1, Trs.mono e h2⟩
  | .scr _, _, ⟨a, vs, e1, h1, h2⟩ => ⟨a, vs, e1, Same.seq e h1, Trs.mono e h2⟩
  | .own _, _, h => h
theorem Trs.mono (e : Le B B') : ∀ {ts : List T} {vs : List V}, Trs K B vs ts → Trs K B' vs ts
  | [], _, h => h
  | _ :: _, _, ⟨v, r, e1, h1, h2⟩ => ⟨v, r, e1, Tr.mono e h1, Trs.mono e h2⟩
end
theorem Trs.nil : Trs K B [] [] := rfl
theorem Trs.cons {v : V} {vs : List V} {t : T} {ts : List T} (h : Tr K B v t) (hs : Trs K B vs ts) : Trs K B (v :: vs) (t :: ts) := ⟨v, vs, rfl, h, hs⟩
theorem Trs.length : ∀ {ts : List T} {vs : List V}, Trs K B vs ts → vs.length = ts.length
  | [], _, h => by cases h; rfl
  | _ :: _, _, ⟨v, r, e, _, h⟩ => by subst e; simp [Trs.length h]
theorem Trs.get : ∀ {ts : List T} {vs : List V} {i : Nat} {t : T}, Trs K B vs ts → ts[i]? = some t → ∃ v, vs[i]? = some v ∧ Tr K B v t
  | [], _, _, _, _, e => by simp at e
  | _ :: _, _, 0, _, ⟨v, r, e1, h, _⟩, e => by
    subst e1
    simp at e
    subst e
    exact ⟨v, rfl, h⟩
  | _ :: _, _, i + 1, _, ⟨v, r, e1, _, h⟩, e => by
    subst e1
    exact Trs.get (i := i) h (by simpa using e)
theorem Trs.append : ∀ {ts us : List T} {vs ws : List V}, Trs K B vs ts → Trs K B ws us → Trs K B (vs ++ ws) (ts ++ us)
  | [], _, _, _, h, k => by cases h; exact k
  | _ :: _, _, _, _, ⟨v, r, e, h, hs⟩, k => by subst e; exact ⟨v, _, rfl, h, Trs.append hs k⟩
theorem Trs.take : ∀ {ts : List T} {vs : List V} (n : Nat), Trs K B vs ts → Trs K B (vs.take n) (ts.take n)
  | _, _, 0, _ => rfl
  | [], _, _ + 1, h => by cases h; rfl
  | _ :: _, _, n + 1, ⟨v, r, e, h, hs⟩ => by subst e; exact ⟨v, _, rfl, h, Trs.take n hs⟩
theorem Trs.drop : ∀ {ts : List T} {vs : List V} (n : Nat), Trs K B vs ts → Trs K B (vs.drop n) (ts.drop n)
  | _, _, 0, h => h
  | [], _, _ + 1, h => by cases h; rfl
  | _ :: _, _, n + 1, ⟨v, r, e, h, hs⟩ => by subst e; exact Trs.drop n hs
theorem Trs.set : ∀ {ts : List T} {vs : List V} {v : V} {t : T} (i : Nat), Trs K B vs ts → Tr K B v t → Trs K B (vs.set i v) (ts.set i t)
  | [], _, _, _, _, h, _ => by cases h; rfl
  | _ :: _, _, v', _, 0, ⟨v, r, e, _, hs⟩, k => by subst e; exact ⟨v', r, rfl, k, hs⟩
  | _ :: _, _, _, _, i + 1, ⟨v, r, e, h, hs⟩, k => by subst e; exact ⟨v, _, rfl, h, Trs.set i hs k⟩
theorem Trs.eraseIdx : ∀ {ts : List T} {vs : List V} (i : Nat), Trs K B vs ts → Trs K B (vs.eraseIdx i) (ts.eraseIdx i)
  | [], _, _, h => by cases h; rfl
  | _ :: _, _, 0, ⟨v, r, e, _, hs⟩ => by subst e; exact hs
  | _ :: _, _, i + 1, ⟨v, r, e, h, hs⟩ => by subst e; exact ⟨v, _, rfl, h, Trs.eraseIdx i hs⟩
theorem Trs.dropLast {ts : List T} {vs : List V} (h : Trs K B vs ts) : Trs K B vs.dropLast ts.dropLast := by
  rw [List.dropLast_eq_take, List.dropLast_eq_take, h.length]
  exact h.take _
theorem Trs.reverse : ∀ {ts : List T} {vs : List V}, Trs K B vs ts → Trs K B vs.reverse ts.reverse
  | [], _, h => by cases h; rfl
  | _ :: _, _, ⟨v, r, e, h, hs⟩ => by
    subst e
    rw [List.reverse_cons, List.reverse_cons]
    exact Trs.append (Trs.reverse hs) ⟨v, [], rfl, h, rfl⟩
theorem Trs.rep {ts : List T} {vs : List V} (h : Trs K B vs ts) : ∀ k : Nat, Trs K B (List.replicate k vs).flatten (List.replicate k ts).flatten
  | 0 => rfl
  | k + 1 => by
    rw [List.replicate_succ, List.replicate_succ, List.flatten_cons, List.flatten_cons]
    exact Trs.append h (Trs.rep h k)
theorem Trs.ints : ∀ {ns : List Int} {vs : List V}, Trs K B vs (ns.map T.int) → vs = ns.map V.int
  | [], _, h => h
  | _ :: _, _, ⟨v, r, e, h, hs⟩ => by
    have h' : v = V.int _ := h
    rw [e, h', Trs.ints hs]
    rfl
theorem Trs.of_ints : ∀ (ns : List Int), Trs K B (ns.map V.int) (ns.map T.int)
  | [] => rfl
  | _ :: r => ⟨_, _, rfl, rfl, Trs.of_ints r⟩
theorem Trs.strs : ∀ {ns : List Str} {vs : List V}, Trs K B vs (ns.map T.str) → vs = ns.map V.str
  | [], _, h => h
  | _ :: _, _, ⟨v, r, e, h, hs⟩ => by
    have h' : v = V.str _ := h
    rw [e, h', Trs.strs hs]
    rfl
theorem Trs.of_strs : ∀ (ns : List Str), Trs K B (ns.map V.str) (ns.map T.str)
  | [] => rfl
  | _ :: r => ⟨_, _, rfl, rfl, Trs.of_strs r⟩
theorem Trs.bls : ∀ {ns : List Bool} {vs : List V}, Trs K B vs (ns.map T.bl) → vs = ns.map V.bl
  | [], _, h => h
  | _ :: _, _, ⟨v, r, e, h, hs⟩ => by
    have h' : v = V.bl _ := h
    rw [e, h', Trs.bls hs]
    rfl
end

/-! ## 3. The heap: a part that stands still (B), and the store -/
def KTs (K : PySem.W.Frag) (B : Hp) : List (Key × V) → List (Key × T) → Prop := Paired fun p q => p.1 = q.1 ∧ Tr K B p.2 q.2
def ObOk (K : PySem.W.Frag) (L : Lay) (H B : Hp) (p : Addr) : Ob → Prop
  | .lst ts => ∃ vs, H p = some (.lst vs) ∧ Trs K B vs ts
  | .dict kvs => ∃ ks, H p = some (.dK ks) ∧ KTs K B ks kvs
  | .obj c ts => ∃ dx vs, H p = some (.ins (L.addr c) dx ((L.flds c).zip vs)) ∧ Trs K B vs ts ∧ vs.length ≤ (L.flds c).length
structure St (K : PySem.W.Frag) (L : Lay) (Φ H B : Hp) (μ : Sto) : Prop where
  sub : Le B H
  sto : ∀ p o, μ p = some o → B p = none ∧ ObOk K L H B p o
  frm : ∀ p o, Φ p = some o → H p = some o ∧ B p = none ∧ μ p = none
section
variable {K : PySem.W.Frag} {L : Lay} {Φ B B' H H' : Hp} {μ μ' : Sto}
theorem KTs.mono {a : List (Key × V)} {b : List (Key × T)} (e : Le B B') (h : KTs K B a b) : KTs K B' a b := Paired.mapP h fun _ _ z => ⟨z.1, z.2.mono e⟩
theorem ObOk.mono {p : Addr} {o : Ob} (h : ObOk K L H B p o) (e : Le B B') (eH : H' p = H p) : ObOk K L H' B' p o := by
  cases o with
  | lst ts => obtain ⟨vs, h1, h2⟩ := h; exact ⟨vs, eH.trans h1, h2.mono e⟩
  | dict kvs => obtain ⟨ks, h1, h2⟩ := h; exact ⟨ks, eH.trans h1, h2.mono e⟩
  | obj c ts => obtain ⟨dx, vs, h1, h2, h3⟩ := h; exact ⟨dx, vs, eH.trans h1, h2.mono e, h3⟩
theorem ObOk.there {p : Addr} {o : Ob} (h : ObOk K L H B p o) : ∃ u, H p = some u := by
  cases o with
  | lst ts => obtain ⟨vs, h1, h2⟩ := h; exact ⟨_, h1⟩
  | dict kvs => obtain ⟨ks, h1, h2⟩ := h; exact ⟨_, h1⟩
  | obj c ts => obtain ⟨dx, vs, h1, h2, h3⟩ := h; exact ⟨_, h1⟩
theorem St.fresh (S : St K L Φ H B μ) {p : Addr} (h : H p = none) : μ p = none := by
  cases e : μ p with
  | none => rfl
  | some o =>
    obtain ⟨u, q⟩ := (S.sto p o e).2.there
    rw [h] at q
    cases q
theorem St.freshB (S : St K L Φ H B μ) {p : Addr} (h : H p = none) : B p = none := Same.free S.sub h
/-- fewer things of the store are looked at -/
theorem Sub.none (h : Sub μ' μ) {p : Addr} (e : μ p = none) : μ' p = none := by
  cases q : μ' p with
  | none => rfl
  | some o => rw [h p o q] at e; cases e
theorem St.freshF (S : St K L Φ H B μ) {p : Addr} (h : H p = none) : Φ p = none := by
  cases e : Φ p with
  | none => rfl
  | some o =>
    have q := (S.frm p o e).1
    rw [h] at q
    cases q
theorem St.drop (S : St K L Φ H B μ) (h : Sub μ' μ) : St K L Φ H B μ' := ⟨S.sub, fun p o e => S.sto p o (h p o e), fun p o e => let ⟨a, b, c⟩ := S.frm p o e; ⟨a, b, h.none c⟩⟩
theorem le_upd {p : Addr} {o : HO} (h : B p = none) : Le B (upd B p o) := fun b u e => by rw [upd_ne (ne_of_none e h)]; exact e
/-- a thing that stands still from now on -/
theorem St.laid {p : Addr} {o : HO} (S : St K L Φ H B μ) (h : H p = none) : St K L Φ (upd H p o) (upd B p o) μ := by
  refine ⟨fun b u e => ?_, fun q ob e => ?_, fun q ob e => ?_⟩
  · by_cases hb : b = p
    · subst hb
      rw [upd_same] at e ⊢
      exact e
    · rw [upd_ne hb] at e ⊢
      exact S.sub _ _ e
  · have hq : q ≠ p := fun z => by
      rw [z, S.fresh h] at e
      cases e
    obtain ⟨h1, h2⟩ := S.sto q ob e
    exact ⟨by rw [upd_ne hq]; exact h1, h2.mono (le_upd (S.freshB h)) (upd_ne hq)⟩
  · have hq : q ≠ p := fun z => by
      rw [z, S.freshF h] at e
      cases e
    obtain ⟨a, b, c⟩ := S.frm q ob e
    exact ⟨by rw [upd_ne hq]; exact a, by rw [upd_ne hq]; exact b, c⟩
/-- something tracked that nothing of ours names -/
theorem St.aside {p : Addr} {o : HO} (S : St K L Φ H B μ) (h : H p = none) : St K L Φ (upd H p o) B μ := by
  refine ⟨fun b u e => ?_, fun q ob e => ?_, fun q ob e => ?_⟩
  · rw [upd_ne (ne_of_none (S.sub _ _ e) h)]
    exact S.sub _ _ e
  · have hq : q ≠ p := fun z => by
      rw [z, S.fresh h] at e
      cases e
    obtain ⟨h1, h2⟩ := S.sto q ob e
    exact ⟨h1, h2.mono (Same.refl _) (upd_ne hq)⟩
  · have hq : q ≠ p := fun z => by
      rw [z, S.freshF h] at e
      cases e
    obtain ⟨a, b, c⟩ := S.frm q ob e
    exact ⟨by rw [upd_ne hq]; exact a, b, c⟩
/-- a thing of the store is new, or written -/
theorem St.put {p : Addr} {o : HO} {ob : Ob} (S : St K L Φ H B μ) (hB : B p = none) (hF : Φ p = none) (h : ObOk K L (upd H p o) B p ob) : St K L Φ (upd H p o) B (μ.set p ob) := by
  refine ⟨fun b u e => ?_, fun q ob' e => ?_, fun q ob' e => ?_⟩
  · rw [upd_ne (ne_of_none e hB)]
    exact S.sub _ _ e
  · by_cases hq : q = p
    · subst hq
      rw [Sto.set_same] at e
      cases e
      exact ⟨hB, h⟩
    · rw [Sto.set_ne hq] at e
      obtain ⟨h1, h2⟩ := S.sto q ob' e
      exact ⟨h1, h2.mono (Same.refl _) (upd_ne hq)⟩
  · have hq : q ≠ p := fun z => by
      rw [z, hF] at e
      cases e
    obtain ⟨a, b, c⟩ := S.frm q ob' e
    exact ⟨by rw [upd_ne hq]; exact a, b, by rw [Sto.set_ne hq]; exact c⟩
theorem St.noF {p : Addr} {o : Ob} (S : St K L Φ H B μ) (e : μ p = some o) : Φ p = none := by
  cases q : Φ p with
  | none => rfl
  | some u =>
    have z := (S.frm p u q).2.2
    rw [e] at z
    cases z
theorem St.mem {p : Addr} {ts : List T} (S : St K L Φ H B μ) (e : μ p = some (.lst ts)) : ∃ vs, H p = some (.lst vs) ∧ Trs K B vs ts := (S.sto p _ e).2
theorem St.memD {p : Addr} {kvs : List (Key × T)} (S : St K L Φ H B μ) (e : μ p = some (.dict kvs)) : ∃ ks, H p = some (.dK ks) ∧ KTs K B ks kvs := (S.sto p _ e).2
theorem St.memO {p : Addr} {c : Nat} {ts : List T} (S : St K L Φ H B μ) (e : μ p = some (.obj c ts)) : ∃ dx vs, H p = some (.ins (L.addr c) dx ((L.flds c).zip vs)) ∧ Trs K B vs ts ∧ vs.length ≤ (L.flds c).length := (S.sto p _ e).2
end
/-- lists: those that may be written or added; those that may be read; tuples -/
def slst (μ : Sto) : T → Option (List T)
  | .lst ts => some ts
  | .own p => match μ p with
    | some (.lst ts) => some ts
    | _ => none
  | _ => none
def vlst (μ : Sto) : T → Option (List T)
  | .lst ts => some ts
  | .scr ts => some ts
  | .own p => match μ p with
    | some (.lst ts) => some ts
    | _ => none
  | _ => none
def vtup : T → Option (List T)
  | .tup ts => some ts
  | _ => none
section
variable {K : PySem.W.Frag} {L : Lay} {Φ B B' H H' : Hp} {μ μ' : Sto} {v : V} {t : T} {ts : List T}
theorem own_lst {p : Addr} (h : (match μ p with | some (.lst ts) => some ts | _ => none) = some ts) : μ p = some (.lst ts) := by
  cases e : μ p with
  | none => rw [e] at h; cases h
  | some o =>
    rw [e] at h
    cases o with
    | lst us => cases h; rfl
    | dict _ => cases h
    | obj _ _ => cases h
theorem slst_ok (S : St K L Φ H B μ) (r : Tr K B v t) (h : slst μ t = some ts) : ∃ a vs, v = .ref a ∧ H a = some (.lst vs) ∧ Trs K B vs ts := by
  cases t with
  | lst us =>
    cases h
    obtain ⟨a, vs, e, h1, h2⟩ := r
    exact ⟨a, vs, e, S.sub _ _ h1, h2⟩
  | own p =>
    obtain ⟨vs, h1, h2⟩ := S.mem (own_lst h)
    exact ⟨p, vs, r, h1, h2⟩
  | _ => cases h
theorem vlst_ok (S : St K L Φ H B μ) (r : Tr K B v t) (h : vlst μ t = some ts) : ∃ a vs, v = .ref a ∧ SqL K H a vs ∧ Trs K B vs ts := by
  cases t with
  | lst us =>
    cases h
    obtain ⟨a, vs, e, h1, h2⟩ := r
    exact ⟨a, vs, e, .of (S.sub _ _ h1), h2⟩
  | scr us =>
    cases h
    obtain ⟨a, vs, e, h1, h2⟩ := r
    exact ⟨a, vs, e, Same.seq S.sub h1, h2⟩
  | own p =>
    obtain ⟨vs, h1, h2⟩ := S.mem (own_lst h)
    exact ⟨p, vs, r, .of h1, h2⟩
  | _ => cases h
theorem vtup_ok (S : St K L Φ H B μ) (r : Tr K B v t) (h : vtup t = some ts) : ∃ a vs, v = .ref a ∧ SqT K H a vs ∧ Trs K B vs ts := by
  cases t with
  | tup us =>
    cases h
    obtain ⟨a, vs, e, h1, h2⟩ := r
    exact ⟨a, vs, e, Le.seqT S.sub h1, h2⟩
  | _ => cases h
end

/-! ## 4. What is wanted behind: from trees to the heap -/
def Post (K : PySem.W.Frag) (L : Lay) (Φ B : Hp) (R : RP) (Q : VK) : Prop := ∀ v t H' B' μ', Le B B' → St K L Φ H' B' μ' → Tr K B' v t → R t μ' → Q v H'
def PostS (K : PySem.W.Frag) (L : Lay) (Φ B : Hp) (R : Sto → Prop) (Q : Hp → Prop) : Prop := ∀ H' B' μ', Le B B' → St K L Φ H' B' μ' → R μ' → Q H'
def PostB (K : PySem.W.Frag) (L : Lay) (Φ B : Hp) (R : Bool → Sto → Prop) (Q : Bool → Hp → Prop) : Prop := ∀ b H' B' μ', Le B B' → St K L Φ H' B' μ' → R b μ' → Q b H'
/-- how a wish names an exception of the core: from 1000 on with a context -/
def xv (L : Lay) (c : Nat) : Value := if c < 1000 then .ref (L.exc c) else .int (L.exc (c % 1000) : Int) 0
theorem xv_lt {L : Lay} {c : Nat} (h : c < 1000) : xv L c = .ref (L.exc c) := if_pos h
theorem xv_up {L : Lay} {c : Nat} (h : c < 1000) : xv L (c + 1000) = .int (L.exc c : Int) 0 := by
  unfold xv
  rw [if_neg (by omega), show (c + 1000) % 1000 = c by omega]
def PostX (K : PySem.W.Frag) (L : Lay) (Φ B : Hp) (F : XP) (E : XK) : Prop := ∀ c H' B' μ', Le B B' → St K L Φ H' B' μ' → F c μ' → E (xv L c) none H'
section
variable {K : PySem.W.Frag} {L : Lay} {Φ B B' H H' : Hp} {μ μ' : Sto} {R : RP} {Q : VK} {F : XP} {E : XK}
theorem Post.mono (h : Post K L Φ B R Q) (e : Le B B') : Post K L Φ B' R Q := fun v t H' B2 μ' e2 => h v t H' B2 μ' (e.trans e2)
theorem PostX.mono (h : PostX K L Φ B F E) (e : Le B B') : PostX K L Φ B' F E := fun c H' B2 μ' e2 => h c H' B2 μ' (e.trans e2)
theorem Post.here (h : Post K L Φ B R Q) {v : V} {t : T} (S : St K L Φ H B μ) (r : Tr K B v t) (q : R t μ) : Q v H := h v t H B μ (Same.refl _) S r q
/-- a new list: one's own, or one that stands still -/
def newL (own : Bool) (ts : List T) (μ : Sto) (R : RP) : Prop :=
  match own with
  | true => ∀ p, μ p = none → R (.own p) (μ.set p (.lst ts))
  | false => R (.lst ts) μ
theorem newL_ok {own : Bool} {vs : List V} {ts : List T} (S : St K L Φ H B μ) (r : Trs K B vs ts) (h : newL own ts μ R) (k : Post K L Φ B R Q) {p : Addr} (hp : H p = none) : Q (.ref p) (upd H p (.lst vs)) := by
  cases own with
  | true =>
    have h : ∀ p, μ p = none → R (.own p) (μ.set p (.lst ts)) := h
    exact k _ (.own p) _ B _ (Same.refl _) (S.put (S.freshB hp) (S.freshF hp) (show ObOk K L (upd H p (.lst vs)) B p (.lst ts) from ⟨vs, upd_same, r⟩)) rfl (h p (S.fresh hp))
  | false =>
    have h : R (.lst ts) μ := h
    have e := le_upd (o := HO.lst vs) (S.freshB hp)
    exact k _ (.lst ts) _ _ _ e (S.laid hp) ⟨p, vs, rfl, upd_same, r.mono e⟩ h
theorem newT_ok {vs : List V} {ts : List T} (S : St K L Φ H B μ) (r : Trs K B vs ts) (h : R (.tup ts) μ) (k : Post K L Φ B R Q) {p : Addr} (hp : H p = none) : Q (.ref p) (upd H p (.tup vs)) := by
  have e := le_upd (o := HO.tup vs) (S.freshB hp)
  exact k _ (.tup ts) _ _ _ e (S.laid hp) ⟨p, vs, rfl, .of upd_same, r.mono e⟩ h
end
end Rh

namespace Rh
open PySem PySem.Spec PyProof.Rows L2
theorem tuple_mulSame (l : Addr) (items : Array Value) (n : Nat) (dd : Option Addr) (sl : Array (Option Value)) (x : Int) (u : Tok) (c0 : (decide (x < -(2 ^ 63)) || decide (x ≥ 2 ^ 63)) = false) (c1 : (items.isEmpty || x == 1) = true) :
    Meets (Builtin.«tuple.__mul__» ⟨[.ref l, .int x u], []⟩) (fun _ R s => s.heap.get? l = some { cls := .type "tuple", dict := dd, data := .seq items n, slots := sl } ∧ R (.ok (.ret (Value.ref l))) s) :=
  .of_wp fun prog w A R s h => by
    obtain ⟨hp, g, d, tk, os⟩ := s
    obtain ⟨hl, h⟩ := h
    have f1 := AutoSeq1.idx_int
    wp_walk using wpAny_loadPart' hl
    repeat (first
      | (refine wpAny_ite_false (decide_eq_false (by rw [c0]; exact Bool.false_ne_true)) ?_; wp_walk using wpAny_loadPart' hl)
      | (refine wpAny_ite_true (decide_eq_true (by rw [c1])) ?_; wp_walk using wpAny_loadPart' hl))
    exact ⟨_, rfl, h⟩
theorem tuple_mulNone (l : Addr) (items : Array Value) (n : Nat) (dd : Option Addr) (sl : Array (Option Value)) (x : Int) (u : Tok) (c0 : (decide (x < -(2 ^ 63)) || decide (x ≥ 2 ^ 63)) = false) (c1 : (items.isEmpty || x == 1) = false) (c2 : (decide (x ≤ 0) || items.isEmpty) = true) :
    Meets (Builtin.«tuple.__mul__» ⟨[.ref l, .int x u], []⟩) (fun _ R s => s.heap.get? l = some { cls := .type "tuple", dict := dd, data := .seq items n, slots := sl } ∧ R (.ok (.ret (Value.ref s.heap.objs.size))) { s with heap := s.heap.push { cls := Value.type "tuple", data := Data.seq #[] }, toks := s.toks }) :=
  .of_wp fun prog w A R s h => by
    obtain ⟨hp, g, d, tk, os⟩ := s
    obtain ⟨hl, h⟩ := h
    have f1 := AutoSeq1.idx_int
    wp_walk using wpAny_loadPart' hl
    repeat (first
      | (refine wpAny_ite_false (decide_eq_false (by rw [c0]; exact Bool.false_ne_true)) ?_; wp_walk using wpAny_loadPart' hl)
      | (refine wpAny_ite_false (decide_eq_false (by rw [c1]; exact Bool.false_ne_true)) ?_; wp_walk using wpAny_loadPart' hl)
      | (refine wpAny_ite_true (decide_eq_true c2) ?_; wp_walk using wpAny_loadPart' hl))
    exact ⟨_, rfl, h⟩
def rRepA (K : PySem.W.Frag) : R2 := fun x y H Q => ∃ l k xs, x = .ref l ∧ y = .int k ∧ SqT K H l xs ∧ 0 ≤ k ∧ k ≤ 1000 ∧ xs.length ≤ 1000 ∧ (xs = [] ∨ k = 1 → Q (.ref l) H) ∧ ∀ p, H p = none → Q (.ref p) (upd H p (.tup (List.replicate k.toNat xs).flatten))
section
variable {X : Cx}
theorem op_repA : OpR X (binaryOp .Mult) (rRepA X.K) := by
  intro pins s σ H x y v u Q I rx ry h
  obtain ⟨l, k, xs, rfl, rfl, hT, h0, h2, hz, q1, q2⟩ := h
  by_cases hs1 : xs = [] ∨ k = 1
  · cases rx
    obtain ⟨t, rfl⟩ := ry
    obtain ⟨its, r, ⟨⟨cls, dd, data, sl⟩, ho, hc, n, hd⟩, hs⟩ := I.tuple hT
    simp only at hc hd
    subst hc hd
    have hle : its.length = xs.length := r.length.symm
    have c0 : (decide (k < -(2 ^ 63)) || decide (k ≥ 2 ^ 63)) = false := by
      rw [decide_eq_false (by omega), decide_eq_false (by omega)] <;> rfl
    have c1 : (its.toArray.isEmpty || k == 1) = true := by
      rcases hs1 with z | z
      · rw [z] at hle
        have : its = [] := List.eq_nil_of_length_eq_zero hle
        subst this
        rfl
      · subst z
        simp
    exact wpAny_binaryOp_repeat_ref (T := "tuple") (U := "int") (by decide) ⟨_, ho, rfl⟩ (fun s' => typeIs_int s' k t) noFill_tuple_mul F.fills_int_mul F.slot_int_rmul repeat_tuple F.slot_int_index.lookup
      (call_meets F.slot_int_rmul (typeIs_int s k t) F.entry_int_rmul (F.args_int_rmul_2 _ _) (int_rmul_tuple k t l its.toArray n dd sl)
        ⟨ho, rfl, ⟨_, ho, rfl⟩, call_meets F.slot_tuple_mul ⟨_, ho, rfl⟩ F.entry_tuple_mul (F.args_tuple_mul_2 _ _) (tuple_mulSame l its.toArray n dd sl k t c0 c1) ⟨ho, ⟨.ref l, H, I, rfl, q1 hs1⟩⟩⟩)
  · by_cases hk : k = 0
    · subst hk
      cases rx
      obtain ⟨t, rfl⟩ := ry
      obtain ⟨its, r, ⟨⟨cls, dd, data, sl⟩, ho, hc, n, hd⟩, hs⟩ := I.tuple hT
      simp only at hc hd
      subst hc hd
      have hle : its.length = xs.length := r.length.symm
      have hi : its.toArray.isEmpty = false := by
        cases its with
        | nil => exact absurd (.inl (List.eq_nil_of_length_eq_zero hle.symm)) hs1
        | cons a b => rfl
      refine wpAny_binaryOp_repeat_ref (T := "tuple") (U := "int") (by decide) ⟨_, ho, rfl⟩ (fun s' => typeIs_int s' 0 t) noFill_tuple_mul F.fills_int_mul F.slot_int_rmul repeat_tuple F.slot_int_index.lookup
        (call_meets F.slot_int_rmul (typeIs_int s 0 t) F.entry_int_rmul (F.args_int_rmul_2 _ _) (int_rmul_tuple 0 t l its.toArray n dd sl)
          ⟨ho, rfl, ⟨_, ho, rfl⟩, call_meets F.slot_tuple_mul ⟨_, ho, rfl⟩ F.entry_tuple_mul (F.args_tuple_mul_2 _ _) (tuple_mulNone l its.toArray n dd sl 0 t rfl (by rw [hi]; rfl) (by simp)) ⟨ho, ?_⟩⟩)
      refine ⟨.ref s.heap.objs.size, _, I.laid (t' := s.toks) (o := .tup (List.replicate (0 : Int).toNat xs).flatten) (fun b ob q => Heap.get?_push_of_some _ q) (Nat.le_refl _) ?_, rfl, q2 _ (I.hok.fresh (Nat.le_refl _))⟩
      exact ⟨by simp, _, .nil, IsTup.new _ _⟩
    · exact op_repT pins s σ H _ _ v u Q I rx ry ⟨l, k, xs, rfl, rfl, hT, fun z => hs1 (.inl z), by have : k ≠ 1 := fun z => hs1 (.inr z); omega, h2, hz, q2⟩
end

/-! ## 5. Operations on trees -/
/-- what a tree is as data -/
def dat (μ : Sto) : Nat → T → Option PyData
  | 0, _ => none
  | _ + 1, .non => some .none
  | _ + 1, .bl b => some (.bool b)
  | _ + 1, .int i => some (.int i)
  | _ + 1, .str s => some (.str s)
  | n + 1, .tup ts => (ts.mapM (dat μ n)).map .tuple
  | n + 1, .lst ts => (ts.mapM (dat μ n)).map .list
  | n + 1, .scr ts => (ts.mapM (dat μ n)).map .list
  | n + 1, .own p => match μ p with
    | some (.lst ts) => (ts.mapM (dat μ n)).map .list
    | _ => none
def onD (μ : Sto) (x : T) (k : PyData → Prop) : Prop := ∃ d, dat μ 9 x = some d ∧ SeqAt.shaped d = true ∧ k d
def onS (μ : Sto) (x : T) (k : List T → Prop) : Prop := ∃ ts, slst μ x = some ts ∧ k ts
def onL (μ : Sto) (x : T) (k : List T → Prop) : Prop := ∃ ts, vlst μ x = some ts ∧ k ts
def MulOk (i j : Int) : Prop := CMul i j ∨ CMulW i j
def tAdd (own : Bool) (x y : T) (μ : Sto) (R : RP) : Prop :=
  match x, y with
  | .int i, .int j => R (.int (i + j)) μ
  | .str a, .str b => a.length + b.length ≤ sizeLine ∧ R (.str (a ++ b)) μ
  | .tup xs, .tup ys => xs.length + ys.length ≤ sizeLine ∧ R (.tup (xs ++ ys)) μ
  | x, y => onS μ x fun xs => onS μ y fun ys => xs.length + ys.length ≤ sizeLine ∧ newL own (xs ++ ys) μ R
def tMulO (own : Bool) (x y : T) (μ : Sto) (R : RP) : Prop :=
  match x, y with
  | .int i, .int j => MulOk i j ∧ R (.int (i * j)) μ
  | .str x, .int k => 0 ≤ k ∧ k < 16777216 ∧ x.length * k.toNat ≤ sizeLine ∧ R (.str (Txt.mul x k)) μ
  | .tup xs, .int k => 0 ≤ k ∧ k ≤ 1000 ∧ xs.length ≤ 1000 ∧ R (.tup (List.replicate k.toNat xs).flatten) μ
  | x, .int k => onS μ x fun xs => k < 2 ^ 62 ∧ -(2 ^ 62) ≤ k ∧ xs.length * k.toNat ≤ sizeLine ∧ newL own (List.replicate k.toNat xs).flatten μ R
  | _, _ => False
def tBin (op : Operator) (own : Bool) (x y : T) (μ : Sto) (R : RP) : Prop :=
  match op with
  | .Add => tAdd own x y μ R
  | .Sub => ∃ i j, x = .int i ∧ y = .int j ∧ R (.int (i - j)) μ
  | .Mult => tMulO own x y μ R
  | .FloorDiv => ∃ i j, x = .int i ∧ y = .int j ∧ CDivW i j ∧ R (.int (i / j)) μ
  | .Mod => ∃ i j, x = .int i ∧ y = .int j ∧ 0 < j ∧ R (.int (i % j)) μ
  | _ => False
def scalT : T → T → Option Bool
  | .non, .non => some true | .non, .int _ => some false | .int _, .non => some false | .non, .bl _ => some false | .bl _, .non => some false | .non, .str _ => some false | .str _, .non => some false
  | .int i, .int j => some (decide (i = j)) | .bl a, .bl b => some (decide (a = b)) | .str a, .str b => some (decide (a = b))
  | .int _, .str _ => some false | .str _, .int _ => some false | .bl _, .str _ => some false | .str _, .bl _ => some false
  | _, _ => none
def tEq (neg : Bool) (x y : T) (μ : Sto) (R : RP) : Prop :=
  match scalT x y with
  | some b => R (.bl (if neg then !b else b)) μ
  | none => onD μ x fun d => onD μ y fun e => R (.bl (if neg then !PyData.eqv d e else PyData.eqv d e)) μ
def strIn (a b : Str) : Bool := !(Builtin.Str.occurrences b a 0 b.length 1).isEmpty
theorem strIn_sign (c : Nat) (z : Str) : strIn ⟨#[c]⟩ z = decide (c ∈ z.cps.toList) := PySem.StrLaws.found_one z c
def valT (kvs : List (Key × T)) (k : Key) : Option T := (kvs.find? fun kv => decide (kv.1 = k)).map (·.2)
def putT (kvs : List (Key × T)) (k : Key) (v : T) : List (Key × T) := if (kvs.any fun kv => decide (kv.1 = k)) = true then kvs.map fun kv => if kv.1 = k then (kv.1, v) else kv else kvs ++ [(k, v)]
def keyT : T → Option Key
  | .int i => some (.inl i)
  | .str s => some (.inr s)
  | _ => none
/-- a dict -/
def onK (μ : Sto) (x : T) (k : List (Key × T) → Addr → Prop) : Prop := ∃ p kvs, x = .own p ∧ μ p = some (.dict kvs) ∧ k kvs p
def flatT : T → Bool
  | .non => true | .bl _ => true | .int _ => true | .str _ => true | _ => false
def eqT : T → T → Bool
  | .non, .non => true
  | .bl a, .bl b => a == b
  | .bl a, .int b => (if a then 1 else 0) == b
  | .int a, .bl b => a == (if b then 1 else 0)
  | .int a, .int b => a == b
  | .str a, .str b => a == b
  | _, _ => false
def isDict (μ : Sto) : T → Bool
  | .own p => match μ p with
    | some (.dict _) => true
    | _ => false
  | _ => false
def tIn (neg : Bool) (x y : T) (μ : Sto) (R : RP) : Prop :=
  match y with
  | .str b => ∃ a, x = .str a ∧ R (.bl (if neg then !strIn a b else strIn a b)) μ
  | .tup ts => flatT x = true ∧ ts.all flatT = true ∧ R (.bl (if neg then !(ts.any fun z => eqT z x) else ts.any fun z => eqT z x)) μ
  | y => match isDict μ y with
    | true => onK μ y fun kvs _ => ∃ k, keyT x = some k ∧ R (.bl (if neg then !(valT kvs k).isSome else (valT kvs k).isSome)) μ
    | false => onD μ x fun d => ∃ ds, dat μ 9 y = some (.list ds) ∧ SeqAt.shaped (.list ds) = true ∧ R (.bl (if neg then !(ds.any fun z => PyData.eqv z d) else ds.any fun z => PyData.eqv z d)) μ
def isNon : T → Bool
  | .non => true
  | _ => false
def tCmp (op : CmpOp) (x y : T) (μ : Sto) (R : RP) : Prop :=
  match op with
  | .Lt => ∃ i j, x = .int i ∧ y = .int j ∧ R (.bl (decide (i < j))) μ
  | .LtE => ∃ i j, x = .int i ∧ y = .int j ∧ R (.bl (decide (i ≤ j))) μ
  | .Gt => ∃ i j, x = .int i ∧ y = .int j ∧ R (.bl (decide (j < i))) μ
  | .GtE => ∃ i j, x = .int i ∧ y = .int j ∧ R (.bl (decide (j ≤ i))) μ
  | .Eq => tEq false x y μ R
  | .NotEq => tEq true x y μ R
  | .In => tIn false x y μ R
  | .NotIn => tIn true x y μ R
  | .Is => match y with
    | .bl b => ∃ a, x = .bl a ∧ R (.bl (decide (a = b))) μ
    | y => y = .non ∧ R (.bl (isNon x)) μ
  | .IsNot => y = .non ∧ R (.bl (!isNon x)) μ
def tIdx (x y : T) (μ : Sto) (R : RP) : Prop :=
  match x with
  | .tup ts => ∃ i t, y = .int i ∧ atI ts i = some t ∧ R t μ
  | .str z => ∃ i c, y = .int i ∧ z.length ≤ sizeLine ∧ atI z.cps.toList i = some c ∧ R (.str ⟨#[c]⟩) μ
  | x => match isDict μ x with
    | true => onK μ x fun kvs _ => ∃ k t, keyT y = some k ∧ valT kvs k = some t ∧ R t μ
    | false => onL μ x fun ts => ∃ i t, y = .int i ∧ atI ts i = some t ∧ R t μ
def cutT (xs : List T) (lo hi : Option Int) : List T := (xs.drop (HT.sIx xs.length 0 lo)).take (HT.sIx xs.length xs.length hi - HT.sIx xs.length 0 lo)
def tSlice (own : Bool) (x : T) (lo hi : Option Int) (μ : Sto) (R : RP) : Prop :=
  match x with
  | .str z => z.length ≤ sizeLine ∧ R (.str (cutS z lo hi)) μ
  | .tup ts => R (.tup (cutT ts lo hi)) μ
  | x => onL μ x fun ts => newL own (cutT ts lo hi) μ R
def truT (μ : Sto) (x : T) (k : Bool → Prop) : Prop :=
  match x with
  | .non => k false
  | .bl b => k b
  | .int i => k (i != 0)
  | .str y => y.length ≤ sizeLine ∧ k ((y.length : Int) != 0)
  | .tup ts => k (!ts.isEmpty)
  | x => match isDict μ x with
    | true => onK μ x fun kvs _ => k (!kvs.isEmpty)
    | false => onL μ x fun ts => k (!ts.isEmpty)
def tLen (x : T) (μ : Sto) (R : RP) : Prop :=
  match x with
  | .str y => y.length ≤ sizeLine ∧ R (.int y.length) μ
  | .tup ts => R (.int ts.length) μ
  | x => onL μ x fun ts => R (.int ts.length) μ

section
variable {X : Cx} {L : Lay}
/-- an operation on trees, as one on values -/
def Op2 (K : PySem.W.Frag) (L : Lay) (tb : T → T → Sto → RP → Prop) : R2 := fun x y H Q => ∃ Φ B μ tx ty R, St K L Φ H B μ ∧ Tr K B x tx ∧ Tr K B y ty ∧ tb tx ty μ R ∧ Post K L Φ B R Q
theorem Vals.refl_dummy : True := trivial
mutual
theorem dat_ok {K : PySem.W.Frag} {Φ H B : Hp} {μ : Sto} (S : St K L Φ H B μ) : ∀ (n : Nat) (t : T) (v : V) (d : PyData), dat μ n t = some d → Tr K B v t → Dp K H v d
  | 0, _, _, _, h, _ => by simp [dat] at h
  | _ + 1, .non, v, d, h, r => by simp [dat] at h; subst h; cases (show v = .non from r); exact .non
  | _ + 1, .bl b, v, d, h, r => by simp [dat] at h; subst h; cases (show v = .bl b from r); exact .bl b
  | _ + 1, .int i, v, d, h, r => by simp [dat] at h; subst h; cases (show v = .int i from r); exact .int i
  | _ + 1, .str s, v, d, h, r => by simp [dat] at h; subst h; cases (show v = .str s from r); exact .str s
  | n + 1, .tup ts, v, d, h, r => by
    simp only [dat, Option.map_eq_some_iff] at h
    obtain ⟨ds, h1, rfl⟩ := h
    obtain ⟨a, vs, rfl, h2, h3⟩ := vtup_ok S r rfl
    exact .tup h2 (dats_ok S n ts vs ds h1 h3)
  | n + 1, .lst ts, v, d, h, r => by
    simp only [dat, Option.map_eq_some_iff] at h
    obtain ⟨ds, h1, rfl⟩ := h
    obtain ⟨a, vs, rfl, h2, h3⟩ := vlst_ok (μ := μ) S r rfl
    exact .lst h2 (dats_ok S n ts vs ds h1 h3)
  | n + 1, .scr ts, v, d, h, r => by
    simp only [dat, Option.map_eq_some_iff] at h
    obtain ⟨ds, h1, rfl⟩ := h
    obtain ⟨a, vs, rfl, h2, h3⟩ := vlst_ok (μ := μ) S r rfl
    exact .lst h2 (dats_ok S n ts vs ds h1 h3)
  | n + 1, .own p, v, d, h, r => by
    unfold dat at h
    split at h
    · rename_i ts e
      rw [Option.map_eq_some_iff] at h
      obtain ⟨ds, h1, rfl⟩ := h
      obtain ⟨vs, h2, h3⟩ := S.mem e
      cases (show v = .ref p from r)
      exact .lst (.of h2) (dats_ok S n ts vs ds h1 h3)
    · cases h
theorem dats_ok {K : PySem.W.Frag} {Φ H B : Hp} {μ : Sto} (S : St K L Φ H B μ) : ∀ (n : Nat) (ts : List T) (vs : List V) (ds : List PyData), ts.mapM (dat μ n) = some ds → Trs K B vs ts → DpAll K H vs ds
  | n, [], vs, ds, h, r => by
    cases (show vs = [] from r)
    simp at h
    subst h
    exact .nil
  | n, t :: ts, vs, ds, h, r => by
    obtain ⟨v, rs, rfl, r1, r2⟩ := r
    simp only [List.mapM_cons, Option.bind_eq_bind, Option.bind_eq_some_iff] at h
    obtain ⟨d, h1, es, h2, h3⟩ := h
    cases h3
    exact .cons (dat_ok S n t v d h1 r1) (dats_ok S n ts rs es h2 r2)
end
theorem onS_ok {K : PySem.W.Frag} {Φ H B : Hp} {μ : Sto} {x : T} {v : V} {k : List T → Prop} (S : St K L Φ H B μ) (r : Tr K B v x) (h : onS μ x k) : ∃ a vs ts, v = .ref a ∧ H a = some (.lst vs) ∧ Trs K B vs ts ∧ k ts :=
  let ⟨ts, e, q⟩ := h
  let ⟨a, vs, h1, h2, h3⟩ := slst_ok S r e
  ⟨a, vs, ts, h1, h2, h3, q⟩
theorem onL_ok {K : PySem.W.Frag} {Φ H B : Hp} {μ : Sto} {x : T} {v : V} {k : List T → Prop} (S : St K L Φ H B μ) (r : Tr K B v x) (h : onL μ x k) : ∃ a vs ts, v = .ref a ∧ SqL K H a vs ∧ Trs K B vs ts ∧ k ts :=
  let ⟨ts, e, q⟩ := h
  let ⟨a, vs, h1, h2, h3⟩ := vlst_ok S r e
  ⟨a, vs, ts, h1, h2, h3, q⟩
theorem add_ok (own : Bool) : OpR X (binaryOp .Add) (Op2 X.K L (tAdd own)) := by
  intro pins s σ H x y v u Q I rx ry ⟨Φ, B, μ, tx, ty, R, S, r1, r2, h, k⟩
  unfold tAdd at h
  split at h
  · cases (show x = .int _ from r1); cases (show y = .int _ from r2)
    exact op_add pins s σ H _ _ v u Q I rx ry ⟨_, _, rfl, rfl, k.here S (show Tr X.K B (.int _) (.int _) from rfl) h⟩
  · cases (show x = .str _ from r1); cases (show y = .str _ from r2)
    exact op_add_str pins s σ H _ _ v u Q I rx ry ⟨_, _, rfl, rfl, h.1, k.here S (show Tr X.K B (.str _) (.str _) from rfl) h.2⟩
  · rename_i xs ys
    obtain ⟨a, vs, rfl, h1, h2⟩ := vtup_ok S r1 rfl
    obtain ⟨b, ws, rfl, g1, g2⟩ := vtup_ok S r2 rfl
    obtain ⟨hz, h⟩ := h
    have e1 := h2.length
    have e2 := g2.length
    refine op_catA pins s σ H _ _ v u Q I rx ry ⟨a, b, vs, ws, rfl, rfl, h1, g1, by omega, fun z => ?_, fun _ z => ?_, fun _ _ p hp => newT_ok S (h2.append g2) h k hp⟩
    · have : xs = [] := List.length_eq_zero_iff.mp (by rw [← e1, z]; rfl)
      subst this
      exact k.here S r2 h
    · have : ys = [] := List.length_eq_zero_iff.mp (by rw [← e2, z]; rfl)
      subst this
      rw [List.append_nil] at h
      exact k.here S r1 h
  · obtain ⟨a, vs, xs, rfl, h1, h2, h⟩ := onS_ok S r1 h
    obtain ⟨b, ws, ys, rfl, g1, g2, hz, h⟩ := onS_ok S r2 h
    have e1 := h2.length
    have e2 := g2.length
    exact op_cat pins s σ H _ _ v u Q I rx ry ⟨a, b, vs, ws, rfl, rfl, h1, g1, by omega, fun p hp => newL_ok S (h2.append g2) h k hp⟩
theorem mul_ok (own : Bool) : OpR X (binaryOp .Mult) (Op2 X.K L (tMulO own)) := by
  intro pins s σ H x y v u Q I rx ry ⟨Φ, B, μ, tx, ty, R, S, r1, r2, h, k⟩
  unfold tMulO at h
  split at h
  · cases (show x = .int _ from r1); cases (show y = .int _ from r2)
    obtain ⟨hm, h⟩ := h
    rcases hm with hm | hm
    · exact op_mul pins s σ H _ _ v u Q I rx ry ⟨_, _, rfl, rfl, hm, k.here S (show Tr X.K B (.int _) (.int _) from rfl) h⟩
    · exact op_mulW pins s σ H _ _ v u Q I rx ry ⟨_, _, rfl, rfl, hm, k.here S (show Tr X.K B (.int _) (.int _) from rfl) h⟩
  · rename_i z n
    cases (show x = .str _ from r1); cases (show y = .int _ from r2)
    obtain ⟨h0, h1, hz, h⟩ := h
    obtain ⟨t, rfl⟩ := rx
    obtain ⟨t', rfl⟩ := ry
    have q := k.here S (show Tr X.K B (.str _) (.str _) from rfl) h
    refine SB.mul ⟨?_, fun hn _ => ?_, fun hn _ => ?_⟩ fun t' tk => ⟨.str (Txt.mul z n), H, I.tok _, ⟨_, rfl⟩, q⟩
    · rw [Bool.or_eq_false_iff, decide_eq_false_iff_not, decide_eq_false_iff_not]
      omega
    · have hz2 : (z.length : Int) * n ≤ 2 ^ 63 - 1 := by
        have e : n = (n.toNat : Int) := by omega
        rw [e, ← Int.natCast_mul]
        have : sizeLine ≤ 16777216 := by decide
        omega
      have := (Int.le_ediv_iff_mul_le (show 0 < n by omega)).mpr hz2
      omega
    · show decide (_ > sizeLine) = false
      exact decide_eq_false (by omega)
  · cases (show y = .int _ from r2)
    obtain ⟨a, vs, rfl, h1, h2⟩ := vtup_ok S r1 rfl
    obtain ⟨h0, hk, hz, h⟩ := h
    have e1 := h2.length
    exact op_repA pins s σ H _ _ v u Q I rx ry ⟨a, _, vs, rfl, rfl, h1, h0, hk, by omega, fun z => by
      rename_i tt xs n
      have e : (List.replicate n.toNat xs).flatten = xs := by
        rcases z with z | z
        · have : xs = [] := List.length_eq_zero_iff.mp (by rw [← e1, z]; rfl)
          subst this
          simp
        · rw [z]
          simp
      rw [e] at h
      exact k.here S r1 h, fun p hp => newT_ok S (h2.rep _) h k hp⟩
  · cases (show y = .int _ from r2)
    obtain ⟨a, vs, xs, rfl, h1, h2, hk1, hk2, hz, h⟩ := onS_ok S r1 h
    have e1 := h2.length
    exact op_rep pins s σ H _ _ v u Q I rx ry ⟨a, _, vs, rfl, rfl, h1, by omega, by omega, by rw [e1]; exact hz, fun p hp => newL_ok S (h2.rep _) h k hp⟩
  · exact h.elim
theorem bin_ok (op : Operator) (own : Bool) : OpR X (binaryOp op) (Op2 X.K L (tBin op own)) := by
  intro pins s σ H x y v u Q I rx ry ⟨Φ, B, μ, tx, ty, R, S, r1, r2, h, k⟩
  cases op with
  | Add => exact add_ok own pins s σ H x y v u Q I rx ry ⟨Φ, B, μ, tx, ty, R, S, r1, r2, h, k⟩
  | Mult => exact mul_ok own pins s σ H x y v u Q I rx ry ⟨Φ, B, μ, tx, ty, R, S, r1, r2, h, k⟩
  | Sub =>
    obtain ⟨i, j, rfl, rfl, h⟩ := h
    cases (show x = .int _ from r1); cases (show y = .int _ from r2)
    exact op_sub pins s σ H _ _ v u Q I rx ry ⟨_, _, rfl, rfl, k.here S (show Tr X.K B (.int _) (.int _) from rfl) h⟩
  | FloorDiv =>
    obtain ⟨i, j, rfl, rfl, hc, h⟩ := h
    cases (show x = .int _ from r1); cases (show y = .int _ from r2)
    exact op_fdivW pins s σ H _ _ v u Q I rx ry ⟨_, _, rfl, rfl, hc, k.here S (show Tr X.K B (.int _) (.int _) from rfl) h⟩
  | Mod =>
    obtain ⟨i, j, rfl, rfl, hc, h⟩ := h
    cases (show x = .int _ from r1); cases (show y = .int _ from r2)
    exact op_mod pins s σ H _ _ v u Q I rx ry ⟨_, _, rfl, rfl, hc, k.here S (show Tr X.K B (.int _) (.int _) from rfl) h⟩
  | _ => exact (show False from h).elim
theorem scal_ok {K : PySem.W.Frag} {B : Hp} {x y : V} : ∀ {tx ty : T} {b : Bool}, Tr K B x tx → Tr K B y ty → scalT tx ty = some b → scal x y = true ∧ decide (x = y) = b := by
  intro tx ty b r1 r2 h
  unfold scalT at h
  split at h
  all_goals first
    | (cases h; done)
    | (injection h with h; subst h; obtain rfl := r1; obtain rfl := r2; exact ⟨rfl, by simp⟩)
theorem eq_ok (hu : X.A.units + 64 < cLine) : OpR X (compareOp .Eq) (Op2 X.K L (tEq false)) := by
  intro pins s σ H x y v u Q I rx ry ⟨Φ, B, μ, tx, ty, R, S, r1, r2, h, k⟩
  unfold tEq at h
  split at h
  · rename_i b e
    obtain ⟨h1, h2⟩ := scal_ok r1 r2 e
    exact op_eq pins s σ H x y v u Q I rx ry ⟨h1, by rw [h2]; exact k.here S (show Tr X.K B (.bl b) (.bl b) from rfl) h⟩
  · obtain ⟨d, e1, s1, e, e2, s2, h⟩ := h
    exact op_eqD hu pins s σ H x y v u Q I rx ry ⟨d, e, dat_ok S _ _ _ _ e1 r1, dat_ok S _ _ _ _ e2 r2, s1, s2, k.here S (show Tr X.K B (.bl _) (.bl _) from rfl) h⟩
theorem ne_ok (hu : X.A.units + 64 < cLine) : OpR X (compareOp .NotEq) (Op2 X.K L (tEq true)) := by
  intro pins s σ H x y v u Q I rx ry ⟨Φ, B, μ, tx, ty, R, S, r1, r2, h, k⟩
  unfold tEq at h
  split at h
  · rename_i b e
    obtain ⟨h1, h2⟩ := scal_ok r1 r2 e
    exact op_ne pins s σ H x y v u Q I rx ry ⟨h1, by rw [h2]; exact k.here S (show Tr X.K B (.bl _) (.bl _) from rfl) h⟩
  · obtain ⟨d, e1, s1, e, e2, s2, h⟩ := h
    exact op_neD hu pins s σ H x y v u Q I rx ry ⟨d, e, dat_ok S _ _ _ _ e1 r1, dat_ok S _ _ _ _ e2 r2, s1, s2, k.here S (show Tr X.K B (.bl _) (.bl _) from rfl) h⟩
end
end Rh

namespace Rh
open PySem PySem.Spec PyProof.Rows L2
section
variable {K : PySem.W.Frag} {B B' H H' : Hp} {μ : Sto} {L : Lay}
theorem KTs.val {a : List (Key × V)} {b : List (Key × T)} (r : KTs K B a b) (k : Key) : ∀ {t : T}, valT b k = some t → ∃ v, valV a k = some v ∧ Tr K B v t := by
  induction r with
  | nil => intro t h; cases h
  | @cons p q l m h hs ih =>
    intro t e
    obtain ⟨h1, h2⟩ := h
    by_cases z : q.1 = k
    · have e' : valT (q :: m) k = some q.2 := by simp [valT, List.find?_cons, z]
      rw [e'] at e
      cases e
      exact ⟨p.2, valV_pos (h1.trans z), h2⟩
    · have e' : valT (q :: m) k = valT m k := by simp [valT, List.find?_cons, z]
      rw [e'] at e
      obtain ⟨v, g1, g2⟩ := ih e
      exact ⟨v, by rw [valV_neg (fun w => z (h1.symm.trans w))]; exact g1, g2⟩
theorem KTs.some {a : List (Key × V)} {b : List (Key × T)} (r : KTs K B a b) (k : Key) : (valV a k).isSome = (valT b k).isSome := by
  induction r with
  | nil => rfl
  | @cons p q l m h hs ih =>
    obtain ⟨h1, h2⟩ := h
    by_cases z : q.1 = k
    · rw [valV_pos (h1.trans z)]
      simp [valT, List.find?_cons, z]
    · rw [valV_neg (fun w => z (h1.symm.trans w)), ih]
      simp [valT, List.find?_cons, z]
theorem KTs.anyK {a : List (Key × V)} {b : List (Key × T)} (r : KTs K B a b) (k : Key) : (a.any fun kv => decide (kv.1 = k)) = (b.any fun kv => decide (kv.1 = k)) := by
  induction r with
  | nil => rfl
  | @cons p q l m h hs ih => simp only [List.any_cons, ih, h.1]
theorem Paired.snoc {α β : Type} {G : α → β → Prop} : ∀ {l : List α} {m : List β} {a : α} {b : β}, Paired G l m → G a b → Paired G (l ++ [a]) (m ++ [b])
  | _, _, _, _, .nil, g => .cons g .nil
  | _, _, _, _, .cons h t, g => .cons h (Paired.snoc t g)
theorem KTs.put {a : List (Key × V)} {b : List (Key × T)} (r : KTs K B a b) (k : Key) {v : V} {t : T} (h : Tr K B v t) : KTs K B (putK a k v) (putT b k t) := by
  have e := r.anyK k
  unfold putT putK
  rw [← e]
  split
  · rename_i hh
    clear e hh
    induction r with
    | nil => exact .nil
    | @cons p q l m g gs ih =>
      refine .cons ?_ (ih)
      dsimp only
      by_cases z : q.1 = k
      · rw [if_pos (g.1.trans z), if_pos z]
        exact ⟨g.1, h⟩
      · rw [if_neg (fun w => z (g.1.symm.trans w)), if_neg z]
        exact g
  · exact Paired.snoc r ⟨rfl, h⟩
theorem KTs.length {a : List (Key × V)} {b : List (Key × T)} (r : KTs K B a b) : a.length = b.length := Paired.length r
theorem KTs.empty {a : List (Key × V)} {b : List (Key × T)} (r : KTs K B a b) : a.isEmpty = b.isEmpty := by cases r <;> rfl
theorem keyT_ok {t : T} {v : V} {k : Key} (r : Tr K B v t) (h : keyT t = some k) : v = kV k := by
  cases t with
  | int i => cases h; exact r
  | str s => cases h; exact r
  | _ => cases h
theorem Trs.flat : ∀ {ts : List T} {vs : List V}, Trs K B vs ts → ts.all flatT = true → vs.all flatV = true
  | [], _, h, _ => by cases h; rfl
  | t :: ts, _, ⟨v, r, e, h, hs⟩, f => by
    subst e
    simp only [List.all_cons, Bool.and_eq_true] at f ⊢
    refine ⟨?_, Trs.flat hs f.2⟩
    cases t with
    | non => cases (show v = V.non from h); rfl
    | bl b => cases (show v = V.bl b from h); rfl
    | int b => cases (show v = V.int b from h); rfl
    | str b => cases (show v = V.str b from h); rfl
    | _ => exact absurd f.1 (by simp [flatT])
theorem flat_one {t : T} {v : V} (h : Tr K B v t) (f : flatT t = true) : flatV v = true := by
  have := Trs.flat (ts := [t]) (vs := [v]) ⟨v, [], rfl, h, rfl⟩ (by simp [f])
  simpa using this
theorem eqT_ok {s t : T} {x v : V} (h : Tr K B x s) (h' : Tr K B v t) (f : flatT s = true) (f' : flatT t = true) : eqV x v = eqT s t := by
  cases s with
  | non => cases (show x = V.non from h); cases t with
    | non => cases (show v = V.non from h'); rfl
    | bl b => cases (show v = V.bl b from h'); rfl
    | int b => cases (show v = V.int b from h'); rfl
    | str b => cases (show v = V.str b from h'); rfl
    | _ => exact absurd f' (by simp [flatT])
  | bl a => cases (show x = V.bl a from h); cases t with
    | non => cases (show v = V.non from h'); rfl
    | bl b => cases (show v = V.bl b from h'); rfl
    | int b => cases (show v = V.int b from h'); rfl
    | str b => cases (show v = V.str b from h'); rfl
    | _ => exact absurd f' (by simp [flatT])
  | int a => cases (show x = V.int a from h); cases t with
    | non => cases (show v = V.non from h'); rfl
    | bl b => cases (show v = V.bl b from h'); rfl
    | int b => cases (show v = V.int b from h'); rfl
    | str b => cases (show v = V.str b from h'); rfl
    | _ => exact absurd f' (by simp [flatT])
  | str a => cases (show x = V.str a from h); cases t with
    | non => cases (show v = V.non from h'); rfl
    | bl b => cases (show v = V.bl b from h'); rfl
    | int b => cases (show v = V.int b from h'); rfl
    | str b => cases (show v = V.str b from h'); rfl
    | _ => exact absurd f' (by simp [flatT])
  | _ => exact absurd f (by simp [flatT])
theorem anyT_ok {s : T} {x : V} (h : Tr K B x s) (f : flatT s = true) : ∀ {ts : List T} {vs : List V}, Trs K B vs ts → ts.all flatT = true → inV x vs = ts.any fun z => eqT z s
  | [], _, e, _ => by cases e; rfl
  | t :: ts, _, ⟨v, r, e, h1, hs⟩, g => by
    subst e
    simp only [List.all_cons, Bool.and_eq_true] at g
    unfold inV
    rw [List.any_cons, List.any_cons, eqT_ok h1 h g.1 f]
    congr 1
    exact anyT_ok h f hs g.2
end
section
variable {X : Cx} {L : Lay}
theorem isDict_of {μ : Sto} {x : T} {k : List (Key × T) → Addr → Prop} (h : onK μ x k) : ∃ p kvs, x = .own p ∧ μ p = some (.dict kvs) ∧ k kvs p := h
theorem in_ok (hu : X.A.units + 65 < cLine) : OpR X (compareOp .In) (Op2 X.K L (tIn false)) := by
  intro pins s σ H x y v u Q I rx ry ⟨Φ, B, μ, tx, ty, R, S, r1, r2, h, k⟩
  unfold tIn at h
  split at h
  · obtain ⟨a, rfl, h⟩ := h
    obtain rfl := r1
    obtain rfl := r2
    exact op_in_str pins s σ H _ _ v u Q I rx ry ⟨_, _, rfl, rfl, k.here S (show Tr X.K B (.bl _) (.bl _) from rfl) h⟩
  · rename_i ts
    obtain ⟨a, vs, rfl, h1, h2⟩ := vtup_ok S r2 rfl
    obtain ⟨f1, f2, h⟩ := h
    refine op_in_seq pins s σ H _ _ v u Q I rx ry ⟨a, vs, rfl, .inr h1, flat_one r1 f1, h2.flat f2, ?_⟩
    rw [if_neg Bool.false_ne_true, anyT_ok r1 f1 h2 f2]
    exact k.here S (show Tr X.K B (.bl _) (.bl _) from rfl) h
  · split at h
    · obtain ⟨p, kvs, rfl, e, kk, e2, h⟩ := h
      obtain ⟨ks, g1, g2⟩ := S.memD e
      obtain rfl := r2
      have ey := keyT_ok r1 e2
      subst ey
      cases (show u = Value.ref p from ry)
      refine d_in (by omega) I (DGet.k (k := kk) g1) rx fun s' I' => ⟨.bl _, H, I', rfl, ?_⟩
      rw [g2.some]
      exact k.here S (show Tr X.K B (.bl _) (.bl _) from rfl) h
    · obtain ⟨d, e1, s1, ds, e2, s2, h⟩ := h
      exact op_inD hu pins s σ H x y v u Q I rx ry ⟨d, ds, dat_ok S _ _ _ _ e1 r1, dat_ok S _ _ _ _ e2 r2, s1, s2, k.here S (show Tr X.K B (.bl _) (.bl _) from rfl) h⟩
theorem notIn_ok (hu : X.A.units + 65 < cLine) : OpR X (compareOp .NotIn) (Op2 X.K L (tIn true)) := by
  intro pins s σ H x y v u Q I rx ry ⟨Φ, B, μ, tx, ty, R, S, r1, r2, h, k⟩
  unfold tIn at h
  split at h
  · obtain ⟨a, rfl, h⟩ := h
    obtain rfl := r1
    obtain rfl := r2
    exact L2.op_notin_str pins s σ H _ _ v u Q I rx ry ⟨_, _, rfl, rfl, k.here S (show Tr X.K B (.bl _) (.bl _) from rfl) h⟩
  · rename_i ts
    obtain ⟨a, vs, rfl, h1, h2⟩ := vtup_ok S r2 rfl
    obtain ⟨f1, f2, h⟩ := h
    refine op_notIn_seq pins s σ H _ _ v u Q I rx ry ⟨a, vs, rfl, .inr h1, flat_one r1 f1, h2.flat f2, ?_⟩
    rw [if_pos rfl, anyT_ok r1 f1 h2 f2]
    exact k.here S (show Tr X.K B (.bl _) (.bl _) from rfl) h
  · split at h
    · obtain ⟨p, kvs, rfl, e, kk, e2, h⟩ := h
      obtain ⟨ks, g1, g2⟩ := S.memD e
      obtain rfl := r2
      have ey := keyT_ok r1 e2
      subst ey
      cases (show u = Value.ref p from ry)
      refine d_notIn (by omega) I (DGet.k (k := kk) g1) rx fun s' I' => ⟨.bl _, H, I', rfl, ?_⟩
      rw [g2.some]
      exact k.here S (show Tr X.K B (.bl _) (.bl _) from rfl) h
    · obtain ⟨d, e1, s1, ds, e2, s2, h⟩ := h
      exact op_notInD hu pins s σ H x y v u Q I rx ry ⟨d, ds, dat_ok S _ _ _ _ e1 r1, dat_ok S _ _ _ _ e2 r2, s1, s2, k.here S (show Tr X.K B (.bl _) (.bl _) from rfl) h⟩
theorem cmp_ok (hu : X.A.units + 65 < cLine) (op : CmpOp) : OpR X (compareOp op) (Op2 X.K L (tCmp op)) := by
  intro pins s σ H x y v u Q I rx ry ⟨Φ, B, μ, tx, ty, R, S, r1, r2, h, k⟩
  cases op with
  | Eq => exact eq_ok (by omega) pins s σ H x y v u Q I rx ry ⟨Φ, B, μ, tx, ty, R, S, r1, r2, h, k⟩
  | NotEq => exact ne_ok (by omega) pins s σ H x y v u Q I rx ry ⟨Φ, B, μ, tx, ty, R, S, r1, r2, h, k⟩
  | In => exact in_ok hu pins s σ H x y v u Q I rx ry ⟨Φ, B, μ, tx, ty, R, S, r1, r2, h, k⟩
  | NotIn => exact notIn_ok hu pins s σ H x y v u Q I rx ry ⟨Φ, B, μ, tx, ty, R, S, r1, r2, h, k⟩
  | Lt =>
    obtain ⟨i, j, rfl, rfl, h⟩ := h
    obtain rfl := r1
    obtain rfl := r2
    exact op_lt pins s σ H _ _ v u Q I rx ry ⟨_, _, rfl, rfl, k.here S (show Tr X.K B (.bl _) (.bl _) from rfl) h⟩
  | LtE =>
    obtain ⟨i, j, rfl, rfl, h⟩ := h
    obtain rfl := r1
    obtain rfl := r2
    exact op_le pins s σ H _ _ v u Q I rx ry ⟨_, _, rfl, rfl, k.here S (show Tr X.K B (.bl _) (.bl _) from rfl) h⟩
  | Gt =>
    obtain ⟨i, j, rfl, rfl, h⟩ := h
    obtain rfl := r1
    obtain rfl := r2
    exact op_gt pins s σ H _ _ v u Q I rx ry ⟨_, _, rfl, rfl, k.here S (show Tr X.K B (.bl _) (.bl _) from rfl) h⟩
  | GtE =>
    obtain ⟨i, j, rfl, rfl, h⟩ := h
    obtain rfl := r1
    obtain rfl := r2
    exact op_ge pins s σ H _ _ v u Q I rx ry ⟨_, _, rfl, rfl, k.here S (show Tr X.K B (.bl _) (.bl _) from rfl) h⟩
  | Is =>
    cases ty with
    | bl b =>
      obtain ⟨a, rfl, h⟩ := h
      obtain rfl := r1
      obtain rfl := r2
      exact op_isBl pins s σ H _ _ v u Q I rx ry ⟨a, b, rfl, rfl, k.here S (show Tr X.K B (.bl _) (.bl _) from rfl) h⟩
    | non =>
      obtain ⟨_, h⟩ := h
      obtain rfl := r2
      refine op_isN pins s σ H _ _ v u Q I rx ry ⟨rfl, ?_⟩
      have e : decide (x = V.non) = isNon tx := by
        cases tx with
        | non => obtain rfl := r1; rfl
        | bl b => obtain rfl := r1; rfl
        | int b => obtain rfl := r1; rfl
        | str b => obtain rfl := r1; rfl
        | tup ts => obtain ⟨a, vs, rfl, _⟩ := r1; rfl
        | lst ts => obtain ⟨a, vs, rfl, _⟩ := r1; rfl
        | scr ts => obtain ⟨a, vs, rfl, _⟩ := r1; rfl
        | own ts => obtain rfl := r1; rfl
      rw [e]
      exact k.here S (show Tr X.K B (.bl _) (.bl _) from rfl) h
    | _ =>
      obtain ⟨e, _⟩ := h
      cases e
  | IsNot =>
    obtain ⟨rfl, h⟩ := h
    obtain rfl := r2
    refine op_notN pins s σ H _ _ v u Q I rx ry ⟨rfl, ?_⟩
    have e : decide (x = V.non) = isNon tx := by
      cases tx with
      | non => obtain rfl := r1; rfl
      | bl b => obtain rfl := r1; rfl
      | int b => obtain rfl := r1; rfl
      | str b => obtain rfl := r1; rfl
      | tup ts => obtain ⟨a, vs, rfl, _⟩ := r1; rfl
      | lst ts => obtain ⟨a, vs, rfl, _⟩ := r1; rfl
      | scr ts => obtain ⟨a, vs, rfl, _⟩ := r1; rfl
      | own ts => obtain rfl := r1; rfl
    rw [e]
    exact k.here S (show Tr X.K B (.bl _) (.bl _) from rfl) h
theorem Trs.atI {K : PySem.W.Frag} {B : Hp} {ts : List T} {vs : List V} {i : Int} {t : T} (h : Trs K B vs ts) (e : L2.atI ts i = some t) : ∃ v, L2.atI vs i = some v ∧ Tr K B v t := by
  unfold L2.atI at e ⊢
  rw [h.length]
  cases q : ixN ts.length i with
  | none => rw [q] at e; cases e
  | some j =>
    rw [q] at e
    exact h.get (i := j) e
theorem idx_ok (hu : X.A.units + 65 < cLine) : IxR X (Op2 X.K L tIdx) := by
  intro value slice pins s σ H x y v u Q I rx ry ⟨Φ, B, μ, tx, ty, R, S, r1, r2, h, k⟩ hs
  unfold tIdx at h
  split at h
  · obtain ⟨a, vs, rfl, h1, h2⟩ := vtup_ok S r1 rfl
    obtain ⟨i, t, rfl, e, h⟩ := h
    obtain rfl := r2
    obtain ⟨w, ew, rw'⟩ := h2.atI e
    exact ix_tup value slice pins s σ H _ _ v u Q I rx ry ⟨a, vs, i, w, rfl, rfl, h1, ew, k.here S rw' h⟩ hs
  · obtain ⟨i, c, rfl, hz, e, h⟩ := h
    obtain rfl := r1
    obtain rfl := r2
    exact ix_str value slice pins s σ H _ _ v u Q I rx ry ⟨_, i, c, rfl, rfl, hz, e, k.here S (show Tr X.K B (.str _) (.str _) from rfl) h⟩ hs
  · split at h
    · obtain ⟨p, kvs, rfl, e, kk, t, e2, e3, h⟩ := h
      obtain ⟨ks, g1, g2⟩ := S.memD e
      obtain rfl := r1
      have ey := keyT_ok r2 e2
      subst ey
      cases (show v = Value.ref p from rx)
      obtain ⟨w, ew, rw'⟩ := g2.val kk e3
      have G : DGet H p (kV kk) (some w) := by rw [← ew]; exact DGet.k (k := kk) g1
      have hT := dict_typeIs I G
      unfold subscriptTail
      refine wpAny_bind ?_
      rw [getitemInPython_of_ne hT.not_modules]
      refine wpAny_bind (wpAny_specialOf hT PySem.F.slot_dict_getitem.lookup ?_)
      have fin : wpAny (model X.prog X.w) X.A (subscripted slice false (.ref p) u) (fun r s₃ => wpAny (model X.prog X.w) X.A (letTemporaryGo value (.ref p) r >>= fun _ => pure r) (EP X pins σ Q) X.xe s₃) X.xe s := by
        rw [hs]
        exact wpAny_operating (d_getItem (by omega) I G ry fun w' s3 I3 r3 => wpAny_bind (wpAny_letTemporaryGo (wpAny_pure ⟨w, H, I3, r3, k.here S rw' h⟩)))
      first
        | exact wpAny_pure (wpAny_bind fin)
        | exact wpAny_bind (wpAny_pure (wpAny_bind fin))
        | exact wpAny_bind fin
    · obtain ⟨a, vs, ts, rfl, h1, h2, i, t, rfl, e, h⟩ := onL_ok S r1 h
      obtain rfl := r2
      obtain ⟨w, ew, rw'⟩ := h2.atI e
      exact ix_list value slice pins s σ H _ _ v u Q I rx ry ⟨a, vs, i, w, rfl, rfl, h1, ew, k.here S rw' h⟩ hs
def OpSl (K : PySem.W.Frag) (L : Lay) (own : Bool) : V → Option Int → Option Int → Hp → VK → Prop := fun x lo hi H Q => ∃ Φ B μ tx R, St K L Φ H B μ ∧ Tr K B x tx ∧ tSlice own tx lo hi μ R ∧ Post K L Φ B R Q
theorem Trs.cut {K : PySem.W.Frag} {B : Hp} {ts : List T} {vs : List V} (h : Trs K B vs ts) (lo hi : Option Int) : Trs K B (cutV vs lo hi) (cutT ts lo hi) := by
  unfold cutV cutT
  rw [h.length]
  exact (h.drop _).take _
theorem slice_ok (own : Bool) : SlR X (OpSl X.K L own) := by
  intro pins s σ H x v vl vu lo hi sl Q I rx hsl pl pu ⟨Φ, B, μ, tx, R, S, r1, h, k⟩
  unfold tSlice at h
  split at h
  · obtain rfl := r1
    exact sl_str pins s σ H _ v vl vu lo hi sl Q I rx hsl pl pu ⟨_, rfl, h.1, k.here S (show Tr X.K B (.str _) (.str _) from rfl) h.2⟩
  · obtain ⟨a, vs, rfl, h1, h2⟩ := vtup_ok S r1 rfl
    refine sl_tupA pins s σ H _ v vl vu lo hi sl Q I rx hsl pl pu ⟨a, vs, rfl, h1, fun hw => ?_, fun _ p hp => newT_ok S (h2.cut lo hi) h k hp⟩
    rw [h2.length] at hw
    rename_i ts
    have e : cutT ts lo hi = ts := by
      unfold cutT
      rw [hw.1, hw.2]
      simp
    rw [e] at h
    exact k.here S r1 h
  · obtain ⟨a, vs, ts, rfl, h1, h2, h⟩ := onL_ok S r1 h
    exact sl_list pins s σ H _ v vl vu lo hi sl Q I rx hsl pl pu ⟨a, vs, rfl, h1, fun p hp => newL_ok S (h2.cut lo hi) h k hp⟩
theorem Trs.isEmpty {K : PySem.W.Frag} {B : Hp} {ts : List T} {vs : List V} (h : Trs K B vs ts) : vs.isEmpty = ts.isEmpty := by
  have e := h.length
  cases vs <;> cases ts <;> first | rfl | simp at e
theorem tru_okT {K : PySem.W.Frag} {Φ H B : Hp} {μ : Sto} {x : V} {t : T} {k : Bool → Prop} (S : St K L Φ H B μ) (r : Tr K B x t) (h : truT μ t k) : ∃ b, TruV K x H b ∧ k b := by
  unfold truT at h
  split at h
  · obtain rfl := r; exact ⟨false, rfl, h⟩
  · obtain rfl := r; exact ⟨_, rfl, h⟩
  · obtain rfl := r; exact ⟨_, rfl, h⟩
  · obtain rfl := r; exact ⟨_, ⟨h.1, rfl⟩, h.2⟩
  · obtain ⟨a, vs, rfl, h1, h2⟩ := vtup_ok S r rfl
    exact ⟨_, .inr (.inl ⟨vs, h1, rfl⟩), by rw [h2.isEmpty]; exact h⟩
  · split at h
    · obtain ⟨p, kvs, rfl, e, h⟩ := h
      obtain ⟨ks, g1, g2⟩ := S.memD e
      obtain rfl := r
      exact ⟨_, .inr (.inr ⟨ks, g1, rfl⟩), by rw [g2.empty]; exact h⟩
    · obtain ⟨a, vs, ts, rfl, h1, h2, h⟩ := onL_ok S r h
      exact ⟨_, .inl ⟨vs, h1, rfl⟩, by rw [h2.isEmpty]; exact h⟩
/-- operations of one value: functions of one argument -/
def Op1 (K : PySem.W.Frag) (L : Lay) (tb : T → Sto → RP → Prop) : List V → Hp → VK → Prop := fun xs H Q => ∃ x Φ B μ t R, xs = [x] ∧ St K L Φ H B μ ∧ Tr K B x t ∧ tb t μ R ∧ Post K L Φ B R Q
theorem len_ok : CallR X (.builtin "len") (Op1 X.K L tLen) := by
  intro pins s σ H xs us Q I r ⟨x, Φ, B, μ, t, R, e, S, r1, h, k⟩
  subst e
  unfold tLen at h
  split at h
  · obtain rfl := r1
    exact call_len pins s σ H _ us Q I r ⟨_, _, rfl, ⟨h.1, rfl⟩, k.here S (show Tr X.K B (.int _) (.int _) from rfl) h.2⟩
  · obtain ⟨a, vs, rfl, h1, h2⟩ := vtup_ok S r1 rfl
    refine call_len pins s σ H _ us Q I r ⟨_, _, rfl, .inr ⟨vs, h1, rfl⟩, ?_⟩
    rw [h2.length]
    exact k.here S (show Tr X.K B (.int _) (.int _) from rfl) h
  · obtain ⟨a, vs, ts, rfl, h1, h2, h⟩ := onL_ok S r1 h
    refine call_len pins s σ H _ us Q I r ⟨_, _, rfl, .inl ⟨vs, h1, rfl⟩, ?_⟩
    rw [h2.length]
    exact k.here S (show Tr X.K B (.int _) (.int _) from rfl) h
end
end Rh

namespace Rh
open PySem PySem.Spec PyProof.Rows L2

/-! ## 6. Lists of one's own that stand still from now on; what is no longer looked at -/
mutual
inductive View (μ : Sto) (fz : List Addr) : T → T → Prop
  | refl (t : T) : View μ fz t t
  | own {p : Addr} {ts us : List T} : μ p = some (.lst ts) → p ∈ fz → Views μ fz ts us → View μ fz (.own p) (.lst us)
  | tup {ts us : List T} : Views μ fz ts us → View μ fz (.tup ts) (.tup us)
  | lst {ts us : List T} : Views μ fz ts us → View μ fz (.lst ts) (.lst us)
inductive Views (μ : Sto) (fz : List Addr) : List T → List T → Prop
  | nil : Views μ fz [] []
  | cons {t u : T} {ts us : List T} : View μ fz t u → Views μ fz ts us → Views μ fz (t :: ts) (u :: us)
end
theorem Views.refl {μ : Sto} {fz : List Addr} : ∀ ts : List T, Views μ fz ts ts
  | [] => .nil
  | t :: ts => .cons (.refl t) (Views.refl ts)
/-- the store behind it -/
def Left (μ : Sto) (fz : List Addr) (μ' : Sto) : Prop := Sub μ' μ ∧ ∀ p ∈ fz, μ' p = none
/-- slots: seen otherwise, or forgotten -/
inductive Slv (μ : Sto) (fz : List Addr) : Ro → Ro → Prop
  | nil : Slv μ fz [] []
  | keep {t u : T} {ρ ρ' : Ro} : View μ fz t u → Slv μ fz ρ ρ' → Slv μ fz (some t :: ρ) (some u :: ρ')
  | gone {o : Option T} {ρ ρ' : Ro} : Slv μ fz ρ ρ' → Slv μ fz (o :: ρ) (none :: ρ')
theorem Slv.refl {μ : Sto} {fz : List Addr} : ∀ ρ : Ro, Slv μ fz ρ ρ
  | [] => .nil
  | some t :: ρ => .keep (.refl t) (Slv.refl ρ)
  | none :: ρ => .gone (Slv.refl ρ)
def Wk (ρ : Ro) (μ : Sto) (ρ' : Ro) (μ' : Sto) : Prop := ∃ fz, Slv μ fz ρ ρ' ∧ Left μ fz μ'
def WkV (t : T) (μ : Sto) (t' : T) (μ' : Sto) : Prop := ∃ fz, View μ fz t t' ∧ Left μ fz μ'
theorem Left.refl {μ : Sto} : Left μ [] μ := ⟨Sub.refl _, fun _ h => nomatch h⟩
theorem Wk.refl (ρ : Ro) (μ : Sto) : Wk ρ μ ρ μ := ⟨[], .refl ρ, .refl⟩
theorem WkV.refl (t : T) (μ : Sto) : WkV t μ t μ := ⟨[], .refl t, .refl⟩
theorem WkV.drop {t : T} {μ μ' : Sto} (h : Sub μ' μ) : WkV t μ t μ' := ⟨[], .refl t, h, fun _ z => nomatch z⟩
/-- the still part with these lists in it -/
def frz (B H : Hp) (μ : Sto) (fz : List Addr) : Hp := fun b => if b ∈ fz then (match μ b with | some (.lst _) => H b | _ => B b) else B b
section
variable {K : PySem.W.Frag} {L : Lay} {Φ B B' H H' : Hp} {μ μ' : Sto} {fz : List Addr}
theorem frz_le (S : St K L Φ H B μ) : Le B (frz B H μ fz) := fun b o e => by
  unfold frz
  split
  · split
    · rename_i h
      have z := (S.sto b _ h).1
      rw [e] at z
      cases z
    · exact e
  · exact e
theorem frz_at (S : St K L Φ H B μ) {p : Addr} {ts : List T} (e : μ p = some (.lst ts)) (h : p ∈ fz) : ∃ vs, frz B H μ fz p = some (.lst vs) ∧ Trs K (frz B H μ fz) vs ts := by
  obtain ⟨vs, h1, h2⟩ := S.mem e
  refine ⟨vs, ?_, h2.mono (frz_le S)⟩
  unfold frz
  rw [if_pos h, e]
  exact h1
theorem St.freeze (S : St K L Φ H B μ) (l : Left μ fz μ') : St K L Φ H (frz B H μ fz) μ' := by
  refine ⟨fun b o e => ?_, fun p o e => ?_, fun p o e => ?_⟩
  · unfold frz at e
    split at e
    · split at e
      · exact e
      · exact S.sub _ _ e
    · exact S.sub _ _ e
  · have hn : p ∉ fz := fun z => by
      rw [l.2 p z] at e
      cases e
    obtain ⟨h1, h2⟩ := S.sto p o (l.1 p o e)
    refine ⟨?_, h2.mono (frz_le S) rfl⟩
    unfold frz
    rw [if_neg hn]
    exact h1
  · obtain ⟨h1, h2, h3⟩ := S.frm p o e
    refine ⟨h1, ?_, l.1.none h3⟩
    unfold frz
    split
    · rw [h3]
      exact h2
    · exact h2
mutual
theorem View.ok (S : St K L Φ H B μ) : ∀ {t u : T} {v : V}, View μ fz t u → Tr K B v t → Tr K (frz B H μ fz) v u
  | _, _, _, .refl t, r => r.mono (frz_le S)
  | _, _, v, .own (p := p) e h s, r => by
    obtain ⟨vs, h1, h2⟩ := S.mem e
    cases (show v = .ref p from r)
    obtain ⟨vs', g1, g2⟩ := frz_at S e h
    have q : vs' = vs := by
      unfold frz at g1
      rw [if_pos h, e] at g1
      rw [h1] at g1
      cases g1
      rfl
    subst q
    exact ⟨p, vs', rfl, g1, Views.ok S s h2⟩
  | _, _, _, .tup s, ⟨a, vs, e, h1, h2⟩ => ⟨a, vs, e, Le.seqT (frz_le S) h1, Views.ok S s h2⟩
  | _, _, _, .lst s, ⟨a, vs, e, h1, h2⟩ => ⟨a, vs, e, frz_le S _ _ h1, Views.ok S s h2⟩
theorem Views.ok (S : St K L Φ H B μ) : ∀ {ts us : List T} {vs : List V}, Views μ fz ts us → Trs K B vs ts → Trs K (frz B H μ fz) vs us
  | _, _, _, .nil, r => r
  | _, _, _, .cons h s, ⟨v, r, e, h1, h2⟩ => ⟨v, r, e, View.ok S h h1, Views.ok S s h2⟩
end
/-- the slots of a frame -/
def Slots (K : PySem.W.Frag) (B : Hp) (σ : L2.St) (ρ : Ro) : Prop := σ.length = ρ.length ∧ ∀ (i : Nat) (t : T), ρ[i]? = some (some t) → ∃ v, σ[i]? = some (some v) ∧ Tr K B v t
theorem Slots.mono {σ : L2.St} {ρ : Ro} (h : Slots K B σ ρ) (e : Le B B') : Slots K B' σ ρ := ⟨h.1, fun i t q => let ⟨v, a, b⟩ := h.2 i t q; ⟨v, a, b.mono e⟩⟩
theorem Slots.set {σ : L2.St} {ρ : Ro} {v : V} {t : T} (h : Slots K B σ ρ) (i : Nat) (r : Tr K B v t) : Slots K B (σ.set i (some v)) (ρ.set i (some t)) := by
  refine ⟨by rw [List.length_set, List.length_set]; exact h.1, fun j u e => ?_⟩
  by_cases hj : i = j
  · subst hj
    by_cases hl : i < ρ.length
    · rw [List.getElem?_set_self hl] at e
      cases e
      exact ⟨v, List.getElem?_set_self (by rw [h.1]; exact hl), r⟩
    · rw [List.getElem?_eq_none (by rw [List.length_set]; omega)] at e
      cases e
  · rw [List.getElem?_set_ne hj] at e
    obtain ⟨w, a, b⟩ := h.2 j u e
    exact ⟨w, by rw [List.getElem?_set_ne hj]; exact a, b⟩
theorem Slots.wipe1 {σ : L2.St} {ρ : Ro} (h : Slots K B σ ρ) (i : Nat) : Slots K B (σ.set i none) (ρ.set i none) := by
  refine ⟨by rw [List.length_set, List.length_set]; exact h.1, fun j u e => ?_⟩
  by_cases hj : i = j
  · subst hj
    by_cases hl : i < ρ.length
    · rw [List.getElem?_set_self hl] at e
      cases e
    · rw [List.getElem?_eq_none (by rw [List.length_set]; omega)] at e
      cases e
  · rw [List.getElem?_set_ne hj] at e
    obtain ⟨w, a, b⟩ := h.2 j u e
    exact ⟨w, by rw [List.getElem?_set_ne hj]; exact a, b⟩
def wipeT (ρ : Ro) : List Nat → Ro
  | [] => ρ
  | v :: vs => (wipeT ρ vs).set v none
theorem Slots.wipe {σ : L2.St} {ρ : Ro} (h : Slots K B σ ρ) : ∀ vs : List Nat, Slots K B (L2.wipe σ vs) (wipeT ρ vs)
  | [] => h
  | v :: vs => (Slots.wipe h vs).wipe1 v
theorem Slv.ok (S : St K L Φ H B μ) : ∀ {ρ ρ' : Ro} {σ : L2.St}, Slv μ fz ρ ρ' → Slots K B σ ρ → Slots K (frz B H μ fz) σ ρ' := by
  intro ρ ρ' σ s h
  have key : ρ.length = ρ'.length ∧ ∀ (i : Nat) (u : T), ρ'[i]? = some (some u) → ∃ t, ρ[i]? = some (some t) ∧ View μ fz t u := by
    clear h
    induction s with
    | nil => exact ⟨rfl, fun i u e => by simp at e⟩
    | @keep t u ρ ρ' w _ ih =>
      refine ⟨by simp [ih.1], fun i x e => ?_⟩
      cases i with
      | zero =>
        simp at e
        subst e
        exact ⟨t, rfl, w⟩
      | succ i => exact ih.2 i x (by simpa using e)
    | @gone o ρ ρ' _ ih =>
      refine ⟨by simp [ih.1], fun i x e => ?_⟩
      cases i with
      | zero => simp at e
      | succ i => exact ih.2 i x (by simpa using e)
  refine ⟨h.1.trans key.1, fun i u e => ?_⟩
  obtain ⟨t, e1, w⟩ := key.2 i u e
  obtain ⟨v, a, b⟩ := h.2 i t e1
  exact ⟨v, a, w.ok S b⟩
theorem Wk.ok {ρ ρ' : Ro} {σ : L2.St} (w : Wk ρ μ ρ' μ') (S : St K L Φ H B μ) (h : Slots K B σ ρ) : ∃ B', Le B B' ∧ St K L Φ H B' μ' ∧ Slots K B' σ ρ' :=
  let ⟨fz, s, l⟩ := w
  ⟨frz B H μ fz, frz_le S, S.freeze l, s.ok S h⟩
theorem WkV.ok {t t' : T} {v : V} (w : WkV t μ t' μ') (S : St K L Φ H B μ) (h : Tr K B v t) : ∃ B', Le B B' ∧ St K L Φ H B' μ' ∧ Tr K B' v t' :=
  let ⟨fz, s, l⟩ := w
  ⟨frz B H μ fz, frz_le S, S.freeze l, s.ok S h⟩
end

/-! ## 7. Built-in functions and the methods of lists, on trees -/
inductive Bif where
  | len | sum | max2 | min2 | list | tuple | sorted | all | any | str | int | max3 | min3 | max1 | min1 | sortT
def max3 (i j k : Int) : Int := if (if i < j then j else i) < k then k else (if i < j then j else i)
def min3 (i j k : Int) : Int := if k < (if j < i then j else i) then k else (if j < i then j else i)
def tBif (f : Bif) (own : Bool) (ts : List T) (μ : Sto) (R : RP) : Prop :=
  match f, ts with
  | .len, [x] => tLen x μ R
  | .sum, [x] => onL μ x fun us => ∃ ns : List Int, us = ns.map T.int ∧ R (.int ns.sum) μ
  | .max2, [x, y] => ∃ i j, x = .int i ∧ y = .int j ∧ R (.int (if j > i then j else i)) μ
  | .min2, [x, y] => ∃ i j, x = .int i ∧ y = .int j ∧ R (.int (if j < i then j else i)) μ
  | .max3, [x, y, z] => ∃ i j k, x = .int i ∧ y = .int j ∧ z = .int k ∧ R (.int (max3 i j k)) μ
  | .min3, [x, y, z] => ∃ i j k, x = .int i ∧ y = .int j ∧ z = .int k ∧ R (.int (min3 i j k)) μ
  | .list, [.tup us] => newL own us μ R
  | .list, [x] => onL μ x fun us => newL own us μ R
  | .tuple, [.tup us] => R (.tup us) μ
  | .tuple, [x] => onL μ x fun us => R (.tup us) μ
  | .sorted, [x] => match isDict μ x with
    | true => onK μ x fun kvs _ => ∃ ks : List Int, kvs.map (·.1) = ks.map Sum.inl ∧ ks.length < 64 ∧ ∀ ys : List Int, ys.Perm ks → ys.Pairwise (· ≤ ·) → newL own (ys.map T.int) μ R
    | false => onL μ x fun us => ∃ ns : List Int, us = ns.map T.int ∧ ∀ ys : List Int, ys.Perm ns → ys.Pairwise (· ≤ ·) → newL own (ys.map T.int) μ R
  | .all, [x] => onL μ x fun us => ∃ bs : List Bool, us = bs.map T.bl ∧ R (.bl (bs.all id)) μ
  | .any, [x] => onL μ x fun us => ∃ bs : List Bool, us = bs.map T.bl ∧ R (.bl (bs.any id)) μ
  | .str, [.int i] => i.natAbs.log2 < 1920 ∧ R (.str (toString i)) μ
  | .int, [.int i] => R (.int i) μ
  | .int, [.bl b] => R (.int (if b then 1 else 0)) μ
  | .int, [.str z] => ∃ n, PySem.intText? z = some n ∧ z.length ≤ 640 ∧ R (.int n) μ
  | .sortT, [x] => onL μ x fun us => ∃ (M : List (List Int)) (d : Nat) (B : Int), us = M.map (fun ns => T.tup (ns.map T.int)) ∧ 1 ≤ d ∧ M.length < 64 ∧ (∀ ns ∈ M, ns.length = d ∧ TS.Bd B ns) ∧ ∀ M' : List (List Int), M'.Perm M → M'.Pairwise (fun a b => TS.code B a ≤ TS.code B b) → newL own (M'.map fun ns => T.tup (ns.map T.int)) μ R
  | .max1, [x] => onL μ x fun us => ∃ ns : List Int, us = ns.map T.int ∧ 0 < ns.length ∧ ∀ m, m ∈ ns → (∀ y, y ∈ ns → y ≤ m) → R (.int m) μ
  | .min1, [x] => onL μ x fun us => ∃ ns : List Int, us = ns.map T.int ∧ 0 < ns.length ∧ ∀ m, m ∈ ns → (∀ y, y ∈ ns → m ≤ y) → R (.int m) μ
  | _, _ => False
def bifName : Bif → Str
  | .len => "len" | .sum => "sum" | .max2 => "max" | .min2 => "min" | .list => "list" | .tuple => "tuple" | .sorted => "sorted" | .all => "all" | .any => "any" | .str => "str" | .int => "int" | .max3 => "max" | .min3 => "min" | .max1 => "max" | .min1 => "min" | .sortT => "sorted"
def bifVal : Bif → Value
  | .len => .builtin "len" | .sum => .builtin "sum" | .max2 => .builtin "max" | .min2 => .builtin "min" | .list => .type "list" | .tuple => .type "tuple" | .sorted => .builtin "sorted" | .all => .builtin "all" | .any => .builtin "any"
  | .str => .type "str" | .int => .type "int" | .max3 => .builtin "max" | .min3 => .builtin "min" | .max1 => .builtin "max" | .min1 => .builtin "min" | .sortT => .builtin "sorted"
/-- a function of many arguments, by values -/
def OpN (K : PySem.W.Frag) (L : Lay) (tb : List T → Sto → RP → Prop) : List V → Hp → VK → Prop := fun xs H Q => ∃ Φ B μ ts R, St K L Φ H B μ ∧ Trs K B xs ts ∧ tb ts μ R ∧ Post K L Φ B R Q
section
variable {X : Cx}
def rRemD (K : PySem.W.Frag) : V → List V → Hp → VK → Prop := fun x xs H Q => ∃ (l : Addr) (vs : List V) (y : V) (d : PyData) (ds : List PyData) (j : Nat) (z : PyData), x = .ref l ∧ xs = [y] ∧ H l = some (.lst vs) ∧ DpAll K H vs ds ∧ Dp K H y d ∧ SeqAt.shaped (.list ds) = true ∧ SeqAt.shaped d = true ∧ ds[j]? = some z ∧ PyData.eqv z d = true ∧ (∀ (m : Nat) (z' : PyData), m < j → ds[m]? = some z' → PyData.eqv z' d = false) ∧ Q .non (upd H l (.lst (vs.eraseIdx j)))
theorem mt_removeD (hu : X.A.units + 65 < cLine) : MtM X "list.remove" (rRemD X.K) := by
  intro pins s σ H x xs v us Q I rx rxs h
  obtain ⟨l, vs, y, d, ds, j, z, rfl, rfl, hH, ha, hy, sl, sd, hz, hzj, hno, q⟩ := h
  cases rx
  obtain ⟨u, rfl, ru⟩ := rxs.one
  obtain ⟨bs, r1⟩ := Dp.reads I d y u hy ru
  have hxs : PyData.canLayAll0 ds = true := SeqAt.canLay_of_shaped sl
  have hroom : X.A.units + 1 + min (PyData.depthAll ds) d.depth < cLine := room_in_shaped sd hu
  obtain ⟨z0, its, n, r, hl, e⟩ := I.lstM hH
  obtain ⟨as, h4⟩ := Dp.readsAll I ds _ its ha r
  have hn : its.length = ds.length := SeqAt.ReadsAll.length ds its as h4
  have hmap : its.map (SeqAt.readOf s.heap) = ds := SeqAt.readsAll_map ds its as hxs h4
  obtain ⟨hjd, _⟩ := List.getElem?_eq_some_iff.mp hz
  have hjl : j < its.length := by omega
  have hj : j < its.toArray.size := by simpa using hjl
  have at_ : ∀ (m : Nat) (hm : m < its.toArray.size) (z' : PyData), ds[m]? = some z' → SeqAt.readOf s.heap its.toArray[m] = z' := by
    intro m hm z' hz'
    have hml : m < its.length := by simpa using hm
    rw [← hmap, List.getElem?_map, List.getElem?_eq_getElem hml] at hz'
    have e1 : SeqAt.readOf s.heap its[m] = z' := Option.some.inj (show some (SeqAt.readOf s.heap its[m]) = some z' from hz')
    simpa using e1
  refine call_meets PySem.F.slot_list_remove ⟨_, e, rfl⟩ PySem.F.entry_list_remove (PySem.F.args_list_remove_2 _ _)
    (SeqAt.list_removeAt l its.toArray n _ _ u (fun u => PyData.eqv (SeqAt.readOf s.heap u) d) j hj ?_ ?_ (by rw [List.size_toArray]; omega)) ⟨e, SeqAt.items_eqAt (vs := its.toArray) (show ReadsAll s.heap its.toArray.toList ds as from h4) r1 hxs (SeqAt.canLay_of_shaped sd) hroom, ?_⟩
  · show PyData.eqv (SeqAt.readOf s.heap its.toArray[j]) d = true
    rw [at_ j hj z hz]
    exact hzj
  · intro m hm hmj
    have hmd : m < ds.length := by omega
    have hz' : ds[m]? = some ds[m] := List.getElem?_eq_getElem hmd
    show PyData.eqv (SeqAt.readOf s.heap its.toArray[m]) d = false
    rw [at_ m hm _ hz']
    exact hno m _ hmj hz'
  · have rr := r.eraseIdx j
    refine ⟨.non, _, I.lset (its' := its.eraseIdx j) (t' := s.toks) hH e ?_ rr ?_, rfl, q⟩
    · show its.toArray.eraseIdxIfInBounds j = (its.eraseIdx j).toArray
      rw [List.eraseIdxIfInBounds_toArray]
    · have := List.length_eraseIdx_le vs j
      omega
end
/-- pairs stand as one side is put in another order -/
theorem trsPerm {K : PySem.W.Frag} {B : Hp} {f : List Int → T} : ∀ {ys xs : List V}, ys.Perm xs → ∀ M : List (List Int), Trs K B xs (M.map f) → ∃ M' : List (List Int), M'.Perm M ∧ Trs K B ys (M'.map f) := by
  intro ys xs h
  induction h with
  | nil => exact fun M r => ⟨M, .refl _, r⟩
  | @cons x l1 l2 _ ih =>
    intro M r
    cases M with
    | nil => cases (show _ = [] from r)
    | cons m M =>
      obtain ⟨v, q, e, r1, r2⟩ := r
      cases e
      obtain ⟨M', a, b⟩ := ih M r2
      exact ⟨m :: M', a.cons m, ⟨_, _, rfl, r1, b⟩⟩
  | swap x y l =>
    intro M r
    cases M with
    | nil => cases (show _ = [] from r)
    | cons m M =>
      obtain ⟨v, q, e, r1, r2⟩ := r
      cases e
      cases M with
      | nil => cases (show _ = [] from r2)
      | cons m2 M =>
        obtain ⟨v, q, e, r3, r4⟩ := r2
        cases e
        exact ⟨m2 :: m :: M, .swap _ _ _, ⟨_, _, rfl, r3, ⟨_, _, rfl, r1, r4⟩⟩⟩
  | trans _ _ i1 i2 =>
    intro M r
    obtain ⟨M1, a, b⟩ := i2 M r
    obtain ⟨M2, c, d⟩ := i1 M1 b
    exact ⟨M2, c.trans a, d⟩
theorem trsPw {K : PySem.W.Frag} {B : Hp} {f : List Int → T} {P : V → V → Prop} {G : List Int → List Int → Prop} (hg : ∀ x y n m, Tr K B x (f n) → Tr K B y (f m) → P x y → G n m) : ∀ {ys : List V} {M : List (List Int)}, Trs K B ys (M.map f) → ys.Pairwise P → M.Pairwise G
  | _, [], _, _ => .nil
  | _, m :: M, ⟨v, q, rfl, r1, r2⟩, h => by
    obtain ⟨h1, h2⟩ := List.pairwise_cons.mp h
    refine List.pairwise_cons.mpr ⟨fun n hn => ?_, trsPw hg r2 h2⟩
    have : ∀ {q : List V} {M : List (List Int)}, Trs K B q (M.map f) → n ∈ M → ∃ y ∈ q, Tr K B y (f n) := fun {q M} => by
      induction M generalizing q with
      | nil => intro _ h; cases h
      | cons a M ih =>
        intro r h
        obtain ⟨w, q', rfl, s1, s2⟩ := r
        rcases List.mem_cons.mp h with rfl | h
        · exact ⟨w, List.mem_cons_self, s1⟩
        · obtain ⟨y, a1, a2⟩ := ih s2 h
          exact ⟨y, List.mem_cons_of_mem _ a1, a2⟩
    obtain ⟨y, a1, a2⟩ := this r2 hn
    exact hg _ _ _ _ r1 a2 (h1 y a1)
section
variable {X : Cx} {L : Lay}
theorem Trs.one {K : PySem.W.Frag} {B : Hp} {vs : List V} {t : T} (h : Trs K B vs [t]) : ∃ v, vs = [v] ∧ Tr K B v t := by
  obtain ⟨v, r, rfl, h1, h2⟩ := h
  cases (show r = [] from h2)
  exact ⟨v, rfl, h1⟩
theorem Trs.two {K : PySem.W.Frag} {B : Hp} {vs : List V} {t u : T} (h : Trs K B vs [t, u]) : ∃ v w, vs = [v, w] ∧ Tr K B v t ∧ Tr K B w u := by
  obtain ⟨v, r, rfl, h1, h2⟩ := h
  obtain ⟨w, rfl, h3⟩ := Trs.one h2
  exact ⟨v, w, rfl, h1, h3⟩
theorem Trs.three {K : PySem.W.Frag} {B : Hp} {vs : List V} {t u w : T} (h : Trs K B vs [t, u, w]) : ∃ v1 v2 v3, vs = [v1, v2, v3] ∧ Tr K B v1 t ∧ Tr K B v2 u ∧ Tr K B v3 w := by
  obtain ⟨v, r, rfl, h1, h2⟩ := h
  obtain ⟨v2, v3, rfl, h3, h4⟩ := Trs.two h2
  exact ⟨v, v2, v3, rfl, h1, h3, h4⟩
theorem bif_ok (hc : X.calm = true) (own : Bool) (f : Bif) : CallR X (bifVal f) (OpN X.K L (tBif f own)) := by
  intro pins s σ H xs us Q I r ⟨Φ, B, μ, ts, R, S, rs, h, k⟩
  unfold tBif at h
  split at h
  · obtain ⟨v, rfl, r1⟩ := rs.one
    exact len_ok pins s σ H _ us Q I r ⟨v, Φ, B, μ, _, R, rfl, S, r1, h, k⟩
  · obtain ⟨v, rfl, r1⟩ := rs.one
    obtain ⟨a, vs, _, rfl, h1, h2, ns, rfl, h⟩ := onL_ok S r1 h
    have e := h2.ints
    subst e
    exact cr_sum hc pins s σ H _ us Q I r ⟨a, ns, rfl, h1, k.here S (show Tr X.K B (.int _) (.int _) from rfl) h⟩
  · obtain ⟨v, w, rfl, r1, r2⟩ := rs.two
    obtain ⟨i, j, rfl, rfl, h⟩ := h
    obtain rfl := r1
    obtain rfl := r2
    exact call_max2 hc pins s σ H _ us Q I r ⟨i, j, rfl, k.here S (show Tr X.K B (.int _) (.int _) from rfl) h⟩
  · obtain ⟨v, w, rfl, r1, r2⟩ := rs.two
    obtain ⟨i, j, rfl, rfl, h⟩ := h
    obtain rfl := r1
    obtain rfl := r2
    exact call_min2 hc pins s σ H _ us Q I r ⟨i, j, rfl, k.here S (show Tr X.K B (.int _) (.int _) from rfl) h⟩
  · obtain ⟨v, v2, v3, rfl, r1, r2, r3⟩ := rs.three
    obtain ⟨i, j, l, rfl, rfl, rfl, h⟩ := h
    obtain rfl := r1
    obtain rfl := r2
    obtain rfl := r3
    refine call_max3Nu hc pins s σ H _ us Q I r ⟨.int i, .int j, .int l, .int (max3 i j l), rfl, ?_, k.here S (show Tr X.K B (.int _) (.int _) from rfl) h⟩
    have e : ∀ a b : Int, nuLt (.int a) (.int b) = some (decide (a < b)) := fun _ _ => rfl
    unfold max3 nuMax3 nuMax2
    rw [e]
    by_cases h1 : i < j
    · simp only [h1, decide_true, Option.map_some, if_true, Option.bind_some, e]
      by_cases h2 : j < l <;> simp [h2]
    · simp only [h1, decide_false, Option.map_some, Bool.false_eq_true, if_false, Option.bind_some, e]
      by_cases h2 : i < l <;> simp [h2]
  · obtain ⟨v, v2, v3, rfl, r1, r2, r3⟩ := rs.three
    obtain ⟨i, j, l, rfl, rfl, rfl, h⟩ := h
    obtain rfl := r1
    obtain rfl := r2
    obtain rfl := r3
    refine call_min3Nu hc pins s σ H _ us Q I r ⟨.int i, .int j, .int l, .int (min3 i j l), rfl, ?_, k.here S (show Tr X.K B (.int _) (.int _) from rfl) h⟩
    have e : ∀ a b : Int, nuLt (.int a) (.int b) = some (decide (a < b)) := fun _ _ => rfl
    unfold min3 nuMin3 nuMin2
    rw [e]
    by_cases h1 : j < i
    · simp only [h1, decide_true, Option.map_some, if_true, Option.bind_some, e]
      by_cases h2 : l < j <;> simp [h2]
    · simp only [h1, decide_false, Option.map_some, Bool.false_eq_true, if_false, Option.bind_some, e]
      by_cases h2 : l < i <;> simp [h2]
  · obtain ⟨v, rfl, r1⟩ := rs.one
    obtain ⟨a, vs, rfl, h1, h2⟩ := vtup_ok S r1 rfl
    exact call_list_of pins s σ H _ us Q I r ⟨a, vs, rfl, .inr h1, fun p hp => newL_ok S h2 h k hp⟩
  · obtain ⟨v, rfl, r1⟩ := rs.one
    obtain ⟨a, vs, ts, rfl, h1, h2, h⟩ := onL_ok S r1 h
    exact call_list_of pins s σ H _ us Q I r ⟨a, vs, rfl, .inl h1, fun p hp => newL_ok S h2 h k hp⟩
  · obtain ⟨v, rfl, r1⟩ := rs.one
    obtain ⟨a, vs, rfl, h1, h2⟩ := vtup_ok S r1 rfl
    exact call_tuple_of pins s σ H _ us Q I r ⟨a, vs, rfl, .inr ⟨h1, k.here S r1 h⟩⟩
  · obtain ⟨v, rfl, r1⟩ := rs.one
    obtain ⟨a, vs, ts, rfl, h1, h2, h⟩ := onL_ok S r1 h
    exact call_tuple_of pins s σ H _ us Q I r ⟨a, vs, rfl, .inl ⟨h1, fun p hp => newT_ok S h2 h k hp⟩⟩
  · obtain ⟨v, rfl, r1⟩ := rs.one
    split at h
    · obtain ⟨p, kvs, rfl, e, ks, e2, h64, h⟩ := h
      obtain ⟨kk, g1, g2⟩ := S.memD e
      obtain rfl := r1
      refine call_sortedDI hc pins s σ H _ us Q I r ⟨p, kk, ks, rfl, .of g1, ?_, h64, fun ys q pm pw hq => newL_ok S (Trs.of_ints ys) (h ys pm pw) k hq⟩
      rw [← e2]
      clear e2 h e g1 r rs
      induction g2 with
      | nil => rfl
      | cons a _ ih => rw [List.map_cons, List.map_cons, ih, a.1]
    · obtain ⟨a, vs, _, rfl, h1, h2, ns, rfl, h⟩ := onL_ok S r1 h
      have e := h2.ints
      subst e
      exact cr_sortedI pins s σ H _ us Q I r ⟨a, ns, rfl, h1, fun ys p pm pw hp => newL_ok S (Trs.of_ints ys) (h ys pm pw) k hp⟩
  · obtain ⟨v, rfl, r1⟩ := rs.one
    obtain ⟨a, vs, _, rfl, h1, h2, bs, rfl, h⟩ := onL_ok S r1 h
    have e := h2.bls
    subst e
    exact cr_all hc pins s σ H _ us Q I r ⟨a, bs, rfl, h1, k.here S (show Tr X.K B (.bl _) (.bl _) from rfl) h⟩
  · obtain ⟨v, rfl, r1⟩ := rs.one
    obtain ⟨a, vs, _, rfl, h1, h2, bs, rfl, h⟩ := onL_ok S r1 h
    have e := h2.bls
    subst e
    exact cr_any hc pins s σ H _ us Q I r ⟨a, bs, rfl, h1, k.here S (show Tr X.K B (.bl _) (.bl _) from rfl) h⟩
  · obtain ⟨v, rfl, r1⟩ := rs.one
    obtain rfl := r1
    exact call_str_int pins s σ H _ us Q I r ⟨_, rfl, h.1, k.here S (show Tr X.K B (.str _) (.str _) from rfl) h.2⟩
  · obtain ⟨v, rfl, r1⟩ := rs.one
    obtain rfl := r1
    exact call_int1 pins s σ H _ us Q I r (.inl ⟨_, rfl, k.here S (show Tr X.K B (.int _) (.int _) from rfl) h⟩)
  · obtain ⟨v, rfl, r1⟩ := rs.one
    obtain rfl := r1
    exact call_int1 pins s σ H _ us Q I r (.inr ⟨_, rfl, k.here S (show Tr X.K B (.int _) (.int _) from rfl) h⟩)
  · obtain ⟨v, rfl, r1⟩ := rs.one
    obtain rfl := r1
    obtain ⟨n, e, hz, h⟩ := h
    exact call_int_str pins s σ H _ us Q I r ⟨_, n, rfl, e, hz, k.here S (show Tr X.K B (.int _) (.int _) from rfl) h⟩
  · obtain ⟨v, rfl, r1⟩ := rs.one
    obtain ⟨a, vs, _, rfl, h1, h2, M, d, b, rfl, hd, h64, hbd, h⟩ := onL_ok S r1 h
    have tupI : ∀ (x : V) (n : List Int), Tr X.K B x (.tup (n.map T.int)) → TupI X.K H x n := fun x n rr => by
      obtain ⟨c, ws, rfl, g1, g2⟩ := vtup_ok S rr rfl
      have e := g2.ints
      subst e
      exact ⟨c, rfl, g1⟩
    refine cr_sortT (B := b) hd pins s σ H _ us Q I r ⟨a, vs, rfl, h1, by rw [h2.length, List.length_map]; exact h64, fun x hx => ?_, fun ys p pm pw hp => ?_⟩
    · obtain ⟨i, hi, e⟩ := List.mem_iff_getElem.mp hx
      have hl := h2.length
      rw [List.length_map] at hl
      obtain ⟨w, ew, rw'⟩ := h2.get (i := i) (by rw [List.getElem?_map, List.getElem?_eq_getElem (show i < M.length by omega)]; rfl)
      rw [List.getElem?_eq_getElem hi, e] at ew
      cases ew
      exact ⟨_, tupI _ _ rw', hbd _ (List.getElem_mem _)⟩
    · obtain ⟨M', pm2, tr⟩ := trsPerm pm M h2
      exact newL_ok S tr (h M' pm2 (trsPw (P := fun x y => ∀ n m, TupI X.K H x n → TupI X.K H y m → TS.code b n ≤ TS.code b m) (fun x y n m rx ry hp => hp n m (tupI x n rx) (tupI y m ry)) tr pw)) k hp
  · obtain ⟨v, rfl, r1⟩ := rs.one
    obtain ⟨a, vs, _, rfl, h1, h2, ns, rfl, hl, h⟩ := onL_ok S r1 h
    have e := h2.ints
    subst e
    exact cr_max hc pins s σ H _ us Q I r ⟨a, ns, rfl, h1, hl, fun m hm hy => k.here S (show Tr X.K B (.int _) (.int _) from rfl) (h m hm hy)⟩
  · obtain ⟨v, rfl, r1⟩ := rs.one
    obtain ⟨a, vs, _, rfl, h1, h2, ns, rfl, hl, h⟩ := onL_ok S r1 h
    have e := h2.ints
    subst e
    exact cr_min hc pins s σ H _ us Q I r ⟨a, ns, rfl, h1, hl, fun m hm hy => k.here S (show Tr X.K B (.int _) (.int _) from rfl) (h m hm hy)⟩
  · exact h.elim
end
inductive Lm where
  | append | pop | popAt | extend | index | insert | remove | count | join | split | partition | startswith
/-- the methods that write -/
def onM (μ : Sto) (x : T) (k : List T → Addr → Prop) : Prop := ∃ p ts, x = .own p ∧ μ p = some (.lst ts) ∧ k ts p
def tLm (m : Lm) (x : T) (as : List T) (μ : Sto) (R : RP) : Prop :=
  match m, as with
  | .append, [y] => onM μ x fun ts p => ts.length < sizeLine ∧ R .non (μ.set p (.lst (ts ++ [y])))
  | .pop, [] => onM μ x fun ts p => ∃ y, ts[ts.length - 1]? = some y ∧ R y (μ.set p (.lst ts.dropLast))
  | .popAt, [.int i] => onM μ x fun ts p => ∃ k y, -(2 ^ 63) ≤ i ∧ i < 2 ^ 63 ∧ seqIndex? i ts.length = some k ∧ ts[k]? = some y ∧ R y (μ.set p (.lst (ts.eraseIdx k)))
  | .extend, [y] => onM μ x fun ts p => onS μ y fun us => ts.length + us.length ≤ sizeLine ∧ R .non (μ.set p (.lst (ts ++ us)))
  | .index, [y] => onL μ x fun ts => ∃ j z, flatT y = true ∧ ts.all flatT = true ∧ ts[j]? = some z ∧ eqT z y = true ∧ (∀ (n : Nat) (z' : T), n < j → ts[n]? = some z' → eqT z' y = false) ∧ R (.int (j : Nat)) μ
  | .insert, [.int i, y] => onM μ x fun ts p => ts.length < sizeLine ∧ 0 ≤ i ∧ i < 2 ^ 63 ∧ R .non (μ.set p (.lst (ts.take i.toNat ++ [y] ++ ts.drop i.toNat)))
  | .count, [.int k] => onL μ x fun ts => ∃ ns : List Int, ts = ns.map T.int ∧ R (.int (ns.count k : Nat)) μ
  | .remove, [.int k] => onM μ x fun ts p => ∃ (ns : List Int) (j : Nat), ts = ns.map T.int ∧ ns[j]? = some k ∧ (∀ m : Nat, m < j → ns[m]? ≠ some k) ∧ R .non (μ.set p (.lst ((ns.eraseIdx j).map T.int)))
  | .remove, [y] => onM μ x fun ts p => ∃ (d : PyData) (ds : List PyData) (j : Nat) (z : PyData), dat μ 9 y = some d ∧ SeqAt.shaped d = true ∧ ts.mapM (dat μ 8) = some ds ∧ SeqAt.shaped (.list ds) = true ∧ ds[j]? = some z ∧ PyData.eqv z d = true ∧ (∀ (m : Nat) (z' : PyData), m < j → ds[m]? = some z' → PyData.eqv z' d = false) ∧ R .non (μ.set p (.lst (ts.eraseIdx j)))
  | .join, [y] => ∃ a, ∃ ys : List Str, x = .str a ∧ (vlst μ y = some (ys.map T.str) ∨ y = .tup (ys.map T.str)) ∧ (ys.map (·.length)).sum + ys.length * a.length ≤ 16777216 ∧ R (.str (Txt.join a ys)) μ
  | .split, [.str b] => ∃ a, x = .str a ∧ (b.length == 0) = false ∧ a.length + 2 ≤ sizeLine ∧ R (.lst ((Txt.split a b).map T.str)) μ
  | .partition, [.str b] => ∃ a, x = .str a ∧ (b.length == 0) = false ∧ a.length ≤ sizeLine ∧ R (.tup [.str (Txt.partition a b).1, .str (Txt.partition a b).2.1, .str (Txt.partition a b).2.2]) μ
  | .startswith, [.str b] => ∃ a, x = .str a ∧ R (.bl (Txt.startswith a b)) μ
  | _, _ => False
def lmId : Lm → String
  | .append => "list.append" | .pop => "list.pop" | .popAt => "list.pop" | .extend => "list.extend" | .index => "list.index" | .insert => "list.insert" | .remove => "list.remove" | .count => "list.count" | .join => "str.join" | .split => "str.split" | .partition => "str.partition" | .startswith => "str.startswith"
def lmName : Lm → Str
  | .append => "append" | .pop => "pop" | .popAt => "pop" | .extend => "extend" | .index => "index" | .insert => "insert" | .remove => "remove" | .count => "count" | .join => "join" | .split => "split" | .partition => "partition" | .startswith => "startswith"
def lmTy : Lm → String
  | .join => "str" | .split => "str" | .partition => "str" | .startswith => "str" | _ => "list"
/-- what a method is asked of -/
def rcv (m : Lm) (μ : Sto) (x : T) : Prop :=
  match m with
  | .join => ∃ z, x = .str z
  | .split => ∃ z, x = .str z
  | .partition => ∃ z, x = .str z
  | .startswith => ∃ z, x = .str z
  | _ => ∃ us, vlst μ x = some us
def OpM (K : PySem.W.Frag) (L : Lay) (tb : T → List T → Sto → RP → Prop) : V → List V → Hp → VK → Prop := fun x xs H Q => ∃ Φ B μ t ts R, St K L Φ H B μ ∧ Tr K B x t ∧ Trs K B xs ts ∧ tb t ts μ R ∧ Post K L Φ B R Q
section
variable {X : Cx} {L : Lay}
theorem onM_ok {K : PySem.W.Frag} {Φ H B : Hp} {μ : Sto} {x : T} {v : V} {k : List T → Addr → Prop} (S : St K L Φ H B μ) (r : Tr K B v x) (h : onM μ x k) : ∃ p vs ts, v = .ref p ∧ H p = some (.lst vs) ∧ Trs K B vs ts ∧ k ts p ∧ B p = none ∧ Φ p = none := by
  obtain ⟨p, ts, rfl, e, q⟩ := h
  obtain ⟨vs, h1, h2⟩ := S.mem e
  exact ⟨p, vs, ts, r, h1, h2, q, (S.sto p _ e).1, S.noF e⟩
theorem wr_ok {K : PySem.W.Frag} {Φ H B : Hp} {μ : Sto} {R : RP} {Q : VK} {y : V} {u : T} {p : Addr} {vs : List V} {ts : List T} (S : St K L Φ H B μ) (k : Post K L Φ B R Q) (hB : B p = none) (hF : Φ p = none) (r : Tr K B y u) (rs : Trs K B vs ts) (h : R u (μ.set p (.lst ts))) : Q y (upd H p (.lst vs)) :=
  k _ _ _ B _ (Same.refl _) (S.put hB hF (show ObOk K L (upd H p (.lst vs)) B p (.lst ts) from ⟨vs, upd_same, rs⟩)) r h
theorem lm_ok (hu : X.A.units + 65 < cLine) (m : Lm) : MtR X (lmId m) (OpM X.K L (tLm m)) := by
  intro pins s σ H x xs v us Q I rx rus ⟨Φ, B, μ, t, ts, R, S, r1, rs, h, k⟩
  unfold tLm at h
  split at h
  · obtain ⟨y, rfl, r2⟩ := rs.one
    obtain ⟨p, vs, us', rfl, h1, h2, ⟨hz, h⟩, hB, hF⟩ := onM_ok S r1 h
    have e := h2.length
    exact mt_append pins s σ H _ _ v us Q I rx rus ⟨p, vs, y, rfl, rfl, h1, by omega, wr_ok (u := .non) S k hB hF rfl (h2.append (Trs.cons r2 Trs.nil)) h⟩
  · cases (show xs = [] from rs)
    obtain ⟨p, vs, us', rfl, h1, h2, ⟨y, hy, h⟩, hB, hF⟩ := onM_ok S r1 h
    obtain ⟨w, ew, rw'⟩ := h2.get hy
    exact mt_pop pins s σ H _ _ v us Q I rx rus ⟨p, vs, w, rfl, rfl, h1, by rw [h2.length]; exact ew, wr_ok S k hB hF rw' h2.dropLast h⟩
  · obtain ⟨y, rfl, r2⟩ := rs.one
    obtain rfl := r2
    obtain ⟨p, vs, us', rfl, h1, h2, ⟨j, y, b1, b2, hj, hy, h⟩, hB, hF⟩ := onM_ok S r1 h
    obtain ⟨w, ew, rw'⟩ := h2.get hy
    exact mt_popAt pins s σ H _ _ v us Q I rx rus ⟨p, vs, _, j, w, rfl, rfl, h1, b1, b2, by rw [h2.length]; exact hj, ew, wr_ok S k hB hF rw' (h2.eraseIdx j) h⟩
  · obtain ⟨y, rfl, r2⟩ := rs.one
    obtain ⟨p, vs, us', rfl, h1, h2, h, hB, hF⟩ := onM_ok S r1 h
    obtain ⟨b, ws, us2, rfl, g1, g2, hz, h⟩ := onS_ok S r2 h
    have e := h2.length
    have e2 := g2.length
    exact mt_extend pins s σ H _ _ v us Q I rx rus ⟨p, b, vs, ws, rfl, rfl, h1, g1, by omega, wr_ok (u := .non) S k hB hF rfl (h2.append g2) h⟩
  · obtain ⟨y, rfl, r2⟩ := rs.one
    obtain ⟨a, vs, ts, rfl, h1, h2, j, z, f1, f2, hj, hz, hn, h⟩ := onL_ok S r1 h
    obtain ⟨w, ew, rw'⟩ := h2.get hj
    have fz : flatT z = true := List.all_eq_true.mp f2 z (List.mem_of_getElem? hj)
    refine mt_index pins s σ H _ _ v us Q I rx rus ⟨a, vs, y, j, w, rfl, rfl, h1, flat_one r2 f1, h2.flat f2, ew, by rw [eqT_ok rw' r2 fz f1]; exact hz, fun n z' hn' e => ?_, k.here S (show Tr X.K B (.int _) (.int _) from rfl) h⟩
    have hl : n < ts.length := by
      rw [← h2.length]
      exact (List.getElem?_eq_some_iff.mp e).1
    obtain ⟨w2, e2, r3⟩ := h2.get (List.getElem?_eq_getElem hl)
    rw [e] at e2
    cases e2
    rw [eqT_ok r3 r2 (List.all_eq_true.mp f2 _ (List.getElem_mem hl)) f1]
    exact hn n _ hn' (List.getElem?_eq_getElem hl)
  · obtain ⟨y, w, rfl, r2, r3⟩ := rs.two
    obtain rfl := r2
    obtain ⟨p, vs, us', rfl, h1, h2, ⟨hz, b1, b2, h⟩, hB, hF⟩ := onM_ok S r1 h
    have e := h2.length
    exact mt_insert pins s σ H _ _ v us Q I rx rus ⟨p, vs, _, w, rfl, rfl, h1, by omega, b1, b2, wr_ok (u := .non) S k hB hF rfl (((h2.take _).append (Trs.cons r3 Trs.nil)).append (h2.drop _)) h⟩
  · obtain ⟨y, rfl, r2⟩ := rs.one
    obtain rfl := r2
    obtain ⟨a, vs, ts, rfl, h1, h2, ns, rfl, h⟩ := onL_ok S r1 h
    have e := h2.ints
    subst e
    exact mt_lcount pins s σ H _ _ v us Q I rx rus ⟨a, ns, _, rfl, rfl, h1, k.here S (show Tr X.K B (.int _) (.int _) from rfl) h⟩
  · obtain ⟨y, rfl, r2⟩ := rs.one
    obtain rfl := r2
    obtain ⟨p, vs, us', rfl, h1, h2, ⟨ns, j, rfl, hj, hn, h⟩, hB, hF⟩ := onM_ok S r1 h
    have e := h2.ints
    subst e
    exact mt_remove pins s σ H _ _ v us Q I rx rus ⟨p, ns, _, j, rfl, rfl, h1, hj, hn, wr_ok (u := .non) S k hB hF rfl (Trs.of_ints _) h⟩
  · obtain ⟨y, rfl, r2⟩ := rs.one
    obtain ⟨p, vs, us', rfl, h1, h2, ⟨d, ds, j, z, e1, sd, e2, sl, hz, hzj, hno, h⟩, hB, hF⟩ := onM_ok S r1 h
    exact mt_removeD hu pins s σ H _ _ v us Q I rx rus ⟨p, vs, y, d, ds, j, z, rfl, rfl, h1, dats_ok S 8 _ _ _ e2 h2, dat_ok S 9 _ _ _ e1 r2, sl, sd, hz, hzj, hno, wr_ok (u := .non) S k hB hF rfl (h2.eraseIdx j) h⟩
  · obtain ⟨y, rfl, r2⟩ := rs.one
    obtain ⟨a, ys, rfl, hy, hz, h⟩ := h
    obtain rfl := r1
    rcases hy with hy | rfl
    · obtain ⟨b, vs, rfl, h1, h2⟩ := vlst_ok S r2 hy
      have e := h2.strs
      subst e
      exact mt_join pins s σ H _ _ v us Q I rx rus ⟨a, b, ys, rfl, rfl, .inl h1, hz, k.here S (show Tr X.K B (.str _) (.str _) from rfl) h⟩
    · obtain ⟨b, vs, rfl, h1, h2⟩ := vtup_ok S r2 rfl
      have e := h2.strs
      subst e
      exact mt_join pins s σ H _ _ v us Q I rx rus ⟨a, b, ys, rfl, rfl, .inr h1, hz, k.here S (show Tr X.K B (.str _) (.str _) from rfl) h⟩
  · obtain ⟨y, rfl, r2⟩ := rs.one
    obtain ⟨a, rfl, hb, hz, h⟩ := h
    obtain rfl := r1
    obtain rfl := r2
    exact mt_split pins s σ H _ _ v us Q I rx rus ⟨a, _, rfl, rfl, hb, hz, fun p hp => newL_ok (own := false) S (Trs.of_strs _) h k hp⟩
  · obtain ⟨y, rfl, r2⟩ := rs.one
    obtain ⟨a, rfl, hb, hz, h⟩ := h
    obtain rfl := r1
    obtain rfl := r2
    exact mt_partition pins s σ H _ _ v us Q I rx rus ⟨a, _, rfl, rfl, hb, hz, fun p hp => newT_ok S (Trs.of_strs [_, _, _]) h k hp⟩
  · obtain ⟨y, rfl, r2⟩ := rs.one
    obtain ⟨a, rfl, h⟩ := h
    obtain rfl := r1
    obtain rfl := r2
    exact mt_startswith pins s σ H _ _ v us Q I rx rus ⟨a, _, rfl, rfl, k.here S (show Tr X.K B (.bl _) (.bl _) from rfl) h⟩
  · exact h.elim
end
end Rh

namespace Rh
open PySem PySem.Spec PyProof.Rows L2

/-! ## 8. The core: expressions by places and numbers, and what they mean on trees -/
inductive Tg where
  | nm (i : Nat) | tup (gs : List Tg)
inductive ItK where
  | val | tupl | strg | rng1 | rng2 | enum | zip | rev
inductive Ex where
  | var (i : Nat) | cint (i : Int) | cstr (s : Str) | cbl (b : Bool) | cnon | glob (k : Nat)
  | bin (op : Operator) (own : Bool) (a b : Ex) | cpow (a b v : Int) | neg (a : Ex)
  | cmp (op : CmpOp) (a b : Ex) | chain (op op' : CmpOp) (a b c : Ex)
  | andor (w : Bool) (es : List Ex) | not (a : Ex) | ife (c a b : Ex)
  | idx (a b : Ex) | slice (own : Bool) (a lo hi : Ex)
  | lst (own : Bool) (es : List Ex) | tup (es : List Ex) | dict (ks vs : List Ex)
  | bif (f : Bif) (own : Bool) (es : List Ex) | isi (ks : List String) (a : Ex)
  | call (f nd : Nat) (es : List Ex) | meth (f nd : Nat) (o : Ex) (es : List Ex) | make (c : Nat) (es : List Ex)
  | fld (c i : Nat) (o : Ex) | lm (m : Lm) (o : Ex) (es : List Ex)
  | comp (own : Bool) (vs : List Nat) (g : Tg) (k : ItK) (its : List Ex) (cond elt : Ex)
  | lrng (own : Bool) (a : Ex) | isx (i h : Nat)
  | nset (a : Ex) | isx2 (i h h' : Nat) | isc (d : Nat) (a : Ex) | chain3 (op op' op2 : CmpOp) (a b c d : Ex) | lrev (own : Bool) (a : Ex)
  | hcall (f : Nat) (es : List Ex) | alt (a b : Ex)
abbrev TEx := Ro → Sto → XP → RP → Prop
abbrev TTe := Ro → Sto → XP → (Bool → Sto → Prop) → Prop
abbrev TSp := List T → Sto → XP → RP → Prop
structure FnI where
  name : Str
  cls : Option Nat
  lvl : Nat
  np : Nat
  dfl : List Int
structure ClI where
  name : Str
  init : Nat
structure Tab where
  fn : Nat → Option FnI
  cl : Nat → Option ClI
  ex : Nat → Option Str
  con : Nat → Option (Str × T)
  flds : Nat → List Str
  xs : Bool
  xc : Bool
  fh : Nat → Option FnI
/-- defaults left out -/
def FnI.rest (i : FnI) (nd : Nat) : List Int := i.dfl.drop (i.dfl.length - nd)
def noX : XP := fun _ _ => False
abbrev any : Sto → Prop := fun _ => True

def unp (μ : Sto) : T → Option (List T)
  | .tup ts => some ts
  | t => vlst μ t
mutual
def bindT : Tg → T → Ro → Sto → (Ro → Prop) → Prop
  | .nm i, t, ρ, _, k => k (ρ.set i (some t))
  | .tup gs, t, ρ, μ, k => ∃ ts, unp μ t = some ts ∧ ts.length = gs.length ∧ bindTs gs ts ρ μ k
def bindTs : List Tg → List T → Ro → Sto → (Ro → Prop) → Prop
  | [], _, ρ, _, k => k ρ
  | g :: gs, ts, ρ, μ, k => ∃ t r, ts = t :: r ∧ bindT g t ρ μ fun ρ' => bindTs gs r ρ' μ k
end
def onG (μ : Sto) (t : T) (k : List T → (Sto → Prop) → Prop) : Prop :=
  match t with
  | .lst us => k us any
  | .scr us => k us any
  | .own p => ∃ us, μ p = some (.lst us) ∧ k us fun μ' => μ' p = some (.lst us)
  | _ => False
def signs (z : Str) : List T := z.cps.toList.map fun c => .str ⟨#[c]⟩
def itT (k : ItK) (ts : List T) (μ : Sto) (K : List T → (Sto → Prop) → Prop) : Prop :=
  match k, ts with
  | .strg, [t] => ∃ z, t = .str z ∧ K (signs z) any
  | .tupl, [t] => ∃ us, t = .tup us ∧ K us any
  | .val, [t] => onG μ t K
  | .rng1, [t] => ∃ n, t = .int n ∧ (-(2 ^ 62) ≤ n ∧ n < 2 ^ 62) ∧ K ((List.range n.toNat).map fun i => .int (i : Nat)) any
  | .rng2, [t, u] => ∃ a b, t = .int a ∧ u = .int b ∧ (-(2 ^ 62) ≤ a ∧ a < 2 ^ 62 ∧ -(2 ^ 62) ≤ b ∧ b < 2 ^ 62) ∧ K ((List.range (b - a).toNat).map fun i => .int (a + (i : Nat))) any
  | .enum, [t] => onG μ t fun us gd => K (us.zipIdx.map fun p => .tup [.int (p.2 : Nat), p.1]) gd
  | .zip, [t, u] => onG μ t fun us g1 => onG μ u fun ws g2 => K ((us.zip ws).map fun p => .tup [p.1, p.2]) fun μ' => g1 μ' ∧ g2 μ'
  | .rev, [t] => onG μ t fun us gd => K us.reverse gd
  | _, _ => False
def evs : List (TEx × TTe) → Ro → Sto → XP → (List T → Sto → Prop) → Prop
  | [], _, μ, _, k => k [] μ
  | p :: ps, ρ, μ, F, k => p.1 ρ μ F fun t μ1 => evs ps ρ μ1 F fun ts μ2 => k (t :: ts) μ2
def boV (w : Bool) : List (TEx × TTe) → TEx
  | [], _, _, _, _ => False
  | [p], ρ, μ, F, R => p.1 ρ μ F R
  | p :: ps, ρ, μ, F, R => p.1 ρ μ F fun t μ1 => truT μ1 t fun b => if b = w then boV w ps ρ μ1 F R else R t μ1
def boT (w : Bool) : List (TEx × TTe) → TTe
  | [], _, _, _, _ => False
  | [p], ρ, μ, F, k => p.2 ρ μ F k
  | p :: ps, ρ, μ, F, k => p.2 ρ μ F fun b μ1 => if b = w then boT w ps ρ μ1 F k else k b μ1
def plain (te : TEx) : TEx × TTe := (te, fun ρ μ F k => te ρ μ F fun t μ1 => truT μ1 t fun b => k b μ1)
def cmpd (te : TEx) : TEx × TTe := (te, fun ρ μ F k => te ρ μ F fun t μ1 => ∃ b, t = .bl b ∧ k b μ1)
def isStr (μ : Sto) : T → Option String
  | .non => some "NoneType" | .bl _ => some "bool" | .int _ => some "int" | .str _ => some "str" | .tup _ => some "tuple" | .lst _ => some "list" | .scr _ => none
  | .own p => match μ p with
    | some (.lst _) => some "list"
    | some (.dict _) => some "dict"
    | _ => none
def isT (t k : String) : Bool := t == k || (t == "bool" && k == "int")
def optI (lo : Ex) (t : T) : Option (Option Int) :=
  match lo, t with
  | .cnon, _ => some none
  | _, .int i => some (some i)
  | _, _ => none
/-- a list made item by item -/
def compD (own : Bool) (vs : List Nat) (g : Tg) (cond elt : TEx × TTe) (ρ : Ro) (R : RP) (ts : List T) (gd : Sto → Prop) (μ : Sto) : Prop :=
  ∃ I : List T → List T → Sto → Prop, I [] ts μ ∧ (∀ acc μ2, I acc [] μ2 → gd μ2 ∧ newL own acc μ2 R) ∧
    ∀ acc t r μ2, I acc (t :: r) μ2 → gd μ2 ∧ bindT g t (wipeT ρ vs) μ2 fun ρ' => cond.2 ρ' μ2 noX fun b μ3 =>
      if b = true then elt.1 ρ' μ3 noX fun y μ4 => acc.length < sizeLine ∧ ∃ y' μ5, WkV y μ4 y' μ5 ∧ I (acc ++ [y']) r μ5 else I acc r μ3
section
variable (G : Tab) (Γ : Nat → TSp)
mutual
def den : Ex → TEx × TTe
  | .var i => plain fun ρ μ _ R => ∃ t, ρ[i]? = some (some t) ∧ R t μ
  | .cint i => plain fun _ μ _ R => R (.int i) μ
  | .cstr s => plain fun _ μ _ R => R (.str s) μ
  | .cbl b => plain fun _ μ _ R => R (.bl b) μ
  | .cnon => plain fun _ μ _ R => R .non μ
  | .glob k => plain fun _ μ _ R => ∃ x, G.con k = some x ∧ R x.2 μ
  | .bin op own a b => plain fun ρ μ F R => (den a).1 ρ μ F fun x μ1 => (den b).1 ρ μ1 F fun y μ2 => tBin op own x y μ2 R
  | .cpow _ _ v => plain fun _ μ _ R => R (.int v) μ
  | .neg a => plain fun ρ μ F R => (den a).1 ρ μ F fun x μ1 => ∃ i, x = .int i ∧ R (.int (-i)) μ1
  | .cmp op a b => cmpd fun ρ μ F R => (den a).1 ρ μ F fun x μ1 => (den b).1 ρ μ1 F fun y μ2 => tCmp op x y μ2 R
  | .chain op op' a b c => cmpd fun ρ μ F R => (den a).1 ρ μ F fun x μ1 => (den b).1 ρ μ1 F fun y μ2 => tCmp op x y μ2 fun z μ3 => ∃ k, z = .bl k ∧ if k = true then (den c).1 ρ μ3 F fun w μ4 => tCmp op' y w μ4 R else R (.bl false) μ3
  | .andor w es => let ps := dens es; (boV w ps, boT w ps)
  | .not a => (fun ρ μ F R => (den a).1 ρ μ F fun t μ1 => truT μ1 t fun b => R (.bl (!b)) μ1, fun ρ μ F k => (den a).2 ρ μ F fun b μ1 => k (!b) μ1)
  | .ife c a b => (fun ρ μ F R => (den c).2 ρ μ F fun k μ1 => if k = true then (den a).1 ρ μ1 F R else (den b).1 ρ μ1 F R, fun _ _ _ _ => False)
  | .idx a b => plain fun ρ μ F R => (den a).1 ρ μ F fun x μ1 => (den b).1 ρ μ1 F fun y μ2 => tIdx x y μ2 R
  | .slice own a lo hi => plain fun ρ μ F R => (den a).1 ρ μ F fun x μ1 => (den lo).1 ρ μ1 F fun l μ2 => ∃ l', optI lo l = some l' ∧ (den hi).1 ρ μ2 F fun h μ3 => ∃ h', optI hi h = some h' ∧ tSlice own x l' h' μ3 R
  | .lst own es => let ps := dens es; plain fun ρ μ F R => evs ps ρ μ F fun ts μ1 => ts.length ≤ sizeLine ∧ newL own ts μ1 R
  | .tup es => let ps := dens es; plain fun ρ μ F R => evs ps ρ μ F fun ts μ1 => ts.length ≤ sizeLine ∧ R (.tup ts) μ1
  | .dict ks vs => let pk := dens ks; let pv := dens vs; plain fun ρ μ F R => match pk, pv with
    | [], [] => ∀ p, μ p = none → R (.own p) (μ.set p (.dict []))
    | [k], [v] => k.1 ρ μ F fun x μ1 => v.1 ρ μ1 F fun y μ2 => ∃ k', keyT x = some k' ∧ ∀ p, μ2 p = none → R (.own p) (μ2.set p (.dict [(k', y)]))
    | _, _ => False
  | .bif f own es => let ps := dens es; plain fun ρ μ F R => evs ps ρ μ F fun ts μ1 => tBif f own ts μ1 R
  | .isx i h => plain fun ρ μ F R => ∃ t, ρ[i]? = some (some t) ∧ Γ 999999 [t, .int h] μ F R
  | .nset a => plain fun ρ μ F R => (den a).1 ρ μ F fun x μ1 => ∃ ns : List Int, vlst μ1 x = some (ns.map T.int) ∧ ns.length ≤ 4000 ∧ R (.int ((PyProof.Rows.firstMet (fun i => ns.getD i 0) ns.length).length : Nat)) μ1
  | .isx2 i h h' => plain fun ρ μ F R => ∃ t, ρ[i]? = some (some t) ∧ Γ 999999 [t, .int h] μ F fun x μ1 => ∃ b, x = .bl b ∧ Γ 999999 [t, .int h'] μ1 F fun y μ2 => ∃ b', y = .bl b' ∧ R (.bl (b || b')) μ2
  | .isc d a => plain fun ρ μ F R => (den a).1 ρ μ F fun x μ1 => ∃ p us, x = .own p ∧ μ1 p = some (.obj d us) ∧ R (.bl true) μ1
  | .chain3 op op' op2 a b c d => cmpd fun ρ μ F R => (den a).1 ρ μ F fun x μ1 => (den b).1 ρ μ1 F fun y μ2 => tCmp op x y μ2 fun z μ3 => ∃ k, z = .bl k ∧ if k = true then (den c).1 ρ μ3 F fun w μ4 => tCmp op' y w μ4 fun z' μ5 => ∃ k', z' = .bl k' ∧ if k' = true then (den d).1 ρ μ5 F fun v μ6 => tCmp op2 w v μ6 R else R (.bl false) μ5 else R (.bl false) μ3
  | .lrng own a => plain fun ρ μ F R => (den a).1 ρ μ F fun x μ1 => ∃ n, x = .int n ∧ -(2 ^ 62) ≤ n ∧ n ≤ 16777216 ∧ newL own ((List.range n.toNat).map fun i => .int (i : Nat)) μ1 R
  | .lrev own a => plain fun ρ μ F R => (den a).1 ρ μ F fun x μ1 => ∃ us, vlst μ1 x = some us ∧ newL own us.reverse μ1 R
  | .hcall f es => let ps := dens es; plain fun ρ μ F R => evs ps ρ μ F fun ts μ1 => ∃ i, G.fh f = some i ∧ Γ 999998 [] μ1 noX fun u μ2 => Γ f (u :: ts) μ2 noX R
  | .alt a b => plain fun ρ μ F R => (den a).1 ρ μ F R ∨ (den b).1 ρ μ F R
  | .isi ks a => plain fun ρ μ F R => (den a).1 ρ μ F fun x μ1 => ∃ n, isStr μ1 x = some n ∧ R (.bl (ks.any (isT n))) μ1
  | .call f nd es => let ps := dens es; plain fun ρ μ F R => evs ps ρ μ F fun ts μ1 => ∃ i, G.fn f = some i ∧ Γ f (ts ++ (i.rest nd).map T.int) μ1 F R
  | .meth f nd o es => let ps := dens es; plain fun ρ μ F R => (den o).1 ρ μ F fun x μ1 => ∃ i c p us, G.fn f = some i ∧ i.cls = some c ∧ x = .own p ∧ μ1 p = some (.obj c us) ∧
      evs ps ρ μ1 F fun ts μ2 => Γ f (x :: (ts ++ (i.rest nd).map T.int)) μ2 F R
  | .make c es => let ps := dens es; plain fun ρ μ F R => evs ps ρ μ F fun ts μ1 => ∃ i, G.cl c = some i ∧ ∀ p, μ1 p = none → Γ i.init (.own p :: ts) (μ1.set p (.obj c [])) F fun v μ2 => v = .non ∧ R (.own p) μ2
  | .fld c i o => plain fun ρ μ F R => (den o).1 ρ μ F fun x μ1 => ∃ p us t, x = .own p ∧ μ1 p = some (.obj c us) ∧ us[i]? = some t ∧ R t μ1
  | .lm m o es => let ps := dens es; plain fun ρ μ F R => (den o).1 ρ μ F fun x μ1 => rcv m μ1 x ∧ evs ps ρ μ1 F fun ts μ2 => tLm m x ts μ2 R
  | .comp own vs g k its cond elt => let ps := dens its; let pc := den cond; let pe := den elt; plain fun ρ μ F R => evs ps ρ μ F fun ts μ1 => itT k ts μ1 fun us gd => compD own vs g pc pe ρ R us gd μ1
def dens : List Ex → List (TEx × TTe)
  | [] => []
  | e :: es => den e :: dens es
end
end

/-! ## 9. The core against the text -/
structure SC where
  N : List Str
  sc : Scope
  k : Nat
  m : Nat
  hot : Bool
  as : Bool
def vis (sc : Scope) (x : Str) : Bool := match sc.names.lookup x with
  | some .local => true | some .cell => true | some .free => true | _ => false
def loc (sc : Scope) (x : Str) : Bool := match sc.names.lookup x with
  | some .local => true | some .cell => true | _ => false
def glb (sc : Scope) (x : Str) : Bool := match sc.names.lookup x with
  | some .globalImplicit => true | _ => false
def plainN (x : Str) : Bool := !(x == ("__debug__" : Str)) && !(x == ("__classdict__" : Str)) && !(x == ("__name__" : Str))
def notSet : Expr → Bool
  | .Set .. => false
  | _ => true
def notSup : Expr → Bool
  | .Call (.Name id _) [] [] _ => !(id == ("super" : Str))
  | _ => true
def ownNames (N : List Str) (vs : List Nat) : List (Str × Nat) := vs.filterMap fun i => (N[i]?).map fun x => (x, i)
mutual
def chkG (c : SC) : Tg → Expr → Bool
  | .nm i, .Name x _ => decide (c.N[i]? = some x) && loc c.sc x
  | .tup gs, .Tuple es _ _ => chkGs c gs es && !c.hot
  | _, _ => false
def chkGs (c : SC) : List Tg → List Expr → Bool
  | [], [] => true
  | g :: gs, e :: es => chkG c g e && chkGs c gs es
  | _, _ => false
end
mutual
def tgIn (vs : List Nat) : Tg → Bool
  | .nm i => decide (i ∈ vs)
  | .tup gs => tgsIn vs gs
def tgsIn (vs : List Nat) : List Tg → Bool
  | [] => true
  | g :: gs => tgIn vs g && tgsIn vs gs
end
def isTupE : Expr → Bool
  | .Tuple .. => true
  | _ => false
def gName (c : SC) (n : Str) (x : Str) : Bool := decide (x = n) && glb c.sc x
/-- the classes of isinstance -/
def chkKs (c : SC) : List String → Expr → Bool
  | [k], .Name x _ => decide (x = Str.ofString k) && glb c.sc x && decide (k ∈ ["int", "bool", "str", "list", "tuple", "dict"])
  | _, _ => false
/-- the name of an exception's class -/
def exName (G : Tab) (h : Nat) : Option Str := if h = 999 then some "ValueError" else G.ex h
/-- which exception a clause takes -/
def subX (G : Tab) (a h : Nat) : Bool := decide (a = h) || decide (G.ex h = some ("RateError" : Str)) || decide (h = 999)
/-- what may be asked where an exception is handled -/
def hotB (as : Bool) : Bif → Bool
  | .int => true
  | .sum => as
  | _ => false
def isVal : ItK → Bool
  | .val => true
  | _ => false
def isCnon : Ex → Bool
  | .cnon => true
  | _ => false
def isCtrue : Ex → Bool
  | .cbl b => b
  | _ => false
section
variable (G : Tab)
def gFn (c : SC) (f nd k : Nat) (x : Str) : Bool := (match G.fn f with | some i => decide (i.name = x) && decide (i.cls = none) && decide (i.lvl ≤ c.k) && decide (nd ≤ i.dfl.length) && decide (k + nd = i.np) | none => false) && decide (f < c.m)
/-- a def that is called where an exception is handled -/
def gFh (c : SC) (f k : Nat) (x : Str) : Bool := (match G.fh f with | some i => decide (i.name = x) && decide (i.lvl ≤ c.k) && decide (k = i.np) | none => false) && decide (f < c.m)
def gMt (c : SC) (f nd k : Nat) (m : Str) : Bool := (match G.fn f with | some i => decide (i.name = m) && (match i.cls with | some d => decide (m ∉ G.flds d) | none => false) && decide (i.lvl ≤ c.k) && decide (nd ≤ i.dfl.length) && decide (k + nd + 1 = i.np) | none => false) && decide (f < c.m)
def gMk (c : SC) (d k : Nat) (x : Str) : Bool := match G.cl d with | some i => decide (i.name = x) && decide (i.init < c.m) && (match G.fn i.init with | some j => decide (j.lvl < c.k) && decide (k + 1 = j.np) | none => false) | none => false
def gCl (d : Nat) (k : Str) : Bool := match G.cl d with | some i => decide (i.name = k) | none => false
def gCon (k : Nat) (x : Str) : Bool := match G.con k with | some y => decide (y.1 = x) | none => false
mutual
def chkE (c : SC) : Ex → Expr → Bool
  | .var i, e => (match e with | .Name x _ => decide (c.N[i]? = some x) && vis c.sc x && plainN x | _ => false)
  | .cint i, e => (match e with | .Constant (.int j) _ _ => decide (i = j) | _ => false)
  | .cstr s, e => (match e with | .Constant (.str t) _ _ => decide (s = t) | _ => false)
  | .cbl b, e => (match e with | .Constant (.bool d) _ _ => decide (b = d) | _ => false)
  | .cnon, e => (match e with | .Constant .none _ _ => true | _ => false)
  | .glob k, e => (match e with | .Name x _ => gCon G k x && glb c.sc x && plainN x | _ => false)
  | .bin op _ a b, e => (match e with | .BinOp x o y _ => decide (op = o) && chkE c a x && chkE c b y | _ => false)
  | .cpow a b v, e => (match e with | .BinOp (.Constant (.int i) _ _) .Pow (.Constant (.int j) _ _) _ => decide (a = i) && decide (b = j) && decide (0 ≤ b ∧ b ≤ 1000 ∧ a.natAbs < 2 ^ 64) && decide (a ^ b.toNat = v) | _ => false)
  | .neg a, e => (match e with | .UnaryOp .USub x _ => chkE c a x | _ => false)
  | .cmp op a b, e => (match e with | .Compare x [o] [y] _ => decide (op = o) && chkE c a x && chkE c b y && notSet y | _ => false)
  | .chain op op' a b d, e => (match e with | .Compare x [o, o'] [y, z] _ => decide (op = o) && decide (op' = o') && chkE c a x && chkE c b y && chkE c d z && notSet z | _ => false)
  | .andor w es, e => (match e with | .BoolOp o xs _ => decide (o = if w then .And else .Or) && chkEs c es xs | _ => false)
  | .not a, e => (match e with | .UnaryOp .Not x _ => chkE c a x | _ => false)
  | .ife d a b, e => (match e with | .IfExp z x y _ => chkE c d z && chkE c a x && chkE c b y | _ => false)
  | .idx a b, e => (match e with | .Subscript x y _ => chkE c a x && chkE c b y | _ => false)
  | .slice _ a lo hi, e => (match e with | .Subscript x (.Slice l h none _) _ => chkE c a x && (match l with | none => isCnon lo | some l => !isCnon lo && chkE c lo l) && (match h with | none => isCnon hi | some h => !isCnon hi && chkE c hi h) | _ => false)
  | .lst _ es, e => (match e with | .List xs _ => chkEs c es xs | _ => false)
  | .tup es, e => (match e with | .Tuple xs _ _ => chkEs c es xs | _ => false)
  | .dict ks vs, e => (match e with | .Dict [] [] _ => chkEs c ks [] && chkEs c vs [] | .Dict [some k] [v] _ => chkEs c ks [k] && chkEs c vs [v] | _ => false)
  | .bif f _ es, e => (match e with | .Call (.Name x _) xs [] _ => gName c (bifName f) x && chkEs c es xs && !xs.isEmpty && (!c.hot || hotB c.as f) | _ => false)
  | .lrng _ a, e => (match e with | .Call (.Name l _) [.Call (.Name f _) [x] [] _] [] _ => gName c "list" l && gName c "range" f && chkE c a x && !c.hot | _ => false)
  | .isi ks a, e => (match e with | .Call (.Name x _) [y, z] [] _ => gName c "isinstance" x && chkE c a y && chkKs c ks z | _ => false)
  | .isx i h, e => (match e with | .Call (.Name f _) [.Name x _, .Name k _] [] _ => gName c "isinstance" f && decide (c.N[i]? = some x) && vis c.sc x && plainN x && decide (exName G h = some k) && glb c.sc k && plainN k && c.as && G.xs | _ => false)
  | .call f nd es, e => (match e with | .Call (.Name x _) xs [] _ => gFn G c f nd xs.length x && glb c.sc x && plainN x && chkEs c es xs && !c.hot | _ => false)
  | .meth f nd o es, e => (match e with | .Call (.Attribute y m apos) xs [] cpos => (apos.endLine == cpos.line) && decide (xs.length < 30) && gMt G c f nd xs.length m && chkE c o y && notSup y && chkEs c es xs && !c.hot | _ => false)
  | .make d es, e => (match e with | .Call (.Name x _) xs [] _ => gMk G c d xs.length x && glb c.sc x && plainN x && chkEs c es xs && !c.hot | _ => false)
  | .fld d i o, e => (match e with | .Attribute y f _ => chkE c o y && notSup y && decide ((G.flds d)[i]? = some f) | _ => false)
  | .lm m o es, e => (match e with | .Call (.Attribute y f apos) xs [] cpos => decide (f = lmName m) && (apos.endLine == cpos.line) && chkE c o y && notSup y && chkEs c es xs && decide (xs.length < 30) | _ => false)
  | .comp _ vs g k its cond elt, e => (match e with | .ListComp z [⟨tg, iter, ifs, 0⟩] scope _ => chkIt c k its iter tg && chkG { c with sc := scope, as := false } g tg && (match ifs with | [] => isCtrue cond | [d] => chkE { c with sc := scope, as := false } cond d | _ => false) && chkE { c with sc := scope, as := false } elt z && blkC c.N c.sc scope (ownNames c.N vs) && decide ((ownNames c.N vs).map (·.2) = vs) && tgIn vs g && (!c.hot || (c.as && isVal k)) | _ => false)
  | .hcall f es, e => (match e with | .Call (.Name x _) xs [] _ => gFh G c f xs.length x && glb c.sc x && plainN x && chkEs c es xs && c.as | _ => false)
  | .alt a b, e => (match e with | .Call f xs ks p => chkE c a (.Call f xs ks p) && chkE c b (.Call f xs ks p) | _ => false)
  | .nset a, e => (match e with | .Call (.Name l _) [.Call (.Name f _) [x] [] _] [] _ => gName c "len" l && gName c "set" f && chkE c a x && !c.hot | _ => false)
  | .isx2 i h h', e => (match e with | .Call (.Name f _) [.Name x _, .Tuple [.Name k _, .Name k' _] _ _] [] _ => gName c "isinstance" f && decide (c.N[i]? = some x) && vis c.sc x && plainN x && decide (exName G h = some k) && glb c.sc k && plainN k && decide (exName G h' = some k') && glb c.sc k' && plainN k' && c.as && G.xs | _ => false)
  | .isc d a, e => (match e with | .Call (.Name f _) [y, .Name k _] [] _ => gName c "isinstance" f && chkE c a y && gCl G d k && glb c.sc k && plainN k && G.xc | _ => false)
  | .chain3 op op' op2 a b d f, e => (match e with | .Compare x [o, o', o2] [y, z, w] _ => decide (op = o) && decide (op' = o') && decide (op2 = o2) && chkE c a x && chkE c b y && chkE c d z && chkE c f w && notSet w | _ => false)
  | .lrev _ a, e => (match e with | .Call (.Name l _) [.Call (.Name f _) [x] [] _] [] _ => gName c "list" l && gName c "reversed" f && chkE c a x && !c.hot | _ => false)
def chkEs (c : SC) : List Ex → List Expr → Bool
  | [], xs => xs.isEmpty
  | e :: es, xs => (match xs with | [] => false | x :: xs => chkE c e x && chkEs c es xs)
def chkIt (c : SC) : ItK → List Ex → Expr → Expr → Bool
  | k, [a], e, tg => (match k, e with
    | .val, x => chkE c a x && notSet x
    | .tupl, x => chkE c a x && notSet x
    | .strg, x => chkE c a x && notSet x
    | .rng1, .Call (.Name f _) [x] [] _ => gName c "range" f && chkE c a x
    | .enum, .Call (.Name f _) [x] [] _ => gName c "enumerate" f && chkE c a x && isTupE tg
    | .rev, .Call (.Name f _) [x] [] _ => gName c "reversed" f && chkE c a x
    | _, _ => false)
  | k, [a, b], e, tg => (match k, e with
    | .rng2, .Call (.Name f _) [x, y] [] _ => gName c "range" f && chkE c a x && chkE c b y
    | .zip, .Call (.Name f _) [x, y] [] _ => gName c "zip" f && chkE c a x && chkE c b y && isTupE tg
    | _, _ => false)
  | _, _, _, _ => false
end
end
end Rh

namespace Rh
open PySem PySem.Spec PyProof.Rows L2

/-! ## 10. What is known of the whole text -/
def spOf (K : PySem.W.Frag) (L : Lay) (n : Nat) (S : TSp) : Sp := fun vs H Q E => vs.length = n ∧ ∃ Φ B μ ts R F, St K L Φ H B μ ∧ Trs K B vs ts ∧ S ts μ F R ∧ Post K L Φ B R Q ∧ PostX K L Φ B F E
def blNames : List Str := ["len", "sum", "max", "min", "list", "tuple", "sorted", "all", "any", "str", "int", "bool", "dict", "isinstance", "range", "enumerate", "zip", "reversed", "ValueError", "set"]
structure FnF (K : PySem.W.Frag) (mg : Str → Option Value) (L : Lay) (P : Program) (w : World) (base : Heap) (Γ : TSp) (i : FnI) (a : Addr) (fd : FuncData) (ps : List Str) : Prop where
  ok : FnOk P w K mg base (CXR P w) i.lvl a fd ps (spOf K L i.np Γ)
  kp : PySem.W.keepIn K (.ref a) = true
  bi : ∀ nd, nd ≤ i.dfl.length → ∃ ds, Binds K fd ps ds ∧ Vals ((i.rest nd).map V.int) ds
  mg_ : i.cls = none → mg i.name = some (.ref a)
  me : ∀ c, i.cls = some c → Meth K (L.addr c) i.name a
/-- a def that is called where p's exception, one of the class a, is handled -/
def spH (G : Tab) (K : PySem.W.Frag) (L : Lay) (n : Nat) (S : TSp) : Addr × Obj → Sp := fun p vs H Q _ => vs.length = n ∧ ∃ a c Φ B μ ts R, G.ex a = some c ∧ Zc (.ref (L.exc a)) Option.none p.2 ∧ (∃ ws, p.2.data = .fields ws) ∧ St K L Φ H B μ ∧ Trs K B vs ts ∧ S (.tup [.int (a : Nat), .own p.1] :: ts) μ noX R ∧ Post K L Φ B R Q
structure FhF (G : Tab) (K : PySem.W.Frag) (mg : Str → Option Value) (L : Lay) (P : Program) (w : World) (base : Heap) (Γ : TSp) (i : FnI) (a : Addr) (fd : FuncData) (ps : List Str) : Prop where
  ok : FhOk P w K mg base i.lvl a fd ps (spH G K L i.np Γ)
  kp : PySem.W.keepIn K (.ref a) = true
  bi : Binds K fd ps []
  mg_ : mg i.name = some (.ref a)
structure ExF (K : PySem.W.Frag) (mg : Str → Option Value) (n : Str) (a : Addr) : Prop where
  mg_ : mg n = some (.ref a)
  ex : PySem.W.excIn K a [.type "ValueError", .type "Exception", .type "BaseException", .type "object"] "ValueError.__new__" = true
  kp : PySem.W.keepIn K (.ref a) = true
  sb : PySem.W.subIn K (.ref a) (.type "BaseException") = some true
  ty : PySem.W.typeIn K (.ref a) = some (.type "type")
structure ClF (K : PySem.W.Frag) (mg : Str → Option Value) (G : Tab) (L : Lay) (c : Nat) (i : ClI) : Prop where
  mg_ : mg i.name = some (.ref (L.addr c))
  cl : Cls K (L.addr c)
  mks : PySem.W.makesIn K (L.addr c) = true
  kp : PySem.W.keepIn K (.ref (L.addr c)) = true
  no : ∀ f, f ∈ G.flds c → NoAttr K (L.addr c) f
  nd : (G.flds c).Nodup
  sz : (G.flds c).length < 1000
  ini : ∃ j, G.fn i.init = some j ∧ j.cls = some c ∧ j.name = "__init__" ∧ j.dfl = []
structure GOk (G : Tab) (Γ : Nat → TSp) (L : Lay) (m : Nat) (P : Program) (w : World) (K : PySem.W.Frag) (mg : Str → Option Value) (base : Heap) : Prop where
  fn : ∀ f i, f < m → G.fn f = some i → ∃ a fd ps, FnF K mg L P w base (Γ f) i a fd ps
  cl : ∀ c i, G.cl c = some i → ClF K mg G L c i
  ex : ∀ x n, G.ex x = some n → ExF K mg n (L.exc x)
  bl : ∀ n ∈ blNames, mg n = none
  con : ∀ k y, G.con k = some y → ∃ v u, mg y.1 = some u ∧ RelV v u ∧ ∀ B, Tr K B v y.2
  fl : L.flds = G.flds
  ki : G.xs = true → ∀ a n, G.ex a = some n → (∀ h m, G.ex h = some m → PySem.W.kitOne K (.ref (L.exc a)) (.ref (L.exc h)) = some (subX G a h)) ∧ PySem.W.kitOne K (.ref (L.exc a)) (.type "ValueError") = some true ∧ ExcC K (L.exc a)
  kc : G.xc = true → ∀ d i, G.cl d = some i → C8.InsC K (L.addr d)
  su : ∀ a h n m, G.ex a = some n → G.ex h = some m → PySem.W.exmOne K (.ref (L.exc a)) (.ref (L.exc h)) = some (subX G a h)
  fh : ∀ f i, f < m → G.fh f = some i → ∃ a fd ps, FhF G K mg L P w base (Γ f) i a fd ps
/-- what a suite knows of the exception that it has taken -/
def S_cur (G : Tab) (p : Addr) (a : Nat) : TSp := fun ts μ _ R => ∃ h, ts = [.own p, .int (h : Nat)] ∧ (exName G h).isSome = true ∧ R (.bl (subX G a h)) μ
/-- which exception it is -/
def S_now (p : Addr) (a : Nat) : TSp := fun _ μ _ R => R (.tup [.int (a : Nat), .own p]) μ
structure Ctx (G : Tab) (Γ : Nat → TSp) (L : Lay) (c : SC) (X : Cx) (W : WX) : Prop where
  N : X.N = c.N
  nd : c.N.Nodup
  vi : ∀ x, vis c.sc x = true → Vis X.env.scope x
  st : ∀ x, loc c.sc x = true → Loc X.env.scope x ∧ (X.fn x = true ∨ X.env.scope.names.lookup x = some .local)
  gl : ∀ x, glb c.sc x = true → Gl X x
  fc : ∀ x, c.sc.names.lookup x = some .cell ∨ c.sc.names.lookup x = some .free → X.env.scope.names.lookup x = some .cell ∨ X.env.scope.names.lookup x = some .free
  room : c.hot = false → Room c.k X.A
  rh : L2H.RoomH c.k X.A
  hu : X.A.units + 65 < cLine
  calm : c.hot = false → X.calm = true
  tk : c.hot = false → TakesR X W
  cu : c.as = true → c.hot = true ∧ ∃ (p : Addr) (oe : Obj) (a : Nat) (n : Str), (p, oe) ∈ X.pn ∧ (∃ q, HotP X.A (p, oe) q ∧ q ∈ X.pn) ∧ G.ex a = some n ∧ Zc (.ref (L.exc a)) Option.none oe ∧ (∃ vs, oe.data = .fields vs) ∧ Γ 999999 = S_cur G p a ∧ Γ 999998 = S_now p a
  g : GOk G Γ L c.m X.prog X.w X.K X.mg X.base

/-! ## 11. The meaning of a piece of the text, as one reading -/
def sE (X : Cx) (e : Expr) : TE := fun σ H Q => ∀ pins s, L2.Inv X pins σ H s → wpAny (model X.prog X.w) X.A (eval e X.env) (EP X pins σ Q) X.xe s
def sT (X : Cx) (e : Expr) : TT := fun σ H Q => ∀ pins s, L2.Inv X pins σ H s → wpAny (model X.prog X.w) X.A (isTrue e X.env (eval e X.env)) (TP X pins σ Q) X.xe s
def sA (X : Cx) (es : List Expr) : TA := fun σ H Q => ∀ pos pins s, L2.Inv X pins σ H s → wpAny (model X.prog X.w) X.A (spliced (backTo pos (starEach es X.env))) (AP X pins σ Q) X.xe s
def sG (X : Cx) (e : Expr) : TG := fun v σ H Q => ∀ pins s u, L2.Inv X pins σ H s → RelV v u → wpAny (model X.prog X.w) X.A (assign e X.env u) (fun _ s' => ∃ σ' H', L2.Inv X pins σ' H' s' ∧ Q σ' H') X.xe s
theorem pe_s {X : Cx} {e : Expr} : PE X e (sE X e) := ⟨fun pins s _ _ _ I h => h pins s I⟩
theorem pt_s {X : Cx} {e : Expr} : PT X e (sT X e) := ⟨fun pins s _ _ _ I h => h pins s I⟩
theorem pa_s {X : Cx} {es : List Expr} : PA X es (sA X es) := ⟨fun pos pins s _ _ _ I h => h pos pins s I⟩
theorem pg_s {X : Cx} {e : Expr} : PG X e (sG X e) := ⟨fun pins s _ _ _ u _ I r h => h pins s u I r⟩
theorem sE_of {X : Cx} {e : Expr} {t : TE} {σ : L2.St} {H : Hp} {Q : VK} (p : PE X e t) (h : t σ H Q) : sE X e σ H Q := fun pins s I => p.run pins s σ H Q I h
theorem sT_of {X : Cx} {e : Expr} {t : TT} {σ : L2.St} {H : Hp} {Q : Bool → Hp → Prop} (p : PT X e t) (h : t σ H Q) : sT X e σ H Q := fun pins s I => p.run pins s σ H Q I h
theorem sA_of {X : Cx} {e : List Expr} {t : TA} {σ : L2.St} {H : Hp} {Q : List V → Hp → Prop} (p : PA X e t) (h : t σ H Q) : sA X e σ H Q := fun pos pins s I => p.run pos pins s σ H Q I h
theorem sG_of {X : Cx} {e : Expr} {t : TG} {v : V} {σ : L2.St} {H : Hp} {Q : L2.St → Hp → Prop} (p : PG X e t) (h : t v σ H Q) : sG X e v σ H Q := fun pins s u I r => p.run pins s σ H v u Q I r h
theorem sE_mono {X : Cx} {e : Expr} {σ : L2.St} {H : Hp} {Q Q' : VK} (h : sE X e σ H Q) (k : ∀ v H', Q v H' → Q' v H') : sE X e σ H Q' := fun pins s I => thn (h pins s I) fun u s' ⟨v, H', I', r, q⟩ => ⟨v, H', I', r, k v H' q⟩

def PostA (K : PySem.W.Frag) (L : Lay) (Φ B : Hp) (n : Nat) (R : List T → Sto → Prop) (Q : List V → Hp → Prop) : Prop := ∀ vs ts H' B' μ', Le B B' → St K L Φ H' B' μ' → Trs K B' vs ts → ts.length = n → R ts μ' → Q vs H'
def VOk (X : Cx) (L : Lay) (W : WX) (e : Expr) (te : TEx) : Prop := ∀ Φ B μ H σ ρ F R Q, St X.K L Φ H B μ → Slots X.K B σ ρ → te ρ μ F R → PostX X.K L Φ B F (WE W σ) → Post X.K L Φ B R Q → sE X e σ H Q
def TOk (X : Cx) (L : Lay) (W : WX) (e : Expr) (tt : TTe) : Prop := ∀ Φ B μ H σ ρ F R Q, St X.K L Φ H B μ → Slots X.K B σ ρ → tt ρ μ F R → PostX X.K L Φ B F (WE W σ) → PostB X.K L Φ B R Q → sT X e σ H Q
def AOk (X : Cx) (L : Lay) (W : WX) (es : List Expr) (ps : List (TEx × TTe)) : Prop := ∀ Φ B μ H σ ρ F R Q, St X.K L Φ H B μ → Slots X.K B σ ρ → evs ps ρ μ F R → PostX X.K L Φ B F (WE W σ) → PostA X.K L Φ B es.length R Q → sA X es σ H Q
structure Stat (x : Expr) : Prop where
  star : ∀ (env : Env) (es : List Expr), starEach (x :: es) env = (false, eval x env) :: starEach es env
  ix : PlainIx x
  asg : ∀ (o : Expr) (p : Pos) (env : Env) (v : Value), assign (.Subscript o x p) env v = (do
    let ov ← holding [v] (eval o env)
    let iv ← holding [v, ov] (eval x env)
    standAt p
    holding [v, ov, iv] (setItem ov iv v)
    release [v, ov, iv] [])
  aug : ∀ (ov iv new : Value), augStore x ov iv new = (do holding [new, ov, iv] (setItem ov iv new); release [new, ov, iv] []; pure .next)
structure EOk (X : Cx) (L : Lay) (W : WX) (e : Expr) (p : TEx × TTe) : Prop where
  v : VOk X L W e p.1
  t : TOk X L W e p.2
section
variable {X : Cx} {L : Lay} {W : WX}
theorem EOk.plain {e : Expr} {te : TEx} (h : VOk X L W e te) (he : ∀ whole, isTrue e X.env whole = (do let v ← whole; standAt e.pos; holding [v] (truthy v))) : EOk X L W e (Rh.plain te) :=
  ⟨h, fun Φ B μ H σ ρ F R Q S sl q kx k => sT_of (pt_truth pe_s he) (h Φ B μ H σ ρ F _ _ S sl q kx fun v t H' B' μ' le S' r q' => by
    obtain ⟨b, h1, h2⟩ := tru_okT S' r q'
    exact ⟨b, h1, k b H' B' μ' le S' h2⟩)⟩
theorem Paired.map_len {α β : Type} {G : α → β → Prop} {l : List α} {m : List β} (h : Paired G l m) : l.length = m.length := Paired.length h
theorem AOk.of : ∀ {es : List Expr} {ps : List (TEx × TTe)}, Paired (fun e p => EOk X L W e p ∧ Stat e) es ps → AOk X L W es ps
  | _, _, .nil => fun Φ B μ H σ ρ F R Q S sl h kx k => sA_of pa_nil (k [] [] H B μ (Same.refl _) S rfl rfl h)
  | _, _, .cons (l₁ := es) ⟨h1, st⟩ hs => fun Φ B μ H σ ρ F R Q S sl h kx k => by
    refine sA_of (pa_cons pe_s pa_s (st.star _ _)) ?_
    refine h1.v Φ B μ H σ ρ F _ _ S sl h kx fun v t H1 B1 μ1 l1 S1 r1 q1 => ?_
    refine AOk.of hs Φ B1 μ1 H1 σ ρ F _ _ S1 (sl.mono l1) q1 (kx.mono l1) fun vs ts H2 B2 μ2 l2 S2 r2 n2 q2 => ?_
    exact k (v :: vs) (t :: ts) H2 B2 μ2 (l1.trans l2) S2 (Trs.cons (r1.mono l2) r2) (by simp [n2]) q2
theorem star_plain : ∀ {es : List Expr} {ps : List (TEx × TTe)}, Paired (fun e p => EOk X L W e p ∧ Stat e) es ps → ∀ (env : Env) (pos : Pos), (backTo pos (starEach es env)).any (·.1) = false
  | _, _, .nil, _, _ => rfl
  | _, _, .cons ⟨_, st⟩ hs, env, pos => by
    rw [st.star]
    show (false || (backTo pos (starEach _ env)).any (·.1)) = false
    rw [Bool.false_or]
    exact star_plain hs env pos
theorem notSup_base {o : Expr} {attr : Str} {env : Env} (h : notSup o = true) : attributeBase o attr env (eval o env) = eval o env := by
  unfold attributeBase
  split
  · rename_i id _ _
    have q : (id == ("super" : Str)) = false := by simpa [notSup] using h
    have q' : (id != ("super" : Str)) = true := by unfold bne; rw [q]; rfl
    have e : (id != ("super" : Str) || attr == ("__class__" : Str) || env.kindOf "super" != some .globalImplicit || env.kindOf "__class__" != some .free) = true := by rw [q']; rfl
    rw [if_pos e]
  · rfl
theorem marks {op : CmpOp} {y : Expr} (h : notSet y = true) : behindInMarks op y = false := by
  cases y <;> first | rfl | cases h
theorem folded {x : Expr} {env : Env} (h : notSet x = true) : ∀ v, foldedSetIterable x env v = pure v := fun v => by
  cases x <;> first | rfl | cases h
end
end Rh

namespace Rh
open PySem PySem.Spec PyProof.Rows L2

/-! ## 12. Targets -/
theorem wipe_at (σ : L2.St) (j : Nat) : ∀ vs : List Nat, (L2.wipe σ vs)[j]? = if j ∈ vs then (σ[j]?).map (fun _ => none) else σ[j]?
  | [] => by simp [L2.wipe]
  | v :: vs => by
    have ih := wipe_at σ j vs
    unfold L2.wipe
    by_cases e : v = j
    · subst e
      rw [if_pos List.mem_cons_self]
      by_cases hl : v < σ.length
      · rw [List.getElem?_set_self (by rw [wipe_length]; exact hl), List.getElem?_eq_getElem hl]
        rfl
      · rw [List.getElem?_eq_none (by rw [List.length_set, wipe_length]; omega), List.getElem?_eq_none (by omega)]
        rfl
    · rw [List.getElem?_set_ne e, ih]
      have : (j ∈ v :: vs) ↔ j ∈ vs := by
        simp only [List.mem_cons]
        exact ⟨fun h => h.resolve_left fun z => e z.symm, .inr⟩
      simp only [this]
theorem wipe_set {σ : L2.St} {i : Nat} {x : Option V} {vs : List Nat} (h : i ∈ vs) : L2.wipe (σ.set i x) vs = L2.wipe σ vs := by
  refine List.ext_getElem? fun j => ?_
  rw [wipe_at, wipe_at]
  by_cases hj : j ∈ vs
  · rw [if_pos hj, if_pos hj]
    by_cases e : i = j
    · subst e
      by_cases hl : i < σ.length
      · rw [List.getElem?_set_self hl, List.getElem?_eq_getElem hl]
        rfl
      · rw [List.getElem?_eq_none (by rw [List.length_set]; omega), List.getElem?_eq_none (by omega)]
    · rw [List.getElem?_set_ne e]
  · rw [if_neg hj, if_neg hj, List.getElem?_set_ne (fun z : i = j => hj (by rw [← z]; exact h))]
theorem wipe_wipe {σ : L2.St} {vs : List Nat} : L2.wipe (L2.wipe σ vs) vs = L2.wipe σ vs := by
  refine List.ext_getElem? fun j => ?_
  rw [wipe_at, wipe_at]
  split
  · cases σ[j]? <;> rfl
  · rfl
section
variable {X : Cx} {L : Lay} {W : WX} {G : Tab} {Γ : Nat → TSp} {c : SC}
theorem unp_ok {K : PySem.W.Frag} {Φ H B : Hp} {μ : Sto} {t : T} {ts : List T} {v : V} (S : St K L Φ H B μ) (r : Tr K B v t) (h : unp μ t = some ts) : ∃ a vs, v = .ref a ∧ (SqT K H a vs ∨ SqL K H a vs) ∧ Trs K B vs ts := by
  unfold unp at h
  split at h
  · cases h
    obtain ⟨a, vs, e, h1, h2⟩ := vtup_ok S r rfl
    exact ⟨a, vs, e, .inl h1, h2⟩
  · obtain ⟨a, vs, e, h1, h2⟩ := vlst_ok S r h
    exact ⟨a, vs, e, .inr h1, h2⟩
def sGs (X : Cx) (es : List Expr) : TGs := fun vs σ H Q => ∀ pins s us, L2.Inv X pins σ H s → Vals vs us → wpAny (model X.prog X.w) X.A (assignInOrder ((assignEach es X.env).map (·.2)) us) (fun _ s' => ∃ σ' H', L2.Inv X pins σ' H' s' ∧ Q σ' H') X.xe s
theorem pgs_s {X : Cx} {es : List Expr} : PGs X es (sGs X es) := ⟨fun pins s _ _ _ us _ I r h => h pins s us I r⟩
def GOk1 (X : Cx) (L : Lay) (g : Tg) (e : Expr) : Prop := ∀ Φ B μ H σ ρ v t k Q, St X.K L Φ H B μ → Slots X.K B σ ρ → Tr X.K B v t → bindT g t ρ μ k →
  (∀ σ' ρ', Slots X.K B σ' ρ' → (∀ vs, tgIn vs g = true → L2.wipe σ' vs = L2.wipe σ vs) → k ρ' → Q σ' H) → sG X e v σ H Q
def GOks (X : Cx) (L : Lay) (gs : List Tg) (es : List Expr) : Prop := ∀ Φ B μ H σ ρ vs ts k Q, St X.K L Φ H B μ → Slots X.K B σ ρ → Trs X.K B vs ts → bindTs gs ts ρ μ k →
  (∀ σ' ρ', Slots X.K B σ' ρ' → (∀ ws, tgsIn ws gs = true → L2.wipe σ' ws = L2.wipe σ ws) → k ρ' → Q σ' H) → sGs X es vs σ H Q
mutual
theorem tg_ok (C : Ctx G Γ L c X W) : ∀ (g : Tg) (e : Expr), chkG c g e = true → GOk1 X L g e
  | .nm i, .Name x pos, h => fun Φ B μ H σ ρ v t k Q S sl r q kk => by
    simp only [chkG, Bool.and_eq_true, decide_eq_true_eq] at h
    obtain ⟨h1, h2⟩ := C.st x h.2
    have hN : X.N[i]? = some x := by rw [C.N]; exact h.1
    refine sG_of (pg_name (by rw [C.N]; exact C.nd) hN h1 h2) ?_
    exact kk _ _ (sl.set i r) (fun vs hv => wipe_set (by simpa [tgIn] using hv)) q
  | .tup gs, .Tuple es kk2 pos, h => fun Φ B μ H σ ρ v t k Q S sl r q kk => by
    have h' : (chkGs c gs es && !c.hot) = true := h
    rw [Bool.and_eq_true, Bool.not_eq_true'] at h'
    obtain ⟨hs, hh⟩ := h'
    obtain ⟨q1, q2, q3⟩ := tgs_ok C gs es hs
    unfold bindT at q
    obtain ⟨ts, e1, e2, q⟩ := q
    obtain ⟨a, vs, rfl, hq, r2⟩ := unp_ok S r e1
    have fin := q1 Φ B μ H σ ρ vs ts k Q S sl r2 q fun σ' ρ' s' w' k' => kk σ' ρ' s' (fun vs hv => w' vs (by simpa [tgIn] using hv)) k'
    have hl : vs.length = gs.length := by rw [r2.length]; exact e2
    rcases hq with hq | hq
    · exact sG_of (pg_tup (n := gs.length) (C.calm hh) pgs_s q2 q3) ⟨a, vs, rfl, hq, hl, fin⟩
    · exact sG_of (pg_lst (n := gs.length) (C.calm hh) pgs_s q2 q3) ⟨a, vs, rfl, hq, hl, fin⟩
theorem tgs_ok (C : Ctx G Γ L c X W) : ∀ (gs : List Tg) (es : List Expr), chkGs c gs es = true → GOks X L gs es ∧ (assignEach es X.env).length = gs.length ∧ (assignEach es X.env).findIdx? (·.1) = none
  | [], [], _ => ⟨fun Φ B μ H σ ρ vs ts k Q S sl r q kk => by
      cases ts with
      | nil =>
        cases (show vs = [] from r)
        exact fun pins s us I rv => pgs_nil.run pins s σ H [] us Q I rv ⟨rfl, kk σ ρ sl (fun _ _ => rfl) q⟩
      | cons t ts =>
        obtain ⟨v, vr, rfl, r1, r2⟩ := r
        exact fun pins s us I rv => by
          cases rv
          exact assignInOrder_nil ⟨σ, H, I, kk σ ρ sl (fun _ _ => rfl) q⟩, rfl, rfl⟩
  | g :: gs, e :: es, h => by
    simp only [chkGs, Bool.and_eq_true] at h
    have i1 := tg_ok C g e h.1
    obtain ⟨i2, i3, i4⟩ := tgs_ok C gs es h.2
    have e0 : assignEach (e :: es) X.env = (false, assign e X.env) :: assignEach es X.env := by
      cases e <;> first | rfl | (cases g <;> simp [chkG] at h)
    refine ⟨fun Φ B μ H σ ρ vs ts k Q S sl r q kk => ?_, by rw [e0]; simp [i3], by rw [e0]; simp [List.findIdx?_cons, i4]⟩
    unfold bindTs at q
    obtain ⟨t, tr, rfl, q⟩ := q
    obtain ⟨v, vr, rfl, r1, r2⟩ := r
    intro pins s us I rv
    refine (pgs_cons (X := X) (t := sG X e) (u := sGs X es) pg_s pgs_s (by rw [e0]; rfl)).run pins s σ H (v :: vr) us Q I rv ⟨v, vr, rfl, ?_⟩
    refine i1 Φ B μ H σ ρ v t _ _ S sl r1 q fun σ1 ρ1 s1 w1 k1 => ?_
    refine i2 Φ B μ H σ1 ρ1 vr tr k Q S s1 r2 k1 fun σ2 ρ2 s2 w2 k2 => ?_
    refine kk σ2 ρ2 s2 (fun ws hw => ?_) k2
    simp only [tgsIn, Bool.and_eq_true] at hw
    rw [w2 ws hw.2, w1 ws hw.1]
end
end

/-! ## 13. What a loop walks -/
structure Sim (K : PySem.W.Frag) (L : Lay) (B0 : Hp) (J : It) (ts : List T) (gd : Sto → Prop) : Prop where
  go : ∀ Φ i H B μ, Le B0 B → St K L Φ H B μ → gd μ → i < ts.length → J.go i H ∧ ∀ x H', J.yld i H x H' → ∃ B' t, Le B B' ∧ St K L Φ H' B' μ ∧ ts[i]? = some t ∧ Tr K B' x t
  stop : ∀ Φ i H B μ, Le B0 B → St K L Φ H B μ → gd μ → ts.length ≤ i → J.stop i H
def LSrc (K : PySem.W.Frag) (L : Lay) (B0 : Hp) (a : Addr) (us : List T) (gd : Sto → Prop) : Prop := ∀ Φ H B μ, Le B0 B → St K L Φ H B μ → gd μ → ∃ vs, SqL K H a vs ∧ Trs K B vs us
section
variable {K : PySem.W.Frag} {L : Lay} {Φ B0 H : Hp} {μ : Sto} {a : Addr} {us : List T} {gd : Sto → Prop}
theorem onG_ok {t : T} {v : V} {k : List T → (Sto → Prop) → Prop} (S : St K L Φ H B0 μ) (r : Tr K B0 v t) (h : onG μ t k) : ∃ a us gd, v = .ref a ∧ LSrc K L B0 a us gd ∧ gd μ ∧ k us gd := by
  unfold onG at h
  split at h
  · obtain ⟨a, vs, e, h1, h2⟩ := r
    exact ⟨a, _, any, e, fun Φ H B μ le S' _ => ⟨vs, .of (S'.sub _ _ (le _ _ h1)), h2.mono le⟩, trivial, h⟩
  · obtain ⟨a, vs, e, h1, h2⟩ := r
    exact ⟨a, _, any, e, fun Φ H B μ le S' _ => ⟨vs, Same.seq S'.sub (Same.seq le h1), h2.mono le⟩, trivial, h⟩
  · obtain ⟨us, e, h⟩ := h
    refine ⟨_, us, _, r, fun Φ H B μ le S' g => ?_, e, h⟩
    obtain ⟨vs, h1, h2⟩ := S'.mem g
    exact ⟨vs, .of h1, h2⟩
  · exact h.elim
theorem sim_list (l : LSrc K L B0 a us gd) : Sim K L B0 (Itl K a) us gd where
  go := fun Φ i H B μ le S g hi => by
    obtain ⟨vs, h1, h2⟩ := l Φ H B μ le S g
    obtain ⟨v, e, r⟩ := h2.get (List.getElem?_eq_getElem hi)
    exact ⟨⟨vs, v, h1, e⟩, fun x H' ⟨e1, y⟩ => by
      subst e1
      have z := y vs h1
      rw [e] at z
      cases z
      exact ⟨B, _, Same.refl _, S, List.getElem?_eq_getElem hi, r⟩⟩
  stop := fun Φ i H B μ le S g hi => by
    obtain ⟨vs, h1, h2⟩ := l Φ H B μ le S g
    exact ⟨vs, h1, by rw [h2.length]; exact hi⟩
theorem sim_rev (l : LSrc K L B0 a us gd) {n : Nat} (hn : n = us.length) : Sim K L B0 (Itv K a n) us.reverse gd where
  go := fun Φ i H B μ le S g hi => by
    subst hn
    rw [List.length_reverse] at hi
    obtain ⟨vs, h1, h2⟩ := l Φ H B μ le S g
    have hj : us.length - 1 - i < us.length := by omega
    obtain ⟨v, e, r⟩ := h2.get (List.getElem?_eq_getElem hj)
    refine ⟨⟨hi, vs, v, h1, e⟩, fun x H' ⟨e1, y⟩ => ?_⟩
    subst e1
    have z := y vs h1
    rw [e] at z
    cases z
    exact ⟨B, _, Same.refl _, S, by rw [List.getElem?_reverse hi, List.getElem?_eq_getElem hj], r⟩
  stop := fun Φ i H B μ le S g hi => by
    subst hn
    rw [List.length_reverse] at hi
    exact hi
theorem sim_enum (l : LSrc K L B0 a us gd) : Sim K L B0 (Ite K a) (us.zipIdx.map fun p => .tup [.int (p.2 : Nat), p.1]) gd where
  go := fun Φ i H B μ le S g hi => by
    rw [List.length_map, List.length_zipIdx] at hi
    obtain ⟨vs, h1, h2⟩ := l Φ H B μ le S g
    obtain ⟨v, e, r⟩ := h2.get (List.getElem?_eq_getElem hi)
    refine ⟨⟨vs, v, h1, e⟩, fun x H' ⟨T', w, e1, e2, e3, y⟩ => ?_⟩
    subst e1 e3
    have z := y vs h1
    rw [e] at z
    cases z
    have lb := le_upd (o := HO.tup [.int (i : Nat), v]) (S.freshB e2)
    refine ⟨_, .tup [.int (i : Nat), us[i]], lb, S.laid e2, ?_, ⟨T', _, rfl, .of upd_same, Trs.cons (show Tr K _ (.int _) (.int (i : Nat)) from rfl) (Trs.cons (r.mono lb) Trs.nil)⟩⟩
    rw [List.getElem?_map, List.getElem?_zipIdx, List.getElem?_eq_getElem hi]
    simp
  stop := fun Φ i H B μ le S g hi => by
    rw [List.length_map, List.length_zipIdx] at hi
    obtain ⟨vs, h1, h2⟩ := l Φ H B μ le S g
    exact ⟨vs, h1, by rw [h2.length]; exact hi⟩
theorem sim_zip {b : Addr} {ws : List T} {g2 : Sto → Prop} (l : LSrc K L B0 a us gd) (l2 : LSrc K L B0 b ws g2) : Sim K L B0 (Itz K a b) ((us.zip ws).map fun p => .tup [p.1, p.2]) (fun μ' => gd μ' ∧ g2 μ') where
  go := fun Φ i H B μ le S g hi => by
    rw [List.length_map, List.length_zip] at hi
    have i1 : i < us.length := by omega
    have i2 : i < ws.length := by omega
    obtain ⟨vs, h1, h2⟩ := l Φ H B μ le S g.1
    obtain ⟨vs', h1', h2'⟩ := l2 Φ H B μ le S g.2
    obtain ⟨v, e, r⟩ := h2.get (List.getElem?_eq_getElem i1)
    obtain ⟨v', e', r'⟩ := h2'.get (List.getElem?_eq_getElem i2)
    refine ⟨⟨vs, vs', v, v', h1, h1', e, e'⟩, fun x H' ⟨T', w, w', e1, e2, e3, y, y'⟩ => ?_⟩
    subst e1 e3
    have z := y vs h1
    rw [e] at z
    cases z
    have z := y' vs' h1'
    rw [e'] at z
    cases z
    have lb := le_upd (o := HO.tup [v, v']) (S.freshB e2)
    refine ⟨_, .tup [us[i], ws[i]], lb, S.laid e2, ?_, ⟨T', _, rfl, .of upd_same, Trs.cons (r.mono lb) (Trs.cons (r'.mono lb) Trs.nil)⟩⟩
    have ez : (us.zip ws)[i]? = some (us[i], ws[i]) := List.getElem?_zip_eq_some.mpr ⟨List.getElem?_eq_getElem i1, List.getElem?_eq_getElem i2⟩
    rw [List.getElem?_map, ez]
    rfl
  stop := fun Φ i H B μ le S g hi => by
    rw [List.length_map, List.length_zip] at hi
    obtain ⟨vs, h1, h2⟩ := l Φ H B μ le S g.1
    obtain ⟨vs', h1', h2'⟩ := l2 Φ H B μ le S g.2
    exact ⟨vs, vs', h1, h1', by rw [h2.length, h2'.length]; omega⟩
theorem sim_tup {vs : List V} (h : SqT K H a vs) (S : St K L Φ H B0 μ) (hB : SqT K B0 a vs) (r : Trs K B0 vs us) : Sim K L B0 (Itt K a) us any where
  go := fun Φ i H B μ le S g hi => by
    have h1 := Le.seqT S.sub (Le.seqT le hB)
    obtain ⟨v, e, r1⟩ := (r.mono le).get (List.getElem?_eq_getElem hi)
    refine ⟨⟨vs, v, h1, e⟩, fun x H' ⟨e1, y⟩ => ?_⟩
    subst e1
    have z := y vs h1
    rw [e] at z
    cases z
    exact ⟨B, _, Same.refl _, S, List.getElem?_eq_getElem hi, r1⟩
  stop := fun Φ i H B μ le S g hi => ⟨vs, Le.seqT S.sub (Le.seqT le hB), by rw [r.length]; exact hi⟩
theorem sim_str {z : Str} : Sim K L B0 (Its z) (signs z) any where
  go := fun Φ i H B μ le S g hi => by
    unfold signs at hi ⊢
    rw [List.length_map, Array.length_toList] at hi
    refine ⟨hi, fun x H' ⟨e1, c, e2, e3⟩ => ?_⟩
    subst e1 e3
    refine ⟨B, .str ⟨#[c]⟩, Same.refl _, S, ?_, (rfl : V.str _ = V.str ⟨#[c]⟩)⟩
    rw [List.getElem?_map, Array.getElem?_toList, e2]
    rfl
  stop := fun Φ i H B μ le S g hi => by
    unfold signs at hi
    rw [List.length_map, Array.length_toList] at hi
    exact hi
theorem sim_rng {lo : Int} {n : Nat} : Sim K L B0 (Itr lo n) ((List.range n).map fun i => .int (lo + (i : Nat))) any where
  go := fun Φ i H B μ le S g hi => by
    rw [List.length_map, List.length_range] at hi
    refine ⟨hi, fun x H' ⟨e1, e2⟩ => ?_⟩
    subst e1 e2
    refine ⟨B, .int (lo + (i : Nat)), Same.refl _, S, ?_, (rfl : V.int _ = V.int (lo + (i : Nat)))⟩
    rw [List.getElem?_map, List.getElem?_range hi]
    rfl
  stop := fun Φ i H B μ le S g hi => by
    rw [List.length_map, List.length_range] at hi
    exact hi
end
end Rh

namespace Rh
open PySem PySem.Spec PyProof.Rows L2

/-! ## 14. Each form of the core does what it says -/
section
variable {X : Cx} {L : Lay} {W : WX} {G : Tab} {Γ : Nat → TSp} {c : SC} {pos : Pos}
theorem plainN_ok {x : Str} (h : plainN x = true) : (x == ("__debug__" : Str)) = false ∧ (x == ("__classdict__" : Str)) = false ∧ x ≠ "__name__" := by
  simp only [plainN, Bool.and_eq_true, Bool.not_eq_true'] at h
  exact ⟨h.1.1, h.1.2, beq_eq_false_iff_ne.mp h.2⟩
theorem stat_of {x : Expr} (h1 : ∀ (env : Env) (es : List Expr), starEach (x :: es) env = (false, eval x env) :: starEach es env := by intro _ _; rfl) (h2 : PlainIx x := by intro _ _; rfl)
    (h3 : ∀ (o : Expr) (p : Pos) (env : Env) (v : Value), assign (.Subscript o x p) env v = (do
      let ov ← holding [v] (eval o env)
      let iv ← holding [v, ov] (eval x env)
      standAt p
      holding [v, ov, iv] (setItem ov iv v)
      release [v, ov, iv] []) := by intro _ _ _ _; rfl)
    (h4 : ∀ (ov iv new : Value), augStore x ov iv new = (do holding [new, ov, iv] (setItem ov iv new); release [new, ov, iv] []; pure .next) := by intro _ _ _; rfl) : Stat x := ⟨h1, h2, h3, h4⟩
theorem k_var (C : Ctx G Γ L c X W) {i : Nat} {x : Str} (hN : c.N[i]? = some x) (hv : vis c.sc x = true) (hp : plainN x = true) : EOk X L W (.Name x pos) (den G Γ (.var i)) :=
  EOk.plain (fun Φ B μ H σ ρ F R Q S sl q kx k => by
    obtain ⟨t, e, q⟩ := q
    obtain ⟨v, e2, r⟩ := sl.2 i t e
    exact sE_of (pe_var (by rw [C.N]; exact hN) (C.vi x hv) (plainN_ok hp).1 (plainN_ok hp).2.1) ⟨v, e2, k.here S r q⟩) fun _ => rfl
theorem k_const {e : Expr} {v : V} {t : T} (p : PE X e (tC v)) (hr : ∀ B, Tr X.K B v t) (he : ∀ whole, isTrue e X.env whole = (do let v ← whole; standAt e.pos; holding [v] (truthy v))) : EOk X L W e (plain fun _ μ _ R => R t μ) :=
  EOk.plain (fun Φ B μ H σ ρ F R Q S sl q kx k => sE_of p (k.here S (hr B) q)) he
theorem k_glob (C : Ctx G Γ L c X W) {k : Nat} {x : Str} {y : Str × T} (hc : G.con k = some y) (hx : y.1 = x) (hg : glb c.sc x = true) (hp : plainN x = true) : EOk X L W (.Name x pos) (den G Γ (.glob k)) :=
  EOk.plain (fun Φ B μ H σ ρ F R Q S sl q kx kk => by
    obtain ⟨z, e, q⟩ := q
    rw [hc] at e
    cases e
    obtain ⟨v, u, h1, h2, h3⟩ := C.g.con k y hc
    rw [hx] at h1
    exact sE_of (pe_glob (C.gl x hg) h1 h2 (plainN_ok hp).1) (kk.here S (h3 B) q)) fun _ => rfl
theorem k_bin {op : Operator} {own : Bool} {a b : Ex} {x y : Expr} (ha : EOk X L W x (den G Γ a)) (hb : EOk X L W y (den G Γ b)) : EOk X L W (.BinOp x op y pos) (den G Γ (.bin op own a b)) :=
  EOk.plain (fun Φ B μ H σ ρ F R Q S sl q kx k => by
    refine sE_of (pe_op (bin_ok (L := L) op own) pe_s pe_s) ?_
    refine ha.v Φ B μ H σ ρ F _ _ S sl q kx fun v t H1 B1 μ1 l1 S1 r1 q1 => ?_
    refine hb.v Φ B1 μ1 H1 σ ρ F _ _ S1 (sl.mono l1) q1 (kx.mono l1) fun w u H2 B2 μ2 l2 S2 r2 q2 => ?_
    exact ⟨Φ, B2, μ2, t, u, R, S2, r1.mono l2, r2, q2, k.mono (l1.trans l2)⟩) fun _ => rfl
theorem k_cpow {a b v : Int} {k1 k2 : Nat} {p1 p2 : Pos} (h : 0 ≤ b ∧ b ≤ 1000 ∧ a.natAbs < 2 ^ 64) (hv : a ^ b.toNat = v) : EOk X L W (.BinOp (.Constant (.int a) k1 p1) .Pow (.Constant (.int b) k2 p2) pos) (den G Γ (.cpow a b v)) :=
  EOk.plain (fun Φ B μ H σ ρ F R Q S sl q kx k => by
    refine sE_of (pe_op op_pow pe_int pe_int) ⟨a, b, rfl, rfl, ⟨h.1, by omega, h.2.2⟩, ?_⟩
    show Q (V.int (a ^ b.toNat)) H
    rw [hv]
    exact k.here S (show Tr X.K B (.int v) (.int v) from rfl) q) fun _ => rfl
theorem k_neg {a : Ex} {x : Expr} (ha : EOk X L W x (den G Γ a)) : EOk X L W (.UnaryOp .USub x pos) (den G Γ (.neg a)) :=
  EOk.plain (fun Φ B μ H σ ρ F R Q S sl q kx k => by
    refine sE_of (pe_un un_neg pe_s) ?_
    refine ha.v Φ B μ H σ ρ F _ _ S sl q kx fun v t H1 B1 μ1 l1 S1 r1 q1 => ?_
    obtain ⟨i, rfl, q1⟩ := q1
    obtain rfl := r1
    exact ⟨i, rfl, k _ _ _ _ _ l1 S1 (show Tr X.K B1 (.int _) (.int _) from rfl) q1⟩) fun _ => rfl
theorem bl_of {K : PySem.W.Frag} {B : Hp} {v : V} {b : Bool} (r : Tr K B v (.bl b)) : v = .bl b := r
theorem k_cmp (C : Ctx G Γ L c X W) {op : CmpOp} {a b : Ex} {x y : Expr} (hn : notSet y = true) (ha : EOk X L W x (den G Γ a)) (hb : EOk X L W y (den G Γ b)) : EOk X L W (.Compare x [op] [y] pos) (den G Γ (.cmp op a b)) := by
  have V : ∀ Φ B μ H σ ρ F R Q, St X.K L Φ H B μ → Slots X.K B σ ρ → (den G Γ (.cmp op a b)).1 ρ μ F R → PostX X.K L Φ B F (WE W σ) → Post X.K L Φ B R Q → tOp (Op2 X.K L (tCmp op)) (sE X x) (sE X y) σ H Q := fun Φ B μ H σ ρ F R Q S sl q kx k => by
    refine ha.v Φ B μ H σ ρ F _ _ S sl q kx fun v t H1 B1 μ1 l1 S1 r1 q1 => ?_
    refine hb.v Φ B1 μ1 H1 σ ρ F _ _ S1 (sl.mono l1) q1 (kx.mono l1) fun w u H2 B2 μ2 l2 S2 r2 q2 => ?_
    exact ⟨Φ, B2, μ2, t, u, R, S2, r1.mono l2, r2, q2, k.mono (l1.trans l2)⟩
  refine ⟨fun Φ B μ H σ ρ F R Q S sl q kx k => sE_of (pe_cmpR (cmp_ok (L := L) C.hu op) pe_s pe_s (marks hn)) (V Φ B μ H σ ρ F R Q S sl q kx k), fun Φ B μ H σ ρ F R Q S sl q kx k => sT_of (pt_cmpR (cmp_ok (L := L) C.hu op) pe_s pe_s (marks hn)) (V Φ B μ H σ ρ F _ _ S sl q kx fun v t H' B' μ' le S' r q => ?_)⟩
  obtain ⟨b, rfl, q⟩ := q
  exact ⟨b, bl_of r, k b H' B' μ' le S' q⟩
theorem k_chain (C : Ctx G Γ L c X W) {op op' : CmpOp} {a b d : Ex} {x y z : Expr} (hn : notSet z = true) (ha : EOk X L W x (den G Γ a)) (hb : EOk X L W y (den G Γ b)) (hd : EOk X L W z (den G Γ d)) :
    EOk X L W (.Compare x [op, op'] [y, z] pos) (den G Γ (.chain op op' a b d)) := by
  have V : ∀ Φ B μ H σ ρ F R Q, St X.K L Φ H B μ → Slots X.K B σ ρ → (den G Γ (.chain op op' a b d)).1 ρ μ F R → PostX X.K L Φ B F (WE W σ) → Post X.K L Φ B R Q → tChain (Op2 X.K L (tCmp op)) (Op2 X.K L (tCmp op')) (sE X x) (sE X y) (sE X z) σ H Q := fun Φ B μ H σ ρ F R Q S sl q kx k => by
    refine ha.v Φ B μ H σ ρ F _ _ S sl q kx fun v t H1 B1 μ1 l1 S1 r1 q1 => ?_
    refine hb.v Φ B1 μ1 H1 σ ρ F _ _ S1 (sl.mono l1) q1 (kx.mono l1) fun w u H2 B2 μ2 l2 S2 r2 q2 => ?_
    refine ⟨Φ, B2, μ2, t, u, _, S2, r1.mono l2, r2, q2, fun v3 t3 H3 B3 μ3 l3 S3 r3 q3 => ?_⟩
    obtain ⟨kk, rfl, q3⟩ := q3
    refine ⟨kk, bl_of r3, ?_⟩
    have l13 := (l1.trans l2).trans l3
    cases kk with
    | false =>
      rw [if_neg Bool.false_ne_true] at q3 ⊢
      exact k _ _ H3 B3 μ3 l13 S3 (show Tr X.K B3 (.bl _) (.bl _) from rfl) q3
    | true =>
      rw [if_pos rfl] at q3 ⊢
      refine hd.v Φ B3 μ3 H3 σ ρ F _ _ S3 (sl.mono l13) q3 (kx.mono l13) fun w4 u4 H4 B4 μ4 l4 S4 r4 q4 => ?_
      exact ⟨Φ, B4, μ4, u, u4, R, S4, r2.mono (l3.trans l4), r4, q4, k.mono (l13.trans l4)⟩
  have hm : lastMarks [op, op'] [y, z] = false := by
    show behindInMarks op' z = false
    exact marks hn
  refine ⟨fun Φ B μ H σ ρ F R Q S sl q kx k => sE_of (pe_chain (cmp_ok (L := L) C.hu op) (cmp_ok (L := L) C.hu op') pe_s pe_s pe_s hm) (V Φ B μ H σ ρ F R Q S sl q kx k), fun Φ B μ H σ ρ F R Q S sl q kx k => sT_of (pt_chain (cmp_ok (L := L) C.hu op) (cmp_ok (L := L) C.hu op') pe_s pe_s pe_s hm) (V Φ B μ H σ ρ F _ _ S sl q kx fun v t H' B' μ' le S' r q => ?_)⟩
  obtain ⟨b, rfl, q⟩ := q
  exact ⟨b, bl_of r, k b H' B' μ' le S' q⟩
/-- three comparisons in a row -/
def tChain3 (r r' r2 : R2) (ta tb tc td : TE) : TE := fun σ H Q => ta σ H fun x H1 => tb σ H1 fun y H2 => r x y H2 fun z H3 => ∃ k, z = .bl k ∧
  (if k = true then tc σ H3 fun w' H4 => r' y w' H4 fun z' H5 => ∃ k', z' = .bl k' ∧ (if k' = true then td σ H5 fun v' H6 => r2 w' v' H6 Q else Q (.bl false) H5) else Q (.bl false) H3)
theorem pe_chain3 {X : Cx} {a b c d : Expr} {ta tb tc td : TE} {pos : Pos} {op op' op2 : CmpOp} {r r' r2 : R2} (ho : OpR X (compareOp op) r) (ho' : OpR X (compareOp op') r') (ho2 : OpR X (compareOp op2) r2) (ha : PE X a ta) (hb : PE X b tb) (hc : PE X c tc) (hd : PE X d td)
    (hm : lastMarks [op, op', op2] [b, c, d] = false) : PE X (.Compare a [op, op', op2] [b, c, d] pos) (tChain3 r r' r2 ta tb tc td) := by
  refine ⟨fun pins s σ H Q I h => ?_⟩
  refine PyProof.Rows.Compare_chain (thn (ha.run pins s σ H _ I h) fun v s1 ⟨x, H1, I1, r1, q1⟩ => PyProof.Rows.chain_link (thn (hb.run pins s1 σ H1 _ I1 q1) fun u s2 ⟨y, H2, I2, r2', q2⟩ =>
    thn (ho pins s2 σ H2 x y v u _ I2 r1 r2' q2) fun d' s3 ⟨z, H3, I3, r3, k, e, q3⟩ => ?_)) hm
  subst e
  cases r3
  refine wpAny_truthy_bool ?_
  cases k with
  | false => exact ite_ff ⟨.bl false, H3, I3, rfl, q3⟩
  | true =>
    refine ite_tt (PyProof.Rows.chain_link (thn (hc.run pins s3 σ H3 _ I3 q3) fun w' s4 ⟨y', H4, I4, r4, q4⟩ => thn (ho' pins s4 σ H4 y y' u w' _ I4 r2' r4 q4) fun d' s5 ⟨z', H5, I5, r5, k', e', q5⟩ => ?_))
    subst e'
    cases r5
    refine wpAny_truthy_bool ?_
    cases k' with
    | false => exact ite_ff ⟨.bl false, H5, I5, rfl, q5⟩
    | true => exact ite_tt (PyProof.Rows.chain_last (thn (hd.run pins s5 σ H5 _ I5 q5) fun w2 s6 ⟨z2, H6, I6, r6, q6⟩ => ho2 pins s6 σ H6 y' z2 w' w2 Q I6 r4 r6 q6))
theorem pt_chain3 {X : Cx} {a b c d : Expr} {ta tb tc td : TE} {pos : Pos} {op op' op2 : CmpOp} {r r' r2 : R2} (ho : OpR X (compareOp op) r) (ho' : OpR X (compareOp op') r') (ho2 : OpR X (compareOp op2) r2) (ha : PE X a ta) (hb : PE X b tb) (hc : PE X c tc) (hd : PE X d td)
    (hm : lastMarks [op, op', op2] [b, c, d] = false) : PT X (.Compare a [op, op', op2] [b, c, d] pos) (tTest (tChain3 r r' r2 ta tb tc td)) := by
  refine ⟨fun pins s σ H Q I h => ?_⟩
  refine PyProof.Rows.isTrue_chain (thn (ha.run pins s σ H _ I h) fun v s1 ⟨x, H1, I1, r1, q1⟩ => PyProof.Rows.test_link (thn (hb.run pins s1 σ H1 _ I1 q1) fun u s2 ⟨y, H2, I2, r2', q2⟩ =>
    thn (ho pins s2 σ H2 x y v u _ I2 r1 r2' q2) fun d' s3 ⟨z, H3, I3, r3, k, e, q3⟩ => ?_)) hm
  subst e
  cases r3
  refine wpAny_truthy_bool ?_
  cases k with
  | false =>
    obtain ⟨k', e', q'⟩ := q3
    cases e'
    exact ite_ff ⟨H3, I3, q'⟩
  | true =>
    refine ite_tt (PyProof.Rows.test_link (thn (hc.run pins s3 σ H3 _ I3 q3) fun w' s4 ⟨y', H4, I4, r4, q4⟩ => thn (ho' pins s4 σ H4 y y' u w' _ I4 r2' r4 q4) fun d' s5 ⟨z', H5, I5, r5, k', e', q5⟩ => ?_))
    subst e'
    cases r5
    refine wpAny_truthy_bool ?_
    cases k' with
    | false =>
      obtain ⟨k', e', q'⟩ := q5
      cases e'
      exact ite_ff ⟨H5, I5, q'⟩
    | true =>
      refine ite_tt (PyProof.Rows.test_last (thn (hd.run pins s5 σ H5 _ I5 q5) fun w2 s6 ⟨z2, H6, I6, r6, q6⟩ => thn (ho2 pins s6 σ H6 y' z2 w' w2 _ I6 r4 r6 q6) fun d' s7 ⟨z3, H7, I7, r7, k2, e2, q7⟩ => ?_))
      subst e2
      cases r7
      exact wpAny_truthy_bool ⟨H7, I7, q7⟩
theorem k_chain3 (C : Ctx G Γ L c X W) {op op' op2 : CmpOp} {a b d f : Ex} {x y z w : Expr} (hn : notSet w = true) (ha : EOk X L W x (den G Γ a)) (hb : EOk X L W y (den G Γ b)) (hd : EOk X L W z (den G Γ d)) (hf : EOk X L W w (den G Γ f)) :
    EOk X L W (.Compare x [op, op', op2] [y, z, w] pos) (den G Γ (.chain3 op op' op2 a b d f)) := by
  have V : ∀ Φ B μ H σ ρ F R Q, St X.K L Φ H B μ → Slots X.K B σ ρ → (den G Γ (.chain3 op op' op2 a b d f)).1 ρ μ F R → PostX X.K L Φ B F (WE W σ) → Post X.K L Φ B R Q → tChain3 (Op2 X.K L (tCmp op)) (Op2 X.K L (tCmp op')) (Op2 X.K L (tCmp op2)) (sE X x) (sE X y) (sE X z) (sE X w) σ H Q := fun Φ B μ H σ ρ F R Q S sl q kx k => by
    refine ha.v Φ B μ H σ ρ F _ _ S sl q kx fun v t H1 B1 μ1 l1 S1 r1 q1 => ?_
    refine hb.v Φ B1 μ1 H1 σ ρ F _ _ S1 (sl.mono l1) q1 (kx.mono l1) fun w u H2 B2 μ2 l2 S2 r2 q2 => ?_
    refine ⟨Φ, B2, μ2, t, u, _, S2, r1.mono l2, r2, q2, fun v3 t3 H3 B3 μ3 l3 S3 r3 q3 => ?_⟩
    obtain ⟨kk, rfl, q3⟩ := q3
    refine ⟨kk, bl_of r3, ?_⟩
    have l13 := (l1.trans l2).trans l3
    cases kk with
    | false =>
      rw [if_neg Bool.false_ne_true] at q3 ⊢
      exact k _ _ H3 B3 μ3 l13 S3 (show Tr X.K B3 (.bl _) (.bl _) from rfl) q3
    | true =>
      rw [if_pos rfl] at q3 ⊢
      refine hd.v Φ B3 μ3 H3 σ ρ F _ _ S3 (sl.mono l13) q3 (kx.mono l13) fun w4 u4 H4 B4 μ4 l4 S4 r4 q4 => ?_
      refine ⟨Φ, B4, μ4, u, u4, _, S4, r2.mono (l3.trans l4), r4, q4, fun v5 t5 H5 B5 μ5 l5 S5 r5 q5 => ?_⟩
      obtain ⟨kk, rfl, q5⟩ := q5
      refine ⟨kk, bl_of r5, ?_⟩
      have l15 := (l13.trans l4).trans l5
      cases kk with
      | false =>
        rw [if_neg Bool.false_ne_true] at q5 ⊢
        exact k _ _ H5 B5 μ5 l15 S5 (show Tr X.K B5 (.bl _) (.bl _) from rfl) q5
      | true =>
        rw [if_pos rfl] at q5 ⊢
        refine hf.v Φ B5 μ5 H5 σ ρ F _ _ S5 (sl.mono l15) q5 (kx.mono l15) fun w6 u6 H6 B6 μ6 l6 S6 r6 q6 => ?_
        exact ⟨Φ, B6, μ6, u4, u6, R, S6, r4.mono (l5.trans l6), r6, q6, k.mono (l15.trans l6)⟩
  have hm : lastMarks [op, op', op2] [y, z, w] = false := by
    show behindInMarks op2 w = false
    exact marks hn
  refine ⟨fun Φ B μ H σ ρ F R Q S sl q kx k => sE_of (pe_chain3 (cmp_ok (L := L) C.hu op) (cmp_ok (L := L) C.hu op') (cmp_ok (L := L) C.hu op2) pe_s pe_s pe_s pe_s hm) (V Φ B μ H σ ρ F R Q S sl q kx k), fun Φ B μ H σ ρ F R Q S sl q kx k => sT_of (pt_chain3 (cmp_ok (L := L) C.hu op) (cmp_ok (L := L) C.hu op') (cmp_ok (L := L) C.hu op2) pe_s pe_s pe_s pe_s hm) (V Φ B μ H σ ρ F _ _ S sl q kx fun v t H' B' μ' le S' r q => ?_)⟩
  obtain ⟨b, rfl, q⟩ := q
  exact ⟨b, bl_of r, k b H' B' μ' le S' q⟩
theorem k_not {a : Ex} {x : Expr} (ha : EOk X L W x (den G Γ a)) : EOk X L W (.UnaryOp .Not x pos) (den G Γ (.not a)) := by
  refine ⟨fun Φ B μ H σ ρ F R Q S sl q kx k => sE_of (pe_notT pe_s) ?_, fun Φ B μ H σ ρ F R Q S sl q kx k => sT_of (pt_not pt_s) ?_⟩
  · refine ha.v Φ B μ H σ ρ F _ _ S sl q kx fun v t H1 B1 μ1 l1 S1 r1 q1 => ?_
    obtain ⟨b, h1, h2⟩ := tru_okT S1 r1 q1
    exact ⟨b, h1, k _ _ _ _ _ l1 S1 (show Tr X.K B1 (.bl _) (.bl _) from rfl) h2⟩
  · exact ha.t Φ B μ H σ ρ F _ _ S sl q kx fun b H1 B1 μ1 l1 S1 q1 => k _ _ _ _ l1 S1 q1
theorem k_ife {d a b : Ex} {z x y : Expr} (hd : EOk X L W z (den G Γ d)) (ha : EOk X L W x (den G Γ a)) (hb : EOk X L W y (den G Γ b)) : EOk X L W (.IfExp z x y pos) (den G Γ (.ife d a b)) := by
  refine ⟨fun Φ B μ H σ ρ F R Q S sl q kx k => sE_of (pe_ifExp pt_s pe_s pe_s) ?_, fun Φ B μ H σ ρ F R Q S sl q kx k => False.elim q⟩
  refine hd.t Φ B μ H σ ρ F _ _ S sl q kx fun kk H1 B1 μ1 l1 S1 q1 => ?_
  cases kk with
  | true =>
    rw [if_pos rfl] at q1 ⊢
    exact ha.v Φ B1 μ1 H1 σ ρ F _ _ S1 (sl.mono l1) q1 (kx.mono l1) (k.mono l1)
  | false =>
    rw [if_neg Bool.false_ne_true] at q1 ⊢
    exact hb.v Φ B1 μ1 H1 σ ρ F _ _ S1 (sl.mono l1) q1 (kx.mono l1) (k.mono l1)
theorem boV_ok {w : Bool} : ∀ {xs : List Expr} {ps : List (TEx × TTe)}, Paired (fun e p => EOk X L W e p ∧ Stat e) xs ps → VOk X L W (.BoolOp (if w then .And else .Or) xs pos) (boV w ps)
  | _, _, .nil => fun Φ B μ H σ ρ F R Q S sl q kx k => False.elim q
  | _, _, .cons ⟨h, _⟩ .nil => fun Φ B μ H σ ρ F R Q S sl q kx k => sE_of (pe_one pe_s) (h.v Φ B μ H σ ρ F R Q S sl q kx k)
  | _, _, .cons ⟨h, _⟩ (.cons (a := e2) (b := p2) h2 hs) => fun Φ B μ H σ ρ F R Q S sl q kx k => by
    have ih : VOk X L W (.BoolOp (if w then .And else .Or) (e2 :: _) pos) (boV w (p2 :: _)) := boV_ok (.cons h2 hs)
    cases w with
    | true =>
      refine sE_of (pe_andT pe_s (pe_s (e := .BoolOp .And (e2 :: _) pos))) ?_
      refine h.v Φ B μ H σ ρ F _ _ S sl q kx fun v t H1 B1 μ1 l1 S1 r1 q1 => ?_
      obtain ⟨b, h1, q1⟩ := tru_okT S1 r1 q1
      refine ⟨b, h1, ?_⟩
      cases b with
      | true =>
        rw [if_pos rfl] at q1 ⊢
        exact ih Φ B1 μ1 H1 σ ρ F _ _ S1 (sl.mono l1) q1 (kx.mono l1) (k.mono l1)
      | false =>
        rw [if_neg Bool.false_ne_true] at q1 ⊢
        exact k v t H1 B1 μ1 l1 S1 r1 q1
    | false =>
      refine sE_of (pe_orT pe_s (pe_s (e := .BoolOp .Or (e2 :: _) pos))) ?_
      refine h.v Φ B μ H σ ρ F _ _ S sl q kx fun v t H1 B1 μ1 l1 S1 r1 q1 => ?_
      obtain ⟨b, h1, q1⟩ := tru_okT S1 r1 q1
      refine ⟨b, h1, ?_⟩
      cases b with
      | true =>
        rw [if_neg (by decide : ¬ (true = false))] at q1
        rw [if_pos rfl]
        exact k v t H1 B1 μ1 l1 S1 r1 q1
      | false =>
        rw [if_pos rfl] at q1
        rw [if_neg Bool.false_ne_true]
        exact ih Φ B1 μ1 H1 σ ρ F _ _ S1 (sl.mono l1) q1 (kx.mono l1) (k.mono l1)
def sW (X : Cx) (e : Expr) : TT := fun σ H Q => ∀ whole pins s, L2.Inv X pins σ H s → wpAny (model X.prog X.w) X.A (isTrue e X.env whole) (TP X pins σ Q) X.xe s
theorem pw_s {e : Expr} : PW X e (sW X e) := ⟨fun whole pins s _ _ _ I h => h whole pins s I⟩
theorem sW_of {e : Expr} {t : TT} {σ : L2.St} {H : Hp} {Q : Bool → Hp → Prop} (p : PW X e t) (h : t σ H Q) : sW X e σ H Q := fun wh pins s I => p.run wh pins s σ H Q I h
def WOk (X : Cx) (L : Lay) (W : WX) (e : Expr) (tt : TTe) : Prop := ∀ Φ B μ H σ ρ F R Q, St X.K L Φ H B μ → Slots X.K B σ ρ → tt ρ μ F R → PostX X.K L Φ B F (WE W σ) → PostB X.K L Φ B R Q → sW X e σ H Q
theorem boT_ok {w : Bool} : ∀ {xs : List Expr} {ps : List (TEx × TTe)}, Paired (fun e p => EOk X L W e p ∧ Stat e) xs ps → WOk X L W (.BoolOp (if w then .And else .Or) xs pos) (boT w ps)
  | _, _, .nil => fun Φ B μ H σ ρ F R Q S sl q kx k => False.elim q
  | _, _, .cons ⟨h, _⟩ .nil => fun Φ B μ H σ ρ F R Q S sl q kx k => by
    cases w with
    | true => exact sW_of (pw_and1 pt_s) (h.t Φ B μ H σ ρ F R Q S sl q kx k)
    | false => exact sW_of (pw_or1 pt_s) (h.t Φ B μ H σ ρ F R Q S sl q kx k)
  | _, _, .cons ⟨h, _⟩ (.cons (a := e2) (b := p2) h2 hs) => fun Φ B μ H σ ρ F R Q S sl q kx k => by
    have ih : WOk X L W (.BoolOp (if w then .And else .Or) (e2 :: _) pos) (boT w (p2 :: _)) := boT_ok (.cons h2 hs)
    cases w with
    | true =>
      refine sW_of (pw_and pt_s (pw_s (e := .BoolOp .And (e2 :: _) pos))) ?_
      refine h.t Φ B μ H σ ρ F _ _ S sl q kx fun b H1 B1 μ1 l1 S1 q1 => ?_
      cases b with
      | true =>
        rw [if_pos rfl] at q1 ⊢
        exact ih Φ B1 μ1 H1 σ ρ F _ _ S1 (sl.mono l1) q1 (kx.mono l1) fun b' H' B' μ' l' => k b' H' B' μ' (l1.trans l')
      | false =>
        rw [if_neg Bool.false_ne_true] at q1 ⊢
        exact k _ H1 B1 μ1 l1 S1 q1
    | false =>
      refine sW_of (pw_or pt_s (pw_s (e := .BoolOp .Or (e2 :: _) pos))) ?_
      refine h.t Φ B μ H σ ρ F _ _ S sl q kx fun b H1 B1 μ1 l1 S1 q1 => ?_
      cases b with
      | true =>
        rw [if_neg (by decide : ¬ (true = false))] at q1
        rw [if_pos rfl]
        exact k _ H1 B1 μ1 l1 S1 q1
      | false =>
        rw [if_pos rfl] at q1
        rw [if_neg Bool.false_ne_true]
        exact ih Φ B1 μ1 H1 σ ρ F _ _ S1 (sl.mono l1) q1 (kx.mono l1) fun b' H' B' μ' l' => k b' H' B' μ' (l1.trans l')
theorem k_andor {w : Bool} {es : List Ex} {xs : List Expr} (h : Paired (fun e p => EOk X L W e p ∧ Stat e) xs (dens G Γ es)) : EOk X L W (.BoolOp (if w then .And else .Or) xs pos) (den G Γ (.andor w es)) :=
  ⟨boV_ok h, fun Φ B μ H σ ρ F R Q S sl q kx k => sT_of pw_s.pt (boT_ok h Φ B μ H σ ρ F R Q S sl q kx k)⟩
theorem k_idx (C : Ctx G Γ L c X W) {a b : Ex} {x y : Expr} (sy : Stat y) (ha : EOk X L W x (den G Γ a)) (hb : EOk X L W y (den G Γ b)) : EOk X L W (.Subscript x y pos) (den G Γ (.idx a b)) :=
  EOk.plain (fun Φ B μ H σ ρ F R Q S sl q kx k => by
    refine sE_of (pe_ix (idx_ok (L := L) C.hu) pe_s pe_s sy.ix) ?_
    refine ha.v Φ B μ H σ ρ F _ _ S sl q kx fun v t H1 B1 μ1 l1 S1 r1 q1 => ?_
    refine hb.v Φ B1 μ1 H1 σ ρ F _ _ S1 (sl.mono l1) q1 (kx.mono l1) fun w u H2 B2 μ2 l2 S2 r2 q2 => ?_
    exact ⟨Φ, B2, μ2, t, u, R, S2, r1.mono l2, r2, q2, k.mono (l1.trans l2)⟩) fun _ => rfl
/-- a part of a slice -/
def OOk (X : Cx) (L : Lay) (W : WX) (o : Option Expr) (lo : Ex) (te : TEx) : Prop := ∃ to, PO X o to ∧ ∀ Φ B μ H σ ρ F (R : Option Int → Sto → Prop) (Q : Option Int → Hp → Prop), St X.K L Φ H B μ → Slots X.K B σ ρ → te ρ μ F (fun t μ1 => ∃ l, optI lo t = some l ∧ R l μ1) → PostX X.K L Φ B F (WE W σ) →
  (∀ l H' B' μ', Le B B' → St X.K L Φ H' B' μ' → R l μ' → Q l H') → to σ H Q
theorem o_none : OOk X L W none .cnon (den G Γ .cnon).1 := ⟨_, po_none, fun Φ B μ H σ ρ F R Q S sl q kx k => by
  obtain ⟨l, e, q⟩ := q
  cases e
  exact k none H B μ (Same.refl _) S q⟩
theorem o_some {a : Ex} {x : Expr} (hn : a ≠ .cnon) (ha : EOk X L W x (den G Γ a)) : OOk X L W (some x) a (den G Γ a).1 := ⟨_, po_some pe_s, fun Φ B μ H σ ρ F R Q S sl q kx k => by
  refine ha.v Φ B μ H σ ρ F _ _ S sl q kx fun v t H1 B1 μ1 l1 S1 r1 q1 => ?_
  obtain ⟨l, e, q1⟩ := q1
  unfold optI at e
  split at e
  · exact absurd rfl hn
  · cases e
    exact ⟨_, r1, k _ H1 B1 μ1 l1 S1 q1⟩
  · cases e⟩
theorem k_slice {own : Bool} {a lo hi : Ex} {x : Expr} {l h : Option Expr} {p2 : Pos} (ha : EOk X L W x (den G Γ a)) (hl : OOk X L W l lo (den G Γ lo).1) (hh : OOk X L W h hi (den G Γ hi).1) :
    EOk X L W (.Subscript x (.Slice l h none p2) pos) (den G Γ (.slice own a lo hi)) := by
  obtain ⟨tl, pl, hl⟩ := hl
  obtain ⟨th, ph, hh⟩ := hh
  refine EOk.plain (fun Φ B μ H σ ρ F R Q S sl q kx k => ?_) fun _ => rfl
  refine sE_of (pe_slice (slice_ok (L := L) own) pe_s pl ph) ?_
  refine ha.v Φ B μ H σ ρ F _ _ S sl q kx fun v t H1 B1 μ1 l1 S1 r1 q1 => ?_
  refine hl Φ B1 μ1 H1 σ ρ F _ _ S1 (sl.mono l1) q1 (kx.mono l1) fun l' H2 B2 μ2 l2 S2 q2 => ?_
  refine hh Φ B2 μ2 H2 σ ρ F _ _ S2 (sl.mono (l1.trans l2)) q2 (kx.mono (l1.trans l2)) fun h' H3 B3 μ3 l3 S3 q3 => ?_
  exact ⟨Φ, B3, μ3, t, R, S3, r1.mono (l2.trans l3), q3, k.mono ((l1.trans l2).trans l3)⟩
theorem k_lst {own : Bool} {es : List Ex} {xs : List Expr} (h : Paired (fun e p => EOk X L W e p ∧ Stat e) xs (dens G Γ es)) : EOk X L W (.List xs pos) (den G Γ (.lst own es)) :=
  EOk.plain (fun Φ B μ H σ ρ F R Q S sl q kx k => by
    refine sE_of (pe_lst pa_s) ?_
    refine AOk.of h Φ B μ H σ ρ F _ _ S sl q kx fun vs ts H1 B1 μ1 l1 S1 r1 n1 q1 => ?_
    exact ⟨by rw [r1.length]; exact q1.1, fun p hp => newL_ok S1 r1 q1.2 (k.mono l1) hp⟩) fun _ => rfl
theorem k_tup {es : List Ex} {xs : List Expr} {kk : Nat} (h : Paired (fun e p => EOk X L W e p ∧ Stat e) xs (dens G Γ es)) : EOk X L W (.Tuple xs kk pos) (den G Γ (.tup es)) :=
  EOk.plain (fun Φ B μ H σ ρ F R Q S sl q kx k => by
    refine sE_of (pe_tup pa_s) ?_
    refine AOk.of h Φ B μ H σ ρ F _ _ S sl q kx fun vs ts H1 B1 μ1 l1 S1 r1 n1 q1 => ?_
    exact ⟨by rw [r1.length]; exact q1.1, fun p hp => newT_ok S1 r1 q1.2 (k.mono l1) hp⟩) fun _ => rfl
theorem newD_ok {K : PySem.W.Frag} {Φ H B : Hp} {μ : Sto} {R : RP} {Q : VK} {ks : List (Key × V)} {kvs : List (Key × T)} {p : Addr} (S : St K L Φ H B μ) (hp : H p = none) (r : KTs K B ks kvs) (k : Post K L Φ B R Q) (h : R (.own p) (μ.set p (.dict kvs))) : Q (.ref p) (upd H p (.dK ks)) :=
  k _ (.own p) _ B _ (Same.refl _) (S.put (S.freshB hp) (S.freshF hp) (show ObOk K L (upd H p (.dK ks)) B p (.dict kvs) from ⟨ks, upd_same, r⟩)) rfl h
theorem k_dict0 : EOk X L W (.Dict [] [] pos) (den G Γ (.dict [] [])) :=
  EOk.plain (fun Φ B μ H σ ρ F R Q S sl q kx k => by
    refine sE_of pe_dnewK fun p hp => ?_
    have q : ∀ p, μ p = none → R (.own p) (μ.set p (.dict [])) := q
    exact newD_ok S hp .nil k (q p (S.fresh hp))) fun _ => rfl
/-- a thing of ours that only the frame knows -/
theorem St.frame {K : PySem.W.Frag} {Φ H B : Hp} {μ : Sto} {p : Addr} {o : HO} (S : St K L Φ H B μ) (hp : H p = none) : St K L (upd Φ p o) (upd H p o) B μ := by
  have S' := S.aside (o := o) hp
  refine ⟨S'.sub, S'.sto, fun q u e => ?_⟩
  by_cases h : q = p
  · subst h
    rw [upd_same] at e
    cases e
    exact ⟨upd_same, S.freshB hp, S.fresh hp⟩
  · rw [upd_ne h] at e
    exact S'.frm q u e
theorem St.reframe {K : PySem.W.Frag} {Φ H B : Hp} {μ : Sto} {p : Addr} {o o' : HO} (S : St K L (upd Φ p o) H B μ) : St K L (upd Φ p o') (upd H p o') B μ := by
  obtain ⟨_, hB, hμ⟩ := S.frm p o upd_same
  refine ⟨fun b u e => ?_, fun q ob e => ?_, fun q u e => ?_⟩
  · rw [upd_ne (ne_of_none e hB)]
    exact S.sub _ _ e
  · have hq : q ≠ p := fun z => by
      rw [z, hμ] at e
      cases e
    obtain ⟨h1, h2⟩ := S.sto q ob e
    exact ⟨h1, h2.mono (Same.refl _) (upd_ne hq)⟩
  · by_cases h : q = p
    · subst h
      rw [upd_same] at e
      cases e
      exact ⟨upd_same, hB, hμ⟩
    · rw [upd_ne h] at e
      obtain ⟨a, b, d⟩ := S.frm q u (by rw [upd_ne h]; exact e)
      exact ⟨by rw [upd_ne h]; exact a, b, d⟩
/-- it is ours again -/
theorem St.unframe {K : PySem.W.Frag} {Φ H B : Hp} {μ : Sto} {p : Addr} {o : HO} (S : St K L (upd Φ p o) H B μ) (hF : Φ p = none) : St K L Φ H B μ ∧ H p = some o ∧ B p = none ∧ μ p = none := by
  obtain ⟨hH, hB, hμ⟩ := S.frm p o upd_same
  exact ⟨⟨S.sub, S.sto, fun q u e => S.frm q u (by rw [upd_ne (ne_of_none e hF)]; exact e)⟩, hH, hB, hμ⟩
theorem St.give {K : PySem.W.Frag} {Φ H B : Hp} {μ : Sto} {p : Addr} {o : HO} {ob : Ob} (S : St K L Φ H B μ) (hH : H p = some o) (hB : B p = none) (hF : Φ p = none) (h : ObOk K L H B p ob) : St K L Φ H B (μ.set p ob) := by
  have e : upd H p o = H := by
    funext q
    by_cases z : q = p
    · subst z
      rw [upd_same, hH]
    · exact upd_ne z
  have := S.put (p := p) (o := o) (ob := ob) hB hF (by rw [e]; exact h)
  rwa [e] at this
theorem St.still {K : PySem.W.Frag} {Φ H B : Hp} {μ : Sto} {p : Addr} {o : HO} (S : St K L Φ H B μ) (hH : H p = some o) (hB : B p = none) (hF : Φ p = none) (hμ : μ p = none) : Le B (upd B p o) ∧ St K L Φ H (upd B p o) μ := by
  refine ⟨le_upd hB, fun b u e => ?_, fun q ob e => ?_, fun q u e => ?_⟩
  · by_cases h : b = p
    · subst h
      rw [upd_same] at e
      cases e
      exact hH
    · rw [upd_ne h] at e
      exact S.sub _ _ e
  · have hq : q ≠ p := fun z => by
      rw [z, hμ] at e
      cases e
    obtain ⟨h1, h2⟩ := S.sto q ob e
    exact ⟨by rw [upd_ne hq]; exact h1, h2.mono (le_upd hB) rfl⟩
  · obtain ⟨a, b, d⟩ := S.frm q u e
    have hq : q ≠ p := fun z => by
      rw [z, hF] at e
      cases e
    exact ⟨a, by rw [upd_ne hq]; exact b, d⟩
theorem claimL {K : PySem.W.Frag} {Φ H B : Hp} {μ : Sto} {R : RP} {Q : VK} {own : Bool} {p : Addr} {vs : List V} {ts : List T} (S : St K L (upd Φ p (.lst vs)) H B μ) (hF : Φ p = none) (r : Trs K B vs ts) (h : newL own ts μ R) (k : Post K L Φ B R Q) : Q (.ref p) H := by
  obtain ⟨S1, hH, hB, hμ⟩ := S.unframe hF
  cases own with
  | true =>
    have h : ∀ p, μ p = none → R (.own p) (μ.set p (.lst ts)) := h
    exact k _ (.own p) H B _ (Same.refl _) (S1.give hH hB hF (show ObOk K L H B p (.lst ts) from ⟨vs, hH, r⟩)) rfl (h p hμ)
  | false =>
    have h : R (.lst ts) μ := h
    obtain ⟨le, S2⟩ := S1.still hH hB hF hμ
    exact k _ (.lst ts) H _ _ le S2 ⟨p, vs, rfl, upd_same, r.mono le⟩ h
theorem k_dict1 {a b : Ex} {x y : Expr} (ha : EOk X L W x (den G Γ a)) (hb : EOk X L W y (den G Γ b)) : EOk X L W (.Dict [some x] [y] pos) (den G Γ (.dict [a] [b])) :=
  EOk.plain (fun Φ B μ H σ ρ F R Q S sl q kx k => by
    refine sE_of (pe_disp (pps_cons pe_s pe_s pps_nil) (by rfl) (by rfl) (fun z => by cases z) (show 1 ≤ 15 by omega)) fun p hp => ?_
    have kx' : PostX X.K L (upd Φ p (.dK [])) B F (WE W σ) := fun c' H' B' μ' l S' f => kx c' H' B' μ' l (S'.unframe (S.freshF hp)).1 f
    refine ha.v _ B μ _ σ ρ F _ _ (S.frame hp) sl q kx' fun v t H1 B1 μ1 l1 S1 r1 q1 => ?_
    refine hb.v _ B1 μ1 H1 σ ρ F _ _ S1 (sl.mono l1) q1 (kx'.mono l1) fun w u H2 B2 μ2 l2 S2 r2 q2 => ?_
    obtain ⟨k', e, q2⟩ := q2
    obtain ⟨S3, hH, hB, hμ⟩ := S2.unframe (S.freshF hp)
    have ek := keyT_ok (r1.mono l2) e
    subst ek
    refine ⟨hH, [(k', w)], rfl, by simp, ?_⟩
    have rr : KTs X.K B2 [(k', w)] [(k', u)] := .cons ⟨rfl, r2⟩ .nil
    exact k _ (.own p) _ B2 _ (l1.trans l2) (S3.put hB (S.freshF hp) (show ObOk X.K L (upd H2 p (.dK [(k', w)])) B2 p (.dict [(k', u)]) from ⟨_, upd_same, rr⟩)) rfl (q2 p hμ)) fun _ => rfl
end
end Rh

namespace Rh
open PySem PySem.Spec PyProof.Rows L2
/-! ## 14b. list(reversed(a list)) -/
section
variable {prog : Program} {w : World} {A : Around} {E : Value → Shared → Prop} {s : Shared}
theorem ext_rev {it l S : Addr} {items : Array Value} {R : Result → Shared → Prop} (hh : A.handled = none) (hit : s.heap.IsRevIter it l ((items.size : Int) - 1)) (hl : s.heap.IsList l items) (hne : l ≠ it) (hn : items.size ≤ sizeLine)
    (hSi : S ≠ it) (hSl : S ≠ l) (res : Value) (c₀ : Nat) (hS : s.heap.get? S = some { cls := .type "list", data := .seq #[] c₀ })
    (hR : ∀ h' tk acc' c', (∀ b o, b ≠ S → b ≠ it → s.heap.get? b = some o → h'.get? b = some o) → h'.get? S = some { cls := .type "list", dict := none, data := .seq acc' c', slots := #[] } → ItemsOf (fun i v => items[items.size - 1 - i]? = some v) acc' items.size → R (.ok (.ret res)) { s with heap := h', toks := tk }) :
    wpAny (model prog w) A.in1 (Builtin.List.listExtendWith (.ref S) (.ref it) res)
      (fun fin s' => match fin with | .done f => R (.ok f) s' | .again c' => c'.quiet = true ∧ codeAny (model prog w) A c' R s') (fun e s' => R (.error e) s') s := by
  have hh1 : A.in1.handled = none := hh
  have W := (Walks.listRev (prog := prog) (w := w) (A := A.in1) hh1 it l hne items).toS
  have hSf : S ∉ [it, l] := by simp only [List.mem_cons, List.not_mem_nil, or_false, not_or]; exact ⟨hSi, hSl⟩
  have hT : s.TypeIs (.ref it) "list_reverseiterator" := hit.typeIs
  have h1 : Builtin.List.listSameRef (.ref S) (.ref it) = false := by simp [Builtin.List.listSameRef, hSi]
  unfold Builtin.List.listExtendWith
  refine wpAny_bind (wpAny_typeOf hT ?_)
  rw [if_neg (by rw [h1]; decide)]
  refine wpAny_bind (wpAny_pyIter_revIter hit ?_)
  refine wpAny_bind (wpAny_holding ?_)
  unfold Builtin.List.listLengthHint
  refine wpAny_bind (wpAny_specialOf hT RT.nolen_lri ?_)
  show wpAny _ A.in1 (specialOf (Value.ref it) (Str.ofString "__length_hint__") >>= _) _ _ _
  refine wpAny_bind (wpAny_specialOf hT RT.hint_lri ?_)
  generalize hid : ("list_reverseiterator.__length_hint__" : String) = id0
  wp_delta
  rw [show splitId id0 = some ("list_reverseiterator", "__length_hint__") from by subst hid; decide +kernel]
  subst hid
  refine wpAny_bind (wpAny_isInstance (b := true) hT (by rw [isSubtype_type]; kernel_rfl) ?_)
  refine wpAny_pure ?_
  rw [if_neg (by decide)]
  have e0 : ((items.size : Nat) : Int) - 1 - ((0 : Nat) : Int) = (items.size : Int) - 1 := by omega
  refine wpAny_pure ⟨plainId_quiet F.plain_extend_loop _, codeAny_extend_loopS W hn _ hSf _ items.size 0 _ _ _ rfl (Nat.zero_le _) ⟨Nat.zero_le _, by rw [e0]; exact hit, hl⟩ hS (ItemsOf.nil _) fun s' acc' c' hm hS' hacc => ?_⟩
  rw [Moved.eq_with hm]
  refine hR s'.heap s'.toks acc' c' (fun b o hb hb2 e => hm.heap b o (fun hmem => ?_) e) hS' hacc
  rcases List.mem_cons.mp hmem with e' | hmem
  · exact hb e'
  · exact hb2 (List.mem_singleton.mp hmem)
theorem init_rev {it l S : Addr} {items : Array Value} {R : Result → Shared → Prop} (hh : A.handled = none) (hit : s.heap.IsRevIter it l ((items.size : Int) - 1)) (hl : s.heap.IsList l items) (hne : l ≠ it) (hn : items.size ≤ sizeLine)
    (hSi : S ≠ it) (hSl : S ≠ l) (hS : s.heap.get? S = some { cls := .type "list", data := .seq #[] })
    (hR : ∀ h' tk acc' c', (∀ b o, b ≠ S → b ≠ it → s.heap.get? b = some o → h'.get? b = some o) → h'.get? S = some { cls := .type "list", dict := none, data := .seq acc' c', slots := #[] } → ItemsOf (fun i v => items[items.size - 1 - i]? = some v) acc' items.size → R (.ok (.ret .none)) { s with heap := h', toks := tk }) :
    wpAny (model prog w) A.in1 (Builtin.«list.__init__» ⟨[.ref S, .ref it], []⟩)
      (fun fin s' => match fin with | .done f => R (.ok f) s' | .again c' => c'.quiet = true ∧ codeAny (model prog w) A c' R s') (fun e s' => R (.error e) s') s := by
  show wpAny _ _ (do let old ← Builtin.List.listItems (.ref S); Builtin.List.listUpdate (.ref S) (fun _ => #[]); letGo old.toList.reverse; Builtin.List.listExtendWith (.ref S) (.ref it) .none) _ _ s
  refine wpAny_bind ?_
  unfold Builtin.List.listItems
  refine wpAny_bind (wpAny_seqItems hS rfl (wpAny_pure ?_))
  show wpAny _ _ (updateSeq S (fun _ => #[]) >>= fun _ => letGo (#[] : Array Value).toList.reverse >>= fun _ => Builtin.List.listExtendWith (.ref S) (.ref it) .none) _ _ s
  refine wpAny_bind (wpAny_updateSeq hS rfl ?_)
  have hS₂ := Heap.get?_update_self (Obj.mapSeq (fun _ => (#[] : Array Value))) hS rfl
  have oth : ∀ b o, b ≠ S → s.heap.get? b = some o → (s.heap.update S (Obj.mapSeq (fun _ => (#[] : Array Value)))).get? b = some o :=
    fun b o hb e => (Heap.get?_update_other _ _ (Ne.symm hb)).trans e
  refine wpAny_bind (wpAny_letGo ?_)
  have hl2 : (s.heap.update S (Obj.mapSeq (fun _ => (#[] : Array Value)))).IsList l items := by
    obtain ⟨ol, e, r⟩ := hl
    exact ⟨ol, oth _ _ hSl.symm e, r⟩
  refine ext_rev hh (hit.at fun o e => oth _ _ hSi.symm e) hl2 hne hn hSi hSl .none _ hS₂ (fun h' tk acc' c' hk hS' hacc => ?_)
  exact hR h' tk acc' c' (fun b o hb hb2 e => hk b o hb hb2 (oth b o hb e)) hS' hacc
theorem call_list_rev {it l : Addr} {items : Array Value} {Q : Value → Shared → Prop} (hh : A.handled = none) (hit : s.heap.IsRevIter it l ((items.size : Int) - 1)) (hl : s.heap.IsList l items) (hne : l ≠ it) (hn : items.size ≤ sizeLine)
    (hQ : ∀ h' tk acc' c', (∀ b o, b ≠ it → s.heap.get? b = some o → h'.get? b = some o) → h'.get? s.heap.objs.size = some { cls := .type "list", dict := none, data := .seq acc' c', slots := #[] } → ItemsOf (fun i v => items[items.size - 1 - i]? = some v) acc' items.size → Q (.ref s.heap.objs.size) { s with heap := h', toks := tk }) :
    wpAny (model prog w) A (call (.type "list") [.ref it]) Q E s := by
  refine callType_codes (Q₁ := fun obj s₁ => obj = .ref s.heap.objs.size ∧ s₁ = { s with heap := s.heap.push { cls := .type "list", data := .seq #[] } }) PySem.F.called_list (PySem.F.typeCall_list_1 _) PySem.F.entry_list_init
    (code_list_new _ ⟨rfl, rfl⟩) fun obj s₁ h₁ => ?_
  obtain ⟨rfl, rfl⟩ := h₁
  have hS : (s.heap.push { cls := .type "list", data := .seq #[] }).get? s.heap.objs.size = some { cls := .type "list", data := .seq #[] } := Heap.get?_push_size _ rfl
  obtain ⟨oi, hoi, _⟩ := id hit
  obtain ⟨ol, hol, _⟩ := id hl
  refine ⟨⟨_, hS, rfl⟩, PySem.F.args_list_init_2 _ _, init_rev (A := A.in1) hh (hit.at fun o e => Heap.get?_push_of_some _ e) (hl.push _) hne hn (Nat.ne_of_gt (Heap.lt_size hoi)) (Nat.ne_of_gt (Heap.lt_size hol)) hS (fun h' tk acc' c' hk hS' hacc => ?_)⟩
  exact ⟨rfl, hQ h' tk acc' c' (fun b o hb e => hk b o (Nat.ne_of_lt (Heap.lt_size e)) hb (Heap.get?_push_of_some _ e)) hS' hacc⟩
end
/-- list(reversed(x)), x a list: a new list -/
def tListRev (K : PySem.W.Frag) (te : TE) : TE := fun σ H Q => te σ H fun v H1 => ∃ (a : Addr) (xs : List V), v = .ref a ∧ SqL K H1 a xs ∧ ∀ q, H1 q = none → Q (.ref q) (upd H1 q (.lst xs.reverse))
theorem pe_listRev {X : Cx} {e : Expr} {te : TE} {p p2 pos pos2 : Pos} (hc : X.calm = true) (hg : Gl X "list") (hm : X.mg "list" = none) (hg2 : Gl X "reversed") (hm2 : X.mg "reversed" = none) (he : PE X e te)
    (hs : starEach [e] X.env = (false, eval e X.env) :: starEach [] X.env := by rfl)
    (hs2 : starEach [.Call (.Name "reversed" p2) [e] [] pos2] X.env = (false, eval (.Call (.Name "reversed" p2) [e] [] pos2) X.env) :: starEach [] X.env := by rfl) :
    PE X (.Call (.Name "list" p) [.Call (.Name "reversed" p2) [e] [] pos2] [] pos) (tListRev X.K te) := by
  refine ⟨fun pins s σ H Q I h => ?_⟩
  refine Call_ (ld_blt I hg hm boot_list (PyProof.Rows.callWith_type1 (args_cons (Call_ (ld_blt I hg2 hm2 PyProof.Rows.boot_reversed (PyProof.Rows.callWith_type1 (args_cons (thn (he.run pins s σ H _ I h) fun u s1 ⟨v, H1, I1, r1, q1⟩ => args_nil ?_) hs) hs rfl))) hs2) hs2 rfl))
  obtain ⟨a, xs, ev, hq, q⟩ := q1
  subst ev
  obtain rfl : u = Value.ref a := r1
  obtain ⟨its, rv, p', hz⟩ := I1.list hq
  refine call_reversed_list p'.isList (args_nil ?_)
  have hl := p'.isList
  obtain ⟨ol, hol, _⟩ := id hl
  have hne : a ≠ s1.heap.objs.size := Nat.ne_of_lt (Heap.lt_size hol)
  have hn : its.toArray.size ≤ sizeLine := by rw [List.size_toArray, ← rv.length]; exact hz
  refine call_list_rev (s := { s1 with heap := s1.heap.push (revObj a ((its.toArray.size : Int) - 1)) }) (I1.ok.hd hc) ⟨_, Heap.get?_push_size _ rfl, rfl, rfl⟩ (hl.push _) hne hn fun h' tk acc c' hk hS hi => ?_
  have hk' : ∀ b o, s1.heap.get? b = some o → h'.get? b = some o := fun b o e => hk b o (Nat.ne_of_lt (Heap.lt_size e)) (Heap.get?_push_of_some _ e)
  have hle : s1.heap.objs.size ≤ (s1.heap.push (revObj a ((its.toArray.size : Int) - 1))).objs.size := by rw [Heap.size_push]; exact Nat.le_succ _
  refine ⟨.ref _, upd H1 (s1.heap.push (revObj a ((its.toArray.size : Int) - 1))).objs.size (.lst xs.reverse), I1.laid (t' := tk) hk' hle (show ObjOk X.prog X.w _ _ _ (.lst xs.reverse) from ⟨by rw [List.length_reverse]; exact hz, acc.toList, c', RT.vals_rev rv hi, ?_⟩), rfl, q _ (I1.hok.fresh hle)⟩
  rw [Array.toArray_toList]
  exact hS
section
variable {X : Cx} {L : Lay} {W : WX} {G : Tab} {Γ : Nat → TSp} {c : SC} {pos : Pos}
/-! ## 15. Calls -/
theorem gName_ok {n x : Str} (h : gName c n x = true) : x = n ∧ glb c.sc x = true := by
  simp only [gName, Bool.and_eq_true, decide_eq_true_eq] at h
  exact h
theorem bif_bl (f : Bif) : bifName f ∈ blNames ∧ bootBuiltins (bifName f) = some (bifVal f) ∧ (bifName f == ("__debug__" : Str)) = false ∧ bifName f ≠ "__name__" := by
  cases f <;> exact ⟨by decide +kernel, by decide +kernel, by decide +kernel, by decide +kernel⟩
theorem sum_okH (hc : HotD X) (own : Bool) : CallR X (bifVal .sum) (OpN X.K L (tBif .sum own)) := by
  intro pins s σ H xs us Q I r ⟨Φ, B, μ, ts, R, S, rs, h, k⟩
  unfold tBif at h
  split at h <;> first | contradiction | exact h.elim | skip
  obtain ⟨v, rfl, r1⟩ := rs.one
  obtain ⟨a, vs, _, rfl, h1, h2, ns, rfl, h⟩ := onL_ok S r1 h
  have e := h2.ints
  subst e
  exact cr_sum_hot hc pins s σ H _ us Q I r ⟨a, ns, rfl, h1, k.here S (show Tr X.K B (.int _) (.int _) from rfl) h⟩
theorem int_okH (own : Bool) : CallR X (bifVal .int) (OpN X.K L (tBif .int own)) := by
  intro pins s σ H xs us Q I r ⟨Φ, B, μ, ts, R, S, rs, h, k⟩
  unfold tBif at h
  split at h <;> first | contradiction | exact h.elim | skip
  all_goals
    obtain ⟨v, rfl, r1⟩ := rs.one
    obtain rfl := r1
  · exact call_int1 pins s σ H _ us Q I r (.inl ⟨_, rfl, k.here S (show Tr X.K B (.int _) (.int _) from rfl) h⟩)
  · exact call_int1 pins s σ H _ us Q I r (.inr ⟨_, rfl, k.here S (show Tr X.K B (.int _) (.int _) from rfl) h⟩)
  · obtain ⟨n, e, hz, h⟩ := h
    exact call_int_str pins s σ H _ us Q I r ⟨_, n, rfl, e, hz, k.here S (show Tr X.K B (.int _) (.int _) from rfl) h⟩
theorem callB {x : Str} {u : Value} {p : Pos} {xs : List Expr} {ps : List (TEx × TTe)} {tb : List T → Sto → RP → Prop} (C : Ctx G Γ L c X W) (hs : Paired (fun e p => EOk X L W e p ∧ Stat e) xs ps) (hne : xs ≠ [])
    (hg : glb c.sc x = true) (hb : x ∈ blNames) (hv : bootBuiltins x = some u) (hd : (x == ("__debug__" : Str)) = false) (hn : x ≠ "__name__") (hu : (∃ id, u = .builtin id) ∨ ∃ T', u = .type T') (hc : CallR X u (OpN X.K L tb)) :
    VOk X L W (.Call (.Name x p) xs [] pos) (fun ρ μ F R => evs ps ρ μ F fun ts μ1 => tb ts μ1 R) := fun Φ B μ H σ ρ F R Q S sl q kx k => by
  have A := AOk.of hs Φ B μ H σ ρ F _ (fun vs H1 => OpN X.K L tb vs H1 Q) S sl q kx fun vs ts H1 B1 μ1 l1 S1 r1 n1 q1 => ⟨Φ, B1, μ1, ts, R, S1, r1, q1, k.mono l1⟩
  have pl := star_plain hs X.env pos
  cases hs with
  | nil => exact absurd rfl hne
  | cons h1 hs' =>
    have st := h1.2.star X.env
    have pl' := star_plain hs' X.env pos
    rcases hu with ⟨id, rfl⟩ | ⟨T', rfl⟩
    · exact sE_of (pe_callB hc (C.gl x hg) (C.g.bl x hb) hv pa_s hn hd (st _) pl') A
    · exact sE_of (pe_callTy hc (C.gl x hg) (C.g.bl x hb) hv pa_s hn hd (st _) pl') A
theorem k_bif (C : Ctx G Γ L c X W) {f : Bif} (hh : (!c.hot || hotB c.as f) = true) {own : Bool} {es : List Ex} {x : Str} {p : Pos} {xs : List Expr} (hx : gName c (bifName f) x = true) (hne : xs.isEmpty = false) (hs : Paired (fun e p => EOk X L W e p ∧ Stat e) xs (dens G Γ es)) :
    EOk X L W (.Call (.Name x p) xs [] pos) (den G Γ (.bif f own es)) := by
  obtain ⟨rfl, hg⟩ := gName_ok hx
  obtain ⟨h1, h2, h3, h4⟩ := bif_bl f
  have ok : CallR X (bifVal f) (OpN X.K L (tBif f own)) := by
    cases hc : c.hot with
    | false => exact bif_ok (C.calm hc) own f
    | true =>
      rw [hc] at hh
      cases f <;> first | (cases hh; done) | skip
      · obtain ⟨_, p1, oe, _, _, hp, hot, _⟩ := C.cu (by simpa [hotB] using hh)
        obtain ⟨q1, hot, hq⟩ := hot
        exact sum_okH ⟨_, q1, hot, hp, hq⟩ own
      · exact int_okH own
  refine EOk.plain (callB C hs (by intro z; rw [z] at hne; cases hne) hg h1 h2 h3 h4 ?_ ok) fun _ => rfl
  cases f <;> first | exact .inl ⟨_, rfl⟩ | exact .inr ⟨_, rfl⟩
theorem k_lrng (C : Ctx G Γ L c X W) (hh : c.hot = false) {own : Bool} {a : Ex} {l f : Str} {p p2 p3 : Pos} {x : Expr} (h1 : gName c "list" l = true) (h2 : gName c "range" f = true) (h : EOk X L W x (den G Γ a)) (st : Stat x) :
    EOk X L W (.Call (.Name l p) [.Call (.Name f p2) [x] [] p3] [] pos) (den G Γ (.lrng own a)) := by
  obtain ⟨rfl, g1⟩ := gName_ok h1
  obtain ⟨rfl, g2⟩ := gName_ok h2
  refine EOk.plain (fun Φ B μ H σ ρ F R Q S sl q kx k => ?_) fun _ => rfl
  refine sE_of (pe_listRg (C.calm hh) (C.gl _ g1) (C.g.bl _ (by decide +kernel)) (prg_1 (C.gl _ g2) (C.g.bl _ (by decide +kernel)) pe_s (st.star _ _))) ?_
  refine h.v Φ B μ H σ ρ F _ _ S sl q kx fun v t H1 B1 μ1 l1 S1 r1 q1 => ?_
  obtain ⟨n, rfl, b1, b2, q1⟩ := q1
  obtain rfl := r1
  have e : rgV 0 n = ((List.range n.toNat).map fun i : Nat => (i : Int)).map V.int := by
    unfold rgV
    rw [List.map_map]
    simp [Function.comp_def]
  have e2 : ((List.range n.toNat).map fun i : Nat => T.int (i : Nat)) = ((List.range n.toNat).map fun i : Nat => (i : Int)).map T.int := by
    rw [List.map_map]
    rfl
  refine ⟨n, rfl, ⟨by decide, by decide, b1, by omega, by omega⟩, fun q hq => ?_⟩
  rw [e]
  rw [e2] at q1
  exact newL_ok S1 (Trs.of_ints _) q1 (k.mono l1) hq
theorem k_lrev (C : Ctx G Γ L c X W) (hh : c.hot = false) {own : Bool} {a : Ex} {l f : Str} {p p2 p3 : Pos} {x : Expr} (h1 : gName c "list" l = true) (h2 : gName c "reversed" f = true) (h : EOk X L W x (den G Γ a)) (st : Stat x) :
    EOk X L W (.Call (.Name l p) [.Call (.Name f p2) [x] [] p3] [] pos) (den G Γ (.lrev own a)) := by
  obtain ⟨rfl, g1⟩ := gName_ok h1
  obtain ⟨rfl, g2⟩ := gName_ok h2
  refine EOk.plain (fun Φ B μ H σ ρ F R Q S sl q kx k => ?_) fun _ => rfl
  refine sE_of (pe_listRev (C.calm hh) (C.gl _ g1) (C.g.bl _ (by decide +kernel)) (C.gl _ g2) (C.g.bl _ (by decide +kernel)) pe_s (st.star _ _)) ?_
  refine h.v Φ B μ H σ ρ F _ _ S sl q kx fun v t H1 B1 μ1 l1 S1 r1 q1 => ?_
  obtain ⟨us, e, q1⟩ := q1
  obtain ⟨a', vs, rfl, hq, r2⟩ := vlst_ok S1 r1 e
  exact ⟨a', vs, rfl, hq, fun q hq' => newL_ok S1 r2.reverse q1 (k.mono l1) hq'⟩
theorem ty_ok {K : PySem.W.Frag} {Φ H B : Hp} {μ : Sto} {t : T} {v : V} {n : String} (S : St K L Φ H B μ) (r : Tr K B v t) (h : isStr μ t = some n) : TyX K H v (.type n) ∧ n ∈ ["NoneType", "bool", "int", "str", "tuple", "list", "dict"] := by
  unfold isStr at h
  split at h
  · cases h; obtain rfl := r; exact ⟨.base .non, by decide⟩
  · cases h; obtain rfl := r; exact ⟨.base (.bl _), by decide⟩
  · cases h; obtain rfl := r; exact ⟨.base (.int _), by decide⟩
  · cases h; obtain rfl := r; exact ⟨.base (.str _), by decide⟩
  · cases h
    obtain ⟨a, vs, rfl, h1, _⟩ := vtup_ok S r rfl
    refine ⟨?_, by decide⟩
    rcases h1 with (h1 | ⟨o, h1⟩) | ⟨o, its, m, h1, h2, _⟩
    · exact .base (.tup h1)
    · exact .fTuple h1
    · exact .kTuple h1 h2
  · cases h
    obtain ⟨a, vs, rfl, h1, _⟩ := r
    exact ⟨.base (.lst (S.sub _ _ h1)), by decide⟩
  · cases h
  · split at h
    · rename_i e
      cases h
      obtain rfl := r
      obtain ⟨vs, h1, _⟩ := S.mem e
      exact ⟨.base (.lst h1), by decide⟩
    · rename_i e
      cases h
      obtain rfl := r
      obtain ⟨ks, h1, _⟩ := S.memD e
      exact ⟨.base (.dK h1), by decide⟩
    · cases h
theorem kit_all : ∀ n ∈ ["NoneType", "bool", "int", "str", "tuple", "list", "dict"], ∀ k ∈ ["int", "bool", "str", "list", "tuple", "dict"], kitB n k = some (isT n k) := by decide +kernel
theorem bool_all : ∀ k ∈ ["int", "bool", "str", "list", "tuple", "dict"], Str.ofString k ∈ blNames ∧ bootBuiltins (Str.ofString k) = some (.type k) ∧ (Str.ofString k == ("__debug__" : Str)) = false ∧ Str.ofString k ≠ "__name__" := by decide +kernel
theorem isi_nm : ("isinstance" : Str) ∈ blNames ∧ bootBuiltins "isinstance" = some (.builtin "isinstance") ∧ (("isinstance" : Str) == ("__debug__" : Str)) = false ∧ ("isinstance" : Str) ≠ "__name__" := ⟨by decide +kernel, by decide +kernel, by decide +kernel, by decide +kernel⟩
theorem k_isi (C : Ctx G Γ L c X W) {ks : List String} {a : Ex} {x : Str} {p : Pos} {y z : Expr} (hx : gName c "isinstance" x = true) (hk : chkKs c ks z = true) (sy : Stat y) (ha : EOk X L W y (den G Γ a)) :
    EOk X L W (.Call (.Name x p) [y, z] [] pos) (den G Γ (.isi ks a)) := by
  obtain ⟨rfl, hg⟩ := gName_ok hx
  obtain ⟨h1, h2, h3, h4⟩ := isi_nm
  unfold chkKs at hk
  split at hk
  · rename_i k n pz
    simp only [Bool.and_eq_true, decide_eq_true_eq] at hk
    obtain ⟨⟨rfl, hg2⟩, hm⟩ := hk
    obtain ⟨g1, g2, g3, g4⟩ := bool_all k hm
    refine EOk.plain (fun Φ B μ H σ ρ F R Q S sl q kx kk => ?_) fun _ => rfl
    refine sE_of (pe_callB call_isi (C.gl _ hg) (C.g.bl _ h1) h2 (pa_cons pe_s (pa_cons (pe_bltn (v := .ty k) (C.gl _ hg2) (C.g.bl _ g1) g2 rfl g4 g3) pa_nil) (sy.star _ _)) h4 h3 (sy.star _ _) rfl) ?_
    refine ha.v Φ B μ H σ ρ F _ _ S sl q kx fun v t H1 B1 μ1 l1 S1 r1 q1 => ?_
    obtain ⟨n, e, q1⟩ := q1
    obtain ⟨ty, hn⟩ := ty_ok S1 r1 e
    refine ⟨v, .ty k, .type n, .type k, isT n k, rfl, .ty k, ty, kit_ty (kit_all n hn k hm), ?_⟩
    have e3 : [k].any (isT n) = isT n k := by simp
    rw [e3] at q1
    exact kk _ _ H1 B1 μ1 l1 S1 (show Tr X.K B1 (.bl _) (.bl _) from rfl) q1
  · cases hk
theorem ve_nm : ("ValueError" : Str) ∈ blNames ∧ bootBuiltins "ValueError" = some (.type "ValueError") := ⟨by decide +kernel, by decide +kernel⟩
theorem k_isx (C : Ctx G Γ L c X W) {i h : Nat} {x f k : Str} {p p2 p3 : Pos} (hf : gName c "isinstance" f = true) (hN : c.N[i]? = some x) (hv : vis c.sc x = true) (hp : plainN x = true) (hk : exName G h = some k) (hg : glb c.sc k = true) (hpk : plainN k = true) (has : c.as = true) (hxs : G.xs = true) :
    EOk X L W (.Call (.Name f p) [.Name x p2, .Name k p3] [] pos) (den G Γ (.isx i h)) := by
  obtain ⟨rfl, gf⟩ := gName_ok hf
  obtain ⟨h1, h2, h3, h4⟩ := isi_nm
  obtain ⟨_, pe, oe, a, n, hpn, _, ea, hz, hfd, hcu, _⟩ := C.cu has
  obtain ⟨k1, k2, k3⟩ := C.g.ki hxs a n ea
  have hcl : ∃ cv : V, PE X (.Name k p3) (fun σ H Q => Q cv H) ∧ ∃ w, (∀ u, RelV cv u → u = w) ∧ PySem.W.kitOne X.K (.ref (L.exc a)) w = some (subX G a h) := by
    unfold exName at hk
    by_cases e : h = 999
    · rw [if_pos e] at hk
      cases hk
      refine ⟨.ty "ValueError", pe_bltn (v := .ty "ValueError") (C.gl _ hg) (C.g.bl _ ve_nm.1) ve_nm.2 rfl (plainN_ok hpk).2.2 (plainN_ok hpk).1, .type "ValueError", fun u r => r, ?_⟩
      have : subX G a h = true := by
        unfold subX
        simp [e]
      rw [this]
      exact k2
    · rw [if_neg e] at hk
      exact ⟨.ref (L.exc h), pe_glob (C.gl _ hg) (C.g.ex h k hk).mg_ rfl (plainN_ok hpk).1, .ref (L.exc h), fun u r => r, k1 h k hk⟩
  obtain ⟨cv, pe1, w, hw, hkit⟩ := hcl
  refine EOk.plain (fun Φ B μ H σ ρ F R Q S sl q kx kk => ?_) fun _ => rfl
  obtain ⟨t, et, q⟩ := q
  rw [hcu] at q
  obtain ⟨h', e1, _, q⟩ := q
  simp only [List.cons.injEq, T.int.injEq, and_true] at e1
  obtain ⟨rfl, e2⟩ := e1
  have e2 : h = h' := by omega
  subst e2
  obtain ⟨v, e3, r⟩ := sl.2 i _ et
  obtain rfl := r
  refine sE_of (pe_callB (is_hot k3 hz hfd hpn) (C.gl _ gf) (C.g.bl _ h1) h2 (pa_cons (pe_var (by rw [C.N]; exact hN) (C.vi x hv) (plainN_ok hp).1 (plainN_ok hp).2.1) (pa_cons pe1 pa_nil rfl) rfl) h4 h3 rfl rfl) ?_
  exact ⟨_, e3, cv, w, subX G a h, rfl, hw, hkit, kk.here S (show Tr _ B (.bl _) (.bl _) from rfl) q⟩
theorem ints_v {K : PySem.W.Frag} {B : Hp} (l : List Int) : Trs K B (l.map V.int) (l.map T.int) := Trs.of_ints l
theorem sp_ok {K : PySem.W.Frag} {Φ H B : Hp} {μ : Sto} {n : Nat} {S' : TSp} {vs : List V} {ts : List T} {F : XP} {R : RP} {Q : VK} {E : XK} (hl : vs.length = n) (S : St K L Φ H B μ) (r : Trs K B vs ts) (q : S' ts μ F R) (k : Post K L Φ B R Q) (kx : PostX K L Φ B F E) : spOf K L n S' vs H Q E :=
  ⟨hl, Φ, B, μ, ts, R, F, S, r, q, k, kx⟩
theorem k_call (C : Ctx G Γ L c X W) (hh : c.hot = false) {f nd : Nat} {i : FnI} {es : List Ex} {x : Str} {p : Pos} {xs : List Expr} (hi : G.fn f = some i) (hn : i.name = x) (hcl : i.cls = none) (hlv : i.lvl ≤ c.k) (hnd : nd ≤ i.dfl.length) (hnp : xs.length + nd = i.np) (hf : f < c.m)
    (hg : glb c.sc x = true) (hp : plainN x = true) (hs : Paired (fun e p => EOk X L W e p ∧ Stat e) xs (dens G Γ es)) : EOk X L W (.Call (.Name x p) xs [] pos) (den G Γ (.call f nd es)) := by
  show EOk X L W _ (plain fun ρ μ F R => evs (dens G Γ es) ρ μ F fun ts μ1 => ∃ i, G.fn f = some i ∧ Γ f (ts ++ (i.rest nd).map T.int) μ1 F R)
  generalize dens G Γ es = pes at hs
  refine EOk.plain (fun Φ B μ H σ ρ F R Q S sl q kx k => ?_) fun _ => rfl
  obtain ⟨a, fd, ps, FF⟩ := C.g.fn f i hf hi
  obtain ⟨ds, hb, hd⟩ := FF.bi nd hnd
  have hm := FF.mg_ hcl
  rw [hn] at hm
  have key : ∀ (vs : List V) (ts : List T) (H1 B1 : Hp) (μ1 : Sto), Le B B1 → St X.K L Φ H1 B1 μ1 → Trs X.K B1 vs ts → ts.length = xs.length → (∃ i, G.fn f = some i ∧ Γ f (ts ++ (i.rest nd).map T.int) μ1 F R) → spOf X.K L i.np (Γ f) (vs ++ (i.rest nd).map V.int) H1 Q (WE W σ) := fun vs ts H1 B1 μ1 l1 S1 r1 n1 q1 => by
    obtain ⟨j, e, q1⟩ := q1
    rw [hi] at e
    cases e
    refine sp_ok ?_ S1 (r1.append (ints_v _)) q1 (k.mono l1) (kx.mono l1)
    rw [List.length_append, List.length_map, r1.length, n1, ← hnp]
    unfold FnI.rest
    rw [List.length_drop]
    omega
  intro pins s I
  refine wpAny_Call_Name_kw (ld_glob I (C.gl x hg) hm ?_ (plainN_ok hp).1)
  cases hs with
  | nil => exact PySem.W.callWith_K0 I.kIn FF.kp (run_fnSD (us := []) (vs := []) FF.ok ((C.room hh).mono hlv) hb hd (passR (C.tk hh) σ) I .nil (key [] [] H B μ (Same.refl _) S rfl rfl q))
  | cons h1 hs' =>
    have A := AOk.of (.cons h1 hs') Φ B μ H σ ρ F _ (fun vs H1 => spOf X.K L i.np (Γ f) (vs ++ (i.rest nd).map V.int) H1 Q (WE W σ)) S sl q kx key
    refine PySem.W.callWith_K (h₀ := X.base) I.ok.mod.kin FF.kp (thn (A pos pins s I) fun us s1 ⟨vs, H1, I1, r, q1⟩ => ⟨I1.kIn, ?_⟩) (h1.2.star X.env _) (star_plain hs' X.env pos)
    exact run_fnSD FF.ok ((C.room hh).mono hlv) hb hd (passR (C.tk hh) σ) I1 r q1
theorem k_hcall (C : Ctx G Γ L c X W) (has : c.as = true) {f : Nat} {i : FnI} {es : List Ex} {x : Str} {p : Pos} {xs : List Expr} (hi : G.fh f = some i) (hn : i.name = x) (hlv : i.lvl ≤ c.k) (hnp : xs.length = i.np) (hf : f < c.m)
    (hg : glb c.sc x = true) (hp : plainN x = true) (hs : Paired (fun e p => EOk X L W e p ∧ Stat e) xs (dens G Γ es)) : EOk X L W (.Call (.Name x p) xs [] pos) (den G Γ (.hcall f es)) := by
  show EOk X L W _ (plain fun ρ μ F R => evs (dens G Γ es) ρ μ F fun ts μ1 => ∃ i, G.fh f = some i ∧ Γ 999998 [] μ1 noX fun u μ2 => Γ f (u :: ts) μ2 noX R)
  generalize dens G Γ es = pes at hs
  refine EOk.plain (fun Φ B μ H σ ρ F R Q S sl q kx k => ?_) fun _ => rfl
  obtain ⟨_, pe, oe, ac, an, hpn, ⟨q1, hot, hq⟩, ea, hz, hfd, _, hnow⟩ := C.cu has
  obtain ⟨a, fd, ps, FF⟩ := C.g.fh f i hf hi
  have hm := FF.mg_
  rw [hn] at hm
  have key : ∀ (vs : List V) (ts : List T) (H1 B1 : Hp) (μ1 : Sto), Le B B1 → St X.K L Φ H1 B1 μ1 → Trs X.K B1 vs ts → ts.length = xs.length → (∃ i, G.fh f = some i ∧ Γ 999998 [] μ1 noX fun u μ2 => Γ f (u :: ts) μ2 noX R) → spH G X.K L i.np (Γ f) (pe, oe) vs H1 Q noE := fun vs ts H1 B1 μ1 l1 S1 r1 n1 q1 => by
    obtain ⟨j, e, q1⟩ := q1
    rw [hnow] at q1
    exact ⟨by rw [r1.length, n1, hnp], ac, an, Φ, B1, μ1, ts, R, ea, hz, hfd, S1, r1, q1, k.mono l1⟩
  intro pins s I
  refine wpAny_Call_Name_kw (ld_glob I (C.gl x hg) hm ?_ (plainN_ok hp).1)
  cases hs with
  | nil => exact PySem.W.callWith_K0 I.kIn FF.kp (run_fh (us := []) (vs := []) FF.ok (C.rh.mono hlv) hot hpn hq FF.bi I .nil (key [] [] H B μ (Same.refl _) S rfl rfl q))
  | cons h1 hs' =>
    have A := AOk.of (.cons h1 hs') Φ B μ H σ ρ F _ (fun vs H1 => spH G X.K L i.np (Γ f) (pe, oe) vs H1 Q noE) S sl q kx key
    refine PySem.W.callWith_K (h₀ := X.base) I.ok.mod.kin FF.kp (thn (A pos pins s I) fun us s1 ⟨vs, H1, I1, r, q1⟩ => ⟨I1.kIn, ?_⟩) (h1.2.star X.env _) (star_plain hs' X.env pos)
    exact run_fh FF.ok (C.rh.mono hlv) hot hpn hq FF.bi I1 r q1
theorem zip_look {c0 : List Str} (nd : c0.Nodup) : ∀ {vs : List V} {i : Nat} {f : Str} {v : V}, c0[i]? = some f → vs[i]? = some v → (c0.zip vs).lookup f = some v := by
  induction c0 with
  | nil => intro vs i f v h; simp at h
  | cons g r ih =>
    intro vs i f v h h2
    rw [List.nodup_cons] at nd
    cases vs with
    | nil => simp at h2
    | cons w ws =>
      cases i with
      | zero =>
        simp at h h2
        subst h h2
        show List.lookup g ((g, w) :: r.zip ws) = some w
        rw [List.lookup_cons_self]
      | succ i =>
        have h' : r[i]? = some f := by simpa using h
        have ne : (f == g) = false := beq_eq_false_iff_ne.mpr fun z => nd.1 (by rw [← z]; exact List.mem_of_getElem? h')
        show List.lookup f ((g, w) :: r.zip ws) = some v
        rw [List.lookup_cons, ne]
        exact ih nd.2 h' (by simpa using h2)
theorem zip_none {c0 : List Str} {m : Str} (h : m ∉ c0) : ∀ (vs : List V), (c0.zip vs).lookup m = none := by
  induction c0 with
  | nil => intro vs; rfl
  | cons g r ih =>
    intro vs
    cases vs with
    | nil => rfl
    | cons w ws =>
      have ne : (m == g) = false := beq_eq_false_iff_ne.mpr fun z => h (by rw [z]; exact List.mem_cons_self)
      show List.lookup m ((g, w) :: r.zip ws) = none
      rw [List.lookup_cons, ne]
      exact ih (fun z => h (List.mem_cons_of_mem _ z)) ws
theorem meth_form {y : Expr} {m : Str} {apos : Pos} {xs : List Expr} {env : Env} (hsup : notSup y = true) (hline : (apos.endLine == pos.line) = true) (h30 : xs.length < 30) (hst : (backTo pos (starEach xs env)).any (·.1) = false) :
    eval (.Call (.Attribute y m apos) xs [] pos) env = (do
      let ov ← eval y env
      standAt apos.atName
      let (f, first) ← holding [ov] (getMethod ov m (do return (← importBound y env).getD true))
      callWith pos f first (backTo pos (starEach xs env)) (backToKw pos (keywordEach [] env))) := by
  have e0 : eval (.Call (.Attribute y m apos) xs [] pos) env = (do
      let ov ← attributeBase y m env (eval y env)
      standAt apos.atName
      methodCall y m apos pos env ov (xs.length + 0) (backTo pos (starEach xs env)) (backToKw pos (keywordEach [] env))) := rfl
  have hform : methodCallForm (xs.length + 0) (backTo pos (starEach xs env)) (backToKw pos (keywordEach [] env)) = true := by
    unfold methodCallForm
    have h1 : (backTo pos (starEach xs env)).all (!·.1) = true := by
      rw [List.all_eq_true]
      intro z hz
      have := List.any_eq_false.mp hst z hz
      simpa using this
    rw [h1]
    show (true && true && decide (xs.length + 0 + 0 < 30)) = true
    simp
    omega
  rw [e0, notSup_base hsup]
  unfold methodCall calleeOf methodCallPos
  rw [hform, hline]
  rfl
theorem k_meth (C : Ctx G Γ L c X W) (hh : c.hot = false) {f nd : Nat} {i : FnI} {d : Nat} {o : Ex} {es : List Ex} {y : Expr} {m : Str} {apos : Pos} {xs : List Expr} (hline : (apos.endLine == pos.line) = true) (h30 : xs.length < 30) (hi : G.fn f = some i) (hn : i.name = m) (hcl : i.cls = some d) (hm : m ∉ G.flds d)
    (hlv : i.lvl ≤ c.k) (hnd : nd ≤ i.dfl.length) (hnp : xs.length + nd + 1 = i.np) (hf : f < c.m) (hcd : ∃ ci, G.cl d = some ci) (hsup : notSup y = true) (ho : EOk X L W y (den G Γ o)) (hs : Paired (fun e p => EOk X L W e p ∧ Stat e) xs (dens G Γ es)) :
    EOk X L W (.Call (.Attribute y m apos) xs [] pos) (den G Γ (.meth f nd o es)) := by
  show EOk X L W _ (plain fun ρ μ F R => (den G Γ o).1 ρ μ F fun x μ1 => ∃ i c p us, G.fn f = some i ∧ i.cls = some c ∧ x = .own p ∧ μ1 p = some (.obj c us) ∧
      evs (dens G Γ es) ρ μ1 F fun ts μ2 => Γ f (x :: (ts ++ (i.rest nd).map T.int)) μ2 F R)
  generalize dens G Γ es = pes at hs
  refine EOk.plain (fun Φ B μ H σ ρ F R Q S sl q kx k => ?_) fun _ => rfl
  obtain ⟨a, fd, ps, FF⟩ := C.g.fn f i hf hi
  obtain ⟨ds, hb, hd⟩ := FF.bi nd hnd
  obtain ⟨ci, hci⟩ := hcd
  have CF := C.g.cl d ci hci
  have hme := FF.me d hcl
  rw [hn] at hme
  have key : ∀ (p : Addr) (vs : List V) (ts : List T) (H2 B2 : Hp) (μ2 : Sto), Le B B2 → St X.K L Φ H2 B2 μ2 → Trs X.K B2 vs ts → ts.length = xs.length → Γ f (.own p :: (ts ++ (i.rest nd).map T.int)) μ2 F R → spOf X.K L i.np (Γ f) (.ref p :: (vs ++ (i.rest nd).map V.int)) H2 Q (WE W σ) := fun p vs ts H2 B2 μ2 l2 S2 r2 n2 q2 => by
    refine sp_ok ?_ S2 (Trs.cons (show Tr X.K B2 (.ref p) (.own p) from rfl) (r2.append (ints_v _))) q2 (k.mono l2) (kx.mono l2)
    rw [List.length_cons, List.length_append, List.length_map, r2.length, n2, ← hnp]
    unfold FnI.rest
    rw [List.length_drop]
    omega
  have form := meth_form (pos := pos) (m := m) hsup hline h30 (star_plain hs X.env pos)
  cases hs with
  | nil =>
    have step : sE X y σ H fun v H1 => ∃ (p dx : Addr) (us : List V), v = .ref p ∧ H1 p = some (.ins (L.addr d) dx ((L.flds d).zip us)) ∧ spOf X.K L i.np (Γ f) (.ref p :: ([] ++ (i.rest nd).map V.int)) H1 Q (WE W σ) := by
      refine ho.v Φ B μ H σ ρ F _ _ S sl q kx fun v t H1 B1 μ1 l1 S1 r1 q1 => ?_
      obtain ⟨j, d', p, us, e1, e2, rfl, e3, q1⟩ := q1
      rw [hi] at e1
      cases e1
      rw [hcl] at e2
      cases e2
      obtain rfl := r1
      obtain ⟨dx, vs, h1, h2, h3⟩ := S1.memO e3
      exact ⟨p, dx, vs, rfl, h1, key p [] [] H1 B1 μ1 l1 S1 rfl rfl q1⟩
    intro pins s I
    refine PySem.W.methodCall_KW (pl := do return (← importBound y X.env).getD true) (thn (step pins s I) fun u s1 ⟨x, H1, I1, rx, p, dx, us, e1, e2, q1⟩ => ?_) form
    subst e1
    obtain rfl : u = Value.ref p := rx
    refine getmeth_ok I1 e2 CF.cl hme (by rw [C.g.fl]; exact zip_none hm us) ?_
    exact PySem.W.callWith_K0 (first := [.ref p]) I1.kIn hme.kp (run_fnSD (us := [.ref p]) (vs := [.ref p]) FF.ok ((C.room hh).mono hlv) hb hd (passR (C.tk hh) σ) I1 (.cons rfl .nil) q1)
  | cons h1 hs' =>
    rename_i e0 p0 es0 ps0
    have step : sE X y σ H fun v H1 => ∃ (p dx : Addr) (us : List V), v = .ref p ∧ H1 p = some (.ins (L.addr d) dx ((L.flds d).zip us)) ∧ sA X (e0 :: es0) σ H1 (fun vs H2 => spOf X.K L i.np (Γ f) (.ref p :: (vs ++ (i.rest nd).map V.int)) H2 Q (WE W σ)) := by
      refine ho.v Φ B μ H σ ρ F _ _ S sl q kx fun v t H1 B1 μ1 l1 S1 r1 q1 => ?_
      obtain ⟨j, d', p, us, e1, e2, rfl, e3, q1⟩ := q1
      rw [hi] at e1
      cases e1
      rw [hcl] at e2
      cases e2
      obtain rfl := r1
      obtain ⟨dx, vs, h11, h2, h3⟩ := S1.memO e3
      refine ⟨p, dx, vs, rfl, h11, ?_⟩
      exact AOk.of (.cons h1 hs') Φ B1 μ1 H1 σ ρ F _ _ S1 (sl.mono l1) q1 (kx.mono l1) fun vs ts H2 B2 μ2 l2 S2 r2 n2 q2 => key p vs ts H2 B2 μ2 (l1.trans l2) S2 r2 n2 q2
    intro pins s I
    refine PySem.W.methodCall_KW (pl := do return (← importBound y X.env).getD true) (thn (step pins s I) fun u s1 ⟨x, H1, I1, rx, p, dx, us, e1, e2, q1⟩ => ?_) form
    subst e1
    obtain rfl : u = Value.ref p := rx
    refine getmeth_ok I1 e2 CF.cl hme (by rw [C.g.fl]; exact zip_none hm us) ?_
    refine PySem.W.callWith_K (first := [.ref p]) (h₀ := X.base) I.ok.mod.kin hme.kp (thn (q1 pos pins s1 I1) fun us s2 ⟨vs, H2, I2, r, q2⟩ => ⟨I2.kIn, ?_⟩) (h1.2.star X.env _) (star_plain hs' X.env pos)
    exact run_fnSD (us := .ref p :: us) (vs := .ref p :: vs) FF.ok ((C.room hh).mono hlv) hb hd (passR (C.tk hh) σ) I2 (.cons rfl r) q2
/-! len(set(xs)) of ints, isinstance of an own class, isinstance of a caught exception by two classes -/
theorem firstMet_le (f : Nat → Int) : ∀ n, (PyProof.Rows.firstMet f n).length ≤ n
  | 0 => Nat.le_refl _
  | n + 1 => by
    have ih := firstMet_le f n
    rw [PyProof.Rows.firstMet_succ]
    unfold step_dedup
    split
    · omega
    · rw [List.length_append]; simp; omega
def tLenSetF (K : PySem.W.Frag) (ta : TE) : TE := fun σ H Q => ta σ H fun x H1 => ∃ (l : Addr) (ns : List Int), x = .ref l ∧ SqL K H1 l (ns.map V.int) ∧ ns.length ≤ 4000 ∧ Q (.int ((PyProof.Rows.firstMet (fun i => ns.getD i 0) ns.length).length : Nat)) H1
theorem pe_lenSetF {X : Cx} {a : Expr} {ta : TE} {p p2 q pos : Pos} (hg : Gl X "len") (hm : X.mg "len" = none) (hg2 : Gl X "set") (hm2 : X.mg "set" = none) (ha : PE X a ta) (hc : X.calm = true)
    (na : starEach [a] X.env = (false, eval a X.env) :: starEach [] X.env) : PE X (.Call (.Name "len" p) [.Call (.Name "set" p2) [a] [] q] [] pos) (tLenSetF X.K ta) := by
  refine ⟨fun pins s σ H Q I h => ?_⟩
  refine Call_ (ld_blt I hg hm boot_len ?_)
  refine PyProof.Rows.callWith_builtin1 (PyProof.Rows.args_cons ?_ rfl) rfl rfl
  refine Call_ (ld_blt I hg2 hm2 boot_set ?_)
  refine PyProof.Rows.callWith_type1 (PyProof.Rows.args_cons (thn (ha.run pins s σ H _ I h) fun v s1 ⟨x, H1, I1, r1, q1⟩ => PyProof.Rows.args_nil ?_) na) na rfl
  obtain ⟨l, ns, rfl, hq, hl, q1⟩ := q1
  cases r1
  obtain ⟨its, r, pl, hz⟩ := I1.list hq
  have hlen : its.toArray.size = ns.length := by rw [List.size_toArray, ← r.length, List.length_map]
  refine call_set_list (I1.ok.hd hc) pl.isList (by simpa using RZ.intsAre_vals r) (by rw [hlen]; unfold scanBound; omega) fun h' tk hS hk => ?_
  refine PyProof.Rows.args_nil ?_
  rw [hlen] at hS
  have hle := firstMet_le (fun i => ns.getD i 0) ns.length
  obtain ⟨o, es, ep, t, ho, hex, hd, _, _, _, hf, hn⟩ := hS
  have I2 : Inv X pins σ H1 { s1 with heap := h', toks := tk } := I1.kept fun b o e => hk b o (Heap.lt_size e) e
  exact call_len_set ho hex hd hf (by rw [hn] <;> omega) ⟨.int _, H1, I2.tok _, ⟨_, by rw [hn]⟩, q1⟩
theorem k_nset (C : Ctx G Γ L c X W) (hh : c.hot = false) {a : Ex} {l f : Str} {p p2 p3 : Pos} {x : Expr} (h1 : gName c "len" l = true) (h2 : gName c "set" f = true) (h : EOk X L W x (den G Γ a)) (st : Stat x) :
    EOk X L W (.Call (.Name l p) [.Call (.Name f p2) [x] [] p3] [] pos) (den G Γ (.nset a)) := by
  obtain ⟨rfl, g1⟩ := gName_ok h1
  obtain ⟨rfl, g2⟩ := gName_ok h2
  refine EOk.plain (fun Φ B μ H σ ρ F R Q S sl q kx k => ?_) fun _ => rfl
  refine sE_of (pe_lenSetF (C.gl _ g1) (C.g.bl _ (by decide +kernel)) (C.gl _ g2) (C.g.bl _ (by decide +kernel)) pe_s (C.calm hh) (st.star _ _)) ?_
  refine h.v Φ B μ H σ ρ F _ _ S sl q kx fun v t H1 B1 μ1 l1 S1 r1 q1 => ?_
  obtain ⟨ns, e, hl, q1⟩ := q1
  obtain ⟨ad, vs, rfl, hq, r2⟩ := vlst_ok S1 r1 e
  obtain rfl := r2.ints
  exact ⟨ad, ns, rfl, hq, hl, k _ _ H1 B1 μ1 l1 S1 (show Tr X.K B1 (.int _) (.int _) from rfl) q1⟩
theorem k_isc (C : Ctx G Γ L c X W) {d : Nat} {a : Ex} {f k : Str} {p p2 : Pos} {y : Expr} {i : ClI} (hf : gName c "isinstance" f = true) (hi : G.cl d = some i) (hn : i.name = k) (hg : glb c.sc k = true) (hp : plainN k = true) (hxc : G.xc = true) (sy : Stat y) (ha : EOk X L W y (den G Γ a)) :
    EOk X L W (.Call (.Name f p) [y, .Name k p2] [] pos) (den G Γ (.isc d a)) := by
  obtain ⟨rfl, gf⟩ := gName_ok hf
  obtain ⟨h1, h2, h3, h4⟩ := isi_nm
  have hm := (C.g.cl d i hi).mg_
  rw [hn] at hm
  refine EOk.plain (fun Φ B μ H σ ρ F R Q S sl q kx kk => ?_) fun _ => rfl
  refine sE_of (pe_callB (C8.call_isC (C.g.kc hxc d i hi)) (C.gl _ gf) (C.g.bl _ h1) h2 (pa_cons pe_s (pa_cons (show PE X (.Name k p2) (fun σ H Q => Q (.ref (L.addr d)) H) from pe_glob (C.gl _ hg) hm rfl (plainN_ok hp).1) pa_nil) (sy.star _ _)) h4 h3 (sy.star _ _) rfl) ?_
  refine ha.v Φ B μ H σ ρ F _ _ S sl q kx fun v t H1 B1 μ1 l1 S1 r1 q1 => ?_
  obtain ⟨pp, us, rfl, e, q1⟩ := q1
  obtain rfl := r1
  obtain ⟨dx, vs, h5, _, _⟩ := S1.memO e
  exact ⟨pp, dx, _, rfl, h5, kk _ _ H1 B1 μ1 l1 S1 (show Tr X.K B1 (.bl _) (.bl _) from rfl) q1⟩
theorem call_isE2 {X : Cx} {a D : Addr} {oe : Obj} (C : ExcC X.K D) (hz : Zc (.ref D) Option.none oe) (hf : ∃ vs, oe.data = .fields vs) (hpn : (a, oe) ∈ X.pn) : CallR X (.builtin "isinstance") (fun xs H Q => ∃ (tp : Addr) (cs : List V) (us : List Value) (b : Bool), xs = [.ref a, .ref tp] ∧ H tp = some (.tup cs) ∧ Paired ClsV cs us ∧ PySem.W.kitAny X.K (.ref D) us = some b ∧ Q (.bl b) H) := by
  intro pins s σ H xs us Q I r h
  obtain ⟨tp, cs, ws, b, rfl, hT, k, e, q⟩ := h
  obtain ⟨u1, u2, rfl, r1, r2⟩ := vals2 r
  cases (show u2 = Value.ref tp from r2)
  cases (show u1 = Value.ref a from r1)
  obtain ⟨hget, _⟩ := I.pin (a, oe) (List.mem_append_left _ hpn)
  obtain ⟨vs, hv⟩ := hf
  have J : PySem.W.InstAt s.heap a oe D Option.none := by
    obtain ⟨oc, od, oda, osl⟩ := oe
    obtain ⟨h1, h2⟩ := hz
    dsimp only at h1 h2 hv
    subst h1 h2 hv
    exact ⟨hget, rfl, rfl, trivial⟩
  obtain ⟨_, its, rv, o, h1, h2, n, h3⟩ := (show ObjOk _ _ H s.heap tp (.tup cs) from I.hok tp _ hT)
  have e3 := ClsV.all k rv
  subst e3
  obtain ⟨oc, od, dt, sl⟩ := o
  simp only at h2 h3
  subst h2 h3
  exact PySem.W.kia_tup (PySem.W.handS_kitx_exc C.hg C.hk C.hs C.hd C.ha C.hn C.ht C.hm) I.kIn J h1 e (fun z => nomatch z) fun tk => ⟨.bl b, H, I.kept (t' := tk) fun _ _ z => z, rfl, q⟩
theorem cls_ex (C : Ctx G Γ L c X W) {a h : Nat} {n k : Str} {p3 : Pos} (hk : exName G h = some k) (hg : glb c.sc k = true) (hpk : plainN k = true) (ea : G.ex a = some n) (hxs : G.xs = true) :
    ∃ (cv : V) (w : Value), PE X (.Name k p3) (fun σ H Q => Q cv H) ∧ ClsV cv w ∧ PySem.W.kitOne X.K (.ref (L.exc a)) w = some (subX G a h) := by
  obtain ⟨k1, k2, k3⟩ := C.g.ki hxs a n ea
  unfold exName at hk
  by_cases e : h = 999
  · rw [if_pos e] at hk
    cases hk
    refine ⟨.ty "ValueError", .type "ValueError", pe_bltn (v := .ty "ValueError") (C.gl _ hg) (C.g.bl _ ve_nm.1) ve_nm.2 rfl (plainN_ok hpk).2.2 (plainN_ok hpk).1, .ty _, ?_⟩
    have : subX G a h = true := by
      unfold subX
      simp [e]
    rw [this]
    exact k2
  · rw [if_neg e] at hk
    exact ⟨.ref (L.exc h), .ref (L.exc h), pe_glob (C.gl _ hg) (C.g.ex h k hk).mg_ rfl (plainN_ok hpk).1, .own _, k1 h k hk⟩
theorem kitAny2 {K : PySem.W.Frag} {t c1 c2 : Value} {b b' : Bool} (h1 : PySem.W.kitOne K t c1 = some b) (h2 : PySem.W.kitOne K t c2 = some b') : PySem.W.kitAny K t [c1, c2] = some (b || b') := by
  cases b with
  | true => exact kitAny_cons h1 (fun z => by cases z) (fun _ => rfl)
  | false =>
    refine kitAny_cons h1 (fun _ => ?_) (fun z => by cases z)
    cases b' with
    | true => exact kitAny_cons h2 (fun z => by cases z) (fun _ => rfl)
    | false => exact kitAny_cons h2 (fun _ => kitAny_nil) (fun z => by cases z)
theorem k_isx2 (C : Ctx G Γ L c X W) {i h h' : Nat} {x f k k' : Str} {p p2 p3 p4 p5 : Pos} {kt : Nat} (hf : gName c "isinstance" f = true) (hN : c.N[i]? = some x) (hv : vis c.sc x = true) (hp : plainN x = true) (hk : exName G h = some k) (hg : glb c.sc k = true) (hpk : plainN k = true)
    (hk' : exName G h' = some k') (hg' : glb c.sc k' = true) (hpk' : plainN k' = true) (has : c.as = true) (hxs : G.xs = true) :
    EOk X L W (.Call (.Name f p) [.Name x p2, .Tuple [.Name k p3, .Name k' p4] kt p5] [] pos) (den G Γ (.isx2 i h h')) := by
  obtain ⟨rfl, gf⟩ := gName_ok hf
  obtain ⟨h1, h2, h3, h4⟩ := isi_nm
  obtain ⟨_, pe, oe, a, n, hpn, _, ea, hz, hfd, hcu, _⟩ := C.cu has
  obtain ⟨_, _, k3⟩ := C.g.ki hxs a n ea
  obtain ⟨cv, w, pe1, w1, kit1⟩ := cls_ex (p3 := p3) C hk hg hpk ea hxs
  obtain ⟨cv', w', pe2, w2, kit2⟩ := cls_ex (p3 := p4) C hk' hg' hpk' ea hxs
  refine EOk.plain (fun Φ B μ H σ ρ F R Q S sl q kx kk => ?_) fun _ => rfl
  obtain ⟨t, et, q⟩ := q
  rw [hcu] at q
  obtain ⟨g, e1, _, b, eb, q⟩ := q
  obtain ⟨g', e1', _, b', eb', q⟩ := q
  simp only [List.cons.injEq, T.int.injEq, and_true] at e1 e1'
  obtain ⟨rfl, e2⟩ := e1
  have e2 : h = g := by omega
  have e2' : h' = g' := by omega
  subst e2 e2'
  cases eb
  cases eb'
  obtain ⟨v, e3, r⟩ := sl.2 i _ et
  obtain rfl := r
  refine sE_of (pe_callB (call_isE2 k3 hz hfd hpn) (C.gl _ gf) (C.g.bl _ h1) h2 (pa_cons (pe_var (by rw [C.N]; exact hN) (C.vi x hv) (plainN_ok hp).1 (plainN_ok hp).2.1) (pa_cons (pe_tup (pa_cons pe1 (pa_cons pe2 pa_nil rfl) rfl)) pa_nil rfl) rfl) h4 h3 rfl rfl) ?_
  refine ⟨_, e3, (show (2 : Nat) ≤ 16777216 by decide), fun tp htp => ?_⟩
  refine ⟨tp, [cv, cv'], [w, w'], _, rfl, upd_same, .cons w1 (.cons w2 .nil), kitAny2 kit1 kit2, ?_⟩
  exact kk _ _ _ B μ (Same.refl _) (S.aside htp) (show Tr _ B (.bl _) (.bl _) from rfl) q
end
end Rh

namespace Rh
open PySem PySem.Spec PyProof.Rows L2
section
variable {X : Cx} {L : Lay} {W : WX} {G : Tab} {Γ : Nat → TSp} {c : SC} {pos : Pos}
/-! ## 16. Objects made, fields, methods of lists -/
theorem make_at {pins : List (Addr × Obj)} {σ : L2.St} {H : Hp} {s : Shared} {Q : VK} {us : List Value} {vs : List V} {D f : Addr} {k : Nat} {fd : FuncData} {ps : List Str} {sp : Sp} {E : L2.St → XK} (M : Mk X.K D f) (FF : FnOk X.prog X.w X.K X.mg X.base (CXR X.prog X.w) k f fd ps sp)
    (hr : Room (k + 1) X.A) (hb : Binds X.K fd ps []) (hx : PassesAt (CXR X.prog X.w) X σ (E σ)) (I : L2.Inv X pins σ H s) (r : Vals vs us)
    (h : ∀ x dx, H x = none → H dx = none → dx ≠ x → sp (.ref x :: vs) (upd (upd H dx (.own x)) x (.ins D dx [])) (fun v H2 => v = .non ∧ Q (.ref x) H2) (E σ)) :
    wpAny (model X.prog X.w) X.A (call (.ref D) us) (EP X pins σ Q) X.xe s := by
  have q0 := h (s.heap.objs.size + 1) s.heap.objs.size (I.hok.fresh (Nat.le_succ _)) (I.hok.fresh (Nat.le_refl _)) (Nat.ne_of_lt (Nat.lt_succ_self _))
  have J := Inv.made (C := D) I
  have rr : Vals (V.ref (s.heap.objs.size + 1) :: vs) (Value.ref (s.heap.objs.size + 1) :: us) := .cons rfl r
  have hl : (Value.ref (s.heap.objs.size + 1) :: us ++ []).length = ps.length := by
    rw [List.append_nil, ← rr.length]
    exact FF.len _ _ _ _ q0
  have b0 := hb _ (Value.ref (s.heap.objs.size + 1) :: us) J.kIn hl
  rw [List.append_nil] at b0
  refine wpAny_call (make_map (f := f) I.kIn M.makes M.init (beq_iff_eq.mp M.fn) (codeAny_mono (FF.run _ X.stack _ _ ⟨Value.ref (s.heap.objs.size + 1) :: us, []⟩ _ _ _ (E σ) (hr.make D us []) (J.env0.make D us []) b0 rr q0) fun res s' hq => ?_))
  match res, hq with
  | .error e, hq => exact hx pins _ _ e s' J hq
  | .ok (.ret u), hq =>
    obtain ⟨v, H', J3, rv, ev, q3⟩ := J.after hq
    subst ev
    exact ⟨rv, .ref (s.heap.objs.size + 1), H', J3, rfl, q3⟩
theorem k_make (C : Ctx G Γ L c X W) (hh : c.hot = false) {d : Nat} {ci : ClI} {j : FnI} {es : List Ex} {x : Str} {p : Pos} {xs : List Expr} (hci : G.cl d = some ci) (hn : ci.name = x) (hf : ci.init < c.m) (hj : G.fn ci.init = some j) (hlv : j.lvl < c.k) (hnp : xs.length + 1 = j.np)
    (hg : glb c.sc x = true) (hp : plainN x = true) (hs : Paired (fun e p => EOk X L W e p ∧ Stat e) xs (dens G Γ es)) : EOk X L W (.Call (.Name x p) xs [] pos) (den G Γ (.make d es)) := by
  show EOk X L W _ (plain fun ρ μ F R => evs (dens G Γ es) ρ μ F fun ts μ1 => ∃ i, G.cl d = some i ∧ ∀ p, μ1 p = none → Γ i.init (.own p :: ts) (μ1.set p (.obj d [])) F fun v μ2 => v = .non ∧ R (.own p) μ2)
  generalize dens G Γ es = pes at hs
  refine EOk.plain (fun Φ B μ H σ ρ F R Q S sl q kx k => ?_) fun _ => rfl
  have CF := C.g.cl d ci hci
  obtain ⟨a, fd, ps, FF⟩ := C.g.fn ci.init j hf hj
  obtain ⟨j', e1, e2, e3, e4⟩ := CF.ini
  rw [hj] at e1
  cases e1
  obtain ⟨ds, hb, hd⟩ := FF.bi 0 (Nat.zero_le _)
  have hds : ds = [] := by
    have z : (j.rest 0).map V.int = [] := by unfold FnI.rest; rw [e4]; rfl
    rw [z] at hd
    cases hd
    rfl
  subst hds
  have hme := FF.me d e2
  rw [e3] at hme
  have M : Mk X.K (L.addr d) a := ⟨CF.mks, hme.at_, hme.fn, CF.kp⟩
  have hm := CF.mg_
  rw [hn] at hm
  have key : ∀ (vs : List V) (ts : List T) (H1 B1 : Hp) (μ1 : Sto), Le B B1 → St X.K L Φ H1 B1 μ1 → Trs X.K B1 vs ts → ts.length = xs.length → (∃ i, G.cl d = some i ∧ ∀ p, μ1 p = none → Γ i.init (.own p :: ts) (μ1.set p (.obj d [])) F fun v μ2 => v = .non ∧ R (.own p) μ2) →
      ∀ x dx, H1 x = none → H1 dx = none → dx ≠ x → spOf X.K L j.np (Γ ci.init) (.ref x :: vs) (upd (upd H1 dx (.own x)) x (.ins (L.addr d) dx [])) (fun v H2 => v = .non ∧ Q (.ref x) H2) (WE W σ) := fun vs ts H1 B1 μ1 l1 S1 r1 n1 q1 x dx hx hdx ne => by
    obtain ⟨i, e, q1⟩ := q1
    rw [hci] at e
    cases e
    have S2 := S1.aside (o := .own x) hdx
    have hx2 : (upd H1 dx (.own x)) x = none := by rw [upd_ne ne.symm]; exact hx
    have S3 := S2.put (p := x) (o := .ins (L.addr d) dx []) (ob := .obj d []) (S2.freshB hx2) (S2.freshF hx2) (show ObOk X.K L _ B1 x (.obj d []) from ⟨dx, [], by rw [upd_same, List.zip_nil_right], rfl, Nat.zero_le _⟩)
    refine sp_ok ?_ S3 (Trs.cons (show Tr X.K B1 (.ref x) (.own x) from rfl) r1) (q1 x (S1.fresh hx)) (fun v t H' B' μ' l' S' r' q' => ?_) (kx.mono l1)
    · rw [List.length_cons, r1.length, n1, ← hnp]
    · obtain ⟨rfl, q'⟩ := q'
      exact ⟨r', k _ (.own x) H' B' μ' (l1.trans l') S' rfl q'⟩
  intro pins s I
  refine wpAny_Call_Name_kw (ld_glob I (C.gl x hg) hm ?_ (plainN_ok hp).1)
  cases hs with
  | nil => exact PySem.W.callWith_K0 I.kIn CF.kp (make_at (us := []) (vs := []) M FF.ok ((C.room hh).mono hlv) hb (passR (C.tk hh) σ) I .nil (key [] [] H B μ (Same.refl _) S rfl rfl q))
  | cons h1 hs' =>
    have A := AOk.of (.cons h1 hs') Φ B μ H σ ρ F _ (fun vs H1 => ∀ x dx, H1 x = none → H1 dx = none → dx ≠ x → spOf X.K L j.np (Γ ci.init) (.ref x :: vs) (upd (upd H1 dx (.own x)) x (.ins (L.addr d) dx [])) (fun v H2 => v = .non ∧ Q (.ref x) H2) (WE W σ)) S sl q kx key
    refine PySem.W.callWith_K (h₀ := X.base) I.ok.mod.kin CF.kp (thn (A pos pins s I) fun us s1 ⟨vs, H1, I1, r, q1⟩ => ⟨I1.kIn, ?_⟩) (h1.2.star X.env _) (star_plain hs' X.env pos)
    exact make_at M FF.ok ((C.room hh).mono hlv) hb (passR (C.tk hh) σ) I1 r q1
theorem k_fld (C : Ctx G Γ L c X W) {d i : Nat} {o : Ex} {y : Expr} {f : Str} (hsup : notSup y = true) (hi : (G.flds d)[i]? = some f) (hcd : ∃ ci, G.cl d = some ci) (ho : EOk X L W y (den G Γ o)) : EOk X L W (.Attribute y f pos) (den G Γ (.fld d i o)) := by
  refine EOk.plain (fun Φ B μ H σ ρ F R Q S sl q kx k => ?_) fun _ => rfl
  obtain ⟨ci, hci⟩ := hcd
  have CF := C.g.cl d ci hci
  refine sE_of (pe_fld pe_s (notSup_base hsup)) ?_
  refine ho.v Φ B μ H σ ρ F _ _ S sl q kx fun v t H1 B1 μ1 l1 S1 r1 q1 => ?_
  obtain ⟨p, us, t, rfl, e, et, q1⟩ := q1
  obtain rfl := r1
  obtain ⟨dx, vs, h1, h2, h3⟩ := S1.memO e
  obtain ⟨w, ew, rw'⟩ := h2.get et
  refine ⟨p, L.addr d, dx, _, w, rfl, h1, CF.cl, CF.no f (List.mem_of_getElem? hi), ?_, k w t H1 B1 μ1 l1 S1 rw' q1⟩
  rw [C.g.fl]
  exact zip_look CF.nd hi ew
theorem rcv_ty {K : PySem.W.Frag} {Φ H B : Hp} {μ : Sto} {m : Lm} {x : T} {v : V} (S : St K L Φ H B μ) (r : Tr K B v x) (h : rcv m μ x) : tyV K (lmTy m) v H := by
  have lst : (∃ us, vlst μ x = some us) → tyV K "list" v H := fun ⟨us, e⟩ => by
    obtain ⟨a, vs, rfl, h1, h2⟩ := vlst_ok S r e
    exact .inl ⟨rfl, vs, h1⟩
  have str : (∃ z, x = .str z) → tyV K "str" v H := fun ⟨z, e⟩ => by
    subst e
    obtain rfl := r
    exact (rfl : "str" = "str")
  cases m <;> first | exact lst h | exact str h
theorem lm_at (m : Lm) : PlainAttrs (lmTy m) := by
  cases m <;> first | exact PySem.F.plainAttrs_list | exact PySem.F.plainAttrs_str
theorem lm_pa (m : Lm) : Slot (lmTy m) (lmName m) (lmId m) ∧ typeOf (.builtin (lmId m)) = pure (.type "method_descriptor") := by
  cases m with
  | append => exact ⟨PySem.F.slot_list_append, PySem.F.type_list_append⟩
  | pop => exact ⟨PySem.F.slot_list_pop, PySem.F.type_list_pop⟩
  | popAt => exact ⟨PySem.F.slot_list_pop, PySem.F.type_list_pop⟩
  | extend => exact ⟨PySem.F.slot_list_extend, PySem.F.type_list_extend⟩
  | index => exact ⟨PySem.F.slot_list_index, PySem.F.type_list_index⟩
  | insert => exact ⟨PySem.F.slot_list_insert, PySem.F.type_list_insert⟩
  | remove => exact ⟨PySem.F.slot_list_remove, PySem.F.type_list_remove⟩
  | count => exact ⟨PySem.F.slot_list_count, PySem.F.type_list_count⟩
  | join => exact ⟨PySem.F.slot_str_join, PySem.F.type_str_join⟩
  | split => exact ⟨PySem.F.slot_str_split, PySem.F.type_str_split⟩
  | partition => exact ⟨PySem.F.slot_str_partition, PySem.F.type_str_partition⟩
  | startswith => exact ⟨PySem.F.slot_str_startswith, PySem.F.type_str_startswith⟩
theorem k_lm (C : Ctx G Γ L c X W) {m : Lm} {o : Ex} {es : List Ex} {y : Expr} {f : Str} {apos : Pos} {xs : List Expr} (hf : f = lmName m) (hline : (apos.endLine == pos.line) = true) (hsup : notSup y = true) (h30 : xs.length < 30) (ho : EOk X L W y (den G Γ o))
    (hs : Paired (fun e p => EOk X L W e p ∧ Stat e) xs (dens G Γ es)) : EOk X L W (.Call (.Attribute y f apos) xs [] pos) (den G Γ (.lm m o es)) := by
  subst hf
  show EOk X L W _ (plain fun ρ μ F R => (den G Γ o).1 ρ μ F fun x μ1 => rcv m μ1 x ∧ evs (dens G Γ es) ρ μ1 F fun ts μ2 => tLm m x ts μ2 R)
  generalize dens G Γ es = pes at hs
  refine EOk.plain (fun Φ B μ H σ ρ F R Q S sl q kx k => ?_) fun _ => rfl
  obtain ⟨p1, p2⟩ := lm_pa m
  have pl := star_plain hs X.env pos
  cases hs with
  | nil =>
    refine sE_of (pe_bm0 (lm_at m) p1 p2 (lm_ok (L := L) C.hu m) pe_s (notSup_base hsup) hline) ?_
    refine ho.v Φ B μ H σ ρ F _ _ S sl q kx fun v t H1 B1 μ1 l1 S1 r1 q1 => ?_
    obtain ⟨e, q1⟩ := q1
    exact ⟨rcv_ty S1 r1 e, Φ, B1, μ1, t, [], R, S1, r1, rfl, q1, k.mono l1⟩
  | cons h1 hs' =>
    rename_i e0 p0 es0 ps0
    have hfew : ((backTo pos (starEach (e0 :: es0) X.env)).all (fun x => !x.1) && (backToKw pos (keywordEach [] X.env)).all (fun x => x.1.isSome) && decide ((e0 :: es0).length + ([] : List Keyword).length + (if ([] : List Keyword).isEmpty then 0 else 1) < 30)) = true := by
      have z : (backTo pos (starEach (e0 :: es0) X.env)).all (fun x => !x.1) = true := by
        rw [List.all_eq_true]
        intro w hw
        have := List.any_eq_false.mp pl w hw
        simpa using this
      rw [z]
      show (true && true && decide ((e0 :: es0).length + 0 + 0 < 30)) = true
      simp only [Bool.true_and, decide_eq_true_eq]
      omega
    refine sE_of (pe_bm (lm_at m) p1 p2 (lm_ok (L := L) C.hu m) pe_s pa_s (notSup_base hsup) hfew hline (h1.2.star X.env _) (star_plain hs' X.env pos)) ?_
    refine ho.v Φ B μ H σ ρ F _ _ S sl q kx fun v t H1 B1 μ1 l1 S1 r1 q1 => ?_
    obtain ⟨e, q1⟩ := q1
    refine ⟨rcv_ty S1 r1 e, ?_⟩
    refine AOk.of (.cons h1 hs') Φ B1 μ1 H1 σ ρ F _ _ S1 (sl.mono l1) q1 (kx.mono l1) fun ws ts H2 B2 μ2 l2 S2 r2 n2 q2 => ?_
    exact ⟨Φ, B2, μ2, t, ts, R, S2, r1.mono l2, r2, q2, k.mono (l1.trans l2)⟩

/-! ## 17. What a loop walks, from the text -/
def ItOkP (P : TI → Prop) (X : Cx) (L : Lay) (W : WX) (k : ItK) (iter : Expr) (ps : List (TEx × TTe)) : Prop := notSet iter = true ∧ ∃ wi, P wi ∧ ∀ Φ B μ H σ ρ F (K : List T → (Sto → Prop) → Sto → Prop) (R : It → Hp → Prop), St X.K L Φ H B μ → Slots X.K B σ ρ →
  evs ps ρ μ F (fun ts μ1 => itT k ts μ1 fun us gd => K us gd μ1) → PostX X.K L Φ B F (WE W σ) →
  (∀ J H1 B1 μ1 us gd, Le B B1 → St X.K L Φ H1 B1 μ1 → Sim X.K L B1 J us gd → K us gd μ1 → R J H1) → wi σ H R
abbrev ItOk (X : Cx) (L : Lay) (W : WX) (k : ItK) (tg iter : Expr) (ps : List (TEx × TTe)) : Prop := ItOkP (PI X tg iter) X L W k iter ps
/-- a list, while an exception is handled -/
abbrev ItOkH (X : Cx) (L : Lay) (W : WX) (k : ItK) (iter : Expr) (ps : List (TEx × TTe)) : Prop := ItOkP (fun wi => ∃ tl, PE X iter tl ∧ wi = iList X.K tl) X L W k iter ps
theorem it_names : (("range" : Str) ∈ blNames) ∧ (("enumerate" : Str) ∈ blNames) ∧ (("zip" : Str) ∈ blNames) ∧ (("reversed" : Str) ∈ blNames) := ⟨by decide +kernel, by decide +kernel, by decide +kernel, by decide +kernel⟩
theorem i_val {e : Expr} {tg : Expr} {p : TEx × TTe} (hn : notSet e = true) (h : EOk X L W e p) : ItOk X L W .val tg e [p] := by
  refine ⟨hn, _, pi_list pe_s, fun Φ B μ H σ ρ F K R S sl q kx k => ?_⟩
  refine h.v Φ B μ H σ ρ F _ _ S sl q kx fun v t H1 B1 μ1 l1 S1 r1 q1 => ?_
  obtain ⟨a, us, gd, rfl, ls, g0, q1⟩ := onG_ok S1 r1 (show onG μ1 t fun us gd => K us gd μ1 from q1)
  obtain ⟨vs, h1, h2⟩ := ls Φ H1 B1 μ1 (Same.refl _) S1 g0
  exact ⟨a, rfl, ⟨vs, h1⟩, k _ H1 B1 μ1 us gd l1 S1 (sim_list ls) q1⟩
theorem i_valH {e : Expr} {p : TEx × TTe} (hn : notSet e = true) (h : EOk X L W e p) : ItOkH X L W .val e [p] := by
  refine ⟨hn, _, ⟨_, pe_s, rfl⟩, fun Φ B μ H σ ρ F K R S sl q kx k => ?_⟩
  refine h.v Φ B μ H σ ρ F _ _ S sl q kx fun v t H1 B1 μ1 l1 S1 r1 q1 => ?_
  obtain ⟨a, us, gd, rfl, ls, g0, q1⟩ := onG_ok S1 r1 (show onG μ1 t fun us gd => K us gd μ1 from q1)
  obtain ⟨vs, h1, h2⟩ := ls Φ H1 B1 μ1 (Same.refl _) S1 g0
  exact ⟨a, rfl, ⟨vs, h1⟩, k _ H1 B1 μ1 us gd l1 S1 (sim_list ls) q1⟩
theorem i_tupl {e : Expr} {tg : Expr} {p : TEx × TTe} (hn : notSet e = true) (h : EOk X L W e p) : ItOk X L W .tupl tg e [p] := by
  refine ⟨hn, _, pi_tup pe_s, fun Φ B μ H σ ρ F K R S sl q kx k => ?_⟩
  refine h.v Φ B μ H σ ρ F _ _ S sl q kx fun v t H1 B1 μ1 l1 S1 r1 q1 => ?_
  obtain ⟨us, rfl, q1⟩ := q1
  obtain ⟨a, vs, rfl, h1, h2⟩ := r1
  exact ⟨a, rfl, ⟨vs, Le.seqT S1.sub h1⟩, k _ H1 B1 μ1 us any l1 S1 (sim_tup (Le.seqT S1.sub h1) S1 h1 h2) q1⟩
theorem i_strg {e : Expr} {tg : Expr} {p : TEx × TTe} (hn : notSet e = true) (h : EOk X L W e p) : ItOk X L W .strg tg e [p] := by
  refine ⟨hn, _, pi_str pe_s, fun Φ B μ H σ ρ F K R S sl q kx k => ?_⟩
  refine h.v Φ B μ H σ ρ F _ _ S sl q kx fun v t H1 B1 μ1 l1 S1 r1 q1 => ?_
  obtain ⟨z, rfl, q1⟩ := q1
  obtain rfl := r1
  exact ⟨z, rfl, k _ H1 B1 μ1 _ any l1 S1 sim_str q1⟩
theorem range_zero (n : Int) : ((List.range n.toNat).map fun i => T.int (i : Nat)) = (List.range n.toNat).map fun i => T.int (0 + (i : Nat)) := by
  refine List.map_congr_left fun i _ => ?_
  rw [Int.zero_add]
theorem i_rng1 (C : Ctx G Γ L c X W) {f : Str} {fp : Pos} {e : Expr} {tg : Expr} {p : TEx × TTe} (hx : gName c "range" f = true) (h : EOk X L W e p) (st : Stat e) : ItOk X L W .rng1 tg (.Call (.Name f fp) [e] [] pos) [p] := by
  obtain ⟨rfl, hg⟩ := gName_ok hx
  refine ⟨rfl, _, pi_range1 (C.gl _ hg) (C.g.bl _ it_names.1) (pa_cons pe_s pa_nil (st.star _ _)) (st.star _ _), fun Φ B μ H σ ρ F K R S sl q kx k => ?_⟩
  refine h.v Φ B μ H σ ρ F _ _ S sl q kx fun v t H1 B1 μ1 l1 S1 r1 q1 => ?_
  obtain ⟨n, rfl, ⟨b1, b2⟩, q1⟩ := q1
  obtain rfl := r1
  rw [range_zero] at q1
  exact ⟨n, rfl, b1, b2, k _ H1 B1 μ1 _ any l1 S1 sim_rng q1⟩
theorem i_rng2 (C : Ctx G Γ L c X W) {f : Str} {fp : Pos} {e e2 : Expr} {tg : Expr} {p p2 : TEx × TTe} (hx : gName c "range" f = true) (h : EOk X L W e p) (st : Stat e) (h2 : EOk X L W e2 p2) (st2 : Stat e2) : ItOk X L W .rng2 tg (.Call (.Name f fp) [e, e2] [] pos) [p, p2] := by
  obtain ⟨rfl, hg⟩ := gName_ok hx
  refine ⟨rfl, _, pi_range2 (C.gl _ hg) (C.g.bl _ it_names.1) (pa_cons pe_s (pa_cons pe_s pa_nil (st2.star _ _)) (st.star _ _)) (by rw [st.star, st2.star]; rfl) (st2.star _ _), fun Φ B μ H σ ρ F K R S sl q kx k => ?_⟩
  refine h.v Φ B μ H σ ρ F _ _ S sl q kx fun v t H1 B1 μ1 l1 S1 r1 q1 => ?_
  refine h2.v Φ B1 μ1 H1 σ ρ F _ _ S1 (sl.mono l1) q1 (kx.mono l1) fun w u H2 B2 μ2 l2 S2 r2 q2 => ?_
  obtain ⟨a, b, rfl, rfl, hb, q2⟩ := q2
  obtain rfl := r1
  obtain rfl := r2
  exact ⟨a, b, rfl, hb, k _ H2 B2 μ2 _ any (l1.trans l2) S2 sim_rng q2⟩
theorem i_enum (C : Ctx G Γ L c X W) {f : Str} {fp : Pos} {e : Expr} {tg : Expr} {p : TEx × TTe} (ht : isTupE tg = true) (hx : gName c "enumerate" f = true) (h : EOk X L W e p) (st : Stat e) : ItOk X L W .enum tg (.Call (.Name f fp) [e] [] pos) [p] := by
  obtain ⟨rfl, hg⟩ := gName_ok hx
  cases tg <;> first | cases ht | skip
  refine ⟨rfl, _, pi_enum (C.gl _ hg) (C.g.bl _ it_names.2.1) (pa_cons pe_s pa_nil (st.star _ _)) (st.star _ _), fun Φ B μ H σ ρ F K R S sl q kx k => ?_⟩
  refine h.v Φ B μ H σ ρ F _ _ S sl q kx fun v t H1 B1 μ1 l1 S1 r1 q1 => ?_
  obtain ⟨a, us, gd, rfl, ls, g0, q1⟩ := onG_ok S1 r1 (show onG μ1 t fun us gd => K (us.zipIdx.map fun p => .tup [.int (p.2 : Nat), p.1]) gd μ1 from q1)
  obtain ⟨vs, h1, h2⟩ := ls Φ H1 B1 μ1 (Same.refl _) S1 g0
  exact ⟨a, vs, rfl, h1, k _ H1 B1 μ1 _ gd l1 S1 (sim_enum ls) q1⟩
theorem i_rev (C : Ctx G Γ L c X W) {f : Str} {fp : Pos} {e : Expr} {tg : Expr} {p : TEx × TTe} (hx : gName c "reversed" f = true) (h : EOk X L W e p) (st : Stat e) : ItOk X L W .rev tg (.Call (.Name f fp) [e] [] pos) [p] := by
  obtain ⟨rfl, hg⟩ := gName_ok hx
  refine ⟨rfl, _, pi_reversed (C.gl _ hg) (C.g.bl _ it_names.2.2.2) (pa_cons pe_s pa_nil (st.star _ _)) (st.star _ _), fun Φ B μ H σ ρ F K R S sl q kx k => ?_⟩
  refine h.v Φ B μ H σ ρ F _ _ S sl q kx fun v t H1 B1 μ1 l1 S1 r1 q1 => ?_
  obtain ⟨a, us, gd, rfl, ls, g0, q1⟩ := onG_ok S1 r1 (show onG μ1 t fun us gd => K us.reverse gd μ1 from q1)
  obtain ⟨vs, h1, h2⟩ := ls Φ H1 B1 μ1 (Same.refl _) S1 g0
  exact ⟨a, vs, rfl, h1, k _ H1 B1 μ1 _ gd l1 S1 (sim_rev ls h2.length) q1⟩
theorem i_zip (C : Ctx G Γ L c X W) {f : Str} {fp : Pos} {e e2 : Expr} {tg : Expr} {p p2 : TEx × TTe} (ht : isTupE tg = true) (hx : gName c "zip" f = true) (h : EOk X L W e p) (st : Stat e) (h2 : EOk X L W e2 p2) (st2 : Stat e2) : ItOk X L W .zip tg (.Call (.Name f fp) [e, e2] [] pos) [p, p2] := by
  obtain ⟨rfl, hg⟩ := gName_ok hx
  cases tg <;> first | cases ht | skip
  have pl : (backTo pos (starEach [e2] X.env)).any (·.1) = false := by rw [st2.star]; rfl
  refine ⟨rfl, _, L2.pi_zip (C.gl _ hg) (C.g.bl _ it_names.2.2.1) (pa_cons pe_s (pa_cons pe_s pa_nil (st2.star _ _)) (st.star _ _)) (st.star _ _) pl, fun Φ B μ H σ ρ F K R S sl q kx k => ?_⟩
  refine h.v Φ B μ H σ ρ F _ _ S sl q kx fun v t H1 B1 μ1 l1 S1 r1 q1 => ?_
  refine h2.v Φ B1 μ1 H1 σ ρ F _ _ S1 (sl.mono l1) q1 (kx.mono l1) fun w u H2 B2 μ2 l2 S2 r2 q2 => ?_
  obtain ⟨a, us, gd, rfl, ls, g0, q2⟩ := onG_ok S2 (r1.mono l2) (show onG μ2 t fun us g1 => onG μ2 u fun ws g2 => K ((us.zip ws).map fun p => .tup [p.1, p.2]) (fun μ' => g1 μ' ∧ g2 μ') μ2 from q2)
  obtain ⟨b, ws, gd2, rfl, ls2, g02, q2⟩ := onG_ok S2 r2 q2
  obtain ⟨vs, h1', h2'⟩ := ls Φ H2 B2 μ2 (Same.refl _) S2 g0
  obtain ⟨vs2, h3', h4'⟩ := ls2 Φ H2 B2 μ2 (Same.refl _) S2 g02
  exact ⟨a, b, vs, vs2, rfl, h1', h3', k _ H2 B2 μ2 _ _ (l1.trans l2) S2 (sim_zip ls ls2) q2⟩
end
end Rh

namespace Rh
open PySem PySem.Spec PyProof.Rows L2

/-! ## 18. Lists made item by item -/
section
variable {X : Cx} {L : Lay} {W : WX} {G : Tab} {Γ : Nat → TSp} {c : SC} {pos : Pos}
theorem relabel_look {env : Env} {x : Str} : ∀ {names : List (Str × NameKind)}, ∃ b : Bool,
    (names.map fun (n, k) => if (k == NameKind.free && env.scope.kind == .function && env.kindOf n == some .cell) then (n, NameKind.cell) else (n, k)).lookup x = match names.lookup x with
      | some .free => if b then some .cell else some .free
      | o => o
  | [] => ⟨true, rfl⟩
  | (n, k) :: r => by
    obtain ⟨b, ih⟩ := relabel_look (env := env) (x := x) (names := r)
    rw [List.map_cons]
    by_cases hc : (k == NameKind.free && env.scope.kind == .function && env.kindOf n == some .cell) = true
    · have hk : k = .free := by
        simp only [Bool.and_eq_true, beq_iff_eq] at hc
        exact hc.1.1
      subst hk
      cases hx : x == n with
      | true =>
        refine ⟨true, ?_⟩
        dsimp only
        rw [if_pos hc, List.lookup_cons, List.lookup_cons, hx]
        rfl
      | false =>
        refine ⟨b, ?_⟩
        dsimp only
        rw [if_pos hc, List.lookup_cons, List.lookup_cons, hx]
        exact ih
    · cases hx : x == n with
      | true =>
        refine ⟨false, ?_⟩
        dsimp only
        rw [if_neg hc, List.lookup_cons, List.lookup_cons, hx]
        cases k <;> rfl
      | false =>
        refine ⟨b, ?_⟩
        dsimp only
        rw [if_neg hc, List.lookup_cons, List.lookup_cons, hx]
        exact ih
theorem Ctx.blk (C : Ctx G Γ L c X W) (scope : Scope) (s : Shared) (H : Hp) (D : Addr) (cl : List (Str × Addr)) (fp : List Addr) :
    Ctx G Γ L { c with sc := scope, as := false } (X.blk s H scope (compEnvC scope cl D X.env) fp) (fun _ _ _ _ => False) where
  N := C.N
  nd := C.nd
  vi := fun x h => by
    obtain ⟨b, e⟩ := relabel_look (env := X.env) (x := x) (names := scope.names)
    have h' : vis scope x = true := h
    unfold vis at h'
    show Vis (relabel scope X.env) x
    unfold Vis relabel
    rw [e]
    revert h'
    cases scope.names.lookup x with
    | none => intro h'; cases h'
    | some k =>
      cases k with
      | «local» => intro _; exact .inl rfl
      | cell => intro _; exact .inr (.inl rfl)
      | free =>
        intro _
        cases b with
        | true => exact .inr (.inl rfl)
        | false => exact .inr (.inr rfl)
      | globalExplicit => intro h'; cases h'
      | globalImplicit => intro h'; cases h'
  st := fun x h => by
    obtain ⟨b, e⟩ := relabel_look (env := X.env) (x := x) (names := scope.names)
    have h' : loc scope x = true := h
    unfold loc at h'
    show L2.Loc (relabel scope X.env) x ∧ ((scope.names.lookup x == some .cell) = true ∨ (relabel scope X.env).names.lookup x = some .local)
    unfold L2.Loc relabel
    rw [e]
    revert h'
    cases scope.names.lookup x with
    | none => intro h'; cases h'
    | some k =>
      cases k with
      | «local» => intro _; exact ⟨.inl rfl, .inr rfl⟩
      | cell => intro _; exact ⟨.inr rfl, .inl rfl⟩
      | free => intro h'; cases h'
      | globalExplicit => intro h'; cases h'
      | globalImplicit => intro h'; cases h'
  gl := fun x h => by
    obtain ⟨b, e⟩ := relabel_look (env := X.env) (x := x) (names := scope.names)
    have h' : glb scope x = true := h
    unfold glb at h'
    show (relabel scope X.env).names.lookup x = some .globalImplicit
    unfold relabel
    rw [e]
    revert h'
    cases scope.names.lookup x with
    | none => intro h'; cases h'
    | some k => cases k <;> first | (intro _; rfl) | (intro h'; cases h')
  fc := fun x h => by
    obtain ⟨b, e⟩ := relabel_look (env := X.env) (x := x) (names := scope.names)
    have h' : scope.names.lookup x = some .cell ∨ scope.names.lookup x = some .free := h
    show (relabel scope X.env).names.lookup x = some .cell ∨ (relabel scope X.env).names.lookup x = some .free
    unfold relabel
    rw [e]
    rcases h' with h' | h'
    · rw [h']
      exact .inl rfl
    · rw [h']
      cases b with
      | true => exact .inl rfl
      | false => exact .inr rfl
  room := C.room
  rh := C.rh
  hu := C.hu
  calm := C.calm
  tk := fun _ _ _ ⟨_, _, _, _, _, _, _, _, _, _, _, z⟩ => z.elim
  cu := fun h => Bool.noConfusion h
  g := C.g
theorem noPX {K : PySem.W.Frag} {Φ B : Hp} {E : XK} : PostX K L Φ B noX E := fun _ _ _ _ _ _ h => h.elim
/-- what the parts of a list made item by item are known for -/
structure CompOk (X : Cx) (L : Lay) (scope : Scope) (vs : List Nat) (g : Tg) (tg : Expr) (ifs : List Expr) (z : Expr) (pc pe : TEx × TTe) : Prop where
  g_ : ∀ s H D cl fp, GOk1 (X.blk s H scope (compEnvC scope cl D X.env) fp) L g tg
  vs_ : tgIn vs g = true
  if_ : (ifs = [] ∧ pc = den (⟨fun _ => none, fun _ => none, fun _ => none, fun _ => none, fun _ => [], false, false, fun _ => none⟩) (fun _ _ _ _ _ => False) (.cbl true)) ∨ ∃ d, ifs = [d] ∧ ∀ s H D cl fp, EOk (X.blk s H scope (compEnvC scope cl D X.env) fp) L (fun _ _ _ _ => False) d pc
  e_ : ∀ s H D cl fp, EOk (X.blk s H scope (compEnvC scope cl D X.env) fp) L (fun _ _ _ _ => False) z pe
theorem comp_lc {scope : Scope} {vs : List Nat} {own : List (Str × Nat)} {g : Tg} {tg iter z : Expr} {ifs : List Expr} {pc pe : TEx × TTe} {kk : ItK} {ps : List (TEx × TTe)} {ow : Bool} (hv : own.map (·.2) = vs) {P : TI → Prop} (it : ItOkP P X L W kk iter ps) (Q0 : CompOk X L scope vs g tg ifs z pc pe) :
    ∃ wi gg tt te, P wi ∧ (∀ s H D cl fp, PG (X.blk s H scope (compEnvC scope cl D X.env) fp) tg gg) ∧ (∀ s H D cl fp, PTs (X.blk s H scope (compEnvC scope cl D X.env) fp) ifs tt) ∧ (∀ s H D cl fp, PE (X.blk s H scope (compEnvC scope cl D X.env) fp) z te) ∧
    ∀ Φ B μ H σ ρ F R Q, St X.K L Φ H B μ → Slots X.K B σ ρ → (evs ps ρ μ F fun ts μ1 => itT kk ts μ1 fun us gd => compD ow vs g pc pe ρ R us gd μ1) → PostX X.K L Φ B F (WE W σ) → Post X.K L Φ B R Q → tLc wi gg tt te (own.map (·.2)) σ H Q := by
  obtain ⟨hn, wi, hwi, hit⟩ := it
  have tests : ∃ tt : TT, (∀ s H D cl fp, PTs (X.blk s H scope (compEnvC scope cl D X.env) fp) ifs tt) ∧ ∀ Φ B μ H σ ρ R Q, St X.K L Φ H B μ → Slots X.K B σ ρ → pc.2 ρ μ noX R → PostB X.K L Φ B R Q → tt σ H Q := by
    rcases Q0.if_ with ⟨rfl, rfl⟩ | ⟨d, rfl, hd⟩
    · exact ⟨tYes, fun _ _ _ _ _ => pts_nil, fun Φ B μ H σ ρ R Q S sl q k => k true H B μ (Same.refl _) S q⟩
    · refine ⟨fun σ H Q => ∀ s H0 D cl fp, sT (X.blk s H0 scope (compEnvC scope cl D X.env) fp) d σ H Q, fun s H0 D cl fp => pts_one ⟨fun pins s1 σ H Q I h => h s H0 D cl fp pins s1 I⟩, fun Φ B μ H σ ρ R Q S sl q k s H0 D cl fp => ?_⟩
      exact (hd s H0 D cl fp).t Φ B μ H σ ρ noX R Q S sl q noPX k
  obtain ⟨tt, htt, htt2⟩ := tests
  refine ⟨wi, fun v σ H Q => ∀ s H0 D cl fp, sG (X.blk s H0 scope (compEnvC scope cl D X.env) fp) tg v σ H Q, tt, fun σ H Q => ∀ s H0 D cl fp, sE (X.blk s H0 scope (compEnvC scope cl D X.env) fp) z σ H Q, hwi,
    fun s H0 D cl fp => ⟨fun pins s1 σ H v u Q I r h => h s H0 D cl fp pins s1 u I r⟩, htt, fun s H0 D cl fp => ⟨fun pins s1 σ H Q I h => h s H0 D cl fp pins s1 I⟩, fun Φ B μ H σ ρ F R Q S sl q kx k => ?_⟩
  refine hit Φ B μ H σ ρ F (fun us gd μ1 => compD ow vs g pc pe ρ R us gd μ1) _ S sl q kx fun J H1 B1 μ1 us gd l1 S1 sim q1 D hD => ?_
  obtain ⟨I, i0, iend, istep⟩ := q1
  have hF : Φ D = none := S1.freshF hD
  refine ⟨fun i m H2 => ∃ B2 μ2 acc r va, Le B1 B2 ∧ St X.K L (upd Φ D (.lst va)) H2 B2 μ2 ∧ Trs X.K B2 va acc ∧ us.drop i = r ∧ i ≤ us.length ∧ m = r.length ∧ I acc r μ2, ⟨us.length, B1, μ1, [], us, [], Same.refl _, S1.frame hD, rfl, rfl, Nat.zero_le _, rfl, i0⟩, ?_⟩
  rintro i m H2 ⟨B2, μ2, acc, r, va, l2, S2, ra, er, hi, em, hI⟩
  cases r with
  | nil =>
    obtain ⟨g2, fin⟩ := iend acc μ2 hI
    have hlen : us.length ≤ i := by
      have := congrArg List.length er
      rw [List.length_drop] at this
      simp at this
      omega
    exact .inl ⟨sim.stop _ i H2 B2 μ2 l2 S2 g2 hlen, claimL S2 hF ra fin (k.mono (l1.trans l2))⟩
  | cons t r =>
    obtain ⟨g2, hb⟩ := istep acc t r μ2 hI
    have hlt : i < us.length := by
      have := congrArg List.length er
      rw [List.length_drop] at this
      simp at this
      omega
    have et : us[i]? = some t := by
      have := congrArg (fun l => l[0]?) er
      simpa [List.getElem?_drop] using this
    have er' : us.drop (i + 1) = r := by
      have := congrArg List.tail er
      simpa [List.tail_drop] using this
    obtain ⟨hgo, hy⟩ := sim.go _ i H2 B2 μ2 l2 S2 g2 hlt
    refine .inr ⟨hgo, fun H3 => ∃ B3 μ3 acc va, Le B1 B3 ∧ St X.K L (upd Φ D (.lst va)) H3 B3 μ3 ∧ Trs X.K B3 va acc ∧ I acc r μ3, fun H3 ⟨B3, μ3, acc3, va3, l3, S3, r3, h3⟩ => ⟨r.length, by rw [em]; simp, B3, μ3, acc3, r, va3, l3, S3, r3, er', hlt, rfl, h3⟩, fun x H3 y => ?_⟩
    obtain ⟨B3, t', l3, S3, et', rt⟩ := hy x H3 y
    rw [et] at et'
    cases et'
    have sl3 : Slots X.K B3 (L2.wipe σ vs) (wipeT ρ vs) := (sl.mono ((l1.trans l2).trans l3)).wipe vs
    rw [hv]
    intro s H0 D0 cl fp
    refine Q0.g_ s H0 D0 cl fp _ B3 μ2 H3 _ _ x t _ _ S3 sl3 rt hb fun σ4 ρ4 sl4 w4 q4 => ⟨?_, ?_⟩
    · rw [w4 vs Q0.vs_]
      exact wipe_wipe
    · refine htt2 _ B3 μ2 H3 σ4 ρ4 _ _ S3 sl4 q4 fun b H5 B5 μ5 l5 S5 q5 => ?_
      cases b with
      | false =>
        rw [if_neg Bool.false_ne_true] at q5 ⊢
        exact ⟨B5, μ5, acc, va, (l2.trans l3).trans l5, S5, ra.mono (l3.trans l5), q5⟩
      | true =>
        rw [if_pos rfl] at q5 ⊢
        intro s' H0' D0' cl' fp'
        refine (Q0.e_ s' H0' D0' cl' fp').v _ B5 μ5 H5 σ4 ρ4 noX _ _ S5 (sl4.mono l5) q5 noPX fun v6 t6 H6 B6 μ6 l6 S6 r6 q6 => ?_
        obtain ⟨hz, y', μ7, wk, q7⟩ := q6
        obtain ⟨_, hH, _⟩ := S6.unframe hF
        obtain ⟨B7, l7, S7, r7⟩ := wk.ok S6 r6
        have ra7 := ra.mono (((l3.trans l5).trans l6).trans l7)
        refine ⟨va, hH, by rw [ra.length]; exact hz, B7, μ7, acc ++ [y'], va ++ [v6], ((((l2.trans l3).trans l5).trans l6).trans l7), S7.reframe, ra7.append (Trs.cons r7 Trs.nil), q7⟩
theorem own_ix {N : List Str} {vs : List Nat} : ∀ p ∈ ownNames N vs, N[p.2]? = some p.1 := fun p hp => by
  unfold ownNames at hp
  obtain ⟨i, _, e⟩ := List.mem_filterMap.mp hp
  rw [Option.map_eq_some_iff] at e
  obtain ⟨x, h1, rfl⟩ := e
  exact h1
theorem blk_ok (C : Ctx G Γ L c X W) {scope : Scope} {own : List (Str × Nat)} (h : blkC c.N c.sc scope own = true) : BlkOk X.N X.env.scope scope own := by
  have b := blkOk_by h
  rw [C.N]
  exact ⟨b.kind, b.uniq, b.ix, fun y hy e => C.fc _ (b.free y hy e), b.own⟩
theorem k_comp (C : Ctx G Γ L c X W) (hh : c.hot = false) {own : Bool} {vs : List Nat} {g : Tg} {kk : ItK} {its : List Ex} {cond elt : Ex} {z tg iter : Expr} {ifs : List Expr} {scope : Scope} (hb : blkC c.N c.sc scope (ownNames c.N vs) = true) (hv : (ownNames c.N vs).map (·.2) = vs)
    (it : ItOk X L W kk tg iter (dens G Γ its)) (Q0 : CompOk X L scope vs g tg ifs z (den G Γ cond) (den G Γ elt)) : EOk X L W (.ListComp z [⟨tg, iter, ifs, 0⟩] scope pos) (den G Γ (.comp own vs g kk its cond elt)) := by
  obtain ⟨wi, gg, tt, te, h1, h2, h3, h4, h5⟩ := comp_lc (ow := own) hv it Q0
  exact EOk.plain (fun Φ B μ H σ ρ F R Q S sl q kx k => sE_of (pe_lc (C.calm hh) (by rw [C.N]; exact C.nd) h1 (blk_ok C hb) h2 h3 h4 (folded it.1)) (h5 Φ B μ H σ ρ F R Q S sl q kx k)) fun _ => rfl
theorem k_compH (C : Ctx G Γ L c X W) (has : c.as = true) {own : Bool} {vs : List Nat} {g : Tg} {kk : ItK} {its : List Ex} {cond elt : Ex} {z tg iter : Expr} {ifs : List Expr} {scope : Scope} (hb : blkC c.N c.sc scope (ownNames c.N vs) = true) (hv : (ownNames c.N vs).map (·.2) = vs)
    (it : ItOkH X L W kk iter (dens G Γ its)) (Q0 : CompOk X L scope vs g tg ifs z (den G Γ cond) (den G Γ elt)) : EOk X L W (.ListComp z [⟨tg, iter, ifs, 0⟩] scope pos) (den G Γ (.comp own vs g kk its cond elt)) := by
  obtain ⟨_, p1, oe, _, _, hp, hot, _⟩ := C.cu has
  obtain ⟨_, gg, tt, te, ⟨tl, h1, rfl⟩, h2, h3, h4, h5⟩ := comp_lc (ow := own) hv it Q0
  obtain ⟨q1, hot, hq⟩ := hot
  exact EOk.plain (fun Φ B μ H σ ρ F R Q S sl q kx k => sE_of (lc_hot ⟨_, q1, hot, hp, hq⟩ (by rw [C.N]; exact C.nd) h1 (blk_ok C hb) (fun s H D cl fp => ⟨h2 s H D cl fp, h3 s H D cl fp, h4 s H D cl fp⟩) (folded it.1)) (h5 Φ B μ H σ ρ F R Q S sl q kx k)) fun _ => rfl

/-! ## 19. The text against the core: all expressions -/
def cbl_t : TEx × TTe := den (⟨fun _ => none, fun _ => none, fun _ => none, fun _ => none, fun _ => [], false, false, fun _ => none⟩) (fun _ _ _ _ _ => False) (.cbl true)
theorem comp_parts (C : Ctx G Γ L c X W) {vs : List Nat} {g : Tg} {cond elt : Ex} {z tg : Expr} {ifs : List Expr} {scope : Scope} (hg : chkG { c with sc := scope, as := false } g tg = true) (hvg : tgIn vs g = true)
    (hif : (ifs = [] ∧ cond = .cbl true) ∨ ∃ d, ifs = [d] ∧ ∀ (X : Cx) (W : WX), Ctx G Γ L { c with sc := scope, as := false } X W → EOk X L W d (den G Γ cond))
    (he : ∀ (X : Cx) (W : WX), Ctx G Γ L { c with sc := scope, as := false } X W → EOk X L W z (den G Γ elt)) : CompOk X L scope vs g tg ifs z (den G Γ cond) (den G Γ elt) where
  g_ := fun s H D cl fp => tg_ok (C.blk scope s H D cl fp) g tg hg
  vs_ := hvg
  if_ := by
    rcases hif with ⟨rfl, rfl⟩ | ⟨d, rfl, hd⟩
    · exact .inl ⟨rfl, rfl⟩
    · exact .inr ⟨d, rfl, fun s H D cl fp => hd _ _ (C.blk scope s H D cl fp)⟩
  e_ := fun s H D cl fp => he _ _ (C.blk scope s H D cl fp)
end
end Rh

namespace Rh
open PySem PySem.Spec PyProof.Rows L2
section
variable {L : Lay} {G : Tab} {Γ : Nat → TSp}
def M1 (L : Lay) (G : Tab) (Γ : Nat → TSp) (c : SC) (ex : Ex) (e : Expr) : Prop := chkE G c ex e = true → ∀ (X : Cx) (W : WX), Ctx G Γ L c X W → EOk X L W e (den G Γ ex) ∧ Stat e
def M2 (L : Lay) (G : Tab) (Γ : Nat → TSp) (c : SC) (k : ItK) (its : List Ex) (iter tg : Expr) : Prop := chkIt G c k its iter tg = true → ∀ (X : Cx) (W : WX), Ctx G Γ L c X W → ItOk X L W k tg iter (dens G Γ its)
def M3 (L : Lay) (G : Tab) (Γ : Nat → TSp) (c : SC) (es : List Ex) (xs : List Expr) : Prop := chkEs G c es xs = true → ∀ (X : Cx) (W : WX), Ctx G Γ L c X W → Paired (fun e p => EOk X L W e p ∧ Stat e) xs (dens G Γ es)
def Hcl (G : Tab) : Prop := ∀ f i d, G.fn f = some i → i.cls = some d → ∃ ci, G.cl d = some ci
def Hfl (G : Tab) : Prop := ∀ d f, f ∈ G.flds d → ∃ ci, G.cl d = some ci
abbrev A1 (L : Lay) (G : Tab) (Γ : Nat → TSp) (ex : Ex) : Prop := ∀ c e, M1 L G Γ c ex e
abbrev A3 (L : Lay) (G : Tab) (Γ : Nat → TSp) (es : List Ex) : Prop := (∀ c xs, M3 L G Γ c es xs) ∧ ∀ a ∈ es, A1 L G Γ a
variable {a b d f : Ex} {es fs : List Ex}
theorem o_chk {lo : Ex} {l : Option Expr} {c : SC} (i1 : A1 L G Γ lo) (h : (match l with | none => isCnon lo | some l => !isCnon lo && chkE G c lo l) = true) (X : Cx) (W : WX) (C : Ctx G Γ L c X W) : OOk X L W l lo (den G Γ lo).1 := by
  cases l with
  | none =>
    have h : isCnon lo = true := h
    cases lo <;> first | (cases h; done) | exact o_none
  | some l =>
    have h : (!isCnon lo && chkE G c lo l) = true := h
    rw [Bool.and_eq_true, Bool.not_eq_true'] at h
    exact o_some (fun z => by rw [z] at h; cases h.1) (i1 _ _ h.2 X W C).1
theorem if_chk {cond : Ex} {ifs : List Expr} {c : SC} (i1 : A1 L G Γ cond) (h : (match ifs with | [] => isCtrue cond | [d] => chkE G c cond d | _ => false) = true) : (ifs = [] ∧ cond = .cbl true) ∨ ∃ d, ifs = [d] ∧ ∀ (X : Cx) (W : WX), Ctx G Γ L c X W → EOk X L W d (den G Γ cond) := by
  split at h
  · cases cond <;> first | (cases h; done) | skip
    rename_i b
    have h : b = true := h
    subst h
    exact .inl ⟨rfl, rfl⟩
  · exact .inr ⟨_, rfl, fun X W C => (i1 _ _ h X W C).1⟩
  · cases h
theorem it_chk {k : ItK} {es : List Ex} {iter tg : Expr} {c : SC} (i1 : A3 L G Γ es) (h : chkIt G c k es iter tg = true) (X : Cx) (W : WX) (C : Ctx G Γ L c X W) : ItOk X L W k tg iter (dens G Γ es) := by
  match es, i1, h with
  | [], _, h => unfold chkIt at h <;> first | (cases h; done) | (intros; contradiction)
  | [a], i1, h =>
    have ia := i1.2 a List.mem_cons_self
    unfold chkIt at h
    split at h <;> first | (cases h; done) | (simp only [Bool.and_eq_true] at h)
    · exact i_val h.2 (ia _ _ h.1 X W C).1
    · exact i_tupl h.2 (ia _ _ h.1 X W C).1
    · exact i_strg h.2 (ia _ _ h.1 X W C).1
    · exact i_rng1 C h.1 (ia _ _ h.2 X W C).1 (ia _ _ h.2 X W C).2
    · exact i_enum C h.2 h.1.1 (ia _ _ h.1.2 X W C).1 (ia _ _ h.1.2 X W C).2
    · exact i_rev C h.1 (ia _ _ h.2 X W C).1 (ia _ _ h.2 X W C).2
  | [a, b], i1, h =>
    have ia := i1.2 a List.mem_cons_self
    have ib := i1.2 b (List.mem_cons_of_mem _ List.mem_cons_self)
    unfold chkIt at h
    split at h <;> first | (cases h; done) | (simp only [Bool.and_eq_true] at h)
    · exact i_rng2 C h.1.1 (ia _ _ h.1.2 X W C).1 (ia _ _ h.1.2 X W C).2 (ib _ _ h.2 X W C).1 (ib _ _ h.2 X W C).2
    · exact i_zip C h.2 h.1.1.1 (ia _ _ h.1.1.2 X W C).1 (ia _ _ h.1.1.2 X W C).2 (ib _ _ h.1.2 X W C).1 (ib _ _ h.1.2 X W C).2
  | _ :: _ :: _ :: _, _, h => unfold chkIt at h <;> first | (cases h; done) | (intros; contradiction)
theorem z_var {i : Nat} : A1 L G Γ (.var i) := by
  intro c e h X W C
  unfold chkE at h
  split at h
  · simp only [Bool.and_eq_true, decide_eq_true_eq, Bool.not_eq_true'] at h
    exact ⟨k_var C h.1.1 h.1.2 h.2, stat_of⟩
  · cases h
theorem z_cint {i : Int} : A1 L G Γ (.cint i) := by
  intro c e h X W C
  unfold chkE at h
  split at h
  · simp only [Bool.and_eq_true, decide_eq_true_eq, Bool.not_eq_true'] at h
    subst h
    exact ⟨k_const pe_int (fun _ => rfl) fun _ => rfl, stat_of⟩
  · cases h
theorem z_cstr {i : Str} : A1 L G Γ (.cstr i) := by
  intro c e h X W C
  unfold chkE at h
  split at h
  · simp only [Bool.and_eq_true, decide_eq_true_eq, Bool.not_eq_true'] at h
    subst h
    exact ⟨k_const pe_str (fun _ => rfl) fun _ => rfl, stat_of⟩
  · cases h
theorem z_cbl {i : Bool} : A1 L G Γ (.cbl i) := by
  intro c e h X W C
  unfold chkE at h
  split at h
  · simp only [Bool.and_eq_true, decide_eq_true_eq, Bool.not_eq_true'] at h
    subst h
    exact ⟨k_const pe_bl (fun _ => rfl) fun _ => rfl, stat_of⟩
  · cases h
theorem z_cnon  : A1 L G Γ (.cnon) := by
  intro c e h X W C
  unfold chkE at h
  split at h
  · exact ⟨k_const pe_non (fun _ => rfl) fun _ => rfl, stat_of⟩
  · cases h
theorem z_glob {k : Nat} : A1 L G Γ (.glob k) := by
  intro c e h X W C
  unfold chkE at h
  split at h
  · simp only [Bool.and_eq_true, decide_eq_true_eq, Bool.not_eq_true'] at h
    obtain ⟨⟨h1, h2⟩, h3⟩ := h
    unfold gCon at h1
    cases e : G.con k with
    | none => rw [e] at h1; cases h1
    | some y =>
      rw [e] at h1
      exact ⟨k_glob C e (of_decide_eq_true h1) h2 h3, stat_of⟩
  · cases h
theorem z_bin {op : Operator} {own : Bool} (i1 : A1 L G Γ a) (i2 : A1 L G Γ b) : A1 L G Γ (.bin op own a b) := by
  intro c e h X W C
  unfold chkE at h
  split at h
  · simp only [Bool.and_eq_true, decide_eq_true_eq, Bool.not_eq_true'] at h
    obtain ⟨⟨rfl, h1⟩, h2⟩ := h
    exact ⟨k_bin (i1 _ _ h1 X W C).1 (i2 _ _ h2 X W C).1, stat_of⟩
  · cases h
theorem z_cpow {i j v : Int} : A1 L G Γ (.cpow i j v) := by
  intro c e h X W C
  unfold chkE at h
  split at h
  · simp only [Bool.and_eq_true, decide_eq_true_eq, Bool.not_eq_true'] at h
    obtain ⟨⟨⟨rfl, rfl⟩, h1⟩, h2⟩ := h
    exact ⟨k_cpow h1 h2, stat_of⟩
  · cases h
theorem z_neg (i1 : A1 L G Γ a) : A1 L G Γ (.neg a) := by
  intro c e h X W C
  unfold chkE at h
  split at h
  · exact ⟨k_neg (i1 _ _ h X W C).1, stat_of⟩
  · cases h
theorem z_cmp {op : CmpOp} (i1 : A1 L G Γ a) (i2 : A1 L G Γ b) : A1 L G Γ (.cmp op a b) := by
  intro c e h X W C
  unfold chkE at h
  split at h
  · simp only [Bool.and_eq_true, decide_eq_true_eq, Bool.not_eq_true'] at h
    obtain ⟨⟨⟨rfl, h1⟩, h2⟩, h3⟩ := h
    exact ⟨k_cmp C h3 (i1 _ _ h1 X W C).1 (i2 _ _ h2 X W C).1, stat_of⟩
  · cases h
theorem z_chain {op op' : CmpOp} (i1 : A1 L G Γ a) (i2 : A1 L G Γ b) (i3 : A1 L G Γ d) : A1 L G Γ (.chain op op' a b d) := by
  intro c e h X W C
  unfold chkE at h
  split at h
  · simp only [Bool.and_eq_true, decide_eq_true_eq, Bool.not_eq_true'] at h
    obtain ⟨⟨⟨⟨⟨rfl, rfl⟩, h1⟩, h2⟩, h3⟩, h4⟩ := h
    exact ⟨k_chain C h4 (i1 _ _ h1 X W C).1 (i2 _ _ h2 X W C).1 (i3 _ _ h3 X W C).1, stat_of⟩
  · cases h
theorem z_andor {w : Bool} (i1 : A3 L G Γ es) : A1 L G Γ (.andor w es) := by
  intro c e h X W C
  unfold chkE at h
  split at h
  · simp only [Bool.and_eq_true, decide_eq_true_eq, Bool.not_eq_true'] at h
    obtain ⟨rfl, h1⟩ := h
    exact ⟨k_andor (i1.1 _ _ h1 X W C), stat_of⟩
  · cases h
theorem z_not (i1 : A1 L G Γ a) : A1 L G Γ (.not a) := by
  intro c e h X W C
  unfold chkE at h
  split at h
  · exact ⟨k_not (i1 _ _ h X W C).1, stat_of⟩
  · cases h
theorem z_ife (i1 : A1 L G Γ d) (i2 : A1 L G Γ a) (i3 : A1 L G Γ b) : A1 L G Γ (.ife d a b) := by
  intro c e h X W C
  unfold chkE at h
  split at h
  · simp only [Bool.and_eq_true, decide_eq_true_eq, Bool.not_eq_true'] at h
    exact ⟨k_ife (i1 _ _ h.1.1 X W C).1 (i2 _ _ h.1.2 X W C).1 (i3 _ _ h.2 X W C).1, stat_of⟩
  · cases h
theorem z_idx (i1 : A1 L G Γ a) (i2 : A1 L G Γ b) : A1 L G Γ (.idx a b) := by
  intro c e h X W C
  unfold chkE at h
  split at h
  · simp only [Bool.and_eq_true, decide_eq_true_eq, Bool.not_eq_true'] at h
    exact ⟨k_idx C (i2 _ _ h.2 X W C).2 (i1 _ _ h.1 X W C).1 (i2 _ _ h.2 X W C).1, stat_of⟩
  · cases h
theorem z_slice {own : Bool} (i1 : A1 L G Γ a) (i2 : A1 L G Γ b) (i3 : A1 L G Γ d) : A1 L G Γ (.slice own a b d) := by
  intro c e h X W C
  unfold chkE at h
  split at h
  · rw [Bool.and_eq_true, Bool.and_eq_true] at h
    exact ⟨k_slice (i1 _ _ h.1.1 X W C).1 (o_chk i2 h.1.2 X W C) (o_chk i3 h.2 X W C), stat_of⟩
  · cases h
theorem z_lst {own : Bool} (i1 : A3 L G Γ es) : A1 L G Γ (.lst own es) := by
  intro c e h X W C
  unfold chkE at h
  split at h
  · exact ⟨k_lst (i1.1 _ _ h X W C), stat_of⟩
  · cases h
theorem z_tup (i1 : A3 L G Γ es) : A1 L G Γ (.tup es) := by
  intro c e h X W C
  unfold chkE at h
  split at h
  · exact ⟨k_tup (i1.1 _ _ h X W C), stat_of⟩
  · cases h
theorem z_bif {f : Bif} {own : Bool} (i1 : A3 L G Γ es) : A1 L G Γ (.bif f own es) := by
  intro c e h X W C
  unfold chkE at h
  split at h
  · simp only [Bool.and_eq_true, decide_eq_true_eq, Bool.not_eq_true'] at h
    exact ⟨k_bif C h.2 h.1.1.1 (by simp [h.1.2]) (i1.1 _ _ h.1.1.2 X W C), stat_of⟩
  · cases h
theorem z_lrng {own : Bool} (i1 : A1 L G Γ a) : A1 L G Γ (.lrng own a) := by
  intro c e h X W C
  unfold chkE at h
  split at h
  · simp only [Bool.and_eq_true, decide_eq_true_eq, Bool.not_eq_true'] at h
    exact ⟨k_lrng C h.2 h.1.1.1 h.1.1.2 (i1 _ _ h.1.2 X W C).1 (i1 _ _ h.1.2 X W C).2, stat_of⟩
  · cases h
theorem z_isi {ks : List String} (i1 : A1 L G Γ a) : A1 L G Γ (.isi ks a) := by
  intro c e h X W C
  unfold chkE at h
  split at h
  · simp only [Bool.and_eq_true, decide_eq_true_eq, Bool.not_eq_true'] at h
    exact ⟨k_isi C h.1.1 h.2 (i1 _ _ h.1.2 X W C).2 (i1 _ _ h.1.2 X W C).1, stat_of⟩
  · cases h
theorem z_isx {i j : Nat} : A1 L G Γ (.isx i j) := by
  intro c e h X W C
  unfold chkE at h
  split at h
  · simp only [Bool.and_eq_true, decide_eq_true_eq, Bool.not_eq_true'] at h
    obtain ⟨⟨⟨⟨⟨⟨⟨⟨h1, h2⟩, h3⟩, h4⟩, h5⟩, h6⟩, h7⟩, h8⟩, h9⟩ := h
    exact ⟨k_isx C h1 h2 h3 h4 h5 h6 h7 h8 h9, stat_of⟩
  · cases h
theorem z_call {f nd : Nat} (i1 : A3 L G Γ es) : A1 L G Γ (.call f nd es) := by
  intro c e h X W C
  unfold chkE at h
  split at h
  · simp only [Bool.and_eq_true, decide_eq_true_eq, Bool.not_eq_true'] at h
    obtain ⟨⟨⟨⟨h1, h3⟩, h4⟩, h5⟩, hh⟩ := h
    unfold gFn at h1
    rw [Bool.and_eq_true] at h1
    obtain ⟨h1, h2⟩ := h1
    cases e : G.fn f with
    | none => rw [e] at h1; cases h1
    | some i =>
      rw [e] at h1
      simp only [Bool.and_eq_true, decide_eq_true_eq] at h1 h2
      obtain ⟨⟨⟨⟨g1, g2⟩, g3⟩, g4⟩, g5⟩ := h1
      exact ⟨k_call C hh e g1 g2 g3 g4 g5 h2 h3 h4 (i1.1 _ _ h5 X W C), stat_of⟩
  · cases h
theorem z_meth (hcl : Hcl G) {f nd : Nat} (i1 : A1 L G Γ a) (i2 : A3 L G Γ es) : A1 L G Γ (.meth f nd a es) := by
  intro c e h X W C
  unfold chkE at h
  split at h
  · simp only [Bool.and_eq_true, decide_eq_true_eq, Bool.not_eq_true'] at h
    obtain ⟨⟨⟨⟨⟨⟨hl, h30⟩, h1⟩, h3⟩, h4⟩, h5⟩, hh⟩ := h
    unfold gMt at h1
    rw [Bool.and_eq_true] at h1
    obtain ⟨h1, h2⟩ := h1
    cases e : G.fn f with
    | none => rw [e] at h1; cases h1
    | some i =>
      rw [e] at h1
      simp only [Bool.and_eq_true, decide_eq_true_eq] at h1 h2
      obtain ⟨⟨⟨⟨g1, g2⟩, g3⟩, g4⟩, g5⟩ := h1
      cases e2 : i.cls with
      | none => rw [e2] at g2; cases g2
      | some d =>
        rw [e2] at g2
        exact ⟨k_meth C hh hl h30 e g1 e2 (of_decide_eq_true g2) g3 g4 g5 h2 (hcl f i d e e2) h4 (i1 _ _ h3 X W C).1 (i2.1 _ _ h5 X W C), stat_of⟩
  · cases h
theorem z_make {d : Nat} (i1 : A3 L G Γ es) : A1 L G Γ (.make d es) := by
  intro c e h X W C
  unfold chkE at h
  split at h
  · simp only [Bool.and_eq_true, decide_eq_true_eq, Bool.not_eq_true'] at h
    obtain ⟨⟨⟨⟨h1, h2⟩, h3⟩, h4⟩, hh⟩ := h
    unfold gMk at h1
    cases e : G.cl d with
    | none => rw [e] at h1; cases h1
    | some i =>
      rw [e] at h1
      simp only [Bool.and_eq_true, decide_eq_true_eq] at h1
      obtain ⟨⟨g1, g2⟩, g3⟩ := h1
      cases e2 : G.fn i.init with
      | none => rw [e2] at g3; cases g3
      | some j =>
        rw [e2] at g3
        simp only [Bool.and_eq_true, decide_eq_true_eq] at g3
        exact ⟨k_make C hh e g1 g2 e2 g3.1 g3.2 h2 h3 (i1.1 _ _ h4 X W C), stat_of⟩
  · cases h
theorem z_fld (hfl : Hfl G) {d i : Nat} (i1 : A1 L G Γ a) : A1 L G Γ (.fld d i a) := by
  intro c e h X W C
  unfold chkE at h
  split at h
  · simp only [Bool.and_eq_true, decide_eq_true_eq, Bool.not_eq_true'] at h
    obtain ⟨⟨h1, h2⟩, h3⟩ := h
    exact ⟨k_fld C h2 h3 (hfl d _ (List.mem_of_getElem? h3)) (i1 _ _ h1 X W C).1, stat_of⟩
  · cases h
theorem z_lm {m : Lm} (i1 : A1 L G Γ a) (i2 : A3 L G Γ es) : A1 L G Γ (.lm m a es) := by
  intro c e h X W C
  unfold chkE at h
  split at h
  · simp only [Bool.and_eq_true, decide_eq_true_eq, Bool.not_eq_true'] at h
    obtain ⟨⟨⟨⟨⟨h1, h2⟩, h3⟩, h4⟩, h5⟩, h6⟩ := h
    exact ⟨k_lm C h1 h2 h4 h6 (i1 _ _ h3 X W C).1 (i2.1 _ _ h5 X W C), stat_of⟩
  · cases h
theorem z_comp {own : Bool} {vs : List Nat} {g : Tg} {k : ItK} (i1 : A3 L G Γ es) (i2 : A1 L G Γ a) (i3 : A1 L G Γ b) : A1 L G Γ (.comp own vs g k es a b) := by
  intro c e h X W C
  unfold chkE at h
  split at h
  · simp only [Bool.and_eq_true, decide_eq_true_eq, Bool.not_eq_true'] at h
    obtain ⟨⟨⟨⟨⟨⟨⟨h1, h2⟩, h3⟩, h4⟩, h5⟩, h6⟩, h7⟩, h8⟩ := h
    have parts := comp_parts C h2 h7 (if_chk i2 h3) fun X W C => (i3 _ _ h4 X W C).1
    cases hc : c.hot with
    | false => exact ⟨k_comp C hc h5 h6 (it_chk i1 h1 X W C) parts, stat_of⟩
    | true =>
      rw [hc] at h8
      obtain ⟨h9, h10⟩ := (Bool.and_eq_true _ _).mp (show (c.as && isVal k) = true by simpa using h8)
      cases k <;> first | (cases h10; done) | skip
      match es, i1, h1, parts with
      | [], _, h1, _ => unfold chkIt at h1 <;> first | (cases h1; done) | (intros; contradiction)
      | [a'], i1, h1, parts =>
        unfold chkIt at h1
        split at h1 <;> first | (cases h1; done) | contradiction | skip
        simp only [Bool.and_eq_true] at h1
        exact ⟨k_compH C h9 h5 h6 (i_valH h1.2 (i1.2 _ List.mem_cons_self _ _ h1.1 X W C).1) parts, stat_of⟩
      | [a', b'], _, h1, _ =>
        unfold chkIt at h1
        split at h1 <;> first | (cases h1; done) | contradiction
      | _ :: _ :: _ :: _, _, h1, _ => unfold chkIt at h1 <;> first | (cases h1; done) | (intros; contradiction)
  · cases h
theorem z_nset (i1 : A1 L G Γ a) : A1 L G Γ (.nset a) := by
  intro c e h X W C
  unfold chkE at h
  split at h
  · simp only [Bool.and_eq_true, decide_eq_true_eq, Bool.not_eq_true'] at h
    exact ⟨k_nset C h.2 h.1.1.1 h.1.1.2 (i1 _ _ h.1.2 X W C).1 (i1 _ _ h.1.2 X W C).2, stat_of⟩
  · cases h
theorem z_isx2 {i j j' : Nat} : A1 L G Γ (.isx2 i j j') := by
  intro c e h X W C
  unfold chkE at h
  split at h
  · simp only [Bool.and_eq_true, decide_eq_true_eq, Bool.not_eq_true'] at h
    obtain ⟨⟨⟨⟨⟨⟨⟨⟨⟨⟨⟨h1, h2⟩, h3⟩, h4⟩, h5⟩, h6⟩, h7⟩, h8⟩, h9⟩, h10⟩, h11⟩, h12⟩ := h
    exact ⟨k_isx2 C h1 h2 h3 h4 h5 h6 h7 h8 h9 h10 h11 h12, stat_of⟩
  · cases h
theorem z_isc {d : Nat} (i1 : A1 L G Γ a) : A1 L G Γ (.isc d a) := by
  intro c e h X W C
  unfold chkE at h
  split at h
  · simp only [Bool.and_eq_true, decide_eq_true_eq, Bool.not_eq_true'] at h
    obtain ⟨⟨⟨⟨⟨h1, h2⟩, h3⟩, h4⟩, h5⟩, h6⟩ := h
    unfold gCl at h3
    cases e : G.cl d with
    | none => rw [e] at h3; cases h3
    | some i =>
      rw [e] at h3
      exact ⟨k_isc C h1 e (of_decide_eq_true h3) h4 h5 h6 (i1 _ _ h2 X W C).2 (i1 _ _ h2 X W C).1, stat_of⟩
  · cases h
theorem z_chain3 {op op' op2 : CmpOp} (i1 : A1 L G Γ a) (i2 : A1 L G Γ b) (i3 : A1 L G Γ d) (i4 : A1 L G Γ f) : A1 L G Γ (.chain3 op op' op2 a b d f) := by
  intro c e h X W C
  unfold chkE at h
  split at h
  · simp only [Bool.and_eq_true, decide_eq_true_eq, Bool.not_eq_true'] at h
    obtain ⟨⟨⟨⟨⟨⟨⟨rfl, rfl⟩, rfl⟩, h1⟩, h2⟩, h3⟩, h4⟩, h5⟩ := h
    exact ⟨k_chain3 C h5 (i1 _ _ h1 X W C).1 (i2 _ _ h2 X W C).1 (i3 _ _ h3 X W C).1 (i4 _ _ h4 X W C).1, stat_of⟩
  · cases h
theorem z_lrev {own : Bool} (i1 : A1 L G Γ a) : A1 L G Γ (.lrev own a) := by
  intro c e h X W C
  unfold chkE at h
  split at h
  · simp only [Bool.and_eq_true, decide_eq_true_eq, Bool.not_eq_true'] at h
    exact ⟨k_lrev C h.2 h.1.1.1 h.1.1.2 (i1 _ _ h.1.2 X W C).1 (i1 _ _ h.1.2 X W C).2, stat_of⟩
  · cases h
theorem z_hcall {f : Nat} (i1 : A3 L G Γ es) : A1 L G Γ (.hcall f es) := by
  intro c e h X W C
  unfold chkE at h
  split at h
  · simp only [Bool.and_eq_true] at h
    obtain ⟨⟨⟨⟨h1, h3⟩, h4⟩, h5⟩, hh⟩ := h
    unfold gFh at h1
    rw [Bool.and_eq_true] at h1
    obtain ⟨h1, h2⟩ := h1
    cases e : G.fh f with
    | none => rw [e] at h1; cases h1
    | some i =>
      rw [e] at h1
      simp only [Bool.and_eq_true, decide_eq_true_eq] at h1 h2
      exact ⟨k_hcall C hh e h1.1.1 h1.1.2 h1.2 h2 h3 h4 (i1.1 _ _ h5 X W C), stat_of⟩
  · cases h
theorem z_alt (i1 : A1 L G Γ a) (i2 : A1 L G Γ b) : A1 L G Γ (.alt a b) := by
  intro c e h X W C
  unfold chkE at h
  split at h
  · rw [Bool.and_eq_true] at h
    have h1 := i1 _ _ h.1 X W C
    have h2 := i2 _ _ h.2 X W C
    refine ⟨EOk.plain (fun Φ B μ H σ ρ F R Q S sl q kx k => ?_) fun _ => rfl, h1.2⟩
    rcases q with q | q
    · exact h1.1.v Φ B μ H σ ρ F R Q S sl q kx k
    · exact h2.1.v Φ B μ H σ ρ F R Q S sl q kx k
  · cases h
theorem z_dict (i1 : A3 L G Γ es) (i2 : A3 L G Γ fs) : A1 L G Γ (.dict es fs) := by
  intro c e h X W C
  unfold chkE at h
  split at h
  · rw [Bool.and_eq_true] at h
    have e1 : es = [] := by
      cases es with
      | nil => rfl
      | cons y ys => have z := h.1; unfold chkEs at z; cases z
    have e2 : fs = [] := by
      cases fs with
      | nil => rfl
      | cons y ys => have z := h.2; unfold chkEs at z; cases z
    subst e1 e2
    exact ⟨k_dict0, stat_of⟩
  · rw [Bool.and_eq_true] at h
    obtain ⟨h1, h2⟩ := h
    have one : ∀ {es : List Ex} {x : Expr}, chkEs G c es [x] = true → ∃ a, es = [a] ∧ chkE G c a x = true := fun {es x} z => by
      match es, z with
      | [], z => unfold chkEs at z; cases z
      | [a], z => unfold chkEs at z; rw [Bool.and_eq_true] at z; exact ⟨a, rfl, z.1⟩
      | a :: b :: r, z => unfold chkEs at z; rw [Bool.and_eq_true] at z; have z2 := z.2; unfold chkEs at z2; cases z2
    obtain ⟨a, rfl, g1⟩ := one h1
    obtain ⟨b, rfl, g2⟩ := one h2
    exact ⟨k_dict1 (i1.2 a List.mem_cons_self _ _ g1 X W C).1 (i2.2 b List.mem_cons_self _ _ g2 X W C).1, stat_of⟩
  · cases h
theorem z_nil : A3 L G Γ [] := by
  refine ⟨fun c xs h X W C => ?_, fun a h => nomatch h⟩
  unfold chkEs at h
  cases xs with
  | nil => exact .nil
  | cons y ys => exact Bool.noConfusion h
theorem z_cons (i1 : A1 L G Γ a) (i2 : A3 L G Γ es) : A3 L G Γ (a :: es) := by
  refine ⟨fun c xs h X W C => ?_, fun x h => ?_⟩
  · unfold chkEs at h
    split at h
    · cases h
    · rw [Bool.and_eq_true] at h
      exact .cons (i1 _ _ h.1 X W C) (i2.1 _ _ h.2 X W C)
  · rcases List.mem_cons.mp h with rfl | h
    · exact i1
    · exact i2.2 x h
theorem snd_E (hcl : Hcl G) (hfl : Hfl G) (ex : Ex) : A1 L G Γ ex :=
  Ex.rec (motive_1 := A1 L G Γ) (motive_2 := A3 L G Γ) (fun _ => z_var) (fun _ => z_cint) (fun _ => z_cstr) (fun _ => z_cbl) z_cnon (fun _ => z_glob) (fun _ _ _ _ => z_bin) (fun _ _ _ => z_cpow) (fun _ => z_neg) (fun _ _ _ => z_cmp) (fun _ _ _ _ _ => z_chain) (fun _ _ => z_andor) (fun _ => z_not) (fun _ _ _ => z_ife)
    (fun _ _ => z_idx) (fun _ _ _ _ => z_slice) (fun _ _ => z_lst) (fun _ => z_tup) (fun _ _ => z_dict) (fun _ _ _ => z_bif) (fun _ _ => z_isi) (fun _ _ _ => z_call) (fun _ _ _ _ => z_meth hcl) (fun _ _ => z_make) (fun _ _ _ => z_fld hfl) (fun _ _ _ => z_lm) (fun _ _ _ _ _ _ _ => z_comp) (fun _ _ => z_lrng) (fun _ _ => z_isx)
    (fun _ => z_nset) (fun _ _ _ => z_isx2) (fun _ _ => z_isc) (fun _ _ _ _ _ _ _ => z_chain3) (fun _ _ => z_lrev) (fun _ _ => z_hcall) (fun _ _ => z_alt) z_nil (fun _ _ => z_cons) ex
theorem snd_A3 (hcl : Hcl G) (hfl : Hfl G) : ∀ es : List Ex, A3 L G Γ es
  | [] => z_nil
  | a :: es => z_cons (snd_E hcl hfl a) (snd_A3 hcl hfl es)
theorem snd_all (hcl : Hcl G) (hfl : Hfl G) : (∀ c ex e, M1 L G Γ c ex e) ∧ (∀ c k its iter tg, M2 L G Γ c k its iter tg) ∧ (∀ c es xs, M3 L G Γ c es xs) :=
  ⟨fun c ex e => snd_E hcl hfl ex c e, fun _ _ its _ _ h X W C => it_chk (snd_A3 hcl hfl its) h X W C, fun c es xs => (snd_A3 hcl hfl es).1 c xs⟩
end
end Rh

namespace Rh
open PySem PySem.Spec PyProof.Rows L2

/-! ## 20. Statements -/
inductive Sx where
  | asg (g : Tg) (e : Ex) | par (i j : Nat) (a b : Ex)
  | asgF (c i : Nat) (o e : Ex) | asgI (o i e : Ex)
  | aug (i : Nat) (op : Operator) (e : Ex) | augI (op : Operator) (o i e : Ex)
  | ret (e : Ex) | retN | expr (e : Ex) | ife (c : Ex) (a b : List Sx)
  | for_ (g : Tg) (k : ItK) (its : List Ex) (body : List Sx) | while_ (c : Ex) (body : List Sx)
  | try1 (body : List Sx) (h : Nat) (suite : List Sx)
  | tryA (body : List Sx) (h i : Nat) (suite : List Sx)
  | try2 (body : List Sx) (h : Nat) (suite : List Sx) (h2 : Nat) (suite2 : List Sx)
  | tryB (body : List Sx) (h i : Nat) (suite : List Sx) (h2 i2 : Nat) (suite2 : List Sx)
  | raise (x : Nat) | pass | brk | cont | wk
structure SEnds where
  nx : Ro → Sto → Prop
  rt : RP
  bk : Ro → Sto → Prop
  ct : Ro → Sto → Prop
  ex : Nat → Ro → Sto → Prop
def setF (us : List T) (i : Nat) (y : T) : List T := if i < us.length then us.set i y else us ++ [y]
def tSet (x k y : T) (μ : Sto) (K : Sto → Prop) : Prop :=
  match isDict μ x with
  | true => onK μ x fun kvs p => ∃ kk, keyT k = some kk ∧ kvs.length < sizeLine ∧ K (μ.set p (.dict (putT kvs kk y)))
  | false => onM μ x fun ts p => ∃ i j, k = .int i ∧ ixN ts.length i = some j ∧ K (μ.set p (.lst (ts.set j y)))
def tAugO (op : Operator) (x y : T) (μ : Sto) (R : RP) : Prop :=
  match op, x, y with
  | .Add, .int i, .int j => R (.int (i + j)) μ
  | .Sub, .int i, .int j => R (.int (i - j)) μ
  | .Add, .str a, .str b => a.length + b.length ≤ sizeLine ∧ R (.str (a ++ b)) μ
  | _, _, _ => False
def SEnds.xp (D : SEnds) (ρ : Ro) : XP := fun c μ => D.ex c ρ μ
def forD (g : Tg) (body : SEnds → Ro → Sto → Prop) (us : List T) (gd : Sto → Prop) (D : SEnds) (ρ : Ro) (μ : Sto) : Prop :=
  ∃ I : List T → Ro → Sto → Prop, I us ρ μ ∧ (∀ ρ μ, I [] ρ μ → gd μ ∧ D.nx ρ μ) ∧ ∀ t r ρ μ, I (t :: r) ρ μ → gd μ ∧ bindT g t ρ μ fun ρ' =>
    body { D with nx := fun ρ2 μ2 => ∃ ρ3 μ3, Wk ρ2 μ2 ρ3 μ3 ∧ I r ρ3 μ3, ct := fun ρ2 μ2 => ∃ ρ3 μ3, Wk ρ2 μ2 ρ3 μ3 ∧ I r ρ3 μ3, bk := D.nx } ρ' μ
def whileD (c : TTe) (body : SEnds → Ro → Sto → Prop) (D : SEnds) (ρ : Ro) (μ : Sto) : Prop :=
  ∃ I : Nat → Ro → Sto → Prop, (∃ m, I m ρ μ) ∧ ∀ m ρ μ, I m ρ μ → c ρ μ (D.xp ρ) fun k μ1 => if k = true then
    body { D with nx := fun ρ2 μ2 => ∃ ρ3 μ3 m', Wk ρ2 μ2 ρ3 μ3 ∧ m' < m ∧ I m' ρ3 μ3, ct := fun ρ2 μ2 => ∃ ρ3 μ3 m', Wk ρ2 μ2 ρ3 μ3 ∧ m' < m ∧ I m' ρ3 μ3, bk := D.nx } ρ μ1 else D.nx ρ μ1
/-- what is raised in a suite has the exception that is handled as its context; this one must have none -/
def upX (a : Nat) (E : Nat → Ro → Sto → Prop) : Nat → Ro → Sto → Prop := fun x ρ μ => a < 1000 ∧ x < 1000 ∧ E (x + 1000) ρ μ
/-- the ends of a suite whose name goes with it -/
def SEnds.off (D : SEnds) (i : Nat) : SEnds := { nx := fun ρ μ => D.nx (ρ.set i none) μ, rt := D.rt, bk := fun ρ μ => D.bk (ρ.set i none) μ, ct := fun ρ μ => D.ct (ρ.set i none) μ, ex := fun _ _ _ => False }
/-- what is known in a suite beside what is known anyhow -/
def curG (G : Tab) (Γ : Nat → TSp) (p : Addr) (a : Nat) : Nat → TSp := fun n => if n = 999999 then S_cur G p a else if n = 999998 then S_now p a else Γ n
section
variable (G : Tab)
mutual
def denS (Γ : Nat → TSp) : Sx → SEnds → Ro → Sto → Prop
  | .asg g e, D, ρ, μ => (den G Γ e).1 ρ μ (D.xp ρ) fun t μ1 => bindT g t ρ μ1 fun ρ' => D.nx ρ' μ1
  | .par i j a b, D, ρ, μ => (den G Γ a).1 ρ μ (D.xp ρ) fun x μ1 => (den G Γ b).1 ρ μ1 (D.xp ρ) fun y μ2 => D.nx ((ρ.set i (some x)).set j (some y)) μ2
  | .asgF c i o e, D, ρ, μ => (den G Γ e).1 ρ μ (D.xp ρ) fun y μ1 => (den G Γ o).1 ρ μ1 (D.xp ρ) fun x μ2 => ∃ p us, x = .own p ∧ μ2 p = some (.obj c us) ∧ i ≤ us.length ∧ D.nx ρ (μ2.set p (.obj c (setF us i y)))
  | .asgI o i e, D, ρ, μ => (den G Γ e).1 ρ μ (D.xp ρ) fun y μ1 => (den G Γ o).1 ρ μ1 (D.xp ρ) fun x μ2 => (den G Γ i).1 ρ μ2 (D.xp ρ) fun k μ3 => tSet x k y μ3 fun μ4 => D.nx ρ μ4
  | .aug i op e, D, ρ, μ => ∃ t, ρ[i]? = some (some t) ∧ (den G Γ e).1 ρ μ (D.xp ρ) fun y μ1 => tAugO op t y μ1 fun z μ2 => D.nx (ρ.set i (some z)) μ2
  | .augI op o i e, D, ρ, μ => (den G Γ o).1 ρ μ (D.xp ρ) fun x μ1 => (den G Γ i).1 ρ μ1 (D.xp ρ) fun k μ2 => isDict μ2 x = false ∧ (∃ us, vlst μ2 x = some us) ∧ tIdx x k μ2 fun t μ3 => (den G Γ e).1 ρ μ3 (D.xp ρ) fun y μ4 => tAugO op t y μ4 fun z μ5 => tSet x k z μ5 fun μ6 => D.nx ρ μ6
  | .ret e, D, ρ, μ => (den G Γ e).1 ρ μ (D.xp ρ) D.rt
  | .retN, D, _, μ => D.rt .non μ
  | .expr e, D, ρ, μ => (den G Γ e).1 ρ μ (D.xp ρ) fun _ μ1 => D.nx ρ μ1
  | .ife c a b, D, ρ, μ => ∃ J : Ro → Sto → Prop, (∀ ρ' μ', J ρ' μ' → ∃ ρ3 μ3, Wk ρ' μ' ρ3 μ3 ∧ D.nx ρ3 μ3) ∧ (den G Γ c).2 ρ μ (D.xp ρ) fun k μ1 => if k = true then denSs Γ a { D with nx := J } ρ μ1 else denSs Γ b { D with nx := J } ρ μ1
  | .for_ g k its body, D, ρ, μ => evs (dens G Γ its) ρ μ (D.xp ρ) fun ts μ1 => itT k ts μ1 fun us gd => forD g (denSs Γ body) us gd D ρ μ1
  | .while_ c body, D, ρ, μ => whileD (den G Γ c).2 (denSs Γ body) D ρ μ
  | .try1 b h s, D, ρ, μ => denSs Γ b { D with ex := fun a ρ' μ' => (∃ n m, G.ex (a % 1000) = some n ∧ G.ex h = some m) ∧ if subX G (a % 1000) h = true then denSs Γ s { D with ex := upX a D.ex } ρ' μ' else D.ex a ρ' μ' } ρ μ
  | .tryA b h i s, D, ρ, μ => denSs Γ b { D with ex := fun a ρ' μ' => (∃ n m, G.ex (a % 1000) = some n ∧ G.ex h = some m) ∧ if subX G (a % 1000) h = true then ∀ p, μ' p = none → denSs (curG G Γ p (a % 1000)) s (D.off i) (ρ'.set i (some (.own p))) μ' else D.ex a ρ' μ' } ρ μ
  | .try2 b h s h2 s2, D, ρ, μ => denSs Γ b { D with ex := fun a ρ' μ' => (∃ n m m2, G.ex (a % 1000) = some n ∧ G.ex h = some m ∧ G.ex h2 = some m2) ∧ if subX G (a % 1000) h = true then denSs Γ s { D with ex := upX a D.ex } ρ' μ' else if subX G (a % 1000) h2 = true then denSs Γ s2 { D with ex := upX a D.ex } ρ' μ' else D.ex a ρ' μ' } ρ μ
  | .tryB b h i s h2 i2 s2, D, ρ, μ => denSs Γ b { D with ex := fun a ρ' μ' => (∃ n m m2, G.ex (a % 1000) = some n ∧ G.ex h = some m ∧ G.ex h2 = some m2) ∧ if subX G (a % 1000) h = true then ∀ p, μ' p = none → denSs (curG G Γ p (a % 1000)) s (D.off i) (ρ'.set i (some (.own p))) μ' else if subX G (a % 1000) h2 = true then ∀ p, μ' p = none → denSs (curG G Γ p (a % 1000)) s2 (D.off i2) (ρ'.set i2 (some (.own p))) μ' else D.ex a ρ' μ' } ρ μ
  | .raise x, D, ρ, μ => D.ex x ρ μ
  | .pass, D, ρ, μ => D.nx ρ μ
  | .brk, D, ρ, μ => D.bk ρ μ
  | .cont, D, ρ, μ => D.ct ρ μ
  | .wk, D, ρ, μ => ∃ ρ' μ', Wk ρ μ ρ' μ' ∧ D.nx ρ' μ'
def denSs (Γ : Nat → TSp) : List Sx → SEnds → Ro → Sto → Prop
  | [], D, ρ, μ => D.nx ρ μ
  | s :: r, D, ρ, μ => denS Γ s { D with nx := fun ρ' μ' => denSs Γ r D ρ' μ' } ρ μ
end
end
def isLoc (sc : Scope) (x : Str) : Bool := decide (sc.names.lookup x = some .local)
def isStarE : Expr → Bool
  | .Starred .. => true
  | _ => false
/-- the two names of a swap -/
def swapB (c : SC) (x y : Str) (px py : Pos) (a b : Expr) : Bool :=
  isLoc c.sc x && isLoc c.sc y && (py.line == px.line) && !decide (x = y) && !([a, b].all (foldedForSure 8)) && !([a, b].all (constantsAlone 8)) && !isStarE a && !isStarE b
def isTupV : Expr → Bool
  | .Tuple .. => true
  | _ => false
def isCompV : Expr → Bool
  | .ListComp .. => true | .SetComp .. => true | .DictComp .. => true
  | _ => false
section
variable (G : Tab)
def gEx (h : Nat) (x : Str) : Bool := match G.ex h with | some m => decide (m = x) | none => false
mutual
def chkS (c : SC) : Sx → Stmt → Bool
  | .asg g e, s => (match s with | .Assign [tg] v _ => chkG c g tg && chkE G c e v && (!isTupE tg || !isTupV v) && (!c.hot || !isCompV v) | _ => false)
  | .par i j a b, s => (match s with | .Assign [.Tuple [.Name x px, .Name y py] _ _] (.Tuple [v, w] _ _) _ => decide (c.N[i]? = some x) && decide (c.N[j]? = some y) && swapB c x y px py v w && chkE G c a v && chkE G c b w && !c.hot | _ => false)
  | .asgF d i o e, s => (match s with | .Assign [.Attribute y f _] v _ => chkE G c o y && chkE G c e v && notSup y && decide ((G.flds d)[i]? = some f) | _ => false)
  | .asgI o i e, s => (match s with | .Assign [.Subscript y k _] v _ => chkE G c o y && chkE G c i k && chkE G c e v | _ => false)
  | .aug i op e, s => (match s with | .AugAssign (.Name x _) o v _ => decide (c.N[i]? = some x) && loc c.sc x && decide (op = o) && chkE G c e v | _ => false)
  | .augI op o i e, s => (match s with | .AugAssign (.Subscript y k _) o' v _ => decide (op = o') && chkE G c o y && chkE G c i k && chkE G c e v | _ => false)
  | .ret e, s => (match s with | .Return (some v) _ => chkE G c e v | _ => false)
  | .retN, s => (match s with | .Return none _ => true | _ => false)
  | .expr e, s => (match s with | .Expr v _ => chkE G c e v && !isCompV v | _ => false)
  | .ife d a b, s => (match s with | .If z x y _ => chkE G c d z && chkSs c a x && chkSs c b y | _ => false)
  | .for_ g k its body, s => (match s with | .For tg iter b [] _ => chkIt G c k its iter tg && chkG c g tg && chkSs c body b && !c.hot | _ => false)
  | .while_ d body, s => (match s with | .While z b [] _ => chkE G c d z && chkSs c body b && !c.hot | _ => false)
  | .try1 body h suite, s => (match s with | .Try b [.ExceptHandler (some (.Name x _)) none (s0 :: ss) _] [] [] _ => gEx G h x && glb c.sc x && plainN x && chkSs c body b && chkSs { c with hot := true, as := false } suite (s0 :: ss) && !c.hot | _ => false)
  | .tryA body h i suite, s => (match s with | .Try b [.ExceptHandler (some (.Name x _)) (some n) (s0 :: ss) _] [] [] _ => gEx G h x && glb c.sc x && plainN x && chkSs c body b && chkSs { c with hot := true, as := true } suite (s0 :: ss) && decide (c.N[i]? = some n) && isLoc c.sc n && decide (c.m ≤ 999998) && !c.hot | _ => false)
  | .try2 body h suite h2 suite2, s => (match s with | .Try b [.ExceptHandler (some (.Name x _)) none (s0 :: ss) _, .ExceptHandler (some (.Name x2 _)) none (t0 :: tt) _] [] [] _ => gEx G h x && glb c.sc x && plainN x && gEx G h2 x2 && glb c.sc x2 && plainN x2 && chkSs c body b && chkSs { c with hot := true, as := false } suite (s0 :: ss) && chkSs { c with hot := true, as := false } suite2 (t0 :: tt) && !c.hot | _ => false)
  | .tryB body h i suite h2 i2 suite2, s => (match s with | .Try b [.ExceptHandler (some (.Name x _)) (some n) (s0 :: ss) _, .ExceptHandler (some (.Name x2 _)) (some n2) (t0 :: tt) _] [] [] _ => gEx G h x && glb c.sc x && plainN x && gEx G h2 x2 && glb c.sc x2 && plainN x2 && chkSs c body b && chkSs { c with hot := true, as := true } suite (s0 :: ss) && chkSs { c with hot := true, as := true } suite2 (t0 :: tt) && decide (c.N[i]? = some n) && isLoc c.sc n && decide (c.N[i2]? = some n2) && isLoc c.sc n2 && decide (c.m ≤ 999998) && !c.hot | _ => false)
  | .raise x, s => (match s with | .Raise (some (.Call (.Name n _) [.Constant (.str _) _ _] [] _)) none _ => gEx G x n && glb c.sc n && plainN n && decide (x < 1000) | _ => false)
  | .pass, s => (match s with | .Pass _ => true | _ => false)
  | .brk, s => (match s with | .Break _ => true | _ => false)
  | .cont, s => (match s with | .Continue _ => true | _ => false)
  | .wk, _ => false
def chkSs (c : SC) : List Sx → List Stmt → Bool
  | [], l => l.isEmpty
  | s :: ss, l => (match s with | .wk => chkSs c ss l | _ => match l with | [] => false | l :: ls => chkS c s l && chkSs c ss ls)
end
end

/-! ## 21. Each statement does what it says -/
structure SCtx (G : Tab) (Γ : Nat → TSp) (L : Lay) (c : SC) (X : Cx) (W : WX) : Prop where
  e : Ctx G Γ L c X W
  pa : c.hot = false → PassesOwn (model X.prog X.w) X.A X.env X.xe
  stk : X.stack = X.env :: X.outer
  fr : X.env.frame = some X.env.locals
  se : X.env.scope = c.sc
  kd : c.sc.kind = .function
  pq : c.hot = false → ∀ hd : Option Value, PassesOwnAt (model X.prog X.w) (X.A.mark hd) X.A X.env X.xe
  nv : c.hot = true → (∀ cls d σ H, ¬ W cls d σ H) ∨ ∃ (p : Addr × Obj) (Wo : WX), L2H.Hot1 X.A p ∧ p ∈ X.pn ∧ TakesR X Wo ∧ ∀ A d σ H, W (.ref A) d σ H → Wo (.int (A : Int) 0) d σ H
def sS (X : Cx) (st : Stmt) : TS := fun D σ H => ∀ pins s, L2.Inv X pins σ H s → wpAny (model X.prog X.w) X.A (exec st X.env) (SP X pins D) X.xe s
def sSs (X : Cx) (st : List Stmt) : TS := fun D σ H => ∀ pins s, L2.Inv X pins σ H s → wpAny (model X.prog X.w) X.A (execs st X.env) (SP X pins D) X.xe s
theorem ps_s {X : Cx} {st : Stmt} : PS X st (sS X st) := ⟨fun pins s _ _ _ I h => h pins s I⟩
theorem pss_s {X : Cx} {st : List Stmt} : PSs X st (sSs X st) := ⟨fun pins s _ _ _ I h => h pins s I⟩
theorem sS_of {X : Cx} {st : Stmt} {t : TS} {D : Ends} {σ : L2.St} {H : Hp} (p : PS X st t) (h : t D σ H) : sS X st D σ H := fun pins s I => p.run pins s σ H D I h
theorem sSs_of {X : Cx} {st : List Stmt} {t : TS} {D : Ends} {σ : L2.St} {H : Hp} (p : PSs X st t) (h : t D σ H) : sSs X st D σ H := fun pins s I => p.run pins s σ H D I h
def PostN (K : PySem.W.Frag) (L : Lay) (Φ B : Hp) (R : Ro → Sto → Prop) (Q : L2.St → Hp → Prop) : Prop := ∀ ρ' μ' σ' H' B', Le B B' → St K L Φ H' B' μ' → Slots K B' σ' ρ' → R ρ' μ' → Q σ' H'
structure EndOk (X : Cx) (L : Lay) (W : WX) (Φ B : Hp) (D : SEnds) (D' : Ends) : Prop where
  nx : PostN X.K L Φ B D.nx D'.nx
  rt : Post X.K L Φ B D.rt D'.rt
  bk : PostN X.K L Φ B D.bk D'.bk
  ct : PostN X.K L Φ B D.ct D'.ct
  ex : ∀ c, PostN X.K L Φ B (D.ex c) (fun σ' H' => W (xv L c) none σ' H')
section
variable {X : Cx} {L : Lay} {W : WX} {G : Tab} {Γ : Nat → TSp} {c : SC} {pos : Pos} {Φ B B' : Hp} {D : SEnds} {D' : Ends}
theorem PostN.mono {K : PySem.W.Frag} {R : Ro → Sto → Prop} {Q : L2.St → Hp → Prop} (h : PostN K L Φ B R Q) (e : Le B B') : PostN K L Φ B' R Q := fun ρ' μ' σ' H' B2 l => h ρ' μ' σ' H' B2 (e.trans l)
theorem EndOk.mono (h : EndOk X L W Φ B D D') (e : Le B B') : EndOk X L W Φ B' D D' := ⟨h.nx.mono e, h.rt.mono e, h.bk.mono e, h.ct.mono e, fun c => (h.ex c).mono e⟩
theorem EndOk.xp (h : EndOk X L W Φ B D D') {σ : L2.St} {ρ : Ro} (sl : Slots X.K B σ ρ) : PostX X.K L Φ B (D.xp ρ) (WE W σ) := fun c H' B' μ' l S q => h.ex c ρ μ' σ H' B' l S (sl.mono l) q
def SOk (X : Cx) (L : Lay) (W : WX) (st : Stmt) (d : SEnds → Ro → Sto → Prop) : Prop := ∀ Φ B μ H σ ρ D D', St X.K L Φ H B μ → Slots X.K B σ ρ → d D ρ μ → EndOk X L W Φ B D D' → sS X st D' σ H
def SsOk (X : Cx) (L : Lay) (W : WX) (st : List Stmt) (d : SEnds → Ro → Sto → Prop) : Prop := ∀ Φ B μ H σ ρ D D', St X.K L Φ H B μ → Slots X.K B σ ρ → d D ρ μ → EndOk X L W Φ B D D' → sSs X st D' σ H
theorem sw_none {v : Expr} {t : Option Expr} {l : Nat} {env : Env} (h : isCompV v = false) : swapsWith v t l env = pure false := by
  cases v <;> first | rfl | cases h
theorem sw_attr {v o : Expr} {f : Str} {p : Pos} {l : Nat} {env : Env} : swapsWith v (some (.Attribute o f p)) l env = pure false := by
  cases v <;> rfl
theorem sw_sub {v o i : Expr} {p : Pos} {l : Nat} {env : Env} : swapsWith v (some (.Subscript o i p)) l env = pure false := by
  cases v <;> rfl
theorem sw_tup {v : Expr} {es : List Expr} {k : Nat} {p : Pos} {l : Nat} {env : Env} : swapsWithSole [.Tuple es k p] v l env = pure false := by
  cases v <;> rfl
theorem st_asgN (C : SCtx G Γ L c X W) {i : Nat} {x : Str} {px : Pos} {e : Ex} {v : Expr} (hN : c.N[i]? = some x) (hl : loc c.sc x = true) (he : EOk X L W v (den G Γ e)) (hs : swapsWith v (some (.Name x px)) pos.line X.env = pure false) :
    SOk X L W (.Assign [.Name x px] v pos) (denS G Γ (.asg (.nm i) e)) := fun Φ B μ H σ ρ D D' S sl q k => by
  obtain ⟨h1, h2⟩ := C.e.st x hl
  refine sS_of (ps_set (by rw [C.e.N]; exact C.e.nd) (by rw [C.e.N]; exact hN) h1 pe_s hs h2) ?_
  exact he.v Φ B μ H σ ρ _ _ _ S sl q (k.xp sl) fun w t H1 B1 μ1 l1 S1 r1 q1 => k.nx _ μ1 _ H1 B1 l1 S1 ((sl.mono l1).set i r1) q1
theorem st_asgT (C : SCtx G Γ L c X W) {gs : List Tg} {es : List Expr} {kk : Nat} {px : Pos} {e : Ex} {v : Expr} (hg : chkG c (.tup gs) (.Tuple es kk px) = true) (hv : isTupV v = false) (he : EOk X L W v (den G Γ e)) :
    SOk X L W (.Assign [.Tuple es kk px] v pos) (denS G Γ (.asg (.tup gs) e)) := fun Φ B μ H σ ρ D D' S sl q k => by
  have hw : swappedStores [.Tuple es kk px] v X.env = pure none := by cases v <;> first | rfl | cases hv
  refine sS_of (ps_asg pe_s (pg_s (e := .Tuple es kk px)) sw_tup hw rfl) ?_
  refine he.v Φ B μ H σ ρ _ _ _ S sl q (k.xp sl) fun w t H1 B1 μ1 l1 S1 r1 q1 => ?_
  exact tg_ok C.e (.tup gs) _ hg Φ B1 μ1 H1 σ ρ w t _ _ S1 (sl.mono l1) r1 q1 fun σ' ρ' s' _ q' => k.nx ρ' μ1 σ' H1 B1 l1 S1 s' q'
theorem st_par (C : SCtx G Γ L c X W) (hh : c.hot = false) {i j : Nat} {x y : Str} {px py pt p2 : Pos} {k1 k2 : Nat} {a b : Ex} {v w : Expr} (hi : c.N[i]? = some x) (hj : c.N[j]? = some y) (hs : swapB c x y px py v w = true) (ha : EOk X L W v (den G Γ a)) (sa : Stat v) (hb : EOk X L W w (den G Γ b)) (sb : Stat w) :
    SOk X L W (.Assign [.Tuple [.Name x px, .Name y py] k1 pt] (.Tuple [v, w] k2 p2) pos) (denS G Γ (.par i j a b)) := fun Φ B μ H σ ρ D D' S sl q k => by
  simp only [swapB, isLoc, Bool.and_eq_true, decide_eq_true_eq, Bool.not_eq_true', decide_eq_false_iff_not] at hs
  obtain ⟨⟨⟨⟨⟨⟨⟨lx, ly⟩, hline⟩, hne⟩, hf⟩, hc⟩, nsv⟩, nsw⟩ := hs
  have lx' : X.env.scope.names.lookup x = some .local := by rw [C.se]; exact lx
  have ly' : X.env.scope.names.lookup y = some .local := by rw [C.se]; exact ly
  have hij : i ≠ j := fun z => hne (Option.some.inj (hi.symm.trans (z ▸ hj)))
  have hb' : X.env.blockKind = .function := by
    unfold Env.blockKind
    rw [C.se, C.kd]
    rfl
  have kx : X.env.kindOf x = some .local := lx'
  have ky : X.env.kindOf y = some .local := ly'
  have hw : swappedStores [.Tuple [.Name x px, .Name y py] k1 pt] (.Tuple [v, w] k2 p2) X.env = pure (some [x, y]) := by
    have hany : ∀ f : Expr → Bool, (∀ u, isStarE u = false → f u = false) → [v, w].any f = false := fun f hf' => by
      simp [hf' v nsv, hf' w nsw]
    have hbe : (y == x) = false := beq_eq_false_iff_ne.mpr fun z => hne z.symm
    have ed : [x, y].eraseDups = [x, y] := by
      simp [List.eraseDups_cons, hbe]
    have e1 : (some NameKind.local == some NameKind.local) = true := rfl
    unfold swappedStores
    dsimp only
    rw [hb', hany _ (fun u hu => by cases u <;> first | rfl | cases hu)]
    simp only [hf, hc, kx, ky, hline, List.filterMap_cons, List.filterMap_nil, List.head?_cons, Option.map_some, Option.getD_some, e1, Bool.and_self, Expr.pos, beq_self_eq_true, List.length_cons, List.length_nil, if_true, ed]
    rfl
  refine sS_of (ps_par (C.e.calm hh) (by rw [C.e.N]; exact C.e.nd) (by rw [C.e.N]; exact hi) (by rw [C.e.N]; exact hj) hij lx' ly' (pa_cons pe_s (pa_cons pe_s pa_nil (sb.star _ _)) (sa.star _ _)) hw sw_tup) ?_
  refine ha.v Φ B μ H σ ρ _ _ _ S sl q (k.xp sl) fun v1 t1 H1 B1 μ1 l1 S1 r1 q1 => ?_
  refine hb.v Φ B1 μ1 H1 σ ρ _ _ _ S1 (sl.mono l1) q1 ((k.xp sl).mono l1) fun v2 t2 H2 B2 μ2 l2 S2 r2 q2 => ?_
  exact ⟨v1, v2, rfl, k.nx _ μ2 _ H2 B2 (l1.trans l2) S2 (((sl.mono (l1.trans l2)).set i (r1.mono l2)).set j r2) q2⟩
end
end Rh

namespace Rh
open PySem PySem.Spec PyProof.Rows L2
section
variable {X : Cx} {L : Lay} {W : WX} {G : Tab} {Γ : Nat → TSp} {c : SC} {pos : Pos}
/-- name = [..], both ways in which the list comes to the name -/
theorem st_comp (C : SCtx G Γ L c X W) (hh : c.hot = false) {i : Nat} {x : Str} {px pc : Pos} {own : Bool} {vs : List Nat} {g : Tg} {kk : ItK} {its : List Ex} {cond elt : Ex} {z tg iter : Expr} {ifs : List Expr} {scope : Scope} (hN : c.N[i]? = some x) (hl : loc c.sc x = true)
    (hb : blkC c.N c.sc scope (ownNames c.N vs) = true) (hv : (ownNames c.N vs).map (·.2) = vs) (it : ItOk X L W kk tg iter (dens G Γ its)) (Q0 : CompOk X L scope vs g tg ifs z (den G Γ cond) (den G Γ elt)) :
    SOk X L W (.Assign [.Name x px] (.ListComp z [⟨tg, iter, ifs, 0⟩] scope pc) pos) (denS G Γ (.asg (.nm i) (.comp own vs g kk its cond elt))) := by
  have he := k_comp C.e hh (pos := pc) (own := own) hb hv it Q0
  obtain ⟨b, hsw⟩ : ∃ b, swapsWith (.ListComp z [⟨tg, iter, ifs, 0⟩] scope pc) (some (.Name x px)) pos.line X.env = pure b := ⟨_, rfl⟩
  cases b with
  | false => exact st_asgN C hN hl he hsw
  | true =>
    have hloc : X.env.scope.names.lookup x = some .local := by
      have e : (X.env.blockKind == .function && X.env.kindOf x == some .local && px.line == pc.line && !(scope.names.any fun (n, k) => n == x && (k == .local || k == .cell))) = true := by
        have h1 : swapsWith (.ListComp z [⟨tg, iter, ifs, 0⟩] scope pc) (some (.Name x px)) pos.line X.env = pure (X.env.blockKind == .function && X.env.kindOf x == some .local && px.line == pc.line && !(scope.names.any fun (n, k) => n == x && (k == .local || k == .cell))) := rfl
        have h2 := h1.symm.trans hsw
        cases e : (X.env.blockKind == .function && X.env.kindOf x == some .local && px.line == pc.line && !(scope.names.any fun (n, k) => n == x && (k == .local || k == .cell))) with
        | true => rfl
        | false =>
          rw [e] at h2
          exact absurd h2 (by intro q; injection q; contradiction)
      simp only [Bool.and_eq_true, beq_iff_eq] at e
      exact e.1.1.2
    obtain ⟨wi, gg, tt, te, h1, h2, h3, h4, h5⟩ := comp_lc (ow := own) hv it Q0
    intro Φ B μ H σ ρ D D' S sl q k
    refine sS_of (ps_setLc (C.e.calm hh) (by rw [C.e.N]; exact C.e.nd) (by rw [C.e.N]; exact hN) hloc hsw h1 (blk_ok C.e hb) h2 h3 h4 (folded it.1)) ?_
    refine h5 Φ B μ H σ ρ _ _ _ S sl q (k.xp sl) fun w t H1 B1 μ1 l1 S1 r1 q1 => ?_
    exact k.nx _ μ1 _ H1 B1 l1 S1 ((sl.mono l1).set i r1) q1
theorem putF_set {c0 : List Str} (nd : c0.Nodup) : ∀ {vs : List V} {i : Nat} {f : Str} {v : V}, c0[i]? = some f → i < vs.length → putF f v (c0.zip vs) = c0.zip (vs.set i v) := by
  induction c0 with
  | nil => intro vs i f v h; simp at h
  | cons g r ih =>
    intro vs i f v h hl
    rw [List.nodup_cons] at nd
    cases vs with
    | nil => simp at hl
    | cons w ws =>
      cases i with
      | zero =>
        simp at h
        subst h
        show (if g = g then (g, v) :: r.zip ws else _) = (g, v) :: r.zip ws
        rw [if_pos rfl]
      | succ i =>
        have h' : r[i]? = some f := by simpa using h
        have ne : ¬ g = f := fun z => nd.1 (by rw [z]; exact List.mem_of_getElem? h')
        show (if g = f then _ else (g, w) :: putF f v (r.zip ws)) = (g, w) :: r.zip (ws.set i v)
        rw [if_neg ne, ih nd.2 h' (by simpa using hl)]
theorem putF_new {c0 : List Str} (nd : c0.Nodup) : ∀ {vs : List V} {f : Str} {v : V}, c0[vs.length]? = some f → putF f v (c0.zip vs) = c0.zip (vs ++ [v]) := by
  induction c0 with
  | nil => intro vs f v h; simp at h
  | cons g r ih =>
    intro vs f v h
    rw [List.nodup_cons] at nd
    cases vs with
    | nil =>
      simp at h
      subst h
      show putF g v [] = (g, v) :: r.zip []
      rw [List.zip_nil_right]
      rfl
    | cons w ws =>
      have h' : r[ws.length]? = some f := by simpa using h
      have ne : ¬ g = f := fun z => nd.1 (by rw [z]; exact List.mem_of_getElem? h')
      show (if g = f then _ else (g, w) :: putF f v (r.zip ws)) = (g, w) :: r.zip (ws ++ [v])
      rw [if_neg ne, ih nd.2 h']
theorem st_asgF (C : SCtx G Γ L c X W) {d i : Nat} {o e : Ex} {y v : Expr} {f : Str} {p : Pos} (hsup : notSup y = true) (hi : (G.flds d)[i]? = some f) (hcd : ∃ ci, G.cl d = some ci) (ho : EOk X L W y (den G Γ o)) (he : EOk X L W v (den G Γ e)) :
    SOk X L W (.Assign [.Attribute y f p] v pos) (denS G Γ (.asgF d i o e)) := fun Φ B μ H σ ρ D D' S sl q k => by
  obtain ⟨ci, hci⟩ := hcd
  have CF := C.e.g.cl d ci hci
  refine sS_of (ps_fld pe_s pe_s sw_attr) ?_
  refine he.v Φ B μ H σ ρ _ _ _ S sl q (k.xp sl) fun w t H1 B1 μ1 l1 S1 r1 q1 => ?_
  refine ho.v Φ B1 μ1 H1 σ ρ _ _ _ S1 (sl.mono l1) q1 ((k.xp sl).mono l1) fun w2 t2 H2 B2 μ2 l2 S2 r2 q2 => ?_
  obtain ⟨a, us, rfl, e1, hle, q2⟩ := q2
  obtain rfl := r2
  obtain ⟨dx, vs, h1, h2, h3⟩ := S2.memO e1
  have hil : i < (G.flds d).length := (List.getElem?_eq_some_iff.mp hi).1
  have hlen := h2.length
  rw [C.e.g.fl] at h1 h3
  have hsz := CF.sz
  refine ⟨a, L.addr d, dx, _, rfl, h1, CF.cl, CF.no f (List.mem_of_getElem? hi), by rw [List.length_zip]; omega, ?_⟩
  have hB : B2 a = none := (S2.sto a _ e1).1
  have hF := S2.noF e1
  have fin : ∀ vs', putF f w ((G.flds d).zip vs) = (G.flds d).zip vs' → Trs X.K B2 vs' (setF us i t) → vs'.length ≤ (G.flds d).length → D'.nx σ (upd H2 a (.ins (L.addr d) dx (putF f w ((G.flds d).zip vs)))) := fun vs' ev r' hl' => by
    refine k.nx ρ _ σ _ B2 (l1.trans l2) (S2.put (p := a) (ob := .obj d (setF us i t)) hB hF ?_) (sl.mono (l1.trans l2)) q2
    exact ⟨dx, vs', by rw [upd_same, ev, C.e.g.fl], r', by rw [C.e.g.fl]; exact hl'⟩
  by_cases hlt : i < us.length
  · refine fin (vs.set i w) (putF_set CF.nd hi (by omega)) ?_ (by rw [List.length_set]; exact h3)
    unfold setF
    rw [if_pos hlt]
    exact h2.set i (r1.mono l2)
  · have hi' : i = vs.length := by omega
    refine fin (vs ++ [w]) (putF_new CF.nd (by rw [← hi']; exact hi)) ?_ (by rw [List.length_append, List.length_singleton]; omega)
    unfold setF
    rw [if_neg hlt]
    exact h2.append (Trs.cons (r1.mono l2) Trs.nil)
def OpSet (K : PySem.W.Frag) (L : Lay) : V → V → V → Hp → (Hp → Prop) → Prop := fun o i v H Q => ∃ Φ B μ tx tk ty R, St K L Φ H B μ ∧ Tr K B o tx ∧ Tr K B i tk ∧ Tr K B v ty ∧ tSet tx tk ty μ R ∧ ∀ H' μ', St K L Φ H' B μ' → R μ' → Q H'
theorem set_ok (hu : X.A.units + 65 < cLine) : PSet X (OpSet X.K L) := by
  intro pins s σ H o i v ov iv u Q I ro ri rv ⟨Φ, B, μ, tx, tk, ty, R, S, r1, r2, r3, h, k⟩
  unfold tSet at h
  split at h
  · obtain ⟨p, kvs, rfl, e, kk, ek, hz, h⟩ := h
    obtain ⟨ks, g1, g2⟩ := S.memD e
    obtain rfl := r1
    have ey := keyT_ok r2 ek
    subst ey
    cases (show ov = Value.ref p from ro)
    refine d_setItem (by omega) I (DPut.k (k := kk) g1 (by rw [g2.length]; exact hz)) ri rv fun s' I' => ⟨_, I', ?_⟩
    exact k _ _ (S.put (S.sto p _ e).1 (S.noF e) (show ObOk X.K L (upd H p (.dK (putK ks kk v))) B p (.dict (putT kvs kk ty)) from ⟨_, upd_same, g2.put kk r3⟩)) h
  · obtain ⟨p, vs, ts, rfl, h1, h2, ⟨n, j, rfl, hj, h⟩, hB, hF⟩ := onM_ok S r1 h
    obtain rfl := r2
    refine set_list pins s σ H _ _ v ov iv u Q I ro ri rv ⟨p, vs, n, j, rfl, rfl, h1, by rw [h2.length]; exact hj, ?_⟩
    exact k _ _ (S.put hB hF (show ObOk X.K L (upd H p (.lst (vs.set j v))) B p (.lst (ts.set j ty)) from ⟨_, upd_same, h2.set j r3⟩)) h
theorem st_asgI (C : SCtx G Γ L c X W) {o i e : Ex} {y kx v : Expr} {p : Pos} (ho : EOk X L W y (den G Γ o)) (hi : EOk X L W kx (den G Γ i)) (si : Stat kx) (he : EOk X L W v (den G Γ e)) :
    SOk X L W (.Assign [.Subscript y kx p] v pos) (denS G Γ (.asgI o i e)) := fun Φ B μ H σ ρ D D' S sl q k => by
  have hw : swappedStores [.Subscript y kx p] v X.env = pure none := by cases v <;> rfl
  have hsole : swapsWithSole [.Subscript y kx p] v pos.line X.env = pure false := by cases v <;> rfl
  refine sS_of (ps_asg pe_s (pg_sub pe_s pe_s (set_ok (L := L) C.e.hu) (si.asg y p X.env)) hsole hw rfl) ?_
  refine he.v Φ B μ H σ ρ _ _ _ S sl q (k.xp sl) fun w t H1 B1 μ1 l1 S1 r1 q1 => ?_
  refine ho.v Φ B1 μ1 H1 σ ρ _ _ _ S1 (sl.mono l1) q1 ((k.xp sl).mono l1) fun w2 t2 H2 B2 μ2 l2 S2 r2 q2 => ?_
  refine hi.v Φ B2 μ2 H2 σ ρ _ _ _ S2 (sl.mono (l1.trans l2)) q2 ((k.xp sl).mono (l1.trans l2)) fun w3 t3 H3 B3 μ3 l3 S3 r3 q3 => ?_
  exact ⟨Φ, B3, μ3, t2, t3, t, _, S3, r2.mono l3, r3, r1.mono (l2.trans l3), q3, fun H' μ' S' h' => k.nx ρ μ' σ H' B3 ((l1.trans l2).trans l3) S' (sl.mono ((l1.trans l2).trans l3)) h'⟩
theorem aug_ok (op : Operator) : PIp X op (Op2 X.K L (tAugO op)) := by
  intro pins s σ H x y v u Q I rx ry ⟨Φ, B, μ, tx, ty, R, S, r1, r2, h, k⟩
  unfold tAugO at h
  split at h
  · obtain rfl := r1
    obtain rfl := r2
    exact ip_add pins s σ H _ _ v u Q I rx ry ⟨_, _, rfl, rfl, k.here S (show Tr X.K B (.int _) (.int _) from rfl) h⟩
  · obtain rfl := r1
    obtain rfl := r2
    exact ip_sub pins s σ H _ _ v u Q I rx ry ⟨_, _, rfl, rfl, k.here S (show Tr X.K B (.int _) (.int _) from rfl) h⟩
  · obtain rfl := r1
    obtain rfl := r2
    exact iop_add_str pins s σ H _ _ v u Q I rx ry ⟨_, _, rfl, rfl, h.1, k.here S (show Tr X.K B (.str _) (.str _) from rfl) h.2⟩
  · exact h.elim
theorem st_aug (C : SCtx G Γ L c X W) {i : Nat} {x : Str} {px : Pos} {op : Operator} {e : Ex} {v : Expr} (hN : c.N[i]? = some x) (hl : loc c.sc x = true) (he : EOk X L W v (den G Γ e)) :
    SOk X L W (.AugAssign (.Name x px) op v pos) (denS G Γ (.aug i op e)) := fun Φ B μ H σ ρ D D' S sl q k => by
  obtain ⟨h1, h2⟩ := C.e.st x hl
  refine sS_of (ps_aug (by rw [C.e.N]; exact C.e.nd) (by rw [C.e.N]; exact hN) h1 pe_s (aug_ok (L := L) op) h2) ?_
  obtain ⟨t, e1, q⟩ := q
  obtain ⟨w, e2, r⟩ := sl.2 i t e1
  refine ⟨w, e2, ?_⟩
  refine he.v Φ B μ H σ ρ _ _ _ S sl q (k.xp sl) fun w1 t1 H1 B1 μ1 l1 S1 r1 q1 => ?_
  exact ⟨Φ, B1, μ1, t, t1, _, S1, r.mono l1, r1, q1, fun w2 t2 H2 B2 μ2 l2 S2 r2 q2 => k.nx _ μ2 _ H2 B2 (l1.trans l2) S2 ((sl.mono (l1.trans l2)).set i r2) q2⟩
theorem get_ok : PGet X (fun x y H Q => ∃ Φ B μ tx ty R, St X.K L Φ H B μ ∧ Tr X.K B x tx ∧ Tr X.K B y ty ∧ (isDict μ tx = false ∧ tIdx tx ty μ R) ∧ Post X.K L Φ B R Q ∧ ∃ us, vlst μ tx = some us) := by
  intro pins s σ H x y v u Q I rx ry ⟨Φ, B, μ, tx, ty, R, S, r1, r2, ⟨hd, h⟩, k, us, hus⟩
  have h' : onL μ tx fun ts => ∃ i t, ty = .int i ∧ atI ts i = some t ∧ R t μ := by
    unfold tIdx at h
    cases tx with
    | tup ts => cases hus
    | str z => cases hus
    | lst ts => simpa [isDict] using h
    | scr ts => simpa [isDict] using h
    | own p => simp only [hd] at h; exact h
    | _ => cases hus
  obtain ⟨a, vs, ts, rfl, h1, h2, i, t, rfl, e, h'⟩ := onL_ok S r1 h'
  obtain rfl := r2
  obtain ⟨w, ew, rw'⟩ := h2.atI e
  cases (show v = Value.ref a from rx)
  obtain ⟨tk, rfl⟩ : ∃ tk, u = Value.int i tk := ry
  obtain ⟨its, rv, pl, hz⟩ := I.list h1
  obtain ⟨j, g1, g2, g3, g4, g5⟩ := atI_get ew
  obtain ⟨w', ew', rw2⟩ := rv.get g2
  have hlen := rv.length
  have hn := line63
  have fin : EP X pins σ Q w' s := ⟨w, H, I, rw2, k.here S rw' h'⟩
  by_cases h0 : 0 ≤ i
  · have hj : i.toNat = j := by
      rw [seqIndex_of h0 g5] at g1
      exact Option.some.inj g1
    exact wpAny_getItem_list pl.isList h0 (by omega) (by rw [hj]; simpa using ew') fin
  · have hj : (i + (its.toArray.size : Int)).toNat = j := by
      rw [seqIndex_neg (by omega) g4] at g1
      rw [List.size_toArray, ← hlen]
      exact Option.some.inj g1
    exact wpAny_getItem_list_neg pl.isList (by omega) (by rw [List.size_toArray] <;> omega) (by omega) (by rw [hj]; simpa using ew') fin
theorem st_augI (C : SCtx G Γ L c X W) {op : Operator} {o i e : Ex} {y kx v : Expr} {p : Pos} (ho : EOk X L W y (den G Γ o)) (hi : EOk X L W kx (den G Γ i)) (si : Stat kx) (he : EOk X L W v (den G Γ e)) :
    SOk X L W (.AugAssign (.Subscript y kx p) op v pos) (denS G Γ (.augI op o i e)) := fun Φ B μ H σ ρ D D' S sl q k => by
  refine sS_of (ps_augS pe_s pe_s (get_ok (L := L)) pe_s (aug_ok (L := L) op) (set_ok (L := L) C.e.hu) si.aug) ?_
  refine ho.v Φ B μ H σ ρ _ _ _ S sl q (k.xp sl) fun w1 t1 H1 B1 μ1 l1 S1 r1 q1 => ?_
  refine hi.v Φ B1 μ1 H1 σ ρ _ _ _ S1 (sl.mono l1) q1 ((k.xp sl).mono l1) fun w2 t2 H2 B2 μ2 l2 S2 r2 q2 => ?_
  obtain ⟨hd, ⟨us, hus⟩, q2⟩ := q2
  refine ⟨Φ, B2, μ2, t1, t2, _, S2, r1.mono l2, r2, ⟨hd, q2⟩, fun w3 t3 H3 B3 μ3 l3 S3 r3 q3 => ?_, us, hus⟩
  have l13 := (l1.trans l2).trans l3
  refine he.v Φ B3 μ3 H3 σ ρ _ _ _ S3 (sl.mono l13) q3 ((k.xp sl).mono l13) fun w4 t4 H4 B4 μ4 l4 S4 r4 q4 => ?_
  refine ⟨Φ, B4, μ4, t3, t4, _, S4, r3.mono l4, r4, q4, fun w5 t5 H5 B5 μ5 l5 S5 r5 q5 => ?_⟩
  exact ⟨Φ, B5, μ5, t1, t2, t5, _, S5, r1.mono (((l2.trans l3).trans l4).trans l5), r2.mono ((l3.trans l4).trans l5), r5, q5, fun H' μ' S' h' => k.nx ρ μ' σ H' B5 ((l13.trans l4).trans l5) S' (sl.mono ((l13.trans l4).trans l5)) h'⟩
theorem st_ret {e : Ex} {v : Expr} (he : EOk X L W v (den G Γ e)) : SOk X L W (.Return (some v) pos) (denS G Γ (.ret e)) := fun Φ B μ H σ ρ D D' S sl q k =>
  sS_of (ps_ret pe_s) (he.v Φ B μ H σ ρ _ _ _ S sl q (k.xp sl) k.rt)
theorem st_expr {e : Ex} {v : Expr} (hc : isCompV v = false) (he : EOk X L W v (den G Γ e)) : SOk X L W (.Expr v pos) (denS G Γ (.expr e)) := fun Φ B μ H σ ρ D D' S sl q k =>
  sS_of (ps_expr pe_s (sw_none hc)) (he.v Φ B μ H σ ρ _ _ _ S sl q (k.xp sl) fun w t H1 B1 μ1 l1 S1 r1 q1 => k.nx ρ μ1 σ H1 B1 l1 S1 (sl.mono l1) q1)
theorem st_ife {d : Ex} {a b : List Sx} {z : Expr} {x y : List Stmt} (hd : EOk X L W z (den G Γ d)) (ha : SsOk X L W x (denSs G Γ a)) (hb : SsOk X L W y (denSs G Γ b)) : SOk X L W (.If z x y pos) (denS G Γ (.ife d a b)) := fun Φ B μ H σ ρ D D' S sl q k => by
  refine sS_of (ps_if pt_s pss_s pss_s) ?_
  obtain ⟨J, hJ, q⟩ := q
  have k2 : EndOk X L W Φ B { D with nx := J } D' := ⟨fun ρ' μ' σ' H' B' l S' sl' h => by
    obtain ⟨ρ3, μ3, wk, h3⟩ := hJ ρ' μ' h
    obtain ⟨B2, l2, S2, sl2⟩ := wk.ok S' sl'
    exact k.nx ρ3 μ3 σ' H' B2 (l.trans l2) S2 sl2 h3, k.rt, k.bk, k.ct, k.ex⟩
  refine hd.t Φ B μ H σ ρ _ _ _ S sl q (k.xp sl) fun b1 H1 B1 μ1 l1 S1 q1 => ?_
  cases b1 with
  | true =>
    rw [if_pos rfl] at q1 ⊢
    exact ha Φ B1 μ1 H1 σ ρ _ D' S1 (sl.mono l1) q1 (k2.mono l1)
  | false =>
    rw [if_neg Bool.false_ne_true] at q1 ⊢
    exact hb Φ B1 μ1 H1 σ ρ _ D' S1 (sl.mono l1) q1 (k2.mono l1)
theorem st_for (C : SCtx G Γ L c X W) (hh : c.hot = false) {g : Tg} {kk : ItK} {its : List Ex} {body : List Sx} {tg iter : Expr} {b : List Stmt} (hg : chkG c g tg = true) (it : ItOk X L W kk tg iter (dens G Γ its)) (hb : SsOk X L W b (denSs G Γ body)) :
    SOk X L W (.For tg iter b [] pos) (denS G Γ (.for_ g kk its body)) := fun Φ B μ H σ ρ D D' S sl q k => by
  obtain ⟨hn, wi, hwi, hit⟩ := it
  refine sS_of (ps_for (C.pa hh) (C.e.calm hh) hwi (pg_s (e := tg)) (pss_s (st := b)) (folded hn)) ?_
  refine hit Φ B μ H σ ρ (D.xp ρ) (fun us gd μ1 => forD g (denSs G Γ body) us gd D ρ μ1) _ S sl q (k.xp sl) fun J H1 B1 μ1 us gd l1 S1 sim q1 => ?_
  obtain ⟨I, i0, iend, istep⟩ := q1
  refine ⟨fun i m σ2 H2 => ∃ B2 μ2 ρ2 r, Le B1 B2 ∧ St X.K L Φ H2 B2 μ2 ∧ Slots X.K B2 σ2 ρ2 ∧ us.drop i = r ∧ i ≤ us.length ∧ m = r.length ∧ I r ρ2 μ2, ⟨us.length, B1, μ1, ρ, us, Same.refl _, S1, sl.mono l1, rfl, Nat.zero_le _, rfl, i0⟩, ?_⟩
  rintro i m σ2 H2 ⟨B2, μ2, ρ2, r, l2, S2, sl2, er, hi, em, hI⟩
  cases r with
  | nil =>
    obtain ⟨g2, fin⟩ := iend ρ2 μ2 hI
    have hlen : us.length ≤ i := by
      have := congrArg List.length er
      rw [List.length_drop] at this
      simp at this
      omega
    exact .inl ⟨sim.stop _ i H2 B2 μ2 l2 S2 g2 hlen, k.nx ρ2 μ2 σ2 H2 B2 (l1.trans l2) S2 sl2 fin⟩
  | cons t r =>
    obtain ⟨g2, hbd⟩ := istep t r ρ2 μ2 hI
    have hlt : i < us.length := by
      have := congrArg List.length er
      rw [List.length_drop] at this
      simp at this
      omega
    have et : us[i]? = some t := by
      have := congrArg (fun l => l[0]?) er
      simpa [List.getElem?_drop] using this
    have er' : us.drop (i + 1) = r := by
      have := congrArg List.tail er
      simpa [List.tail_drop] using this
    obtain ⟨hgo, hy⟩ := sim.go _ i H2 B2 μ2 l2 S2 g2 hlt
    refine .inr ⟨hgo, fun σ3 H3 => ∃ B3 μ3 ρ3, Le B1 B3 ∧ St X.K L Φ H3 B3 μ3 ∧ Slots X.K B3 σ3 ρ3 ∧ I r ρ3 μ3, fun σ3 H3 ⟨B3, μ3, ρ3, l3, S3, sl3, h3⟩ => ⟨r.length, by rw [em]; simp, B3, μ3, ρ3, r, l3, S3, sl3, er', hlt, rfl, h3⟩, fun x H3 y => ?_⟩
    obtain ⟨B3, t', l3, S3, et', rt⟩ := hy x H3 y
    rw [et] at et'
    cases et'
    refine tg_ok C.e g tg hg Φ B3 μ2 H3 σ2 ρ2 x t _ _ S3 (sl2.mono l3) rt hbd fun σ4 ρ4 sl4 _ q4 => ?_
    have l03 := (l1.trans l2).trans l3
    have again : PostN X.K L Φ B3 (fun ρ5 μ5 => ∃ ρ6 μ6, Wk ρ5 μ5 ρ6 μ6 ∧ I r ρ6 μ6) (fun σ3 H3 => ∃ B3 μ3 ρ3, Le B1 B3 ∧ St X.K L Φ H3 B3 μ3 ∧ Slots X.K B3 σ3 ρ3 ∧ I r ρ3 μ3) := fun ρ5 μ5 σ5 H5 B5 l5 S5 sl5 ⟨ρ6, μ6, wk, h6⟩ => by
      obtain ⟨B6, l6, S6, sl6⟩ := wk.ok S5 sl5
      exact ⟨B6, μ6, ρ6, ((l2.trans l3).trans l5).trans l6, S6, sl6, h6⟩
    exact hb Φ B3 μ2 H3 σ4 ρ4 _ _ S3 sl4 q4 ⟨again, k.rt.mono l03, k.nx.mono l03, again, fun c' => (k.ex c').mono l03⟩
theorem st_while (C : SCtx G Γ L c X W) (hh : c.hot = false) {d : Ex} {body : List Sx} {z : Expr} {b : List Stmt} (hd : EOk X L W z (den G Γ d)) (hb : SsOk X L W b (denSs G Γ body)) : SOk X L W (.While z b [] pos) (denS G Γ (.while_ d body)) := fun Φ B μ H σ ρ D D' S sl q k => by
  refine sS_of (ps_while (C.pa hh) (pt_s (e := z)) (pss_s (st := b))) ?_
  obtain ⟨I, ⟨m0, i0⟩, step⟩ := q
  refine ⟨fun m σ2 H2 => ∃ B2 μ2 ρ2, Le B B2 ∧ St X.K L Φ H2 B2 μ2 ∧ Slots X.K B2 σ2 ρ2 ∧ I m ρ2 μ2, ⟨m0, B, μ, ρ, Same.refl _, S, sl, i0⟩, ?_⟩
  rintro m σ2 H2 ⟨B2, μ2, ρ2, l2, S2, sl2, hI⟩
  refine hd.t Φ B2 μ2 H2 σ2 ρ2 _ _ _ S2 sl2 (step m ρ2 μ2 hI) ((k.mono l2).xp sl2) fun b1 H3 B3 μ3 l3 S3 q3 => ?_
  cases b1 with
  | false =>
    rw [if_neg Bool.false_ne_true] at q3 ⊢
    exact k.nx ρ2 μ3 σ2 H3 B3 (l2.trans l3) S3 (sl2.mono l3) q3
  | true =>
    rw [if_pos rfl] at q3 ⊢
    have l03 := l2.trans l3
    have again : PostN X.K L Φ B3 (fun ρ5 μ5 => ∃ ρ6 μ6 m', Wk ρ5 μ5 ρ6 μ6 ∧ m' < m ∧ I m' ρ6 μ6) (fun σ3 H3 => ∃ m', m' < m ∧ ∃ B3 μ3 ρ3, Le B B3 ∧ St X.K L Φ H3 B3 μ3 ∧ Slots X.K B3 σ3 ρ3 ∧ I m' ρ3 μ3) := fun ρ5 μ5 σ5 H5 B5 l5 S5 sl5 ⟨ρ6, μ6, m', wk, hm, h6⟩ => by
      obtain ⟨B6, l6, S6, sl6⟩ := wk.ok S5 sl5
      exact ⟨m', hm, B6, μ6, ρ6, (l03.trans l5).trans l6, S6, sl6, h6⟩
    exact ⟨_, fun σ' H' h => h, hb Φ B3 μ3 H3 σ2 ρ2 _ _ S3 (sl2.mono l3) q3 ⟨again, k.rt.mono l03, k.nx.mono l03, again, fun c' => (k.ex c').mono l03⟩⟩
theorem st_raise (C : SCtx G Γ L c X W) {x : Nat} {n : Str} {p p2 cp : Pos} {m : Str} {j : Nat} (hx : G.ex x = some n) (hg : glb c.sc n = true) (hp : plainN n = true) (hx2 : x < 1000) : SOk X L W (.Raise (some (.Call (.Name n p) [.Constant (.str m) j p2] [] cp)) none pos) (denS G Γ (.raise x)) := fun Φ B μ H σ ρ D D' S sl q k => by
  have E := C.e.g.ex x n hx
  have w := k.ex x ρ μ σ H B (Same.refl _) S sl q
  rw [xv_lt hx2] at w
  have mk := L2N.pmk_own (X := X) (m := m) (j := j) (p := p) (p2 := p2) (pos := cp) PySem.F.excBase_ValueError E.ex E.mg_ E.kp (raises_own E.sb E.ty) (C.e.gl n hg) (plainN_ok hp).1
  cases hh : c.hot with
  | true =>
    rcases C.nv hh with no | ⟨p, Wo, hot, hpn, tk, up⟩
    · exact (no _ _ _ _ w).elim
    · exact sS_of (ps_raise_in hot hpn tk mk) ⟨_, rfl, up _ _ _ _ w⟩
  | false =>
    refine sS_of (L2N.ps_raise (C.e.calm hh) (C.e.tk hh).n mk) ?_
    exact ⟨_, rfl, w⟩
/-- the body of a try is a place like the one around it -/
theorem SCtx.tr (C : SCtx G Γ L c X W) (hh : c.hot = false) {W' : WX} {pn : List (Addr × Obj)} {xe : Value → Shared → Prop} (tk : TakesR (X.tr pn xe) W') (pa : PassesOwn (model X.prog X.w) X.A X.env xe) (pq : ∀ hd : Option Value, PassesOwnAt (model X.prog X.w) (X.A.mark hd) X.A X.env xe) : SCtx G Γ L c (X.tr pn xe) W' :=
  ⟨⟨C.e.N, C.e.nd, C.e.vi, C.e.st, C.e.gl, C.e.fc, C.e.room, C.e.rh, C.e.hu, C.e.calm, fun _ => tk, fun z => absurd (C.e.cu z).1 (by rw [hh]; exact Bool.false_ne_true), C.e.g⟩, fun _ => pa, C.stk, C.fr, C.se, C.kd, fun _ => pq, fun z => absurd (hh.symm.trans z) Bool.false_ne_true⟩
/-- what the suite of a clause without a name may wish -/
def upW (k : Option Addr) (W : WX) : WX := fun v d σ H => k = none ∧ ∃ A, v = .ref A ∧ W (.int (A : Int) 0) d σ H
theorem SCtx.un (C : SCtx G Γ L c X W) {a A : Addr} {d k : Option Addr} {p q : Addr × Obj} {pn : List (Addr × Obj)} (ct : Caught X a A d k p q pn) (tk : TakesR (L2H.suiteX X a pn) W) : SCtx G Γ L { c with hot := true, as := false } (L2H.suiteX X a pn) (upW k W) :=
  ⟨⟨C.e.N, C.e.nd, C.e.vi, C.e.st, C.e.gl, C.e.fc, fun z => Bool.noConfusion z, ⟨C.e.rh.dp, C.e.rh.un⟩, C.e.hu, fun z => Bool.noConfusion z, fun z => Bool.noConfusion z, fun z => Bool.noConfusion z, C.e.g⟩, fun z => Bool.noConfusion z, C.stk, C.fr, C.se, C.kd, fun z => Bool.noConfusion z, fun _ => by
    cases k with
    | some c => exact .inl fun _ _ _ _ z => nomatch z.1
    | none =>
      obtain ⟨vs, e⟩ := ct.flds
      refine .inr ⟨p, W, ⟨ct.hot.1, vs, e, ct.z.2.2 vs e⟩, ct.hp, tk, fun A d σ H w => ?_⟩
      obtain ⟨-, A', e, w⟩ := w
      cases e
      exact w⟩
theorem endUp {Φ B : Hp} {D : SEnds} {D' : Ends} (k : EndOk X L W Φ B D D') {a : Nat} {kk : Option Addr} (ha : a < 1000 → kk = none) {a2 : Addr} {pn2 : List (Addr × Obj)} : EndOk (L2H.suiteX X a2 pn2) L (upW kk W) Φ B { D with ex := upX a D.ex } D' :=
  ⟨k.nx, k.rt, k.bk, k.ct, fun x ρ' μ' σ' H' B' l S sl h => by
    obtain ⟨h1, h2, h3⟩ := h
    have w := k.ex (x + 1000) ρ' μ' σ' H' B' l S sl h3
    rw [xv_up h2] at w
    rw [xv_lt h2]
    exact ⟨ha h1, _, rfl, w⟩⟩
/-- the wish of a body, read as the core's -/
theorem wBody_xv {K : PySem.W.Frag} {Wout : WX} {D : Ends} {l : List Clause} {a : Nat} {σ : L2.St} {H : Hp} (h : ∀ k, (a < 1000 ↔ k = none) → wClauses K Wout D l (L.exc (a % 1000)) none k σ H) : wBody K Wout D l (xv L a) none σ H := by
  by_cases e : a < 1000
  · rw [xv_lt e]
    have := h none ⟨fun _ => rfl, fun _ => e⟩
    rwa [Nat.mod_eq_of_lt e] at this
  · unfold xv
    rw [if_neg e]
    intro c
    rw [Int.toNat_natCast]
    exact h (some c) ⟨fun z => absurd z e, fun z => nomatch z⟩
theorem w_out {a : Nat} {k : Option Addr} (ha : a < 1000 ↔ k = none) {σ : L2.St} {H : Hp} (w : W (xv L a) none σ H) : W (tag k (L.exc (a % 1000))) none σ H := by
  by_cases e : a < 1000
  · rw [ha.mp e, Nat.mod_eq_of_lt e]
    rwa [xv_lt e] at w
  · cases k with
    | none => exact absurd (ha.mpr rfl) e
    | some c =>
      unfold xv at w
      rwa [if_neg e] at w
theorem cur_old {f m : Nat} {p : Addr} {a : Nat} (hf : f < m) (hm : m ≤ 999998) : curG G Γ p a f = Γ f := (if_neg (by omega)).trans (if_neg (by omega))
theorem GOk.cur {m : Nat} {P : Program} {w : World} {K : PySem.W.Frag} {mg : Str → Option Value} {base : Heap} (g : GOk G Γ L m P w K mg base) (hm : m ≤ 999998) (p : Addr) (a : Nat) : GOk G (curG G Γ p a) L m P w K mg base :=
  ⟨fun f j hf e => by
    obtain ⟨a', fd, ps, FF⟩ := g.fn f j hf e
    have : curG G Γ p a f = Γ f := cur_old hf hm
    exact ⟨a', fd, ps, by rw [this]; exact FF⟩, g.cl, g.ex, g.bl, g.con, g.fl, g.ki, g.kc, g.su, fun f j hf e => by
    obtain ⟨a', fd, ps, FF⟩ := g.fh f j hf e
    have : curG G Γ p a f = Γ f := cur_old hf hm
    exact ⟨a', fd, ps, by rw [this]; exact FF⟩⟩
theorem SCtx.as_ (C : SCtx G Γ L c X W) (hm : c.m ≤ 999998) {a : Addr} {e : Nat} {n : Str} {k : Option Addr} {p q : Addr × Obj} {pn : List (Addr × Obj)} (ct : Caught X a (L.exc e) none k p q pn) (ea : G.ex e = some n) : SCtx G (curG G Γ p.1 e) L { c with hot := true, as := true } (X.suite a pn) (fun _ _ _ _ => False) :=
  ⟨⟨C.e.N, C.e.nd, C.e.vi, C.e.st, C.e.gl, C.e.fc, fun z => Bool.noConfusion z, ⟨C.e.rh.dp, C.e.rh.un⟩, C.e.hu, fun z => Bool.noConfusion z, fun z => Bool.noConfusion z, fun _ => ⟨rfl, p.1, p.2, e, n, ct.hp, ⟨q, ct.hot, ct.hq⟩, ea, ⟨ct.z.1, ct.z.2.1⟩, ct.flds, if_pos rfl, rfl⟩, C.e.g.cur hm p.1 e⟩, fun z => Bool.noConfusion z, C.stk, C.fr, C.se, C.kd, fun z => Bool.noConfusion z, fun _ => .inl fun _ _ _ _ z => z⟩
theorem endOff {Φ B : Hp} {D : SEnds} {D' : Ends} (k : EndOk X L W Φ B D D') (i : Nat) {a2 : Addr} {pn2 : List (Addr × Obj)} : EndOk (X.suite a2 pn2) L (fun _ _ _ _ => False) Φ B (D.off i) { nx := fun σ' H' => D'.nx (σ'.set i none) H', rt := D'.rt, bk := fun σ' H' => D'.bk (σ'.set i none) H', ct := fun σ' H' => D'.ct (σ'.set i none) H' } :=
  ⟨fun ρ2 μ2 σ2 H2 B2 l2 S2 sl2 q2 => k.nx _ μ2 _ H2 B2 l2 S2 (sl2.wipe1 i) q2, k.rt, fun ρ2 μ2 σ2 H2 B2 l2 S2 sl2 q2 => k.bk _ μ2 _ H2 B2 l2 S2 (sl2.wipe1 i) q2, fun ρ2 μ2 σ2 H2 B2 l2 S2 sl2 q2 => k.ct _ μ2 _ H2 B2 l2 S2 (sl2.wipe1 i) q2, fun _ _ _ _ _ _ _ _ _ z => z.elim⟩
theorem nm_of (C : SCtx G Γ L c X W) {h : Nat} {x : Str} (hx : G.ex h = some x) (hg : glb c.sc x = true) (hp : plainN x = true) : Names X x (.ref (L.exc h)) := ⟨C.e.gl x hg, (plainN_ok hp).1, .inl (C.e.g.ex h x hx).mg_⟩
theorem lx_of (C : SCtx G Γ L c X W) {n : Str} (hl : isLoc c.sc n = true) : X.env.kindOf n = some .local := by
  show X.env.scope.names.lookup n = some .local
  rw [C.se]
  unfold isLoc at hl
  exact of_decide_eq_true hl
theorem st_try1 (C : SCtx G Γ L c X W) (hh : c.hot = false) {body suite : List Sx} {h : Nat} {x : Str} {np pos' : Pos} {b ss : List Stmt} {s0 : Stmt} (hx : G.ex h = some x) (hg : glb c.sc x = true) (hp : plainN x = true)
    (hb : ∀ X W, SCtx G Γ L c X W → SsOk X L W b (denSs G Γ body)) (hs : ∀ X W, SCtx G Γ L { c with hot := true, as := false } X W → SsOk X L W (s0 :: ss) (denSs G Γ suite)) :
    SOk X L W (.Try b [.ExceptHandler (some (.Name x np)) none (s0 :: ss) pos'] [] [] pos) (denS G Γ (.try1 body h suite)) := fun Φ B μ H σ ρ D D' S sl q k => by
  refine sS_of (ps_tryR (tb := fun W' D σ H => ∀ pn xe, TakesR (X.tr pn xe) W' → PassesOwn (model X.prog X.w) X.A X.env xe → (∀ hd : Option Value, PassesOwnAt (model X.prog X.w) (X.A.mark hd) X.A X.env xe) → sSs (X.tr pn xe) b D σ H)
    C.stk C.fr (by rw [C.e.N]; exact C.e.nd) (C.pq hh) (C.e.tk hh) (fun W' pn xe tk pa pq => ⟨fun pins s σ H D I z => z pn xe tk pa pq pins s I⟩)
    (.un (ts := fun a A d k D σ H => ∀ p q pn, Caught X a A d k p q pn → TakesR (L2H.suiteX X a pn) W → sSs (L2H.suiteX X a pn) (s0 :: ss) D σ H) (nm_of C hx hg hp) (fun a A d k p q pn ct tk => ⟨fun pins s σ H D I z => z p q pn ct tk pins s I⟩) .nil)) ?_
  intro pn xe tk pa pq
  refine hb _ _ (C.tr hh tk pa pq) Φ B μ H σ ρ _ D' S sl q ⟨k.nx, k.rt, k.bk, k.ct, fun a ρ' μ' σ' H' B' l S' sl' hq => wBody_xv fun kk hk => ?_⟩
  obtain ⟨⟨n, m, e1, e2⟩, hq⟩ := hq
  refine ⟨subX G (a % 1000) h, C.e.g.su _ h n m e1 e2, fun hc a' na p q2 pn2 ct tk2 => ?_, fun hc => ?_⟩
  · rw [if_pos hc] at hq
    exact hs _ _ (C.un ct tk2) Φ B' μ' H' σ' ρ' _ D' S' sl' hq (endUp (k.mono l) hk.mp)
  · rw [if_neg (by rw [hc]; exact Bool.false_ne_true)] at hq
    exact w_out hk (k.ex a ρ' μ' σ' H' B' l S' sl' hq)
theorem st_tryA (C : SCtx G Γ L c X W) (hh : c.hot = false) {body suite : List Sx} {h i : Nat} {x n : Str} {np pos' : Pos} {b ss : List Stmt} {s0 : Stmt} (hx : G.ex h = some x) (hg : glb c.sc x = true) (hp : plainN x = true)
    (hN : c.N[i]? = some n) (hl : isLoc c.sc n = true) (hm : c.m ≤ 999998)
    (hb : ∀ X W, SCtx G Γ L c X W → SsOk X L W b (denSs G Γ body)) (hs : ∀ Γ X W, SCtx G Γ L { c with hot := true, as := true } X W → SsOk X L W (s0 :: ss) (denSs G Γ suite)) :
    SOk X L W (.Try b [.ExceptHandler (some (.Name x np)) (some n) (s0 :: ss) pos'] [] [] pos) (denS G Γ (.tryA body h i suite)) := fun Φ B μ H σ ρ D D' S sl q k => by
  refine sS_of (ps_tryR (tb := fun W' D σ H => ∀ pn xe, TakesR (X.tr pn xe) W' → PassesOwn (model X.prog X.w) X.A X.env xe → (∀ hd : Option Value, PassesOwnAt (model X.prog X.w) (X.A.mark hd) X.A X.env xe) → sSs (X.tr pn xe) b D σ H)
    C.stk C.fr (by rw [C.e.N]; exact C.e.nd) (C.pq hh) (C.e.tk hh) (fun W' pn xe tk pa pq => ⟨fun pins s σ H D I z => z pn xe tk pa pq pins s I⟩)
    (.as (i := i) (n := n) (ts := fun a A d k D σ H => ∀ p q pn, Caught X a A d k p q pn → sSs (X.suite a pn) (s0 :: ss) D σ H) (nm_of C hx hg hp) (by rw [C.e.N]; exact hN) (lx_of C hl) (fun a A d k p q pn ct => ⟨fun pins s σ H D I z => z p q pn ct pins s I⟩) .nil)) ?_
  intro pn xe tk pa pq
  refine hb _ _ (C.tr hh tk pa pq) Φ B μ H σ ρ _ D' S sl q ⟨k.nx, k.rt, k.bk, k.ct, fun a ρ' μ' σ' H' B' l S' sl' hq => wBody_xv fun kk hk => ?_⟩
  obtain ⟨⟨n1, m1, e1, e2⟩, hq⟩ := hq
  refine ⟨subX G (a % 1000) h, C.e.g.su _ h n1 m1 e1 e2, fun hc a' na p q2 pn2 ct => ?_, fun hc => ?_⟩
  · rw [if_pos hc] at hq
    have q3 := hq a' (S'.fresh na)
    rw [← ct.at_] at q3
    exact hs _ _ _ (C.as_ hm ct e1) Φ B' μ' H' _ _ _ _ S' (sl'.set i (show Tr X.K B' (.ref a') (.own p.1) from ct.at_ ▸ rfl)) q3 (endOff (k.mono l) i)
  · rw [if_neg (by rw [hc]; exact Bool.false_ne_true)] at hq
    exact w_out hk (k.ex a ρ' μ' σ' H' B' l S' sl' hq)
theorem st_try2 (C : SCtx G Γ L c X W) (hh : c.hot = false) {body suite suite2 : List Sx} {h h2 : Nat} {x x2 : Str} {np pos' np2 pos2 : Pos} {b ss tt : List Stmt} {s0 t0 : Stmt} (hx : G.ex h = some x) (hg : glb c.sc x = true) (hp : plainN x = true) (hx2 : G.ex h2 = some x2) (hg2 : glb c.sc x2 = true) (hp2 : plainN x2 = true)
    (hb : ∀ X W, SCtx G Γ L c X W → SsOk X L W b (denSs G Γ body)) (hs : ∀ X W, SCtx G Γ L { c with hot := true, as := false } X W → SsOk X L W (s0 :: ss) (denSs G Γ suite)) (hs2 : ∀ X W, SCtx G Γ L { c with hot := true, as := false } X W → SsOk X L W (t0 :: tt) (denSs G Γ suite2)) :
    SOk X L W (.Try b [.ExceptHandler (some (.Name x np)) none (s0 :: ss) pos', .ExceptHandler (some (.Name x2 np2)) none (t0 :: tt) pos2] [] [] pos) (denS G Γ (.try2 body h suite h2 suite2)) := fun Φ B μ H σ ρ D D' S sl q k => by
  refine sS_of (ps_tryR (tb := fun W' D σ H => ∀ pn xe, TakesR (X.tr pn xe) W' → PassesOwn (model X.prog X.w) X.A X.env xe → (∀ hd : Option Value, PassesOwnAt (model X.prog X.w) (X.A.mark hd) X.A X.env xe) → sSs (X.tr pn xe) b D σ H)
    C.stk C.fr (by rw [C.e.N]; exact C.e.nd) (C.pq hh) (C.e.tk hh) (fun W' pn xe tk pa pq => ⟨fun pins s σ H D I z => z pn xe tk pa pq pins s I⟩)
    (.un (ts := fun a A d k D σ H => ∀ p q pn, Caught X a A d k p q pn → TakesR (L2H.suiteX X a pn) W → sSs (L2H.suiteX X a pn) (s0 :: ss) D σ H) (nm_of C hx hg hp) (fun a A d k p q pn ct tk => ⟨fun pins s σ H D I z => z p q pn ct tk pins s I⟩) 
    (.un (ts := fun a A d k D σ H => ∀ p q pn, Caught X a A d k p q pn → TakesR (L2H.suiteX X a pn) W → sSs (L2H.suiteX X a pn) (t0 :: tt) D σ H) (nm_of C hx2 hg2 hp2) (fun a A d k p q pn ct tk => ⟨fun pins s σ H D I z => z p q pn ct tk pins s I⟩) .nil))) ?_
  intro pn xe tk pa pq
  refine hb _ _ (C.tr hh tk pa pq) Φ B μ H σ ρ _ D' S sl q ⟨k.nx, k.rt, k.bk, k.ct, fun a ρ' μ' σ' H' B' l S' sl' hq => wBody_xv fun kk hk => ?_⟩
  obtain ⟨⟨n, m, m2, e1, e2, e3⟩, hq⟩ := hq
  refine ⟨subX G (a % 1000) h, C.e.g.su _ h n m e1 e2, fun hc a' na p q2 pn2 ct tk2 => ?_, fun hc => ?_⟩
  · rw [if_pos hc] at hq
    exact hs _ _ (C.un ct tk2) Φ B' μ' H' σ' ρ' _ D' S' sl' hq (endUp (k.mono l) hk.mp)
  rw [if_neg (by rw [hc]; exact Bool.false_ne_true)] at hq
  refine ⟨subX G (a % 1000) h2, C.e.g.su _ h2 n m2 e1 e3, fun hc a' na p q2 pn2 ct tk2 => ?_, fun hc => ?_⟩
  · rw [if_pos hc] at hq
    exact hs2 _ _ (C.un ct tk2) Φ B' μ' H' σ' ρ' _ D' S' sl' hq (endUp (k.mono l) hk.mp)
  · rw [if_neg (by rw [hc]; exact Bool.false_ne_true)] at hq
    exact w_out hk (k.ex a ρ' μ' σ' H' B' l S' sl' hq)
theorem st_tryB (C : SCtx G Γ L c X W) (hh : c.hot = false) {body suite suite2 : List Sx} {h h2 i i2 : Nat} {x x2 n n2 : Str} {np pos' np2 pos2 : Pos} {b ss tt : List Stmt} {s0 t0 : Stmt} (hx : G.ex h = some x) (hg : glb c.sc x = true) (hp : plainN x = true) (hx2 : G.ex h2 = some x2) (hg2 : glb c.sc x2 = true) (hp2 : plainN x2 = true)
    (hN : c.N[i]? = some n) (hl : isLoc c.sc n = true) (hN2 : c.N[i2]? = some n2) (hl2 : isLoc c.sc n2 = true) (hm : c.m ≤ 999998)
    (hb : ∀ X W, SCtx G Γ L c X W → SsOk X L W b (denSs G Γ body)) (hs : ∀ Γ X W, SCtx G Γ L { c with hot := true, as := true } X W → SsOk X L W (s0 :: ss) (denSs G Γ suite)) (hs2 : ∀ Γ X W, SCtx G Γ L { c with hot := true, as := true } X W → SsOk X L W (t0 :: tt) (denSs G Γ suite2)) :
    SOk X L W (.Try b [.ExceptHandler (some (.Name x np)) (some n) (s0 :: ss) pos', .ExceptHandler (some (.Name x2 np2)) (some n2) (t0 :: tt) pos2] [] [] pos) (denS G Γ (.tryB body h i suite h2 i2 suite2)) := fun Φ B μ H σ ρ D D' S sl q k => by
  refine sS_of (ps_tryR (tb := fun W' D σ H => ∀ pn xe, TakesR (X.tr pn xe) W' → PassesOwn (model X.prog X.w) X.A X.env xe → (∀ hd : Option Value, PassesOwnAt (model X.prog X.w) (X.A.mark hd) X.A X.env xe) → sSs (X.tr pn xe) b D σ H)
    C.stk C.fr (by rw [C.e.N]; exact C.e.nd) (C.pq hh) (C.e.tk hh) (fun W' pn xe tk pa pq => ⟨fun pins s σ H D I z => z pn xe tk pa pq pins s I⟩)
    (.as (i := i) (n := n) (ts := fun a A d k D σ H => ∀ p q pn, Caught X a A d k p q pn → sSs (X.suite a pn) (s0 :: ss) D σ H) (nm_of C hx hg hp) (by rw [C.e.N]; exact hN) (lx_of C hl) (fun a A d k p q pn ct => ⟨fun pins s σ H D I z => z p q pn ct pins s I⟩) 
    (.as (i := i2) (n := n2) (ts := fun a A d k D σ H => ∀ p q pn, Caught X a A d k p q pn → sSs (X.suite a pn) (t0 :: tt) D σ H) (nm_of C hx2 hg2 hp2) (by rw [C.e.N]; exact hN2) (lx_of C hl2) (fun a A d k p q pn ct => ⟨fun pins s σ H D I z => z p q pn ct pins s I⟩) .nil))) ?_
  intro pn xe tk pa pq
  refine hb _ _ (C.tr hh tk pa pq) Φ B μ H σ ρ _ D' S sl q ⟨k.nx, k.rt, k.bk, k.ct, fun a ρ' μ' σ' H' B' l S' sl' hq => wBody_xv fun kk hk => ?_⟩
  obtain ⟨⟨n1, m1, m2, e1, e2, e3⟩, hq⟩ := hq
  refine ⟨subX G (a % 1000) h, C.e.g.su _ h n1 m1 e1 e2, fun hc a' na p q2 pn2 ct => ?_, fun hc => ?_⟩
  · rw [if_pos hc] at hq
    have q3 := hq a' (S'.fresh na)
    rw [← ct.at_] at q3
    exact hs _ _ _ (C.as_ hm ct e1) Φ B' μ' H' _ _ _ _ S' (sl'.set i (show Tr X.K B' (.ref a') (.own p.1) from ct.at_ ▸ rfl)) q3 (endOff (k.mono l) i)
  rw [if_neg (by rw [hc]; exact Bool.false_ne_true)] at hq
  refine ⟨subX G (a % 1000) h2, C.e.g.su _ h2 n1 m2 e1 e3, fun hc a' na p q2 pn2 ct => ?_, fun hc => ?_⟩
  · rw [if_pos hc] at hq
    have q3 := hq a' (S'.fresh na)
    rw [← ct.at_] at q3
    exact hs2 _ _ _ (C.as_ hm ct e1) Φ B' μ' H' _ _ _ _ S' (sl'.set i2 (show Tr X.K B' (.ref a') (.own p.1) from ct.at_ ▸ rfl)) q3 (endOff (k.mono l) i2)
  · rw [if_neg (by rw [hc]; exact Bool.false_ne_true)] at hq
    exact w_out hk (k.ex a ρ' μ' σ' H' B' l S' sl' hq)
theorem ss_nil : SsOk X L W [] (denSs G Γ []) := fun Φ B μ H σ ρ D D' S sl q k => sSs_of pss_nil (k.nx ρ μ σ H B (Same.refl _) S sl q)
theorem ss_cons {s : Sx} {ss : List Sx} {st : Stmt} {sts : List Stmt} (h : SOk X L W st (denS G Γ s)) (hs : SsOk X L W sts (denSs G Γ ss)) : SsOk X L W (st :: sts) (denSs G Γ (s :: ss)) := fun Φ B μ H σ ρ D D' S sl q k => by
  refine sSs_of (pss_cons ps_s pss_s) ?_
  exact h Φ B μ H σ ρ { D with nx := fun ρ' μ' => denSs G Γ ss D ρ' μ' } { D' with nx := sSs X sts D' } S sl q ⟨fun ρ' μ' σ' H' B' l S' sl' q' => hs Φ B' μ' H' σ' ρ' D D' S' sl' q' (k.mono l), k.rt, k.bk, k.ct, k.ex⟩
theorem ss_wk {ss : List Sx} {sts : List Stmt} (hs : SsOk X L W sts (denSs G Γ ss)) : SsOk X L W sts (denSs G Γ (.wk :: ss)) := fun Φ B μ H σ ρ D D' S sl q k => by
  obtain ⟨ρ', μ', wk, q⟩ := q
  obtain ⟨B', l, S', sl'⟩ := wk.ok S sl
  exact hs Φ B' μ' H σ ρ' D D' S' sl' q (k.mono l)
end
end Rh

namespace Rh
open PySem PySem.Spec PyProof.Rows L2
section
variable {L : Lay} {G : Tab} {Γ : Nat → TSp}
/-! ## 22. All statements -/
def M4 (L : Lay) (G : Tab) (c : SC) (s : Sx) (st : Stmt) : Prop := chkS G c s st = true → ∀ (Γ : Nat → TSp) (X : Cx) (W : WX), SCtx G Γ L c X W → SOk X L W st (denS G Γ s)
def M5 (L : Lay) (G : Tab) (c : SC) (s : List Sx) (st : List Stmt) : Prop := chkSs G c s st = true → ∀ (Γ : Nat → TSp) (X : Cx) (W : WX), SCtx G Γ L c X W → SsOk X L W st (denSs G Γ s)
abbrev A4 (L : Lay) (G : Tab) (s : Sx) : Prop := ∀ c st, M4 L G c s st
abbrev A5 (L : Lay) (G : Tab) (s : List Sx) : Prop := ∀ c st, M5 L G c s st
theorem gEx_ok {h : Nat} {x : Str} (e : gEx G h x = true) : G.ex h = some x := by
  unfold gEx at e
  cases q : G.ex h with
  | none => rw [q] at e; cases e
  | some m =>
    rw [q] at e
    exact congrArg some (of_decide_eq_true e)
/-- what is made item by item is one word alone -/
theorem isC_no {c : SC} {e : Ex} {v : Expr} (h : chkE G c e v = true) (hv : isCompV v = true) (hn : (match e with | .comp .. => false | _ => true) = true := by rfl) : False := by
  cases v <;> first | (cases hv; done) | skip
  all_goals (cases e <;> first | (cases hn; done) | (unfold chkE at h; first | (cases h; done) | (split at h <;> first | (cases h; done) | contradiction)))
theorem y_asg (hcl : Hcl G) (hfl : Hfl G) {g : Tg} {e : Ex} : A4 L G (.asg g e) := by
  intro c st h Γ X W C
  unfold chkS at h
  split at h
  · rename_i tg v pos
    rw [Bool.and_eq_true, Bool.and_eq_true, Bool.and_eq_true] at h
    obtain ⟨⟨⟨h1, h2⟩, h3⟩, h0⟩ := h
    have he := (snd_E (L := L) (Γ := Γ) hcl hfl e c v h2 X W C.e).1
    cases g with
    | tup gs =>
      cases tg <;> first | cases h1 | skip
      have hv : isTupV v = false := by simpa [isTupE] using h3
      exact st_asgT C h1 hv he
    | nm i =>
      cases tg <;> first | cases h1 | skip
      rename_i x px
      simp only [chkG, Bool.and_eq_true, decide_eq_true_eq] at h1
      cases hcv : isCompV v with
      | false => exact st_asgN C h1.1 h1.2 he (sw_none hcv)
      | true =>
        cases e with
        | comp own vs g kk its cond elt =>
          unfold chkE at h2
          split at h2
          · simp only [Bool.and_eq_true, decide_eq_true_eq, Bool.not_eq_true'] at h2
            obtain ⟨⟨⟨⟨⟨⟨⟨g1, g2⟩, g3⟩, g4⟩, g5⟩, g6⟩, g7⟩, _⟩ := h2
            have g8 : c.hot = false := by simpa [hcv] using h0
            exact st_comp C g8 h1.1 h1.2 g5 g6 (it_chk (snd_A3 hcl hfl its) g1 X W C.e) (comp_parts C.e g2 g7 (if_chk (snd_E hcl hfl cond) g3) fun X W C => (snd_E hcl hfl elt _ _ g4 X W C).1)
          · cases h2
        | _ => exact (isC_no h2 hcv).elim
  · cases h
section
variable (hcl : Hcl G) (hfl : Hfl G)
include hcl hfl
theorem y_par {i j : Nat} {a b : Ex} : A4 L G (.par i j a b) := by
  intro c st h Γ X W C
  have s1 := fun c e v => snd_E (L := L) (Γ := Γ) hcl hfl e c v
  have s2 := (snd_all (L := L) (Γ := Γ) hcl hfl).2.1
  unfold chkS at h
  split at h
  · simp only [Bool.and_eq_true, decide_eq_true_eq, Bool.not_eq_true'] at h
    obtain ⟨⟨⟨⟨⟨h1, h2⟩, h3⟩, h4⟩, h5⟩, hh⟩ := h
    have ha := s1 c a _ h4 X W C.e
    have hb := s1 c b _ h5 X W C.e
    exact st_par C hh h1 h2 h3 ha.1 ha.2 hb.1 hb.2
  · cases h
theorem y_asgF {d i : Nat} {o e : Ex} : A4 L G (.asgF d i o e) := by
  intro c st h Γ X W C
  have s1 := fun c e v => snd_E (L := L) (Γ := Γ) hcl hfl e c v
  have s2 := (snd_all (L := L) (Γ := Γ) hcl hfl).2.1
  unfold chkS at h
  split at h
  · simp only [Bool.and_eq_true, decide_eq_true_eq, Bool.not_eq_true'] at h
    obtain ⟨⟨⟨h1, h2⟩, h3⟩, h4⟩ := h
    exact st_asgF C h3 h4 (hfl d _ (List.mem_of_getElem? h4)) (s1 c o _ h1 X W C.e).1 (s1 c e _ h2 X W C.e).1
  · cases h
theorem y_asgI {o i e : Ex} : A4 L G (.asgI o i e) := by
  intro c st h Γ X W C
  have s1 := fun c e v => snd_E (L := L) (Γ := Γ) hcl hfl e c v
  have s2 := (snd_all (L := L) (Γ := Γ) hcl hfl).2.1
  unfold chkS at h
  split at h
  · simp only [Bool.and_eq_true, decide_eq_true_eq, Bool.not_eq_true'] at h
    exact st_asgI C (s1 c o _ h.1.1 X W C.e).1 (s1 c i _ h.1.2 X W C.e).1 (s1 c i _ h.1.2 X W C.e).2 (s1 c e _ h.2 X W C.e).1
  · cases h
theorem y_aug {i : Nat} {op : Operator} {e : Ex} : A4 L G (.aug i op e) := by
  intro c st h Γ X W C
  have s1 := fun c e v => snd_E (L := L) (Γ := Γ) hcl hfl e c v
  have s2 := (snd_all (L := L) (Γ := Γ) hcl hfl).2.1
  unfold chkS at h
  split at h
  · simp only [Bool.and_eq_true, decide_eq_true_eq, Bool.not_eq_true'] at h
    obtain ⟨⟨⟨h1, h2⟩, rfl⟩, h4⟩ := h
    exact st_aug C h1 h2 (s1 c e _ h4 X W C.e).1
  · cases h
theorem y_augI {op : Operator} {o i e : Ex} : A4 L G (.augI op o i e) := by
  intro c st h Γ X W C
  have s1 := fun c e v => snd_E (L := L) (Γ := Γ) hcl hfl e c v
  have s2 := (snd_all (L := L) (Γ := Γ) hcl hfl).2.1
  unfold chkS at h
  split at h
  · simp only [Bool.and_eq_true, decide_eq_true_eq, Bool.not_eq_true'] at h
    obtain ⟨⟨⟨rfl, h1⟩, h2⟩, h3⟩ := h
    exact st_augI C (s1 c o _ h1 X W C.e).1 (s1 c i _ h2 X W C.e).1 (s1 c i _ h2 X W C.e).2 (s1 c e _ h3 X W C.e).1
  · cases h
theorem y_ret {e : Ex} : A4 L G (.ret e) := by
  intro c st h Γ X W C
  have s1 := fun c e v => snd_E (L := L) (Γ := Γ) hcl hfl e c v
  have s2 := (snd_all (L := L) (Γ := Γ) hcl hfl).2.1
  unfold chkS at h
  split at h
  · exact st_ret (s1 c e _ h X W C.e).1
  · cases h
theorem y_retN  : A4 L G (.retN) := by
  intro c st h Γ X W C
  have s1 := fun c e v => snd_E (L := L) (Γ := Γ) hcl hfl e c v
  have s2 := (snd_all (L := L) (Γ := Γ) hcl hfl).2.1
  unfold chkS at h
  split at h
  · exact fun Φ B μ H σ ρ D D' S sl q k => sS_of ps_retN (k.rt.here S (show Tr X.K B .non .non from rfl) q)
  · cases h
theorem y_expr {e : Ex} : A4 L G (.expr e) := by
  intro c st h Γ X W C
  have s1 := fun c e v => snd_E (L := L) (Γ := Γ) hcl hfl e c v
  have s2 := (snd_all (L := L) (Γ := Γ) hcl hfl).2.1
  unfold chkS at h
  split at h
  · simp only [Bool.and_eq_true, decide_eq_true_eq, Bool.not_eq_true'] at h
    exact st_expr h.2 (s1 c e _ h.1 X W C.e).1
  · cases h
theorem y_ife {d : Ex} {a b : List Sx} (i1 : A5 L G a) (i2 : A5 L G b) : A4 L G (.ife d a b) := by
  intro c st h Γ X W C
  have s1 := fun c e v => snd_E (L := L) (Γ := Γ) hcl hfl e c v
  have s2 := (snd_all (L := L) (Γ := Γ) hcl hfl).2.1
  unfold chkS at h
  split at h
  · simp only [Bool.and_eq_true, decide_eq_true_eq, Bool.not_eq_true'] at h
    exact st_ife (s1 c d _ h.1.1 X W C.e).1 (i1 _ _ h.1.2 Γ X W C) (i2 _ _ h.2 Γ X W C)
  · cases h
theorem y_for {g : Tg} {k : ItK} {its : List Ex} {a : List Sx} (i1 : A5 L G a) : A4 L G (.for_ g k its a) := by
  intro c st h Γ X W C
  have s1 := fun c e v => snd_E (L := L) (Γ := Γ) hcl hfl e c v
  have s2 := (snd_all (L := L) (Γ := Γ) hcl hfl).2.1
  unfold chkS at h
  split at h
  · simp only [Bool.and_eq_true, decide_eq_true_eq, Bool.not_eq_true'] at h
    exact st_for C h.2 h.1.1.2 (s2 c k its _ _ h.1.1.1 X W C.e) (i1 _ _ h.1.2 Γ X W C)
  · cases h
theorem y_while {d : Ex} {a : List Sx} (i1 : A5 L G a) : A4 L G (.while_ d a) := by
  intro c st h Γ X W C
  have s1 := fun c e v => snd_E (L := L) (Γ := Γ) hcl hfl e c v
  have s2 := (snd_all (L := L) (Γ := Γ) hcl hfl).2.1
  unfold chkS at h
  split at h
  · simp only [Bool.and_eq_true, decide_eq_true_eq, Bool.not_eq_true'] at h
    exact st_while C h.2 (s1 c d _ h.1.1 X W C.e).1 (i1 _ _ h.1.2 Γ X W C)
  · cases h
theorem y_try1 {m : Nat} {a b : List Sx} (i1 : A5 L G a) (i2 : A5 L G b) : A4 L G (.try1 a m b) := by
  intro c st h Γ X W C
  have s1 := fun c e v => snd_E (L := L) (Γ := Γ) hcl hfl e c v
  have s2 := (snd_all (L := L) (Γ := Γ) hcl hfl).2.1
  unfold chkS at h
  split at h
  · simp only [Bool.and_eq_true, decide_eq_true_eq, Bool.not_eq_true'] at h
    obtain ⟨⟨⟨⟨⟨h1, h2⟩, h3⟩, h4⟩, h5⟩, hh⟩ := h
    exact st_try1 C hh (gEx_ok h1) h2 h3 (fun X W C => i1 _ _ h4 Γ X W C) (fun X W C => i2 _ _ h5 Γ X W C)
  · cases h
theorem y_tryA {m i : Nat} {a b : List Sx} (i1 : A5 L G a) (i2 : A5 L G b) : A4 L G (.tryA a m i b) := by
  intro c st h Γ X W C
  have s1 := fun c e v => snd_E (L := L) (Γ := Γ) hcl hfl e c v
  have s2 := (snd_all (L := L) (Γ := Γ) hcl hfl).2.1
  unfold chkS at h
  split at h
  · simp only [Bool.and_eq_true, decide_eq_true_eq, Bool.not_eq_true'] at h
    obtain ⟨⟨⟨⟨⟨⟨⟨⟨h1, h2⟩, h3⟩, h4⟩, h5⟩, h6⟩, h7⟩, h8⟩, hh⟩ := h
    exact st_tryA C hh (gEx_ok h1) h2 h3 h6 h7 h8 (fun X W C => i1 _ _ h4 Γ X W C) (fun Γ X W C => i2 _ _ h5 Γ X W C)
  · cases h
theorem y_try2 {m m2 : Nat} {a b b2 : List Sx} (i1 : A5 L G a) (i2 : A5 L G b) (i3 : A5 L G b2) : A4 L G (.try2 a m b m2 b2) := by
  intro c st h Γ X W C
  have s1 := fun c e v => snd_E (L := L) (Γ := Γ) hcl hfl e c v
  unfold chkS at h
  split at h
  · simp only [Bool.and_eq_true, decide_eq_true_eq, Bool.not_eq_true'] at h
    obtain ⟨⟨⟨⟨⟨⟨⟨⟨⟨h1, h2⟩, h3⟩, h4⟩, h5⟩, h6⟩, h7⟩, h8⟩, h9⟩, hh⟩ := h
    exact st_try2 C hh (gEx_ok h1) h2 h3 (gEx_ok h4) h5 h6 (fun X W C => i1 _ _ h7 Γ X W C) (fun X W C => i2 _ _ h8 Γ X W C) (fun X W C => i3 _ _ h9 Γ X W C)
  · cases h
theorem y_tryB {m m2 i i2 : Nat} {a b b2 : List Sx} (i1 : A5 L G a) (i2' : A5 L G b) (i3 : A5 L G b2) : A4 L G (.tryB a m i b m2 i2 b2) := by
  intro c st h Γ X W C
  unfold chkS at h
  split at h
  · simp only [Bool.and_eq_true, decide_eq_true_eq, Bool.not_eq_true'] at h
    obtain ⟨⟨⟨⟨⟨⟨⟨⟨⟨⟨⟨⟨⟨⟨h1, h2⟩, h3⟩, h4⟩, h5⟩, h6⟩, h7⟩, h8⟩, h9⟩, g1⟩, g2⟩, g3⟩, g4⟩, g5⟩, hh⟩ := h
    exact st_tryB C hh (gEx_ok h1) h2 h3 (gEx_ok h4) h5 h6 g1 g2 g3 g4 g5 (fun X W C => i1 _ _ h7 Γ X W C) (fun Γ X W C => i2' _ _ h8 Γ X W C) (fun Γ X W C => i3 _ _ h9 Γ X W C)
  · cases h
theorem y_raise {x : Nat} : A4 L G (.raise x) := by
  intro c st h Γ X W C
  have s1 := fun c e v => snd_E (L := L) (Γ := Γ) hcl hfl e c v
  have s2 := (snd_all (L := L) (Γ := Γ) hcl hfl).2.1
  unfold chkS at h
  split at h
  · simp only [Bool.and_eq_true, decide_eq_true_eq, Bool.not_eq_true'] at h
    obtain ⟨⟨⟨h1, h2⟩, h3⟩, h4⟩ := h
    exact st_raise C (gEx_ok h1) h2 h3 h4
  · cases h
theorem y_pass  : A4 L G (.pass) := by
  intro c st h Γ X W C
  have s1 := fun c e v => snd_E (L := L) (Γ := Γ) hcl hfl e c v
  have s2 := (snd_all (L := L) (Γ := Γ) hcl hfl).2.1
  unfold chkS at h
  split at h
  · exact fun Φ B μ H σ ρ D D' S sl q k => sS_of ps_pass (k.nx ρ μ σ H B (Same.refl _) S sl q)
  · cases h
theorem y_brk  : A4 L G (.brk) := by
  intro c st h Γ X W C
  have s1 := fun c e v => snd_E (L := L) (Γ := Γ) hcl hfl e c v
  have s2 := (snd_all (L := L) (Γ := Γ) hcl hfl).2.1
  unfold chkS at h
  split at h
  · exact fun Φ B μ H σ ρ D D' S sl q k => sS_of ps_break (k.bk ρ μ σ H B (Same.refl _) S sl q)
  · cases h
theorem y_cont  : A4 L G (.cont) := by
  intro c st h Γ X W C
  have s1 := fun c e v => snd_E (L := L) (Γ := Γ) hcl hfl e c v
  have s2 := (snd_all (L := L) (Γ := Γ) hcl hfl).2.1
  unfold chkS at h
  split at h
  · exact fun Φ B μ H σ ρ D D' S sl q k => sS_of ps_continue (k.ct ρ μ σ H B (Same.refl _) S sl q)
  · cases h
omit hcl hfl in
theorem y_wk : A4 L G .wk := by
  intro c st h
  unfold chkS at h
  cases h
omit hcl hfl in
theorem y_nil : A5 L G [] := by
  intro c st h Γ X W C
  unfold chkSs at h
  cases st with
  | nil => exact ss_nil
  | cons y ys => cases h
omit hcl hfl in
theorem y_cons {s : Sx} {ss : List Sx} (i1 : A4 L G s) (i2 : A5 L G ss) : A5 L G (s :: ss) := by
  intro c l h Γ X W C
  unfold chkSs at h
  split at h
  · exact ss_wk (i2 _ _ h Γ X W C)
  · split at h
    · cases h
    · rw [Bool.and_eq_true] at h
      exact ss_cons (i1 _ _ h.1 Γ X W C) (i2 _ _ h.2 Γ X W C)
theorem snd_S (s : Sx) : A4 L G s :=
  Sx.rec (motive_1 := A4 L G) (motive_2 := A5 L G) (fun _ _ => y_asg hcl hfl) (fun _ _ _ _ => y_par hcl hfl) (fun _ _ _ _ => y_asgF hcl hfl) (fun _ _ _ => y_asgI hcl hfl) (fun _ _ _ => y_aug hcl hfl) (fun _ _ _ _ => y_augI hcl hfl) (fun _ => y_ret hcl hfl) (y_retN hcl hfl) (fun _ => y_expr hcl hfl) (fun _ _ _ => y_ife hcl hfl)
    (fun _ _ _ _ => y_for hcl hfl) (fun _ _ => y_while hcl hfl) (fun _ _ _ => y_try1 hcl hfl) (fun _ _ _ _ => y_tryA hcl hfl) (fun _ _ _ _ _ => y_try2 hcl hfl) (fun _ _ _ _ _ _ _ => y_tryB hcl hfl) (fun _ => y_raise hcl hfl) (y_pass hcl hfl) (y_brk hcl hfl) (y_cont hcl hfl) y_wk y_nil (fun _ _ => y_cons) s
theorem snd_Ss : ∀ s : List Sx, A5 L G s
  | [] => y_nil
  | s :: ss => y_cons (snd_S hcl hfl s) (snd_Ss ss)
theorem snd_st : (∀ c s st, M4 L G c s st) ∧ (∀ c s st, M5 L G c s st) := ⟨fun c s st => snd_S hcl hfl s c st, fun c s st => snd_Ss hcl hfl s c st⟩
end

/-! ## 23. A def keeps its promise -/
def startT (n : Nat) (ts : List T) : Ro := ts.map some ++ List.replicate (n - ts.length) none
def fin_ (R : RP) : RP := fun t μ => ∃ t' μ', WkV t μ t' μ' ∧ R t' μ'
def bodyD (R : RP) (F : XP) : SEnds := { nx := fun _ μ => fin_ R .non μ, rt := fin_ R, bk := fun _ _ => False, ct := fun _ _ => False, ex := fun c _ μ => F c μ }
theorem start_ok {K : PySem.W.Frag} {B : Hp} {N : List Str} {vs : List V} {ts : List T} (r : Trs K B vs ts) : Slots K B (L2.start N vs) (startT N.length ts) := by
  have hl := r.length
  refine ⟨by simp [L2.start, startT, hl], fun i t e => ?_⟩
  unfold startT at e
  unfold L2.start
  by_cases hi : i < ts.length
  · rw [List.getElem?_append_left (by simpa using hi), List.getElem?_map] at e
    rw [List.getElem?_append_left (by rw [List.length_map]; omega), List.getElem?_map]
    cases q : ts[i]? with
    | none => rw [q] at e; cases e
    | some u =>
      rw [q] at e
      cases e
      obtain ⟨v, h1, h2⟩ := r.get q
      exact ⟨v, by rw [h1]; rfl, h2⟩
  · rw [List.getElem?_append_right (by simpa using hi), List.getElem?_replicate] at e
    split at e <;> cases e
theorem vi_of {sc : Scope} {y : Str} (hy : vis sc y = true) : Vis sc y := by
  unfold vis at hy
  unfold Vis
  revert hy
  cases sc.names.lookup y with
  | none => intro z; cases z
  | some kd => cases kd <;> first | (intro _; exact .inl rfl) | (intro _; exact .inr (.inl rfl)) | (intro _; exact .inr (.inr rfl)) | (intro z; cases z)
theorem loc_of {sc : Scope} {y : Str} (hy : loc sc y = true) : L2.Loc sc y := by
  unfold loc at hy
  unfold L2.Loc
  revert hy
  cases sc.names.lookup y with
  | none => intro z; cases z
  | some kd => cases kd <;> first | (intro _; exact .inl rfl) | (intro _; exact .inr rfl) | (intro z; cases z)
theorem glb_of {sc : Scope} {y : Str} (hy : glb sc y = true) : sc.names.lookup y = some .globalImplicit := by
  unfold glb at hy
  revert hy
  cases sc.names.lookup y with
  | none => intro z; cases z
  | some kd => cases kd <;> first | (intro _; rfl) | (intro z; cases z)
theorem few_units {k : Nat} {u : Nat} (h : u + 16 * k + 200 < cLine) : u + 65 < cLine := by omega
theorem fn_okD {P : Program} {w : World} {K : PySem.W.Frag} {mg : Str → Option Value} {base : Heap} {x qual : Str} {st : Stmt} {f : Addr} {N ps : List Str} {k m np : Nat} {S' : TSp} {core : List Sx} {oc dV kV doc pm cdv ct : Value} {od an : Option Addr} {osl : Array (Option Value)}
    (hcl : ∀ f i d, G.fn f = some i → i.cls = some d → ∃ ci, G.cl d = some ci) (hfl : ∀ d f, f ∈ G.flds d → ∃ ci, G.cl d = some ci)
    (lk : K.lookup f = some ⟨oc, od, .func (PySem.W.fnOf x qual (defArgs st) (defBody st) (defScope st) dV kV doc pm an cdv ct), osl⟩) (hcd : PySem.W.codeIn K cdv qual = true) (S : FnScope N ps (defScope st)) (hnp : ps.length = np) (hc : chkSs G ⟨N, defScope st, k, m, false, false⟩ core (defBody st) = true) (g : GOk G Γ L m P w K mg base)
    (body : ∀ ts μ F R, S' ts μ F R → denSs G Γ core (bodyD R F) (startT N.length ts) μ) : FnOk P w K mg base (CXR P w) (k + 1) f (PySem.W.fnOf x qual (defArgs st) (defBody st) (defScope st) dV kV doc pm an cdv ct) ps (spOf K L np S') := by
  refine fn_of lk hcd S (fun vs H Q E h => h.1.trans hnp.symm) fun A outer s H vs Q E hr h => ?_
  obtain ⟨hl, Φ, B, μ, ts, R, F, S0, r, q, kk, kx⟩ := h
  refine ⟨_, pss_s, ?_⟩
  have tk := takesR_of (X := cxOf (CXR P w) P w K mg base N qual (defScope st) f cdv A outer s H E) (E := E) rfl rfl rfl rfl
  have C : SCtx G Γ L ⟨N, defScope st, k, m, false, false⟩ (cxOf (CXR P w) P w K mg base N qual (defScope st) f cdv A outer s H E) (fun cls d _ H => E cls d H) :=
    ⟨⟨rfl, S.nd, fun y hy => vi_of hy, fun y hy => ⟨loc_of hy, .inl rfl⟩, fun y hy => glb_of hy, fun y hy => hy, fun _ => hr, L2H.roomH_of hr, few_units hr.un, fun _ => rfl, fun _ => tk, fun z => Bool.noConfusion z, g⟩, fun _ => passes_of rfl, rfl, rfl, rfl, S.kind, fun _ => L2H.passesAt_of rfl, fun z => Bool.noConfusion z⟩
  refine (snd_st (L := L) hcl hfl).2 _ core _ hc Γ _ _ C Φ B μ H _ _ (bodyD R F) _ S0 (start_ok r) (body ts μ F R q) ⟨fun ρ' μ' σ' H' B' l S' _ h => ?_, fun v t H' B' μ' l S' r' h => ?_, fun _ _ _ _ _ _ _ _ h => h.elim, fun _ _ _ _ _ _ _ _ h => h.elim, fun cc ρ' μ' σ' H' B' l S' _ h => kx cc H' B' μ' l S' h⟩
  · obtain ⟨t', μ2, wk, h⟩ := h
    obtain ⟨B2, l2, S2, r2⟩ := wk.ok (v := .non) S' rfl
    exact kk _ t' H' B2 μ2 (l.trans l2) S2 r2 h
  · obtain ⟨t', μ2, wk, h⟩ := h
    obtain ⟨B2, l2, S2, r2⟩ := wk.ok S' r'
    exact kk _ t' H' B2 μ2 (l.trans l2) S2 r2 h
/-- a def that is called where an exception is handled -/
theorem fh_okD {P : Program} {w : World} {K : PySem.W.Frag} {mg : Str → Option Value} {base : Heap} {x qual : Str} {st : Stmt} {f : Addr} {N ps : List Str} {k m np : Nat} {S' : TSp} {core : List Sx} {oc dV kV doc pm cdv ct : Value} {od an : Option Addr} {osl : Array (Option Value)}
    (hcl : ∀ f i d, G.fn f = some i → i.cls = some d → ∃ ci, G.cl d = some ci) (hfl : ∀ d f, f ∈ G.flds d → ∃ ci, G.cl d = some ci) (hm : m ≤ 999998)
    (lk : K.lookup f = some ⟨oc, od, .func (PySem.W.fnOf x qual (defArgs st) (defBody st) (defScope st) dV kV doc pm an cdv ct), osl⟩) (hcd : PySem.W.codeIn K cdv qual = true) (S : FnScope N ps (defScope st)) (hnp : ps.length = np) (hc : chkSs G ⟨N, defScope st, k, m, true, true⟩ core (defBody st) = true) (g : GOk G Γ L m P w K mg base)
    (body : ∀ p a ts μ R, S' (.tup [.int (a : Nat), .own p] :: ts) μ noX R → denSs G (curG G Γ p a) core (bodyD R noX) (startT N.length ts) μ) : FhOk P w K mg base (k + 1) f (PySem.W.fnOf x qual (defArgs st) (defBody st) (defScope st) dV kV doc pm an cdv ct) ps (spH G K L np S') := by
  refine fh_of lk hcd S (fun p vs H Q h => h.1.trans hnp.symm) fun A outer s H vs Q p q hot room h => ?_
  obtain ⟨hl, a, c, Φ, B, μ, ts, R, ea, hz, hf, S0, r, qq, kk⟩ := h
  refine ⟨_, pss_s, ?_⟩
  have C : SCtx G (curG G Γ p.1 a) L ⟨N, defScope st, k, m, true, true⟩ ((L2H.cxH CN P w K mg base N qual (defScope st) f cdv A outer s H noE p).tr [p, q] noX') (fun _ _ _ _ => False) :=
    ⟨⟨rfl, S.nd, fun y hy => vi_of hy, fun y hy => ⟨loc_of hy, .inl rfl⟩, fun y hy => glb_of hy, fun y hy => hy, fun z => Bool.noConfusion z, room, few_units room.un, fun z => Bool.noConfusion z, fun z => Bool.noConfusion z,
      fun _ => ⟨rfl, p.1, p.2, a, c, List.mem_cons_self, ⟨q, hot, List.mem_cons_of_mem _ List.mem_cons_self⟩, ea, hz, hf, if_pos rfl, rfl⟩, g.cur hm p.1 a⟩, fun z => Bool.noConfusion z, rfl, rfl, rfl, S.kind, fun z => Bool.noConfusion z, fun _ => .inl fun _ _ _ _ z => z⟩
  refine (snd_st (L := L) hcl hfl).2 _ core _ hc _ _ _ C Φ B μ H _ _ (bodyD R noX) _ S0 (start_ok r) (body p.1 a ts μ R qq) ⟨fun ρ' μ' σ' H' B' l S' _ h => ?_, fun v t H' B' μ' l S' r' h => ?_, fun _ _ _ _ _ _ _ _ h => h.elim, fun _ _ _ _ _ _ _ _ h => h.elim, fun _ _ _ _ _ _ _ _ _ h => h.elim⟩
  · obtain ⟨t', μ2, wk, h⟩ := h
    obtain ⟨B2, l2, S2, r2⟩ := wk.ok (v := .non) S' rfl
    exact kk _ t' H' B2 μ2 (l.trans l2) S2 r2 h
  · obtain ⟨t', μ2, wk, h⟩ := h
    obtain ⟨B2, l2, S2, r2⟩ := wk.ok S' r'
    exact kk _ t' H' B2 μ2 (l.trans l2) S2 r2 h
/-- the law's own promise -/
def sLawT : TSp := fun ts _ _ R => ∃ ns : List Int, ts = [.scr (ns.map T.int)] ∧ ns.length ≤ 63 ∧ (∀ k ∈ ns, Builtin.Int.intBits k ≤ 1048576) ∧ ∀ μ', R (.bl true) μ'
def spLawT (K : PySem.W.Frag) : Sp := fun vs H Q _ => ∃ (a : Addr) (ns : List Int), vs = [.ref a] ∧ SqL K H a (ns.map V.int) ∧ ns.length ≤ 63 ∧ (∀ k ∈ ns, Builtin.Int.intBits k ≤ 1048576) ∧ ∀ H', Q (.bl true) H'
theorem law_sp {K : PySem.W.Frag} {vs : List V} {H : Hp} {Q : VK} {E : XK} (h : spLawT K vs H Q E) : spOf K L 1 sLawT vs H Q E := by
  obtain ⟨a, ns, rfl, hs, hl, hb, k⟩ := h
  refine ⟨rfl, fun _ => none, H, fun _ => none, [.scr (ns.map T.int)], fun t _ => t = .bl true, fun _ _ => False, ⟨Same.refl _, fun _ _ h => (nomatch h), fun _ _ h => (nomatch h)⟩, Trs.cons ⟨a, _, rfl, hs, Trs.of_ints ns⟩ Trs.nil, ⟨ns, rfl, hl, hb, fun _ => rfl⟩, fun v t H' B' μ' _ _ r e => ?_, fun _ _ _ _ _ _ h => h.elim⟩
  subst e
  obtain rfl := r
  exact k H'
end
end Rh

namespace Rh
open PySem PySem.Spec PyProof.Rows L2
/-! ## 24. From what the top has written to all defs -/
/-- a def as it stands, with what it binds -/
structure DefF (K : PySem.W.Frag) (i : FnI) (qual : Str) (st : Stmt) (f : Addr) (fd : FuncData) (ps : List Str) : Prop where
  ex : ∃ (oc : Value) (od : Option Addr) (dV kV doc pm : Value) (an : Option Addr) (cdv ct : Value) (osl : Array (Option Value)),
    fd = PySem.W.fnOf i.name qual (defArgs st) (defBody st) (defScope st) dV kV doc pm an cdv ct ∧ K.lookup f = some ⟨oc, od, .func fd, osl⟩ ∧ PySem.W.codeIn K cdv qual = true
  kp : PySem.W.keepIn K (.ref f) = true
  bi : ∀ nd, nd ≤ i.dfl.length → ∃ ds, Binds K fd ps ds ∧ Vals ((i.rest nd).map V.int) ds
section
variable {K : PySem.W.Frag} {i : FnI} {qual : Str} {st : Stmt} {f : Addr} {ps : List Str}
theorem def0 {oc : Value} {od an : Option Addr} {osl : Array (Option Value)} {kV doc pm cdv ct : Value} (hd : i.dfl = []) (l : K.lookup f = some ⟨oc, od, .func (PySem.W.fnOf i.name qual (defArgs st) (defBody st) (defScope st) .none kV doc pm an cdv ct), osl⟩)
    (c : PySem.W.codeIn K cdv qual = true) (k : PySem.W.keepIn K (.ref f) = true)
    (h : ∀ (kV doc pm : Value) (an : Option Addr) (cdv ct : Value) (us : List Value), us.length = ps.length → bindArgs (PySem.W.fnOf i.name qual (defArgs st) (defBody st) (defScope st) .none kV doc pm an cdv ct) ⟨us, []⟩ = pure (ps.zip us)) :
    DefF K i qual st f (PySem.W.fnOf i.name qual (defArgs st) (defBody st) (defScope st) .none kV doc pm an cdv ct) ps :=
  ⟨⟨oc, od, .none, kV, doc, pm, an, cdv, ct, osl, rfl, l, c⟩, k, fun nd hn => ⟨[], .all (h kV doc pm an cdv ct), by
    unfold FnI.rest
    rw [hd, List.drop_nil]
    exact .nil⟩⟩
theorem def1 {oc oc2 : Value} {od an od2 : Option Addr} {osl osl2 : Array (Option Value)} {kV doc pm cdv ct : Value} {Td : Addr} {d : Int} {n : Nat} {tk : Tok} (hd : i.dfl = [d]) (l : K.lookup f = some ⟨oc, od, .func (PySem.W.fnOf i.name qual (defArgs st) (defBody st) (defScope st) (.ref Td) kV doc pm an cdv ct), osl⟩)
    (c : PySem.W.codeIn K cdv qual = true) (k : PySem.W.keepIn K (.ref f) = true) (lt : K.lookup Td = some ⟨oc2, od2, .seq [Value.int d tk].toArray n, osl2⟩)
    (h0 : ∀ (T : Addr) (kV doc pm : Value) (an : Option Addr) (cdv ct : Value) (us its : List Value), us.length = ps.length → its.length = 1 → ∃ k, bindArgs (PySem.W.fnOf i.name qual (defArgs st) (defBody st) (defScope st) (.ref T) kV doc pm an cdv ct) ⟨us, []⟩ = seqItems? (.ref T) >>= k ∧ k (some its.toArray) = pure (ps.zip (us ++ [])))
    (h1 : ∀ (T : Addr) (kV doc pm : Value) (an : Option Addr) (cdv ct : Value) (us its : List Value), us.length + 1 = ps.length → its.length = 1 → ∃ k, bindArgs (PySem.W.fnOf i.name qual (defArgs st) (defBody st) (defScope st) (.ref T) kV doc pm an cdv ct) ⟨us, []⟩ = seqItems? (.ref T) >>= k ∧ k (some its.toArray) = pure (ps.zip (us ++ its))) :
    DefF K i qual st f (PySem.W.fnOf i.name qual (defArgs st) (defBody st) (defScope st) (.ref Td) kV doc pm an cdv ct) ps :=
  ⟨⟨oc, od, .ref Td, kV, doc, pm, an, cdv, ct, osl, rfl, l, c⟩, k, fun nd hn => by
    unfold FnI.rest
    rw [hd] at hn ⊢
    rcases Nat.le_one_iff_eq_zero_or_eq_one.mp hn with rfl | rfl
    · refine ⟨[], fun s us X hl => BindsTo.of_looks fun M => ?_, .nil⟩
      rw [List.append_nil] at hl
      obtain ⟨kk, e1, e2⟩ := h0 Td kV doc pm an cdv ct us [Value.int d tk] hl rfl
      rw [e1]
      exact looks_items X lt rfl (.of_pure e2)
    · refine ⟨[Value.int d tk], fun s us X hl => BindsTo.of_looks fun M => ?_, .cons ⟨tk, rfl⟩ .nil⟩
      rw [List.length_append] at hl
      obtain ⟨kk, e1, e2⟩ := h1 Td kV doc pm an cdv ct us [Value.int d tk] hl rfl
      rw [e1]
      exact looks_items X lt rfl (.of_pure e2)⟩
end
section
variable {G : Tab} {Γ : Nat → TSp} {L : Lay} {P : Program} {w : World} {K : PySem.W.Frag} {mg : Str → Option Value} {base : Heap}
/-- the text of the table is in order -/
structure TabOk (G : Tab) : Prop where
  hcl : ∀ f i d, G.fn f = some i → i.cls = some d → ∃ ci, G.cl d = some ci
  hfl : ∀ d f, f ∈ G.flds d → ∃ ci, G.cl d = some ci
/-- what the text's check says of a def -/
structure ChkF (G : Tab) (m : Nat) (i : FnI) (st : Stmt) (N ps : List Str) (core : List Sx) : Prop where
  S : FnScope N ps (defScope st)
  np : ps.length = i.np
  lv : 0 < i.lvl
  ck : chkSs G ⟨N, defScope st, i.lvl - 1, m, false, false⟩ core (defBody st) = true
theorem step (T : TabOk G) {m : Nat} {i : FnI} {st : Stmt} {N ps : List Str} {core : List Sx} {qual : Str} {f : Addr} {fd : FuncData} (g : GOk G Γ L m P w K mg base) (hi : G.fn m = some i) (hn' : G.fh m = none) (C : ChkF G m i st N ps core) (D : DefF K i qual st f fd ps)
    (body : ∀ ts μ F R, Γ m ts μ F R → denSs G Γ core (bodyD R F) (startT N.length ts) μ) (hg : i.cls = none → mg i.name = some (.ref f)) (hm : ∀ c, i.cls = some c → Meth K (L.addr c) i.name f) : GOk G Γ L (m + 1) P w K mg base :=
  ⟨fun n j hn e => by
      rcases Nat.lt_or_eq_of_le (Nat.le_of_lt_succ hn) with h | rfl
      · exact g.fn n j h e
      · rw [hi] at e
        cases e
        obtain ⟨oc, od, dV, kV, doc, pm, an, cdv, ct, osl, rfl, lk, hcd⟩ := D.ex
        refine ⟨f, _, ps, ?_, D.kp, D.bi, hg, hm⟩
        have := fn_okD T.hcl T.hfl lk hcd C.S C.np C.ck g body
        rwa [Nat.sub_add_cancel C.lv] at this, g.cl, g.ex, g.bl, g.con, g.fl, g.ki, g.kc, g.su, fun n j hn e => by
      rcases Nat.lt_or_eq_of_le (Nat.le_of_lt_succ hn) with h | rfl
      · exact g.fh n j h e
      · rw [hn'] at e
        cases e⟩
structure ChkH (G : Tab) (m : Nat) (i : FnI) (st : Stmt) (N ps : List Str) (core : List Sx) : Prop where
  S : FnScope N ps (defScope st)
  np : ps.length = i.np
  lv : 0 < i.lvl
  ck : chkSs G ⟨N, defScope st, i.lvl - 1, m, true, true⟩ core (defBody st) = true
theorem stepH (T : TabOk G) {m : Nat} (hm : m ≤ 999998) {i : FnI} {st : Stmt} {N ps : List Str} {core : List Sx} {qual : Str} {f : Addr} {fd : FuncData} (g : GOk G Γ L m P w K mg base) (hi : G.fh m = some i) (hn' : G.fn m = none) (hd : i.dfl = []) (C : ChkH G m i st N ps core) (D : DefF K i qual st f fd ps)
    (body : ∀ p a ts μ R, Γ m (.tup [.int (a : Nat), .own p] :: ts) μ noX R → denSs G (curG G Γ p a) core (bodyD R noX) (startT N.length ts) μ) (hg : mg i.name = some (.ref f)) : GOk G Γ L (m + 1) P w K mg base :=
  ⟨fun n j hn e => (by
      rcases Nat.lt_or_eq_of_le (Nat.le_of_lt_succ hn) with h | rfl
      · exact g.fn n j h e
      · rw [hn'] at e
        cases e), g.cl, g.ex, g.bl, g.con, g.fl, g.ki, g.kc, g.su, fun n j hn e => by
      rcases Nat.lt_or_eq_of_le (Nat.le_of_lt_succ hn) with h | rfl
      · exact g.fh n j h e
      · rw [hi] at e
        cases e
        obtain ⟨oc, od, dV, kV, doc, pm, an, cdv, ct, osl, rfl, lk, hcd⟩ := D.ex
        obtain ⟨ds, hb, hv⟩ := D.bi 0 (Nat.zero_le _)
        have none_ : ds = [] := by
          unfold FnI.rest at hv
          rw [hd] at hv
          cases hv
          rfl
        subst none_
        refine ⟨f, _, ps, ?_, D.kp, hb, hg⟩
        have := fh_okD T.hcl T.hfl hm lk hcd C.S C.np C.ck g body
        rwa [Nat.sub_add_cancel C.lv] at this⟩
theorem skip {m : Nat} (g : GOk G Γ L m P w K mg base) {n : Nat} (h : ∀ k, m ≤ k → k < n → G.fn k = none ∧ G.fh k = none) : GOk G Γ L n P w K mg base :=
  ⟨fun k j hn e => (by
      rcases Nat.lt_or_ge k m with q | q
      · exact g.fn k j q e
      · rw [(h k q hn).1] at e
        cases e), g.cl, g.ex, g.bl, g.con, g.fl, g.ki, g.kc, g.su, fun k j hn e => (by
      rcases Nat.lt_or_ge k m with q | q
      · exact g.fh k j q e
      · rw [(h k q hn).2] at e
        cases e)⟩
end
theorem walkT {l : PySem.W.OpenLaw} {k : Nat} {q : Program} {loose : List Str} {XP : (Str → Option Value) → Heap → Prop} {YP : World → Heap → Prop} {d : DefRec} {K : Params → PySem.W.Frag} {x : Str} (hn : l.most = some 63) (hdf : d.params.defaults = []) (hr : Room k callerA)
    (hY : ∀ (w : World) (h : Heap), YP w h → (K w.params).In h)
    (F : ∀ (w : World) (mg : Str → Option Value) (fa : Addr) (h : Heap), (K w.params).In h → h.Ns mainGlobals mg → mg d.name = some (.ref fa) →
      ∃ fd : FuncData, (∀ (s : Shared) (u : Value), BindsTo s fd ⟨[u], []⟩ [(x, u)]) ∧ ∀ base : Heap, (K w.params).In base → base.Ns mainGlobals mg → ∃ L, FnOk l.prog w (K w.params) mg base (CXR l.prog w) k fa fd [x] (spOf (K w.params) L 1 sLawT)) :
    PySem.W.WalkO q loose XP YP l.row.toRowW d [] (fun f vs => PySem.call f vs) :=
  L2.walk_ofB (n := 63) (x := x) (CX := fun w => CXR l.prog w) (sp := fun w => spLawT (K w.params)) hn (by decide) hdf hr hY (fun w mg fa h KX Gn hm => by
    obtain ⟨fd, hb, hF⟩ := F w mg fa h KX Gn hm
    exact ⟨fd, hb, fun base hK hN => by
      obtain ⟨L, hL⟩ := hF base hK hN
      exact hL.imp fun vs H Q E h => law_sp h⟩) (fun _ _ a ns hl hb _ hS => ⟨a, ns, rfl, hS, hl, hb, fun _ => rfl⟩) fun _ _ _ _ _ ⟨_, _, _, _, _, _, _, _, _, _, _, _, _, _, z⟩ => z
theorem kit_of {K : PySem.W.Frag} {A B : Addr} {b : Bool} (h1 : PySem.W.subIn K (.ref A) (.ref B) = some b) (h2 : PySem.W.subIn K (.ref A) (.ref A) = some true) (h3 : PySem.W.hasDictIn K B = true) (h4 : PySem.W.typeIn K (.ref B) = some (.type "type")) : PySem.W.kitOne K (.ref A) (.ref B) = some b := by
  unfold PySem.W.kitOne
  by_cases e : A = B
  · subst e
    rw [if_pos (by simp), ← h2, h1]
  · rw [if_neg (fun z => e (by simpa using z))]
    obtain ⟨cd, hc, _⟩ := PySem.W.any_some h3
    have e2 : ((PySem.W.clsIn K B).isSome && PySem.W.typeIn K (.ref B) == some (.type "type")) = true := by rw [hc, h4] <;> rfl
    show (if _ = true then PySem.W.subIn K (.ref A) (.ref B) else none) = _
    rw [if_pos e2]
    exact h1
theorem kit_ve {K : PySem.W.Frag} {A : Addr} (h1 : PySem.W.subIn K (.ref A) (.type "ValueError") = some true) : PySem.W.kitOne K (.ref A) (.type "ValueError") = some true := by
  unfold PySem.W.kitOne
  rw [if_neg (by intro z; cases z)]
  show (if PySem.W.kitMeta "ValueError" = true then PySem.W.subIn K (.ref A) (.type "ValueError") else none) = some true
  rw [if_pos (show PySem.W.kitMeta "ValueError" = true by decide +kernel)]
  exact h1
end Rh

namespace Rh
open PySem PySem.Spec PyProof.Rows L2
/-! ## 25. Tools for what a body means -/
section
variable {G : Tab} {Γ : Nat → TSp} {s : Sx} {r : List Sx} {D : SEnds} {ρ : Ro} {μ : Sto}
theorem e_cons (h : denS G Γ s { D with nx := fun ρ' μ' => denSs G Γ r D ρ' μ' } ρ μ) : denSs G Γ (s :: r) D ρ μ := h
theorem nil_den : denSs G Γ [] D ρ μ = D.nx ρ μ := rfl
theorem e_nil (h : D.nx ρ μ) : denSs G Γ [] D ρ μ := h
theorem xp_mk {n : Ro → Sto → Prop} {r : RP} {b c : Ro → Sto → Prop} {e : Nat → Ro → Sto → Prop} {ρ : Ro} : SEnds.xp ⟨n, r, b, c, e⟩ ρ = fun x μ => e x ρ μ := rfl
theorem fin_id {R : RP} {t : T} (h : R t μ) : fin_ R t μ := ⟨t, μ, .refl _ _, h⟩
theorem fin_sub {R : RP} {t : T} (μ' : Sto) (s : Sub μ' μ) (h : R t μ') : fin_ R t μ := ⟨t, μ', .drop s, h⟩
theorem Sub.set_none {p : Addr} {o : Ob} (h : μ p = Option.none) : Sub μ (μ.set p o) := fun q o' e => by
  unfold Sto.set
  split
  · rename_i z
    subst z
    rw [h] at e
    cases e
  · exact e
theorem e_ife {c : Ex} {a b : List Sx} (h : (den G Γ c).2 ρ μ (D.xp ρ) fun k μ1 => if k = true then denSs G Γ a D ρ μ1 else denSs G Γ b D ρ μ1) : denS G Γ (.ife c a b) D ρ μ := by
  rw [denS]
  exact ⟨D.nx, fun ρ' μ' h => ⟨ρ', μ', .refl _ _, h⟩, h⟩
theorem e_join {c : Ex} {a b : List Sx} (J : Ro → Sto → Prop) (hJ : ∀ ρ' μ', J ρ' μ' → D.nx ρ' μ') (h : (den G Γ c).2 ρ μ (D.xp ρ) fun k μ1 => if k = true then denSs G Γ a { D with nx := J } ρ μ1 else denSs G Γ b { D with nx := J } ρ μ1) : denS G Γ (.ife c a b) D ρ μ := by
  rw [denS]
  exact ⟨J, fun ρ' μ' h => ⟨ρ', μ', .refl _ _, hJ ρ' μ' h⟩, h⟩
theorem e_while {c : Ex} {body : List Sx} (I : Nat → Ro → Sto → Prop) (m : Nat) (h0 : I m ρ μ) (h : ∀ m ρ μ, I m ρ μ → (den G Γ c).2 ρ μ (D.xp ρ) fun k μ1 => if k = true then
    denSs G Γ body { D with nx := fun ρ2 μ2 => ∃ ρ3 μ3 m', Wk ρ2 μ2 ρ3 μ3 ∧ m' < m ∧ I m' ρ3 μ3, ct := fun ρ2 μ2 => ∃ ρ3 μ3 m', Wk ρ2 μ2 ρ3 μ3 ∧ m' < m ∧ I m' ρ3 μ3, bk := D.nx } ρ μ1 else D.nx ρ μ1) : denS G Γ (.while_ c body) D ρ μ := by
  rw [denS]
  exact ⟨I, ⟨m, h0⟩, h⟩
theorem set_self {p : Addr} {o : Ob} : (μ.set p o) p = some o := by unfold Sto.set; simp
theorem set_ne {p q : Addr} {o : Ob} (h : q ≠ p) : (μ.set p o) q = μ q := by unfold Sto.set; simp [h]
theorem set_set {p : Addr} {o o' : Ob} : (μ.set p o).set p o' = μ.set p o' := by
  funext q
  unfold Sto.set
  split <;> rfl
theorem set_same {p : Addr} {o : Ob} (h : μ p = some o) : μ.set p o = μ := by
  funext q
  unfold Sto.set
  split
  · rename_i z; subst z; exact h.symm
  · rfl
theorem set_comm {p q : Addr} {o o' : Ob} (h : p ≠ q) : (μ.set p o).set q o' = (μ.set q o').set p o := by
  funext x
  unfold Sto.set
  by_cases h1 : x = q <;> by_cases h2 : x = p <;> simp [h1, h2]
  · subst h1; subst h2; exact absurd rfl h
  · subst h1; intro z; exact absurd z h2
  · subst h2; intro z; exact absurd z h1
theorem nofr {p q : Addr} {o : Ob} (h : μ p = some o) (h2 : μ q = Option.none) : p ≠ q := fun z => by subst z; rw [h] at h2; cases h2
end
theorem iK_int_NoneType : (["int"] : List String).any (isT "NoneType") = false := by decide
theorem iK_int_bool : (["int"] : List String).any (isT "bool") = true := by decide
theorem iK_int_int : (["int"] : List String).any (isT "int") = true := by decide
theorem iK_int_str : (["int"] : List String).any (isT "str") = false := by decide
theorem iK_int_tuple : (["int"] : List String).any (isT "tuple") = false := by decide
theorem iK_int_list : (["int"] : List String).any (isT "list") = false := by decide
theorem iK_int_dict : (["int"] : List String).any (isT "dict") = false := by decide
theorem iK_bool_NoneType : (["bool"] : List String).any (isT "NoneType") = false := by decide
theorem iK_bool_bool : (["bool"] : List String).any (isT "bool") = true := by decide
theorem iK_bool_int : (["bool"] : List String).any (isT "int") = false := by decide
theorem iK_bool_str : (["bool"] : List String).any (isT "str") = false := by decide
theorem iK_bool_tuple : (["bool"] : List String).any (isT "tuple") = false := by decide
theorem iK_bool_list : (["bool"] : List String).any (isT "list") = false := by decide
theorem iK_bool_dict : (["bool"] : List String).any (isT "dict") = false := by decide
theorem iK_str_NoneType : (["str"] : List String).any (isT "NoneType") = false := by decide
theorem iK_str_bool : (["str"] : List String).any (isT "bool") = false := by decide
theorem iK_str_int : (["str"] : List String).any (isT "int") = false := by decide
theorem iK_str_str : (["str"] : List String).any (isT "str") = true := by decide
theorem iK_str_tuple : (["str"] : List String).any (isT "tuple") = false := by decide
theorem iK_str_list : (["str"] : List String).any (isT "list") = false := by decide
theorem iK_str_dict : (["str"] : List String).any (isT "dict") = false := by decide
theorem iK_list_NoneType : (["list"] : List String).any (isT "NoneType") = false := by decide
theorem iK_list_bool : (["list"] : List String).any (isT "bool") = false := by decide
theorem iK_list_int : (["list"] : List String).any (isT "int") = false := by decide
theorem iK_list_str : (["list"] : List String).any (isT "str") = false := by decide
theorem iK_list_tuple : (["list"] : List String).any (isT "tuple") = false := by decide
theorem iK_list_list : (["list"] : List String).any (isT "list") = true := by decide
theorem iK_list_dict : (["list"] : List String).any (isT "dict") = false := by decide
theorem iK_tuple_NoneType : (["tuple"] : List String).any (isT "NoneType") = false := by decide
theorem iK_tuple_bool : (["tuple"] : List String).any (isT "bool") = false := by decide
theorem iK_tuple_int : (["tuple"] : List String).any (isT "int") = false := by decide
theorem iK_tuple_str : (["tuple"] : List String).any (isT "str") = false := by decide
theorem iK_tuple_tuple : (["tuple"] : List String).any (isT "tuple") = true := by decide
theorem iK_tuple_list : (["tuple"] : List String).any (isT "list") = false := by decide
theorem iK_tuple_dict : (["tuple"] : List String).any (isT "dict") = false := by decide
theorem iK_dict_NoneType : (["dict"] : List String).any (isT "NoneType") = false := by decide
theorem iK_dict_bool : (["dict"] : List String).any (isT "bool") = false := by decide
theorem iK_dict_int : (["dict"] : List String).any (isT "int") = false := by decide
theorem iK_dict_str : (["dict"] : List String).any (isT "str") = false := by decide
theorem iK_dict_tuple : (["dict"] : List String).any (isT "tuple") = false := by decide
theorem iK_dict_list : (["dict"] : List String).any (isT "list") = false := by decide
theorem iK_dict_dict : (["dict"] : List String).any (isT "dict") = true := by decide
theorem is_non {μ : Sto} : isStr μ .non = some "NoneType" := rfl
theorem is_bl {μ : Sto} {b : Bool} : isStr μ (.bl b) = some "bool" := rfl
theorem is_int {μ : Sto} {i : Int} : isStr μ (.int i) = some "int" := rfl
theorem is_str {μ : Sto} {i : Str} : isStr μ (.str i) = some "str" := rfl
theorem is_tup {μ : Sto} {i : List T} : isStr μ (.tup i) = some "tuple" := rfl
theorem is_lst {μ : Sto} {i : List T} : isStr μ (.lst i) = some "list" := rfl
theorem is_own {μ : Sto} {p : Addr} : isStr μ (.own p) = match μ p with | some (.lst _) => some "list" | some (.dict _) => some "dict" | _ => Option.none := rfl
theorem at_nn {α : Type} {xs : List α} {i : Int} (h : 0 ≤ i) : atI xs i = xs[i.toNat]? := by
  unfold atI ixN
  rw [if_pos h]
  split
  · rfl
  · rename_i z
    rw [List.getElem?_eq_none (by omega)]
    rfl
theorem at_0 {α : Type} {xs : List α} : atI xs 0 = xs[0]? := at_nn (by decide)
theorem at_1 {α : Type} {xs : List α} : atI xs 1 = xs[1]? := at_nn (by decide)
theorem at_2 {α : Type} {xs : List α} : atI xs 2 = xs[2]? := at_nn (by decide)
theorem at_3 {α : Type} {xs : List α} : atI xs 3 = xs[3]? := at_nn (by decide)
theorem at_4 {α : Type} {xs : List α} : atI xs 4 = xs[4]? := at_nn (by decide)
theorem at_nat {α : Type} {xs : List α} {n : Nat} : atI xs (n : Int) = xs[n]? := at_nn (by omega)
theorem at_last {α : Type} {xs : List α} {y : α} : atI (xs ++ [y]) (-1) = some y := atI_last xs y
theorem at_map {α : Type} {xs : List α} {f : α → T} {i : Int} {v : α} (h : 0 ≤ i) (e : xs[i.toNat]? = some v) : atI (xs.map f) i = some (f v) := by
  rw [at_nn h, List.getElem?_map, e]
  rfl
theorem scr_inj {ns ms : List Int} : (T.scr (ns.map T.int) = T.scr (ms.map T.int)) = (ns = ms) := by
  apply propext
  constructor
  · intro h
    injection h with h
    exact (List.map_inj_right (fun _ _ e => by injection e)).mp h
  · intro h
    rw [h]
theorem cdiv_lit {i j : Int} (h : 0 < j) (h2 : j < 10000000000000000000000000000000000000000) : CDivW i j = True := eq_true ⟨h, Nat.lt_of_le_of_lt (m := 140) (by
  have : j.natAbs < 2 ^ 140 := Nat.lt_of_lt_of_le (by omega : j.natAbs < 10000000000000000000000000000000000000000) (by decide)
  exact Nat.le_of_lt ((Nat.log2_lt (by omega)).mpr this)) (by decide)⟩
theorem mul_litR {i j : Int} (h : 0 ≤ j) (h2 : j < 18446744073709551616) : MulOk i j = True := eq_true (.inl (.inr ⟨by omega, h2⟩))
theorem mul_litL {i j : Int} (h : 0 ≤ i) (h2 : i < 18446744073709551616) : MulOk i j = True := eq_true (.inl (.inl ⟨by omega, h2⟩))
end Rh

namespace Rh
open PySem PySem.Spec PyProof.Rows L2
/-! ## 26. How long numbers are -/
def Bt (n : Nat) (a : Int) : Prop := a.natAbs < 2 ^ n
theorem Bt.mono {m n : Nat} {a : Int} (h : Bt m a) (e : m ≤ n) : Bt n a := Nat.lt_of_lt_of_le h (Nat.pow_le_pow_right (by decide) e)
theorem Bt.mul {m n : Nat} {a b : Int} (h : Bt m a) (k : Bt n b) : Bt (m + n) (a * b) := by
  unfold Bt at *
  rw [Int.natAbs_mul, Nat.pow_add]
  exact Nat.mul_lt_mul'' h k
theorem Bt.add {n : Nat} {a b : Int} (h : Bt n a) (k : Bt n b) : Bt (n + 1) (a + b) := by
  unfold Bt at *
  have := Int.natAbs_add_le a b
  rw [Nat.pow_succ]
  omega
theorem Bt.neg {n : Nat} {a : Int} (h : Bt n a) : Bt n (-a) := by
  unfold Bt at *
  rwa [Int.natAbs_neg]
theorem Bt.sub {n : Nat} {a b : Int} (h : Bt n a) (k : Bt n b) : Bt (n + 1) (a - b) := by
  rw [Int.sub_eq_add_neg]
  exact h.add k.neg
theorem Bt.le {n : Nat} {a b : Int} (h : Bt n b) (h0 : 0 ≤ a) (h1 : a ≤ b) : Bt n a := by
  unfold Bt at *
  omega
theorem Bt.of_lt {n : Nat} {a b : Int} (h : Bt n b) (h0 : 0 ≤ a) (h1 : a < b) : Bt n a := h.le h0 (by omega)
theorem Bt.mod {n : Nat} {a b : Int} (h : Bt n b) (h0 : 0 < b) : Bt n (a % b) := h.of_lt (Int.emod_nonneg _ (by omega)) (Int.emod_lt_of_pos _ h0)
theorem Bt.div {n : Nat} {a b : Int} (h : Bt n a) (h0 : 0 ≤ a) (h1 : 0 ≤ b) : Bt n (a / b) := h.le (Int.ediv_nonneg h0 h1) (Int.ediv_le_self _ h0)
theorem Bt.log {n : Nat} {a : Int} (h : Bt n a) : a.natAbs.log2 ≤ n := by
  by_cases h0 : a.natAbs = 0
  · rw [h0]
    exact Nat.zero_le _
  · exact Nat.le_of_lt ((Nat.log2_lt h0).mpr h)
theorem Bt.log' {n : Nat} {a : Int} (h : Bt n a) (h0 : 0 < a) : a.natAbs.log2 < n := (Nat.log2_lt (by omega)).mpr h
theorem Bt.mulOk {m n : Nat} {a b : Int} (h : Bt m a) (k : Bt n b) (e : m + n < 1000000) : MulOk a b := .inr (by
  have := h.log
  have := k.log
  unfold CMulW
  omega)
theorem Bt.divOk {n : Nat} {b : Int} (k : Bt n b) (h0 : 0 < b) (e : n ≤ 9000) (a : Int) : CDivW a b := ⟨h0, Nat.lt_of_lt_of_le (k.log' h0) e⟩
theorem divLit {a b : Int} (h : (0 < b ∧ b.natAbs.log2 < 9000) := by decide) : CDivW a b := h
theorem Bt.gcd {n : Nat} {a b : Int} (h : Bt n a) (h2 : Bt n b) : Bt n (Int.gcd a b) := by
  unfold Bt at *
  have e : ((Int.gcd a b : Nat) : Int).natAbs = Nat.gcd a.natAbs b.natAbs := rfl
  rw [e]
  rcases Nat.eq_zero_or_pos a.natAbs with z | z
  · rw [z, Nat.gcd_zero_left]; exact h2
  · exact Nat.lt_of_le_of_lt (Nat.gcd_le_left _ z) h
theorem gcd_step {a b : Int} (ha : 0 ≤ a) (hb : 0 ≤ b) : Int.gcd b (a % b) = Int.gcd a b := by
  obtain ⟨x, rfl⟩ := Int.eq_ofNat_of_zero_le ha
  obtain ⟨y, rfl⟩ := Int.eq_ofNat_of_zero_le hb
  rw [← Int.natCast_emod]
  show Nat.gcd y (x % y) = Nat.gcd x y
  rw [Nat.gcd_comm, ← Nat.gcd_rec, Nat.gcd_comm]
theorem gcd_pos {a b : Int} (h : a ≠ 0 ∨ b ≠ 0) : 0 < (Int.gcd a b : Int) := by
  have : Int.gcd a b ≠ 0 := fun z => by
    rw [Int.gcd_eq_zero_iff] at z
    rcases h with h | h
    · exact h z.1
    · exact h z.2
  omega
/-- the cell of a script -/
def cel (ns : List Int) (k : Int) : Int := (ns[k.toNat]?).getD 0
/-! ## 27. Loops by places -/
section
variable {g : Tg} {body : SEnds → Ro → Sto → Prop} {us : List T} {gd : Sto → Prop} {D : SEnds} {ρ : Ro} {μ : Sto}
theorem for_idx (I : Nat → Ro → Sto → Prop) (h0 : I 0 ρ μ) (h1 : ∀ ρ μ, I us.length ρ μ → gd μ ∧ D.nx ρ μ) (h2 : ∀ k t ρ μ, us[k]? = some t → I k ρ μ → gd μ ∧ bindT g t ρ μ fun ρ' =>
    body { D with nx := fun ρ2 μ2 => ∃ ρ3 μ3, Wk ρ2 μ2 ρ3 μ3 ∧ I (k + 1) ρ3 μ3, ct := fun ρ2 μ2 => ∃ ρ3 μ3, Wk ρ2 μ2 ρ3 μ3 ∧ I (k + 1) ρ3 μ3, bk := D.nx } ρ' μ) : forD g body us gd D ρ μ := by
  refine ⟨fun r ρ μ => (r.length ≤ us.length ∧ r = us.drop (us.length - r.length)) ∧ I (us.length - r.length) ρ μ, ⟨⟨Nat.le_refl _, by simp⟩, by simpa using h0⟩, fun ρ μ h => h1 ρ μ (by simpa using h.2), fun t r ρ μ h => ?_⟩
  obtain ⟨⟨hl, hd⟩, hI⟩ := h
  simp only [List.length_cons] at hl hd hI
  have e1 : us[us.length - (r.length + 1)]? = some t := by
    have := congrArg (fun l : List T => l[0]?) hd
    simpa [List.getElem?_drop] using this.symm
  have e2 : us.length - r.length = us.length - (r.length + 1) + 1 := by omega
  have e3 : r = us.drop (us.length - r.length) := by
    have := congrArg List.tail hd
    simp only [List.tail_cons, List.tail_drop] at this
    rwa [e2]
  have e4 : (fun (ρ2 : Ro) (μ2 : Sto) => ∃ ρ3 μ3, Wk ρ2 μ2 ρ3 μ3 ∧ (r.length ≤ us.length ∧ r = us.drop (us.length - r.length)) ∧ I (us.length - r.length) ρ3 μ3) = fun ρ2 μ2 => ∃ ρ3 μ3, Wk ρ2 μ2 ρ3 μ3 ∧ I (us.length - (r.length + 1) + 1) ρ3 μ3 := by
    funext ρ2 μ2
    have : (r.length ≤ us.length ∧ r = us.drop (us.length - r.length)) = True := eq_true ⟨by omega, e3⟩
    rw [this, e2]
    simp only [true_and]
  rw [e4]
  exact h2 _ t ρ μ e1 hI
theorem for_map {α : Type} {xs : List α} {f : α → T} (I : Nat → Ro → Sto → Prop) (h0 : I 0 ρ μ) (h1 : ∀ ρ μ, I xs.length ρ μ → gd μ ∧ D.nx ρ μ) (h2 : ∀ k x ρ μ, xs[k]? = some x → I k ρ μ → gd μ ∧ bindT g (f x) ρ μ fun ρ' =>
    body { D with nx := fun ρ2 μ2 => ∃ ρ3 μ3, Wk ρ2 μ2 ρ3 μ3 ∧ I (k + 1) ρ3 μ3, ct := fun ρ2 μ2 => ∃ ρ3 μ3, Wk ρ2 μ2 ρ3 μ3 ∧ I (k + 1) ρ3 μ3, bk := D.nx } ρ' μ) : forD g body (xs.map f) gd D ρ μ :=
  for_idx I h0 (fun ρ μ h => h1 ρ μ (by simpa using h)) fun k t ρ μ e h => by
    rw [List.getElem?_map] at e
    cases q : xs[k]? with
    | none => rw [q] at e; cases e
    | some x =>
      rw [q] at e
      cases e
      exact h2 k x ρ μ q h
theorem for_rng {n : Nat} {f : Nat → T} (I : Nat → Ro → Sto → Prop) (h0 : I 0 ρ μ) (h1 : ∀ ρ μ, I n ρ μ → gd μ ∧ D.nx ρ μ) (h2 : ∀ k ρ μ, k < n → I k ρ μ → gd μ ∧ bindT g (f k) ρ μ fun ρ' =>
    body { D with nx := fun ρ2 μ2 => ∃ ρ3 μ3, Wk ρ2 μ2 ρ3 μ3 ∧ I (k + 1) ρ3 μ3, ct := fun ρ2 μ2 => ∃ ρ3 μ3, Wk ρ2 μ2 ρ3 μ3 ∧ I (k + 1) ρ3 μ3, bk := D.nx } ρ' μ) : forD g body ((List.range n).map f) gd D ρ μ :=
  for_map I h0 (fun ρ μ h => h1 ρ μ (by simpa using h)) fun k x ρ μ e h => by
    have hk : k < n := by
      have := (List.getElem?_eq_some_iff.mp e).1
      simpa using this
    rw [List.getElem?_range hk] at e
    cases e
    exact h2 k ρ μ hk h
theorem comp_pure {own : Bool} {vs : List Nat} {cond elt : TEx × TTe} {R : RP} {ts : List T} (c : T → Bool) (f : T → T) (hg : gd μ) (hl : ts.length ≤ sizeLine)
    (h : ∀ t ∈ ts, ∀ (Y : T → Sto → Prop) (N : Sto → Prop), (c t = true → Y (f t) μ) → (c t = false → N μ) → bindT g t (wipeT ρ vs) μ fun ρ' => cond.2 ρ' μ noX fun b μ3 => if b = true then elt.1 ρ' μ3 noX fun y μ4 => Y y μ4 else N μ3)
    (hR : newL own ((ts.filter c).map f) μ R) : compD own vs g cond elt ρ R ts gd μ := by
  refine ⟨fun acc r μ2 => μ2 = μ ∧ ∃ k, r = ts.drop k ∧ acc = ((ts.take k).filter c).map f ∧ acc.length ≤ k, ⟨rfl, 0, rfl, rfl, Nat.le_refl _⟩, ?_, ?_⟩
  · rintro acc μ2 ⟨rfl, k, e1, rfl, _⟩
    refine ⟨hg, ?_⟩
    have : ts.take k = ts := List.take_of_length_le (List.drop_eq_nil_iff.mp e1.symm)
    rwa [this]
  · rintro acc t r μ2 ⟨rfl, k, e1, rfl, hk⟩
    refine ⟨hg, ?_⟩
    have hk2 : k < ts.length := by
      have := congrArg List.length e1
      simp at this
      omega
    have e2 : ts[k]? = some t := by
      have := congrArg (fun l : List T => l[0]?) e1
      simpa [List.getElem?_drop] using this.symm
    have e3 : r = ts.drop (k + 1) := by
      have := congrArg List.tail e1
      simpa [List.tail_drop] using this
    have e4 : ts.take (k + 1) = ts.take k ++ [t] := by
      rw [List.take_add_one, e2]
      rfl
    refine h t (List.mem_of_getElem? e2) _ _ (fun hc => ⟨by omega, f t, _, .refl _ _, rfl, k + 1, e3, ?_, ?_⟩) fun hc => ⟨rfl, k + 1, e3, ?_, by omega⟩
    · rw [e4, List.filter_append, List.map_append]
      simp [hc]
    · simp only [List.length_append, List.length_cons, List.length_nil]
      omega
    · rw [e4, List.filter_append, List.map_append]
      simp [hc]
end
end Rh

namespace Rh
open PySem PySem.Spec PyProof.Rows L2
/-! ## 28. Things compared -/
class Tt (α : Type) [DecidableEq α] where
  tt : α → T
  dd : α → PyData
  ok : α → Prop
  lv : Nat
  dat : ∀ (μ : Sto) n x, lv < n → dat μ n (tt x) = some (dd x)
  eqv : ∀ x y, PyData.eqv (dd x) (dd y) = decide (x = y)
  lay : ∀ x, ok x → (dd x).canLay0 = true
  dep : ∀ x, (dd x).depth ≤ lv
theorem beqd {α : Type} [BEq α] [LawfulBEq α] [DecidableEq α] (a b : α) : (a == b) = decide (a = b) := by
  rw [Bool.eq_iff_iff, beq_iff_eq, decide_eq_true_eq]
instance : Tt Int where
  tt := .int
  dd := .int
  ok _ := True
  lv := 0
  dat μ n x h := by cases n with | zero => cases h | succ n => rfl
  eqv a b := by simp only [PyData.eqv]; exact beqd a b
  lay _ _ := rfl
  dep _ := Nat.le_refl _
instance : Tt Bool where
  tt := .bl
  dd := .bool
  ok _ := True
  lv := 0
  dat μ n x h := by cases n with | zero => cases h | succ n => rfl
  eqv a b := by simp only [PyData.eqv]; exact beqd a b
  lay _ _ := rfl
  dep _ := Nat.le_refl _
def sOk (s : Str) : Prop := s.cps.all (· < 0x110000) = true
instance : Tt Str where
  tt := .str
  dd := .str
  ok := sOk
  lv := 0
  dat μ n x h := by cases n with | zero => cases h | succ n => rfl
  eqv a b := by simp only [PyData.eqv]; exact beqd a b
  lay _ h := h
  dep _ := Nat.le_refl _
section
variable {α β : Type} [DecidableEq α] [Tt α] [DecidableEq β] [Tt β]
theorem dat_all {μ : Sto} {n : Nat} : ∀ xs : List α, Tt.lv α < n → (xs.map Tt.tt).mapM (dat μ n) = some (xs.map Tt.dd)
  | [], _ => rfl
  | x :: xs, h => by
    rw [List.map_cons, List.mapM_cons, Tt.dat μ n x h, dat_all xs h]
    rfl
theorem eqv_all : ∀ xs ys : List α, PyData.eqvAll (xs.map Tt.dd) (ys.map Tt.dd) = decide (xs = ys)
  | [], [] => by simp only [List.map_nil, PyData.eqvAll, decide_true]
  | [], _ :: _ => by simp [PyData.eqvAll]
  | _ :: _, [] => by simp [PyData.eqvAll]
  | x :: xs, y :: ys => by
    rw [List.map_cons, List.map_cons, PyData.eqvAll, Tt.eqv x y, eqv_all xs ys, ← Bool.decide_and]
    exact decide_eq_decide.mpr (by rw [List.cons.injEq])
theorem lay_all : ∀ xs : List α, (∀ x ∈ xs, Tt.ok x) → PyData.canLayAll0 (xs.map Tt.dd) = true
  | [], _ => rfl
  | x :: xs, h => by
    rw [List.map_cons, PyData.canLayAll0, Tt.lay x (h x List.mem_cons_self), lay_all xs fun y hy => h y (List.mem_cons_of_mem _ hy)]
    rfl
theorem dep_all : ∀ xs : List α, PyData.depthAll (xs.map Tt.dd) ≤ Tt.lv α
  | [] => Nat.zero_le _
  | x :: xs => by
    rw [List.map_cons, PyData.depthAll]
    exact Nat.max_le.mpr ⟨Tt.dep x, dep_all xs⟩
instance : Tt (List α) where
  tt xs := .lst (xs.map Tt.tt)
  dd xs := .list (xs.map Tt.dd)
  ok xs := ∀ x ∈ xs, Tt.ok x
  lv := Tt.lv α + 1
  dat μ n xs h := by
    cases n with
    | zero => cases h
    | succ n =>
      rw [Rh.dat, dat_all xs (by omega)]
      rfl
  eqv xs ys := by simp only [PyData.eqv]; exact eqv_all xs ys
  lay xs h := by simp only [PyData.canLay0]; exact lay_all xs h
  dep xs := by simp only [PyData.depth]; exact Nat.succ_le_succ (dep_all xs)
/-- a tuple of things of one type -/
structure Tp (α : Type) where
  items : List α
  deriving DecidableEq
instance : Tt (Tp α) where
  tt t := .tup (t.items.map Tt.tt)
  dd t := .tuple (t.items.map Tt.dd)
  ok t := ∀ x ∈ t.items, Tt.ok x
  lv := Tt.lv α + 1
  dat μ n t h := by
    cases n with
    | zero => cases h
    | succ n =>
      rw [Rh.dat, dat_all t.items (by omega)]
      rfl
  eqv t u := by
    simp only [PyData.eqv]
    rw [eqv_all]
    exact decide_eq_decide.mpr ⟨fun e => by cases t; cases u; exact congrArg Tp.mk e, fun e => by rw [e]⟩
  lay t h := by simp only [PyData.canLay0]; exact lay_all t.items h
  dep t := by simp only [PyData.depth]; exact Nat.succ_le_succ (dep_all t.items)
instance : Tt (α × β) where
  tt p := .tup [Tt.tt p.1, Tt.tt p.2]
  dd p := .tuple [Tt.dd p.1, Tt.dd p.2]
  ok p := Tt.ok p.1 ∧ Tt.ok p.2
  lv := max (Tt.lv α) (Tt.lv β) + 1
  dat μ n p h := by
    cases n with
    | zero => cases h
    | succ n =>
      have h1 := Nat.le_max_left (Tt.lv α) (Tt.lv β)
      have h2 := Nat.le_max_right (Tt.lv α) (Tt.lv β)
      rw [Rh.dat, List.mapM_cons, List.mapM_cons, Tt.dat μ n p.1 (by omega), Tt.dat μ n p.2 (by omega)]
      rfl
  eqv p q := by
    simp only [PyData.eqv, PyData.eqvAll]
    rw [Tt.eqv, Tt.eqv, Bool.and_true, ← Bool.decide_and]
    exact decide_eq_decide.mpr ⟨fun e => Prod.ext e.1 e.2, fun e => by rw [e]; exact ⟨rfl, rfl⟩⟩
  lay p h := by simp only [PyData.canLay0, PyData.canLayAll0, Tt.lay p.1 h.1, Tt.lay p.2 h.2, Bool.and_self]
  dep p := by
    simp only [PyData.depth, PyData.depthAll]
    exact Nat.succ_le_succ (Nat.max_le.mpr ⟨Nat.le_trans (Tt.dep p.1) (Nat.le_max_left _ _), Nat.max_le.mpr ⟨Nat.le_trans (Tt.dep p.2) (Nat.le_max_right _ _), Nat.zero_le _⟩⟩)
/-- a thing that is told by a tree, wherever it lies -/
def Has (μ : Sto) (t : T) (x : α) : Prop := dat μ 9 t = some (Tt.dd x) ∧ Tt.ok x ∧ Tt.lv α ≤ 8
theorem Has.of {μ : Sto} {x : α} (h : Tt.ok x) (hl : Tt.lv α ≤ 8 := by decide) : Has μ (Tt.tt x) x := ⟨Tt.dat μ 9 x (by omega), h, hl⟩
theorem Has.own {μ : Sto} {p : Addr} {xs : List α} {ts : List T} (e : μ p = some (.lst ts)) (et : ts = xs.map Tt.tt) (h : ∀ x ∈ xs, Tt.ok x) (hl : Tt.lv α ≤ 7 := by decide) : Has μ (.own p) xs := by
  refine ⟨?_, h, Nat.succ_le_succ hl⟩
  rw [dat, e, et]
  dsimp only
  rw [dat_all xs (by omega)]
  rfl
theorem Has.shaped {μ : Sto} {t : T} {x : α} (h : Has μ t x) : SeqAt.shaped (Tt.dd x) = true := by
  unfold SeqAt.shaped
  rw [Tt.lay x h.2.1, Bool.true_and, decide_eq_true_eq]
  exact Nat.le_trans (Tt.dep x) (by have := h.2.2; omega)
theorem eq_has {μ : Sto} {t u : T} {x y : α} (neg : Bool) (R : RP) (h1 : Has μ t x) (h2 : Has μ u y) (hs : scalT t u = none) (h : R (.bl (if neg then !decide (x = y) else decide (x = y))) μ) : tEq neg t u μ R := by
  unfold tEq
  rw [hs]
  refine ⟨_, h1.1, h1.shaped, _, h2.1, h2.shaped, ?_⟩
  show R (.bl (if neg = true then !(PyData.eqv (Tt.dd x) (Tt.dd y)) else PyData.eqv (Tt.dd x) (Tt.dd y))) μ
  rw [Tt.eqv]
  exact h
theorem eq_hasE {μ : Sto} {t u : T} {x y : α} {neg : Bool} {R : RP} (h1 : Has μ t x) (h2 : Has μ u y) (hs : scalT t u = none) : tEq neg t u μ R = R (.bl (if neg = true then !decide (x = y) else decide (x = y))) μ := by
  apply propext
  constructor
  · intro h
    unfold tEq at h
    rw [hs] at h
    obtain ⟨d, e1, _, e, e2, _, h⟩ := h
    rw [h1.1] at e1
    rw [h2.1] at e2
    cases e1
    cases e2
    rw [Tt.eqv] at h
    exact h
  · exact eq_has neg R h1 h2 hs
theorem any_eqv : ∀ (xs : List α) (x : α), ((xs.map Tt.dd).any fun z => PyData.eqv z (Tt.dd x)) = decide (x ∈ xs)
  | [], x => by simp
  | y :: ys, x => by
    rw [List.map_cons, List.any_cons, Tt.eqv, any_eqv ys x, ← Bool.decide_or]
    exact decide_eq_decide.mpr (by rw [List.mem_cons]; exact ⟨fun h => h.imp Eq.symm id, fun h => h.imp Eq.symm id⟩)
theorem in_has {μ : Sto} {t u : T} {x : α} {xs : List α} (neg : Bool) (R : RP) (hd : isDict μ u = false) (hu : ∃ us, slst μ u = some us ∨ vlst μ u = some us) (h1 : Has μ t x) (h2 : Has μ u xs) (h : R (.bl (if neg then !decide (x ∈ xs) else decide (x ∈ xs))) μ) : tIn neg t u μ R := by
  have key : onD μ t fun d => ∃ ds, dat μ 9 u = some (.list ds) ∧ SeqAt.shaped (.list ds) = true ∧ R (.bl (if neg then !(ds.any fun z => PyData.eqv z d) else ds.any fun z => PyData.eqv z d)) μ := by
    refine ⟨_, h1.1, h1.shaped, xs.map Tt.dd, h2.1, h2.shaped, ?_⟩
    rw [any_eqv]
    exact h
  obtain ⟨us, hu⟩ := hu
  unfold tIn
  cases u with
  | str s => rcases hu with h | h <;> cases h
  | tup s => rcases hu with h | h <;> cases h
  | _ => simp only [hd]; exact key
end
theorem eq_int {neg : Bool} {a b : Int} {μ : Sto} {R : RP} : tEq neg (.int a) (.int b) μ R = R (.bl (if neg = true then !decide (a = b) else decide (a = b))) μ := rfl
theorem eq_str {neg : Bool} {a b : Str} {μ : Sto} {R : RP} : tEq neg (.str a) (.str b) μ R = R (.bl (if neg = true then !decide (a = b) else decide (a = b))) μ := rfl
theorem eq_bl {neg : Bool} {a b : Bool} {μ : Sto} {R : RP} : tEq neg (.bl a) (.bl b) μ R = R (.bl (if neg = true then !decide (a = b) else decide (a = b))) μ := rfl
theorem eq_in {neg : Bool} {a : Int} {μ : Sto} {R : RP} : tEq neg (.int a) .non μ R = R (.bl (if neg = true then true else false)) μ := by cases neg <;> rfl
theorem eq_tup2 {neg : Bool} {a b c d : Int} {μ : Sto} {R : RP} : tEq neg (.tup [.int a, .int b]) (.tup [.int c, .int d]) μ R = R (.bl (if neg = true then !decide (a = c ∧ b = d) else decide (a = c ∧ b = d))) μ := by
  have := @eq_hasE (Int × Int) _ _ μ (.tup [.int a, .int b]) (.tup [.int c, .int d]) (a, b) (c, d) neg R (Has.of (x := ((a, b) : Int × Int)) ⟨trivial, trivial⟩) (Has.of (x := ((c, d) : Int × Int)) ⟨trivial, trivial⟩) rfl
  rw [this]
  simp only [Prod.mk.injEq]
theorem in_str {neg : Bool} {a b : Str} {μ : Sto} {R : RP} : tIn neg (.str a) (.str b) μ R = R (.bl (if neg = true then !strIn a b else strIn a b)) μ := by
  simp [tIn]
theorem emod_nn {a b : Int} (h : 0 < b) : (0 ≤ a % b) = True := eq_true (Int.emod_nonneg _ (by omega))
theorem emod_lt {a b : Int} (h : 0 < b) : (a % b < b) = True := eq_true (Int.emod_lt_of_pos _ h)
theorem nat_nn {n : Nat} : (0 ≤ (n : Int)) = True := eq_true (by omega)
theorem sz : sizeLine = 16777216 := rfl
/-! ## 29. A fresh list given back: one's own, or at rest -/
def retL (us : List T) (μ : Sto) (R : RP) : Prop := (∀ p, μ p = none → R (.own p) (μ.set p (.lst us))) ∨ R (.lst us) μ
theorem fin_retL {us : List T} {μ : Sto} {R : RP} {p : Addr} (h : retL us μ R) (hp : μ p = none) : fin_ R (.own p) (μ.set p (.lst us)) := by
  rcases h with h | h
  · exact fin_id (h p hp)
  · exact ⟨.lst us, μ, ⟨[p], .own set_self (List.mem_singleton.mpr rfl) (.refl _), Sub.set_none hp, fun q hq => by cases List.mem_singleton.mp hq; exact hp⟩, h⟩
theorem own_dict {μ : Sto} {p : Addr} {ts : List T} (h : μ p = some (.lst ts)) : isDict μ (.own p) = false := by
  unfold isDict
  simp only [h]
theorem own_slst {μ : Sto} {p : Addr} {ts : List T} (h : μ p = some (.lst ts)) : slst μ (.own p) = some ts := by
  unfold slst
  simp only [h]
theorem in_own {α : Type} [DecidableEq α] [Tt α] {μ : Sto} {p : Addr} {t : T} {x : α} {xs : List α} {neg : Bool} {R : RP} {ts : List T} (e : μ p = some (.lst ts)) (et : ts = xs.map Tt.tt) (hx : Has μ t x) (h : ∀ x ∈ xs, Tt.ok x) (k : R (.bl (if neg then !decide (x ∈ xs) else decide (x ∈ xs))) μ) (hl : Tt.lv α ≤ 7 := by decide) : tIn neg t (.own p) μ R :=
  in_has neg R (own_dict e) ⟨_, .inl (own_slst e)⟩ hx (Has.own e et h hl) k
theorem eq_ints {neg : Bool} {xs ys : List Int} {μ : Sto} {R : RP} : tEq neg (.lst (xs.map T.int)) (.lst (ys.map T.int)) μ R = R (.bl (if neg = true then !decide (xs = ys) else decide (xs = ys))) μ :=
  @eq_hasE (List Int) _ _ μ (.lst (xs.map T.int)) (.lst (ys.map T.int)) xs ys neg R (Has.of (x := (xs : List Int)) fun _ _ => trivial) (Has.of (x := (ys : List Int)) fun _ _ => trivial) rfl
/-- a list, wherever it lies -/
def LstAt (μ : Sto) (t : T) (us : List T) : Prop := t = .lst us ∨ ∃ p, t = .own p ∧ μ p = some (.lst us)
theorem LstAt.lst {μ : Sto} {us : List T} : LstAt μ (.lst us) us := .inl rfl
theorem LstAt.own {μ : Sto} {us : List T} {p : Addr} (h : μ p = some (.lst us)) : LstAt μ (.own p) us := .inr ⟨p, rfl, h⟩
theorem LstAt.set {μ : Sto} {t : T} {us : List T} {p : Addr} {o : Ob} (h : LstAt μ t us) (hp : μ p = Option.none) : LstAt (μ.set p o) t us := by
  rcases h with rfl | ⟨q, rfl, e⟩
  · exact .lst
  · exact .own (by rw [set_ne (nofr e hp)]; exact e)
theorem idx_at {μ : Sto} {t y : T} {us : List T} {R : RP} (h : LstAt μ t us) : tIdx t y μ R = ∃ i x, y = .int i ∧ atI us i = some x ∧ R x μ := by
  rcases h with rfl | ⟨p, rfl, e⟩
  · simp only [tIdx, isDict, onL, vlst, Option.some.injEq, exists_eq_left']
  · simp only [tIdx, isDict, onL, vlst, e, Option.some.injEq, exists_eq_left']
theorem len_at {μ : Sto} {t : T} {us : List T} {R : RP} (h : LstAt μ t us) : tLen t μ R = R (.int us.length) μ := by
  rcases h with rfl | ⟨p, rfl, e⟩
  · simp only [tLen, onL, vlst, Option.some.injEq, exists_eq_left']
  · simp only [tLen, onL, vlst, e, Option.some.injEq, exists_eq_left']
theorem is_at {μ : Sto} {t : T} {us : List T} (h : LstAt μ t us) : isStr μ t = some "list" := by
  rcases h with rfl | ⟨p, rfl, e⟩
  · rfl
  · rw [is_own]
    simp only [e]
def cnt (cs : List Int) (i : Int) : Int := (cs[i.toNat]?).getD 0
theorem at_cnt {cs : List Int} {i : Int} (h : 0 ≤ i) (h2 : i < cs.length) : atI (cs.map T.int) i = some (.int (cnt cs i)) := by
  refine at_map h ?_
  unfold cnt
  rw [List.getElem?_eq_getElem (by omega)]
  rfl
/-! ## 30. The shapes one by one -/
section
variable {μ : Sto} {R : RP} {y : T} {ts us : List T} {p : Addr} {z w : Str} {i j : Int}
theorem ix_tup : tIdx (.tup ts) y μ R = ∃ i t, y = .int i ∧ atI ts i = some t ∧ R t μ := rfl
theorem ix_lst : tIdx (.lst ts) y μ R = ∃ i t, y = .int i ∧ atI ts i = some t ∧ R t μ := idx_at .lst
theorem ix_scr : tIdx (.scr ts) y μ R = ∃ i t, y = .int i ∧ atI ts i = some t ∧ R t μ := by simp only [tIdx, isDict, onL, vlst, Option.some.injEq, exists_eq_left']
theorem ix_str : tIdx (.str z) y μ R = ∃ i c, y = .int i ∧ z.length ≤ sizeLine ∧ atI z.cps.toList i = some c ∧ R (.str ⟨#[c]⟩) μ := rfl
theorem ix_own : tIdx (.own p) y μ R = match isDict μ (.own p) with | true => onK μ (.own p) fun kvs _ => ∃ k t, keyT y = some k ∧ valT kvs k = some t ∧ R t μ | false => onL μ (.own p) fun ts => ∃ i t, y = .int i ∧ atI ts i = some t ∧ R t μ := rfl
theorem ln_str : tLen (.str z) μ R = (z.length ≤ sizeLine ∧ R (.int z.length) μ) := rfl
theorem ln_tup : tLen (.tup ts) μ R = R (.int ts.length) μ := rfl
theorem ln_lst : tLen (.lst ts) μ R = R (.int ts.length) μ := len_at .lst
theorem ln_scr : tLen (.scr ts) μ R = R (.int ts.length) μ := by simp only [tLen, onL, vlst, Option.some.injEq, exists_eq_left']
theorem ln_own : tLen (.own p) μ R = onL μ (.own p) fun ts => R (.int ts.length) μ := rfl
theorem dc_own : isDict μ (.own p) = match μ p with | some (.dict _) => true | _ => false := rfl
theorem dc_lst : isDict μ (.lst ts) = false := rfl
theorem dc_scr : isDict μ (.scr ts) = false := rfl
theorem vl_lst : vlst μ (.lst ts) = some ts := rfl
theorem vl_scr : vlst μ (.scr ts) = some ts := rfl
theorem vl_own : vlst μ (.own p) = match μ p with | some (.lst ts) => some ts | _ => Option.none := rfl
theorem sl_lst : slst μ (.lst ts) = some ts := rfl
theorem sl_own : slst μ (.own p) = match μ p with | some (.lst ts) => some ts | _ => Option.none := rfl
theorem ad_int {o : Bool} : tAdd o (.int i) (.int j) μ R = R (.int (i + j)) μ := rfl
theorem ad_str {o : Bool} : tAdd o (.str z) (.str w) μ R = (z.length + w.length ≤ sizeLine ∧ R (.str (z ++ w)) μ) := rfl
theorem ad_tup {o : Bool} : tAdd o (.tup ts) (.tup us) μ R = (ts.length + us.length ≤ sizeLine ∧ R (.tup (ts ++ us)) μ) := rfl
theorem ml_tup {o : Bool} {xs : List T} : tMulO o (.tup xs) (.int i) μ R = (0 ≤ i ∧ i ≤ 1000 ∧ xs.length ≤ 1000 ∧ R (.tup (List.replicate i.toNat xs).flatten) μ) := rfl
theorem slc_tup {o : Bool} {lo hi : Option Int} : tSlice o (.tup ts) lo hi μ R = R (.tup (cutT ts lo hi)) μ := rfl
theorem ml_int {o : Bool} : tMulO o (.int i) (.int j) μ R = (MulOk i j ∧ R (.int (i * j)) μ) := rfl
theorem slc_lst {o : Bool} {lo hi : Option Int} : tSlice o (.lst us) lo hi μ R = newL o (cutT us lo hi) μ R := by simp only [tSlice, onL, vlst, Option.some.injEq, exists_eq_left']
theorem slc_scr {o : Bool} {lo hi : Option Int} : tSlice o (.scr us) lo hi μ R = newL o (cutT us lo hi) μ R := by simp only [tSlice, onL, vlst, Option.some.injEq, exists_eq_left']
theorem ml_str {o : Bool} : tMulO o (.str z) (.int i) μ R = (0 ≤ i ∧ i < 16777216 ∧ z.length * i.toNat ≤ sizeLine ∧ R (.str (Txt.mul z i)) μ) := rfl
theorem ml_lst {o : Bool} {xs : List T} : tMulO o (.lst xs) (.int i) μ R = (i < 2 ^ 62 ∧ -(2 ^ 62) ≤ i ∧ xs.length * i.toNat ≤ sizeLine ∧ newL o (List.replicate i.toNat xs).flatten μ R) := by
  simp only [tMulO, onS, slst, Option.some.injEq, exists_eq_left']
theorem tr_non {k : Bool → Prop} : truT μ .non k = k false := rfl
theorem tr_bl {k : Bool → Prop} {b : Bool} : truT μ (.bl b) k = k b := rfl
theorem tr_int {k : Bool → Prop} : truT μ (.int i) k = k (i != 0) := rfl
theorem tr_str {k : Bool → Prop} : truT μ (.str z) k = (z.length ≤ sizeLine ∧ k ((z.length : Int) != 0)) := rfl
theorem tr_tup {k : Bool → Prop} : truT μ (.tup ts) k = k (!ts.isEmpty) := rfl
theorem tr_lst {k : Bool → Prop} : truT μ (.lst ts) k = k (!ts.isEmpty) := by simp only [truT, isDict, onL, vlst, Option.some.injEq, exists_eq_left']
theorem tr_own {k : Bool → Prop} : truT μ (.own p) k = match isDict μ (.own p) with | true => onK μ (.own p) fun kvs _ => k (!kvs.isEmpty) | false => onL μ (.own p) fun ts => k (!ts.isEmpty) := rfl
theorem ag_add : tAugO .Add (.int i) (.int j) μ R = R (.int (i + j)) μ := rfl
theorem ag_sub : tAugO .Sub (.int i) (.int j) μ R = R (.int (i - j)) μ := rfl
theorem up_tup : unp μ (.tup ts) = some ts := rfl
theorem up_lst : unp μ (.lst ts) = some ts := rfl
theorem up_own : unp μ (.own p) = vlst μ (.own p) := rfl
theorem bt_nm {k : Ro → Prop} {n : Nat} {t : T} {ρ : Ro} : bindT (.nm n) t ρ μ k = k (ρ.set n (some t)) := rfl
theorem bt_tup {k : Ro → Prop} {gs : List Tg} {t : T} {ρ : Ro} : bindT (.tup gs) t ρ μ k = ∃ ts, unp μ t = some ts ∧ ts.length = gs.length ∧ bindTs gs ts ρ μ k := rfl
end
theorem rc_join {μ : Sto} {x : T} : rcv .join μ x = ∃ z, x = .str z := rfl
theorem rc_split {μ : Sto} {x : T} : rcv .split μ x = ∃ z, x = .str z := rfl
theorem rc_part {μ : Sto} {x : T} : rcv .partition μ x = ∃ z, x = .str z := rfl
theorem rc_starts {μ : Sto} {x : T} : rcv .startswith μ x = ∃ z, x = .str z := rfl
theorem rc_append {μ : Sto} {x : T} : rcv .append μ x = ∃ us, vlst μ x = some us := rfl
theorem rc_pop {μ : Sto} {x : T} : rcv .pop μ x = ∃ us, vlst μ x = some us := rfl
theorem rc_popAt {μ : Sto} {x : T} : rcv .popAt μ x = ∃ us, vlst μ x = some us := rfl
theorem rc_extend {μ : Sto} {x : T} : rcv .extend μ x = ∃ us, vlst μ x = some us := rfl
theorem rc_index {μ : Sto} {x : T} : rcv .index μ x = ∃ us, vlst μ x = some us := rfl
theorem rc_insert {μ : Sto} {x : T} : rcv .insert μ x = ∃ us, vlst μ x = some us := rfl
theorem rc_remove {μ : Sto} {x : T} : rcv .remove μ x = ∃ us, vlst μ x = some us := rfl
theorem rc_count {μ : Sto} {x : T} : rcv .count μ x = ∃ us, vlst μ x = some us := rfl
theorem onG_at {μ : Sto} {t : T} {us : List T} {k : List T → (Sto → Prop) → Prop} (h : LstAt μ t us) (hk : ∀ gd : Sto → Prop, (∀ μ', LstAt μ' t us → gd μ') → k us gd) : onG μ t k := by
  rcases h with rfl | ⟨p, rfl, e⟩
  · exact hk _ fun _ _ => trivial
  · refine ⟨us, e, hk _ fun μ' h => ?_⟩
    rcases h with h | ⟨q, h, e'⟩
    · cases h
    · cases h
      exact e'
theorem vl_at {μ : Sto} {t : T} {us : List T} (h : LstAt μ t us) : vlst μ t = some us := by
  rcases h with rfl | ⟨p, rfl, e⟩
  · rfl
  · rw [vl_own, e]
theorem sl_at {μ : Sto} {t : T} {us : List T} (h : LstAt μ t us) : slst μ t = some us := by
  rcases h with rfl | ⟨p, rfl, e⟩
  · rfl
  · rw [sl_own, e]
theorem dc_at {μ : Sto} {t : T} {us : List T} (h : LstAt μ t us) : isDict μ t = false := by
  rcases h with rfl | ⟨p, rfl, e⟩
  · rfl
  · rw [dc_own, e]
theorem slc_at {μ : Sto} {t : T} {us : List T} {own : Bool} {lo hi : Option Int} {R : RP} (h : LstAt μ t us) : tSlice own t lo hi μ R = newL own (cutT us lo hi) μ R := by
  rcases h with rfl | ⟨p, rfl, e⟩
  · simp only [tSlice, onL, vlst, Option.some.injEq, exists_eq_left']
  · simp only [tSlice, onL, vlst, e, Option.some.injEq, exists_eq_left']
theorem ad_lst {o : Bool} {ts us : List T} {μ : Sto} {R : RP} : tAdd o (.lst ts) (.lst us) μ R = (ts.length + us.length ≤ sizeLine ∧ newL o (ts ++ us) μ R) := by
  simp only [tAdd, onS, slst, Option.some.injEq, exists_eq_left']
theorem lst_at {μ : Sto} {t : T} {us : List T} {R : RP} {own : Bool} (h : LstAt μ t us) : tBif .list own [t] μ R = newL own us μ R := by
  rcases h with rfl | ⟨p, rfl, e⟩
  · simp only [tBif, onL, vlst, Option.some.injEq, exists_eq_left']
  · simp only [tBif, onL, vlst, e, Option.some.injEq, exists_eq_left']
theorem cut_to {us : List T} {i : Int} (h0 : 0 ≤ i) (h : i.toNat ≤ us.length) : cutT us none (some i) = us.take i.toNat := by
  obtain ⟨n, rfl⟩ := Int.eq_ofNat_of_zero_le h0
  rw [Int.toNat_natCast] at h ⊢
  unfold cutT
  rw [HT.sIx_none, HT.sIx_nat, List.drop_zero, Nat.sub_zero, Nat.min_eq_left h]
theorem cut_from {us : List T} {i : Int} (h0 : 0 ≤ i) (h : i.toNat ≤ us.length) : cutT us (some i) none = us.drop i.toNat := by
  obtain ⟨n, rfl⟩ := Int.eq_ofNat_of_zero_le h0
  rw [Int.toNat_natCast] at h ⊢
  unfold cutT
  rw [HT.sIx_none, HT.sIx_nat, Nat.min_eq_left h]
  exact List.take_of_length_le (by rw [List.length_drop]; omega)
theorem set_parts {α : Type} {us : List α} {n : Nat} {x : α} (h : n < us.length) : us.take n ++ [x] ++ us.drop (n + 1) = us.set n x := by
  rw [List.set_eq_take_append_cons_drop, if_pos h, List.append_assoc]
  rfl
theorem Has.lat {α : Type} [DecidableEq α] [Tt α] {μ : Sto} {t : T} {xs : List α} {ts : List T} (h : LstAt μ t ts) (et : ts = xs.map Tt.tt) (ok : ∀ x ∈ xs, Tt.ok x) (hl : Tt.lv α ≤ 7 := by decide) : Has μ t xs := by
  rcases h with rfl | ⟨p, rfl, e⟩
  · subst et
    exact ⟨Tt.dat μ 9 xs (Nat.lt_of_le_of_lt (Nat.succ_le_succ hl) (by decide)), ok, Nat.succ_le_succ hl⟩
  · exact Has.own e et ok hl
theorem scal_at {μ : Sto} {t u : T} {ts us : List T} (h : LstAt μ t ts) (k : LstAt μ u us) : scalT t u = none := by
  rcases h with rfl | ⟨p, rfl, e⟩ <;> rcases k with rfl | ⟨q, rfl, e2⟩ <;> rfl
theorem eq_at {α : Type} [DecidableEq α] [Tt α] {μ : Sto} {t u : T} {ts us : List T} {neg : Bool} {R : RP} (xs ys : List α) (h : LstAt μ t ts) (k : LstAt μ u us) (e1 : ts = xs.map Tt.tt) (e2 : us = ys.map Tt.tt) (o1 : ∀ x ∈ xs, Tt.ok x) (o2 : ∀ x ∈ ys, Tt.ok x) (hl : Tt.lv α ≤ 7 := by decide) :
    tEq neg t u μ R = R (.bl (if neg = true then !decide (xs = ys) else decide (xs = ys))) μ := eq_hasE (Has.lat h e1 o1 hl) (Has.lat k e2 o2 hl) (scal_at h k)
theorem eq_atI {μ : Sto} {t u : T} {neg : Bool} {R : RP} {xs ys : List Int} (h : LstAt μ t (xs.map T.int)) (k : LstAt μ u (ys.map T.int)) : tEq neg t u μ R = R (.bl (if neg = true then !decide (xs = ys) else decide (xs = ys))) μ :=
  eq_at xs ys h k rfl rfl (fun _ _ => trivial) (fun _ _ => trivial)
theorem fin_retG {us : List T} {μ μ' : Sto} {R : RP} {q : Addr} (h : retL us μ R) (hq : μ q = Option.none) (e : μ' q = some (.lst us)) (s : Sub (μ.set q (.lst us)) μ') : fin_ R (.own q) μ' := by
  rcases h with h | h
  · exact fin_sub _ s (h q hq)
  · refine ⟨.lst us, μ, ⟨[q], .own e (List.mem_singleton.mpr rfl) (.refl _), fun a o z => ?_, fun a ha => by cases List.mem_singleton.mp ha; exact hq⟩, h⟩
    exact s a o (by rw [set_ne (fun y => by subst y; rw [hq] at z; cases z)]; exact z)
theorem Sub.under {μ : Sto} {p q : Addr} {o o' : Ob} (hp : μ p = Option.none) (hne : p ≠ q) : Sub (μ.set q o) ((μ.set p o').set q o) := fun a ob e => by
  by_cases h : a = q
  · subst h
    rw [set_self] at e ⊢
    exact e
  · rw [set_ne h] at e ⊢
    rw [set_ne (fun y => by subst y; rw [hp] at e; cases e)]
    exact e
theorem set4 {μ : Sto} {p q : Addr} {a b a' b' : Ob} (h : p ≠ q) : (((μ.set p a).set q b).set p a').set q b' = (μ.set p a').set q b' := by
  rw [set_comm (p := q) (q := p) h.symm, set_set, set_set]
theorem ixN_nn {n : Nat} {i : Int} (h : 0 ≤ i) (h2 : i < n) : ixN n i = some i.toNat := by
  unfold ixN
  rw [if_pos h, if_pos h2]
theorem e_wk {G : Tab} {Γ : Nat → TSp} {r : List Sx} {D : SEnds} {ρ ρ' : Ro} {μ μ' : Sto} (w : Wk ρ μ ρ' μ') (h : denSs G Γ r D ρ' μ') : denSs G Γ (.wk :: r) D ρ μ := ⟨ρ', μ', w, h⟩
theorem Left.one {μ : Sto} {p : Addr} {o : Ob} (h : μ p = Option.none) : Left (μ.set p o) [p] μ := ⟨Sub.set_none h, fun a ha => by cases List.mem_singleton.mp ha; exact h⟩
theorem View.one {μ : Sto} {p : Addr} {us : List T} : View (μ.set p (.lst us)) [p] (.own p) (.lst us) := .own set_self (List.mem_singleton.mpr rfl) (.refl _)
theorem map_erase {α β : Type} (f : α → β) (l : List α) (n : Nat) : (l.map f).eraseIdx n = (l.eraseIdx n).map f := by
  induction l generalizing n with
  | nil => rfl
  | cons a r ih =>
    cases n with
    | zero => rfl
    | succ n => simp [ih]
section
variable {μ : Sto} {R : RP} {x y z : T} {ts us : List T} {p : Addr} {w b : Str} {i j : Int} {o : Bool}
theorem bf_len : tBif .len o [x] μ R = tLen x μ R := rfl
theorem bf_sum : tBif .sum o [x] μ R = onL μ x fun us => ∃ ns : List Int, us = ns.map T.int ∧ R (.int ns.sum) μ := rfl
theorem bf_max2 : tBif .max2 o [x, y] μ R = ∃ i j, x = .int i ∧ y = .int j ∧ R (.int (if j > i then j else i)) μ := rfl
theorem bf_min2 : tBif .min2 o [x, y] μ R = ∃ i j, x = .int i ∧ y = .int j ∧ R (.int (if j < i then j else i)) μ := rfl
theorem bf_max3 : tBif .max3 o [x, y, z] μ R = ∃ i j k, x = .int i ∧ y = .int j ∧ z = .int k ∧ R (.int (max3 i j k)) μ := rfl
theorem bf_max1 : tBif .max1 o [x] μ R = onL μ x fun us => ∃ ns : List Int, us = ns.map T.int ∧ 0 < ns.length ∧ ∀ m, m ∈ ns → (∀ y, y ∈ ns → y ≤ m) → R (.int m) μ := rfl
theorem bf_min1 : tBif .min1 o [x] μ R = onL μ x fun us => ∃ ns : List Int, us = ns.map T.int ∧ 0 < ns.length ∧ ∀ m, m ∈ ns → (∀ y, y ∈ ns → m ≤ y) → R (.int m) μ := rfl
theorem bf_min3 : tBif .min3 o [x, y, z] μ R = ∃ i j k, x = .int i ∧ y = .int j ∧ z = .int k ∧ R (.int (min3 i j k)) μ := rfl
theorem bf_list_tup : tBif .list o [.tup us] μ R = newL o us μ R := rfl
theorem bf_list_lst : tBif .list o [.lst us] μ R = newL o us μ R := lst_at .lst
theorem bf_list_scr : tBif .list o [.scr us] μ R = newL o us μ R := by simp only [tBif, onL, vlst, Option.some.injEq, exists_eq_left']
theorem bf_list_own : tBif .list o [.own p] μ R = onL μ (.own p) fun us => newL o us μ R := rfl
theorem bf_tuple_tup : tBif .tuple o [.tup us] μ R = R (.tup us) μ := rfl
theorem bf_tuple_lst : tBif .tuple o [.lst us] μ R = onL μ (.lst us) fun us => R (.tup us) μ := rfl
theorem bf_tuple_own : tBif .tuple o [.own p] μ R = onL μ (.own p) fun us => R (.tup us) μ := rfl
theorem bf_sorted : tBif .sorted o [x] μ R = match isDict μ x with
    | true => onK μ x fun kvs _ => ∃ ks : List Int, kvs.map (·.1) = ks.map Sum.inl ∧ ks.length < 64 ∧ ∀ ys : List Int, ys.Perm ks → ys.Pairwise (· ≤ ·) → newL o (ys.map T.int) μ R
    | false => onL μ x fun us => ∃ ns : List Int, us = ns.map T.int ∧ ∀ ys : List Int, ys.Perm ns → ys.Pairwise (· ≤ ·) → newL o (ys.map T.int) μ R := rfl
theorem bf_all : tBif .all o [x] μ R = onL μ x fun us => ∃ bs : List Bool, us = bs.map T.bl ∧ R (.bl (bs.all id)) μ := rfl
theorem bf_any : tBif .any o [x] μ R = onL μ x fun us => ∃ bs : List Bool, us = bs.map T.bl ∧ R (.bl (bs.any id)) μ := rfl
theorem bf_str : tBif .str o [.int i] μ R = (i.natAbs.log2 < 1920 ∧ R (.str (toString i)) μ) := rfl
theorem bf_int : tBif .int o [.int i] μ R = R (.int i) μ := rfl
theorem bf_itext {z : Str} : tBif .int o [.str z] μ R = ∃ n, PySem.intText? z = some n ∧ z.length ≤ 640 ∧ R (.int n) μ := rfl
theorem bf_sortT : tBif .sortT o [x] μ R = onL μ x fun us => ∃ (M : List (List Int)) (d : Nat) (B : Int), us = M.map (fun ns => T.tup (ns.map T.int)) ∧ 1 ≤ d ∧ M.length < 64 ∧ (∀ ns ∈ M, ns.length = d ∧ TS.Bd B ns) ∧ ∀ M' : List (List Int), M'.Perm M → M'.Pairwise (fun a b => TS.code B a ≤ TS.code B b) → newL o (M'.map fun ns => T.tup (ns.map T.int)) μ R := rfl
theorem bf_intb {c : Bool} : tBif .int o [.bl c] μ R = R (.int (if c then 1 else 0)) μ := rfl
theorem lm_append : tLm .append x [y] μ R = onM μ x fun ts p => ts.length < sizeLine ∧ R .non (μ.set p (.lst (ts ++ [y]))) := rfl
theorem lm_pop : tLm .pop x [] μ R = onM μ x fun ts p => ∃ y, ts[ts.length - 1]? = some y ∧ R y (μ.set p (.lst ts.dropLast)) := rfl
theorem lm_popAt : tLm .popAt x [.int i] μ R = onM μ x fun ts p => ∃ k y, -(2 ^ 63) ≤ i ∧ i < 2 ^ 63 ∧ seqIndex? i ts.length = some k ∧ ts[k]? = some y ∧ R y (μ.set p (.lst (ts.eraseIdx k))) := rfl
theorem lm_extend : tLm .extend x [y] μ R = onM μ x fun ts p => onS μ y fun us => ts.length + us.length ≤ sizeLine ∧ R .non (μ.set p (.lst (ts ++ us))) := rfl
theorem lm_index : tLm .index x [y] μ R = onL μ x fun ts => ∃ j z, flatT y = true ∧ ts.all flatT = true ∧ ts[j]? = some z ∧ eqT z y = true ∧ (∀ (n : Nat) (z' : T), n < j → ts[n]? = some z' → eqT z' y = false) ∧ R (.int (j : Nat)) μ := rfl
theorem lm_insert : tLm .insert x [.int i, y] μ R = onM μ x fun ts p => ts.length < sizeLine ∧ 0 ≤ i ∧ i < 2 ^ 63 ∧ R .non (μ.set p (.lst (ts.take i.toNat ++ [y] ++ ts.drop i.toNat))) := rfl
theorem lm_join : tLm .join x [y] μ R = ∃ a, ∃ ys : List Str, x = .str a ∧ (vlst μ y = some (ys.map T.str) ∨ y = .tup (ys.map T.str)) ∧ (ys.map (·.length)).sum + ys.length * a.length ≤ 16777216 ∧ R (.str (Txt.join a ys)) μ := rfl
theorem lm_split : tLm .split x [.str b] μ R = ∃ a, x = .str a ∧ (b.length == 0) = false ∧ a.length + 2 ≤ sizeLine ∧ R (.lst ((Txt.split a b).map T.str)) μ := rfl
theorem lm_part : tLm .partition x [.str b] μ R = ∃ a, x = .str a ∧ (b.length == 0) = false ∧ a.length ≤ sizeLine ∧ R (.tup [.str (Txt.partition a b).1, .str (Txt.partition a b).2.1, .str (Txt.partition a b).2.2]) μ := rfl
theorem lm_starts : tLm .startswith x [.str b] μ R = ∃ a, x = .str a ∧ R (.bl (Txt.startswith a b)) μ := rfl
theorem lm_count : tLm .count x [.int i] μ R = onL μ x fun ts => ∃ ns : List Int, ts = ns.map T.int ∧ R (.int (ns.count i : Nat)) μ := rfl
theorem lm_remove : tLm .remove x [.int i] μ R = onM μ x fun ts p => ∃ (ns : List Int) (j : Nat), ts = ns.map T.int ∧ ns[j]? = some i ∧ (∀ m : Nat, m < j → ns[m]? ≠ some i) ∧ R .non (μ.set p (.lst ((ns.eraseIdx j).map T.int))) := rfl
end
/-! ## 31. Texts by their signs -/
def sgs (s : Str) : List Nat := s.cps.toList
theorem sgs_len {s : Str} : s.length = (sgs s).length := (Array.length_toList).symm
theorem sgs_app {s t : Str} : sgs (s ++ t) = sgs s ++ sgs t := TL.tl_append s t
theorem sgs_one {c : Nat} : sgs ⟨#[c]⟩ = [c] := rfl
theorem sgs_to {s : Str} {i : Int} (h0 : 0 ≤ i) (h : i.toNat ≤ s.length) : sgs (cutS s none (some i)) = (sgs s).take i.toNat := by
  obtain ⟨n, rfl⟩ := Int.eq_ofNat_of_zero_le h0
  rw [Int.toNat_natCast] at h ⊢
  unfold cutS sgs
  rw [HT.sIx_none, HT.sIx_nat, List.drop_zero, Nat.sub_zero, Nat.min_eq_left h]
theorem sgs_from {s : Str} {i : Int} (h0 : 0 ≤ i) (h : i.toNat ≤ s.length) : sgs (cutS s (some i) none) = (sgs s).drop i.toNat := by
  obtain ⟨n, rfl⟩ := Int.eq_ofNat_of_zero_le h0
  rw [Int.toNat_natCast] at h ⊢
  unfold cutS sgs
  rw [HT.sIx_none, HT.sIx_nat, Nat.min_eq_left h]
  exact List.take_of_length_le (by rw [List.length_drop, Array.length_toList]; exact Nat.le_refl _)
theorem sgs_join : ∀ ys : List Str, sgs (Txt.join "" ys) = (ys.map sgs).flatten := fun ys => by
  rw [TL.join_eq]
  show TL.tl (Str.join "" ys) = _
  rw [TL.tl_join]
  have e : TL.tl ("" : Str) = [] := by decide
  rw [e]
  have key : ∀ l : List (List Nat), TL.joinL [] l = l.flatten := fun l => by
    induction l with
    | nil => rfl
    | cons p r ih =>
      cases r with
      | nil => simp [TL.joinL]
      | cons q r => rw [TL.joinL, ih]; simp
  exact key _
theorem sn_Empty : ("Empty" : Str) = ("RateError" : Str) ↔ False := iff_of_false (by decide) id
theorem sn_NoBelt : ("NoBelt" : Str) = ("RateError" : Str) ↔ False := iff_of_false (by decide) id
theorem sn_NoFit : ("NoFit" : Str) = ("RateError" : Str) ↔ False := iff_of_false (by decide) id
theorem sn_NoForm : ("NoForm" : Str) = ("RateError" : Str) ↔ False := iff_of_false (by decide) id
theorem sn_NoLine : ("NoLine" : Str) = ("RateError" : Str) ↔ False := iff_of_false (by decide) id
theorem sn_NoName : ("NoName" : Str) = ("RateError" : Str) ↔ False := iff_of_false (by decide) id
theorem sn_NoPieces : ("NoPieces" : Str) = ("RateError" : Str) ↔ False := iff_of_false (by decide) id
theorem sn_NoRate : ("NoRate" : Str) = ("RateError" : Str) ↔ False := iff_of_false (by decide) id
theorem sn_NoRoom : ("NoRoom" : Str) = ("RateError" : Str) ↔ False := iff_of_false (by decide) id
theorem sn_NoText : ("NoText" : Str) = ("RateError" : Str) ↔ False := iff_of_false (by decide) id
theorem sn_NoWork : ("NoWork" : Str) = ("RateError" : Str) ↔ False := iff_of_false (by decide) id
theorem sn_NotBalanced : ("NotBalanced" : Str) = ("RateError" : Str) ↔ False := iff_of_false (by decide) id
theorem sn_Stuck : ("Stuck" : Str) = ("RateError" : Str) ↔ False := iff_of_false (by decide) id
theorem sn_TooLong : ("TooLong" : Str) = ("RateError" : Str) ↔ False := iff_of_false (by decide) id
theorem sn_TooMuch : ("TooMuch" : Str) = ("RateError" : Str) ↔ False := iff_of_false (by decide) id
theorem sn_Twice : ("Twice" : Str) = ("RateError" : Str) ↔ False := iff_of_false (by decide) id
theorem now_at {G : Tab} {Γ : Nat → TSp} {p : Addr} {a : Nat} {ts : List T} {μ : Sto} {F : XP} {R : RP} : curG G Γ p a 999998 ts μ F R = R (.tup [.int (a : Nat), .own p]) μ := rfl
theorem cur_fn {G : Tab} {Γ : Nat → TSp} {p : Addr} {a f : Nat} (h : f < 999998) : curG G Γ p a f = Γ f := (if_neg (by omega)).trans (if_neg (by omega))
theorem cur_at {G : Tab} {Γ : Nat → TSp} {p : Addr} {a : Nat} : curG G Γ p a 999999 = S_cur G p a := if_pos rfl
theorem isx_at {G : Tab} {p : Addr} {a : Nat} {k : Int} {μ : Sto} {F : XP} {R : RP} (h : 0 ≤ k) : S_cur G p a [.own p, .int k] μ F R = ((exName G k.toNat).isSome = true ∧ R (.bl (subX G a k.toNat)) μ) := by
  apply propext
  constructor
  · rintro ⟨h', e, h1, h2⟩
    simp only [List.cons.injEq, T.int.injEq, and_true, true_and] at e
    have : k.toNat = h' := by omega
    rw [this]
    exact ⟨h1, h2⟩
  · rintro ⟨h1, h2⟩
    exact ⟨k.toNat, by rw [Int.toNat_of_nonneg h], h1, h2⟩
theorem cut_map {us : List Int} {lo hi : Option Int} : ∃ vs : List Int, cutT (us.map T.int) lo hi = vs.map T.int ∧ vs = (us.drop (HT.sIx us.length 0 lo)).take (HT.sIx us.length us.length hi - HT.sIx us.length 0 lo) := by
  refine ⟨_, ?_, rfl⟩
  unfold cutT
  rw [List.length_map, List.map_take, List.map_drop]
/-! ## 32. Dicts used as sets; loops over numbered things -/
def setD (ks : List Int) : List (Key × T) := ks.map fun k => (.inl k, .bl true)
def addK (ks : List Int) (k : Int) : List Int := if k ∈ ks then ks else ks ++ [k]
theorem mem_addK {ks : List Int} {k x : Int} : x ∈ addK ks k ↔ x ∈ ks ∨ x = k := by
  unfold addK
  split
  · rename_i h
    exact ⟨.inl, fun z => z.elim id fun e => e ▸ h⟩
  · rw [List.mem_append, List.mem_singleton]
theorem nodup_addK {ks : List Int} {k : Int} (h : ks.Nodup) : (addK ks k).Nodup := by
  unfold addK
  split
  · exact h
  · rename_i hk
    refine List.nodup_append.mpr ⟨h, List.pairwise_singleton _ _, fun a ha b hb => ?_⟩
    cases List.mem_singleton.mp hb
    exact fun e => hk (e ▸ ha)
theorem addK_len {ks : List Int} {k : Int} : ks.length ≤ (addK ks k).length := by
  unfold addK
  split
  · exact Nat.le_refl _
  · rw [List.length_append]
    omega
theorem nodup_le : ∀ (n : Nat) (ks : List Int), ks.Nodup → (∀ k ∈ ks, 0 ≤ k ∧ k < n) → ks.length ≤ n
  | 0, [], _, _ => Nat.le_refl _
  | 0, k :: _, _, h => by
    have := h k List.mem_cons_self
    omega
  | n + 1, ks, hn, h => by
    have := nodup_le n (ks.erase (n : Int)) (hn.erase _) fun k hk => by
      obtain ⟨h1, h2⟩ := hn.mem_erase_iff.mp hk
      have := h k h2
      omega
    rw [List.length_erase] at this
    split at this <;> omega
theorem any_setD {ks : List Int} {k : Int} : ((setD ks).any fun kv => decide (kv.1 = (.inl k : Key))) = decide (k ∈ ks) := by
  unfold setD
  rw [List.any_map, Bool.eq_iff_iff, List.any_eq_true, decide_eq_true_eq]
  constructor
  · rintro ⟨x, hx, e⟩
    have e := of_decide_eq_true e
    injection e with e
    exact e ▸ hx
  · intro h
    exact ⟨k, h, decide_eq_true rfl⟩
theorem put_setD {ks : List Int} {k : Int} : putT (setD ks) (.inl k) (.bl true) = setD (addK ks k) := by
  unfold putT
  rw [any_setD]
  unfold addK
  by_cases h : k ∈ ks
  · rw [if_pos (decide_eq_true h), if_pos h]
    unfold setD
    rw [List.map_map]
    refine List.map_congr_left fun x _ => ?_
    show (if (Sum.inl x : Key) = Sum.inl k then ((Sum.inl x : Key), T.bl true) else ((Sum.inl x : Key), T.bl true)) = _
    split <;> rfl
  · rw [if_neg (by rw [decide_eq_true_eq]; exact h), if_neg h]
    unfold setD
    rw [List.map_append]
    rfl
theorem val_setD {ks : List Int} {k : Int} : (valT (setD ks) (.inl k)).isSome = decide (k ∈ ks) := by
  unfold valT
  rw [Option.isSome_map, ← any_setD, Bool.eq_iff_iff, List.find?_isSome, List.any_eq_true]
theorem in_setD {μ : Sto} {p : Addr} {ks : List Int} {i : Int} {neg : Bool} {R : RP} (h : μ p = some (.dict (setD ks))) : tIn neg (.int i) (.own p) μ R = R (.bl (if neg = true then !decide (i ∈ ks) else decide (i ∈ ks))) μ := by
  simp only [tIn, isDict, h, onK, T.own.injEq, Option.some.injEq, Ob.dict.injEq, keyT, exists_eq_left', exists_and_left, val_setD]
theorem set_setD {μ : Sto} {p : Addr} {ks : List Int} {i : Int} {K : Sto → Prop} (h : μ p = some (.dict (setD ks))) : tSet (.own p) (.int i) (.bl true) μ K = (ks.length < sizeLine ∧ K (μ.set p (.dict (setD (addK ks i))))) := by
  have : (setD ks).length = ks.length := List.length_map _
  simp only [tSet, isDict, h, onK, T.own.injEq, Option.some.injEq, Ob.dict.injEq, keyT, exists_eq_left', exists_and_left, put_setD, this]
theorem for_enum {α : Type} {xs : List α} {f : α → T} {g : Tg} {body : SEnds → Ro → Sto → Prop} {gd : Sto → Prop} {D : SEnds} {ρ : Ro} {μ : Sto} (I : Nat → Ro → Sto → Prop) (h0 : I 0 ρ μ) (h1 : ∀ ρ μ, I xs.length ρ μ → gd μ ∧ D.nx ρ μ) (h2 : ∀ k x ρ μ, xs[k]? = some x → I k ρ μ → gd μ ∧ bindT g (.tup [.int (k : Nat), f x]) ρ μ fun ρ' =>
    body { D with nx := fun ρ2 μ2 => ∃ ρ3 μ3, Wk ρ2 μ2 ρ3 μ3 ∧ I (k + 1) ρ3 μ3, ct := fun ρ2 μ2 => ∃ ρ3 μ3, Wk ρ2 μ2 ρ3 μ3 ∧ I (k + 1) ρ3 μ3, bk := D.nx } ρ' μ) : forD g body ((xs.map f).zipIdx.map fun p => .tup [.int (p.2 : Nat), p.1]) gd D ρ μ := by
  have e : ((xs.map f).zipIdx.map fun p => T.tup [.int (p.2 : Nat), p.1]) = xs.zipIdx.map (fun p => T.tup [.int (p.2 : Nat), f p.1]) := by
    rw [List.zipIdx_map, List.map_map]
    rfl
  rw [e]
  refine for_map (xs := xs.zipIdx) I h0 (fun ρ μ h => h1 ρ μ (by rwa [List.length_zipIdx] at h)) fun k p ρ μ hk hI => ?_
  rw [List.getElem?_zipIdx, Option.map_eq_some_iff] at hk
  obtain ⟨x, hx, rfl⟩ := hk
  rw [show (0 + k : Nat) = k from Nat.zero_add k]
  exact h2 k x ρ μ hx hI
end Rh

namespace Lw
open PySem PySem.Spec PyProof.Rows L2 Rh
local macro_rules | `(tactic| simp_arith [$ls,*]) => `(tactic| simp only [Rh.now_at, Rh.upX, Rh.SEnds.off, Nat.reduceMod, Nat.reduceLT, Rh.cur_at, Rh.isx_at, Rh.exName, Option.isSome_some, Int.reduceToNat, Rh.subX, Nat.reduceEqDiff, Bool.or_true, Bool.true_or, Bool.or_false, Bool.false_or, Rh.sn_Empty, Rh.sn_NoBelt, Rh.sn_NoFit, Rh.sn_NoForm, Rh.sn_NoLine, Rh.sn_NoName, Rh.sn_NoPieces, Rh.sn_NoRate, Rh.sn_NoRoom, Rh.sn_NoText, Rh.sn_NoWork, Rh.sn_NotBalanced, Rh.sn_Stuck, Rh.sn_TooLong, Rh.sn_TooMuch, Rh.sn_Twice, decide_not, Int.toNat_natCast, Rh.bf_len, Rh.bf_sum, Rh.bf_max2, Rh.bf_min2, Rh.bf_max3, Rh.bf_min3, Rh.bf_max1, Rh.bf_itext, Rh.bf_sortT, Rh.bf_min1, Rh.bf_list_tup, Rh.bf_list_lst, Rh.bf_list_scr, Rh.bf_list_own, Rh.bf_tuple_tup, Rh.bf_tuple_lst, Rh.bf_tuple_own, Rh.bf_sorted, Rh.bf_all, Rh.bf_any, Rh.bf_str, Rh.bf_int, Rh.bf_intb, Rh.lm_append, Rh.lm_pop, Rh.lm_popAt, Rh.lm_extend, Rh.lm_index, Rh.lm_insert, Rh.lm_join, Rh.lm_split, Rh.lm_part, Rh.lm_starts, Rh.lm_count, Rh.lm_remove, Rh.ad_lst, Rh.rc_join, Rh.rc_split, Rh.rc_part, Rh.rc_starts, Rh.rc_append, Rh.rc_pop, Rh.rc_popAt, Rh.rc_extend, Rh.rc_index, Rh.rc_insert, Rh.rc_remove, Rh.rc_count, Nat.reduceSub, List.drop_succ_cons, Rh.set_self, Rh.ix_tup, Rh.ix_lst, Rh.ix_scr, Rh.ix_str, Rh.ix_own, Rh.ln_str, Rh.ln_tup, Rh.ln_lst, Rh.ln_scr, Rh.ln_own, Rh.dc_own, Rh.dc_lst, Rh.dc_scr, Rh.vl_lst, Rh.vl_scr, Rh.vl_own, Rh.sl_lst, Rh.sl_own, Rh.ad_int, Rh.ad_str, Rh.ad_tup, Rh.ml_int, Rh.ml_lst, Rh.slc_lst, Rh.slc_scr, Rh.slc_tup, Rh.ml_tup, Rh.ml_str, Rh.tr_non, Rh.tr_bl, Rh.tr_int, Rh.tr_str, Rh.tr_tup, Rh.tr_lst, Rh.tr_own, Rh.ag_add, Rh.ag_sub, Rh.up_tup, Rh.up_lst, Rh.up_own, Rh.eq_ints, Rh.T.str.injEq, Rh.eq_tup2, Rh.Ob.lst.injEq, Rh.Ob.dict.injEq, Rh.Ob.obj.injEq, List.length_map, List.length_append, List.length_range, Rh.den, Rh.dens, Rh.plain, Rh.cmpd, Rh.evs, Rh.boV, Rh.boT, Rh.bindT, Rh.bindTs, Rh.tCmp, Rh.eq_int, Rh.eq_str, Rh.eq_bl, Rh.tBin, Rh.in_str, Rh.FnI.rest, Rh.onL, Rh.onS, Rh.is_non, Rh.is_bl, Rh.is_int, Rh.is_str, Rh.is_tup, Rh.is_lst, Rh.is_own, Rh.iK_int_NoneType, Rh.iK_int_bool, Rh.iK_int_int, Rh.iK_int_str, Rh.iK_int_tuple, Rh.iK_int_list, Rh.iK_int_dict, Rh.iK_bool_NoneType, Rh.iK_bool_bool, Rh.iK_bool_int, Rh.iK_bool_str, Rh.iK_bool_tuple, Rh.iK_bool_list, Rh.iK_bool_dict, Rh.iK_str_NoneType, Rh.iK_str_bool, Rh.iK_str_int, Rh.iK_str_str, Rh.iK_str_tuple, Rh.iK_str_list, Rh.iK_str_dict, Rh.iK_list_NoneType, Rh.iK_list_bool, Rh.iK_list_int, Rh.iK_list_str, Rh.iK_list_tuple, Rh.iK_list_list, Rh.iK_list_dict, Rh.iK_tuple_NoneType, Rh.iK_tuple_bool, Rh.iK_tuple_int, Rh.iK_tuple_str, Rh.iK_tuple_tuple, Rh.iK_tuple_list, Rh.iK_tuple_dict, Rh.iK_dict_NoneType, Rh.iK_dict_bool, Rh.iK_dict_int, Rh.iK_dict_str, Rh.iK_dict_tuple, Rh.iK_dict_list, Rh.iK_dict_dict, Rh.at_0, Rh.at_1, Rh.at_2, Rh.at_3, Rh.at_4, Rh.at_last, Rh.scr_inj, Rh.cdiv_lit, Rh.mul_litR, Rh.mul_litL, Int.reduceLT, Int.reduceLE, Int.le_refl, and_assoc, exists_eq, exists_eq', Bool.not_eq_false', Bool.not_eq_true', Bool.not_eq_true, Bool.not_eq_false, decide_eq_true_eq, decide_eq_false_iff_not, Decidable.not_not, Rh.nil_den, Bool.not_true, Bool.not_false, decide_true, decide_false, if_false, Rh.optI, Rh.isNon, Rh.itT, Rh.onM, Rh.newL, Rh.tSet, List.cons_append, List.nil_append, List.append_nil, List.length_cons, List.length_nil, List.getElem?_cons_zero, List.getElem?_cons_succ, List.map_cons, List.map_nil, List.drop_nil, List.drop_zero, List.set_cons_zero, List.set_cons_succ, List.replicate, List.cons.injEq, Option.some.injEq, Rh.T.int.injEq, Rh.T.bl.injEq, Rh.T.own.injEq, Rh.T.tup.injEq, Rh.T.lst.injEq, exists_eq_left, exists_eq_left', exists_eq_right, exists_and_left, and_true, true_and, Rh.xp_mk, Rh.bodyD, if_true, reduceIte, Bool.false_eq_true, not_false_eq_true, not_true_eq_false, Int.natCast_one, Int.natCast_zero, Int.cast_ofNat_Int, Nat.reduceAdd, Nat.reduceLeDiff, Rh.sz, Int.reduceEq, ne_eq, Int.toNat_zero, Rh.emod_nn, Rh.emod_lt, Rh.nat_nn, $ls,*])
theorem gcd_parts {a b : Int} (ha : 0 < a) (hb : 0 < b) : ∃ g x y : Int, (Int.gcd a b : Int) = g ∧ 0 < g ∧ 0 < x ∧ 0 < y ∧ a = g * x ∧ b = g * y ∧ Int.gcd x y = 1 := by
  have hg : 0 < Int.gcd a b := Int.gcd_pos_of_ne_zero_left _ (by omega)
  have hg' : (0:Int) < (Int.gcd a b : Int) := by omega
  obtain ⟨x, hx⟩ := Int.gcd_dvd_left (a := a) (b := b)
  obtain ⟨y, hy⟩ := Int.gcd_dvd_right (a := a) (b := b)
  refine ⟨_, x, y, rfl, hg', ?_, ?_, hx, hy, ?_⟩
  · exact Int.pos_of_mul_pos_right (hx ▸ ha) (by omega)
  · exact Int.pos_of_mul_pos_right (hy ▸ hb) (by omega)
  · have h := Int.gcd_mul_left (Int.gcd a b) x y
    rw [← hx, ← hy] at h
    simp only [Int.natAbs_natCast] at h
    exact Nat.eq_of_mul_eq_mul_left hg (by rw [Nat.mul_one]; exact h.symm)
theorem gcd_last {t a c : Int} (ht : 0 < t) : (Int.gcd (t * a) (t * (a * c + 1)) : Int) = t := by
  rw [Int.gcd_mul_left]
  have : Int.gcd a (a * c + 1) = 1 := by
    have h1 := Int.gcd_dvd_left (a := a) (b := a * c + 1)
    have h2 := Int.gcd_dvd_right (a := a) (b := a * c + 1)
    have h3 : (Int.gcd a (a * c + 1) : Int) ∣ 1 := by
      have := Int.dvd_sub h2 (Int.dvd_mul_of_dvd_left (c := c) h1)
      rwa [show a * c + 1 - a * c = 1 by omega] at this
    exact Int.natCast_dvd_natCast.mp h3 |> Nat.dvd_one.mp
  rw [this]
  omega
def rat (a b : Int) : Int × Int := (a / (Int.gcd a b : Int), b / (Int.gcd a b : Int))
theorem rat_spec {a b : Int} (ha : 0 < a) (hb : 0 < b) : 0 < (rat a b).1 ∧ 0 < (rat a b).2 ∧ Int.gcd (rat a b).1 (rat a b).2 = 1 ∧ (rat a b).1 * b = (rat a b).2 * a ∧ (rat a b).1 ≤ a ∧ (rat a b).2 ≤ b := by
  obtain ⟨g, x, y, e, hg, hx, hy, ea, eb, h1⟩ := gcd_parts ha hb
  unfold rat
  rw [e]
  subst ea eb
  simp only [Int.mul_ediv_cancel_left _ (show g ≠ 0 by omega)]
  refine ⟨hx, hy, h1, by rw [← Int.mul_assoc, ← Int.mul_assoc, Int.mul_comm x g, Int.mul_comm y g, Int.mul_assoc, Int.mul_assoc, Int.mul_comm x y], ?_, ?_⟩
  · exact Int.le_of_dvd (by assumption) ⟨g, Int.mul_comm _ _⟩
  · exact Int.le_of_dvd (by assumption) ⟨g, Int.mul_comm _ _⟩
theorem rat_mul {a b e : Int} (he : 0 < e) : rat (a * e) (b * e) = rat a b := by
  unfold rat
  rw [Int.gcd_mul_right]
  have : ((Int.gcd a b * e.natAbs : Nat) : Int) = (Int.gcd a b : Int) * e := by
    rw [Int.natCast_mul]
    congr 1
    omega
  rw [this]
  rw [Int.mul_ediv_mul_of_pos_left _ _ he, Int.mul_ediv_mul_of_pos_left _ _ he]
theorem rat_inv {x y : Int} (hx : 0 < x) (hy : 0 < y) : rat (x * y) (y * x) = (1, 1) := by
  unfold rat
  rw [Int.mul_comm y x]
  have h : 0 < x * y := Int.mul_pos hx hy
  have e : (Int.gcd (x * y) (x * y) : Int) = x * y := by
    rw [Int.gcd_self]
    omega
  rw [e, Int.ediv_self (by omega)]
theorem times_is {a b c d x y z w : Int} (hx : 0 < x) (hy : 0 < y) (hz : 0 < z) (hw : 0 < w) (h1 : x * b = y * a) (h2 : z * d = w * c) : (rat (x * z) (y * w)).1 * (b * d) = (rat (x * z) (y * w)).2 * (a * c) := by
  obtain ⟨p, q, _, e, _⟩ := rat_spec (Int.mul_pos hx hz) (Int.mul_pos hy hw)
  -- r1 * (y w) = r2 * (x z)
  generalize (rat (x * z) (y * w)).1 = r at *
  generalize (rat (x * z) (y * w)).2 = s at *
  have hyw : y * w ≠ 0 := Int.ne_of_gt (Int.mul_pos hy hw)
  apply Int.eq_of_mul_eq_mul_left hyw
  calc (y * w) * (r * (b * d)) = (r * (y * w)) * (b * d) := by ac_rfl
    _ = (s * (x * z)) * (b * d) := by rw [e]
    _ = s * ((x * b) * (z * d)) := by ac_rfl
    _ = s * ((y * a) * (w * c)) := by rw [h1, h2]
    _ = (y * w) * (s * (a * c)) := by ac_rfl
structure Ln where
  g : Int
  t : Int
  gi : Int
  ta : Int
  st : Int
  deriving DecidableEq
def Ln.tr (l : Ln) : T := .tup [.int l.g, .int l.t, .int l.gi, .int l.ta, .int l.st]
instance : Tt Ln where
  tt := Ln.tr
  dd l := .tuple [.int l.g, .int l.t, .int l.gi, .int l.ta, .int l.st]
  ok _ := True
  lv := 1
  dat μ n l h := by
    match n, h with
    | n + 2, _ => rfl
  eqv a b := by
    simp only [PyData.eqv, PyData.eqvAll, beqd, Bool.and_true, ← Bool.decide_and]
    exact decide_eq_decide.mpr ⟨fun ⟨h1, h2, h3, h4, h5⟩ => by cases a; cases b; simp_all, fun e => by rw [e]; simp⟩
  lay _ _ := rfl
  dep _ := Nat.le_refl _
/-- a hall in the store -/
structure HallAt (μ : Sto) (h l1 l2 : Addr) (ns : List Str) (ls : List Ln) : Prop where
  o : μ h = some (.obj 3 [.own l1, .own l2])
  w : μ l1 = some (.lst (ns.map T.str))
  b : μ l2 = some (.lst (ls.map Ln.tr))
  ne : l1 ≠ l2
theorem HallAt.h1 {μ : Sto} {h l1 l2 : Addr} {ns : List Str} {ls : List Ln} (H : HallAt μ h l1 l2 ns ls) : h ≠ l1 := fun e => by
  have := H.w
  rw [← e, H.o] at this
  cases this
theorem HallAt.h2 {μ : Sto} {h l1 l2 : Addr} {ns : List Str} {ls : List Ln} (H : HallAt μ h l1 l2 ns ls) : h ≠ l2 := fun e => by
  have := H.b
  rw [← e, H.o] at this
  cases this
theorem HallAt.put {μ : Sto} {h l1 l2 p : Addr} {ns : List Str} {ls : List Ln} {ob : Ob} (H : HallAt μ h l1 l2 ns ls) (a : h ≠ p) (b : l1 ≠ p) (c : l2 ≠ p) : HallAt (μ.set p ob) h l1 l2 ns ls :=
  ⟨by rw [set_ne a]; exact H.o, by rw [set_ne b]; exact H.w, by rw [set_ne c]; exact H.b, H.ne⟩
theorem HallAt.fresh {μ : Sto} {h l1 l2 p : Addr} {ns : List Str} {ls : List Ln} {ob : Ob} (H : HallAt μ h l1 l2 ns ls) (hp : μ p = none) : HallAt (μ.set p ob) h l1 l2 ns ls :=
  H.put (nofr H.o hp) (nofr H.w hp) (nofr H.b hp)
theorem HallAt.addW {μ : Sto} {h l1 l2 : Addr} {ns : List Str} {ls : List Ln} (H : HallAt μ h l1 l2 ns ls) (n : Str) : HallAt (μ.set l1 (.lst (ns.map T.str ++ [.str n]))) h l1 l2 (ns ++ [n]) ls :=
  ⟨by rw [set_ne H.h1]; exact H.o, by rw [set_self, List.map_append]; rfl, by rw [set_ne H.ne.symm]; exact H.b, H.ne⟩
theorem HallAt.addB {μ : Sto} {h l1 l2 : Addr} {ns : List Str} {ls : List Ln} (H : HallAt μ h l1 l2 ns ls) (l : Ln) : HallAt (μ.set l2 (.lst (ls.map Ln.tr ++ [l.tr]))) h l1 l2 ns (ls ++ [l]) :=
  ⟨by rw [set_ne H.h2]; exact H.o, by rw [set_ne H.ne]; exact H.w, by rw [set_self, List.map_append]; rfl, H.ne⟩
theorem HallAt.init {μ : Sto} {h l1 l2 : Addr} (e1 : (μ.set h (.obj 3 [])) l1 = none) (e2 : (μ.set h (.obj 3 [])) l2 = none) (ne : ¬ l1 = l2) : HallAt ((((μ.set h (.obj 3 [])).set l1 (.lst [])).set l2 (.lst [])).set h (.obj 3 [.own l1, .own l2])) h l1 l2 [] [] := by
  have n1 : l1 ≠ h := fun e => by
    rw [e, set_self] at e1
    cases e1
  have n2 : l2 ≠ h := fun e => by
    rw [e, set_self] at e2
    cases e2
  exact ⟨set_self, by rw [set_ne n1, set_ne ne, set_self]; rfl, by rw [set_ne n2, set_self]; rfl, ne⟩
def abc : Str := "abcdefghijklmnopqrstuvwxyz"
def isName (s : Str) : Bool := decide (1 ≤ s.length) && decide (s.length ≤ 8) && s.cps.toList.all fun c => decide (c ∈ abc.cps.toList)
def isNameT : T → Bool
  | .str s => isName s
  | _ => false
theorem isName_iff {s : Str} : isName s = true ↔ 1 ≤ s.cps.toList.length ∧ s.cps.toList.length ≤ 8 ∧ ∀ c ∈ s.cps.toList, c ∈ abc.cps.toList := by
  unfold isName
  simp only [Bool.and_eq_true, decide_eq_true_eq, List.all_eq_true, Array.length_toList]
  exact ⟨fun ⟨⟨a, b⟩, c⟩ => ⟨a, b, c⟩, fun ⟨a, b, c⟩ => ⟨⟨a, b⟩, c⟩⟩
theorem abc_ok : ∀ c ∈ abc.cps.toList, c < 0x110000 := by decide +kernel
theorem isName_ok {s : Str} (h : isName s = true) : sOk s ∧ s.length ≤ 8 := by
  obtain ⟨a, b, c⟩ := isName_iff.mp h
  refine ⟨?_, by rw [Array.length_toList] at b; exact b⟩
  unfold sOk
  rw [← Array.all_toList, List.all_eq_true]
  intro x hx
  exact decide_eq_true (abc_ok x (c x hx))
theorem HallAt.setB {μ : Sto} {h l1 l2 : Addr} {ns : List Str} {ls : List Ln} (H : HallAt μ h l1 l2 ns ls) (i : Nat) (l : Ln) : HallAt (μ.set l2 (.lst ((ls.map Ln.tr).set i l.tr))) h l1 l2 ns (ls.set i l) :=
  ⟨by rw [set_ne H.h2]; exact H.o, by rw [set_ne H.ne]; exact H.w, by rw [set_self, List.map_set], H.ne⟩
/-- the places at which something holds, rising -/
def spots (p : Ln → Bool) (ls : List Ln) : List Int := ((List.range ls.length).filter fun i => (ls[i]?).any p).map fun i : Nat => (i : Int)
theorem zip_spots {α : Type} (p : α → Bool) : ∀ (ls : List α) (k : Nat), ((ls.zipIdx k).filter fun x => p x.1).map (·.2) = ((List.range ls.length).filter fun i => (ls[i]?).any p).map (· + k)
  | [], _ => rfl
  | a :: r, k => by
    rw [List.zipIdx_cons, List.length_cons, List.range_succ_eq_map, List.filter_cons, List.filter_cons, List.filter_map]
    have e : ((fun i => ((a :: r)[i]?).any p) ∘ Nat.succ) = fun i => (r[i]?).any p := rfl
    have ih := zip_spots p r (k + 1)
    rw [e]
    show (if p a = true then (a, k) :: ((r.zipIdx (k + 1)).filter fun x => p x.1) else (r.zipIdx (k + 1)).filter fun x => p x.1).map (·.2) = (if p a = true then 0 :: (((List.range r.length).filter fun i => (r[i]?).any p).map Nat.succ) else ((List.range r.length).filter fun i => (r[i]?).any p).map Nat.succ).map (· + k)
    have e2 : (((List.range r.length).filter fun i => (r[i]?).any p).map Nat.succ).map (· + k) = ((List.range r.length).filter fun i => (r[i]?).any p).map (· + (k + 1)) := by
      rw [List.map_map]
      refine List.map_congr_left fun i _ => ?_
      show i + 1 + k = i + (k + 1)
      omega
    split
    · rw [List.map_cons, List.map_cons, ih, e2, Nat.zero_add]
    · rw [ih, e2]
def chg (cs : List Int) (l : Ln) : Int := l.gi * cnt cs l.g - l.ta * cnt cs l.t
def higher (cs : List Int) (l : Ln) : Int := l.st + l.gi * (Rh.cnt cs l.g + 1) - l.ta * Rh.cnt cs l.t
def raise1 (ls : List Ln) (rooms cs : List Int) (n : Int) : Option (List Int) := if 0 ≤ n - ls.length then (ls[(n - ls.length).toNat]?).map fun l => rooms.set (n - ls.length).toNat (higher cs l) else none
def lin (xs : List Int) : T := .lst (xs.map T.int)
structure RaiseOk (ls : List Ln) (rooms cs ring : List Int) : Prop where
  len : rooms.length = ls.length
  r : ∀ n ∈ ring, 0 ≤ n ∧ n < 2 * ls.length
  c : ∀ l ∈ ls, 0 ≤ Ln.g l ∧ l.g < cs.length ∧ 0 ≤ l.t ∧ l.t < cs.length ∧ MulOk l.gi (Rh.cnt cs l.g + 1) ∧ MulOk l.ta (Rh.cnt cs l.t)
  sz : ls.length ≤ 1000
  rl : ring.length ≤ 1000
def rdy (ls : List Ln) (hs : List Int) (w : Int) : Bool := (ls.zip hs).all fun p => !(decide (p.1.t = w) && decide (p.2 < p.1.ta))
def shf (l : Ln) (h w : Int) : Int := (if l.g = w then (if l.t = w then h - l.ta else h) + l.gi else (if l.t = w then h - l.ta else h))
def shiftL (ls : List Ln) (hs : List Int) (w : Int) : List Int := (ls.zip hs).map fun p => shf p.1 p.2 w
def flr (ls : List Ln) (many : Int) (hs : List Int) : Ob := .obj 2 [.lst (ls.map Ln.tr), .int many, .lst (hs.map T.int)]
def goR (ls : List Ln) (many : Int) : List Int → List Int → Except Nat (List Int)
  | [], hs => .ok hs
  | w :: r, hs => if 0 ≤ w ∧ w < many then (if rdy ls hs w = true then goR ls many r (shiftL ls hs w) else .error 0) else .error 10
theorem shiftL_len {ls : List Ln} {hs : List Int} {w : Int} (h : hs.length = ls.length) : (shiftL ls hs w).length = ls.length := by
  unfold shiftL
  rw [List.length_map, List.length_zip, h, Nat.min_self]
theorem goR_err {ls : List Ln} {m : Int} : ∀ {row hs : List Int} {e : Nat}, goR ls m row hs = .error e → e = 10 ∨ e = 0
  | [], _, _, h => by cases h
  | w :: r, hs, e, h => by
    rw [goR] at h
    split at h
    · split at h
      · exact goR_err h
      · cases h
        exact .inr rfl
    · cases h
      exact .inl rfl
theorem goR_app {ls : List Ln} {m : Int} : ∀ {a b hs hs' : List Int}, goR ls m a hs = .ok hs' → goR ls m (a ++ b) hs = goR ls m b hs'
  | [], _, _, _, h => by cases h; rfl
  | w :: r, b, hs, hs', h => by
    rw [goR] at h
    rw [List.cons_append, goR]
    split at h
    · rename_i h0
      rw [if_pos h0]
      split at h
      · rename_i h1
        rw [if_pos h1]
        exact goR_app h
      · cases h
    · cases h
theorem goR_len {ls : List Ln} {m : Int} : ∀ {row hs hs' : List Int}, hs.length = ls.length → goR ls m row hs = .ok hs' → hs'.length = ls.length
  | [], _, _, e, h => by cases h; exact e
  | w :: r, hs, hs', e, h => by
    rw [goR] at h
    split at h
    · split at h
      · exact goR_len (shiftL_len e) h
      · cases h
    · cases h
theorem zip_tr (ls : List Ln) (hs : List Int) : ((ls.map Ln.tr).zip (hs.map T.int)).map (fun p : T × T => T.tup [p.1, p.2]) = (ls.zip hs).map fun p => T.tup [p.1.tr, .int p.2] := by
  rw [List.zip_map, List.map_map]
  rfl
def bmax (a b : Int) : Int := if b > a then b else a
def pk1 (ls : List Ln) (hs ms : List Int) (w : Int) : List Int := ((ls.zip hs).zip ms).map fun p => if p.1.1.g = w then bmax p.2 (p.1.2 + p.1.1.gi) else p.2
def pkL (ls : List Ln) : List Int → List Int → List Int → List Int
  | [], _, ms => ms
  | w :: r, hs, ms => pkL ls r (shiftL ls hs w) (pk1 ls hs ms w)
theorem pk1_len {ls : List Ln} {hs ms : List Int} {w : Int} (h : hs.length = ls.length) (k : ms.length = ls.length) : (pk1 ls hs ms w).length = ls.length := by
  unfold pk1
  rw [List.length_map, List.length_zip, List.length_zip, h, k, Nat.min_self, Nat.min_self]
theorem pk1_at {ls : List Ln} {hs ms : List Int} {w : Int} {i : Nat} {l : Ln} {h m : Int} (el : ls[i]? = some l) (eh : hs[i]? = some h) (em : ms[i]? = some m) : (pk1 ls hs ms w)[i]? = some (if l.g = w then bmax m (h + l.gi) else m) := by
  unfold pk1
  rw [List.getElem?_map, (List.getElem?_zip_eq_some (z := ((l, h), m))).mpr ⟨(List.getElem?_zip_eq_some (z := (l, h))).mpr ⟨el, eh⟩, em⟩]
  rfl
theorem goR_work {ls : List Ln} {m : Int} : ∀ {row hs : List Int} {hs' : List Int}, goR ls m row hs = .ok hs' → ∀ w ∈ row, 0 ≤ w ∧ w < m
  | [], _, _, _, w, hw => by cases hw
  | v :: r, hs, hs', h, w, hw => by
    rw [goR] at h
    split at h
    · rename_i h0
      split at h
      · rcases List.mem_cons.mp hw with rfl | hw
        · exact h0
        · exact goR_work h w hw
      · cases h
    · cases h
theorem spots_mem {p : Ln → Bool} {ls : List Ln} {x : Int} : x ∈ spots p ls ↔ ∃ i : Nat, x = (i : Int) ∧ ∃ l, ls[i]? = some l ∧ p l = true := by
  unfold spots
  rw [List.mem_map]
  constructor
  · rintro ⟨i, hi, rfl⟩
    obtain ⟨h1, h2⟩ := List.mem_filter.mp hi
    have h3 := List.mem_range.mp h1
    rw [List.getElem?_eq_getElem h3] at h2
    exact ⟨i, rfl, _, List.getElem?_eq_getElem h3, h2⟩
  · rintro ⟨i, rfl, l, e, h⟩
    refine ⟨i, List.mem_filter.mpr ⟨List.mem_range.mpr (List.getElem?_eq_some_iff.mp e).1, ?_⟩, rfl⟩
    rw [e]
    exact h
theorem spots_nodup {p : Ln → Bool} {ls : List Ln} : (spots p ls).Nodup := by
  unfold spots
  refine List.Pairwise.map _ (fun a b (h : a ≠ b) => ?_) (List.Pairwise.filter _ List.nodup_range)
  intro z
  exact h (by omega)
theorem nodup_at {xs : List Int} (h : xs.Nodup) {k : Nat} {x : Int} (e : xs[k]? = some x) : x ∉ xs.take k := by
  intro hm
  obtain ⟨j, hj, e2⟩ := List.mem_iff_getElem.mp hm
  rw [List.length_take] at hj
  rw [List.getElem_take] at e2
  obtain ⟨hk, e3⟩ := List.getElem?_eq_some_iff.mp e
  have := (List.getElem_inj (h₀ := by omega) (h₁ := hk) h).mp (e2.trans e3.symm)
  omega
/-- two works joined by an edge -/
def Adj (es : List (Int × Int)) (a b : Int) : Prop := (a, b) ∈ es ∨ (b, a) ∈ es
inductive Con (es : List (Int × Int)) (a : Int) : Int → Prop
  | refl : Con es a a
  | step {b c : Int} : Con es a b → Adj es b c → Con es a c
theorem Adj.symm {es : List (Int × Int)} {a b : Int} (h : Adj es a b) : Adj es b a := Or.symm h
theorem Con.trans {es : List (Int × Int)} {a b c : Int} (h : Con es a b) (k : Con es b c) : Con es a c := by
  induction k with
  | refl => exact h
  | step _ e ih => exact ih.step e
theorem Con.one {es : List (Int × Int)} {a b : Int} (h : Adj es a b) : Con es a b := Con.refl.step h
theorem Con.symm {es : List (Int × Int)} {a b : Int} (h : Con es a b) : Con es b a := by
  induction h with
  | refl => exact .refl
  | step _ e ih => exact (Con.one e.symm).trans ih
/-- an edge's ends lie in their range -/
def Inr (es : List (Int × Int)) (n : Nat) : Prop := ∀ e ∈ es, (0 ≤ e.1 ∧ e.1 < n) ∧ (0 ≤ e.2 ∧ e.2 < n)
theorem Adj.inr {es : List (Int × Int)} {n : Nat} {a b : Int} (hi : Inr es n) (h : Adj es a b) : (0 ≤ a ∧ a < n) ∧ (0 ≤ b ∧ b < n) := by
  rcases h with h | h
  · exact hi _ h
  · exact (hi _ h).symm
theorem Con.inr {es : List (Int × Int)} {n : Nat} {a b : Int} (hi : Inr es n) (h : Con es a b) (ha : 0 ≤ a ∧ a < n) : 0 ≤ b ∧ b < n := by
  cases h with
  | refl => exact ha
  | step _ e => exact (e.inr hi).2
open Classical in
/-- a work's piece, rising -/
noncomputable def compL (es : List (Int × Int)) (n : Nat) (a : Int) : List Int := ((List.range n).map fun i : Nat => (i : Int)).filter fun b => decide (Con es a b)
/-- the first work of its piece -/
def Fst (es : List (Int × Int)) (a : Int) : Prop := ∀ u, Con es a u → a ≤ u
open Classical in
noncomputable def firsts (es : List (Int × Int)) (n : Nat) : List Int := ((List.range n).map fun i : Nat => (i : Int)).filter fun a => decide (Fst es a)
noncomputable def piecesOf (es : List (Int × Int)) (n : Nat) : List (List Int) := (firsts es n).map (compL es n)
theorem rngI_mem {n : Nat} {x : Int} : x ∈ ((List.range n).map fun i : Nat => (i : Int)) ↔ 0 ≤ x ∧ x < n := by
  rw [List.mem_map]
  constructor
  · rintro ⟨i, hi, rfl⟩
    have := List.mem_range.mp hi
    omega
  · intro h
    exact ⟨x.toNat, List.mem_range.mpr (by omega), by omega⟩
theorem rngI_lt {n : Nat} : ((List.range n).map fun i : Nat => (i : Int)).Pairwise (· < ·) := List.Pairwise.map _ (fun a b (h : a < b) => by omega) List.pairwise_lt_range
open Classical in
theorem compL_mem {es : List (Int × Int)} {n : Nat} {a b : Int} (hi : Inr es n) (ha : 0 ≤ a ∧ a < n) : b ∈ compL es n a ↔ Con es a b := by
  unfold compL
  rw [List.mem_filter, rngI_mem, decide_eq_true_eq]
  exact ⟨fun h => h.2, fun h => ⟨h.inr hi ha, h⟩⟩
theorem compL_lt {es : List (Int × Int)} {n : Nat} {a : Int} : (compL es n a).Pairwise (· < ·) := List.Pairwise.filter _ rngI_lt
theorem nodup_of_lt {xs : List Int} (h : xs.Pairwise (· < ·)) : xs.Nodup := h.imp fun h => by omega
theorem rise_eq {xs ys : List Int} (h1 : xs.Nodup) (h2 : xs.Pairwise (· ≤ ·)) (h3 : ys.Pairwise (· < ·)) (h : ∀ a, a ∈ xs ↔ a ∈ ys) : xs = ys :=
  List.Perm.eq_of_pairwise (le := (· ≤ ·)) (fun a b _ _ h1 h2 => Int.le_antisymm h1 h2) h2 (h3.imp fun h => Int.le_of_lt h) ((List.perm_ext_iff_of_nodup h1 (nodup_of_lt h3)).mpr h)
/-- what the search knows -/
structure RInv (es : List (Int × Int)) (n : Nat) (first : Int) (P : Int → Prop) (ks td : List Int) : Prop where
  nd : ks.Nodup
  con : ∀ x ∈ ks, Con es first x
  bd : ∀ x ∈ ks, 0 ≤ x ∧ x < n
  sub : ∀ x ∈ td, x ∈ ks
  f : first ∈ ks
  cl : ∀ x ∈ ks, x ∉ td → ¬ P x → ∀ y, Adj es x y → y ∈ ks
theorem RInv.add {es : List (Int × Int)} {n : Nat} {first w x : Int} {P : Int → Prop} {ks td : List Int} (h : RInv es n first P ks td) (hi : Inr es n) (hx : x ∉ ks) (hw : w ∈ ks) (ha : Adj es w x) : RInv es n first P (ks ++ [x]) (td ++ [x]) where
  nd := by
    have := nodup_addK (k := x) h.nd
    rwa [addK, if_neg hx] at this
  con y hy := by
    rcases List.mem_append.mp hy with hy | hy
    · exact h.con y hy
    · cases List.mem_singleton.mp hy
      exact (h.con w hw).step ha
  bd y hy := by
    rcases List.mem_append.mp hy with hy | hy
    · exact h.bd y hy
    · cases List.mem_singleton.mp hy
      exact (ha.inr hi).2
  sub y hy := by
    rcases List.mem_append.mp hy with hy | hy
    · exact List.mem_append.mpr (.inl (h.sub y hy))
    · exact List.mem_append.mpr (.inr hy)
  f := List.mem_append.mpr (.inl h.f)
  cl y hy hn hp z hz := by
    rcases List.mem_append.mp hy with hy | hy
    · exact List.mem_append.mpr (.inl (h.cl y hy (fun z => hn (List.mem_append.mpr (.inl z))) hp z hz))
    · exact absurd (List.mem_append.mpr (.inr hy)) hn
theorem RInv.end_ {es : List (Int × Int)} {n : Nat} {first : Int} {ks ys : List Int} (h : RInv es n first (fun _ => False) ks []) (hi : Inr es n) (hp : ys.Perm ks) (hs : ys.Pairwise (· ≤ ·)) : ys = compL es n first := by
  refine rise_eq (hp.nodup_iff.mpr h.nd) hs compL_lt fun a => ?_
  rw [hp.mem_iff, compL_mem hi (h.bd _ h.f)]
  refine ⟨h.con a, fun hc => ?_⟩
  induction hc with
  | refl => exact h.f
  | step _ e ih => exact h.cl _ ih List.not_mem_nil id _ e
/-! labels -/
def low (xs : List Int) (e : Int × Int) : Int := if cnt xs e.2 < cnt xs e.1 then cnt xs e.2 else cnt xs e.1
def rlx (xs : List Int) (e : Int × Int) : List Int := (xs.set e.1.toNat (low xs e)).set e.2.toNat (low xs e)
theorem cnt_set {xs : List Int} {i j v : Int} (h0 : 0 ≤ i) (h1 : i < xs.length) (h2 : 0 ≤ j) : cnt (xs.set i.toNat v) j = if i = j then v else cnt xs j := by
  unfold Rh.cnt
  rw [List.getElem?_set]
  by_cases e : i = j
  · subst e
    rw [if_pos rfl, if_pos (by omega), if_pos rfl]
    rfl
  · rw [if_neg (by omega), if_neg e]
structure Lab (es : List (Int × Int)) (n : Nat) (xs : List Int) : Prop where
  len : xs.length = n
  con : ∀ i : Int, 0 ≤ i → i < n → Con es i (cnt xs i)
theorem rlx_len {xs : List Int} {e : Int × Int} : (rlx xs e).length = xs.length := by
  unfold rlx
  rw [List.length_set, List.length_set]
theorem rlx_at {xs : List Int} {e : Int × Int} {n : Nat} (hl : xs.length = n) (he : (0 ≤ e.1 ∧ e.1 < n) ∧ (0 ≤ e.2 ∧ e.2 < n)) {j : Int} (hj : 0 ≤ j) : cnt (rlx xs e) j = if j = e.1 ∨ j = e.2 then (low xs e) else cnt xs j := by
  unfold rlx
  rw [cnt_set he.2.1 (by rw [List.length_set]; omega) hj, cnt_set he.1.1 (by omega) hj]
  by_cases h1 : e.2 = j
  · rw [if_pos h1, if_pos (.inr h1.symm)]
  · rw [if_neg h1]
    by_cases h2 : e.1 = j
    · rw [if_pos h2, if_pos (.inl h2.symm)]
    · rw [if_neg h2, if_neg (fun z => z.elim (fun z => h2 z.symm) (fun z => h1 z.symm))]
theorem Lab.rlx {es : List (Int × Int)} {n : Nat} {xs : List Int} {e : Int × Int} (h : Lab es n xs) (hi : Inr es n) (he : e ∈ es) : Lab es n (rlx xs e) where
  len := rlx_len.trans h.len
  con i h0 h1 := by
    have hr := hi e he
    rw [rlx_at h.len hr h0]
    have e1 : Con es e.1 e.2 := .one (.inl he)
    have c1 := h.con _ hr.1.1 hr.1.2
    have c2 := h.con _ hr.2.1 hr.2.2
    have lo : Con es e.1 (low xs e) := by
      unfold low
      split
      · exact e1.trans c2
      · exact c1
    split
    · rename_i z
      rcases z with rfl | rfl
      · exact lo
      · exact e1.symm.trans lo
    · exact h.con i h0 h1
theorem rlx_keep {es : List (Int × Int)} {n : Nat} {xs : List Int} {e : Int × Int} {m i : Int} (h : Lab es n xs) (hi : Inr es n) (he : e ∈ es) (hm : Fst es m) (h0 : 0 ≤ i) (h1 : i < n) (hx : cnt xs i = m) : cnt (Lw.rlx xs e) i = m := by
  have hl := (h.rlx hi he).con i h0 h1
  have hr := hi e he
  have hc := h.con i h0 h1
  rw [hx] at hc
  have ge := hm _ (hc.symm.trans hl)
  have : cnt (Lw.rlx xs e) i ≤ cnt xs i := by
    rw [rlx_at h.len hr h0]
    split
    · rename_i z
      unfold low
      rcases z with rfl | rfl
      · split <;> omega
      · split <;> omega
    · exact Int.le_refl _
  omega
theorem rlx_both {es : List (Int × Int)} {n : Nat} {xs : List Int} {e : Int × Int} {m : Int} (h : Lab es n xs) (hi : Inr es n) (he : e ∈ es) (hm : Fst es m) (hx : cnt xs e.1 = m ∨ cnt xs e.2 = m) : cnt (Lw.rlx xs e) e.1 = m ∧ cnt (Lw.rlx xs e) e.2 = m := by
  have hr := hi e he
  have e1 := rlx_at (e := e) h.len hr hr.1.1
  have e2 := rlx_at (e := e) h.len hr hr.2.1
  rw [if_pos (.inl rfl)] at e1
  rw [if_pos (.inr rfl)] at e2
  rcases hx with hx | hx
  · have := rlx_keep h hi he hm hr.1.1 hr.1.2 hx
    rw [e2, ← e1]
    exact ⟨this, this⟩
  · have := rlx_keep h hi he hm hr.2.1 hr.2.2 hx
    rw [e1, ← e2]
    exact ⟨this, this⟩
theorem lap_lab {es : List (Int × Int)} {n : Nat} (hi : Inr es n) : ∀ (fs : List (Int × Int)) {xs : List Int}, (∀ e ∈ fs, e ∈ es) → Lab es n xs → Lab es n (fs.foldl rlx xs)
  | [], _, _, h => h
  | e :: fs, _, hs, h => lap_lab hi fs (fun x hx => hs x (List.mem_cons_of_mem _ hx)) (h.rlx hi (hs e List.mem_cons_self))
theorem lap_keep {es : List (Int × Int)} {n : Nat} {m i : Int} (hi : Inr es n) (hm : Fst es m) (h0 : 0 ≤ i) (h1 : i < n) : ∀ (fs : List (Int × Int)) {xs : List Int}, (∀ e ∈ fs, e ∈ es) → Lab es n xs → cnt xs i = m → cnt (fs.foldl rlx xs) i = m
  | [], _, _, _, h => h
  | e :: fs, _, hs, h, hx => lap_keep hi hm h0 h1 fs (fun x hx => hs x (List.mem_cons_of_mem _ hx)) (h.rlx hi (hs e List.mem_cons_self)) (rlx_keep h hi (hs e List.mem_cons_self) hm h0 h1 hx)
theorem lap_both {es : List (Int × Int)} {n : Nat} {m : Int} (hi : Inr es n) (hm : Fst es m) : ∀ (fs : List (Int × Int)) {xs : List Int}, (∀ e ∈ fs, e ∈ es) → Lab es n xs → ∀ e ∈ fs, (cnt xs e.1 = m ∨ cnt xs e.2 = m) → cnt (fs.foldl rlx xs) e.1 = m ∧ cnt (fs.foldl rlx xs) e.2 = m
  | [], _, _, _, _, he, _ => by cases he
  | f :: fs, xs, hs, h, e, he, hx => by
    have hf := hs f List.mem_cons_self
    have hs' : ∀ x ∈ fs, x ∈ es := fun x hx => hs x (List.mem_cons_of_mem _ hx)
    have hr := hi e (hs e he)
    rcases List.mem_cons.mp he with rfl | he'
    · obtain ⟨a, b⟩ := rlx_both h hi hf hm hx
      exact ⟨lap_keep hi hm hr.1.1 hr.1.2 fs hs' (h.rlx hi hf) a, lap_keep hi hm hr.2.1 hr.2.2 fs hs' (h.rlx hi hf) b⟩
    · exact lap_both hi hm fs hs' (h.rlx hi hf) e he' (hx.imp (rlx_keep h hi hf hm hr.1.1 hr.1.2) (rlx_keep h hi hf hm hr.2.1 hr.2.2))
def laps (es : List (Int × Int)) : Nat → List Int → List Int
  | 0, xs => xs
  | k + 1, xs => es.foldl rlx (laps es k xs)
theorem laps_lab {es : List (Int × Int)} {n : Nat} {xs : List Int} (hi : Inr es n) (h : Lab es n xs) : ∀ k, Lab es n (laps es k xs)
  | 0 => h
  | k + 1 => lap_lab hi es (fun _ h => h) (laps_lab hi h k)
theorem laps_grow {es : List (Int × Int)} {n : Nat} {xs : List Int} {m : Int} (hi : Inr es n) (h : Lab es n xs) (hm : Fst es m) (h0 : 0 ≤ m) (h1 : m < n) (hx : cnt xs m = m) : ∀ k, (∀ v, Con es m v → cnt (laps es k xs) v = m) ∨ ∃ L : List Int, L.Nodup ∧ L.length = k + 1 ∧ ∀ x : Int, x ∈ L → (0 ≤ x ∧ x < n) ∧ cnt (laps es k xs) x = m
  | 0 => .inr ⟨[m], List.pairwise_singleton _ _, rfl, fun x hx' => by cases List.mem_singleton.mp hx'; exact ⟨⟨h0, h1⟩, hx⟩⟩
  | k + 1 => by
    have hl := laps_lab hi h k
    rcases laps_grow hi h hm h0 h1 hx k with ih | ⟨L, nd, ln, hL⟩
    · left
      intro v hv
      have := hv.inr hi ⟨h0, h1⟩
      exact lap_keep hi hm this.1 this.2 es (fun _ h => h) hl (ih v hv)
    · by_cases hc : ∃ e ∈ es, (cnt (laps es k xs) e.1 = m ∨ cnt (laps es k xs) e.2 = m) ∧ ¬ (cnt (laps es k xs) e.1 = m ∧ cnt (laps es k xs) e.2 = m)
      · right
        obtain ⟨e, he, h3, h4⟩ := hc
        have hr := hi e he
        obtain ⟨b1, b2⟩ := lap_both hi hm es (fun _ h => h) hl e he h3
        have key : ∃ x : Int, (0 ≤ x ∧ x < n) ∧ x ∉ L ∧ cnt (laps es (k + 1) xs) x = m := by
          by_cases h5 : cnt (laps es k xs) e.1 = m
          · exact ⟨e.2, hr.2, fun z => h4 ⟨h5, (hL _ z).2⟩, b2⟩
          · exact ⟨e.1, hr.1, fun z => h5 (hL _ z).2, b1⟩
        obtain ⟨x, hx1, hx2, hx3⟩ := key
        refine ⟨x :: L, List.nodup_cons.mpr ⟨hx2, nd⟩, by rw [List.length_cons, ln], fun y hy => ?_⟩
        rcases List.mem_cons.mp hy with rfl | hy
        · exact ⟨hx1, hx3⟩
        · obtain ⟨h5, h6⟩ := hL y hy
          exact ⟨h5, lap_keep hi hm h5.1 h5.2 es (fun _ h => h) hl h6⟩
      · left
        have hall : ∀ v, Con es m v → cnt (laps es k xs) v = m := by
          obtain ⟨y, hy⟩ : ∃ y, y ∈ L := by
            cases L with
            | nil => cases ln
            | cons y _ => exact ⟨y, List.mem_cons_self⟩
          have cy := (laps_lab hi h k).con y (hL y hy).1.1 (hL y hy).1.2
          rw [(hL y hy).2] at cy
          intro v hv
          have hv2 := cy.trans hv
          induction hv2 with
          | refl => exact (hL y hy).2
          | step h' e ih =>
            have ih := ih (cy.symm.trans h')
            refine Classical.byContradiction fun hn => hc ?_
            rcases e with e | e
            · exact ⟨_, e, .inl ih, fun z => hn z.2⟩
            · exact ⟨_, e, .inr ih, fun z => hn z.1⟩
        intro v hv
        have := hv.inr hi ⟨h0, h1⟩
        exact lap_keep hi hm this.1 this.2 es (fun _ h => h) hl (hall v hv)
theorem laps_end {es : List (Int × Int)} {n : Nat} {xs : List Int} {m : Int} (hi : Inr es n) (h : Lab es n xs) (hm : Fst es m) (h0 : 0 ≤ m) (h1 : m < n) (hx : cnt xs m = m) (v : Int) (hv : Con es m v) : cnt (laps es n xs) v = m := by
  rcases laps_grow hi h hm h0 h1 hx n with h2 | ⟨L, nd, ln, hL⟩
  · exact h2 v hv
  · have := nodup_le n L nd fun x hx => (hL x hx).1
    omega
theorem fst_ex {es : List (Int × Int)} {n : Nat} (hi : Inr es n) : ∀ (k : Nat) (a : Int), 0 ≤ a → a < n → a ≤ k → ∃ m, Con es a m ∧ Fst es m
  | 0, a, h0, h1, h2 => ⟨a, .refl, fun u hu => by have := hu.inr hi ⟨h0, h1⟩; omega⟩
  | k + 1, a, h0, h1, h2 => by
    by_cases h : Fst es a
    · exact ⟨a, .refl, h⟩
    · obtain ⟨u, hu⟩ := Classical.not_forall.mp h
      obtain ⟨hu, hlt⟩ := Classical.not_imp.mp hu
      have hr := hu.inr hi ⟨h0, h1⟩
      obtain ⟨m, hm, hf⟩ := fst_ex hi k u hr.1 hr.2 (by omega)
      exact ⟨m, hu.trans hm, hf⟩
theorem fst_eq {es : List (Int × Int)} {a b : Int} (ha : Fst es a) (hb : Fst es b) (h : Con es a b) : a = b := Int.le_antisymm (ha _ h) (hb _ h.symm)
/-- the label at the end is the first of the piece -/
theorem laps_lbl {es : List (Int × Int)} {n : Nat} {xs : List Int} (hi : Inr es n) (h : Lab es n xs) (hx : ∀ i : Int, 0 ≤ i → i < n → cnt xs i = i) {v : Int} (h0 : 0 ≤ v) (h1 : v < n) : Fst es (cnt (laps es n xs) v) ∧ Con es v (cnt (laps es n xs) v) := by
  obtain ⟨m, hm, hf⟩ := fst_ex hi v.toNat v h0 h1 (by omega)
  have hr := hm.inr hi ⟨h0, h1⟩
  rw [laps_end hi h hf hr.1 hr.2 (hx m hr.1 hr.2) v hm.symm]
  exact ⟨hf, hm⟩
def ends (ls : List Ln) : List (Int × Int) := ls.map fun l => (l.g, l.t)
theorem ends_mem {ls : List Ln} {l : Ln} (h : l ∈ ls) : (l.g, l.t) ∈ ends ls := List.mem_map.mpr ⟨l, h, rfl⟩
def RS (μ : Sto) (pf pt : Addr) (es : List (Int × Int)) (n : Nat) (first w : Int) (m : Nat) (Q : List Int → Prop) (μ' : Sto) : Prop := ∃ ks td, μ' = (μ.set pf (.dict (setD ks))).set pt (.lst (td.map T.int)) ∧ RInv es n first (· = w) ks td ∧ w ∈ ks ∧ 2 * n + td.length < m + 2 * ks.length ∧ Q ks
def Seen (ls : List Ln) (w : Int) (k : Nat) (ks : List Int) : Prop := ∀ l ∈ ls.take k, (l.g = w → l.t ∈ ks) ∧ (l.t = w → l.g ∈ ks)
theorem Seen.app {ls : List Ln} {w x : Int} {k : Nat} {ks : List Int} (h : Seen ls w k ks) : Seen ls w k (ks ++ [x]) := fun l hl => ⟨fun e => List.mem_append.mpr (.inl ((h l hl).1 e)), fun e => List.mem_append.mpr (.inl ((h l hl).2 e))⟩
theorem Sub.both {μ μ' : Sto} {q : Addr} {o : Ob} (h : Sub μ μ') : Sub (μ.set q o) (μ'.set q o) := fun a x e => by
  by_cases ea : a = q
  · subst ea
    rw [set_self] at e ⊢
    exact e
  · rw [set_ne ea] at e ⊢
    exact h a x e
def Vis (w a b : Int) (ks : List Int) : Prop := a = w → b ∈ ks
theorem RS.mono {μ : Sto} {pf pt : Addr} {es : List (Int × Int)} {n : Nat} {first w : Int} {m : Nat} {Q Q' : List Int → Prop} {μ' : Sto} (h : RS μ pf pt es n first w m Q μ') (k : ∀ ks, Q ks → Q' ks) : RS μ pf pt es n first w m Q' μ' := by
  obtain ⟨ks, td, a, b, c, d, e⟩ := h
  exact ⟨ks, td, a, b, c, d, k _ e⟩
theorem setD_len {ks : List Int} : (setD ks).length = ks.length := List.length_map _
/-- a list of one's own that holds lists of one's own, all made since -/
structure Nest (μ μ' : Sto) (p : Addr) (qs : List Addr) (ps : List (List Int)) : Prop where
  sub : Rh.Sub μ μ'
  fp : μ p = none
  at_ : μ' p = some (.lst (qs.map T.own))
  len : qs.length = ps.length
  it : ∀ (i : Nat) (q : Addr) (x : List Int), qs[i]? = some q → ps[i]? = some x → μ' q = some (.lst (x.map T.int))
  fr : ∀ q ∈ qs, μ q = none
  np : ∀ q ∈ qs, q ≠ p
  nd : qs.Nodup
def lsT (ps : List (List Int)) : T := .lst (ps.map fun x => .lst (x.map T.int))
def nestR (ps : List (List Int)) (μ : Sto) (R : RP) : Prop := (∀ p qs μ', Nest μ μ' p qs ps → R (.own p) μ') ∨ R (lsT ps) μ
theorem Nest.views {μ' : Sto} {fz : List Addr} : ∀ {qs : List Addr} {ps : List (List Int)}, qs.length = ps.length → (∀ (i : Nat) (q : Addr) (x : List Int), qs[i]? = some q → ps[i]? = some x → μ' q = some (.lst (x.map T.int))) → (∀ q ∈ qs, q ∈ fz) → Rh.Views μ' fz (qs.map T.own) (ps.map fun x => .lst (x.map T.int))
  | [], [], _, _, _ => .nil
  | [], _ :: _, h, _, _ => by cases h
  | _ :: _, [], h, _, _ => by cases h
  | q :: qs, x :: ps, h, it, hz => .cons (.own (it 0 q x rfl rfl) (hz q List.mem_cons_self) (.refl _)) (Nest.views (by simpa using h) (fun i q x h1 h2 => it (i + 1) q x h1 h2) fun q hq => hz q (List.mem_cons_of_mem _ hq))
theorem fin_nest {ps : List (List Int)} {μ μ' : Sto} {R : RP} {p : Addr} {qs : List Addr} (h : nestR ps μ R) (N : Nest μ μ' p qs ps) : fin_ R (.own p) μ' := by
  rcases h with h | h
  · exact fin_id (h _ _ _ N)
  · refine ⟨lsT ps, μ, ⟨p :: qs, .own N.at_ List.mem_cons_self (Nest.views N.len N.it fun q hq => List.mem_cons_of_mem _ hq), N.sub, fun a ha => ?_⟩, h⟩
    rcases List.mem_cons.mp ha with rfl | ha
    · exact N.fp
    · exact N.fr a ha
theorem Nest.add {μ μ' : Sto} {p q sd : Addr} {qs : List Addr} {ps : List (List Int)} {x : List Int} {o1 o2 : Ob} (N : Nest μ μ' p qs ps) (hq : μ' q = none) (h1 : μ' sd = some o1) (h2 : μ sd = none) (h3 : sd ≠ p) (h4 : sd ∉ qs) : Nest μ (((μ'.set q (.lst (x.map T.int))).set sd o2).set p (.lst (qs.map T.own ++ [.own q]))) p (qs ++ [q]) (ps ++ [x]) ∧ sd ∉ qs ++ [q] := by
  have nqp : q ≠ p := (nofr N.at_ hq).symm
  have nqs : q ≠ sd := (nofr h1 hq).symm
  have hfq : μ q = none := by
    cases e : μ q with
    | none => rfl
    | some o => rw [N.sub _ _ e] at hq; cases hq
  have nq : q ∉ qs := fun z => by
    obtain ⟨i, hi, e⟩ := List.mem_iff_getElem.mp z
    have := N.it i q _ (by rw [List.getElem?_eq_getElem hi, e]) (List.getElem?_eq_getElem (by rw [← N.len]; exact hi))
    rw [hq] at this
    cases this
  refine ⟨⟨fun a o e => ?_, N.fp, by rw [set_self, List.map_append]; rfl, by rw [List.length_append, List.length_append, N.len]; rfl, fun i a y ha hy => ?_, fun a ha => ?_, fun a ha => ?_, List.nodup_append.mpr ⟨N.nd, List.pairwise_singleton _ _, fun a ha b hb => by cases List.mem_singleton.mp hb; exact fun e => nq (e ▸ ha)⟩⟩, fun z => ?_⟩
  · rw [set_ne (fun z => by subst z; rw [N.fp] at e; cases e), set_ne (fun z => by subst z; rw [h2] at e; cases e), set_ne (fun z => by subst z; rw [hfq] at e; cases e)]
    exact N.sub _ _ e
  · by_cases hi : i < qs.length
    · rw [List.getElem?_append_left hi] at ha
      rw [List.getElem?_append_left (by rw [← N.len]; exact hi)] at hy
      have hm := List.mem_of_getElem? ha
      rw [set_ne (N.np a hm), set_ne (fun z : a = sd => h4 (z ▸ hm)), set_ne (fun z : a = q => nq (z ▸ hm))]
      exact N.it i a y ha hy
    · rw [List.getElem?_append_right (by omega)] at ha
      rw [List.getElem?_append_right (by rw [← N.len]; omega), ← N.len] at hy
      obtain ⟨e1, e2⟩ := List.getElem?_eq_some_iff.mp ha
      obtain ⟨e3, e4⟩ := List.getElem?_eq_some_iff.mp hy
      rw [List.getElem_singleton] at e2 e4
      subst e2 e4
      rw [set_ne nqp, set_ne nqs, set_self]
  · rcases List.mem_append.mp ha with ha | ha
    · exact N.fr a ha
    · cases List.mem_singleton.mp ha
      exact hfq
  · rcases List.mem_append.mp ha with ha | ha
    · exact N.np a ha
    · cases List.mem_singleton.mp ha
      exact nqp
  · rcases List.mem_append.mp z with z | z
    · exact h4 z
    · cases List.mem_singleton.mp z
      exact nqs rfl
theorem HallAt.sub {μ μ' : Sto} {h l1 l2 : Addr} {ns : List Str} {ls : List Ln} (H : HallAt μ h l1 l2 ns ls) (s : Rh.Sub μ μ') : HallAt μ' h l1 l2 ns ls := ⟨s _ _ H.o, s _ _ H.w, s _ _ H.b, H.ne⟩
theorem piecesOf_succ {es : List (Int × Int)} {n k : Nat} : (firsts es (k + 1)).map (compL es n) = (firsts es k).map (compL es n) ++ (open Classical in if Fst es (k : Int) then [compL es n k] else []) := by
  classical
  unfold firsts
  rw [List.range_succ, List.map_append, List.filter_append, List.map_append]
  congr 1
  by_cases h : Fst es (k : Int)
  · simp [h]
  · simp [h]
theorem cop_dvd {x y k : Int} (h : Int.gcd x y = 1) (d : x ∣ y * k) : x ∣ k := by
  have h' : Nat.Coprime x.natAbs y.natAbs := h
  have d' := Int.natAbs_dvd_natAbs.mpr d
  rw [Int.natAbs_mul, Nat.mul_comm] at d'
  exact Int.natAbs_dvd_natAbs.mp (h'.dvd_of_dvd_mul_right d')
/-- reduced ratios that are the same -/
theorem red_eq {x y u v : Int} (hx : 0 < x) (hy : 0 < y) (hu : 0 < u) (hv : 0 < v) (h1 : Int.gcd x y = 1) (h2 : Int.gcd u v = 1) (h : x * v = y * u) : x = u ∧ y = v := by
  have a1 : x ∣ u := cop_dvd h1 ⟨v, h.symm⟩
  have a2 : u ∣ x := cop_dvd h2 ⟨y, by rw [Int.mul_comm v x, h, Int.mul_comm]⟩
  have e : x = u := Int.dvd_antisymm (by omega) (by omega) a1 a2
  subst e
  refine ⟨rfl, ?_⟩
  have : x * v = x * y := by rw [h, Int.mul_comm]
  exact (Int.eq_of_mul_eq_mul_left (by omega) this).symm
/-! ways along belts -/
abbrev Pace := Int × Bool
def Path (ls : List Ln) : Int → List Pace → Int → Prop
  | a, [], c => a = c
  | a, (b, d) :: r, c => ∃ l, 0 ≤ b ∧ ls[b.toNat]? = some l ∧ (if d = true then l.g = a ∧ Path ls l.t r c else l.t = a ∧ Path ls l.g r c)
def fac (ls : List Ln) (b : Int) (d : Bool) : Int := match ls[b.toNat]? with
  | some l => if d = true then l.gi else l.ta
  | none => 1
def topP (ls : List Ln) : List Pace → Int
  | [] => 1
  | (b, d) :: r => fac ls b d * topP ls r
def botP (ls : List Ln) : List Pace → Int
  | [] => 1
  | (b, d) :: r => fac ls b (!d) * botP ls r
theorem topP_app {ls : List Ln} : ∀ {p q : List Pace}, topP ls (p ++ q) = topP ls p * topP ls q
  | [], q => (Int.one_mul _).symm
  | (b, d) :: r, q => by rw [List.cons_append, topP, topP, topP_app, Int.mul_assoc]
theorem botP_app {ls : List Ln} : ∀ {p q : List Pace}, botP ls (p ++ q) = botP ls p * botP ls q
  | [], q => (Int.one_mul _).symm
  | (b, d) :: r, q => by rw [List.cons_append, botP, botP, botP_app, Int.mul_assoc]
def inv (p : List Pace) : List Pace := p.reverse.map fun x => (x.1, !x.2)
theorem inv_cons {b : Int} {d : Bool} {r : List Pace} : inv ((b, d) :: r) = inv r ++ [(b, !d)] := by
  unfold inv
  rw [List.reverse_cons, List.map_append]
  rfl
theorem topP_inv {ls : List Ln} : ∀ {p : List Pace}, topP ls (inv p) = botP ls p
  | [] => rfl
  | (b, d) :: r => by rw [inv_cons, topP_app, topP_inv, botP, topP, topP, Int.mul_one, Int.mul_comm]
theorem botP_inv {ls : List Ln} : ∀ {p : List Pace}, botP ls (inv p) = topP ls p
  | [] => rfl
  | (b, d) :: r => by rw [inv_cons, botP_app, botP_inv, topP, botP, botP, Int.mul_one, Bool.not_not, Int.mul_comm]
theorem Path.app {ls : List Ln} {c e : Int} {q : List Pace} : ∀ {p : List Pace} {a : Int}, Path ls a p c → Path ls c q e → Path ls a (p ++ q) e
  | [], a, h, k => by cases h; exact k
  | (b, d) :: r, a, ⟨l, h0, h1, h2⟩, k => by
    refine ⟨l, h0, h1, ?_⟩
    cases d
    · exact ⟨h2.1, Path.app h2.2 k⟩
    · exact ⟨h2.1, Path.app h2.2 k⟩
theorem Path.split {ls : List Ln} {e : Int} {q : List Pace} : ∀ {p : List Pace} {a : Int}, Path ls a (p ++ q) e → ∃ c, Path ls a p c ∧ Path ls c q e
  | [], a, h => ⟨a, rfl, h⟩
  | (b, d) :: r, a, ⟨l, h0, h1, h2⟩ => by
    cases d
    · obtain ⟨c, k1, k2⟩ := Path.split h2.2
      exact ⟨c, ⟨l, h0, h1, h2.1, k1⟩, k2⟩
    · obtain ⟨c, k1, k2⟩ := Path.split h2.2
      exact ⟨c, ⟨l, h0, h1, h2.1, k1⟩, k2⟩
theorem Path.fn {ls : List Ln} {c e : Int} : ∀ {p : List Pace} {a : Int}, Path ls a p c → Path ls a p e → c = e
  | [], a, h, k => h.symm.trans k
  | (b, d) :: r, a, ⟨l, h0, h1, h2⟩, ⟨l', k0, k1, k2⟩ => by
    rw [h1] at k1
    cases k1
    cases d
    · exact Path.fn h2.2 k2.2
    · exact Path.fn h2.2 k2.2
theorem Path.inv {ls : List Ln} {c : Int} : ∀ {p : List Pace} {a : Int}, Path ls a p c → Path ls c (inv p) a
  | [], a, h => h.symm
  | (b, d) :: r, a, ⟨l, h0, h1, h2⟩ => by
    rw [inv_cons]
    cases d
    · exact (Path.inv h2.2).app ⟨l, h0, h1, rfl, h2.1⟩
    · exact (Path.inv h2.2).app ⟨l, h0, h1, rfl, h2.1⟩
theorem Path.con {ls : List Ln} {c : Int} : ∀ {p : List Pace} {a : Int}, Path ls a p c → Con (ends ls) a c
  | [], a, h => h ▸ .refl
  | (b, d) :: r, a, ⟨l, h0, h1, h2⟩ => by
    have hl := List.mem_of_getElem? h1
    cases d
    · obtain ⟨rfl, h3⟩ := h2
      exact (Con.one (Or.inr (ends_mem hl))).trans h3.con
    · obtain ⟨rfl, h3⟩ := h2
      exact (Con.one (Or.inl (ends_mem hl))).trans h3.con
def PosL (ls : List Ln) : Prop := ∀ l ∈ ls, 1 ≤ Ln.gi l ∧ 1 ≤ l.ta
theorem fac_pos {ls : List Ln} (h : PosL ls) {b : Int} {d : Bool} : 0 < fac ls b d := by
  unfold fac
  split
  · rename_i l e
    have := h l (List.mem_of_getElem? e)
    split <;> omega
  · decide
theorem topP_pos {ls : List Ln} (h : PosL ls) : ∀ {p : List Pace}, 0 < topP ls p
  | [] => show (0 : Int) < 1 by decide
  | (b, d) :: r => Int.mul_pos (fac_pos h) (topP_pos h)
theorem botP_pos {ls : List Ln} (h : PosL ls) : ∀ {p : List Pace}, 0 < botP ls p
  | [] => show (0 : Int) < 1 by decide
  | (b, d) :: r => Int.mul_pos (fac_pos h) (botP_pos h)
/-- rates that keep every belt as it is -/
structure Sol (ls : List Ln) (n : Nat) (rs : List Int) : Prop where
  len : rs.length = n
  pos : ∀ w : Int, 0 ≤ w → w < n → 0 < cnt rs w
  bal : ∀ l ∈ ls, Ln.gi l * cnt rs l.g = l.ta * cnt rs l.t
structure Bal (ls : List Ln) (n : Nat) (rs : List Int) : Prop extends Sol ls n rs where
  one : ∀ a : Int, 0 ≤ a → a < n → ∀ d : Int, 0 ≤ d → (∀ w, Con (ends ls) a w → d ∣ cnt rs w) → d = 1
theorem Sol.path {ls : List Ln} {n : Nat} {rs : List Int} (S : Sol ls n rs) {c : Int} : ∀ {p : List Pace} {a : Int}, Path ls a p c → cnt rs a * topP ls p = cnt rs c * botP ls p
  | [], a, h => by cases h; rfl
  | (b, d) :: r, a, ⟨l, h0, h1, h2⟩ => by
    have hl := S.bal l (List.mem_of_getElem? h1)
    have ih : ∀ x, Path ls x r c → cnt rs x * topP ls r = cnt rs c * botP ls r := fun x h => S.path h
    rw [topP, botP]
    cases d
    · have h3 := ih _ h2.2
      obtain ⟨rfl, _⟩ := h2
      simp only [fac, h1, Bool.not_false, if_true, Bool.false_eq_true, if_false]
      calc cnt rs l.t * (l.ta * topP ls r) = (l.ta * cnt rs l.t) * topP ls r := by ac_rfl
        _ = l.gi * (cnt rs l.g * topP ls r) := by rw [← hl]; ac_rfl
        _ = cnt rs c * (l.gi * botP ls r) := by rw [h3]; ac_rfl
    · have h3 := ih _ h2.2
      obtain ⟨rfl, _⟩ := h2
      simp only [fac, h1, Bool.not_true, if_true, Bool.false_eq_true, if_false]
      calc cnt rs l.g * (l.gi * topP ls r) = (l.gi * cnt rs l.g) * topP ls r := by ac_rfl
        _ = l.ta * (cnt rs l.t * topP ls r) := by rw [hl]; ac_rfl
        _ = cnt rs c * (l.ta * botP ls r) := by rw [h3]; ac_rfl
/-- a ring that shows that there are no rates -/
structure OddRing (ls : List Ln) (ring : List Pace) : Prop where
  ne : ring ≠ []
  path : ∃ a, Path ls a ring a
  nd : (ring.map (·.1)).Nodup
  odd : topP ls ring ≠ botP ls ring
theorem OddRing.no {ls : List Ln} {n : Nat} {ring : List Pace} (O : OddRing ls ring) {rs : List Int} (S : Sol ls n rs) (hi : Inr (ends ls) n) : False := by
  obtain ⟨a, hp⟩ := O.path
  have h := S.path hp
  have ha : 0 ≤ a ∧ a < n := by
    cases hr : ring with
    | nil => exact absurd hr O.ne
    | cons x r =>
      obtain ⟨b, d⟩ := x
      rw [hr] at hp
      obtain ⟨l, _, h1, h2⟩ := hp
      have := hi _ (ends_mem (List.mem_of_getElem? h1))
      cases d
      · obtain ⟨rfl, _⟩ := h2
        exact this.2
      · obtain ⟨rfl, _⟩ := h2
        exact this.1
  exact O.odd (Int.eq_of_mul_eq_mul_left (Int.ne_of_gt (S.pos a ha.1 ha.2)) h)
theorem con_path {ls : List Ln} {a c : Int} (h : Con (ends ls) a c) : ∃ p, Path ls a p c := by
  induction h with
  | refl => exact ⟨[], rfl⟩
  | step _ e ih =>
    obtain ⟨p, hp⟩ := ih
    rcases e with e | e
    · obtain ⟨l, hl, e⟩ := List.mem_map.mp e
      obtain ⟨i, hi, e2⟩ := List.mem_iff_getElem.mp hl
      cases e
      refine ⟨p ++ [((i : Int), true)], hp.app ⟨l, Int.natCast_nonneg i, ?_, rfl, rfl⟩⟩
      rw [Int.toNat_natCast, List.getElem?_eq_getElem hi, e2]
    · obtain ⟨l, hl, e⟩ := List.mem_map.mp e
      obtain ⟨i, hi, e2⟩ := List.mem_iff_getElem.mp hl
      cases e
      refine ⟨p ++ [((i : Int), false)], hp.app ⟨l, Int.natCast_nonneg i, ?_, rfl, rfl⟩⟩
      rw [Int.toNat_natCast, List.getElem?_eq_getElem hi, e2]
theorem sol_prop {ls : List Ln} {n : Nat} {rs qs : List Int} (hp : PosL ls) (S : Sol ls n rs) (Q : Sol ls n qs) {a c : Int} (h : Con (ends ls) a c) : cnt rs a * cnt qs c = cnt rs c * cnt qs a := by
  obtain ⟨p, h⟩ := con_path h
  have h1 := S.path h
  have h2 := Q.path h
  have ht := topP_pos hp (p := p)
  have hb := botP_pos hp (p := p)
  apply Int.eq_of_mul_eq_mul_left (Int.ne_of_gt (Int.mul_pos ht hb))
  calc topP ls p * botP ls p * (cnt rs a * cnt qs c) = (cnt rs a * topP ls p) * (cnt qs c * botP ls p) := by ac_rfl
    _ = (cnt rs c * botP ls p) * (cnt qs a * topP ls p) := by rw [h1, h2]
    _ = topP ls p * botP ls p * (cnt rs c * cnt qs a) := by ac_rfl
theorem bal_uniq {ls : List Ln} {n : Nat} {rs qs : List Int} (hp : PosL ls) (hi : Inr (ends ls) n) (S : Bal ls n rs) (Q : Bal ls n qs) : rs = qs := by
  have key : ∀ a : Int, 0 ≤ a → a < n → cnt rs a = cnt qs a := fun a h0 h1 => by
    obtain ⟨g, x, y, e, hg, hx, hy, e1, e2, h3⟩ := gcd_parts (S.pos a h0 h1) (Q.pos a h0 h1)
    have hx1 : x = 1 := S.one a h0 h1 x (by omega) fun w hw => by
      have h := sol_prop hp S.toSol Q.toSol hw
      rw [e1, e2] at h
      have h : x * cnt qs w = y * cnt rs w := by
        apply Int.eq_of_mul_eq_mul_left (Int.ne_of_gt hg)
        rw [← Int.mul_assoc, h]
        ac_rfl
      exact cop_dvd h3 ⟨_, h.symm⟩
    have hy1 : y = 1 := Q.one a h0 h1 y (by omega) fun w hw => by
      have h := sol_prop hp S.toSol Q.toSol hw
      rw [e1, e2] at h
      have h : x * cnt qs w = y * cnt rs w := by
        apply Int.eq_of_mul_eq_mul_left (Int.ne_of_gt hg)
        rw [← Int.mul_assoc, h]
        ac_rfl
      exact cop_dvd (by rw [Int.gcd_comm]; exact h3) ⟨_, h⟩
    rw [e1, e2, hx1, hy1]
  refine List.ext_getElem (S.len.trans Q.len.symm) fun i h1 h2 => ?_
  have := key i (by omega) (by rw [← S.len]; omega)
  unfold Rh.cnt at this
  rw [Int.toNat_natCast, List.getElem?_eq_getElem h1, List.getElem?_eq_getElem h2] at this
  exact this
structure Ent where
  v : Int
  p : Int
  q : Int
  w : List Pace
  r : Int
def paceT (x : Pace) : T := .tup [.int x.1, .bl x.2]
def entD (f : Ent → T) (es : List Ent) : List (Key × T) := es.map fun e => (.inl e.v, f e)
def ratT (e : Ent) : T := .tup [.int e.p, .int e.q]
def wayT (e : Ent) : T := .lst (e.w.map paceT)
def keysE (es : List Ent) : List Int := es.map Ent.v
theorem ent_same {es : List Ent} (nd : (keysE es).Nodup) {e f : Ent} (he : e ∈ es) (hf : f ∈ es) (h : e.v = f.v) : e = f := by
  obtain ⟨i, hi, rfl⟩ := List.mem_iff_getElem.mp he
  obtain ⟨j, hj, rfl⟩ := List.mem_iff_getElem.mp hf
  have := (List.getElem_inj (xs := keysE es) (i := i) (j := j) (h₀ := by unfold keysE; rw [List.length_map]; exact hi) (h₁ := by unfold keysE; rw [List.length_map]; exact hj) nd).mp (by unfold keysE; rw [List.getElem_map, List.getElem_map]; exact h)
  subst this
  rfl
theorem val_ent {f : Ent → T} {es : List Ent} {e : Ent} (nd : (keysE es).Nodup) (h : e ∈ es) : valT (entD f es) (.inl e.v) = some (f e) := by
  unfold valT entD
  rw [List.find?_map, Option.map_map]
  cases q : es.find? ((fun kv : Key × T => decide (kv.1 = (.inl e.v : Key))) ∘ fun e => ((.inl e.v : Key), f e)) with
  | none =>
    have := List.find?_eq_none.mp q e h
    simp at this
  | some e' =>
    have h1 := List.find?_some q
    have h2 := List.mem_of_find?_eq_some q
    have h1 := of_decide_eq_true h1
    injection h1 with h1
    rw [ent_same nd h2 h h1]
    rfl
theorem any_ent {f : Ent → T} {es : List Ent} {k : Int} : ((entD f es).any fun kv => decide (kv.1 = (.inl k : Key))) = decide (k ∈ keysE es) := by
  unfold entD
  rw [List.any_map, Bool.eq_iff_iff, List.any_eq_true, decide_eq_true_eq]
  constructor
  · rintro ⟨x, hx, e⟩
    have e := of_decide_eq_true e
    injection e with e
    exact e ▸ List.mem_map.mpr ⟨x, hx, rfl⟩
  · intro h
    obtain ⟨x, hx, rfl⟩ := List.mem_map.mp h
    exact ⟨x, hx, decide_eq_true rfl⟩
theorem put_ent {f : Ent → T} {es : List Ent} {e : Ent} (h : e.v ∉ keysE es) : putT (entD f es) (.inl e.v) (f e) = entD f (es ++ [e]) := by
  unfold putT
  rw [any_ent, if_neg (by rw [decide_eq_true_eq]; exact h)]
  unfold entD
  rw [List.map_append]
  rfl
theorem in_ent {f : Ent → T} {μ : Sto} {p : Addr} {es : List Ent} {i : Int} {neg : Bool} {R : RP} (h : μ p = some (.dict (entD f es))) : tIn neg (.int i) (.own p) μ R = R (.bl (if neg = true then !decide (i ∈ keysE es) else decide (i ∈ keysE es))) μ := by
  have : (valT (entD f es) (.inl i)).isSome = decide (i ∈ keysE es) := by
    unfold valT
    rw [Option.isSome_map, ← any_ent (f := f), Bool.eq_iff_iff, List.find?_isSome, List.any_eq_true]
  simp only [tIn, isDict, h, onK, T.own.injEq, Option.some.injEq, Ob.dict.injEq, keyT, exists_eq_left', exists_and_left, this]
theorem ix_ent {f : Ent → T} {μ : Sto} {p : Addr} {es : List Ent} {e : Ent} {R : RP} (h : μ p = some (.dict (entD f es))) (nd : (keysE es).Nodup) (he : e ∈ es) : tIdx (.own p) (.int e.v) μ R = R (f e) μ := by
  simp only [tIdx, isDict, h, onK, T.own.injEq, Option.some.injEq, Ob.dict.injEq, keyT, exists_eq_left', exists_and_left, val_ent nd he]
theorem entD_len {f : Ent → T} {es : List Ent} : (entD f es).length = es.length := List.length_map _
theorem keysE_add {es : List Ent} {e : Ent} : keysE (es ++ [e]) = keysE es ++ [e.v] := by
  unfold keysE
  rw [List.map_append]
  rfl
/-- what is known of the ways found -/
structure TI (ls : List Ln) (n : Nat) (es : List Ent) : Prop where
  nd : (keysE es).Nodup
  bd : ∀ e ∈ es, 0 ≤ e.v ∧ e.v < n
  pos : ∀ e ∈ es, 0 < e.p ∧ 0 < e.q ∧ Int.gcd e.p e.q = 1
  bt : ∀ e ∈ es, Bt (128 * e.w.length + 1) e.p ∧ Bt (128 * e.w.length + 1) e.q
  wl : ∀ e ∈ es, e.w.length < es.length
  path : ∀ e ∈ es, Path ls e.r e.w e.v ∧ Fst (ends ls) e.r
  val : ∀ e ∈ es, e.p * botP ls e.w = e.q * topP ls e.w
  pre : ∀ e ∈ es, ∀ P, P <+: e.w → ∃ g ∈ es, g.w = P ∧ g.r = e.r
  uni : ∀ e ∈ es, ∀ f ∈ es, ∀ P Q b d d', e.w = P ++ [(b, d)] → f.w = Q ++ [(b, d')] → P ++ [(b, d)] = Q ++ [(b, d')]
theorem TI.nil {ls : List Ln} {n : Nat} : TI ls n [] := by
  constructor <;> first | exact List.nodup_nil | (intro e he; cases he)
theorem TI.len {ls : List Ln} {n : Nat} {es : List Ent} (h : TI ls n es) : es.length ≤ n := by
  have := nodup_le n (keysE es) h.nd fun k hk => by
    obtain ⟨e, he, rfl⟩ := List.mem_map.mp hk
    exact h.bd e he
  unfold keysE at this
  rwa [List.length_map] at this
theorem TI.root {ls : List Ln} {n : Nat} {es : List Ent} (h : TI ls n es) {a : Int} (ha : a ∉ keysE es) (hb : 0 ≤ a ∧ a < n) (hf : Fst (ends ls) a) : TI ls n (es ++ [⟨a, 1, 1, [], a⟩]) := by
  have key : ∀ {Q : Ent → Prop}, (∀ e ∈ es, Q e) → Q ⟨a, 1, 1, [], a⟩ → ∀ e ∈ es ++ [⟨a, 1, 1, [], a⟩], Q e := fun h1 h2 e he => by
    rcases List.mem_append.mp he with he | he
    · exact h1 e he
    · cases List.mem_singleton.mp he
      exact h2
  refine ⟨?_, key h.bd hb, key h.pos ⟨show (0 : Int) < 1 by decide, show (0 : Int) < 1 by decide, show Int.gcd 1 1 = 1 by decide⟩, key h.bt ⟨show Bt 1 1 by unfold Bt; decide, show Bt 1 1 by unfold Bt; decide⟩, key (fun e he => ?_) ?_, key h.path ⟨rfl, hf⟩, key h.val rfl, key (fun e he P hP => ?_) fun P hP => ?_, ?_⟩
  · rw [keysE_add]
    exact List.nodup_append.mpr ⟨h.nd, List.pairwise_singleton _ _, fun x hx y hy => by cases List.mem_singleton.mp hy; exact fun z : x = a => ha (z ▸ hx)⟩
  · have := h.wl e he
    rw [List.length_append, List.length_singleton]
    omega
  · rw [List.length_append, List.length_singleton]
    exact Nat.succ_pos _
  · obtain ⟨g, hg, h1⟩ := h.pre e he P hP
    exact ⟨g, List.mem_append.mpr (.inl hg), h1⟩
  · have : P = [] := List.prefix_nil.mp hP
    subst this
    exact ⟨_, List.mem_append.mpr (.inr List.mem_cons_self), rfl, rfl⟩
  · intro e he f hf' P Q b d d' e1 e2
    rcases List.mem_append.mp he with he | he
    · rcases List.mem_append.mp hf' with hf' | hf'
      · exact h.uni e he f hf' P Q b d d' e1 e2
      · cases List.mem_singleton.mp hf'
        cases Q <;> cases e2
    · cases List.mem_singleton.mp he
      cases P <;> cases e1
/-- a belt's two ends stand for a pace -/
def Leads (ls : List Ln) (b : Int) (d : Bool) (u x : Int) : Prop := ∃ l, 0 ≤ b ∧ ls[b.toNat]? = some l ∧ (if d = true then l.g = u ∧ l.t = x else l.t = u ∧ l.g = x)
theorem Leads.path {ls : List Ln} {b u x : Int} {d : Bool} (h : Leads ls b d u x) : Path ls u [(b, d)] x := by
  obtain ⟨l, h0, h1, h2⟩ := h
  refine ⟨l, h0, h1, ?_⟩
  cases d
  · exact h2
  · exact h2
theorem Path.leads {ls : List Ln} {b u x : Int} {d : Bool} (h : Path ls u [(b, d)] x) : Leads ls b d u x := by
  obtain ⟨l, h0, h1, h2⟩ := h
  refine ⟨l, h0, h1, ?_⟩
  cases d
  · exact h2
  · exact h2
theorem Leads.both {ls : List Ln} {b u x u' x' : Int} {d d' : Bool} (h : Leads ls b d u x) (k : Leads ls b d' u' x') : (x = x' ∨ x = u') ∧ (u = u' ∨ u = x') := by
  obtain ⟨l, _, h1, h2⟩ := h
  obtain ⟨l', _, k1, k2⟩ := k
  rw [h1] at k1
  cases k1
  cases d <;> cases d' <;> simp only [if_true, Bool.false_eq_true, if_false] at h2 k2
  · exact ⟨.inl (h2.2.symm.trans k2.2), .inl (h2.1.symm.trans k2.1)⟩
  · exact ⟨.inr (h2.2.symm.trans k2.1), .inr (h2.1.symm.trans k2.2)⟩
  · exact ⟨.inr (h2.2.symm.trans k2.1), .inr (h2.1.symm.trans k2.2)⟩
  · exact ⟨.inl (h2.2.symm.trans k2.2), .inl (h2.1.symm.trans k2.1)⟩
theorem Leads.fac {ls : List Ln} {b u x : Int} {d : Bool} (h : Leads ls b d u x) {l : Ln} (e : ls[b.toNat]? = some l) : Lw.fac ls b d = (if d = true then l.gi else l.ta) := by
  unfold Lw.fac
  rw [e]
/-- both ends of a way's last belt are there -/
theorem TI.ends_in {ls : List Ln} {n : Nat} {es : List Ent} (h : TI ls n es) {f : Ent} (hf : f ∈ es) {Q : List Pace} {b : Int} {d : Bool} (e : f.w = Q ++ [(b, d)]) : ∃ g ∈ es, g.w = Q ∧ g.r = f.r ∧ Leads ls b d g.v f.v := by
  obtain ⟨g, hg, h1, h2⟩ := h.pre f hf Q (by rw [e]; exact List.prefix_append _ _)
  refine ⟨g, hg, h1, h2, ?_⟩
  have p1 := (h.path f hf).1
  rw [e] at p1
  obtain ⟨c, p2, p3⟩ := p1.split
  have p4 := (h.path g hg).1
  rw [h1, h2] at p4
  rw [p2.fn p4] at p3
  exact p3.leads
def goE (ls : List Ln) (e : Ent) (b : Int) (d : Bool) (x : Int) : Ent :=
  ⟨x, (rat (e.p * (rat (fac ls b d) (fac ls b (!d))).1) (e.q * (rat (fac ls b d) (fac ls b (!d))).2)).1, (rat (e.p * (rat (fac ls b d) (fac ls b (!d))).1) (e.q * (rat (fac ls b d) (fac ls b (!d))).2)).2, e.w ++ [(b, d)], e.r⟩
theorem TI.step {ls : List Ln} {n : Nat} {es : List Ent} (h : TI ls n es) (hp : PosL ls) (hz : ∀ l ∈ ls, Bt 128 (Ln.gi l) ∧ Bt 128 l.ta) (hi : Inr (ends ls) n) {e : Ent} (he : e ∈ es) {b x : Int} {d : Bool} (hl : Leads ls b d e.v x) (hx : x ∉ keysE es) : TI ls n (es ++ [goE ls e b d x]) := by
  have key : ∀ {Q : Ent → Prop}, (∀ e ∈ es, Q e) → Q (goE ls e b d x) → ∀ f ∈ es ++ [goE ls e b d x], Q f := fun h1 h2 f hf => by
    rcases List.mem_append.mp hf with hf | hf
    · exact h1 f hf
    · cases List.mem_singleton.mp hf
      exact h2
  have f1 : 0 < fac ls b d := fac_pos hp
  have f2 : 0 < fac ls b (!d) := fac_pos hp
  have fz : ∀ d, Bt 128 (fac ls b d) := fun d => by
    unfold fac
    split
    · rename_i l e
      have := hz l (List.mem_of_getElem? e)
      split
      · exact this.1
      · exact this.2
    · unfold Bt; decide
  obtain ⟨a1, a2, a3, a4, a5, a6⟩ := rat_spec f1 f2
  obtain ⟨q1, q2, q3⟩ := h.pos e he
  obtain ⟨t1, t2⟩ := h.bt e he
  have za := (fz d).le (Int.le_of_lt a1) a5
  have zb := (fz (!d)).le (Int.le_of_lt a2) a6
  have hval := times_is q1 q2 a1 a2 (h.val e he) a4
  unfold goE at *
  generalize (rat (fac ls b d) (fac ls b (!d))).1 = A at *
  generalize (rat (fac ls b d) (fac ls b (!d))).2 = C at *
  obtain ⟨r1, r2, r3, r4, r5, r6⟩ := rat_spec (Int.mul_pos q1 a1) (Int.mul_pos q2 a2)
  obtain ⟨p1, p2⟩ := h.path e he
  have hxb : 0 ≤ x ∧ x < n := (p1.app hl.path).con.inr hi (p1.inv.con.inr hi (h.bd e he))
  refine ⟨?_, key h.bd hxb, key h.pos ⟨r1, r2, r3⟩, key h.bt ?_, key (fun f hf => ?_) ?_, key h.path ⟨p1.app hl.path, p2⟩, key h.val ?_, key (fun f hf P hP => ?_) fun P hP => ?_, ?_⟩
  · rw [keysE_add]
    exact List.nodup_append.mpr ⟨h.nd, List.pairwise_singleton _ _, fun y hy z hz' => by cases List.mem_singleton.mp hz'; exact fun z : y = x => hx (z ▸ hy)⟩
  · have b1 : Bt (128 * (e.w ++ [(b, d)]).length + 1) (e.p * A) := (t1.mul za).mono (by rw [List.length_append, List.length_singleton]; omega)
    have b2 : Bt (128 * (e.w ++ [(b, d)]).length + 1) (e.q * C) := (t2.mul zb).mono (by rw [List.length_append, List.length_singleton]; omega)
    exact ⟨b1.le (Int.le_of_lt r1) r5, b2.le (Int.le_of_lt r2) r6⟩
  · have := h.wl f hf
    rw [List.length_append, List.length_singleton]
    omega
  · have := h.wl e he
    rw [List.length_append, List.length_append, List.length_singleton, List.length_singleton]
    omega
  · show _ * botP ls (e.w ++ [(b, d)]) = _ * topP ls (e.w ++ [(b, d)])
    rw [botP_app, topP_app, botP, topP, botP, topP, Int.mul_one, Int.mul_one]
    exact hval
  · obtain ⟨g, hg, h1⟩ := h.pre f hf P hP
    exact ⟨g, List.mem_append.mpr (.inl hg), h1⟩
  · rcases List.prefix_concat_iff.mp hP with rfl | hP
    · exact ⟨_, List.mem_append.mpr (.inr List.mem_cons_self), rfl, rfl⟩
    · obtain ⟨g, hg, h1⟩ := h.pre e he P hP
      exact ⟨g, List.mem_append.mpr (.inl hg), h1⟩
  · have old : ∀ f ∈ es, ∀ Q d', f.w = Q ++ [(b, d')] → False := fun f hf Q d' e2 => by
      obtain ⟨g, hg, _, _, h3⟩ := h.ends_in hf e2
      rcases (hl.both h3).1 with z | z
      · exact hx (z ▸ List.mem_map.mpr ⟨f, hf, rfl⟩)
      · exact hx (z ▸ List.mem_map.mpr ⟨g, hg, rfl⟩)
    intro f hf g hg P Q b' d1 d2 e1 e2
    rcases List.mem_append.mp hf with hf | hf <;> rcases List.mem_append.mp hg with hg | hg
    · exact h.uni f hf g hg P Q b' d1 d2 e1 e2
    · cases List.mem_singleton.mp hg
      obtain ⟨_, z⟩ := List.append_inj' e2 rfl
      cases z
      exact absurd e1 (fun z => old f hf _ _ z)
    · cases List.mem_singleton.mp hf
      obtain ⟨_, z⟩ := List.append_inj' e1 rfl
      cases z
      exact absurd e2 (fun z => old g hg _ _ z)
    · cases List.mem_singleton.mp hf
      cases List.mem_singleton.mp hg
      exact e1.symm.trans e2
theorem rev_ind {α : Type} {M : List α → Prop} (nil : M []) (snoc : ∀ P x, M P → M (P ++ [x])) (l : List α) : M l := by
  have : ∀ l : List α, M l.reverse := fun l => by
    induction l with
    | nil => exact nil
    | cons x l ih =>
      rw [List.reverse_cons]
      exact snoc _ _ ih
  have h := this l.reverse
  rwa [List.reverse_reverse] at h
theorem TI.way_nd {ls : List Ln} {n : Nat} {es : List Ent} (h : TI ls n es) {e : Ent} (he : e ∈ es) : ∀ P, P <+: e.w → (P.map (·.1)).Nodup := by
  intro P
  induction P using rev_ind with
  | nil => intro _; exact List.nodup_nil
  | snoc P x ih =>
    intro hP
    obtain ⟨b, d⟩ := x
    have hP' : P <+: e.w := (List.prefix_append P [(b, d)]).trans hP
    obtain ⟨g, hg, g1, _⟩ := h.pre e he _ hP
    rw [List.map_append]
    refine List.nodup_append.mpr ⟨ih hP', List.pairwise_singleton _ _, fun y hy z hz e1 => ?_⟩
    cases List.mem_singleton.mp hz
    obtain ⟨⟨b', d'⟩, hm, rfl⟩ := List.mem_map.mp hy
    obtain ⟨A, B, rfl⟩ := List.append_of_mem hm
    have e1 : b' = b := e1
    subst e1
    have hA : A ++ [(b', d')] <+: e.w := List.IsPrefix.trans ⟨B, by simp⟩ hP'
    obtain ⟨f, hf, f1, _⟩ := h.pre e he _ hA
    have := congrArg List.length (h.uni f hf g hg _ _ _ _ _ f1 g1)
    simp at this
theorem mem_split {α : Type} {x : α} {l : List α} (h : x ∈ l) : ∃ A, A ++ [x] <+: l := by
  obtain ⟨A, B, rfl⟩ := List.append_of_mem h
  exact ⟨A, B, by simp⟩
/-- the ring that an odd belt closes -/
theorem TI.ring {ls : List Ln} {n : Nat} {es : List Ent} (h : TI ls n es) (hp : PosL ls) {i : Int} {l : Ln} {eg et : Ent} (h0 : 0 ≤ i) (el : ls[i.toNat]? = some l) (hg : eg ∈ es) (ht : et ∈ es) (vg : eg.v = l.g) (vt : et.v = l.t) (odd : eg.p * l.gi * et.q ≠ eg.q * l.ta * et.p)
    {c th he : List Pace} (wt : et.w = c ++ th) (wg : eg.w = c ++ he) (stop : ∀ x P Q, th = x :: P → he = x :: Q → False) : OddRing ls ((i, true) :: (inv th ++ he)) := by
  obtain ⟨pg1, pg2⟩ := h.path eg hg
  obtain ⟨pt1, pt2⟩ := h.path et ht
  have hlm := List.mem_of_getElem? el
  have hr : et.r = eg.r := fst_eq pt2 pg2 (pt1.con.trans (by rw [vt]; exact (Con.one (Or.inr (ends_mem hlm))).trans (by rw [← vg]; exact pg1.con.symm)))
  rw [wt] at pt1
  rw [wg] at pg1
  obtain ⟨u, a1, a2⟩ := pt1.split
  obtain ⟨u', a3, a4⟩ := pg1.split
  rw [hr] at a1
  have := a1.fn a3
  subst this
  have hpath : Path ls l.g ((i, true) :: (inv th ++ he)) l.g := ⟨l, h0, el, rfl, by rw [← vt, ← vg]; exact a2.inv.app a4⟩
  -- the odd belt is on no way
  have noi : ∀ e ∈ es, ∀ d, (i, d) ∉ e.w := fun e he' d hm => by
    obtain ⟨A, hA⟩ := mem_split hm
    obtain ⟨x, hx, x1, _⟩ := h.pre e he' _ hA
    obtain ⟨f, hf, f1, _, f3⟩ := h.ends_in hx x1
    have v1 := h.val x hx
    have v2 := h.val f hf
    rw [x1, botP_app, topP_app, botP, topP, botP, topP, Int.mul_one, Int.mul_one] at v1
    rw [f1] at v2
    have k1 := f3.fac el
    have k2 : fac ls i (!d) = (if d = true then l.ta else l.gi) := by
      unfold fac
      rw [el]
      cases d <;> rfl
    rw [k1, k2] at v1
    obtain ⟨l', _, q1, q2⟩ := f3
    rw [el] at q1
    cases q1
    have B := botP_pos hp (p := A)
    have T := topP_pos hp (p := A)
    have BT : botP ls A * topP ls A ≠ 0 := Int.ne_of_gt (Int.mul_pos B T)
    cases d
    · simp only [Bool.false_eq_true, if_false] at q2 v1
      have e1 : f = et := ent_same h.nd hf ht (q2.1.symm.trans vt.symm)
      have e2 : x = eg := ent_same h.nd hx hg (q2.2.symm.trans vg.symm)
      subst e1 e2
      apply odd
      apply Int.eq_of_mul_eq_mul_left BT
      calc botP ls A * topP ls A * (x.p * l.gi * f.q) = (x.p * (botP ls A * l.gi)) * (f.q * topP ls A) := by ac_rfl
        _ = (x.q * (topP ls A * l.ta)) * (f.p * botP ls A) := by rw [v1, v2]
        _ = botP ls A * topP ls A * (x.q * l.ta * f.p) := by ac_rfl
    · simp only [if_true] at q2 v1
      have e1 : f = eg := ent_same h.nd hf hg (q2.1.symm.trans vg.symm)
      have e2 : x = et := ent_same h.nd hx ht (q2.2.symm.trans vt.symm)
      subst e1 e2
      apply odd
      apply Int.eq_of_mul_eq_mul_left BT
      calc botP ls A * topP ls A * (f.p * l.gi * x.q) = (f.p * botP ls A) * (x.q * (topP ls A * l.gi)) := by ac_rfl
        _ = (f.q * topP ls A) * (x.p * (botP ls A * l.ta)) := by rw [← v1, v2]
        _ = botP ls A * topP ls A * (f.q * l.ta * x.p) := by ac_rfl
  have ndt := h.way_nd ht _ (List.prefix_refl _)
  have ndg := h.way_nd hg _ (List.prefix_refl _)
  rw [wt, List.map_append] at ndt
  rw [wg, List.map_append] at ndg
  have ndt := (List.nodup_append.mp ndt).2.1
  have ndg := (List.nodup_append.mp ndg).2.1
  have einv : (inv th).map (·.1) = (th.map (·.1)).reverse := by
    unfold inv
    rw [List.map_map, ← List.map_reverse]
    rfl
  refine ⟨List.cons_ne_nil _ _, ⟨_, hpath⟩, ?_, ?_⟩
  · rw [List.map_cons, List.map_append, einv]
    refine List.nodup_cons.mpr ⟨fun hm => ?_, List.nodup_append.mpr ⟨List.pairwise_reverse.mpr (ndt.imp fun z => Ne.symm z), ndg, fun y hy z hz e1 => ?_⟩⟩
    · rcases List.mem_append.mp hm with hm | hm
      · obtain ⟨⟨b, d⟩, hm2, e⟩ := List.mem_map.mp (List.mem_reverse.mp hm)
        have e : b = i := e
        subst e
        exact noi et ht d (by rw [wt]; exact List.mem_append.mpr (.inr hm2))
      · obtain ⟨⟨b, d⟩, hm2, e⟩ := List.mem_map.mp hm
        have e : b = i := e
        subst e
        exact noi eg hg d (by rw [wg]; exact List.mem_append.mpr (.inr hm2))
    · subst e1
      obtain ⟨⟨b, d⟩, hm1, e⟩ := List.mem_map.mp (List.mem_reverse.mp hy)
      obtain ⟨⟨b', d'⟩, hm2, e'⟩ := List.mem_map.mp hz
      have e : b = y := e
      have e' : b' = y := e'
      subst e e'
      obtain ⟨A, hA⟩ := mem_split hm1
      obtain ⟨B, hB⟩ := mem_split hm2
      obtain ⟨x, hx, x1, _⟩ := h.pre et ht (c ++ (A ++ [(b', d)])) (by rw [wt]; exact (List.prefix_append_right_inj c).mpr hA)
      obtain ⟨f, hf, f1, _⟩ := h.pre eg hg (c ++ (B ++ [(b', d')])) (by rw [wg]; exact (List.prefix_append_right_inj c).mpr hB)
      rw [← List.append_assoc] at x1 f1
      have e3 := h.uni x hx f hf _ _ _ _ _ x1 f1
      rw [List.append_assoc, List.append_assoc] at e3
      have e3 := List.append_cancel_left e3
      obtain ⟨A', hA'⟩ := hA
      obtain ⟨B', hB'⟩ := hB
      rw [← e3] at hB'
      cases hq : A ++ [(b', d)] with
      | nil => simp at hq
      | cons z r =>
        rw [hq] at hA' hB'
        exact stop z (r ++ A') (r ++ B') hA'.symm hB'.symm
  · intro e
    apply odd
    rw [topP, botP, topP_app, botP_app, topP_inv, botP_inv] at e
    have k1 : fac ls i true = l.gi := by unfold fac; rw [el]; rfl
    have k2 : fac ls i (!true) = l.ta := by unfold fac; rw [el]; rfl
    rw [k1, k2] at e
    have v1 := h.val eg hg
    have v2 := h.val et ht
    rw [wg, botP_app, topP_app] at v1
    rw [wt, botP_app, topP_app] at v2
    have p1 := botP_pos hp (p := c)
    have p2 := topP_pos hp (p := c)
    have p3 := botP_pos hp (p := he)
    have p4 := topP_pos hp (p := th)
    generalize botP ls c = B at *
    generalize topP ls c = T at *
    generalize botP ls he = bh at *
    generalize topP ls he = th' at *
    generalize botP ls th = bt at *
    generalize topP ls th = tt at *
    apply Int.eq_of_mul_eq_mul_left (Int.ne_of_gt (Int.mul_pos (Int.mul_pos p1 p3) (Int.mul_pos p2 p4)))
    calc B * bh * (T * tt) * (eg.p * l.gi * et.q) = (eg.p * (B * bh)) * l.gi * (et.q * (T * tt)) := by ac_rfl
      _ = (eg.q * (T * th')) * l.gi * (et.p * (B * bt)) := by rw [v1, v2]
      _ = eg.q * et.p * T * B * (l.gi * (bt * th')) := by ac_rfl
      _ = eg.q * et.p * T * B * (l.ta * (tt * bh)) := by rw [e]
      _ = B * bh * (T * tt) * (eg.q * l.ta * et.p) := by ac_rfl
def lcm1 (a b : Int) : Int := a / (Int.gcd a b : Int) * b
theorem lcm1_spec {a b : Int} (ha : 0 < a) (hb : 0 < b) : 0 < lcm1 a b ∧ a ∣ lcm1 a b ∧ b ∣ lcm1 a b ∧ (∀ x, a ∣ x → b ∣ x → lcm1 a b ∣ x) ∧ lcm1 a b ≤ a * b := by
  obtain ⟨g, x, y, e, hg, hx, hy, e1, e2, h3⟩ := gcd_parts ha hb
  unfold lcm1
  rw [e]
  subst e1 e2
  rw [Int.mul_ediv_cancel_left _ (Int.ne_of_gt hg)]
  refine ⟨Int.mul_pos hx hb, ⟨y, by ac_rfl⟩, ⟨x, by ac_rfl⟩, fun z hz1 hz2 => ?_, ?_⟩
  · obtain ⟨k, rfl⟩ := hz1
    obtain ⟨m, hm⟩ := hz2
    have : x * k = y * m := by
      apply Int.eq_of_mul_eq_mul_left (Int.ne_of_gt hg)
      rw [← Int.mul_assoc, hm, Int.mul_assoc]
    obtain ⟨j, rfl⟩ := cop_dvd (by rw [Int.gcd_comm]; exact h3) ⟨m, this⟩
    exact ⟨j, by ac_rfl⟩
  · have : x ≤ g * x := by
      have := Int.mul_le_mul_of_nonneg_right (show 1 ≤ g by omega) (show 0 ≤ x by omega)
      rwa [Int.one_mul] at this
    exact Int.mul_le_mul_of_nonneg_right this (Int.le_of_lt hb)
theorem lcmF_spec : ∀ (qs : List Int) {c : Int}, 0 < c → (∀ q ∈ qs, 0 < q) → 0 < qs.foldl lcm1 c ∧ c ∣ qs.foldl lcm1 c ∧ (∀ q ∈ qs, q ∣ qs.foldl lcm1 c) ∧ (∀ x, c ∣ x → (∀ q ∈ qs, q ∣ x) → qs.foldl lcm1 c ∣ x)
  | [], c, hc, _ => ⟨hc, Int.dvd_refl _, (fun q hq => by cases hq), fun x h _ => h⟩
  | q :: qs, c, hc, hq => by
    obtain ⟨a1, a2, a3, a4, _⟩ := lcm1_spec hc (hq q List.mem_cons_self)
    obtain ⟨b1, b2, b3, b4⟩ := lcmF_spec qs a1 fun x hx => hq x (List.mem_cons_of_mem _ hx)
    refine ⟨b1, Int.dvd_trans a2 b2, fun x hx => ?_, fun x h1 h2 => b4 x (a4 x h1 (h2 q List.mem_cons_self)) fun y hy => h2 y (List.mem_cons_of_mem _ hy)⟩
    rcases List.mem_cons.mp hx with rfl | hx
    · exact Int.dvd_trans a3 b2
    · exact b3 x hx
theorem lcmF_bt {k : Nat} : ∀ (qs : List Int) {c : Int} {m : Nat}, 0 < c → Bt m c → (∀ q ∈ qs, 0 < q ∧ Bt k q) → Bt (m + k * qs.length) (qs.foldl lcm1 c)
  | [], c, m, _, h, _ => h.mono (by simp)
  | q :: qs, c, m, hc, h, hq => by
    obtain ⟨q1, q2⟩ := hq q List.mem_cons_self
    obtain ⟨a1, _, _, _, a5⟩ := lcm1_spec hc q1
    have := lcmF_bt qs a1 ((h.mul q2).le (Int.le_of_lt a1) a5) fun x hx => hq x (List.mem_cons_of_mem _ hx)
    refine this.mono ?_
    rw [List.length_cons, Nat.mul_succ]
    omega
def gcdF (ns : List Int) : Int := ns.foldl (fun a b => (Int.gcd a b : Int)) 0
theorem gcdF_dvd : ∀ (ns : List Int) (c : Int), ns.foldl (fun a b => (Int.gcd a b : Int)) c ∣ c ∧ ∀ x ∈ ns, ns.foldl (fun a b => (Int.gcd a b : Int)) c ∣ x
  | [], c => ⟨Int.dvd_refl _, fun x hx => by cases hx⟩
  | y :: ns, c => by
    obtain ⟨h1, h2⟩ := gcdF_dvd ns (Int.gcd c y : Int)
    refine ⟨Int.dvd_trans h1 (Int.gcd_dvd_left _ _), fun x hx => ?_⟩
    rcases List.mem_cons.mp hx with rfl | hx
    · exact Int.dvd_trans h1 (Int.gcd_dvd_right _ _)
    · exact h2 x hx
theorem gcdF_nn : ∀ (ns : List Int) (c : Int), 0 ≤ c → 0 ≤ ns.foldl (fun a b => (Int.gcd a b : Int)) c
  | [], _, h => h
  | y :: ns, _, _ => gcdF_nn ns _ (Int.natCast_nonneg _)
def lcmE (pe : List Ent) : Int := (pe.map Ent.q).foldl lcm1 1
def rateE (pe : List Ent) (e : Ent) : Int := e.p * (lcmE pe / e.q)
structure PE (pe : List Ent) : Prop where
  pos : ∀ e ∈ pe, 0 < e.p ∧ 0 < e.q ∧ Int.gcd e.p e.q = 1
  bt : ∀ e ∈ pe, Bt 4500 e.p ∧ Bt 4500 e.q
  len : pe.length ≤ 40
  root : ∃ e ∈ pe, e.p = 1 ∧ e.q = 1
theorem PE.spec {pe : List Ent} (h : PE pe) : 0 < lcmE pe ∧ (∀ e ∈ pe, e.q ∣ lcmE pe) ∧ (∀ x, (∀ e ∈ pe, e.q ∣ x) → lcmE pe ∣ x) := by
  obtain ⟨a, _, b, c⟩ := lcmF_spec (pe.map Ent.q) (c := 1) (by decide) fun q hq => by
    obtain ⟨e, he, rfl⟩ := List.mem_map.mp hq
    exact (h.pos e he).2.1
  exact ⟨a, fun e he => b _ (List.mem_map.mpr ⟨e, he, rfl⟩), fun x hx => c x (Int.one_dvd _) fun q hq => by
    obtain ⟨e, he, rfl⟩ := List.mem_map.mp hq
    exact hx e he⟩
theorem PE.rate_pos {pe : List Ent} (h : PE pe) {e : Ent} (he : e ∈ pe) : 0 < rateE pe e := by
  obtain ⟨a, b, _⟩ := h.spec
  obtain ⟨m, hm⟩ := b e he
  obtain ⟨p1, p2, _⟩ := h.pos e he
  unfold rateE
  rw [hm, Int.mul_ediv_cancel_left _ (Int.ne_of_gt p2)]
  refine Int.mul_pos p1 ?_
  rw [hm] at a
  exact Int.pos_of_mul_pos_right a p2
theorem PE.one {pe : List Ent} (h : PE pe) {d : Int} (hd : 0 ≤ d) (hk : ∀ e ∈ pe, d ∣ rateE pe e) : d = 1 := by
  obtain ⟨a, b, c⟩ := h.spec
  obtain ⟨r, hr, r1, r2⟩ := h.root
  have hC : d ∣ lcmE pe := by
    have := hk r hr
    unfold rateE at this
    rwa [r1, r2, Int.ediv_one, Int.one_mul] at this
  generalize hl : lcmE pe = C at *
  obtain ⟨C', rfl⟩ := hC
  have hd0 : d ≠ 0 := fun z => by
    rw [z, Int.zero_mul] at a
    exact absurd a (by decide)
  have hd1 : 0 < d := by omega
  have key : d * C' ∣ C' := c C' fun e he => by
    obtain ⟨m, hm⟩ := b e he
    obtain ⟨p1, p2, p3⟩ := h.pos e he
    obtain ⟨k, hk⟩ := hk e he
    unfold rateE at hk
    rw [hl, hm, Int.mul_ediv_cancel_left _ (Int.ne_of_gt p2)] at hk
    refine cop_dvd (by rw [Int.gcd_comm]; exact p3) ⟨k, ?_⟩
    apply Int.eq_of_mul_eq_mul_left (Int.ne_of_gt hd1)
    calc d * (e.p * C') = e.p * (d * C') := by ac_rfl
      _ = e.q * (e.p * m) := by rw [hm]; ac_rfl
      _ = d * (e.q * k) := by rw [hk]; ac_rfl
  have hC' : 0 < C' := Int.pos_of_mul_pos_right a hd1
  obtain ⟨j, hj⟩ := key
  have : C' * (d * j) = C' * 1 := by
    rw [Int.mul_one]
    calc C' * (d * j) = d * C' * j := by ac_rfl
      _ = C' := hj.symm
  have := Int.eq_of_mul_eq_mul_left (Int.ne_of_gt hC') this
  exact Int.eq_one_of_dvd_one hd ⟨j, this.symm⟩
def wholeL (pe : List Ent) : List Int := pe.map (rateE pe)
theorem PE.gcd {pe : List Ent} (h : PE pe) : gcdF (wholeL pe) = 1 := h.one (gcdF_nn _ _ (by decide)) fun e he => (gcdF_dvd _ _).2 _ (List.mem_map.mpr ⟨e, he, rfl⟩)
theorem PE.lcm_bt {pe : List Ent} (h : PE pe) : Bt 180001 (lcmE pe) := by
  have := lcmF_bt (k := 4500) (pe.map Ent.q) (c := 1) (m := 1) (by decide) (by unfold Bt; decide) fun q hq => by
    obtain ⟨e, he, rfl⟩ := List.mem_map.mp hq
    exact ⟨(h.pos e he).2.1, (h.bt e he).2⟩
  refine this.mono ?_
  have := h.len
  rw [List.length_map]
  omega
def entOf (es : List Ent) (v : Int) : Ent := (es.find? fun e => decide (e.v = v)).getD ⟨0, 1, 1, [], 0⟩
theorem entOf_mem {es : List Ent} {v : Int} (h : v ∈ keysE es) : entOf es v ∈ es ∧ (entOf es v).v = v := by
  unfold entOf
  cases q : es.find? fun e => decide (e.v = v) with
  | none =>
    obtain ⟨e, he, rfl⟩ := List.mem_map.mp h
    have := List.find?_eq_none.mp q e he
    simp at this
  | some e =>
    have h1 := List.find?_some q
    exact ⟨List.mem_of_find?_eq_some q, of_decide_eq_true h1⟩
noncomputable def peOf (ls : List Ln) (n : Nat) (es : List Ent) (a : Int) : List Ent := (compL (ends ls) n a).map (entOf es)
theorem peOf_keys {ls : List Ln} {n : Nat} {es : List Ent} {a : Int} (hi : Inr (ends ls) n) (ha : 0 ≤ a ∧ a < n) (hk : ∀ v, Con (ends ls) a v → v ∈ keysE es) : keysE (peOf ls n es a) = compL (ends ls) n a := by
  unfold keysE peOf
  rw [List.map_map]
  refine (List.map_congr_left fun v hv => ?_).trans (List.map_id _)
  exact (entOf_mem (hk v ((compL_mem hi ha).mp hv))).2
theorem peOf_mem {ls : List Ln} {n : Nat} {es : List Ent} {a : Int} (hi : Inr (ends ls) n) (ha : 0 ≤ a ∧ a < n) (hk : ∀ v, Con (ends ls) a v → v ∈ keysE es) (nd : (keysE es).Nodup) {f : Ent} : f ∈ peOf ls n es a ↔ f ∈ es ∧ Con (ends ls) a f.v := by
  unfold peOf
  rw [List.mem_map]
  constructor
  · rintro ⟨v, hv, rfl⟩
    have hc := (compL_mem hi ha).mp hv
    obtain ⟨h1, h2⟩ := entOf_mem (hk v hc)
    exact ⟨h1, by rw [h2]; exact hc⟩
  · rintro ⟨hf, hc⟩
    obtain ⟨h1, h2⟩ := entOf_mem (hk _ hc)
    exact ⟨f.v, (compL_mem hi ha).mpr hc, ent_same nd h1 hf h2⟩
theorem TI.pe {ls : List Ln} {n : Nat} {es : List Ent} {a : Int} (h : TI ls n es) (hn : n ≤ 31) (hi : Inr (ends ls) n) (ha : 0 ≤ a ∧ a < n) (hk : ∀ v, Con (ends ls) a v → v ∈ keysE es) : PE (peOf ls n es a) := by
  have hm := fun f => peOf_mem (f := f) hi ha hk h.nd
  have hl := h.len
  refine ⟨fun e he => h.pos e ((hm e).mp he).1, fun e he => ?_, ?_, ?_⟩
  · have he := ((hm e).mp he).1
    have := h.wl e he
    obtain ⟨b1, b2⟩ := h.bt e he
    exact ⟨b1.mono (by omega), b2.mono (by omega)⟩
  · unfold peOf
    rw [List.length_map]
    have : (compL (ends ls) n a).length ≤ n := by
      classical
      unfold compL
      refine Nat.le_trans (List.length_filter_le _ _) ?_
      rw [List.length_map, List.length_range]
      exact Nat.le_refl _
    omega
  · obtain ⟨h1, h2⟩ := entOf_mem (hk a .refl)
    generalize entOf es a = e at h1 h2
    obtain ⟨g, hg, g1, g2⟩ := h.pre e h1 [] (List.nil_prefix)
    have v := h.val g hg
    rw [g1, botP, topP, Int.mul_one, Int.mul_one] at v
    obtain ⟨p1, p2, p3⟩ := h.pos g hg
    obtain ⟨g3, _⟩ := h.path g hg
    rw [g1] at g3
    have g3 : g.r = g.v := g3
    refine ⟨g, (hm g).mpr ⟨hg, ?_⟩, ?_⟩
    · rw [← g3, g2, ← h2]
      exact (h.path e h1).1.con.symm
    · rw [v, Int.gcd_self] at p3
      omega
/-- rates told by the ratios keep the belts, and nothing divides them -/
theorem TI.bal {ls : List Ln} {n : Nat} {es : List Ent} (h : TI ls n es) (hn : n ≤ 31) (hi : Inr (ends ls) n) (hp : PosL ls) (hk : ∀ v : Int, 0 ≤ v → v < n → v ∈ keysE es) (ag : ∀ l ∈ ls, ∀ eg ∈ es, ∀ et ∈ es, eg.v = l.g → et.v = l.t → eg.p * l.gi * et.q = eg.q * l.ta * et.p) {rs : List Int} (hl : rs.length = n)
    (hr : ∀ a : Int, 0 ≤ a → a < n → Fst (ends ls) a → ∀ e ∈ peOf ls n es a, cnt rs e.v = rateE (peOf ls n es a) e) : Bal ls n rs := by
  have hk' : ∀ a : Int, 0 ≤ a ∧ a < n → ∀ v, Con (ends ls) a v → v ∈ keysE es := fun a ha v hv => by
    have := hv.inr hi ha
    exact hk v this.1 this.2
  have hm := fun a (ha : 0 ≤ a ∧ a < (n : Int)) f => peOf_mem (f := f) hi ha (hk' a ha) h.nd
  have hpe := fun a (ha : 0 ≤ a ∧ a < (n : Int)) => h.pe hn hi ha (hk' a ha)
  have fex : ∀ a : Int, 0 ≤ a ∧ a < n → ∃ m, Con (ends ls) a m ∧ Fst (ends ls) m ∧ 0 ≤ m ∧ m < n := fun a ha => by
    obtain ⟨m, h1, h2⟩ := fst_ex hi a.toNat a ha.1 ha.2 (by omega)
    have := h1.inr hi ha
    exact ⟨m, h1, h2, this⟩
  refine ⟨⟨hl, fun w h0 h1 => ?_, fun l hl' => ?_⟩, fun a h0 h1 d hd hw => ?_⟩
  · obtain ⟨m, c1, c2, c3⟩ := fex w ⟨h0, h1⟩
    obtain ⟨e1, e2⟩ := entOf_mem (hk w h0 h1)
    have hmem := (hm m c3 (entOf es w)).mpr ⟨e1, by rw [e2]; exact c1.symm⟩
    have := hr m c3.1 c3.2 c2 _ hmem
    rw [e2] at this
    rw [this]
    exact (hpe m c3).rate_pos hmem
  · obtain ⟨r1, r2⟩ := hi _ (ends_mem hl')
    obtain ⟨m, c1, c2, c3⟩ := fex l.g r1
    obtain ⟨e1, e2⟩ := entOf_mem (hk l.g r1.1 r1.2)
    obtain ⟨f1, f2⟩ := entOf_mem (hk l.t r2.1 r2.2)
    have m1 := (hm m c3 (entOf es l.g)).mpr ⟨e1, by rw [e2]; exact c1.symm⟩
    have m2 := (hm m c3 (entOf es l.t)).mpr ⟨f1, by rw [f2]; exact c1.symm.trans (Con.one (Or.inl (ends_mem hl')))⟩
    have v1 := hr m c3.1 c3.2 c2 _ m1
    have v2 := hr m c3.1 c3.2 c2 _ m2
    have a := ag l hl' _ e1 _ f1 e2 f2
    rw [e2] at v1
    rw [f2] at v2
    rw [v1, v2]
    obtain ⟨s1, s2, _⟩ := (hpe m c3).spec
    obtain ⟨x, hx⟩ := s2 _ m1
    obtain ⟨y, hy⟩ := s2 _ m2
    have q1 := ((hpe m c3).pos _ m1).2.1
    have q2 := ((hpe m c3).pos _ m2).2.1
    have d1 : lcmE (peOf ls n es m) / (entOf es l.g).q = x := by rw [hx, Int.mul_ediv_cancel_left _ (Int.ne_of_gt q1)]
    have d2 : lcmE (peOf ls n es m) / (entOf es l.t).q = y := by rw [hy, Int.mul_ediv_cancel_left _ (Int.ne_of_gt q2)]
    unfold rateE
    rw [d1, d2]
    generalize lcmE (peOf ls n es m) = C at *
    generalize entOf es l.g = eg at *
    generalize entOf es l.t = et at *
    apply Int.eq_of_mul_eq_mul_left (Int.ne_of_gt (Int.mul_pos q1 q2))
    calc eg.q * et.q * (l.gi * (eg.p * x)) = (eg.p * l.gi * et.q) * (eg.q * x) := by ac_rfl
      _ = (eg.q * l.ta * et.p) * (et.q * y) := by rw [a, ← hx, ← hy]
      _ = eg.q * et.q * (l.ta * (et.p * y)) := by ac_rfl
  · obtain ⟨m, c1, c2, c3⟩ := fex a ⟨h0, h1⟩
    refine (hpe m c3).one hd fun e he => ?_
    rw [← hr m c3.1 c3.2 c2 e he]
    exact hw _ (c1.trans ((hm m c3 e).mp he).2)
/-- a search in the store -/
structure SpAt (μ : Sto) (s rd wd : Addr) (ls : List Ln) (es : List Ent) : Prop where
  o : μ s = some (.obj 6 [.lst (ls.map Ln.tr), .own rd, .own wd])
  r : μ rd = some (.dict (entD ratT es))
  w : μ wd = some (.dict (entD wayT es))
  ne : rd ≠ wd
theorem SpAt.n1 {μ : Sto} {s rd wd : Addr} {ls : List Ln} {es : List Ent} (S : SpAt μ s rd wd ls es) : s ≠ rd := fun e => by
  have := S.r
  rw [← e, S.o] at this
  cases this
theorem SpAt.n2 {μ : Sto} {s rd wd : Addr} {ls : List Ln} {es : List Ent} (S : SpAt μ s rd wd ls es) : s ≠ wd := fun e => by
  have := S.w
  rw [← e, S.o] at this
  cases this
theorem SpAt.upd {μ : Sto} {s rd wd : Addr} {ls : List Ln} {es fs : List Ent} (S : SpAt μ s rd wd ls es) : SpAt ((μ.set rd (.dict (entD ratT fs))).set wd (.dict (entD wayT fs))) s rd wd ls fs :=
  ⟨by rw [set_ne S.n2, set_ne S.n1]; exact S.o, by rw [set_ne S.ne, set_self], set_self, S.ne⟩
theorem SpAt.put {μ : Sto} {s rd wd p : Addr} {ls : List Ln} {es : List Ent} {ob : Ob} (S : SpAt μ s rd wd ls es) (a : s ≠ p) (b : rd ≠ p) (c : wd ≠ p) : SpAt (μ.set p ob) s rd wd ls es :=
  ⟨by rw [set_ne a]; exact S.o, by rw [set_ne b]; exact S.r, by rw [set_ne c]; exact S.w, S.ne⟩
theorem SpAt.fresh {μ : Sto} {s rd wd p : Addr} {ls : List Ln} {es : List Ent} {ob : Ob} (S : SpAt μ s rd wd ls es) (h : μ p = none) : SpAt (μ.set p ob) s rd wd ls es := S.put (nofr S.o h) (nofr S.r h) (nofr S.w h)
/-- what a walk from a piece's first work brings -/
structure Walked (ls : List Ln) (n : Nat) (es : List Ent) (a : Int) (fs : List Ent) : Prop where
  ti : TI ls n fs
  keys : ∀ v, v ∈ keysE fs ↔ v ∈ keysE es ∨ Con (ends ls) a v
/-- what is known on the way -/
structure WInv (ls : List Ln) (n : Nat) (es : List Ent) (a : Int) (P : Int → Prop) (fs : List Ent) (td : List Int) : Prop where
  ti : TI ls n fs
  old : ∀ v ∈ keysE es, v ∈ keysE fs
  new : ∀ v ∈ keysE fs, v ∈ keysE es ∨ Con (ends ls) a v
  sub : ∀ x ∈ td, x ∈ keysE fs ∧ Con (ends ls) a x
  f : a ∈ keysE fs
  cl : ∀ x ∈ keysE fs, x ∉ keysE es → x ∉ td → ¬ P x → ∀ y, Adj (ends ls) x y → y ∈ keysE fs
theorem WInv.add {ls : List Ln} {n : Nat} {es : List Ent} {a : Int} {P : Int → Prop} {fs : List Ent} {td : List Int} (h : WInv ls n es a P fs td) (hp : PosL ls) (hz : ∀ l ∈ ls, Bt 128 (Ln.gi l) ∧ Bt 128 l.ta) (hi : Inr (ends ls) n) {e : Ent} (he : e ∈ fs) (hw : Con (ends ls) a e.v) {b x : Int} {d : Bool} (hl : Leads ls b d e.v x) (hx : x ∉ keysE fs) : WInv ls n es a P (fs ++ [goE ls e b d x]) (td ++ [x]) := by
  have ek : keysE (fs ++ [goE ls e b d x]) = keysE fs ++ [x] := keysE_add
  have hc : Con (ends ls) a x := hw.trans hl.path.con
  refine ⟨h.ti.step hp hz hi he hl hx, ?_, ?_, ?_, ?_, ?_⟩ <;> rw [ek]
  · exact fun v hv => List.mem_append.mpr (.inl (h.old v hv))
  · intro v hv
    rcases List.mem_append.mp hv with hv | hv
    · exact h.new v hv
    · cases List.mem_singleton.mp hv
      exact .inr hc
  · intro y hy
    rcases List.mem_append.mp hy with hy | hy
    · exact ⟨List.mem_append.mpr (.inl (h.sub y hy).1), (h.sub y hy).2⟩
    · cases List.mem_singleton.mp hy
      exact ⟨List.mem_append.mpr (.inr hy), hc⟩
  · exact List.mem_append.mpr (.inl h.f)
  · intro y hy hn ht hP z hz'
    rcases List.mem_append.mp hy with hy | hy
    · exact List.mem_append.mpr (.inl (h.cl y hy hn (fun q => ht (List.mem_append.mpr (.inl q))) hP z hz'))
    · exact absurd (List.mem_append.mpr (.inr hy)) ht
theorem WInv.end_ {ls : List Ln} {n : Nat} {es : List Ent} {a : Int} {fs : List Ent} (h : WInv ls n es a (fun _ => False) fs []) (hes : ∀ v ∈ keysE es, ¬ Con (ends ls) a v) : Walked ls n es a fs := by
  refine ⟨h.ti, fun v => ⟨h.new v, fun z => ?_⟩⟩
  rcases z with z | z
  · exact h.old v z
  · have : ∀ u, Con (ends ls) a u → u ∈ keysE fs := fun u hu => by
      induction hu with
      | refl => exact h.f
      | step h' e ih => exact h.cl _ ih (fun q => hes _ q h') List.not_mem_nil id _ e
    exact this v z
/-- the store on the way -/
def WS (μ : Sto) (rd wd pt : Addr) (ls : List Ln) (n : Nat) (es : List Ent) (a w : Int) (m : Nat) (Q : List Ent → Prop) (μ' : Sto) : Prop := ∃ fs td, μ' = (((μ.set rd (.dict (entD ratT fs))).set wd (.dict (entD wayT fs))).set pt (.lst (td.map T.int))) ∧ WInv ls n es a (· = w) fs td ∧ (w ∈ keysE fs ∧ Con (ends ls) a w) ∧ 2 * n + td.length < m + 2 * fs.length ∧ Q fs
theorem set3 {μ : Sto} {p q t : Addr} {a b c a' b' c' : Ob} : (((((μ.set p a).set q b).set t c).set p a').set q b').set t c' = ((μ.set p a').set q b').set t c' := by
  funext x
  unfold Sto.set
  by_cases h1 : x = t
  · simp [h1]
  · by_cases h2 : x = q
    · simp [h1, h2]
    · by_cases h3 : x = p
      · simp [h1, h2, h3]
      · simp [h1, h2, h3]
def SeenE (ls : List Ln) (w : Int) (k : Nat) (fs : List Ent) : Prop := ∀ l ∈ ls.take k, (l.g = w → l.t ∈ keysE fs) ∧ (l.t = w → l.g ∈ keysE fs)
def VisE (w a b : Int) (fs : List Ent) : Prop := a = w → b ∈ keysE fs
theorem SeenE.app {ls : List Ln} {w : Int} {k : Nat} {fs : List Ent} {e : Ent} (h : SeenE ls w k fs) : SeenE ls w k (fs ++ [e]) := fun l hl => by
  rw [keysE_add]
  exact ⟨fun e => List.mem_append.mpr (.inl ((h l hl).1 e)), fun e => List.mem_append.mpr (.inl ((h l hl).2 e))⟩
theorem WS.mono {μ : Sto} {rd wd pt : Addr} {ls : List Ln} {n : Nat} {es : List Ent} {a w : Int} {m : Nat} {Q Q' : List Ent → Prop} {μ' : Sto} (h : WS μ rd wd pt ls n es a w m Q μ') (k : ∀ fs, Q fs → Q' fs) : WS μ rd wd pt ls n es a w m Q' μ' := by
  obtain ⟨fs, td, h1, h2, h3, h4, h5⟩ := h
  exact ⟨fs, td, h1, h2, h3, h4, k _ h5⟩
theorem ad_own {o : Bool} {ts us : List T} {p : Addr} {μ : Sto} {R : RP} (h : μ p = some (.lst us)) : tAdd o (.lst ts) (.own p) μ R = (ts.length + us.length ≤ sizeLine ∧ newL o (ts ++ us) μ R) := by
  simp only [Rh.tAdd, Rh.onS, Rh.slst, h, Option.some.injEq, exists_eq_left']
theorem sq0 {n : Nat} : seqIndex? 0 (n + 1) = some 0 := by
  unfold seqIndex?
  simp
def Agr (es : List Ent) (l : Ln) : Prop := ∀ eg ∈ es, ∀ et ∈ es, eg.v = l.g → et.v = l.t → eg.p * l.gi * et.q = eg.q * l.ta * et.p
theorem agr_iff {p q gi ta u v : Int} (hp : 0 < p) (hq : 0 < q) (hg : 0 < gi) (ht : 0 < ta) (hu : 0 < u) (hv : 0 < v) (h1 : Int.gcd u v = 1) : ((rat (p * (rat gi ta).1) (q * (rat gi ta).2)).1 = u ∧ (rat (p * (rat gi ta).1) (q * (rat gi ta).2)).2 = v) ↔ p * gi * v = q * ta * u := by
  obtain ⟨a1, a2, a3, a4, a5, a6⟩ := rat_spec hg ht
  have e := times_is hp hq a1 a2 (Int.mul_comm p q) a4
  obtain ⟨r1, r2, r3, _⟩ := rat_spec (Int.mul_pos hp a1) (Int.mul_pos hq a2)
  generalize (rat (p * (rat gi ta).1) (q * (rat gi ta).2)).1 = r at *
  generalize (rat (p * (rat gi ta).1) (q * (rat gi ta).2)).2 = s at *
  constructor
  · rintro ⟨rfl, rfl⟩
    calc p * gi * s = s * (p * gi) := Int.mul_comm _ _
      _ = r * (q * ta) := e.symm
      _ = q * ta * r := Int.mul_comm _ _
  · intro h
    refine red_eq r1 r2 hu hv r3 h1 ?_
    apply Int.eq_of_mul_eq_mul_left (Int.ne_of_gt (Int.mul_pos hq ht))
    calc q * ta * (r * v) = (r * (q * ta)) * v := by ac_rfl
      _ = s * (p * gi * v) := by rw [e]; ac_rfl
      _ = q * ta * (s * u) := by rw [h]; ac_rfl
/-- all that a search through all pieces has brought -/
structure Full (ls : List Ln) (n : Nat) (es : List Ent) : Prop where
  ti : TI ls n es
  pos : PosL ls
  bt : ∀ l ∈ ls, Bt 128 (Ln.gi l) ∧ Bt 128 l.ta
  inr : Inr (ends ls) n
  n31 : n ≤ 31
  all : ∀ v : Int, 0 ≤ v → v < n → v ∈ keysE es
theorem Full.ent {ls : List Ln} {n : Nat} {es : List Ent} (h : Full ls n es) {v : Int} (h0 : 0 ≤ v) (h1 : v < n) : ∃ e ∈ es, e.v = v ∧ 0 < e.p ∧ 0 < e.q ∧ Int.gcd e.p e.q = 1 ∧ Bt 4500 e.p ∧ Bt 4500 e.q ∧ e.w.length ≤ 31 := by
  obtain ⟨e, he, rfl⟩ := List.mem_map.mp (h.all v h0 h1)
  have a := h.ti.pos e he
  have b := h.ti.bt e he
  have c := h.ti.wl e he
  have d := h.ti.len
  have := h.n31
  exact ⟨e, he, rfl, a.1, a.2.1, a.2.2, b.1.mono (by omega), b.2.mono (by omega), by omega⟩
theorem eq_pace {neg : Bool} {x y : Pace} {μ : Sto} {R : RP} : tEq neg (paceT x) (paceT y) μ R = R (.bl (if neg = true then !decide (x = y) else decide (x = y))) μ :=
  @eq_hasE (Int × Bool) _ _ μ (paceT x) (paceT y) x y neg R (Has.of (x := (x : Int × Bool)) ⟨trivial, trivial⟩) (Has.of (x := (y : Int × Bool)) ⟨trivial, trivial⟩) rfl
/-- rates told, one's own or at rest -/
def ratR (rs : List Int) (μ : Sto) (R : RP) : Prop := (∀ p, μ p = none → R (.tup [.own p, .non]) (μ.set p (.lst (rs.map T.int)))) ∨ R (.tup [.lst (rs.map T.int), .non]) μ
theorem fin_ratR {rs : List Int} {μ μ' : Sto} {R : RP} {q : Addr} (h : ratR rs μ R) (hq : μ q = Option.none) (e : μ' q = some (.lst (rs.map T.int))) (s : Rh.Sub (μ.set q (.lst (rs.map T.int))) μ') : fin_ R (.tup [.own q, .non]) μ' := by
  rcases h with h | h
  · exact fin_sub _ s (h q hq)
  · refine ⟨.tup [.lst (rs.map T.int), .non], μ, ⟨[q], .tup (.cons (.own e (List.mem_singleton.mpr rfl) (.refl _)) (.cons (.refl _) .nil)), fun a o z => ?_, fun a ha => by cases List.mem_singleton.mp ha; exact hq⟩, h⟩
    exact s a o (by rw [set_ne (fun y => by subst y; rw [hq] at z; cases z)]; exact z)
theorem compL_head {es : List (Int × Int)} {n : Nat} {a : Int} (hi : Inr es n) (h0 : 0 ≤ a) (h1 : a < n) (hf : Fst es a) : (compL es n a)[0]? = some a := by
  have hm := (compL_mem (b := a) hi ⟨h0, h1⟩).mpr .refl
  have hlt := compL_lt (es := es) (n := n) (a := a)
  have hc := fun b => (compL_mem (b := b) hi ⟨h0, h1⟩).mp
  cases e : compL es n a with
  | nil => rw [e] at hm; cases hm
  | cons y r =>
    rw [e] at hm hlt hc
    have h2 := hf y (hc y List.mem_cons_self)
    rcases List.mem_cons.mp hm with rfl | hm
    · rfl
    · have := (List.pairwise_cons.mp hlt).1 a hm
      omega
theorem firsts_mem {es : List (Int × Int)} {n : Nat} {a : Int} : a ∈ firsts es n ↔ (0 ≤ a ∧ a < n) ∧ Fst es a := by
  classical
  unfold firsts
  rw [List.mem_filter, rngI_mem, decide_eq_true_eq]
theorem firsts_nd {es : List (Int × Int)} {n : Nat} : (firsts es n).Nodup := by
  classical
  unfold firsts
  exact nodup_of_lt (List.Pairwise.filter _ rngI_lt)
theorem Sub.none' {μ μ' : Sto} (h : Rh.Sub μ μ') {p : Addr} (e : μ' p = none) : μ p = none := by
  cases q : μ p with
  | none => rfl
  | some o => rw [h _ _ q] at e; cases e
theorem Sub.put' {μ μ' : Sto} {q : Addr} {o : Ob} (sb : Rh.Sub μ μ') (hq : μ q = none) : Rh.Sub μ (μ'.set q o) := fun a ob e => by
  rw [set_ne (fun y => by subst y; rw [hq] at e; cases e)]
  exact sb a ob e
def cL (n : Nat) (row : List Int) : List Int := ((List.range n).map fun i : Nat => (i : Int)).map fun w => (row.count w : Int)
theorem cL_len {n : Nat} {row : List Int} : (cL n row).length = n := by
  unfold cL
  rw [List.length_map, List.length_map, List.length_range]
theorem cL_at {n : Nat} {row : List Int} {w : Int} (h0 : 0 ≤ w) (h1 : w < n) : cnt (cL n row) w = row.count w := by
  unfold Rh.cnt cL
  rw [List.getElem?_map, List.getElem?_map, List.getElem?_range (by omega)]
  show ((row.count ((w.toNat : Nat) : Int) : Nat) : Int) = _
  rw [Int.toNat_of_nonneg h0]
theorem cnt_ext {xs ys : List Int} {n : Nat} (h1 : xs.length = n) (h2 : ys.length = n) (h : ∀ w : Int, 0 ≤ w → w < n → cnt xs w = cnt ys w) : xs = ys := by
  refine List.ext_getElem (h1.trans h2.symm) fun i a b => ?_
  have := h i (by omega) (by omega)
  unfold Rh.cnt at this
  rw [Int.toNat_natCast, List.getElem?_eq_getElem a, List.getElem?_eq_getElem b] at this
  exact this
theorem count_app {row : List Int} {w x : Int} : (row ++ [w]).count x = row.count x + if w = x then 1 else 0 := by
  rw [List.count_append, List.count_singleton]
  by_cases h : w = x
  · simp [h]
  · have h' : ¬ x = w := fun z => h z.symm
    simp [h, h']
theorem cL_app {n : Nat} {row : List Int} {w : Int} (h0 : 0 ≤ w) (h1 : w < n) : cL n (row ++ [w]) = (cL n row).set w.toNat (cnt (cL n row) w + 1) := by
  refine cnt_ext cL_len (by rw [List.length_set]; exact cL_len) fun x x0 x1 => ?_
  rw [cnt_set h0 (by rw [cL_len]; exact h1) x0, cL_at x0 x1, count_app, cL_at h0 h1]
  by_cases e : w = x
  · subst e
    rw [if_pos rfl, if_pos rfl]
    omega
  · rw [if_neg e, if_neg e, cL_at x0 x1]
    omega
theorem cL_nil {n : Nat} : cL n [] = List.replicate n 0 := by
  refine cnt_ext cL_len List.length_replicate fun x x0 x1 => ?_
  rw [cL_at x0 x1]
  unfold Rh.cnt
  rw [List.getElem?_replicate, if_pos (by omega)]
  rfl
def hpOf (row : List Int) (l : Ln) : Int := l.st + l.gi * row.count l.g - l.ta * row.count l.t
def hps (ls : List Ln) (row : List Int) : List Int := ls.map (hpOf row)
theorem hps_nil {ls : List Ln} : hps ls [] = ls.map Ln.st := by
  unfold hps
  refine List.map_congr_left fun l _ => ?_
  unfold hpOf
  rw [List.count_nil, List.count_nil]
  simp
theorem shf_hp {l : Ln} {row : List Int} {w : Int} : shf l (hpOf row l) w = hpOf (row ++ [w]) l := by
  unfold shf hpOf
  rw [count_app, count_app, Int.natCast_add, Int.natCast_add, Int.mul_add, Int.mul_add]
  by_cases a : l.g = w <;> by_cases b : l.t = w
  · rw [if_pos a, if_pos b, if_pos a.symm, if_pos b.symm]
    simp
    omega
  · rw [if_pos a, if_neg b, if_pos a.symm, if_neg (fun z => b z.symm)]
    simp
    omega
  · rw [if_neg a, if_pos b, if_neg (fun z => a z.symm), if_pos b.symm]
    simp
    omega
  · rw [if_neg a, if_neg b, if_neg (fun z => a z.symm), if_neg (fun z => b z.symm)]
    simp
theorem zip_self_map {α β : Type} (f : α → β) : ∀ ls : List α, ls.zip (ls.map f) = ls.map fun l => (l, f l)
  | [] => rfl
  | a :: r => by rw [List.map_cons, List.zip_cons_cons, zip_self_map f r, List.map_cons]
theorem shift_hps {ls : List Ln} {row : List Int} {w : Int} : shiftL ls (hps ls row) w = hps ls (row ++ [w]) := by
  unfold shiftL hps
  rw [zip_self_map, List.map_map]
  refine List.map_congr_left fun l _ => shf_hp
theorem rdy_hps {ls : List Ln} {row : List Int} {w : Int} : rdy ls (hps ls row) w = true ↔ ∀ l ∈ ls, l.t = w → l.ta ≤ hpOf row l := by
  unfold rdy hps
  rw [zip_self_map, List.all_map, List.all_eq_true]
  constructor
  · intro h l hl e
    have := h l hl
    simp only [Function.comp, e, decide_true, Bool.true_and, Bool.not_eq_true', decide_eq_false_iff_not] at this
    omega
  · intro h l hl
    simp only [Function.comp, Bool.not_eq_true', Bool.and_eq_false_iff, decide_eq_false_iff_not]
    by_cases e : l.t = w
    · right
      have := h l hl e
      omega
    · exact .inl e
def Can (ls : List Ln) (gl row : List Int) (w : Int) : Prop := (row.count w : Int) < cnt gl w ∧ rdy ls (hps ls row) w = true
def Turns (ls : List Ln) (gl : List Int) (n : Nat) (row : List Int) : Prop := ∀ (k : Nat) w, row[k]? = some w → (0 ≤ w ∧ w < n) ∧ Can ls gl (row.take k) w
def Least (ls : List Ln) (gl row : List Int) : Prop := ∀ (k : Nat) w, row[k]? = some w → ∀ v : Int, 0 ≤ v → v < w → ¬ Can ls gl (row.take k) v
def Stuck (ls : List Ln) (gl : List Int) (n : Nat) (row : List Int) : Prop := ∀ w : Int, 0 ≤ w → w < n → ¬ Can ls gl row w
theorem Turns.nil {ls : List Ln} {gl : List Int} {n : Nat} : Turns ls gl n [] := fun k w h => by simp at h
theorem Least.nil {ls : List Ln} {gl : List Int} : Least ls gl [] := fun k w h => by simp at h
theorem get_app {row : List Int} {w x : Int} {k : Nat} (h : (row ++ [w])[k]? = some x) : (row[k]? = some x ∧ (row ++ [w]).take k = row.take k) ∨ (x = w ∧ (row ++ [w]).take k = row) := by
  by_cases hk : k < row.length
  · rw [List.getElem?_append_left hk] at h
    exact .inl ⟨h, List.take_append_of_le_length (by omega)⟩
  · rw [List.getElem?_append_right (by omega)] at h
    obtain ⟨h1, h2⟩ := List.getElem?_eq_some_iff.mp h
    rw [List.length_singleton] at h1
    have : k = row.length := by omega
    subst this
    refine .inr ⟨?_, by simp⟩
    simpa using h2.symm
theorem Turns.app {ls : List Ln} {gl : List Int} {n : Nat} {row : List Int} {w : Int} (h : Turns ls gl n row) (h0 : 0 ≤ w ∧ w < n) (hc : Can ls gl row w) : Turns ls gl n (row ++ [w]) := fun k x e => by
  rcases get_app e with ⟨e1, e2⟩ | ⟨rfl, e2⟩
  · rw [e2]
    exact h k x e1
  · rw [e2]
    exact ⟨h0, hc⟩
theorem Least.app {ls : List Ln} {gl : List Int} {row : List Int} {w : Int} (h : Least ls gl row) (hc : ∀ v : Int, 0 ≤ v → v < w → ¬ Can ls gl row v) : Least ls gl (row ++ [w]) := fun k x e => by
  rcases get_app e with ⟨e1, e2⟩ | ⟨rfl, e2⟩
  · rw [e2]
    exact h k x e1
  · rw [e2]
    exact hc
theorem Turns.take {ls : List Ln} {gl : List Int} {n : Nat} {row : List Int} (h : Turns ls gl n row) (j : Nat) : Turns ls gl n (row.take j) := fun k w e => by
  rw [List.getElem?_take] at e
  split at e
  · have := h k w e
    rwa [List.take_take, Nat.min_eq_left (by omega)]
  · cases e
theorem Turns.mem {ls : List Ln} {gl : List Int} {n : Nat} {row : List Int} (h : Turns ls gl n row) : ∀ w ∈ row, 0 ≤ w ∧ w < n := fun w hw => by
  obtain ⟨k, hk, e⟩ := List.mem_iff_getElem.mp hw
  exact (h k w (by rw [← e]; exact List.getElem?_eq_getElem hk)).1
theorem Turns.le {ls : List Ln} {gl : List Int} {n : Nat} {row : List Int} (h : Turns ls gl n row) (hg : ∀ w : Int, 0 ≤ w → w < n → 0 ≤ cnt gl w) : ∀ (k : Nat) (w : Int), 0 ≤ w → w < n → ((row.take k).count w : Int) ≤ cnt gl w
  | 0, w, h0, h1 => by
    rw [List.take_zero, List.count_nil]
    exact hg w h0 h1
  | k + 1, w, h0, h1 => by
    have ih := Turns.le h hg k w h0 h1
    rw [List.take_add_one]
    cases e : row[k]? with
    | none => simpa using ih
    | some x =>
      have hc := (h k x e).2.1
      show ((row.take k ++ [x]).count w : Int) ≤ _
      rw [count_app]
      by_cases ex : x = w
      · subst ex
        rw [if_pos rfl]
        omega
      · rw [if_neg ex]
        exact ih
theorem Turns.le' {ls : List Ln} {gl : List Int} {n : Nat} {row : List Int} (h : Turns ls gl n row) (hg : ∀ w : Int, 0 ≤ w → w < n → 0 ≤ cnt gl w) {w : Int} (h0 : 0 ≤ w) (h1 : w < n) : (row.count w : Int) ≤ cnt gl w := by
  have := h.le hg row.length w h0 h1
  rwa [List.take_length] at this
/-- nobody turns oftener than in a row that sticks -/
theorem dom {ls : List Ln} {gl : List Int} {n : Nat} {r1 r2 : List Int} (hp : PosL ls) (s : Stuck ls gl n r1) (h : Turns ls gl n r2) : ∀ (k : Nat) (w : Int), (r2.take k).count w ≤ r1.count w
  | 0, w => by
    rw [List.take_zero, List.count_nil]
    exact Nat.zero_le _
  | k + 1, w => by
    have ih := fun w => dom hp s h k w
    rw [List.take_add_one]
    cases e : r2[k]? with
    | none => simpa using ih w
    | some x =>
      obtain ⟨⟨x0, x1⟩, hc, hr⟩ := h k x e
      show ((r2.take k ++ [x]).count w) ≤ _
      rw [count_app]
      by_cases ex : x = w
      · subst ex
        rw [if_pos rfl]
        refine Nat.lt_of_le_of_ne (ih x) fun q => s x x0 x1 ⟨by rw [← q]; exact hc, rdy_hps.mpr fun l hl et => ?_⟩
        have h1 := rdy_hps.mp hr l hl et
        have h2 := Int.mul_le_mul_of_nonneg_left (show ((r2.take k).count l.g : Int) ≤ (r1.count l.g : Int) by have := ih l.g; omega) (show 0 ≤ l.gi by have := (hp l hl).1; omega)
        unfold hpOf at h1 ⊢
        rw [et] at h1 ⊢
        rw [← q]
        omega
      · rw [if_neg ex]
        exact ih w
theorem dom' {ls : List Ln} {gl : List Int} {n : Nat} {r1 r2 : List Int} (hp : PosL ls) (s : Stuck ls gl n r1) (h : Turns ls gl n r2) (w : Int) : r2.count w ≤ r1.count w := by
  have := dom hp s h r2.length w
  rwa [List.take_length] at this
/-- all rows that stick have the same counts -/
theorem stuck_same {ls : List Ln} {gl : List Int} {n : Nat} {r1 r2 : List Int} (hp : PosL ls) (s1 : Stuck ls gl n r1) (h1 : Turns ls gl n r1) (s2 : Stuck ls gl n r2) (h2 : Turns ls gl n r2) : cL n r1 = cL n r2 := by
  refine cnt_ext cL_len cL_len fun w a b => ?_
  rw [cL_at a b, cL_at a b]
  have := dom' hp s1 h2 w
  have := dom' hp s2 h1 w
  omega
theorem sum_set {xs : List Int} : ∀ {i : Nat} {v : Int}, i < xs.length → (xs.set i v).sum = xs.sum - (xs[i]?).getD 0 + v := by
  induction xs with
  | nil => intro i v h; simp at h
  | cons a r ih =>
    intro i v h
    cases i with
    | zero =>
      simp only [List.set_cons_zero, List.sum_cons, List.getElem?_cons_zero, Option.getD_some]
      omega
    | succ i =>
      simp only [List.set_cons_succ, List.sum_cons, List.getElem?_cons_succ]
      rw [ih (by simpa using h)]
      omega
theorem sum_repl {n : Nat} : (List.replicate n (0 : Int)).sum = 0 := by
  induction n with
  | zero => rfl
  | succ n ih => rw [List.replicate_succ, List.sum_cons, ih]; rfl
theorem len_sum {n : Nat} : ∀ row : List Int, (∀ w ∈ row, 0 ≤ w ∧ w < n) → (row.length : Int) = (cL n row).sum := fun row => by
  induction row using rev_ind with
  | nil =>
    intro _
    rw [cL_nil, sum_repl]
    rfl
  | snoc row w ih =>
    intro h
    have hw := h w (by simp)
    have ih := ih fun x hx => h x (by simp [hx])
    rw [cL_app hw.1 hw.2, sum_set (by rw [cL_len]; omega), ← ih, List.length_append, List.length_singleton]
    unfold Rh.cnt
    omega
theorem sum_le {xs : List Int} : ∀ {ys : List Int}, xs.length = ys.length → (∀ i : Nat, (xs[i]?).getD 0 ≤ (ys[i]?).getD 0) → xs.sum ≤ ys.sum := by
  induction xs with
  | nil => intro ys h _; have : ys = [] := List.eq_nil_of_length_eq_zero h.symm; rw [this]; exact Int.le_refl _
  | cons a r ih =>
    intro ys h k
    cases ys with
    | nil => cases h
    | cons b s =>
      have h0 := k 0
      have := ih (ys := s) (by simpa using h) fun i => k (i + 1)
      simp only [List.sum_cons]
      simp at h0
      omega
theorem Turns.len {ls : List Ln} {gl : List Int} {n : Nat} {row : List Int} (h : Turns ls gl n row) (hl : gl.length = n) (hg : ∀ w : Int, 0 ≤ w → w < n → 0 ≤ cnt gl w) : (row.length : Int) ≤ gl.sum := by
  rw [len_sum row h.mem]
  refine sum_le (cL_len.trans hl.symm) fun i => ?_
  by_cases hi : i < n
  · have := h.le' hg (w := i) (by omega) (by omega)
    rw [← cL_at (n := n) (row := row) (by omega) (by omega)] at this
    unfold Rh.cnt at this
    rwa [Int.toNat_natCast] at this
  · rw [List.getElem?_eq_none (by rw [cL_len]; omega), List.getElem?_eq_none (by omega)]
    exact Int.le_refl _
/-- a belt that is short for a work with turns left has a giver with turns left -/
theorem short_giver {ls : List Ln} {gl : List Int} {n : Nat} {row : List Int} (S : Sol ls n gl) (hi : Inr (ends ls) n) (hp : PosL ls) (h : Turns ls gl n row) {l : Ln} (hl : l ∈ ls) (h0 : 0 ≤ l.st) (hc : (row.count l.t : Int) < cnt gl l.t) (hs : hpOf row l < l.ta) : (row.count l.g : Int) < cnt gl l.g := by
  obtain ⟨⟨g0, g1⟩, t0, t1⟩ := hi _ (ends_mem hl)
  have le := h.le' (fun w a b => Int.le_of_lt (S.pos w a b)) g0 g1
  refine Int.lt_iff_le_and_ne.mpr ⟨le, fun e => ?_⟩
  have e : (row.count l.g : Int) = cnt gl l.g := e
  unfold hpOf at hs
  rw [e, S.bal l hl] at hs
  have ht := (hp l hl).2
  have : l.ta * (row.count l.t : Int) + l.ta ≤ l.ta * cnt gl l.t := by
    have := Int.mul_le_mul_of_nonneg_left (show (row.count l.t : Int) + 1 ≤ cnt gl l.t by omega) (show 0 ≤ l.ta by omega)
    rwa [Int.mul_add, Int.mul_one] at this
  omega
/-- a ring of short belts -/
structure StopR (ls : List Ln) (gl row ring : List Int) : Prop where
  ne : ring ≠ []
  nd : ring.Nodup
  at_ : ∀ i ∈ ring, ∃ l, 0 ≤ i ∧ ls[i.toNat]? = some l ∧ (row.count l.t : Int) < cnt gl l.t ∧ hpOf row l < l.ta
  ch : ∀ (k : Nat) i j l l', ring[k]? = some i → ring[k + 1]? = some j → ls[i.toNat]? = some l → ls[j.toNat]? = some l' → l.g = l'.t
  cl : ∀ i j l l', ring[ring.length - 1]? = some i → ring[0]? = some j → ls[i.toNat]? = some l → ls[j.toNat]? = some l' → l.g = l'.t
theorem LstAt.put' {μ : Sto} {t : T} {us : List T} {p : Addr} {o : Ob} (h : LstAt μ t us) (hn : t ≠ .own p) : LstAt (μ.set p o) t us := by
  rcases h with rfl | ⟨q, rfl, e⟩
  · exact .lst
  · exact .own (by rw [set_ne (fun z => hn (by rw [z]))]; exact e)
/-- an attempt in the store -/
structure AtSt (μ : Sto) (a p3 p4 : Addr) (th : T) (ls : List Ln) (gl : List Int) (n : Nat) (row : List Int) : Prop where
  o : μ a = some (.obj 0 [.lst (ls.map Ln.tr), .lst (gl.map T.int), th, .own p3, .own p4])
  h : LstAt μ th ((hps ls row).map T.int)
  c : μ p3 = some (.lst ((cL n row).map T.int))
  r : μ p4 = some (.lst (row.map T.int))
  hn : th ≠ .own a ∧ th ≠ .own p3 ∧ th ≠ .own p4
  gl : gl.length = n
  n1 : p3 ≠ p4
theorem AtSt.n3 {μ : Sto} {a p3 p4 : Addr} {th : T} {ls : List Ln} {gl : List Int} {n : Nat} {row : List Int} (S : AtSt μ a p3 p4 th ls gl n row) : a ≠ p3 := fun e => by
  have := S.c
  rw [← e, S.o] at this
  cases this
theorem AtSt.n4 {μ : Sto} {a p3 p4 : Addr} {th : T} {ls : List Ln} {gl : List Int} {n : Nat} {row : List Int} (S : AtSt μ a p3 p4 th ls gl n row) : a ≠ p4 := fun e => by
  have := S.r
  rw [← e, S.o] at this
  cases this
/-- the belts back, with the room that is left -/
def bk (p : Ln × Int) : Ln := ⟨p.1.t, p.1.g, p.1.ta, p.1.gi, p.2 - p.1.st⟩
def bkL (ls : List Ln) (rm : List Int) : List Ln := (ls.zip rm).map bk
structure NmL (ns : List Str) : Prop where
  nm : ∀ n ∈ ns, isName n = true
  nd : ns.Nodup
  le : ns.length ≤ 30
theorem NmL.at_ {nl : List Str} (h : NmL nl) {k : Nat} {x : Str} (e : nl[k]? = some x) : isName x = true ∧ x.length ≤ sizeLine ∧ sOk x ∧ x ∉ nl.take k := by
  have hm := List.mem_of_getElem? e
  obtain ⟨c, d⟩ := isName_ok (h.nm x hm)
  refine ⟨h.nm x hm, Nat.le_trans d (by decide), c, fun z => ?_⟩
  have hd := h.nd
  rw [← List.take_append_drop k nl] at hd
  refine (List.nodup_append.mp hd).2.2 _ z _ ?_ rfl
  rw [List.drop_eq_getElem_cons (List.getElem?_eq_some_iff.mp e).1]
  rw [(List.getElem?_eq_some_iff.mp e).2]
  exact List.mem_cons_self
theorem NmL.ok {nl : List Str} (h : NmL nl) : ∀ x ∈ nl, sOk x := fun x hx => (isName_ok (h.nm x hx)).1
theorem LstAt.sb {μ μ' : Sto} {t : T} {us : List T} (h : LstAt μ t us) (s : Rh.Sub μ μ') : LstAt μ' t us := by
  rcases h with rfl | ⟨q, rfl, e⟩
  · exact .lst
  · exact .own (s _ _ e)
theorem zip_lr {ls : List Ln} {rm : List Int} : ((ls.map Ln.tr).zip (rm.map T.int)).map (fun p => T.tup [p.1, p.2]) = (ls.zip rm).map fun p => T.tup [p.1.tr, .int p.2] := by
  rw [List.zip_map, List.map_map]
  rfl
/-! what a backed hall is -/
theorem bk_hp {row : List Int} {l : Ln} {r : Int} : hpOf row (bk (l, r)) = r - hpOf row l := by
  unfold hpOf bk
  dsimp only
  omega
theorem zip_fst {ls : List Ln} {rm : List Int} (h : rm.length = ls.length) {l : Ln} (hl : l ∈ ls) : ∃ r, (l, r) ∈ ls.zip rm := by
  obtain ⟨i, hi, e⟩ := List.mem_iff_getElem.mp hl
  refine ⟨rm[i]'(by omega), ?_⟩
  rw [← e, ← List.getElem_zip (h := by rw [List.length_zip]; omega)]
  exact List.getElem_mem _
theorem bkL_len {ls : List Ln} {rm : List Int} (h : rm.length = ls.length) : (bkL ls rm).length = ls.length := by
  unfold bkL
  rw [List.length_map, List.length_zip, h, Nat.min_self]
theorem bkL_mem {ls : List Ln} {rm : List Int} {x : Ln} : x ∈ bkL ls rm ↔ ∃ l r, (l, r) ∈ ls.zip rm ∧ x = bk (l, r) := by
  unfold bkL
  rw [List.mem_map]
  constructor
  · rintro ⟨⟨l, r⟩, h, e⟩
    exact ⟨l, r, h, e.symm⟩
  · rintro ⟨l, r, h, e⟩
    exact ⟨(l, r), h, e.symm⟩
theorem mem_zipL {ls : List Ln} {rm : List Int} {l : Ln} {r : Int} (h : (l, r) ∈ ls.zip rm) : l ∈ ls := (List.of_mem_zip h).1
theorem back_inr {ls : List Ln} {rm : List Int} {n : Nat} (h : Inr (ends ls) n) : Inr (ends (ls ++ bkL ls rm)) n := fun e he => by
  obtain ⟨x, hx, rfl⟩ := List.mem_map.mp he
  rcases List.mem_append.mp hx with hx | hx
  · exact h _ (ends_mem hx)
  · obtain ⟨l, r, hl, rfl⟩ := bkL_mem.mp hx
    have := h _ (ends_mem (mem_zipL hl))
    exact ⟨this.2, this.1⟩
theorem back_pos {ls : List Ln} {rm : List Int} (h : PosL ls) : PosL (ls ++ bkL ls rm) := fun x hx => by
  rcases List.mem_append.mp hx with hx | hx
  · exact h x hx
  · obtain ⟨l, r, hl, rfl⟩ := bkL_mem.mp hx
    have := h l (mem_zipL hl)
    exact ⟨this.2, this.1⟩
theorem back_bt {ls : List Ln} {rm : List Int} {k : Nat} (h : ∀ l ∈ ls, Bt k (Ln.gi l) ∧ Bt k l.ta) : ∀ l ∈ ls ++ bkL ls rm, Bt k (Ln.gi l) ∧ Bt k l.ta := fun x hx => by
  rcases List.mem_append.mp hx with hx | hx
  · exact h x hx
  · obtain ⟨l, r, hl, rfl⟩ := bkL_mem.mp hx
    have := h l (mem_zipL hl)
    exact ⟨this.2, this.1⟩
theorem back_st {ls : List Ln} {rm : List Int} (h : ∀ l ∈ ls, 0 ≤ Ln.st l) (hr : ∀ p ∈ ls.zip rm, Ln.st p.1 ≤ p.2) : ∀ l ∈ ls ++ bkL ls rm, 0 ≤ Ln.st l := fun x hx => by
  rcases List.mem_append.mp hx with hx | hx
  · exact h x hx
  · obtain ⟨l, r, hl, rfl⟩ := bkL_mem.mp hx
    have := hr _ hl
    show 0 ≤ r - l.st
    dsimp only at this
    omega
theorem back_con {ls : List Ln} {rm : List Int} {a b : Int} : Con (ends (ls ++ bkL ls rm)) a b ↔ Con (ends ls) a b := by
  have key : ∀ u v : Int, ((u, v) ∈ ends (ls ++ bkL ls rm) ∨ (v, u) ∈ ends (ls ++ bkL ls rm)) ↔ ((u, v) ∈ ends ls ∨ (v, u) ∈ ends ls) := fun u v => by
    have one : ∀ u v : Int, (u, v) ∈ ends (ls ++ bkL ls rm) → ((u, v) ∈ ends ls ∨ (v, u) ∈ ends ls) := fun u v h => by
      obtain ⟨x, hx, e⟩ := List.mem_map.mp h
      rcases List.mem_append.mp hx with hx | hx
      · exact .inl (e ▸ ends_mem hx)
      · obtain ⟨l, r, hl, rfl⟩ := bkL_mem.mp hx
        have := ends_mem (mem_zipL hl)
        cases e
        exact .inr this
    have two : ∀ u v : Int, (u, v) ∈ ends ls → (u, v) ∈ ends (ls ++ bkL ls rm) := fun u v h => by
      obtain ⟨x, hx, e⟩ := List.mem_map.mp h
      exact e ▸ ends_mem (List.mem_append_left _ hx)
    constructor
    · rintro (h | h)
      · exact one u v h
      · exact (one v u h).symm
    · exact fun h => h.imp (two u v) (two v u)
  exact ⟨fun c => by
    induction c with
    | refl => exact .refl
    | step _ h ih => exact ih.step ((key _ _).mp h), fun c => by
    induction c with
    | refl => exact .refl
    | step _ h ih => exact ih.step ((key _ _).mpr h)⟩
theorem back_sol {ls : List Ln} {rm rs : List Int} {n : Nat} : Sol (ls ++ bkL ls rm) n rs ↔ Sol ls n rs := by
  constructor
  · exact fun S => ⟨S.len, S.pos, fun l hl => S.bal l (List.mem_append_left _ hl)⟩
  · refine fun S => ⟨S.len, S.pos, fun x hx => ?_⟩
    rcases List.mem_append.mp hx with hx | hx
    · exact S.bal x hx
    · obtain ⟨l, r, hl, rfl⟩ := bkL_mem.mp hx
      exact (S.bal l (mem_zipL hl)).symm
theorem back_bal {ls : List Ln} {rm rs : List Int} {n : Nat} : Bal (ls ++ bkL ls rm) n rs ↔ Bal ls n rs := by
  constructor
  · exact fun S => ⟨back_sol.mp S.toSol, fun a h0 h1 d hd h => S.one a h0 h1 d hd fun w c => h w (back_con.mp c)⟩
  · exact fun S => ⟨back_sol.mpr S.toSol, fun a h0 h1 d hd h => S.one a h0 h1 d hd fun w c => h w (back_con.mpr c)⟩
/-- how often each member turns, as a dict -/
def tD (ms rs : List Int) (c : Int) : List (Key × T) := ms.map fun m => (Sum.inl m, T.int (cnt rs m / c))
structure JoAt (μ : Sto) (j pt : Addr) (row : List Int) (fst : Int) (kept : List Int) (called : List Str) (tied : List Ln) : Prop where
  o : μ j = some (.obj 4 [.lst (row.map T.int), .int fst, .lst (kept.map T.int), .lst (called.map T.str), .own pt])
  t : μ pt = some (.lst (tied.map Ln.tr))
def gM (ms rs : List Int) : Int := (ms.map (cnt rs)).foldl (fun a b => (Int.gcd a b : Int)) 0
/-! rooms that cannot be less -/
def wR (ls : List Ln) (rm : List Int) : List Ln := ls ++ bkL ls rm
def HasR (ls : List Ln) (rs : List Int) (n : Nat) (rm : List Int) : Prop := ∃ row, Turns (wR ls rm) rs n row ∧ cL n row = rs
theorem stuck_of_done {ls : List Ln} {gl : List Int} {n : Nat} {row : List Int} (h : cL n row = gl) : Stuck ls gl n row := fun w a b hc => by
  have := hc.1
  rw [← h, cL_at a b] at this
  omega
theorem HasR.done {ls : List Ln} {rs rm : List Int} {n : Nat} (hp : PosL ls) (h : HasR ls rs n rm) {row : List Int} (hT : Turns (wR ls rm) rs n row) (hS : Stuck (wR ls rm) rs n row) : cL n row = rs := by
  obtain ⟨r0, t0, d0⟩ := h
  rw [← d0]
  exact stuck_same (back_pos hp) hS hT (stuck_of_done d0) t0
theorem can_back {ls : List Ln} {rm rs row : List Int} {w : Int} (hl : rm.length = ls.length) : Can (wR ls rm) rs row w ↔ (row.count w : Int) < cnt rs w ∧ (∀ l ∈ ls, l.t = w → l.ta ≤ hpOf row l) ∧ ∀ (i : Nat) l, ls[i]? = some l → l.g = w → hpOf row l + l.gi ≤ cnt rm i := by
  unfold Can wR
  rw [rdy_hps]
  have hz : ∀ (i : Nat) l, ls[i]? = some l → (l, cnt rm i) ∈ ls.zip rm := fun i l e => by
    have hi := (List.getElem?_eq_some_iff.mp e).1
    have e2 := (List.getElem?_eq_some_iff.mp e).2
    have e3 : cnt rm (i : Nat) = rm[i]'(by omega) := by
      unfold Rh.cnt
      rw [Int.toNat_natCast, List.getElem?_eq_getElem (by omega)]
      rfl
    rw [e3, ← e2, ← List.getElem_zip (h := by rw [List.length_zip]; omega)]
    exact List.getElem_mem _
  constructor
  · rintro ⟨h1, h2⟩
    refine ⟨h1, fun l h e => h2 l (List.mem_append_left _ h) e, fun i l e eg => ?_⟩
    have := h2 (bk (l, cnt rm i)) (List.mem_append_right _ (bkL_mem.mpr ⟨_, _, hz i l e, rfl⟩)) eg
    rw [bk_hp] at this
    have : l.gi ≤ cnt rm i - hpOf row l := this
    omega
  · rintro ⟨h1, h2, h3⟩
    refine ⟨h1, fun x hx e => ?_⟩
    rcases List.mem_append.mp hx with hx | hx
    · exact h2 x hx e
    · obtain ⟨l, r, hlr, rfl⟩ := bkL_mem.mp hx
      obtain ⟨i, hi, e9⟩ := List.mem_iff_getElem.mp hlr
      rw [List.length_zip] at hi
      rw [List.getElem_zip, Prod.mk.injEq] at e9
      obtain ⟨e7, e8⟩ := e9
      have := h3 i l (by rw [List.getElem?_eq_getElem (by omega), e7]) e
      have e3 : cnt rm (i : Nat) = r := by
        unfold Rh.cnt
        rw [Int.toNat_natCast, List.getElem?_eq_getElem (by omega), e8]
        rfl
      rw [e3] at this
      rw [bk_hp]
      show l.gi ≤ r - hpOf row l
      omega
theorem turns_up {ls : List Ln} {rm rm' rs : List Int} {n : Nat} {row : List Int} (hl : rm.length = ls.length) (hl' : rm'.length = ls.length) (hle : ∀ i : Nat, i < ls.length → cnt rm i ≤ cnt rm' i) (h : Turns (wR ls rm) rs n row) : Turns (wR ls rm') rs n row := fun k w e => by
  obtain ⟨h1, h2⟩ := h k w e
  obtain ⟨a, b, c⟩ := (can_back hl).mp h2
  exact ⟨h1, (can_back hl').mpr ⟨a, b, fun i l e eg => Int.le_trans (c i l e eg) (hle i (List.getElem?_eq_some_iff.mp e).1)⟩⟩
theorem HasR.up {ls : List Ln} {rm rm' rs : List Int} {n : Nat} (hl : rm.length = ls.length) (hl' : rm'.length = ls.length) (hle : ∀ i : Nat, i < ls.length → cnt rm i ≤ cnt rm' i) (h : HasR ls rs n rm) : HasR ls rs n rm' := by
  obtain ⟨row, t, d⟩ := h
  exact ⟨row, turns_up hl hl' hle t, d⟩
theorem cnt_setR {xs : List Int} {b i : Nat} {v : Int} (hb : b < xs.length) : cnt (xs.set b v) (i : Int) = if i = b then v else cnt xs (i : Int) := by
  unfold Rh.cnt
  rw [Int.toNat_natCast]
  by_cases e : i = b
  · subst e
    rw [if_pos rfl, List.getElem?_set_self hb]
    rfl
  · rw [if_neg e, List.getElem?_set_ne (fun z => e z.symm)]
/-- where a row sticks, the room must be raised at least so far -/
theorem raise_one {ls : List Ln} {rm rs : List Int} {n b : Nat} {l : Ln} {r R' : Int} {row : List Int} (hp : PosL ls) (hl : rm.length = ls.length) (hb : ls[b]? = some l) (hT : Turns (wR ls (rm.set b r)) rs n row) (hS : Stuck (wR ls (rm.set b r)) rs n row) (hne : cL n row ≠ rs) (hR : HasR ls rs n (rm.set b R')) (hle : r ≤ R') : r < hpOf row l + l.gi ∧ hpOf row l + l.gi ≤ R' := by
  have hbl := (List.getElem?_eq_some_iff.mp hb).1
  have l1 : (rm.set b r).length = ls.length := by rw [List.length_set]; exact hl
  have l2 : (rm.set b R').length = ls.length := by rw [List.length_set]; exact hl
  have hle' : ∀ i : Nat, i < ls.length → cnt (rm.set b r) i ≤ cnt (rm.set b R') i := fun i hi => by
    rw [cnt_setR (by omega), cnt_setR (by omega)]
    split
    · exact hle
    · exact Int.le_refl _
  have hT2 := turns_up l1 l2 hle' hT
  have hns : ¬ Stuck (wR ls (rm.set b R')) rs n row := fun z => hne (hR.done hp hT2 z)
  have : ∃ w : Int, 0 ≤ w ∧ w < n ∧ Can (wR ls (rm.set b R')) rs row w := by
    apply Classical.byContradiction
    intro h
    exact hns fun w a b c => h ⟨w, a, b, c⟩
  obtain ⟨w, w0, w1, hc⟩ := this
  have hnc := hS w w0 w1
  obtain ⟨c1, c2, c3⟩ := (can_back l2).mp hc
  have h4 : l.g = w := by
    apply Classical.byContradiction
    intro hg
    refine hnc ((can_back l1).mpr ⟨c1, c2, fun i x e eg => ?_⟩)
    have hib : i ≠ b := fun z => by
      subst z
      rw [hb] at e
      cases e
      exact hg eg
    have := c3 i x e eg
    rw [cnt_setR (by omega), if_neg hib] at this ⊢
    exact this
  have h5 := c3 b l hb h4
  rw [cnt_setR (by omega), if_pos rfl] at h5
  refine ⟨?_, h5⟩
  apply Classical.byContradiction
  intro h6
  refine hnc ((can_back l1).mpr ⟨c1, c2, fun i x e eg => ?_⟩)
  rw [cnt_setR (by omega)]
  by_cases hib : i = b
  · subst hib
    rw [hb] at e
    cases e
    rw [if_pos rfl]
    omega
  · have := c3 i x e eg
    rw [cnt_setR (by omega), if_neg hib] at this
    rw [if_neg hib]
    exact this
theorem zip_st {ls : List Ln} {rm : List Int} (hl : rm.length = ls.length) (h : ∀ (i : Nat) l, ls[i]? = some l → Ln.st l ≤ cnt rm i) : ∀ p ∈ ls.zip rm, Ln.st p.1 ≤ p.2 := fun p hp => by
  obtain ⟨i, hi, rfl⟩ := List.mem_iff_getElem.mp hp
  rw [List.length_zip] at hi
  rw [List.getElem_zip]
  have := h i _ (List.getElem?_eq_getElem (by omega))
  unfold Rh.cnt at this
  rw [Int.toNat_natCast, List.getElem?_eq_getElem (by omega)] at this
  exact this
theorem cut_mid {us : List T} {b : Nat} (hb : b < us.length) : cutT us (some ((b : Int) + 1)) none = us.drop (b + 1) := by
  have := cut_from (us := us) (i := ((b + 1 : Nat) : Int)) (by omega) (by rw [Int.toNat_natCast]; omega)
  rw [Int.toNat_natCast] at this
  exact this
/-! the peaks are rooms enough -/
theorem cnt_get {xs : List Int} {i : Nat} {x : Int} (e : xs[i]? = some x) : cnt xs (i : Int) = x := by
  unfold Rh.cnt
  rw [Int.toNat_natCast, e]
  rfl
theorem cnt_hps {ls : List Ln} {row : List Int} {i : Nat} {l : Ln} (e : ls[i]? = some l) : cnt (hps ls row) (i : Int) = hpOf row l := by
  refine cnt_get ?_
  unfold hps
  rw [List.getElem?_map, e]
  rfl
theorem cnt_sts {ls : List Ln} {i : Nat} {l : Ln} (e : ls[i]? = some l) : cnt (ls.map Ln.st) (i : Int) = l.st := by
  refine cnt_get ?_
  rw [List.getElem?_map, e]
  rfl
theorem some_cnt {xs : List Int} {i : Nat} (h : i < xs.length) : xs[i]? = some (cnt xs (i : Int)) := by
  unfold Rh.cnt
  rw [Int.toNat_natCast, List.getElem?_eq_getElem h]
  rfl
theorem pk1_c {ls : List Ln} {hs ms : List Int} {w : Int} {i : Nat} {l : Ln} (h1 : hs.length = ls.length) (h2 : ms.length = ls.length) (el : ls[i]? = some l) : cnt (pk1 ls hs ms w) (i : Int) = if l.g = w then bmax (cnt ms (i : Int)) (cnt hs (i : Int) + l.gi) else cnt ms (i : Int) := by
  have hi := (List.getElem?_eq_some_iff.mp el).1
  exact cnt_get (pk1_at el (some_cnt (by omega)) (some_cnt (by omega)))
theorem pkc_len {ls : List Ln} : ∀ {row hs ms : List Int}, hs.length = ls.length → ms.length = ls.length → (pkL ls row hs ms).length = ls.length
  | [], _, _, _, h => h
  | w :: r, _, _, h1, h2 => pkc_len (row := r) (shiftL_len (w := w) h1) (pk1_len (w := w) h1 h2)
theorem pkc_ge {ls : List Ln} {i : Nat} (hi : i < ls.length) : ∀ {row hs ms : List Int}, hs.length = ls.length → ms.length = ls.length → cnt ms (i : Int) ≤ cnt (pkL ls row hs ms) (i : Int)
  | [], _, _, _, _ => Int.le_refl _
  | w :: row, hs, ms, h1, h2 => by
    have h3 := pkc_ge hi (row := row) (shiftL_len (w := w) h1) (pk1_len (w := w) h1 h2)
    refine Int.le_trans ?_ h3
    rw [pk1_c h1 h2 (List.getElem?_eq_getElem hi)]
    split
    · unfold bmax
      split <;> omega
    · exact Int.le_refl _
theorem pkc_fit {ls : List Ln} {i : Nat} {l : Ln} (el : ls[i]? = some l) : ∀ (row pre ms : List Int) (k : Nat) (w : Int), ms.length = ls.length → row[k]? = some w → l.g = w → hpOf (pre ++ row.take k) l + l.gi ≤ cnt (pkL ls row (hps ls pre) ms) (i : Int)
  | [], _, _, _, _, _, h, _ => by simp at h
  | v :: row, pre, ms, 0, w, hm, h, hg => by
    have hv : v = w := by simpa using h
    subst hv
    have hl : (hps ls pre).length = ls.length := List.length_map _
    have h3 := pkc_ge (List.getElem?_eq_some_iff.mp el).1 (row := row) (shiftL_len (w := v) hl) (pk1_len (w := v) hl hm)
    refine Int.le_trans ?_ h3
    rw [pk1_c hl hm el, if_pos hg, cnt_hps el, List.take_zero, List.append_nil]
    unfold bmax
    split <;> omega
  | v :: row, pre, ms, k + 1, w, hm, h, hg => by
    have hl : (hps ls pre).length = ls.length := List.length_map _
    have := pkc_fit el row (pre ++ [v]) (pk1 ls (hps ls pre) ms v) k w (pk1_len hl hm) (by simpa using h) hg
    rw [pkL, shift_hps, List.take_succ_cons]
    rw [List.append_assoc] at this
    exact this
theorem goR_turns {ls : List Ln} {rs : List Int} {n : Nat} {row : List Int} (h : Turns ls rs n row) : ∀ (post pre : List Int), pre ++ post = row → goR ls n post (hps ls pre) = .ok (hps ls row)
  | [], pre, e => by
    rw [List.append_nil] at e
    rw [e]
    rfl
  | w :: post, pre, e => by
    have e1 : row[pre.length]? = some w := by
      rw [← e, List.getElem?_append_right (Nat.le_refl _), Nat.sub_self]
      rfl
    have e2 : row.take pre.length = pre := by rw [← e, List.take_left]
    obtain ⟨h1, h2⟩ := h _ _ e1
    rw [e2] at h2
    rw [goR, if_pos h1, if_pos h2.2, shift_hps]
    exact goR_turns h post (pre ++ [w]) (by rw [List.append_assoc]; exact e)
theorem has_peaks {ls : List Ln} {rs : List Int} {n : Nat} {row : List Int} (h : Turns ls rs n row) (d : cL n row = rs) : HasR ls rs n (pkL ls row (ls.map Ln.st) (ls.map Ln.st)) := by
  have hst : (ls.map Ln.st).length = ls.length := List.length_map _
  refine ⟨row, fun k w e => ?_, d⟩
  obtain ⟨h1, h2⟩ := h k w e
  refine ⟨h1, (can_back (pkc_len hst hst)).mpr ⟨h2.1, (rdy_hps.mp h2.2), fun i l el hg => ?_⟩⟩
  have := pkc_fit el row [] (ls.map Ln.st) k w hst e hg
  rw [hps_nil, List.nil_append] at this
  exact this
def StpR (ls : List Ln) (rs : List Int) (n : Nat) (rm : List Int) (i : Nat) (l : Ln) (s : T) : Prop := if cnt rm (i : Int) = Ln.st l then s = .non else ∃ row ring : List Int, s = .tup [.lst ((cL n row).map T.int), .lst (ring.map T.int)] ∧ Turns (wR ls (rm.set i (cnt rm (i : Int) - 1))) rs n row ∧ Least (wR ls (rm.set i (cnt rm (i : Int) - 1))) rs row ∧ Stuck (wR ls (rm.set i (cnt rm (i : Int) - 1))) rs n row ∧ cL n row ≠ rs ∧ StopR (wR ls (rm.set i (cnt rm (i : Int) - 1))) rs row ring ∧ ring.length ≤ 31
theorem fin_tl {us : List T} {μ μ' : Sto} {R : RP} {q : Addr} {t : T} (e : μ' q = some (.lst us)) (hq : μ q = Option.none) (s : Rh.Sub μ μ') (h : R (.tup [t, .lst us]) μ) : fin_ R (.tup [t, .own q]) μ' :=
  ⟨.tup [t, .lst us], μ, ⟨[q], .tup (.cons (.refl _) (.cons (.own e (List.mem_singleton.mpr rfl) (.refl _)) .nil)), s, fun a ha => by cases List.mem_singleton.mp ha; exact hq⟩, h⟩
structure LeanR (ls : List Ln) (rs : List Int) (n : Nat) (most rm : List Int) (sts : List T) : Prop where
  len : rm.length = ls.length
  lo : ∀ (i : Nat) l, ls[i]? = some l → Ln.st l ≤ cnt rm (i : Int)
  has : HasR ls rs n rm
  min : ∀ (i : Nat) l, ls[i]? = some l → cnt rm (i : Int) ≠ Ln.st l → ¬ HasR ls rs n (rm.take i ++ [cnt rm (i : Int) - 1] ++ most.drop (i + 1))
  slen : sts.length = ls.length
  stp : ∀ (i : Nat) l s, ls[i]? = some l → sts[i]? = some s → StpR ls rs n rm i l s
/-! the mill: belts with numbers on them -/
abbrev Frm := Int × List (Int × Int)
def tmT (p : Int × Int) : T := .tup [.int p.1, .int p.2]
def frT (f : Frm) : T := .tup [.int f.1, .tup (f.2.map tmT)]
def fsT (fs : List Frm) : T := .tup (fs.map frT)
def fval (f : Frm) (xs : List Int) : Int := f.2.foldl (fun a p => a + p.2 * cnt xs p.1) f.1
def needW (ls : List Ln) (w : Int) : Int := ((ls.filter fun l => decide (Ln.t l = w)).map Ln.ta).sum
def giveW (ls : List Ln) (w : Int) : Int := ((ls.filter fun l => decide (Ln.g l = w)).map Ln.gi).sum
def WfOk (ls : List Ln) (w : Int) (fs : List Frm) : Prop := (fs.length : Int) = giveW ls w ∧ ∀ f ∈ fs, ∀ p ∈ f.2, 0 ≤ p.1 ∧ p.1 < needW ls w
def FormsOk (ls : List Ln) (n : Nat) (fs : List (List Frm)) : Prop := fs.length = n ∧ ∀ (w : Nat) (x : List Frm), fs[w]? = some x → WfOk ls w x
theorem spots_map {p : Ln → Bool} {ls : List Ln} {f : Ln → Int} : (spots p ls).map (fun i => ((ls[i.toNat]?).map f).getD 0) = (ls.filter p).map f := by
  have e : ls = (List.range ls.length).map fun i => (ls[i]?).getD ⟨0, 0, 0, 0, 0⟩ := by
    refine List.ext_getElem? fun i => ?_
    rw [List.getElem?_map]
    by_cases h : i < ls.length
    · rw [List.getElem?_range h]
      show ls[i]? = some ((ls[i]?).getD _)
      rw [List.getElem?_eq_getElem h]
      rfl
    · rw [List.getElem?_eq_none (by omega), List.getElem?_eq_none (by rw [List.length_range]; omega)]
      rfl
  unfold spots
  rw [List.map_map]
  conv => rhs; rw [e, List.filter_map, List.map_map]
  have e2 : (List.range ls.length).filter (fun i => (ls[i]?).any p) = (List.range ls.length).filter (p ∘ fun i => (ls[i]?).getD ⟨0, 0, 0, 0, 0⟩) := List.filter_congr fun i hi => by
    have hi := List.mem_range.mp hi
    show (ls[i]?).any p = p ((ls[i]?).getD _)
    rw [List.getElem?_eq_getElem hi]
    rfl
  rw [e2]
  refine List.map_congr_left fun i hi => ?_
  have hi := List.mem_range.mp (List.mem_filter.mp hi).1
  show ((ls[((i : Nat) : Int).toNat]?).map f).getD 0 = f ((ls[i]?).getD _)
  rw [Int.toNat_natCast, List.getElem?_eq_getElem hi]
  rfl
theorem spots_at {p : Ln → Bool} {ls : List Ln} {i : Int} (h : i ∈ spots p ls) : ∃ l, 0 ≤ i ∧ ls[i.toNat]? = some l ∧ p l = true := by
  unfold spots at h
  obtain ⟨k, hk, rfl⟩ := List.mem_map.mp h
  obtain ⟨h1, h2⟩ := List.mem_filter.mp hk
  have h1 := List.mem_range.mp h1
  rw [List.getElem?_eq_getElem h1] at h2
  exact ⟨ls[k], by omega, by rw [Int.toNat_natCast]; exact List.getElem?_eq_getElem h1, h2⟩
theorem spots_len {p : Ln → Bool} {ls : List Ln} : (spots p ls).length ≤ ls.length := by
  unfold spots
  rw [List.length_map]
  exact Nat.le_trans (List.length_filter_le _ _) (by rw [List.length_range]; exact Nat.le_refl _)
/-- pieces for each belt, each list at rest or one's own -/
def PcsAt (μ : Sto) (t : T) (Ld : List (List Int)) : Prop := ∃ us : List T, LstAt μ t us ∧ us.length = Ld.length ∧ ∀ (i : Nat) u x, us[i]? = some u → Ld[i]? = some x → LstAt μ u (x.map T.int)
theorem sum_nnI : ∀ (xs : List Int), (∀ x ∈ xs, 0 ≤ x) → 0 ≤ xs.sum
  | [], _ => by simp
  | x :: xs, h => by
    rw [List.sum_cons]
    have h1 := h x List.mem_cons_self
    have h2 := sum_nnI xs fun y hy => h y (List.mem_cons_of_mem _ hy)
    omega
def giveU (ls : List Ln) (w : Int) (i : Nat) : Int := giveW (ls.take i) w
theorem spots_pre {p : Ln → Bool} {ls : List Ln} {j : Nat} {b : Int} (h : (spots p ls)[j]? = some b) : spots p (ls.take b.toNat) = (spots p ls).take j := by
  have hb := List.mem_of_getElem? h
  obtain ⟨l, b0, el, pl⟩ := spots_at hb
  obtain ⟨k, rfl⟩ := Int.eq_ofNat_of_zero_le b0
  rw [Int.toNat_natCast] at el ⊢
  have hk := (List.getElem?_eq_some_iff.mp el).1
  have hlt : (ls.take k).length = k := by rw [List.length_take]; omega
  have e1 : List.range ls.length = List.range k ++ (List.range (ls.length - k)).map (k + ·) := by
    rw [← List.range_add]
    congr 1
    omega
  have e2 : spots p ls = spots p (ls.take k) ++ (((List.range (ls.length - k)).map (k + ·)).filter fun i => (ls[i]?).any p).map fun i : Nat => (i : Int) := by
    unfold spots
    rw [e1, List.filter_append, List.map_append, hlt]
    congr 2
    refine List.filter_congr fun i hi => ?_
    have hi := List.mem_range.mp hi
    rw [List.getElem?_take_of_lt hi]
  have e3 : (((List.range (ls.length - k)).map (k + ·)).filter fun i => (ls[i]?).any p).map (fun i : Nat => (i : Int)) = (k : Int) :: ((((List.range (ls.length - k - 1)).map (k + 1 + ·)).filter fun i => (ls[i]?).any p).map fun i : Nat => (i : Int)) := by
    obtain ⟨d, hd⟩ : ∃ d, ls.length - k = d + 1 := ⟨ls.length - k - 1, by omega⟩
    rw [hd, List.range_succ_eq_map, List.map_cons, List.filter_cons, Nat.add_zero, el]
    rw [if_pos (show Option.any p (some l) = true from pl), List.map_cons, List.map_map]
    have e4 : (List.range d).map ((fun x => k + x) ∘ Nat.succ) = (List.range (d + 1 - 1)).map fun x => k + 1 + x := List.map_congr_left fun x _ => by
      show k + (x + 1) = k + 1 + x
      omega
    rw [e4]
  have nd := spots_nodup (p := p) (ls := ls)
  rw [e3] at e2
  have h2 : (spots p ls)[(spots p (ls.take k)).length]? = some (k : Int) := by
    rw [e2, List.getElem?_append_right (Nat.le_refl _), Nat.sub_self]
    rfl
  have h3 : j = (spots p (ls.take k)).length := by
    have a1 := List.getElem?_eq_some_iff.mp h
    have a2 := List.getElem?_eq_some_iff.mp h2
    exact (List.getElem_inj nd).mp (a1.2.trans a2.2.symm)
  rw [h3]
  conv => rhs; rw [e2]
  rw [List.take_left]
theorem giveU_at {ls : List Ln} {w : Int} {j : Nat} {b : Int} (h : (spots (fun l => decide (Ln.g l = w)) ls)[j]? = some b) : giveU ls w b.toNat = (((spots (fun l => decide (Ln.g l = w)) ls).take j).map fun i => ((ls[i.toNat]?).map Ln.gi).getD 0).sum := by
  unfold giveU giveW
  rw [← spots_map, spots_pre h]
  congr 1
  refine List.map_congr_left fun i hi => ?_
  rw [← spots_pre h] at hi
  obtain ⟨l, i0, el, _⟩ := spots_at hi
  have := (List.getElem?_eq_some_iff.mp el).1
  rw [List.length_take] at this
  rw [List.getElem?_take_of_lt (by omega)]
theorem giveW_app {a b : List Ln} {w : Int} : giveW (a ++ b) w = giveW a w + giveW b w := by
  unfold giveW
  rw [List.filter_append, List.map_append, List.sum_append]
theorem giveW_nn {ls : List Ln} {w : Int} (hp : PosL ls) : 0 ≤ giveW ls w := sum_nnI _ fun v hv => by
  obtain ⟨l, hl, rfl⟩ := List.mem_map.mp hv
  have := (hp l (List.mem_filter.mp hl).1).1
  omega
theorem giveU_le {ls : List Ln} {w : Int} {i : Nat} {l : Ln} (hp : PosL ls) (el : ls[i]? = some l) (hg : l.g = w) : 0 ≤ giveU ls w i ∧ giveU ls w i + l.gi ≤ giveW ls w := by
  obtain ⟨hi, e⟩ := List.getElem?_eq_some_iff.mp el
  have h1 : ls = ls.take i ++ (l :: ls.drop (i + 1)) := by
    rw [← e, ← List.drop_eq_getElem_cons hi, List.take_append_drop]
  have h2 : giveW ls w = giveU ls w i + giveW (l :: ls.drop (i + 1)) w := by
    conv => lhs; rw [h1, giveW_app]
    rfl
  have h3 : giveW (l :: ls.drop (i + 1)) w = l.gi + giveW (ls.drop (i + 1)) w := by
    unfold giveW
    rw [List.filter_cons, if_pos (decide_eq_true hg), List.map_cons, List.sum_cons]
  have h4 := giveW_nn (w := w) (ls := ls.drop (i + 1)) fun x hx => hp x (List.mem_of_mem_drop hx)
  have h5 := giveW_nn (w := w) (ls := ls.take i) fun x hx => hp x (List.mem_of_mem_take hx)
  unfold giveU at *
  omega
theorem fold_bt {B : Nat} {xs : List Int} (h3 : ∀ x ∈ xs, Bt B x) : ∀ (ts : List (Int × Int)) (acc : Int) (k : Nat), Bt (B + 3 + k) acc → (∀ p ∈ ts, Bt 3 p.2) → Bt (B + 3 + k + ts.length) (ts.foldl (fun a p => a + p.2 * cnt xs p.1) acc)
  | [], acc, k, h, _ => h
  | p :: ts, acc, k, h, h2 => by
    have hc : Bt B (cnt xs p.1) := by
      unfold Rh.cnt
      cases e : xs[p.1.toNat]? with
      | none =>
        show Bt B 0
        unfold Bt
        exact Nat.pow_pos (by decide)
      | some x => exact h3 x (List.mem_of_getElem? e)
    have hm : Bt (B + 3 + k) (p.2 * cnt xs p.1) := ((h2 p List.mem_cons_self).mul hc).mono (by omega)
    have := fold_bt h3 ts (acc + p.2 * cnt xs p.1) (k + 1) (h.add hm) fun q hq => h2 q (List.mem_cons_of_mem _ hq)
    rw [List.foldl_cons, List.length_cons]
    exact this.mono (by omega)
theorem fval_bt {B : Nat} {f : Frm} {xs : List Int} (h1 : Bt B f.1) (h2 : ∀ p ∈ f.2, Bt 3 p.2) (h3 : ∀ x ∈ xs, Bt B x) (hl : f.2.length ≤ 3) : Bt (B + 6) (fval f xs) :=
  (fold_bt h3 f.2 f.1 0 (h1.mono (by omega)) h2).mono (by omega)
def LoadsOk (ls : List Ln) (Ld : List (List Int)) : Prop := Ld.length = ls.length ∧ ∀ (i : Nat) l x, ls[i]? = some l → Ld[i]? = some x → (x.length : Int) = Ln.st l
theorem nem {a p : Addr} {qs : List Addr} (h : a ∈ qs) (k : p ∉ qs) : a ≠ p := fun e => k (e ▸ h)
structure Qs (μ : Sto) (qs : List Addr) (Ld : List (List Int)) : Prop where
  len : qs.length = Ld.length
  nd : qs.Nodup
  it : ∀ (i : Nat) (q : Addr) (x : List Int), qs[i]? = some q → Ld[i]? = some x → μ q = some (.lst (x.map T.int))
theorem comp_nest {own : Bool} {vs : List Nat} {g : Tg} {cond elt : TEx × TTe} {ρ : Ro} {R : RP} {us : List T} {gd : Sto → Prop} {μ : Sto} {Ld : List (List Int)} (hl : us.length = Ld.length) (hz : us.length ≤ 1000) (hu : ∀ (i : Nat) u x, us[i]? = some u → Ld[i]? = some x → LstAt μ u (x.map T.int)) (hg : ∀ μ2, Rh.Sub μ μ2 → gd μ2)
    (h : ∀ (t : T) (Y : T → Sto → Prop) (N : Sto → Prop) (μ2 : Sto), tBif .list true [t] μ2 Y → bindT g t (wipeT ρ vs) μ2 fun ρ' => cond.2 ρ' μ2 noX fun b μ3 => if b = true then elt.1 ρ' μ3 noX fun y μ4 => Y y μ4 else N μ3)
    (hR : ∀ qs μ2, Qs μ2 qs Ld → Rh.Sub μ μ2 → (∀ q ∈ qs, μ q = none) → newL own (qs.map T.own) μ2 R) : compD own vs g cond elt ρ R us gd μ := by
  refine ⟨fun acc r μ2 => ∃ (k : Nat) (qs : List Addr), r = us.drop k ∧ k ≤ us.length ∧ acc = qs.map T.own ∧ qs.length = k ∧ Rh.Sub μ μ2 ∧ qs.Nodup ∧ (∀ q ∈ qs, μ q = none) ∧ (∀ q ∈ qs, μ2 q ≠ none) ∧ ∀ (i : Nat) (q : Addr) (x : List Int), qs[i]? = some q → Ld[i]? = some x → μ2 q = some (.lst (x.map T.int)), ⟨0, [], rfl, Nat.zero_le _, rfl, rfl, fun _ _ e => e, List.Pairwise.nil, fun _ z => (nomatch z), fun _ z => (nomatch z), fun i q x z => by simp at z⟩, ?_, ?_⟩
  · rintro acc μ2 ⟨k, qs, e1, e2, rfl, e3, sb, nd, fr, al, it⟩
    have e4 : k = us.length := by
      have := congrArg List.length e1
      rw [List.length_nil, List.length_drop] at this
      omega
    exact ⟨hg μ2 sb, hR qs μ2 ⟨by omega, nd, it⟩ sb fr⟩
  · rintro acc t r μ2 ⟨k, qs, e1, e2, rfl, e3, sb, nd, fr, al, it⟩
    have hk : k < us.length := by
      have := congrArg List.length e1
      rw [List.length_cons, List.length_drop] at this
      omega
    have et : us[k]? = some t := by
      have := congrArg (fun l : List T => l[0]?) e1
      simpa [List.getElem?_drop] using this.symm
    have er : r = us.drop (k + 1) := by
      have := congrArg List.tail e1
      simpa [List.tail_drop] using this
    obtain ⟨x, ex⟩ : ∃ x, Ld[k]? = some x := ⟨_, List.getElem?_eq_getElem (by omega)⟩
    have hux := Lw.LstAt.sb (hu k t x et ex) sb
    refine ⟨hg μ2 sb, h t _ _ μ2 ?_⟩
    rw [lst_at hux]
    intro p hp
    have hpq : p ∉ qs := fun z => al p z hp
    have hpμ : μ p = none := by
      cases e : μ p with
      | none => rfl
      | some o => rw [sb _ _ e] at hp; cases hp
    refine ⟨by rw [List.length_map, sz]; omega, .own p, _, WkV.refl _ _, k + 1, qs ++ [p], er, hk, by rw [List.map_append]; rfl, by rw [List.length_append, e3]; rfl, fun a o e => ?_, ?_, fun q hq => ?_, fun q hq => ?_, fun i q y eq ey => ?_⟩
    · rw [set_ne (nofr e hpμ)]
      exact sb _ _ e
    · refine List.nodup_append.mpr ⟨nd, List.pairwise_singleton _ _, fun a ha b hb e => ?_⟩
      cases List.mem_singleton.mp hb
      exact hpq (e ▸ ha)
    · rcases List.mem_append.mp hq with z | z
      · exact fr q z
      · cases List.mem_singleton.mp z
        exact hpμ
    · rcases List.mem_append.mp hq with z | z
      · rw [set_ne (nem z hpq)]
        exact al q z
      · cases List.mem_singleton.mp z
        rw [set_self]
        exact fun z => by cases z
    · by_cases hi : i < k
      · rw [List.getElem?_append_left (by omega)] at eq
        have hqm := List.mem_of_getElem? eq
        rw [set_ne (nem hqm hpq)]
        exact it i q y eq ey
      · have := (List.getElem?_eq_some_iff.mp eq).1
        rw [List.length_append, List.length_singleton] at this
        have e5 : i = k := by omega
        subst e5
        rw [List.getElem?_append_right (by omega), e3, Nat.sub_self] at eq
        cases eq
        rw [ex] at ey
        cases ey
        exact set_self
/-! code.py: rooms and rows -/
def RmOk (ls : List Ln) (rm : List Int) : Prop := rm.length = ls.length ∧ ∀ p ∈ ls.zip rm, Ln.st p.1 ≤ p.2
def basesL (rm : List Int) : List Int := (List.range rm.length).map fun k => (rm.take k).sum
theorem bases_at {rm : List Int} {k : Nat} (h : k < rm.length) : (basesL rm)[k]? = some (rm.take k).sum := by
  unfold basesL
  rw [List.getElem?_map, List.getElem?_range h]
  rfl
theorem zip_at {ls : List Ln} {rm : List Int} {k : Nat} {p : Ln × Int} (h : (ls.zip rm)[k]? = some p) : ls[k]? = some p.1 ∧ rm[k]? = some p.2 := by
  have := List.getElem?_zip_eq_some.mp h
  exact this
def mulF (a b : Int) : Int := a / (Int.gcd a b : Int) * b
def partF (rs : List Int) (p : Ln × Int) : Int := p.2 / (Int.gcd p.2 (p.1.gi * cnt rs p.1.g) : Int)
def lapsM (rs : List Int) (ps : List (Ln × Int)) : Int := ps.foldl (fun a p => mulF a (partF rs p)) 1
theorem laps_snoc {rs : List Int} {ps : List (Ln × Int)} {p : Ln × Int} : lapsM rs (ps ++ [p]) = mulF (lapsM rs ps) (partF rs p) := by
  unfold lapsM
  rw [List.foldl_append]
  rfl
theorem part_ok {rs : List Int} {p : Ln × Int} {m : Int} (h0 : 1 ≤ p.2) (h1 : p.2 ≤ m) (h2 : 1 ≤ p.1.gi) (h3 : 1 ≤ cnt rs p.1.g) : 1 ≤ partF rs p ∧ partF rs p ≤ m := by
  unfold partF
  have g0 : (0 : Int) < Int.gcd p.2 (p.1.gi * cnt rs p.1.g) := gcd_pos (.inl (by omega))
  obtain ⟨x, hx⟩ := Int.gcd_dvd_left p.2 (p.1.gi * cnt rs p.1.g)
  generalize (Int.gcd p.2 (p.1.gi * cnt rs p.1.g) : Int) = g at g0 hx
  have hx0 : 0 < x := Int.pos_of_mul_pos_right (by omega) g0
  rw [hx, Int.mul_ediv_cancel_left _ (Int.ne_of_gt g0)]
  have : 1 * x ≤ g * x := Int.mul_le_mul_of_nonneg_right (by omega) (by omega)
  omega
theorem mulF_ok {a b : Int} (ha : 1 ≤ a) (hb : 1 ≤ b) : 1 ≤ mulF a b ∧ mulF a b ≤ a * b := by
  unfold mulF
  have g0 : (0 : Int) < Int.gcd a b := gcd_pos (.inl (by omega))
  obtain ⟨x, hx⟩ := Int.gcd_dvd_left a b
  generalize (Int.gcd a b : Int) = g at g0 hx
  have hx0 : 0 < x := Int.pos_of_mul_pos_right (by omega) g0
  rw [hx, Int.mul_ediv_cancel_left _ (Int.ne_of_gt g0)]
  have h1 : 1 * x ≤ g * x := Int.mul_le_mul_of_nonneg_right (by omega) (by omega)
  have h2 : 0 < x * b := Int.mul_pos hx0 (by omega)
  refine ⟨by omega, Int.mul_le_mul_of_nonneg_right (by omega) (by omega)⟩
theorem laps_ok {rs : List Int} {m : Int} : ∀ (ps : List (Ln × Int)), (∀ p ∈ ps, (1 ≤ p.2 ∧ p.2 ≤ m) ∧ 1 ≤ Ln.gi p.1 ∧ 1 ≤ cnt rs p.1.g) → ∀ k : Nat, k ≤ ps.length → 1 ≤ lapsM rs (ps.take k) ∧ lapsM rs (ps.take k) ≤ m ^ k
  | ps, h, 0, _ => by
    rw [List.take_zero, Int.pow_zero]
    exact ⟨Int.le_refl _, Int.le_refl _⟩
  | ps, h, k + 1, hk => by
    obtain ⟨i1, i2⟩ := laps_ok ps h k (by omega)
    have e : ps[k]? = some (ps[k]'(by omega)) := List.getElem?_eq_getElem (by omega)
    have hp := h _ (List.mem_of_getElem? e)
    obtain ⟨p1, p2⟩ := part_ok (rs := rs) hp.1.1 hp.1.2 hp.2.1 hp.2.2
    rw [List.take_add_one, e]
    show 1 ≤ lapsM rs (ps.take k ++ [ps[k]]) ∧ lapsM rs (ps.take k ++ [ps[k]]) ≤ _
    rw [laps_snoc]
    obtain ⟨j1, j2⟩ := mulF_ok i1 p1
    refine ⟨j1, Int.le_trans j2 ?_⟩
    rw [Int.pow_succ]
    exact Int.mul_le_mul i2 p2 (by omega) (by omega)
theorem sumI_le {m : Int} (hm : 0 ≤ m) : ∀ xs : List Int, (∀ x ∈ xs, x ≤ m) → xs.sum ≤ m * xs.length
  | [], _ => by simp
  | y :: r, h => by
    have h1 := h y List.mem_cons_self
    have h2 := sumI_le hm r fun z hz => h z (List.mem_cons_of_mem _ hz)
    rw [List.sum_cons, List.length_cons, Int.natCast_add, Int.mul_add]
    omega
theorem onL_at {μ : Sto} {t : T} {us : List T} {k : List T → Prop} (h : LstAt μ t us) : onL μ t k = k us := by
  unfold onL
  rw [vl_at h]
  simp
theorem bt90 {a : Int} (h : 0 ≤ a) (h2 : a ≤ 1000000000000000000000000) : Bt 90 a := by
  unfold Bt
  exact Nat.lt_of_le_of_lt (show a.natAbs ≤ 1000000000000000000000000 by omega) (by decide)
theorem pow6 {k : Nat} (h : k ≤ 6) : (10000 : Int) ^ k ≤ 1000000000000000000000000 := by
  have : k = 0 ∨ k = 1 ∨ k = 2 ∨ k = 3 ∨ k = 4 ∨ k = 5 ∨ k = 6 := by omega
  rcases this with rfl | rfl | rfl | rfl | rfl | rfl | rfl <;> decide +kernel
def dueL (ls : List Ln) (rs : List Int) : List Int := ls.map fun l => l.gi * cnt rs l.g
abbrev CRow := Int × Frm
def rowT (r : CRow) : T := .tup [.int r.1, .int r.2.1, .tup (r.2.2.map tmT)]
def lnA (ls : List Ln) (f : Ln → Int) (b : Int) : Int := ((ls[b.toNat]?).map f).getD 0
theorem lnA_at {ls : List Ln} {f : Ln → Int} {b : Int} {l : Ln} (e : ls[b.toNat]? = some l) : lnA ls f b = f l := by
  unfold lnA
  rw [e]
  rfl
theorem flat_le {α β : Type} {c : Nat} {f : α → List β} : ∀ (S : List α), (∀ x ∈ S, (f x).length ≤ c) → (S.flatMap f).length ≤ c * S.length
  | [], _ => by simp
  | y :: r, h => by
    have h1 := h y List.mem_cons_self
    have h2 := flat_le r fun z hz => h z (List.mem_cons_of_mem _ hz)
    rw [List.flatMap_cons, List.length_append, List.length_cons, Nat.mul_add]
    omega
theorem lstSub {μ μ' : Sto} {t : T} {us : List T} (h : LstAt μ t us) (s : Rh.Sub μ μ') : LstAt μ' t us := by
  rcases h with rfl | ⟨q, rfl, e⟩
  · exact .lst
  · exact .own (s _ _ e)
theorem bt110 {a : Int} (h : -200000000000000000000000000000 ≤ a) (h2 : a ≤ 200000000000000000000000000000) : Bt 110 a := by
  unfold Bt
  exact Nat.lt_of_le_of_lt (show a.natAbs ≤ 200000000000000000000000000000 by omega) (by decide)
/-! ## Texts -/
theorem comp_xs {α : Type} {own : Bool} {vs : List Nat} {g : Tg} {cond elt : TEx × TTe} {R : RP} {ρ : Ro} {μ : Sto} {gd : Sto → Prop} {xs : List α} {f u : α → T} (hg : gd μ) (hl : xs.length ≤ sizeLine)
    (h : ∀ x ∈ xs, ∀ (Y : T → Sto → Prop) (N : Sto → Prop), Y (u x) μ → bindT g (f x) (wipeT ρ vs) μ fun ρ' => cond.2 ρ' μ noX fun b μ3 => if b = true then elt.1 ρ' μ3 noX fun y μ4 => Y y μ4 else N μ3)
    (hR : newL own (xs.map u) μ R) : compD own vs g cond elt ρ R (xs.map f) gd μ := by
  refine ⟨fun acc r μ2 => μ2 = μ ∧ ∃ k : Nat, r = (xs.drop k).map f ∧ acc = (xs.take k).map u ∧ k ≤ xs.length, ⟨rfl, 0, rfl, rfl, Nat.zero_le _⟩, ?_, ?_⟩
  · rintro acc μ2 ⟨rfl, k, e1, rfl, hk⟩
    have := List.drop_eq_nil_iff.mp (List.map_eq_nil_iff.mp e1.symm)
    refine ⟨hg, ?_⟩
    rw [List.take_of_length_le this]
    exact hR
  · rintro acc t r μ2 ⟨rfl, k, e1, rfl, hk⟩
    refine ⟨hg, ?_⟩
    obtain ⟨hk2⟩ : Nonempty (k < xs.length) := by
      have := congrArg List.length e1
      simp at this
      exact ⟨by omega⟩
    rw [List.drop_eq_getElem_cons hk2, List.map_cons, List.cons.injEq] at e1
    obtain ⟨rfl, rfl⟩ := e1
    refine h _ (List.getElem_mem hk2) _ _ ⟨by rw [List.length_map, List.length_take]; omega, _, _, .refl _ _, rfl, k + 1, rfl, ?_, hk2⟩
    rw [List.take_add_one, List.getElem?_eq_getElem hk2, List.map_append]
    rfl
def fig : Str := "0123456789"
theorem fig_mem {c : Nat} : c ∈ fig.cps.toList ↔ 48 ≤ c ∧ c ≤ 57 := by
  have e : fig.cps.toList = [48, 49, 50, 51, 52, 53, 54, 55, 56, 57] := by decide
  rw [e]
  simp only [List.mem_cons, List.not_mem_nil, or_false]
  omega
/-- a text of figures alone: from one to thirty, no nought ahead -/
def numOk (z : Str) : Bool := decide (1 ≤ z.length) && decide (z.length ≤ 30) && !(decide ((sgs z)[0]? = some 48) && decide (1 < z.length)) && (sgs z).all fun c => decide (c ∈ fig.cps.toList)
def rdNum (z : Str) : Option Int := if numOk z = true then some ((NumText.digitsVal (sgs z) : Nat) : Int) else none
def rdSg (z : Str) : Option Int := if Txt.startswith z "-" = true then (rdNum (cutS z (some 1) none)).bind fun n => if n = 0 then none else some (-n) else rdNum z
/-- a number as a text -/
def nmT (n : Int) : Str := Str.ofString (toString n)
theorem nm_pos (n : Nat) : sgs (nmT n) = TL.numL n := TL.tl_num n
theorem nm_neg (m : Nat) : sgs (nmT (Int.negSucc m)) = 45 :: TL.numL (m + 1) := by
  have e := TL.tl_num (m + 1)
  rw [TL.tl_ofString] at e
  show TL.tl (Str.ofString (toString (Int.negSucc m))) = _
  rw [TL.tl_ofString]
  have e2 : toString (Int.negSucc m) = "-" ++ toString (m + 1) := rfl
  have e3 : toString (((m + 1 : Nat)) : Int) = toString (m + 1) := rfl
  rw [e3] at e
  rw [e2, String.toList_append, List.map_append, e]
  rfl
theorem nm_len {n : Int} {k : Nat} (hk : 0 < k) (h : n.natAbs < 10 ^ k) : (nmT n).length ≤ k + 1 := by
  rw [sgs_len]
  cases n with
  | ofNat m =>
    have := TL.numL_len hk (show m < 10 ^ k from h)
    rw [show Int.ofNat m = (m : Int) from rfl, nm_pos]
    omega
  | negSucc m =>
    have := TL.numL_len hk (show m + 1 < 10 ^ k from h)
    rw [nm_neg, List.length_cons]
    omega
theorem log_of {n : Int} (h : n.natAbs < 10 ^ 200) : n.natAbs.log2 < 1920 := by
  by_cases h0 : n.natAbs = 0
  · rw [h0]
    decide
  · rw [Nat.log2_lt h0]
    exact Nat.lt_of_lt_of_le h (by decide +kernel)
/-- a belt's row -/
def lineT (ns : List Str) (l : Ln) : Str :=
  ("belt " : Str) ++ (ns[l.g.toNat]?).getD "" ++ " " ++ nmT l.gi ++ " " ++ nmT l.ta ++ " " ++ (ns[l.t.toNat]?).getD "" ++ " " ++ nmT l.st
def workT (n : Str) : Str := ("work " : Str) ++ n
def rowsOf (ns : List Str) (ls : List Ln) : List Str := ns.map workT ++ ls.map (lineT ns)
structure ShowOk (ns : List Str) (ls : List Ln) : Prop where
  nm : ∀ n ∈ ns, isName n = true
  nl : ns.length ≤ 30
  ll : ls.length ≤ 60
  g : ∀ l ∈ ls, 0 ≤ l.g ∧ l.g < ns.length ∧ 0 ≤ l.t ∧ l.t < ns.length
  b : ∀ l ∈ ls, l.gi.natAbs < 10 ^ 200 ∧ l.ta.natAbs < 10 ^ 200 ∧ l.st.natAbs < 10 ^ 200
abbrev n_Hall_init : Nat := 7
def i_Hall_init : FnI := ⟨"__init__", (some 3), 1, 1, []⟩
def N_Hall_init : List Str := ["self"]
def c_Hall_init : List Sx := [.asgF 3 0 (.var 0) (.lst true []),
 .asgF 3 1 (.var 0) (.lst true [])]
abbrev n_Hall_names : Nat := 9
def i_Hall_names : FnI := ⟨"names", (some 3), 1, 1, []⟩
def N_Hall_names : List Str := ["self"]
def c_Hall_names : List Sx := [.ret (.bif .list true [(.fld 3 0 (.var 0))])]
abbrev n_Hall_belts : Nat := 10
def i_Hall_belts : FnI := ⟨"belts", (some 3), 1, 1, []⟩
def N_Hall_belts : List Str := ["self"]
def c_Hall_belts : List Sx := [.ret (.bif .list true [(.fld 3 1 (.var 0))])]
abbrev n_Hall_lay : Nat := 29
def i_Hall_lay : FnI := ⟨"lay", (some 3), 1, 6, []⟩
def N_Hall_lay : List Str := ["self", "giver", "taker", "give", "take", "start"]
def c_Hall_lay : List Sx := [.expr (.lm .append (.fld 3 1 (.var 0)) [(.tup [(.var 1), (.var 2), (.var 3), (.var 4), (.var 5)])]),
 .ret (.bin .Sub true (.bif .len false [(.fld 3 1 (.var 0))]) (.cint 1))]
abbrev n_is_name : Nat := 30
def i_is_name : FnI := ⟨"is_name", none, 1, 1, []⟩
def N_is_name : List Str := ["thing", "sign"]
def c_is_name : List Sx := [.ife (.andor false [(.not (.isi ["str"] (.var 0))), (.cmp .Lt (.bif .len false [(.var 0)]) (.cint 1)), (.cmp .Gt (.bif .len false [(.var 0)]) (.cint 8))]) [.ret (.cbl false)] [],
 .ret (.bif .all true [(.comp false [1] (.nm 1) .strg [(.var 0)] (.cbl true) (.cmp .In (.var 1) (.glob 2)))])]
abbrev n_Hall_work : Nat := 31
def i_Hall_work : FnI := ⟨"work", (some 3), 2, 2, []⟩
def N_Hall_work : List Str := ["self", "name"]
def c_Hall_work : List Sx := [.ife (.not (.call n_is_name 0 [(.var 1)])) [.raise 5] [],
 .ife (.cmp .In (.var 1) (.fld 3 0 (.var 0))) [.raise 16] [],
 .ife (.cmp .GtE (.bif .len false [(.fld 3 0 (.var 0))]) (.glob 7)) [.raise 15] [],
 .expr (.lm .append (.fld 3 0 (.var 0)) [(.var 1)]),
 .ret (.bin .Sub true (.bif .len false [(.fld 3 0 (.var 0))]) (.cint 1))]
abbrev n_Hall_need : Nat := 43
def i_Hall_need : FnI := ⟨"need", (some 3), 1, 2, []⟩
def N_Hall_need : List Str := ["self", "work"]
def c_Hall_need : List Sx := [.ife (.not (.chain .LtE .Lt (.cint 0) (.var 1) (.bif .len false [(.fld 3 0 (.var 0))]))) [.raise 10] []]
abbrev n_read_number : Nat := 51
def i_read_number : FnI := ⟨"read_number", none, 1, 1, []⟩
def N_read_number : List Str := ["text", "sign"]
def c_read_number : List Sx := [.ife (.andor false [(.not (.chain .LtE .LtE (.cint 1) (.bif .len false [(.var 0)]) (.cint 30))), (.andor true [(.cmp .Eq (.idx (.var 0) (.cint 0)) (.cstr "0")), (.cmp .Gt (.bif .len false [(.var 0)]) (.cint 1))])]) [.raise 9] [],
 .for_ (.nm 1) .strg [(.var 0)] [.ife (.cmp .NotIn (.var 1) (.glob 1)) [.raise 9] []],
 .ret (.bif .int true [(.var 0)])]
abbrev n_Hall_number_of : Nat := 54
def i_Hall_number_of : FnI := ⟨"number_of", (some 3), 1, 2, []⟩
def N_Hall_number_of : List Str := ["self", "name", "work", "known"]
def c_Hall_number_of : List Sx := [.for_ (.tup [(.nm 2), (.nm 3)]) .enum [(.fld 3 0 (.var 0))] [.ife (.cmp .Eq (.var 3) (.var 1)) [.ret (.var 2)] []],
 .raise 5]
abbrev n_Hall_belt : Nat := 56
def i_Hall_belt : FnI := ⟨"belt", (some 3), 2, 6, [0]⟩
def N_Hall_belt : List Str := ["self", "giver", "taker", "give", "take", "start"]
def c_Hall_belt : List Sx := [.expr (.meth n_Hall_need 0 (.var 0) [(.var 1)]),
 .expr (.meth n_Hall_need 0 (.var 0) [(.var 2)]),
 .ife (.andor false [(.cmp .Lt (.var 3) (.cint 1)), (.cmp .Lt (.var 4) (.cint 1)), (.cmp .Lt (.var 5) (.cint 0))]) [.raise 7] [],
 .ife (.cmp .GtE (.bif .len false [(.fld 3 1 (.var 0))]) (.glob 3)) [.raise 15] [],
 .ret (.meth n_Hall_lay 0 (.var 0) [(.var 1), (.var 2), (.var 3), (.var 4), (.var 5)])]
abbrev n_show_hall : Nat := 63
def i_show_hall : FnI := ⟨"show_hall", none, 2, 1, []⟩
def N_show_hall : List Str := ["hall", "names", "rows", "name", "giver", "taker", "give", "take", "start", "head"]
def c_show_hall : List Sx := [.asg (.nm 1) (.meth n_Hall_names 0 (.var 0) []),
 .asg (.nm 2) (.comp true [3] (.nm 3) .val [(.var 1)] (.cbl true) (.bin .Add false (.cstr "work ") (.var 3))),
 .for_ (.tup [(.nm 4), (.nm 5), (.nm 6), (.nm 7), (.nm 8)]) .val [(.meth n_Hall_belts 0 (.var 0) [])] [.asg (.nm 9) (.bin .Add false (.bin .Add false (.bin .Add false (.cstr "belt ") (.idx (.var 1) (.var 4))) (.cstr " ")) (.bif .str false [(.var 6)])),
 .expr (.lm .append (.var 2) [(.bin .Add false (.bin .Add false (.bin .Add false (.bin .Add false (.bin .Add false (.bin .Add false (.var 9) (.cstr " ")) (.bif .str false [(.var 7)])) (.cstr " ")) (.idx (.var 1) (.var 5))) (.cstr " ")) (.bif .str false [(.var 8)]))])],
 .ret (.var 2)]
abbrev n_read_signed : Nat := 68
def i_read_signed : FnI := ⟨"read_signed", none, 2, 1, []⟩
def N_read_signed : List Str := ["text", "found"]
def c_read_signed : List Sx := [.ife (.not (.lm .startswith (.var 0) [(.cstr "-")])) [.ret (.call n_read_number 0 [(.var 0)])] [],
 .asg (.nm 1) (.call n_read_number 0 [(.slice false (.var 0) (.cint 1) .cnon)]),
 .ife (.cmp .Eq (.var 1) (.cint 0)) [.raise 9] [],
 .ret (.neg (.var 1))]
abbrev n_read_form : Nat := 69
def i_read_form : FnI := ⟨"read_form", none, 3, 1, []⟩
def N_read_form : List Str := ["text", "words", "constant", "terms", "word", "factor", "sign", "slot", "number"]
def c_read_form : List Sx := [.asg (.nm 1) (.lm .split (.var 0) [(.cstr " ")]),
 .asg (.nm 2) (.call n_read_signed 0 [(.idx (.var 1) (.cint 0))]),
 .asg (.nm 3) (.lst true []),
 .for_ (.nm 4) .val [(.slice false (.var 1) (.cint 1) .cnon)] [.asg (.tup [(.nm 5), (.nm 6), (.nm 7)]) (.lm .partition (.var 4) [(.cstr "@")]),
 .ife (.cmp .Eq (.var 6) (.cstr "")) [.raise 9] [],
 .asg (.nm 8) (.call n_read_signed 0 [(.var 5)]),
 .expr (.lm .append (.var 3) [(.tup [(.call n_read_number 0 [(.var 7)]), (.var 8)])])],
 .ret (.tup [(.var 2), (.bif .tuple true [(.var 3)])])]
abbrev n_read_forms : Nat := 70
def i_read_forms : FnI := ⟨"read_forms", none, 4, 1, []⟩
def N_read_forms : List Str := ["text", "part"]
def c_read_forms : List Sx := [.ife (.cmp .Eq (.var 0) (.cstr "-")) [.ret (.tup [])] [],
 .ret (.bif .tuple true [(.comp false [1] (.nm 1) .val [(.lm .split (.var 0) [(.cstr ", ")])] (.cbl true) (.call n_read_form 0 [(.var 1)]))])]
abbrev n_read_row : Nat := 102
def i_read_row : FnI := ⟨"read_row", none, 2, 1, []⟩
def N_read_row : List Str := ["line", "words", "give", "take"]
def c_read_row : List Sx := [.asg (.nm 1) (.lm .split (.var 0) [(.cstr " ")]),
 .ife (.andor true [(.cmp .Eq (.idx (.var 1) (.cint 0)) (.cstr "work")), (.cmp .Eq (.bif .len false [(.var 1)]) (.cint 2)), (.call n_is_name 0 [(.idx (.var 1) (.cint 1))])]) [.ret (.tup [(.idx (.var 1) (.cint 1))])] [],
 .ife (.andor false [(.cmp .NotEq (.idx (.var 1) (.cint 0)) (.cstr "belt")), (.cmp .NotEq (.bif .len false [(.var 1)]) (.cint 6)), (.not (.call n_is_name 0 [(.idx (.var 1) (.cint 1))])), (.not (.call n_is_name 0 [(.idx (.var 1) (.cint 4))]))]) [.raise 9] [],
 .asg (.nm 2) (.call n_read_number 0 [(.idx (.var 1) (.cint 2))]),
 .asg (.nm 3) (.call n_read_number 0 [(.idx (.var 1) (.cint 3))]),
 .ret (.tup [(.idx (.var 1) (.cint 1)), (.idx (.var 1) (.cint 4)), (.var 2), (.var 3), (.call n_read_number 0 [(.idx (.var 1) (.cint 5))])])]
abbrev n_read_hall : Nat := 103
def i_read_hall : FnI := ⟨"read_hall", none, 3, 1, []⟩
def N_read_hall : List Str := ["lines", "rows", "line", "hall", "row", "giver"]
def c_read_hall : List Sx := [.asg (.nm 1) (.comp false [2] (.nm 2) .val [(.var 0)] (.cbl true) (.call n_read_row 0 [(.var 2)])),
 .asg (.nm 3) (.make 3 []),
 .for_ (.nm 4) .val [(.var 1)] [.ife (.cmp .Eq (.bif .len false [(.var 4)]) (.cint 1)) [.expr (.meth n_Hall_work 0 (.var 3) [(.idx (.var 4) (.cint 0))])] [.asg (.nm 5) (.meth n_Hall_number_of 0 (.var 3) [(.idx (.var 4) (.cint 0))]),
 .expr (.meth n_Hall_belt 0 (.var 3) [(.var 5), (.meth n_Hall_number_of 0 (.var 3) [(.idx (.var 4) (.cint 1))]), (.idx (.var 4) (.cint 2)), (.idx (.var 4) (.cint 3)), (.idx (.var 4) (.cint 4))])]],
 .ret (.var 3)]
abbrev n_show_form : Nat := 104
def i_show_form : FnI := ⟨"show_form", none, 1, 1, []⟩
def N_show_form : List Str := ["form", "constant", "terms", "text", "slot", "factor"]
def c_show_form : List Sx := [.asg (.tup [(.nm 1), (.nm 2)]) (.var 0),
 .asg (.nm 3) (.bif .str false [(.var 1)]),
 .for_ (.tup [(.nm 4), (.nm 5)]) .tupl [(.var 2)] [.aug 3 .Add (.bin .Add false (.bin .Add false (.bin .Add false (.cstr " ") (.bif .str false [(.var 5)])) (.cstr "@")) (.bif .str false [(.var 4)]))],
 .ret (.var 3)]
abbrev n_show_forms : Nat := 105
def i_show_forms : FnI := ⟨"show_forms", none, 2, 1, []⟩
def N_show_forms : List Str := ["forms", "form"]
def c_show_forms : List Sx := [.ife (.cmp .Eq (.bif .len false [(.var 0)]) (.cint 0)) [.ret (.cstr "-")] [],
 .ret (.lm .join (.cstr ", ") [(.comp false [1] (.nm 1) .tupl [(.var 0)] (.cbl true) (.call n_show_form 0 [(.var 1)]))])]
def S_Hall_init : TSp := fun ts μ F R => ∃ h, ts = [.own h] ∧ μ h = some (.obj 3 []) ∧ ∀ l1 l2, μ l1 = none → μ l2 = none → l1 ≠ l2 → R .non (((μ.set l1 (.lst [])).set l2 (.lst [])).set h (.obj 3 [.own l1, .own l2]))
structure A_Hall_init (G : Tab) (Γ : Nat → TSp) : Prop where
  triv : True
abbrev B_Hall_init (G : Tab) (Γ : Nat → TSp) : Prop := ∀ ts μ F R, S_Hall_init ts μ F R → denSs G Γ c_Hall_init (bodyD R F) (startT N_Hall_init.length ts) μ
theorem body_Hall_init {G : Tab} {Γ : Nat → TSp} (A : A_Hall_init G Γ) : B_Hall_init G Γ := by
  rintro ts μ F R ⟨h, rfl, ho, hR⟩
  unfold c_Hall_init
  simp only [Rh.startT, List.length_cons, List.length_nil, List.map_cons, List.map_nil, List.replicate, List.cons_append, List.nil_append, Nat.reduceAdd, Nat.reduceSub, N_Hall_init]
  apply e_cons; simp only [denS]; (try simp_arith []); repeat ((with_reducible refine And.intro ?_ ?_); omega)
  intro l1 e1
  have n1 : l1 ≠ h := fun e => by
    rw [e, ho] at e1
    cases e1
  refine ⟨[], by rw [set_ne n1.symm]; exact ho, by decide, ?_⟩
  apply e_cons; simp only [denS]; (try simp_arith []); repeat ((with_reducible refine And.intro ?_ ?_); omega)
  intro l2 e2
  have n2 : l2 ≠ h := fun e => by
    rw [e, set_self] at e2
    cases e2
  rw [set_ne n2] at e2
  have n3 : l1 ≠ l2 := fun e => by
    rw [← e, set_self] at e2
    cases e2
  rw [set_ne n3.symm] at e2
  refine ⟨[.own l1], by rw [set_ne n2.symm, set_self]; rfl, Nat.le_refl _, ?_⟩
  refine fin_id ?_
  have : ((((μ.set l1 (.lst [])).set h (.obj 3 (setF [] 0 (.own l1)))).set l2 (.lst [])).set h (.obj 3 (setF [.own l1] 1 (.own l2)))) = (((μ.set l1 (.lst [])).set l2 (.lst [])).set h (.obj 3 [.own l1, .own l2])) := by
    rw [set_comm (p := h) (q := l2) n2.symm, set_set]
    rfl
  rw [this]
  exact hR l1 l2 e1 e2 n3
def S_Hall_names : TSp := fun ts μ F R => ∃ h l1 l2 ns ls, ts = [.own h] ∧ HallAt μ h l1 l2 ns ls ∧ retL (ns.map T.str) μ R
structure A_Hall_names (G : Tab) (Γ : Nat → TSp) : Prop where
  triv : True
abbrev B_Hall_names (G : Tab) (Γ : Nat → TSp) : Prop := ∀ ts μ F R, S_Hall_names ts μ F R → denSs G Γ c_Hall_names (bodyD R F) (startT N_Hall_names.length ts) μ
theorem body_Hall_names {G : Tab} {Γ : Nat → TSp} (A : A_Hall_names G Γ) : B_Hall_names G Γ := by
  rintro ts μ F R ⟨h, l1, l2, ns, ls, rfl, H, hR⟩
  unfold c_Hall_names
  simp only [Rh.startT, List.length_cons, List.length_nil, List.map_cons, List.map_nil, List.replicate, List.cons_append, List.nil_append, Nat.reduceAdd, Nat.reduceSub, N_Hall_names]
  apply e_cons; simp only [denS]; (try simp_arith [H.o, H.w]); repeat ((with_reducible refine And.intro ?_ ?_); omega)
  intro p hp
  exact fin_retL hR hp
def S_Hall_belts : TSp := fun ts μ F R => ∃ h l1 l2 ns ls, ts = [.own h] ∧ HallAt μ h l1 l2 ns ls ∧ retL (ls.map Ln.tr) μ R
structure A_Hall_belts (G : Tab) (Γ : Nat → TSp) : Prop where
  triv : True
abbrev B_Hall_belts (G : Tab) (Γ : Nat → TSp) : Prop := ∀ ts μ F R, S_Hall_belts ts μ F R → denSs G Γ c_Hall_belts (bodyD R F) (startT N_Hall_belts.length ts) μ
theorem body_Hall_belts {G : Tab} {Γ : Nat → TSp} (A : A_Hall_belts G Γ) : B_Hall_belts G Γ := by
  rintro ts μ F R ⟨h, l1, l2, ns, ls, rfl, H, hR⟩
  unfold c_Hall_belts
  simp only [Rh.startT, List.length_cons, List.length_nil, List.map_cons, List.map_nil, List.replicate, List.cons_append, List.nil_append, Nat.reduceAdd, Nat.reduceSub, N_Hall_belts]
  apply e_cons; simp only [denS]; (try simp_arith [H.o, H.b]); repeat ((with_reducible refine And.intro ?_ ?_); omega)
  intro p hp
  exact fin_retL hR hp
def S_Hall_lay : TSp := fun ts μ F R => ∃ h l1 l2 ns ls l, ts = [.own h, .int (Ln.g l), .int l.t, .int l.gi, .int l.ta, .int l.st] ∧ HallAt μ h l1 l2 ns ls ∧ ls.length < sizeLine ∧ R (.int ls.length) (μ.set l2 (.lst (ls.map Ln.tr ++ [l.tr])))
structure A_Hall_lay (G : Tab) (Γ : Nat → TSp) : Prop where
  triv : True
abbrev B_Hall_lay (G : Tab) (Γ : Nat → TSp) : Prop := ∀ ts μ F R, S_Hall_lay ts μ F R → denSs G Γ c_Hall_lay (bodyD R F) (startT N_Hall_lay.length ts) μ
theorem body_Hall_lay {G : Tab} {Γ : Nat → TSp} (A : A_Hall_lay G Γ) : B_Hall_lay G Γ := by
  rintro ts μ F R ⟨h, l1, l2, ns, ls, l, rfl, H, hl, hR⟩
  unfold c_Hall_lay
  have hl : ls.length < 16777216 := hl
  simp only [Rh.startT, List.length_cons, List.length_nil, List.map_cons, List.map_nil, List.replicate, List.cons_append, List.nil_append, Nat.reduceAdd, Nat.reduceSub, N_Hall_lay]
  apply e_cons; simp only [denS]; (try simp_arith [H.o, H.b]); repeat ((with_reducible refine And.intro ?_ ?_); omega)
  have H' : HallAt (μ.set l2 (.lst (ls.map Ln.tr ++ [T.tup [.int l.g, .int l.t, .int l.gi, .int l.ta, .int l.st]]))) h l1 l2 ns (ls ++ [l]) := H.addB l
  apply e_cons; simp only [denS]; (try simp_arith [H'.o, H'.b, Int.natCast_add, Int.add_sub_cancel]); repeat ((with_reducible refine And.intro ?_ ?_); omega)
  exact fin_id hR
def S_is_name : TSp := fun ts μ F R => ∃ t, ts = [t] ∧ (∃ n, isStr μ t = some n) ∧ (∀ s, t = .str s → s.length ≤ sizeLine) ∧ R (.bl (isNameT t)) μ
structure A_is_name (G : Tab) (Γ : Nat → TSp) : Prop where
  k_LETTERS : G.con 2 = some (("LETTERS" : Str), T.str "abcdefghijklmnopqrstuvwxyz")
abbrev B_is_name (G : Tab) (Γ : Nat → TSp) : Prop := ∀ ts μ F R, S_is_name ts μ F R → denSs G Γ c_is_name (bodyD R F) (startT N_is_name.length ts) μ
theorem body_is_name {G : Tab} {Γ : Nat → TSp} (A : A_is_name G Γ) : B_is_name G Γ := by
  rintro ts μ F R ⟨t, rfl, ⟨n, hn⟩, hs, hR⟩
  unfold c_is_name
  simp only [Rh.startT, List.length_cons, List.length_nil, List.map_cons, List.map_nil, List.replicate, List.cons_append, List.nil_append, Nat.reduceAdd, Nat.reduceSub, N_is_name]
  cases t with
  | own p =>
    have hc : (∃ ts, μ p = some (.lst ts)) ∨ (∃ d, μ p = some (.dict d)) := by
      rw [is_own] at hn
      revert hn
      split <;> intro hn
      · exact .inl ⟨_, by assumption⟩
      · exact .inr ⟨_, by assumption⟩
      · cases hn
    rcases hc with ⟨us, e⟩ | ⟨us, e⟩
    · apply e_cons; apply e_ife; simp_arith [A.k_LETTERS, e]; repeat ((with_reducible refine And.intro ?_ ?_); omega)
      apply e_cons; simp only [denS]; (try simp_arith [A.k_LETTERS]); repeat ((with_reducible refine And.intro ?_ ?_); omega)
      exact fin_id hR
    · apply e_cons; apply e_ife; simp_arith [A.k_LETTERS, e]; repeat ((with_reducible refine And.intro ?_ ?_); omega)
      apply e_cons; simp only [denS]; (try simp_arith [A.k_LETTERS]); repeat ((with_reducible refine And.intro ?_ ?_); omega)
      exact fin_id hR
  | str s =>
    apply e_cons; apply e_ife; simp_arith [A.k_LETTERS]; repeat ((with_reducible refine And.intro ?_ ?_); omega)
    have hz : s.length ≤ 16777216 := hs s rfl
    refine ⟨hz, ?_⟩
    have hw : isNameT (.str s) = (decide (1 ≤ s.length) && decide (s.length ≤ 8) && s.cps.toList.all fun c => decide (c ∈ abc.cps.toList)) := rfl
    by_cases h1 : s.length < 1
    · have : isNameT (.str s) = false := by
        rw [hw, decide_eq_false (by omega : ¬ 1 ≤ s.length)]
        rfl
      rw [this] at hR
      simp only [show ((s.length : Nat) : Int) < 1 by omega, not_true_eq_false, if_true, if_false]
      apply e_cons; simp only [denS]; (try simp_arith [A.k_LETTERS]); repeat ((with_reducible refine And.intro ?_ ?_); omega)
      exact fin_id hR
    · simp only [show ¬ ((s.length : Nat) : Int) < 1 by omega, not_false_eq_true, if_true]
      refine ⟨hz, ?_⟩
      by_cases h8 : 8 < s.length
      · have : isNameT (.str s) = false := by
          rw [hw, decide_eq_false (by omega : ¬ s.length ≤ 8), Bool.and_false]
          rfl
        rw [this] at hR
        simp only [show (8 : Int) < (s.length : Nat) by omega, if_true]
        apply e_cons; simp only [denS]; (try simp_arith [A.k_LETTERS]); repeat ((with_reducible refine And.intro ?_ ?_); omega)
        exact fin_id hR
      · simp only [show ¬ (8 : Int) < (s.length : Nat) by omega, if_false]
        apply e_cons; simp only [denS]; (try simp_arith [A.k_LETTERS]); repeat ((with_reducible refine And.intro ?_ ?_); omega)
        refine comp_pure (fun _ => true) (fun t => match t with | .str a => .bl (strIn a abc) | t => t) ?_ ?_ ?_ ?_
        · trivial
        · show (s.cps.toList.map fun c => T.str ⟨#[c]⟩).length ≤ sizeLine
          rw [List.length_map]
          exact hs s rfl
        · intro t ht Y N hY _
          obtain ⟨c, hc, rfl⟩ := List.mem_map.mp ht
          simp_arith [A.k_LETTERS]
          simp only [wipeT]
          simp_arith [A.k_LETTERS]
          exact hY rfl
        · simp_arith [A.k_LETTERS]
          refine ⟨s.cps.toList.map fun c => decide (c ∈ abc.cps.toList), ?_, ?_⟩
          · rw [List.filter_eq_self.mpr (fun _ _ => rfl), Rh.signs, List.map_map, List.map_map]
            refine List.map_congr_left fun c _ => ?_
            show T.bl (strIn ⟨#[c]⟩ abc) = T.bl (decide (c ∈ abc.cps.toList))
            rw [strIn_sign]
          · rw [hw, decide_eq_true (by omega : 1 ≤ s.length), decide_eq_true (by omega : s.length ≤ 8)] at hR
            refine fin_id ?_
            rw [List.all_map]
            exact hR
  | scr ts => cases hn
  | _ => 
    apply e_cons; apply e_ife; simp_arith [A.k_LETTERS]; repeat ((with_reducible refine And.intro ?_ ?_); omega)
    apply e_cons; simp only [denS]; (try simp_arith [A.k_LETTERS]); repeat ((with_reducible refine And.intro ?_ ?_); omega)
    exact fin_id hR
def S_Hall_work : TSp := fun ts μ F R => ∃ h l1 l2 ns ls n, ts = [.own h, .str n] ∧ HallAt μ h l1 l2 ns ls ∧ n.length ≤ sizeLine ∧ sOk n ∧ (∀ x ∈ ns, sOk x) ∧
  if isName n = false then F 5 μ else if n ∈ ns then F 16 μ else if 30 ≤ ns.length then F 15 μ else R (.int ns.length) (μ.set l1 (.lst (ns.map T.str ++ [.str n])))
structure A_Hall_work (G : Tab) (Γ : Nat → TSp) : Prop where
  f_is_name : G.fn n_is_name = some i_is_name
  g_is_name : Γ n_is_name = S_is_name
  k_MOST_WORKS : G.con 7 = some (("MOST_WORKS" : Str), T.int 30)
abbrev B_Hall_work (G : Tab) (Γ : Nat → TSp) : Prop := ∀ ts μ F R, S_Hall_work ts μ F R → denSs G Γ c_Hall_work (bodyD R F) (startT N_Hall_work.length ts) μ
theorem body_Hall_work {G : Tab} {Γ : Nat → TSp} (A : A_Hall_work G Γ) : B_Hall_work G Γ := by
  rintro ts μ F R ⟨h, l1, l2, ns, ls, n, rfl, H, hz, hk, hks, hR⟩
  unfold c_Hall_work
  simp only [Rh.startT, List.length_cons, List.length_nil, List.map_cons, List.map_nil, List.replicate, List.cons_append, List.nil_append, Nat.reduceAdd, Nat.reduceSub, N_Hall_work]
  apply e_cons; apply e_ife; simp_arith [A.f_is_name, A.g_is_name, S_is_name, i_is_name, A.k_MOST_WORKS, isNameT]; repeat ((with_reducible refine And.intro ?_ ?_); omega)
  refine ⟨fun s e => by cases e; exact hz, ?_⟩
  by_cases hn : isName n = false
  · simp only [hn, if_true] at hR ⊢
    apply e_cons; simp only [denS]; (try simp_arith [A.f_is_name, A.g_is_name, S_is_name, i_is_name, A.k_MOST_WORKS]); repeat ((with_reducible refine And.intro ?_ ?_); omega)
    exact hR
  simp only [hn, if_false] at hR ⊢
  apply e_cons; apply e_ife; simp_arith [A.f_is_name, A.g_is_name, S_is_name, i_is_name, A.k_MOST_WORKS, H.o]; repeat ((with_reducible refine And.intro ?_ ?_); omega)
  refine in_own (xs := ns) H.w rfl (Has.of (x := n) hk) hks ?_
  simp_arith []
  by_cases hm : n ∈ ns
  · simp only [hm, if_true] at hR ⊢
    apply e_cons; simp only [denS]; (try simp_arith [A.f_is_name, A.g_is_name, S_is_name, i_is_name, A.k_MOST_WORKS]); repeat ((with_reducible refine And.intro ?_ ?_); omega)
    exact hR
  simp only [hm, if_false] at hR ⊢
  apply e_cons; apply e_ife; simp_arith [A.f_is_name, A.g_is_name, S_is_name, i_is_name, A.k_MOST_WORKS, H.o, H.w]; repeat ((with_reducible refine And.intro ?_ ?_); omega)
  by_cases hl : 30 ≤ ns.length
  · simp only [hl, show (30 : Int) ≤ (ns.length : Nat) by omega, if_true] at hR ⊢
    apply e_cons; simp only [denS]; (try simp_arith [A.f_is_name, A.g_is_name, S_is_name, i_is_name, A.k_MOST_WORKS]); repeat ((with_reducible refine And.intro ?_ ?_); omega)
    exact hR
  simp only [hl, show ¬ (30 : Int) ≤ (ns.length : Nat) by omega, if_false] at hR ⊢
  apply e_cons; simp only [denS]; (try simp_arith [A.f_is_name, A.g_is_name, S_is_name, i_is_name, A.k_MOST_WORKS, H.o, H.w]); repeat ((with_reducible refine And.intro ?_ ?_); omega)
  have H' := H.addW n
  apply e_cons; simp only [denS]; (try simp_arith [A.f_is_name, A.g_is_name, S_is_name, i_is_name, A.k_MOST_WORKS, H'.o, H'.w, Int.natCast_add, Int.add_sub_cancel]); repeat ((with_reducible refine And.intro ?_ ?_); omega)
  exact fin_id hR
def S_Hall_need : TSp := fun ts μ F R => ∃ h l1 l2 ns ls w, ts = [.own h, .int w] ∧ HallAt μ h l1 l2 ns ls ∧ if 0 ≤ w ∧ w < ns.length then R .non μ else F 10 μ
structure A_Hall_need (G : Tab) (Γ : Nat → TSp) : Prop where
  triv : True
abbrev B_Hall_need (G : Tab) (Γ : Nat → TSp) : Prop := ∀ ts μ F R, S_Hall_need ts μ F R → denSs G Γ c_Hall_need (bodyD R F) (startT N_Hall_need.length ts) μ
theorem body_Hall_need {G : Tab} {Γ : Nat → TSp} (A : A_Hall_need G Γ) : B_Hall_need G Γ := by
  rintro ts μ F R ⟨h, l1, l2, ns, ls, w, rfl, H, hR⟩
  unfold c_Hall_need
  simp only [Rh.startT, List.length_cons, List.length_nil, List.map_cons, List.map_nil, List.replicate, List.cons_append, List.nil_append, Nat.reduceAdd, Nat.reduceSub, N_Hall_need]
  apply e_cons; apply e_ife; simp_arith [H.o, H.w]; repeat ((with_reducible refine And.intro ?_ ?_); omega)
  by_cases h0 : 0 ≤ w
  · by_cases h1 : w < ns.length
    · simp only [h0, h1, and_self, if_true, not_true_eq_false, if_false] at hR ⊢
      exact fin_id hR
    · simp only [h0, h1, and_false, if_true, not_false_eq_true, if_false] at hR ⊢
      apply e_cons; simp only [denS]; (try simp_arith []); repeat ((with_reducible refine And.intro ?_ ?_); omega)
      exact hR
  · simp only [h0, false_and, if_false] at hR ⊢
    apply e_cons; simp only [denS]; (try simp_arith []); repeat ((with_reducible refine And.intro ?_ ?_); omega)
    exact hR
def S_read_number : TSp := fun ts μ F R => ∃ z, ts = [.str z] ∧ z.length ≤ sizeLine ∧ ((∃ n, rdNum z = some n ∧ R (.int n) μ) ∨ (rdNum z = none ∧ F 9 μ))
structure A_read_number (G : Tab) (Γ : Nat → TSp) : Prop where
  k_FIGURES : G.con 1 = some (("FIGURES" : Str), T.str "0123456789")
abbrev B_read_number (G : Tab) (Γ : Nat → TSp) : Prop := ∀ ts μ F R, S_read_number ts μ F R → denSs G Γ c_read_number (bodyD R F) (startT N_read_number.length ts) μ
theorem body_read_number {G : Tab} {Γ : Nat → TSp} (A : A_read_number G Γ) : B_read_number G Γ := by
  rintro ts μ F R ⟨z, rfl, hz, hR⟩
  unfold c_read_number
  simp only [Rh.startT, List.length_cons, List.length_nil, List.map_cons, List.map_nil, List.replicate, List.cons_append, List.nil_append, Nat.reduceAdd, Nat.reduceSub, N_read_number]
  apply e_cons; apply e_ife; simp_arith [A.k_FIGURES]; repeat ((with_reducible refine And.intro ?_ ?_); omega)
  have hz' : z.length ≤ 16777216 := hz
  refine ⟨hz', ?_⟩
  by_cases h1 : 1 ≤ z.length
  rotate_left
  · have e : rdNum z = none := by simp [rdNum, numOk, h1]
    rw [e] at hR
    simp only [show ¬ (1 : Int) ≤ (z.length : Nat) by omega, if_false]
    apply e_cons; simp only [denS]; (try simp_arith [A.k_FIGURES]); repeat ((with_reducible refine And.intro ?_ ?_); omega)
    rcases hR with ⟨n, h, _⟩ | ⟨_, h⟩
    · cases h
    · exact h
  simp only [show (1 : Int) ≤ (z.length : Nat) by omega, if_true]
  by_cases h2 : z.length ≤ 30
  rotate_left
  · have e : rdNum z = none := by simp [rdNum, numOk, h2]
    rw [e] at hR
    simp only [show ¬ ((z.length : Nat) : Int) ≤ 30 by omega, if_false, not_false_eq_true, if_true]
    apply e_cons; simp only [denS]; (try simp_arith [A.k_FIGURES]); repeat ((with_reducible refine And.intro ?_ ?_); omega)
    rcases hR with ⟨n, h, _⟩ | ⟨_, h⟩
    · cases h
    · exact h
  simp only [show ((z.length : Nat) : Int) ≤ 30 by omega, if_true, not_true_eq_false, if_false]
  have hl : z.cps.toList.length = z.length := Array.length_toList
  obtain ⟨c, r, ec⟩ : ∃ c r, z.cps.toList = c :: r := by
    cases e : z.cps.toList with
    | nil => rw [e] at hl; simp at hl; omega
    | cons c r => exact ⟨c, r, rfl⟩
  refine ⟨hz', c, by rw [ec]; rfl, ?_⟩
  have e0 : ((⟨#[c]⟩ : Str) = Str.ofString "0") ↔ c = 48 := ⟨fun h => by
    have := congrArg (fun s : Str => s.cps.toList) h
    have e : (Str.ofString "0").cps.toList = [48] := by decide
    simp only [e] at this
    simpa using this, fun h => by rw [h]; decide⟩
  simp only [e0]
  by_cases h3 : c = 48 ∧ 1 < z.length
  · have e : rdNum z = none := by
      simp [rdNum, numOk, sgs, ec, h3.1, h3.2]
    rw [e] at hR
    simp only [h3.1, if_true, show (1 : Int) < (z.length : Nat) by omega]
    refine ⟨hz', ?_⟩
    apply e_cons; simp only [denS]; (try simp_arith [A.k_FIGURES]); repeat ((with_reducible refine And.intro ?_ ?_); omega)
    rcases hR with ⟨n, h, _⟩ | ⟨_, h⟩
    · cases h
    · exact h
  have tail : denSs G Γ (c_read_number.drop 1) (bodyD R F) [some (T.str z), none] μ := by
    show denSs G Γ [_, _] _ _ _
    apply e_cons; simp only [denS]; (try simp_arith [A.k_FIGURES]); repeat ((with_reducible refine And.intro ?_ ?_); omega)
    rw [show Rh.signs z = z.cps.toList.map fun c => T.str ⟨#[c]⟩ from rfl]
    refine for_map (fun k ρ μ' => (∃ o, ρ = [some (.str z), o]) ∧ μ' = μ ∧ ∀ x ∈ z.cps.toList.take k, x ∈ fig.cps.toList) ⟨⟨_, rfl⟩, rfl, by simp⟩ ?_ ?_
    · rintro ρ μ' ⟨⟨o, rfl⟩, rfl, hf⟩
      rw [List.take_length] at hf
      have e : rdNum z = some ((NumText.digitsVal (sgs z) : Nat) : Int) := by
        have hn : numOk z = true := by
          unfold numOk
          rw [decide_eq_true h1, decide_eq_true h2, show (sgs z)[0]? = some c from by unfold sgs; rw [ec]; rfl]
          have h5 : (decide (some c = some 48) && decide (1 < z.length)) = false := by
            rw [← Bool.not_eq_true, Bool.and_eq_true, decide_eq_true_eq, decide_eq_true_eq, Option.some.injEq]
            exact h3
          simp only [h5, Bool.not_false, Bool.true_and]
          rw [List.all_eq_true]
          exact fun x hx => decide_eq_true (hf x hx)
        rw [rdNum, if_pos hn]
      refine ⟨trivial, ?_⟩
      apply e_cons; simp only [denS]; (try simp_arith [A.k_FIGURES]); repeat ((with_reducible refine And.intro ?_ ?_); omega)
      refine ⟨_, intText_digits (fun x hx => fig_mem.mp (hf x hx)) (by rw [ec]; simp) (by omega), by omega, fin_id ?_⟩
      rcases hR with ⟨n, h, hR⟩ | ⟨h, _⟩
      · rw [e] at h
        cases h
        exact hR
      · rw [e] at h
        cases h
    · rintro k x ρ μ' hk ⟨⟨o, rfl⟩, rfl, hf⟩
      refine ⟨trivial, ?_⟩
      simp_arith [A.k_FIGURES]
      apply e_cons; apply e_ife; simp_arith [A.k_FIGURES]; repeat ((with_reducible refine And.intro ?_ ?_); omega)
      have ef : strIn ⟨#[x]⟩ (Str.ofString "0123456789") = decide (x ∈ fig.cps.toList) := strIn_sign _ _
      rw [ef]
      by_cases hx : x ∈ fig.cps.toList
      · simp only [hx, decide_true, Bool.true_eq_false, if_false]
        refine ⟨_, _, .refl _ _, ⟨_, rfl⟩, rfl, fun y hy => ?_⟩
        rw [List.take_succ, hk, List.mem_append] at hy
        rcases hy with hy | hy
        · exact hf y hy
        · cases List.mem_singleton.mp hy
          exact hx
      · have e : rdNum z = none := by
          have hn : ¬ numOk z = true := fun h => by
            unfold numOk at h
            rw [Bool.and_eq_true, List.all_eq_true] at h
            exact hx (of_decide_eq_true (h.2 x (List.mem_of_getElem? hk)))
          rw [rdNum, if_neg hn]
        simp only [hx, decide_false, if_true]
        apply e_cons; simp only [denS]; (try simp_arith [A.k_FIGURES]); repeat ((with_reducible refine And.intro ?_ ?_); omega)
        rcases hR with ⟨n, h, _⟩ | ⟨_, h⟩
        · rw [e] at h
          cases h
        · exact h
  by_cases h4 : c = 48
  · simp only [h4, if_true, show ¬ (1 : Int) < (z.length : Nat) by omega, if_false]
    exact ⟨hz', tail⟩
  · simp only [h4, if_false]
    exact tail
def S_Hall_number_of : TSp := fun ts μ F R => ∃ h l1 l2 ns ls n, ts = [.own h, .str n] ∧ HallAt μ h l1 l2 ns ls ∧ ((∃ i : Nat, ns[i]? = some n ∧ (∀ j < i, ns[j]? ≠ some n) ∧ R (.int i) μ) ∨ (n ∉ ns ∧ F 5 μ))
structure A_Hall_number_of (G : Tab) (Γ : Nat → TSp) : Prop where
  triv : True
abbrev B_Hall_number_of (G : Tab) (Γ : Nat → TSp) : Prop := ∀ ts μ F R, S_Hall_number_of ts μ F R → denSs G Γ c_Hall_number_of (bodyD R F) (startT N_Hall_number_of.length ts) μ
theorem body_Hall_number_of {G : Tab} {Γ : Nat → TSp} (A : A_Hall_number_of G Γ) : B_Hall_number_of G Γ := by
  rintro ts μ F R ⟨h, l1, l2, ns, ls, n, rfl, H, hR⟩
  unfold c_Hall_number_of
  simp only [Rh.startT, List.length_cons, List.length_nil, List.map_cons, List.map_nil, List.replicate, List.cons_append, List.nil_append, Nat.reduceAdd, Nat.reduceSub, N_Hall_number_of]
  apply e_cons; simp only [denS]; (try simp_arith [H.o]); repeat ((with_reducible refine And.intro ?_ ?_); omega)
  refine onG_at (.own H.w) fun gd hgd => ?_
  have hg := hgd μ (.own H.w)
  rw [List.zipIdx_map, List.map_map]
  refine for_map (fun k ρ μ' => (∃ o2 o3, ρ = [some (.own h), some (.str n), o2, o3]) ∧ μ' = μ ∧ ∀ j < k, ns[j]? ≠ some n) ⟨⟨_, _, rfl⟩, rfl, fun j hj => absurd hj (Nat.not_lt_zero j)⟩ ?_ ?_
  · rintro ρ μ' ⟨⟨o2, o3, rfl⟩, rfl, hj⟩
    refine ⟨hg, ?_⟩
    apply e_cons; simp only [denS]; (try simp_arith []); repeat ((with_reducible refine And.intro ?_ ?_); omega)
    rcases hR with ⟨i, ei, _, _⟩ | ⟨_, hR⟩
    · exact absurd ei (hj i (by rw [List.length_zipIdx]; exact (List.getElem?_eq_some_iff.mp ei).1))
    · exact hR
  rintro k x ρ μ' hk ⟨⟨o2, o3, rfl⟩, rfl, hj⟩
  refine ⟨hg, ?_⟩
  obtain ⟨s, i⟩ := x
  rw [List.getElem?_zipIdx, Option.map_eq_some_iff] at hk
  obtain ⟨s', es, e2⟩ := hk
  cases e2
  simp only [Function.comp, Prod.map, id]
  simp_arith []
  apply e_cons; apply e_ife; simp_arith []; repeat ((with_reducible refine And.intro ?_ ?_); omega)
  by_cases e : s = n
  · subst e
    simp only [if_true]
    apply e_cons; simp only [denS]; (try simp_arith []); repeat ((with_reducible refine And.intro ?_ ?_); omega)
    rcases hR with ⟨i, ei, hm, hR⟩ | ⟨hn, _⟩
    · have : i = k := by
        rcases Nat.lt_trichotomy i k with z | z | z
        · exact absurd ei (hj i z)
        · exact z
        · exact absurd es (hm k z)
      subst this
      rw [Nat.zero_add]
      exact fin_id hR
    · exact absurd (List.mem_of_getElem? es) hn
  · simp only [e, if_false]
    refine ⟨_, _, .refl _ _, ⟨_, _, rfl⟩, rfl, fun j h' => ?_⟩
    rcases Nat.lt_succ_iff_lt_or_eq.mp h' with z | rfl
    · exact hj j z
    · rw [es]
      exact fun z => e (Option.some.inj z)
def S_Hall_belt : TSp := fun ts μ F R => ∃ h l1 l2 ns ls l, ts = [.own h, .int (Ln.g l), .int l.t, .int l.gi, .int l.ta, .int l.st] ∧ HallAt μ h l1 l2 ns ls ∧
  if ¬ (0 ≤ l.g ∧ l.g < ns.length) then F 10 μ else if ¬ (0 ≤ l.t ∧ l.t < ns.length) then F 10 μ else if l.gi < 1 ∨ l.ta < 1 ∨ l.st < 0 then F 7 μ else if 60 ≤ ls.length then F 15 μ else
    R (.int ls.length) (μ.set l2 (.lst (ls.map Ln.tr ++ [l.tr])))
structure A_Hall_belt (G : Tab) (Γ : Nat → TSp) : Prop where
  f_Hall_need : G.fn n_Hall_need = some i_Hall_need
  g_Hall_need : Γ n_Hall_need = S_Hall_need
  k_MOST_BELTS : G.con 3 = some (("MOST_BELTS" : Str), T.int 60)
  f_Hall_lay : G.fn n_Hall_lay = some i_Hall_lay
  g_Hall_lay : Γ n_Hall_lay = S_Hall_lay
abbrev B_Hall_belt (G : Tab) (Γ : Nat → TSp) : Prop := ∀ ts μ F R, S_Hall_belt ts μ F R → denSs G Γ c_Hall_belt (bodyD R F) (startT N_Hall_belt.length ts) μ
theorem body_Hall_belt {G : Tab} {Γ : Nat → TSp} (A : A_Hall_belt G Γ) : B_Hall_belt G Γ := by
  rintro ts μ F R ⟨h, l1, l2, ns, ls, l, rfl, H, hR⟩
  unfold c_Hall_belt
  simp only [Rh.startT, List.length_cons, List.length_nil, List.map_cons, List.map_nil, List.replicate, List.cons_append, List.nil_append, Nat.reduceAdd, Nat.reduceSub, N_Hall_belt]
  apply e_cons; simp only [denS]; (try simp_arith [A.f_Hall_need, A.g_Hall_need, S_Hall_need, i_Hall_need, A.k_MOST_BELTS, A.f_Hall_lay, A.g_Hall_lay, S_Hall_lay, i_Hall_lay, H.o]); repeat ((with_reducible refine And.intro ?_ ?_); omega)
  refine ⟨l1, l2, ns, ls, H, ?_⟩
  by_cases h1 : 0 ≤ l.g ∧ l.g < ns.length
  case neg =>
    simp only [h1, not_false_eq_true, if_true, if_false] at hR ⊢
    exact hR
  simp only [h1, and_self, not_true_eq_false, if_true, if_false] at hR ⊢
  apply e_cons; simp only [denS]; (try simp_arith [A.f_Hall_need, A.g_Hall_need, S_Hall_need, i_Hall_need, A.k_MOST_BELTS, A.f_Hall_lay, A.g_Hall_lay, S_Hall_lay, i_Hall_lay, H.o]); repeat ((with_reducible refine And.intro ?_ ?_); omega)
  refine ⟨l1, l2, ns, ls, H, ?_⟩
  by_cases h2 : 0 ≤ l.t ∧ l.t < ns.length
  case neg =>
    simp only [h2, not_false_eq_true, if_true, if_false] at hR ⊢
    exact hR
  simp only [h2, and_self, not_true_eq_false, if_true, if_false] at hR ⊢
  apply e_cons; apply e_ife; simp_arith [A.f_Hall_need, A.g_Hall_need, S_Hall_need, i_Hall_need, A.k_MOST_BELTS, A.f_Hall_lay, A.g_Hall_lay, S_Hall_lay, i_Hall_lay, H.o]; repeat ((with_reducible refine And.intro ?_ ?_); omega)
  by_cases h3 : l.gi < 1
  · simp only [h3, true_or, if_true, not_true_eq_false, if_false] at hR ⊢
    apply e_cons; simp only [denS]; (try simp_arith [A.f_Hall_need, A.g_Hall_need, S_Hall_need, i_Hall_need, A.k_MOST_BELTS, A.f_Hall_lay, A.g_Hall_lay, S_Hall_lay, i_Hall_lay]); repeat ((with_reducible refine And.intro ?_ ?_); omega)
    exact hR
  by_cases h4 : l.ta < 1
  · simp only [h3, h4, or_true, true_or, if_true, not_true_eq_false, not_false_eq_true, if_false] at hR ⊢
    apply e_cons; simp only [denS]; (try simp_arith [A.f_Hall_need, A.g_Hall_need, S_Hall_need, i_Hall_need, A.k_MOST_BELTS, A.f_Hall_lay, A.g_Hall_lay, S_Hall_lay, i_Hall_lay]); repeat ((with_reducible refine And.intro ?_ ?_); omega)
    exact hR
  by_cases h5 : l.st < 0
  · simp only [h3, h4, h5, or_true, if_true, not_true_eq_false, not_false_eq_true, if_false] at hR ⊢
    apply e_cons; simp only [denS]; (try simp_arith [A.f_Hall_need, A.g_Hall_need, S_Hall_need, i_Hall_need, A.k_MOST_BELTS, A.f_Hall_lay, A.g_Hall_lay, S_Hall_lay, i_Hall_lay]); repeat ((with_reducible refine And.intro ?_ ?_); omega)
    exact hR
  simp only [h3, h4, h5, or_false, if_true, not_false_eq_true, if_false] at hR ⊢
  apply e_cons; apply e_ife; simp_arith [A.f_Hall_need, A.g_Hall_need, S_Hall_need, i_Hall_need, A.k_MOST_BELTS, A.f_Hall_lay, A.g_Hall_lay, S_Hall_lay, i_Hall_lay, H.o, H.b]; repeat ((with_reducible refine And.intro ?_ ?_); omega)
  by_cases h6 : 60 ≤ ls.length
  · simp only [h6, show (60 : Int) ≤ (ls.length : Nat) by omega, if_true] at hR ⊢
    apply e_cons; simp only [denS]; (try simp_arith [A.f_Hall_need, A.g_Hall_need, S_Hall_need, i_Hall_need, A.k_MOST_BELTS, A.f_Hall_lay, A.g_Hall_lay, S_Hall_lay, i_Hall_lay]); repeat ((with_reducible refine And.intro ?_ ?_); omega)
    exact hR
  simp only [h6, show ¬ (60 : Int) ≤ (ls.length : Nat) by omega, if_false] at hR ⊢
  apply e_cons; simp only [denS]; (try simp_arith [A.f_Hall_need, A.g_Hall_need, S_Hall_need, i_Hall_need, A.k_MOST_BELTS, A.f_Hall_lay, A.g_Hall_lay, S_Hall_lay, i_Hall_lay, H.o]); repeat ((with_reducible refine And.intro ?_ ?_); omega)
  exact ⟨l1, l2, ns, ls, l, rfl, rfl, rfl, rfl, rfl, H, Nat.lt_of_lt_of_le (by omega : ls.length < 60) (by decide), fin_id hR⟩
def S_show_hall : TSp := fun ts μ F R => ∃ h l1 l2 ns ls, ts = [.own h] ∧ HallAt μ h l1 l2 ns ls ∧ ShowOk ns ls ∧ ∀ q, μ q = none → R (.own q) (μ.set q (.lst ((rowsOf ns ls).map T.str)))
structure A_show_hall (G : Tab) (Γ : Nat → TSp) : Prop where
  f_Hall_names : G.fn n_Hall_names = some i_Hall_names
  g_Hall_names : Γ n_Hall_names = S_Hall_names
  f_Hall_belts : G.fn n_Hall_belts = some i_Hall_belts
  g_Hall_belts : Γ n_Hall_belts = S_Hall_belts
abbrev B_show_hall (G : Tab) (Γ : Nat → TSp) : Prop := ∀ ts μ F R, S_show_hall ts μ F R → denSs G Γ c_show_hall (bodyD R F) (startT N_show_hall.length ts) μ
theorem body_show_hall {G : Tab} {Γ : Nat → TSp} (A : A_show_hall G Γ) : B_show_hall G Γ := by
  rintro ts μ F R ⟨h, l1, l2, ns, ls, rfl, H, hk, hR⟩
  unfold c_show_hall
  simp only [Rh.startT, List.length_cons, List.length_nil, List.map_cons, List.map_nil, List.replicate, List.cons_append, List.nil_append, Nat.reduceAdd, Nat.reduceSub, N_show_hall]
  apply e_cons; simp only [denS]; (try simp_arith [A.f_Hall_names, A.g_Hall_names, S_Hall_names, i_Hall_names, A.f_Hall_belts, A.g_Hall_belts, S_Hall_belts, i_Hall_belts]); repeat ((with_reducible refine And.intro ?_ ?_); omega)
  refine ⟨_, H.o, l1, l2, ns, ls, H, .inr ?_⟩
  have w1 : ∀ n ∈ ns, n.length ≤ 8 := fun n hn => (isName_ok (hk.nm n hn)).2
  have hn := hk.nl
  have hll := hk.ll
  apply e_cons; simp only [denS]; (try simp_arith [A.f_Hall_names, A.g_Hall_names, S_Hall_names, i_Hall_names, A.f_Hall_belts, A.g_Hall_belts, S_Hall_belts, i_Hall_belts]); repeat ((with_reducible refine And.intro ?_ ?_); omega)
  refine onG_at .lst fun gd hgd => ?_
  refine comp_pure (fun _ => true) (fun t => match t with | .str a => .str (workT a) | t => t) (hgd _ .lst) ?_ ?_ ?_
  · rw [List.length_map, sz]
    omega
  · intro t ht Y N hY _
    obtain ⟨n, hn2, rfl⟩ := List.mem_map.mp ht
    have hY := hY rfl
    have := w1 n hn2
    simp only [wipeT]
    simp_arith [A.f_Hall_names, A.g_Hall_names, S_Hall_names, i_Hall_names, A.f_Hall_belts, A.g_Hall_belts, S_Hall_belts, i_Hall_belts]
    exact ⟨by show (Str.ofString "work ").length + n.length ≤ _; rw [show (Str.ofString "work ").length = 5 from by decide]; omega, hY⟩
  rw [List.filter_eq_self.mpr (fun _ _ => rfl), List.map_map]
  intro q hq
  rw [show ns.map ((fun t : T => match t with | .str a => T.str (workT a) | t => t) ∘ T.str) = (ns.map workT).map T.str from by rw [List.map_map]; rfl]
  have H2 := H.fresh (ob := .lst ((ns.map workT).map T.str)) hq
  apply e_cons; simp only [denS]; (try simp_arith [A.f_Hall_names, A.g_Hall_names, S_Hall_names, i_Hall_names, A.f_Hall_belts, A.g_Hall_belts, S_Hall_belts, i_Hall_belts]); repeat ((with_reducible refine And.intro ?_ ?_); omega)
  refine ⟨_, H2.o, l1, l2, ns, ls, H2, .inr ?_⟩
  refine onG_at .lst fun gd2 hgd2 => ?_
  refine for_map (fun k ρ μ' => (∃ o4 o5 o6 o7 o8 o9, ρ = [some (.own h), some (.lst (ns.map T.str)), some (.own q), none, o4, o5, o6, o7, o8, o9]) ∧ μ' = μ.set q (.lst ((rowsOf ns (ls.take k)).map T.str))) ⟨⟨_, _, _, _, _, _, rfl⟩, by simp [rowsOf]⟩ ?_ ?_
  · rintro ρ μ' ⟨⟨o4, o5, o6, o7, o8, o9, rfl⟩, rfl⟩
    rw [List.take_length]
    refine ⟨hgd2 _ .lst, ?_⟩
    apply e_cons; simp only [denS]; (try simp_arith [A.f_Hall_names, A.g_Hall_names, S_Hall_names, i_Hall_names, A.f_Hall_belts, A.g_Hall_belts, S_Hall_belts, i_Hall_belts]); repeat ((with_reducible refine And.intro ?_ ?_); omega)
    exact fin_id (hR q hq)
  rintro k l ρ μ' hk2 ⟨⟨o4, o5, o6, o7, o8, o9, rfl⟩, rfl⟩
  refine ⟨hgd2 _ .lst, ?_⟩
  have hm := List.mem_of_getElem? hk2
  obtain ⟨g0, g1, t0, t1⟩ := hk.g l hm
  obtain ⟨b1, b2, b3⟩ := hk.b l hm
  have e1 := nm_len (k := 200) (by decide) b1
  have e2 := nm_len (k := 200) (by decide) b2
  have e3 := nm_len (k := 200) (by decide) b3
  have a1 : atI (ns.map T.str) l.g = some (T.str ((ns[l.g.toNat]?).getD "")) := by
    rw [at_nn g0, List.getElem?_map, List.getElem?_eq_getElem (by omega)]
    rfl
  have a2 : atI (ns.map T.str) l.t = some (T.str ((ns[l.t.toNat]?).getD "")) := by
    rw [at_nn t0, List.getElem?_map, List.getElem?_eq_getElem (by omega)]
    rfl
  have c1 : ((ns[l.g.toNat]?).getD "").length ≤ 8 := w1 _ (by
    rw [List.getElem?_eq_getElem (by omega)]
    exact List.getElem_mem _)
  have c2 : ((ns[l.t.toNat]?).getD "").length ≤ 8 := w1 _ (by
    rw [List.getElem?_eq_getElem (by omega)]
    exact List.getElem_mem _)
  have d1 : (Str.ofString "belt ").length = 5 := by decide
  have d2 : (Str.ofString " ").length = 1 := by decide
  have et : ls.take (k + 1) = ls.take k ++ [l] := by
    rw [List.take_add_one, hk2]
    rfl
  have er : rowsOf ns (ls.take (k + 1)) = rowsOf ns (ls.take k) ++ [lineT ns l] := by
    rw [et, rowsOf, List.map_append, ← List.append_assoc]
    rfl
  have hrl : (rowsOf ns (ls.take k)).length ≤ 90 := by
    rw [rowsOf, List.length_append, List.length_map, List.length_map, List.length_take]
    omega
  simp_arith [A.f_Hall_names, A.g_Hall_names, S_Hall_names, i_Hall_names, A.f_Hall_belts, A.g_Hall_belts, S_Hall_belts, i_Hall_belts, Ln.tr]
  apply e_cons; simp only [denS]; (try simp_arith [A.f_Hall_names, A.g_Hall_names, S_Hall_names, i_Hall_names, A.f_Hall_belts, A.g_Hall_belts, S_Hall_belts, i_Hall_belts, a1]); repeat ((with_reducible refine And.intro ?_ ?_); omega)
  have en : ∀ n : Int, Str.ofString (toString n) = nmT n := fun _ => rfl
  simp only [en, ad_str, sz, Str.length_append, d1, d2]
  repeat (first | refine And.intro (by omega) ?_ | refine And.intro (log_of (by assumption)) ?_)
  apply e_cons; simp only [denS]; (try simp_arith [A.f_Hall_names, A.g_Hall_names, S_Hall_names, i_Hall_names, A.f_Hall_belts, A.g_Hall_belts, S_Hall_belts, i_Hall_belts, a2]); repeat ((with_reducible refine And.intro ?_ ?_); omega)
  simp only [en, ad_str, sz, Str.length_append, d1, d2]
  repeat (first | refine And.intro (by omega) ?_ | refine And.intro (log_of (by assumption)) ?_)
  refine ⟨_, _, .refl _ _, ⟨_, _, _, _, _, _, rfl⟩, ?_⟩
  rw [set_set, er, List.map_append]
  rfl
def S_read_signed : TSp := fun ts μ F R => ∃ z, ts = [.str z] ∧ z.length ≤ sizeLine ∧ ((∃ n, rdSg z = some n ∧ R (.int n) μ) ∨ (rdSg z = none ∧ F 9 μ))
structure A_read_signed (G : Tab) (Γ : Nat → TSp) : Prop where
  f_read_number : G.fn n_read_number = some i_read_number
  g_read_number : Γ n_read_number = S_read_number
abbrev B_read_signed (G : Tab) (Γ : Nat → TSp) : Prop := ∀ ts μ F R, S_read_signed ts μ F R → denSs G Γ c_read_signed (bodyD R F) (startT N_read_signed.length ts) μ
theorem body_read_signed {G : Tab} {Γ : Nat → TSp} (A : A_read_signed G Γ) : B_read_signed G Γ := by
  rintro ts μ F R ⟨z, rfl, hz, hR⟩
  unfold c_read_signed
  simp only [Rh.startT, List.length_cons, List.length_nil, List.map_cons, List.map_nil, List.replicate, List.cons_append, List.nil_append, Nat.reduceAdd, Nat.reduceSub, N_read_signed]
  apply e_cons; apply e_ife; simp_arith [A.f_read_number, A.g_read_number, S_read_number, i_read_number]; repeat ((with_reducible refine And.intro ?_ ?_); omega)
  by_cases h0 : Txt.startswith z "-" = true
  · have e : rdSg z = (rdNum (cutS z (some 1) none)).bind fun n => if n = 0 then none else some (-n) := if_pos h0
    rw [e] at hR
    have hc : (cutS z (some 1) none).length ≤ sizeLine := Nat.le_trans (cutS_length _ _ _) hz
    simp only [h0, not_true_eq_false, if_false, Bool.true_eq_false]
    apply e_cons; simp only [denS]; (try simp_arith [A.f_read_number, A.g_read_number, S_read_number, i_read_number, tSlice]); repeat ((with_reducible refine And.intro ?_ ?_); omega)
    refine ⟨hz, hc, ?_⟩
    cases e2 : rdNum (cutS z (some 1) none) with
    | none =>
      rw [e2] at hR
      rcases hR with ⟨n, h, _⟩ | ⟨_, h⟩
      · cases h
      · exact .inr ⟨rfl, h⟩
    | some n =>
      rw [e2] at hR
      refine .inl ⟨n, rfl, ?_⟩
      apply e_cons; apply e_ife; simp_arith [A.f_read_number, A.g_read_number, S_read_number, i_read_number]; repeat ((with_reducible refine And.intro ?_ ?_); omega)
      by_cases h3 : n = 0
      · subst h3
        simp only [if_true]
        apply e_cons; simp only [denS]; (try simp_arith [A.f_read_number, A.g_read_number, S_read_number, i_read_number]); repeat ((with_reducible refine And.intro ?_ ?_); omega)
        rcases hR with ⟨n, h, _⟩ | ⟨_, h⟩
        · cases h
        · exact h
      · simp only [h3, if_false]
        apply e_cons; simp only [denS]; (try simp_arith [A.f_read_number, A.g_read_number, S_read_number, i_read_number]); repeat ((with_reducible refine And.intro ?_ ?_); omega)
        rcases hR with ⟨m, h, hR⟩ | ⟨h, _⟩
        · simp only [Option.bind_some, h3, if_false, Option.some.injEq] at h
          subst h
          exact fin_id hR
        · simp only [Option.bind_some, h3, if_false] at h
          cases h
  · have e : rdSg z = rdNum z := if_neg h0
    rw [e] at hR
    simp only [h0, if_true, not_false_eq_true]
    apply e_cons; simp only [denS]; (try simp_arith [A.f_read_number, A.g_read_number, S_read_number, i_read_number]); repeat ((with_reducible refine And.intro ?_ ?_); omega)
    exact ⟨hz, hR.elim (fun ⟨n, h1, h2⟩ => .inl ⟨n, h1, fin_id h2⟩) .inr⟩
def rdTerm (w : Str) : Option (Int × Int) :=
  if (Txt.partition w "@").2.1 = "" then none else (rdSg (Txt.partition w "@").1).bind fun v => (rdNum (Txt.partition w "@").2.2).map fun k => (k, v)
def rdForm (z : Str) : Option Frm := match Txt.split z " " with
  | [] => none
  | w :: ws => (rdSg w).bind fun c => (ws.mapM rdTerm).map fun t => (c, t)
theorem joinL_ge (S : List Nat) : ∀ (ps : List (List Nat)) p, p ∈ ps → p.length ≤ (TL.joinL S ps).length
  | [], p, h => nomatch h
  | [q], p, h => by
    cases List.mem_singleton.mp h
    exact Nat.le_refl _
  | q :: r :: l, p, h => by
    have e : TL.joinL S (q :: r :: l) = q ++ S ++ TL.joinL S (r :: l) := by simp [TL.joinL]
    rw [e, List.length_append, List.length_append]
    rcases List.mem_cons.mp h with rfl | h
    · omega
    · have := joinL_ge S (r :: l) p h
      omega
theorem word_le {z y w : Str} (h : w ∈ Txt.split z y) : w.length ≤ z.length := by
  have e := StrLaws.join_split z y
  have e2 := TL.tl_join y (Txt.split z y)
  rw [e] at e2
  have := joinL_ge (TL.tl y) ((Txt.split z y).map TL.tl) (TL.tl w) (List.mem_map.mpr ⟨w, h, rfl⟩)
  rw [← e2] at this
  rw [TL.len_tl, TL.len_tl]
  exact this
theorem part_le (w y : Str) : (Txt.partition w y).1.length ≤ w.length ∧ (Txt.partition w y).2.2.length ≤ w.length := by
  unfold Txt.partition
  split
  · simp only [TL.len_tl, TL.tl_strSub, List.length_take, List.length_drop]
    omega
  · exact ⟨Nat.le_refl _, Nat.zero_le _⟩
theorem mapM_snoc {α β : Type} {f : α → Option β} : ∀ {l : List α} {acc : List β} {x : α} {y : β}, l.mapM f = some acc → f x = some y → (l ++ [x]).mapM f = some (acc ++ [y]) := fun {l acc x y} h1 h2 => by
  rw [List.mapM_append, h1]
  simp [h2]
theorem mapM_none {α β : Type} {f : α → Option β} : ∀ {l : List α} {x : α}, x ∈ l → f x = none → l.mapM f = none
  | [], _, h, _ => nomatch h
  | y :: r, x, h, e => by
    rw [List.mapM_cons]
    rcases List.mem_cons.mp h with rfl | h
    · rw [e]
      rfl
    · rw [mapM_none h e]
      cases f y <;> rfl
theorem mapM_all {α β : Type} {f : α → Option β} (d : β) : ∀ {l : List α} {acc : List β}, l.mapM f = some acc → (∀ x ∈ l, f x = some ((f x).getD d)) ∧ acc = l.map fun x => (f x).getD d
  | [], acc, h => by
    cases h
    exact ⟨fun _ z => (nomatch z), rfl⟩
  | y :: r, acc, h => by
    rw [List.mapM_cons] at h
    cases e1 : f y with
    | none =>
      rw [e1] at h
      cases h
    | some v =>
      rw [e1] at h
      cases e2 : r.mapM f with
      | none =>
        rw [e2] at h
        cases h
      | some vs =>
        rw [e2] at h
        cases h
        obtain ⟨h1, h2⟩ := mapM_all d e2
        refine ⟨fun x hx => ?_, by rw [List.map_cons, e1, ← h2]; rfl⟩
        rcases List.mem_cons.mp hx with rfl | hx
        · rw [e1]
          rfl
        · exact h1 x hx
def S_read_form : TSp := fun ts μ F R => ∃ z, ts = [.str z] ∧ z.length ≤ 100000 ∧ ((∃ f, rdForm z = some f ∧ R (frT f) μ) ∨ (rdForm z = none ∧ ∀ μ', Rh.Sub μ μ' → F 9 μ'))
structure A_read_form (G : Tab) (Γ : Nat → TSp) : Prop where
  f_read_signed : G.fn n_read_signed = some i_read_signed
  g_read_signed : Γ n_read_signed = S_read_signed
  f_read_number : G.fn n_read_number = some i_read_number
  g_read_number : Γ n_read_number = S_read_number
abbrev B_read_form (G : Tab) (Γ : Nat → TSp) : Prop := ∀ ts μ F R, S_read_form ts μ F R → denSs G Γ c_read_form (bodyD R F) (startT N_read_form.length ts) μ
theorem body_read_form {G : Tab} {Γ : Nat → TSp} (A : A_read_form G Γ) : B_read_form G Γ := by
  rintro ts μ F R ⟨z, rfl, hz, hR⟩
  unfold c_read_form
  simp only [Rh.startT, List.length_cons, List.length_nil, List.map_cons, List.map_nil, List.replicate, List.cons_append, List.nil_append, Nat.reduceAdd, Nat.reduceSub, N_read_form]
  have wl : ∀ w ∈ Txt.split z " ", w.length ≤ 100000 := fun w hw => Nat.le_trans (word_le hw) hz
  have hw1 := PyProof.Rows.split_pos z " "
  have hw2 := PyProof.Rows.split_le z " "
  apply e_cons; simp only [denS]; (try simp_arith [A.f_read_signed, A.g_read_signed, S_read_signed, i_read_signed, A.f_read_number, A.g_read_number, S_read_number, i_read_number]); repeat ((with_reducible refine And.intro ?_ ?_); omega)
  refine ⟨by decide, by omega, ?_⟩
  unfold rdForm at hR
  generalize Txt.split z (Str.ofString " ") = ws at wl hw1 hw2 hR ⊢
  cases ws with
  | nil => simp at hw1
  | cons w ws =>
  simp only [] at hR
  apply e_cons; simp only [denS]; (try simp_arith [A.f_read_signed, A.g_read_signed, S_read_signed, i_read_signed, A.f_read_number, A.g_read_number, S_read_number, i_read_number]); repeat ((with_reducible refine And.intro ?_ ?_); omega)
  refine ⟨by have := wl w List.mem_cons_self; omega, ?_⟩
  cases e0 : rdSg w with
  | none =>
    rw [e0] at hR
    rcases hR with ⟨_, h, _⟩ | ⟨_, h⟩
    · cases h
    · exact .inr ⟨rfl, h _ fun _ _ e => e⟩
  | some c =>
  rw [e0] at hR
  refine .inl ⟨c, rfl, ?_⟩
  apply e_cons; simp only [denS]; (try simp_arith [A.f_read_signed, A.g_read_signed, S_read_signed, i_read_signed, A.f_read_number, A.g_read_number, S_read_number, i_read_number]); repeat ((with_reducible refine And.intro ?_ ?_); omega)
  intro q hq
  have hcut : cutT (T.str w :: List.map T.str ws) (some 1) none = ws.map T.str := by
    rw [cut_from (by decide) (by simp)]
    rfl
  apply e_cons; simp only [denS]; (try simp_arith [A.f_read_signed, A.g_read_signed, S_read_signed, i_read_signed, A.f_read_number, A.g_read_number, S_read_number, i_read_number, hcut, newL]); repeat ((with_reducible refine And.intro ?_ ?_); omega)
  refine onG_at .lst fun gd hgd => ?_
  refine for_map (fun k ρ μ' => ∃ acc : List (Int × Int), (ws.take k).mapM rdTerm = some acc ∧ acc.length ≤ k ∧ (∃ o4 o5 o6 o7 o8, ρ = [some (.str z), some (.lst (T.str w :: ws.map T.str)), some (.int c), some (.own q), o4, o5, o6, o7, o8]) ∧ μ' = μ.set q (.lst (acc.map tmT))) ⟨[], rfl, Nat.le_refl _, ⟨_, _, _, _, _, rfl⟩, rfl⟩ ?_ ?_
  · rintro ρ μ' ⟨acc, e1, hl, ⟨o4, o5, o6, o7, o8, rfl⟩, rfl⟩
    refine ⟨hgd _ .lst, ?_⟩
    rw [List.take_length] at e1
    apply e_cons; simp only [denS]; (try simp_arith [A.f_read_signed, A.g_read_signed, S_read_signed, i_read_signed, A.f_read_number, A.g_read_number, S_read_number, i_read_number]); repeat ((with_reducible refine And.intro ?_ ?_); omega)
    rcases hR with ⟨f, h, hR⟩ | ⟨h, _⟩
    · rw [e1] at h
      cases h
      exact fin_sub _ (Sub.set_none hq) hR
    · rw [e1] at h
      cases h
  rintro k x ρ μ' hk ⟨acc, e1, hl, ⟨o4, o5, o6, o7, o8, rfl⟩, rfl⟩
  refine ⟨hgd _ .lst, ?_⟩
  have hx := wl x (List.mem_cons_of_mem _ (List.mem_of_getElem? hk))
  have hkl := (List.getElem?_eq_some_iff.mp hk).1
  rw [List.length_cons] at hw2
  obtain ⟨p1, p2⟩ := part_le x "@"
  have et : ws.take (k + 1) = ws.take k ++ [x] := by
    rw [List.take_add_one, hk]
    rfl
  have bad : rdTerm x = none → ∀ μ', Rh.Sub μ μ' → F 9 μ' := fun e => by
    rcases hR with ⟨f, h, _⟩ | ⟨_, h⟩
    · rw [mapM_none (List.mem_of_getElem? hk) e] at h
      cases h
    · exact h
  have sbq : Rh.Sub μ (μ.set q (.lst (acc.map tmT))) := Sub.set_none hq
  simp_arith [A.f_read_signed, A.g_read_signed, S_read_signed, i_read_signed, A.f_read_number, A.g_read_number, S_read_number, i_read_number]
  apply e_cons; simp only [denS]; (try simp_arith [A.f_read_signed, A.g_read_signed, S_read_signed, i_read_signed, A.f_read_number, A.g_read_number, S_read_number, i_read_number]); repeat ((with_reducible refine And.intro ?_ ?_); omega)
  refine ⟨by decide, by omega, ?_⟩
  apply e_cons; apply e_ife; simp_arith [A.f_read_signed, A.g_read_signed, S_read_signed, i_read_signed, A.f_read_number, A.g_read_number, S_read_number, i_read_number]; repeat ((with_reducible refine And.intro ?_ ?_); omega)
  have ex : rdTerm x = if (Txt.partition x "@").2.1 = "" then none else (rdSg (Txt.partition x "@").1).bind fun v => (rdNum (Txt.partition x "@").2.2).map fun k => (k, v) := rfl
  by_cases h1 : (Txt.partition x (Str.ofString "@")).2.1 = Str.ofString ""
  · rw [if_pos h1]
    rw [if_pos h1] at ex
    apply e_cons; simp only [denS]; (try simp_arith [A.f_read_signed, A.g_read_signed, S_read_signed, i_read_signed, A.f_read_number, A.g_read_number, S_read_number, i_read_number]); repeat ((with_reducible refine And.intro ?_ ?_); omega)
    exact bad ex _ sbq
  rw [if_neg h1]
  rw [if_neg h1] at ex
  cases e2 : rdSg (Txt.partition x (Str.ofString "@")).1 with
  | none =>
    rw [e2] at ex
    apply e_cons; simp only [denS]; (try simp_arith [A.f_read_signed, A.g_read_signed, S_read_signed, i_read_signed, A.f_read_number, A.g_read_number, S_read_number, i_read_number]); repeat ((with_reducible refine And.intro ?_ ?_); omega)
    exact .inr ⟨e2, bad ex _ sbq⟩
  | some v =>
  rw [e2] at ex
  apply e_cons; simp only [denS]; (try simp_arith [A.f_read_signed, A.g_read_signed, S_read_signed, i_read_signed, A.f_read_number, A.g_read_number, S_read_number, i_read_number]); repeat ((with_reducible refine And.intro ?_ ?_); omega)
  refine .inl ⟨v, e2, ?_⟩
  cases e3 : rdNum (Txt.partition x (Str.ofString "@")).2.2 with
  | none =>
    rw [e3] at ex
    apply e_cons; simp only [denS]; (try simp_arith [A.f_read_signed, A.g_read_signed, S_read_signed, i_read_signed, A.f_read_number, A.g_read_number, S_read_number, i_read_number]); repeat ((with_reducible refine And.intro ?_ ?_); omega)
    exact .inr ⟨e3, bad ex _ sbq⟩
  | some n =>
  rw [e3] at ex
  have e4 := mapM_snoc e1 ex
  apply e_cons; simp only [denS]; (try simp_arith [A.f_read_signed, A.g_read_signed, S_read_signed, i_read_signed, A.f_read_number, A.g_read_number, S_read_number, i_read_number]); repeat ((with_reducible refine And.intro ?_ ?_); omega)
  refine .inl ⟨n, e3, ?_⟩
  refine ⟨by omega, _, _, .refl _ _, acc ++ [(n, v)], by rw [et]; exact e4, by rw [List.length_append, List.length_singleton]; omega, ⟨_, _, _, _, _, rfl⟩, ?_⟩
  rw [set_set, List.map_append]
  rfl
def S_read_forms : TSp := fun ts μ F R => ∃ z, ts = [.str z] ∧ z.length ≤ 100000 ∧ ((z = "-" ∧ R (fsT []) μ) ∨ (z ≠ "-" ∧ ∃ fs, (Txt.split z ", ").mapM rdForm = some fs ∧ R (fsT fs) μ))
structure A_read_forms (G : Tab) (Γ : Nat → TSp) : Prop where
  f_read_form : G.fn n_read_form = some i_read_form
  g_read_form : Γ n_read_form = S_read_form
abbrev B_read_forms (G : Tab) (Γ : Nat → TSp) : Prop := ∀ ts μ F R, S_read_forms ts μ F R → denSs G Γ c_read_forms (bodyD R F) (startT N_read_forms.length ts) μ
theorem body_read_forms {G : Tab} {Γ : Nat → TSp} (A : A_read_forms G Γ) : B_read_forms G Γ := by
  rintro ts μ F R ⟨z, rfl, hz, hR⟩
  unfold c_read_forms
  simp only [Rh.startT, List.length_cons, List.length_nil, List.map_cons, List.map_nil, List.replicate, List.cons_append, List.nil_append, Nat.reduceAdd, Nat.reduceSub, N_read_forms]
  apply e_cons; apply e_ife; simp_arith [A.f_read_form, A.g_read_form, S_read_form, i_read_form]; repeat ((with_reducible refine And.intro ?_ ?_); omega)
  rcases hR with ⟨e, hR⟩ | ⟨e, fs, hf, hR⟩
  · rw [if_pos (by rw [e])]
    apply e_cons; simp only [denS]; (try simp_arith [A.f_read_form, A.g_read_form, S_read_form, i_read_form]); repeat ((with_reducible refine And.intro ?_ ?_); omega)
    exact fin_id hR
  rw [if_neg e]
  have wl : ∀ w ∈ Txt.split z ", ", w.length ≤ 100000 := fun w hw => Nat.le_trans (word_le hw) hz
  have hw2 := PyProof.Rows.split_le z ", "
  apply e_cons; simp only [denS]; (try simp_arith [A.f_read_form, A.g_read_form, S_read_form, i_read_form]); repeat ((with_reducible refine And.intro ?_ ?_); omega)
  refine ⟨by decide, by omega, ?_⟩
  obtain ⟨q1, q2⟩ := mapM_all (0, []) hf
  generalize Txt.split z (Str.ofString ", ") = ws at wl hw2 hf q1 q2 ⊢
  refine onG_at .lst fun gd hgd => ?_
  refine comp_xs (u := fun w => frT ((rdForm w).getD (0, []))) (hgd _ .lst) (by rw [sz]; omega) ?_ ?_
  · intro w hw Y N hY
    simp only [wipeT]
    simp_arith [A.f_read_form, A.g_read_form, S_read_form, i_read_form]
    exact ⟨wl w hw, .inl ⟨_, q1 w hw, hY⟩⟩
  simp_arith [A.f_read_form, A.g_read_form, S_read_form, i_read_form, newL]
  rw [show ws.map (fun w => frT ((rdForm w).getD (0, []))) = fs.map frT from by rw [q2, List.map_map]; rfl]
  exact fin_id hR
/-- what a row tells -/
inductive RowN
  | w (n : Str)
  | b (a c : Str) (gi ta st : Int)
def RowN.tr : RowN → T
  | .w n => .tup [.str n]
  | .b a c gi ta st => .tup [.str a, .str c, .int gi, .int ta, .int st]
def rdRowW (l : List Str) : Option RowN :=
  match l with
  | [a, b] => if a = "work" ∧ isName b = true then some (.w b) else none
  | [a, b, c, d, e, f] => if a = "belt" ∧ isName b = true ∧ isName e = true then (rdNum c).bind fun gi => (rdNum d).bind fun ta => (rdNum f).map fun st => .b b e gi ta st else none
  | _ => none
def rdRow (z : Str) : Option RowN := rdRowW (Txt.split z " ")
theorem rdW_none {w : Str} {ws : List Str} (h1 : ¬ (w = "work" ∧ ∃ n, ws = [n] ∧ isName n = true)) (h2 : ¬ (w = "belt" ∧ ∃ b c d e f, ws = [b, c, d, e, f] ∧ isName b = true ∧ isName e = true)) : rdRowW (w :: ws) = none := by
  unfold rdRowW
  split
  · rename_i a b e
    cases e
    rw [if_neg]
    exact fun ⟨x, y⟩ => h1 ⟨x, _, rfl, y⟩
  · rename_i a b c d e f eq
    cases eq
    rw [if_neg]
    exact fun ⟨x, y, z⟩ => h2 ⟨x, _, _, _, _, _, rfl, y, z⟩
  · rfl
def S_read_row : TSp := fun ts μ F R => ∃ z, ts = [.str z] ∧ z.length ≤ 100000 ∧ ((∃ r, rdRow z = some r ∧ R r.tr μ) ∨ (rdRow z = none ∧ F 9 μ))
structure A_read_row (G : Tab) (Γ : Nat → TSp) : Prop where
  f_is_name : G.fn n_is_name = some i_is_name
  g_is_name : Γ n_is_name = S_is_name
  f_read_number : G.fn n_read_number = some i_read_number
  g_read_number : Γ n_read_number = S_read_number
abbrev B_read_row (G : Tab) (Γ : Nat → TSp) : Prop := ∀ ts μ F R, S_read_row ts μ F R → denSs G Γ c_read_row (bodyD R F) (startT N_read_row.length ts) μ
theorem body_read_row {G : Tab} {Γ : Nat → TSp} (A : A_read_row G Γ) : B_read_row G Γ := by
  rintro ts μ F R ⟨z, rfl, hz, hR⟩
  unfold c_read_row
  simp only [Rh.startT, List.length_cons, List.length_nil, List.map_cons, List.map_nil, List.replicate, List.cons_append, List.nil_append, Nat.reduceAdd, Nat.reduceSub, N_read_row]
  have wl : ∀ w ∈ Txt.split z " ", w.length ≤ 100000 := fun w hw => Nat.le_trans (word_le hw) hz
  have hw1 := PyProof.Rows.split_pos z " "
  have hw2 := PyProof.Rows.split_le z " "
  apply e_cons; simp only [denS]; (try simp_arith [A.f_is_name, A.g_is_name, S_is_name, i_is_name, A.f_read_number, A.g_read_number, S_read_number, i_read_number]); repeat ((with_reducible refine And.intro ?_ ?_); omega)
  refine ⟨by decide, by omega, ?_⟩
  rw [show rdRow z = rdRowW (Txt.split z (Str.ofString " ")) from rfl] at hR
  generalize Txt.split z (Str.ofString " ") = ws at wl hw1 hw2 hR ⊢
  cases ws with
  | nil => simp at hw1
  | cons w ws =>
  have bad : rdRowW (w :: ws) = none → F 9 μ := fun e => by
    rcases hR with ⟨r, h, _⟩ | ⟨_, h⟩
    · rw [e] at h
      cases h
    · exact h
  have tail : ¬ (w = "work" ∧ ∃ n, ws = [n] ∧ isName n = true) → denSs G Γ (c_read_row.drop 2) (bodyD R F) [some (.str z), some (.lst (T.str w :: ws.map T.str)), none, none] μ := fun h1 => by
    show denSs G Γ [_, _, _, _] _ _ _
    apply e_cons; apply e_ife; simp_arith [A.f_is_name, A.g_is_name, S_is_name, i_is_name, A.f_read_number, A.g_read_number, S_read_number, i_read_number, isNameT]; repeat ((with_reducible refine And.intro ?_ ?_); omega)
    by_cases g1 : w = Str.ofString "belt"
    rotate_left
    · simp only [g1, if_true, if_false, not_false_eq_true]
      apply e_cons; simp only [denS]; (try simp_arith [A.f_is_name, A.g_is_name, S_is_name, i_is_name, A.f_read_number, A.g_read_number, S_read_number, i_read_number]); repeat ((with_reducible refine And.intro ?_ ?_); omega)
      exact bad (rdW_none h1 fun h => g1 h.1)
    simp only [g1, not_true_eq_false, if_false]
    by_cases g2 : ws.length = 5
    rotate_left
    · simp only [show ¬ ((ws.length + 1 : Nat) : Int) = 6 by omega, if_true, if_false, not_false_eq_true]
      apply e_cons; simp only [denS]; (try simp_arith [A.f_is_name, A.g_is_name, S_is_name, i_is_name, A.f_read_number, A.g_read_number, S_read_number, i_read_number]); repeat ((with_reducible refine And.intro ?_ ?_); omega)
      exact bad (rdW_none h1 fun h => by
        obtain ⟨_, b, c, d, e, f, rfl, _⟩ := h
        exact g2 rfl)
    simp only [show ((ws.length + 1 : Nat) : Int) = 6 by omega, not_true_eq_false, if_false]
    match ws, g2 with
    | [b, c, d, e, f], _ =>
    have hb := wl b (by simp)
    have hc := wl c (by simp)
    have hd := wl d (by simp)
    have he := wl e (by simp)
    have hf := wl f (by simp)
    rw [if_pos trivial, if_pos trivial]
    refine ⟨_, rfl, ⟨_, is_str⟩, fun s q => by cases q; omega, ?_⟩
    show if isName b = true then _ else _
    by_cases k1 : isName b = true
    rotate_left
    · rw [if_neg k1]
      show if isName b = false then _ else _
      rw [if_pos (Bool.not_eq_true _ ▸ k1)]
      apply e_cons; simp only [denS]; (try simp_arith [A.f_is_name, A.g_is_name, S_is_name, i_is_name, A.f_read_number, A.g_read_number, S_read_number, i_read_number]); repeat ((with_reducible refine And.intro ?_ ?_); omega)
      exact bad (rdW_none h1 fun h => by
        obtain ⟨_, _, _, _, _, _, q, h, _⟩ := h
        cases q
        exact k1 h)
    rw [if_pos k1]
    refine ⟨_, rfl, ⟨_, is_str⟩, fun s q => by cases q; omega, ?_⟩
    show if isName e = false then _ else _
    by_cases k2 : isName e = true
    rotate_left
    · rw [if_pos (Bool.not_eq_true _ ▸ k2)]
      apply e_cons; simp only [denS]; (try simp_arith [A.f_is_name, A.g_is_name, S_is_name, i_is_name, A.f_read_number, A.g_read_number, S_read_number, i_read_number]); repeat ((with_reducible refine And.intro ?_ ?_); omega)
      exact bad (rdW_none h1 fun h => by
        obtain ⟨_, _, _, _, _, _, q, _, h⟩ := h
        cases q
        exact k2 h)
    rw [if_neg (by rw [k2]; decide)]
    have er : rdRowW [w, b, c, d, e, f] = (rdNum c).bind fun gi => (rdNum d).bind fun ta => (rdNum f).map fun st => .b b e gi ta st := if_pos ⟨g1, k1, k2⟩
    rw [er] at hR bad
    cases n1 : rdNum c with
    | none =>
      rw [n1] at bad
      apply e_cons; simp only [denS]; (try simp_arith [A.f_is_name, A.g_is_name, S_is_name, i_is_name, A.f_read_number, A.g_read_number, S_read_number, i_read_number]); repeat ((with_reducible refine And.intro ?_ ?_); omega)
      exact .inr ⟨n1, bad rfl⟩
    | some v1 =>
    rw [n1] at hR bad
    apply e_cons; simp only [denS]; (try simp_arith [A.f_is_name, A.g_is_name, S_is_name, i_is_name, A.f_read_number, A.g_read_number, S_read_number, i_read_number]); repeat ((with_reducible refine And.intro ?_ ?_); omega)
    refine .inl ⟨v1, n1, ?_⟩
    cases n2 : rdNum d with
    | none =>
      rw [n2] at bad
      apply e_cons; simp only [denS]; (try simp_arith [A.f_is_name, A.g_is_name, S_is_name, i_is_name, A.f_read_number, A.g_read_number, S_read_number, i_read_number]); repeat ((with_reducible refine And.intro ?_ ?_); omega)
      exact .inr ⟨n2, bad rfl⟩
    | some v2 =>
    rw [n2] at hR bad
    apply e_cons; simp only [denS]; (try simp_arith [A.f_is_name, A.g_is_name, S_is_name, i_is_name, A.f_read_number, A.g_read_number, S_read_number, i_read_number]); repeat ((with_reducible refine And.intro ?_ ?_); omega)
    refine .inl ⟨v2, n2, ?_⟩
    cases n3 : rdNum f with
    | none =>
      rw [n3] at bad
      apply e_cons; simp only [denS]; (try simp_arith [A.f_is_name, A.g_is_name, S_is_name, i_is_name, A.f_read_number, A.g_read_number, S_read_number, i_read_number]); repeat ((with_reducible refine And.intro ?_ ?_); omega)
      exact ⟨_, rfl, f, rfl, by omega, .inr ⟨n3, bad rfl⟩⟩
    | some v3 =>
    rw [n3] at hR bad
    apply e_cons; simp only [denS]; (try simp_arith [A.f_is_name, A.g_is_name, S_is_name, i_is_name, A.f_read_number, A.g_read_number, S_read_number, i_read_number]); repeat ((with_reducible refine And.intro ?_ ?_); omega)
    refine ⟨_, rfl, f, rfl, by omega, .inl ⟨v3, n3, ?_⟩⟩
    rcases hR with ⟨r, h, hR⟩ | ⟨h, _⟩
    · cases h
      exact fin_id hR
    · cases h
  apply e_cons; apply e_ife; simp_arith [A.f_is_name, A.g_is_name, S_is_name, i_is_name, A.f_read_number, A.g_read_number, S_read_number, i_read_number, isNameT]; repeat ((with_reducible refine And.intro ?_ ?_); omega)
  by_cases m1 : w = Str.ofString "work"
  rotate_left
  · rw [if_neg m1, if_neg m1]
    exact tail fun h => m1 h.1
  rw [if_pos m1]
  by_cases m2 : ws.length = 1
  rotate_left
  · rw [if_neg (by omega), if_neg (by omega)]
    exact tail fun h => by
      obtain ⟨_, n, rfl, _⟩ := h
      exact m2 rfl
  rw [if_pos (by omega)]
  match ws, m2 with
  | [n], _ =>
  have hb := wl n (by simp)
  refine ⟨_, rfl, ⟨_, is_str⟩, fun s q => by cases q; omega, ?_⟩
  show if isName n = true then _ else _
  by_cases m3 : isName n = true
  rotate_left
  · rw [if_neg m3]
    exact tail fun h => by
      obtain ⟨_, _, q, h⟩ := h
      cases q
      exact m3 h
  rw [if_pos m3]
  apply e_cons; simp only [denS]; (try simp_arith [A.f_is_name, A.g_is_name, S_is_name, i_is_name, A.f_read_number, A.g_read_number, S_read_number, i_read_number]); repeat ((with_reducible refine And.intro ?_ ?_); omega)
  have er : rdRowW [w, n] = some (.w n) := if_pos ⟨m1, m3⟩
  rcases hR with ⟨r, h, hR⟩ | ⟨h, _⟩
  · rw [er] at h
    cases h
    exact fin_id hR
  · rw [er] at h
    cases h
abbrev HS := List Str × List Ln
/-- a row more -/
def addR (s : HS) : RowN → Except Nat HS
  | .w n => if n ∈ s.1 then .error 16 else if 30 ≤ s.1.length then .error 15 else .ok (s.1 ++ [n], s.2)
  | .b a c gi ta st => if a ∉ s.1 then .error 5 else if c ∉ s.1 then .error 5 else if gi < 1 ∨ ta < 1 ∨ st < 0 then .error 7 else if 60 ≤ s.2.length then .error 15 else .ok (s.1, s.2 ++ [⟨(s.1.idxOf a : Nat), (s.1.idxOf c : Nat), gi, ta, st⟩])
def hallR : List RowN → HS → Except Nat HS
  | [], s => .ok s
  | r :: l, s => match addR s r with
    | .ok s' => hallR l s'
    | .error e => .error e
theorem rdRow_w {z : Str} {n : Str} (h : rdRow z = some (.w n)) : isName n = true := by
  unfold rdRow rdRowW at h
  split at h
  · split at h
    · rename_i g
      cases h
      exact g.2
    · cases h
  · split at h
    · rename_i a b c d e f _ _
      cases n1 : rdNum c <;> rw [n1] at h
      · cases h
      cases n2 : rdNum d <;> rw [n2] at h
      · cases h
      cases n3 : rdNum f <;> rw [n3] at h <;> cases h
    · cases h
  · cases h
theorem idxOf_at {ns : List Str} {n : Str} (h : n ∈ ns) : ns[ns.idxOf n]? = some n ∧ ∀ j < ns.idxOf n, ns[j]? ≠ some n := by
  have hl := List.idxOf_lt_length_iff.mpr h
  refine ⟨by rw [List.getElem?_eq_getElem hl, List.getElem_idxOf], fun j hj e => ?_⟩
  have h2 := List.getElem?_eq_some_iff.mp e
  have := List.not_of_lt_findIdx hj
  rw [h2.2] at this
  simp at this
def S_read_hall : TSp := fun ts μ F R => ∃ (t : T) (zs : List Str) (rs : List RowN), ts = [t] ∧ LstAt μ t (zs.map T.str) ∧ zs.length ≤ 1000 ∧ (∀ z ∈ zs, z.length ≤ 100000) ∧ zs.mapM rdRow = some rs ∧
  ((∃ s, hallR rs ([], []) = .ok s ∧ ∀ μ' h k1 k2, Rh.Sub μ μ' → HallAt μ' h k1 k2 s.1 s.2 → μ h = none ∧ μ k1 = none ∧ μ k2 = none → R (.own h) μ') ∨ (∃ e, hallR rs ([], []) = .error e ∧ ∀ μ', Rh.Sub μ μ' → F e μ'))
structure A_read_hall (G : Tab) (Γ : Nat → TSp) : Prop where
  f_read_row : G.fn n_read_row = some i_read_row
  g_read_row : Γ n_read_row = S_read_row
  f_Hall_init : G.fn n_Hall_init = some i_Hall_init
  g_Hall_init : Γ n_Hall_init = S_Hall_init
  c_Hall : G.cl 3 = some ⟨"Hall", n_Hall_init⟩
  f_Hall_work : G.fn n_Hall_work = some i_Hall_work
  g_Hall_work : Γ n_Hall_work = S_Hall_work
  f_Hall_number_of : G.fn n_Hall_number_of = some i_Hall_number_of
  g_Hall_number_of : Γ n_Hall_number_of = S_Hall_number_of
  f_Hall_belt : G.fn n_Hall_belt = some i_Hall_belt
  g_Hall_belt : Γ n_Hall_belt = S_Hall_belt
abbrev B_read_hall (G : Tab) (Γ : Nat → TSp) : Prop := ∀ ts μ F R, S_read_hall ts μ F R → denSs G Γ c_read_hall (bodyD R F) (startT N_read_hall.length ts) μ
theorem body_read_hall {G : Tab} {Γ : Nat → TSp} (A : A_read_hall G Γ) : B_read_hall G Γ := by
  rintro ts μ F R ⟨t, zs, rs, rfl, ht, hz, hzl, hm, hR⟩
  unfold c_read_hall
  simp only [Rh.startT, List.length_cons, List.length_nil, List.map_cons, List.map_nil, List.replicate, List.cons_append, List.nil_append, Nat.reduceAdd, Nat.reduceSub, N_read_hall]
  apply e_cons; simp only [denS]; (try simp_arith [A.f_read_row, A.g_read_row, S_read_row, i_read_row, A.f_Hall_init, A.g_Hall_init, S_Hall_init, i_Hall_init, A.c_Hall, A.f_Hall_work, A.g_Hall_work, S_Hall_work, i_Hall_work, A.f_Hall_number_of, A.g_Hall_number_of, S_Hall_number_of, i_Hall_number_of, A.f_Hall_belt, A.g_Hall_belt, S_Hall_belt, i_Hall_belt]); repeat ((with_reducible refine And.intro ?_ ?_); omega)
  obtain ⟨q1, q2⟩ := mapM_all (.w "") hm
  refine onG_at ht fun gd hgd => ?_
  refine comp_xs (u := fun z => ((rdRow z).getD (.w "")).tr) (hgd _ ht) (by rw [sz]; omega) ?_ ?_
  · intro z hm Y N hY
    simp only [wipeT]
    simp_arith [A.f_read_row, A.g_read_row, S_read_row, i_read_row, A.f_Hall_init, A.g_Hall_init, S_Hall_init, i_Hall_init, A.c_Hall, A.f_Hall_work, A.g_Hall_work, S_Hall_work, i_Hall_work, A.f_Hall_number_of, A.g_Hall_number_of, S_Hall_number_of, i_Hall_number_of, A.f_Hall_belt, A.g_Hall_belt, S_Hall_belt, i_Hall_belt]
    exact ⟨hzl z hm, .inl ⟨_, q1 z hm, hY⟩⟩
  have hlen : rs.length = zs.length := by rw [q2, List.length_map]
  rw [show zs.map (fun z => ((rdRow z).getD (.w "")).tr) = rs.map RowN.tr from by rw [q2, List.map_map]; rfl]
  have hnm : ∀ n, RowN.w n ∈ rs → isName n = true := fun n hn => by
    rw [q2] at hn
    obtain ⟨z, hz, e⟩ := List.mem_map.mp hn
    exact rdRow_w (by rw [q1 z hz, e])
  apply e_cons; simp only [denS]; (try simp_arith [A.f_read_row, A.g_read_row, S_read_row, i_read_row, A.f_Hall_init, A.g_Hall_init, S_Hall_init, i_Hall_init, A.c_Hall, A.f_Hall_work, A.g_Hall_work, S_Hall_work, i_Hall_work, A.f_Hall_number_of, A.g_Hall_number_of, S_Hall_number_of, i_Hall_number_of, A.f_Hall_belt, A.g_Hall_belt, S_Hall_belt, i_Hall_belt, newL]); repeat ((with_reducible refine And.intro ?_ ?_); omega)
  intro hh f0 k1 k2 e1 e2 ne
  have H := HallAt.init e1 e2 ne
  have n1 : k1 ≠ hh := fun e => by
    rw [e, set_self] at e1
    cases e1
  have n2 : k2 ≠ hh := fun e => by
    rw [e, set_self] at e2
    cases e2
  rw [set_ne n1] at e1
  rw [set_ne n2] at e2
  have sb : Rh.Sub μ ((((μ.set hh (.obj 3 [])).set k1 (.lst [])).set k2 (.lst [])).set hh (.obj 3 [.own k1, .own k2])) := Lw.Sub.put' (Lw.Sub.put' (Lw.Sub.put' (Rh.Sub.set_none f0) e1) e2) f0
  generalize ((((μ.set hh (.obj 3 [])).set k1 (.lst [])).set k2 (.lst [])).set hh (.obj 3 [.own k1, .own k2])) = μ1 at H sb ⊢
  apply e_cons; simp only [denS]; (try simp_arith [A.f_read_row, A.g_read_row, S_read_row, i_read_row, A.f_Hall_init, A.g_Hall_init, S_Hall_init, i_Hall_init, A.c_Hall, A.f_Hall_work, A.g_Hall_work, S_Hall_work, i_Hall_work, A.f_Hall_number_of, A.g_Hall_number_of, S_Hall_number_of, i_Hall_number_of, A.f_Hall_belt, A.g_Hall_belt, S_Hall_belt, i_Hall_belt]); repeat ((with_reducible refine And.intro ?_ ?_); omega)
  refine onG_at .lst fun gd2 hgd2 => ?_
  refine for_map (fun k ρ μ' => ∃ s : HS, (∃ o4 o5, ρ = [some t, some (.lst (rs.map RowN.tr)), none, some (.own hh), o4, o5]) ∧ HallAt μ' hh k1 k2 s.1 s.2 ∧ Rh.Sub μ μ' ∧ (∀ x ∈ s.1, isName x = true) ∧ hallR (rs.drop k) s = hallR rs ([], []) ∧ s.2.length ≤ k) ⟨([], []), ⟨_, _, rfl⟩, H, sb, fun _ z => (nomatch z), rfl, Nat.zero_le _⟩ ?_ ?_
  · rintro ρ μ' ⟨s, ⟨o4, o5, rfl⟩, H3, sb, _, e, _⟩
    rw [List.drop_length] at e
    refine ⟨hgd2 _ .lst, ?_⟩
    apply e_cons; simp only [denS]; (try simp_arith [A.f_read_row, A.g_read_row, S_read_row, i_read_row, A.f_Hall_init, A.g_Hall_init, S_Hall_init, i_Hall_init, A.c_Hall, A.f_Hall_work, A.g_Hall_work, S_Hall_work, i_Hall_work, A.f_Hall_number_of, A.g_Hall_number_of, S_Hall_number_of, i_Hall_number_of, A.f_Hall_belt, A.g_Hall_belt, S_Hall_belt, i_Hall_belt]); repeat ((with_reducible refine And.intro ?_ ?_); omega)
    rcases hR with ⟨s', h, hR⟩ | ⟨c, h, _⟩
    · rw [← e] at h
      cases h
      exact fin_id (hR _ _ _ _ sb H3 ⟨f0, e1, e2⟩)
    · rw [← e] at h
      cases h
  rintro k r ρ μ' hk ⟨s, ⟨o4, o5, rfl⟩, H3, sb, hnn, e, hsl⟩
  refine ⟨hgd2 _ .lst, ?_⟩
  have hkl := (List.getElem?_eq_some_iff.mp hk).1
  rw [List.drop_eq_getElem_cons hkl, (List.getElem?_eq_some_iff.mp hk).2] at e
  have bad : ∀ c, addR s r = .error c → F c μ' := fun c h => by
    have : hallR rs ([], []) = .error c := by
      rw [← e]
      show (match addR s r with | .ok s' => hallR (rs.drop (k + 1)) s' | .error e => .error e) = _
      rw [h]
    rcases hR with ⟨s', h', _⟩ | ⟨c', h', hF⟩
    · rw [this] at h'
      cases h'
    · rw [this] at h'
      cases h'
      exact hF _ sb
  have next : ∀ s', addR s r = .ok s' → hallR (rs.drop (k + 1)) s' = hallR rs ([], []) := fun s' h => by
    rw [← e]
    show _ = (match addR s r with | .ok s' => hallR (rs.drop (k + 1)) s' | .error e => .error e)
    rw [h]
  cases r with
  | w n =>
    have hn := hnm n (List.mem_of_getElem? hk)
    have hnl := (isName_ok hn).2
    simp_arith [A.f_read_row, A.g_read_row, S_read_row, i_read_row, A.f_Hall_init, A.g_Hall_init, S_Hall_init, i_Hall_init, A.c_Hall, A.f_Hall_work, A.g_Hall_work, S_Hall_work, i_Hall_work, A.f_Hall_number_of, A.g_Hall_number_of, S_Hall_number_of, i_Hall_number_of, A.f_Hall_belt, A.g_Hall_belt, S_Hall_belt, i_Hall_belt, RowN.tr]
    apply e_cons; apply e_ife; simp_arith [A.f_read_row, A.g_read_row, S_read_row, i_read_row, A.f_Hall_init, A.g_Hall_init, S_Hall_init, i_Hall_init, A.c_Hall, A.f_Hall_work, A.g_Hall_work, S_Hall_work, i_Hall_work, A.f_Hall_number_of, A.g_Hall_number_of, S_Hall_number_of, i_Hall_number_of, A.f_Hall_belt, A.g_Hall_belt, S_Hall_belt, i_Hall_belt]; repeat ((with_reducible refine And.intro ?_ ?_); omega)
    apply e_cons; simp only [denS]; (try simp_arith [A.f_read_row, A.g_read_row, S_read_row, i_read_row, A.f_Hall_init, A.g_Hall_init, S_Hall_init, i_Hall_init, A.c_Hall, A.f_Hall_work, A.g_Hall_work, S_Hall_work, i_Hall_work, A.f_Hall_number_of, A.g_Hall_number_of, S_Hall_number_of, i_Hall_number_of, A.f_Hall_belt, A.g_Hall_belt, S_Hall_belt, i_Hall_belt, H3.o]); repeat ((with_reducible refine And.intro ?_ ?_); omega)
    refine ⟨k1, k2, s.1, s.2, H3, by omega, (isName_ok hn).1, fun x hx => (isName_ok (hnn x hx)).1, ?_⟩
    rw [if_neg (by rw [hn]; decide)]
    by_cases m1 : n ∈ s.1
    · rw [if_pos m1]
      exact bad 16 (if_pos m1)
    rw [if_neg m1]
    by_cases m2 : 30 ≤ s.1.length
    · rw [if_pos m2]
      exact bad 15 ((if_neg m1).trans (if_pos m2))
    rw [if_neg m2]
    refine ⟨_, _, .refl _ _, ⟨_, _, rfl⟩, (s.1 ++ [n], s.2), H3.addW n, Lw.Sub.put' sb e1, fun x hx => ?_, next _ ((if_neg m1).trans (if_neg m2)), by show s.2.length ≤ _; omega⟩
    rcases List.mem_append.mp hx with hx | hx
    · exact hnn x hx
    · cases List.mem_singleton.mp hx
      exact hn
  | b a c gi ta sv =>
    have eb : addR s (.b a c gi ta sv) = if a ∉ s.1 then .error 5 else if c ∉ s.1 then .error 5 else if gi < 1 ∨ ta < 1 ∨ sv < 0 then .error 7 else if 60 ≤ s.2.length then .error 15 else .ok (s.1, s.2 ++ [⟨(s.1.idxOf a : Nat), (s.1.idxOf c : Nat), gi, ta, sv⟩]) := rfl
    rw [eb] at bad next
    simp_arith [A.f_read_row, A.g_read_row, S_read_row, i_read_row, A.f_Hall_init, A.g_Hall_init, S_Hall_init, i_Hall_init, A.c_Hall, A.f_Hall_work, A.g_Hall_work, S_Hall_work, i_Hall_work, A.f_Hall_number_of, A.g_Hall_number_of, S_Hall_number_of, i_Hall_number_of, A.f_Hall_belt, A.g_Hall_belt, S_Hall_belt, i_Hall_belt, RowN.tr]
    apply e_cons; apply e_ife; simp_arith [A.f_read_row, A.g_read_row, S_read_row, i_read_row, A.f_Hall_init, A.g_Hall_init, S_Hall_init, i_Hall_init, A.c_Hall, A.f_Hall_work, A.g_Hall_work, S_Hall_work, i_Hall_work, A.f_Hall_number_of, A.g_Hall_number_of, S_Hall_number_of, i_Hall_number_of, A.f_Hall_belt, A.g_Hall_belt, S_Hall_belt, i_Hall_belt]; repeat ((with_reducible refine And.intro ?_ ?_); omega)
    apply e_cons; simp only [denS]; (try simp_arith [A.f_read_row, A.g_read_row, S_read_row, i_read_row, A.f_Hall_init, A.g_Hall_init, S_Hall_init, i_Hall_init, A.c_Hall, A.f_Hall_work, A.g_Hall_work, S_Hall_work, i_Hall_work, A.f_Hall_number_of, A.g_Hall_number_of, S_Hall_number_of, i_Hall_number_of, A.f_Hall_belt, A.g_Hall_belt, S_Hall_belt, i_Hall_belt, H3.o]); repeat ((with_reducible refine And.intro ?_ ?_); omega)
    refine ⟨k1, k2, s.1, s.2, H3, ?_⟩
    by_cases m1 : a ∈ s.1
    rotate_left
    · rw [if_pos m1] at bad
      exact .inr ⟨m1, bad 5 rfl⟩
    rw [if_neg (by simpa using m1)] at bad next
    refine .inl ⟨s.1.idxOf a, (idxOf_at m1).1, (idxOf_at m1).2, ?_⟩
    apply e_cons; simp only [denS]; (try simp_arith [A.f_read_row, A.g_read_row, S_read_row, i_read_row, A.f_Hall_init, A.g_Hall_init, S_Hall_init, i_Hall_init, A.c_Hall, A.f_Hall_work, A.g_Hall_work, S_Hall_work, i_Hall_work, A.f_Hall_number_of, A.g_Hall_number_of, S_Hall_number_of, i_Hall_number_of, A.f_Hall_belt, A.g_Hall_belt, S_Hall_belt, i_Hall_belt, H3.o]); repeat ((with_reducible refine And.intro ?_ ?_); omega)
    refine ⟨k1, k2, s.1, s.2, H3, ?_⟩
    by_cases m2 : c ∈ s.1
    rotate_left
    · rw [if_pos m2] at bad
      exact .inr ⟨m2, bad 5 rfl⟩
    rw [if_neg (by simpa using m2)] at bad next
    refine .inl ⟨s.1.idxOf c, (idxOf_at m2).1, (idxOf_at m2).2, ?_⟩
    have i1 := List.idxOf_lt_length_iff.mpr m1
    have i2 := List.idxOf_lt_length_iff.mpr m2
    refine ⟨k1, k2, s.1, s.2, ⟨(s.1.idxOf a : Nat), (s.1.idxOf c : Nat), gi, ta, sv⟩, rfl, rfl, rfl, rfl, rfl, H3, ?_⟩
    rw [if_neg (by simp; omega), if_neg (by simp; omega)]
    by_cases m3 : gi < 1 ∨ ta < 1 ∨ sv < 0
    · rw [if_pos m3] at bad ⊢
      exact bad 7 rfl
    rw [if_neg m3] at bad next ⊢
    by_cases m4 : 60 ≤ s.2.length
    · rw [if_pos m4] at bad ⊢
      exact bad 15 rfl
    rw [if_neg m4] at next ⊢
    exact ⟨_, _, .refl _ _, ⟨_, _, rfl⟩, (s.1, s.2 ++ [⟨(s.1.idxOf a : Nat), (s.1.idxOf c : Nat), gi, ta, sv⟩]), H3.addB _, Lw.Sub.put' sb e2, hnn, next _ rfl, by rw [List.length_append, List.length_singleton]; omega⟩

def tmS (p : Int × Int) : Str := ((" " : Str) ++ nmT p.2 ++ "@" ++ nmT p.1)
def formT (f : Frm) : Str := f.2.foldl (fun a p => a ++ tmS p) (nmT f.1)
structure FrmB (f : Frm) : Prop where
  c : f.1.natAbs < 10 ^ 200
  l : f.2.length ≤ 1000
  t : ∀ p ∈ f.2, p.1.natAbs < 10 ^ 200 ∧ p.2.natAbs < 10 ^ 200
theorem tmS_len {p : Int × Int} (h1 : p.1.natAbs < 10 ^ 200) (h2 : p.2.natAbs < 10 ^ 200) : (tmS p).length ≤ 404 := by
  have e1 := nm_len (k := 200) (by decide) h1
  have e2 := nm_len (k := 200) (by decide) h2
  have d2 : (Str.ofString " ").length = 1 := by decide
  have d3 : (Str.ofString "@").length = 1 := by decide
  unfold tmS
  rw [Str.length_append, Str.length_append, Str.length_append, d2, d3]
  omega
theorem tms_len : ∀ (l : List (Int × Int)) (a : Str), (∀ p ∈ l, p.1.natAbs < 10 ^ 200 ∧ p.2.natAbs < 10 ^ 200) → (l.foldl (fun a p => a ++ tmS p) a).length ≤ a.length + 404 * l.length
  | [], a, _ => Nat.le_refl _
  | p :: r, a, h => by
    have h1 := tms_len r (a ++ tmS p) fun q hq => h q (List.mem_cons_of_mem _ hq)
    have h2 := tmS_len (h p List.mem_cons_self).1 (h p List.mem_cons_self).2
    rw [Str.length_append] at h1
    rw [List.foldl_cons, List.length_cons]
    omega
theorem formT_len {f : Frm} (h : FrmB f) : (formT f).length ≤ 404201 := by
  have h1 := tms_len f.2 (nmT f.1) h.t
  have h2 := nm_len (k := 200) (by decide) h.c
  have h3 := h.l
  unfold formT
  omega
def S_show_form : TSp := fun ts μ F R => ∃ f : Frm, ts = [frT f] ∧ FrmB f ∧ R (.str (formT f)) μ
structure A_show_form (G : Tab) (Γ : Nat → TSp) : Prop where
  triv : True
abbrev B_show_form (G : Tab) (Γ : Nat → TSp) : Prop := ∀ ts μ F R, S_show_form ts μ F R → denSs G Γ c_show_form (bodyD R F) (startT N_show_form.length ts) μ
theorem body_show_form {G : Tab} {Γ : Nat → TSp} (A : A_show_form G Γ) : B_show_form G Γ := by
  rintro ts μ F R ⟨f, rfl, hf, hR⟩
  unfold c_show_form
  simp only [Rh.startT, List.length_cons, List.length_nil, List.map_cons, List.map_nil, List.replicate, List.cons_append, List.nil_append, Nat.reduceAdd, Nat.reduceSub, N_show_form]
  apply e_cons; simp only [denS]; (try simp_arith [frT]); repeat ((with_reducible refine And.intro ?_ ?_); omega)
  apply e_cons; simp only [denS]; (try simp_arith []); repeat ((with_reducible refine And.intro ?_ ?_); omega)
  refine ⟨log_of hf.c, ?_⟩
  apply e_cons; simp only [denS]; (try simp_arith []); repeat ((with_reducible refine And.intro ?_ ?_); omega)
  refine for_map (fun k ρ μ' => (∃ o4 o5, ρ = [some (frT f), some (.int f.1), some (.tup (f.2.map tmT)), some (.str ((f.2.take k).foldl (fun a p => a ++ tmS p) (nmT f.1))), o4, o5]) ∧ μ' = μ) ⟨⟨_, _, rfl⟩, rfl⟩ ?_ ?_
  · rintro ρ μ' ⟨⟨o4, o5, rfl⟩, rfl⟩
    rw [List.take_length]
    refine ⟨trivial, ?_⟩
    apply e_cons; simp only [denS]; (try simp_arith []); repeat ((with_reducible refine And.intro ?_ ?_); omega)
    exact fin_id hR
  rintro k p ρ μ' hk ⟨⟨o4, o5, rfl⟩, rfl⟩
  refine ⟨trivial, ?_⟩
  obtain ⟨b1, b2⟩ := hf.t p (List.mem_of_getElem? hk)
  have h2 := hf.l
  have h1 := tms_len (f.2.take k) (nmT f.1) fun q hq => hf.t q (List.mem_of_mem_take hq)
  have e0 := nm_len (k := 200) (by decide) hf.c
  have e1 := nm_len (k := 200) (by decide) b1
  have e2 := nm_len (k := 200) (by decide) b2
  have d2 : (Str.ofString " ").length = 1 := by decide
  have d3 : (Str.ofString "@").length = 1 := by decide
  have et : f.2.take (k + 1) = f.2.take k ++ [p] := by
    rw [List.take_add_one, hk]
    rfl
  rw [List.length_take] at h1
  have en : ∀ n : Int, Str.ofString (toString n) = nmT n := fun _ => rfl
  simp_arith [tmT]
  apply e_cons; simp only [denS]; (try simp_arith []); repeat ((with_reducible refine And.intro ?_ ?_); omega)
  simp only [en, ad_str, sz, Str.length_append, d2, d3]
  repeat (first | refine And.intro (by omega) ?_ | refine And.intro (log_of (by assumption)) ?_)
  rw [et, List.foldl_append]
  exact ⟨by rw [Str.length_append, Str.length_append, Str.length_append, d2, d3, sz]; omega, _, _, .refl _ _, ⟨_, _, rfl⟩, rfl⟩
def formsT (fs : List Frm) : Str := if fs = [] then "-" else Txt.join ", " (fs.map formT)
def S_show_forms : TSp := fun ts μ F R => ∃ fs : List Frm, ts = [fsT fs] ∧ (∀ f ∈ fs, FrmB f) ∧ fs.length ≤ 30 ∧ R (.str (formsT fs)) μ
structure A_show_forms (G : Tab) (Γ : Nat → TSp) : Prop where
  f_show_form : G.fn n_show_form = some i_show_form
  g_show_form : Γ n_show_form = S_show_form
abbrev B_show_forms (G : Tab) (Γ : Nat → TSp) : Prop := ∀ ts μ F R, S_show_forms ts μ F R → denSs G Γ c_show_forms (bodyD R F) (startT N_show_forms.length ts) μ
theorem body_show_forms {G : Tab} {Γ : Nat → TSp} (A : A_show_forms G Γ) : B_show_forms G Γ := by
  rintro ts μ F R ⟨fs, rfl, hf, hl, hR⟩
  unfold c_show_forms
  simp only [Rh.startT, List.length_cons, List.length_nil, List.map_cons, List.map_nil, List.replicate, List.cons_append, List.nil_append, Nat.reduceAdd, Nat.reduceSub, N_show_forms]
  apply e_cons; apply e_ife; simp_arith [A.f_show_form, A.g_show_form, S_show_form, i_show_form, fsT]; repeat ((with_reducible refine And.intro ?_ ?_); omega)
  by_cases h0 : fs.length = 0
  · have e : fs = [] := List.eq_nil_of_length_eq_zero h0
    subst e
    simp only [List.length_nil, Int.natCast_zero, if_true]
    apply e_cons; simp only [denS]; (try simp_arith [A.f_show_form, A.g_show_form, S_show_form, i_show_form]); repeat ((with_reducible refine And.intro ?_ ?_); omega)
    exact fin_id hR
  rw [if_neg (by omega)]
  apply e_cons; simp only [denS]; (try simp_arith [A.f_show_form, A.g_show_form, S_show_form, i_show_form]); repeat ((with_reducible refine And.intro ?_ ?_); omega)
  refine comp_xs (u := fun f => T.str (formT f)) trivial (by rw [sz]; omega) ?_ ?_
  · intro f hm Y N hY
    simp only [wipeT]
    simp_arith [A.f_show_form, A.g_show_form, S_show_form, i_show_form]
    exact ⟨f, rfl, hf f hm, hY⟩
  simp_arith [A.f_show_form, A.g_show_form, S_show_form, i_show_form]
  have hne : fs ≠ [] := fun e => h0 (by rw [e]; rfl)
  have hS : formsT fs = Txt.join ", " (fs.map formT) := if_neg hne
  rw [hS] at hR
  refine ⟨fs.map formT, .inl (by rw [List.map_map]; rfl), ?_, fin_id hR⟩
  have hs : ∀ l : List Frm, (∀ f ∈ l, FrmB f) → ((l.map formT).map (·.length)).sum ≤ 404201 * l.length := fun l => by
    induction l with
    | nil => intro _; exact Nat.le_refl _
    | cons f r ih =>
      intro h
      have h1 := ih fun q hq => h q (List.mem_cons_of_mem _ hq)
      have h2 := formT_len (h f List.mem_cons_self)
      rw [List.map_cons, List.map_cons, List.sum_cons, List.length_cons]
      omega
  have h1 := hs fs hf
  have d2 : (Str.ofString ", ").length = 2 := by decide
  rw [d2, List.length_map]
  omega
def mxv (c way : Int) : Int := (c * 48271 + way * 7919) % 2147483647 * (16807 + 2 * way) % 1000003
structure Side (μ : Sto) (h l1 l2 pn pl : Addr) (ns : List Str) (ls : List Ln) : Prop where
  H : HallAt μ h l1 l2 ns ls
  n : μ pn = some (.lst (ns.map T.str))
  l : μ pl = some (.lst (ls.map Ln.tr))
  d1 : h ≠ pn
  d2 : h ≠ pl
  d3 : l1 ≠ pn
  d4 : l1 ≠ pl
  d5 : l2 ≠ pn
  d6 : l2 ≠ pl
  d7 : pn ≠ pl
structure NOk (ns : List Str) : Prop where
  nm : ∀ n ∈ ns, isName n = true
  nd : ns.Nodup
  le : ns.length ≤ 30
theorem NOk.ok {ns : List Str} (h : NOk ns) : ∀ x ∈ ns, sOk x := fun x hx => (isName_ok (h.nm x hx)).1
theorem NOk.add {ns : List Str} {n : Str} (h : NOk ns) (a : isName n = true) (b : n ∉ ns) (c : ns.length < 30) : NOk (ns ++ [n]) :=
  ⟨fun x hx => by
    rcases List.mem_append.mp hx with z | z
    · exact h.nm x z
    · cases List.mem_singleton.mp z
      exact a, List.nodup_append.mpr ⟨h.nd, by simp, fun x hx y hy e => by
        cases List.mem_singleton.mp hy
        exact b (e ▸ hx)⟩, by rw [List.length_append, List.length_singleton]; omega⟩
theorem Side.addW {μ : Sto} {h l1 l2 pn pl : Addr} {ns : List Str} {ls : List Ln} (S : Side μ h l1 l2 pn pl ns ls) (n : Str) : Side ((μ.set pn (.lst (ns.map T.str ++ [.str n]))).set l1 (.lst (ns.map T.str ++ [.str n]))) h l1 l2 pn pl (ns ++ [n]) ls :=
  ⟨(S.H.put (ob := .lst (ns.map T.str ++ [.str n])) S.d1 S.d3 S.d5).addW n, by rw [set_ne S.d3.symm, set_self, List.map_append]; rfl, by rw [set_ne S.d4.symm, set_ne S.d7.symm]; exact S.l, S.d1, S.d2, S.d3, S.d4, S.d5, S.d6, S.d7⟩
theorem Side.addB {μ : Sto} {h l1 l2 pn pl : Addr} {ns : List Str} {ls : List Ln} (S : Side μ h l1 l2 pn pl ns ls) (l : Ln) : Side ((μ.set l2 (.lst (ls.map Ln.tr ++ [l.tr]))).set pl (.lst (ls.map Ln.tr ++ [l.tr]))) h l1 l2 pn pl ns (ls ++ [l]) :=
  ⟨(S.H.addB l).put S.d2 S.d4 S.d6, by rw [set_ne S.d7, set_ne S.d5.symm]; exact S.n, by rw [set_self, List.map_append]; rfl, S.d1, S.d2, S.d3, S.d4, S.d5, S.d6, S.d7⟩
theorem Side.setB {μ : Sto} {h l1 l2 pn pl : Addr} {ns : List Str} {ls : List Ln} (S : Side μ h l1 l2 pn pl ns ls) (i : Nat) (l : Ln) : Side ((μ.set l2 (.lst ((ls.map Ln.tr).set i l.tr))).set pl (.lst ((ls.map Ln.tr).set i l.tr))) h l1 l2 pn pl ns (ls.set i l) :=
  ⟨(S.H.setB i l).put S.d2 S.d4 S.d6, by rw [set_ne S.d7, set_ne S.d5.symm]; exact S.n, by rw [set_self, List.map_set], S.d1, S.d2, S.d3, S.d4, S.d5, S.d6, S.d7⟩
theorem Side.put {μ : Sto} {h l1 l2 pn pl a : Addr} {ns : List Str} {ls : List Ln} {ob : Ob} (S : Side μ h l1 l2 pn pl ns ls) (ha : a ∉ [h, l1, l2, pn, pl]) : Side (μ.set a ob) h l1 l2 pn pl ns ls := by
  simp only [List.mem_cons, List.not_mem_nil, or_false, not_or] at ha
  obtain ⟨a1, a2, a3, a4, a5⟩ := ha
  exact ⟨S.H.put (Ne.symm a1) (Ne.symm a2) (Ne.symm a3), by rw [set_ne (Ne.symm a4)]; exact S.n, by rw [set_ne (Ne.symm a5)]; exact S.l, S.d1, S.d2, S.d3, S.d4, S.d5, S.d6, S.d7⟩
theorem Side.fresh {μ : Sto} {h l1 l2 pn pl a : Addr} {ns : List Str} {ls : List Ln} {ob : Ob} (S : Side μ h l1 l2 pn pl ns ls) (ha : μ a = none) : Side (μ.set a ob) h l1 l2 pn pl ns ls := by
  refine S.put ?_
  simp only [List.mem_cons, List.not_mem_nil, or_false, not_or]
  exact ⟨(nofr S.H.o ha).symm, (nofr S.H.w ha).symm, (nofr S.H.b ha).symm, (nofr S.n ha).symm, (nofr S.l ha).symm⟩
theorem spots_comp (p : Ln → Bool) (ls : List Ln) : (((List.range ls.length).map fun i : Nat => T.int (i : Int)).filter fun t => match t with | .int i => (ls[i.toNat]?).any p | _ => false).map (fun t => t) = (spots p ls).map T.int := by
  unfold spots
  rw [List.filter_map, List.map_map, List.map_map]
  rfl
theorem spots_le (p : Ln → Bool) (ls : List Ln) : (spots p ls).length ≤ ls.length := by
  unfold spots
  rw [List.length_map]
  exact Nat.le_trans (List.length_filter_le _ _) (by rw [List.length_range]; exact Nat.le_refl _)
theorem Side.keep {μ μ' : Sto} {h l1 l2 pn pl : Addr} {ns : List Str} {ls : List Ln} (S : Side μ h l1 l2 pn pl ns ls) (sb : Sub μ μ') : Side μ' h l1 l2 pn pl ns ls :=
  ⟨⟨sb _ _ S.H.o, sb _ _ S.H.w, sb _ _ S.H.b, S.H.ne⟩, sb _ _ S.n, sb _ _ S.l, S.d1, S.d2, S.d3, S.d4, S.d5, S.d6, S.d7⟩
theorem sub_gone {μ μ' : Sto} {q : Addr} (sb : Sub μ μ') (hq : μ' q = none) : μ q = none := by
  cases e : μ q with
  | none => rfl
  | some o => rw [sb _ _ e] at hq; cases hq
theorem sub_put {μ μ' : Sto} {q : Addr} {o : Ob} (sb : Sub μ μ') (hq : μ q = none) : Sub μ (μ'.set q o) := fun a ob e => by
  rw [set_ne (fun y => by subst y; rw [hq] at e; cases e)]
  exact sb a ob e


structure Ad where
  h : Addr
  l1 : Addr
  l2 : Addr
  pn : Addr
  pl : Addr
def Ad.all (A : Ad) : List Addr := [A.h, A.l1, A.l2, A.pn, A.pl]
structure InvL (μ : Sto) (A : Bool → Ad) (ns : Bool → List Str) (ls : Bool → List Ln) (k : Nat) : Prop where
  s : ∀ b, Side μ (A b).h (A b).l1 (A b).l2 (A b).pn (A b).pl (ns b) (ls b)
  n : ∀ b, NOk (ns b)
  p : ∀ b, ∀ l ∈ ls b, 0 ≤ Ln.st l
  c : (ls false).length + (ls true).length ≤ k
def upB {α : Type} (f : Bool → α) (b : Bool) (x : α) : Bool → α := fun c => if c = b then x else f c
theorem upB_self {α : Type} {f : Bool → α} {b : Bool} {x : α} : upB f b x b = x := if_pos rfl
theorem upB_ne {α : Type} {f : Bool → α} {b c : Bool} {x : α} (h : c ≠ b) : upB f b x c = f c := if_neg h
theorem InvL.two {μ : Sto} {A : Bool → Ad} {ns : Bool → List Str} {ls : Bool → List Ln} {k k' : Nat} (I : InvL μ A ns ls k) (hd : ∀ b c, b ≠ c → ∀ a ∈ (A b).all, a ∉ (A c).all) (b : Bool) {p q : Addr} {o o' : Ob} {n' : List Str} {l' : List Ln}
    (hp : p ∈ (A b).all) (hq : q ∈ (A b).all) (S : Side ((μ.set p o).set q o') (A b).h (A b).l1 (A b).l2 (A b).pn (A b).pl n' l') (N : NOk n') (P : ∀ l ∈ l', 0 ≤ Ln.st l) (C : (upB ls b l' false).length + (upB ls b l' true).length ≤ k') :
    InvL ((μ.set p o).set q o') A (upB ns b n') (upB ls b l') k' := by
  refine ⟨fun c => ?_, fun c => ?_, fun c => ?_, C⟩
  · by_cases e : c = b
    · subst e
      rw [upB_self, upB_self]
      exact S
    · rw [upB_ne e, upB_ne e]
      exact ((I.s c).put (hd b c (Ne.symm e) p hp)).put (hd b c (Ne.symm e) q hq)
  · by_cases e : c = b
    · subst e
      rw [upB_self]
      exact N
    · rw [upB_ne e]
      exact I.n c
  · by_cases e : c = b
    · subst e
      rw [upB_self]
      exact P
    · rw [upB_ne e]
      exact I.p c
theorem upB_sum {ls : Bool → List Ln} {b : Bool} {l' : List Ln} : (upB ls b l' false).length + (upB ls b l' true).length + (ls b).length = (ls false).length + (ls true).length + l'.length := by
  cases b
  · rw [upB_self, upB_ne (by decide)]
    omega
  · rw [upB_self, upB_ne (by decide)]
    omega
theorem InvL.le {μ : Sto} {A : Bool → Ad} {ns : Bool → List Str} {ls : Bool → List Ln} {k k' : Nat} (I : InvL μ A ns ls k) (h : k ≤ k') : InvL μ A ns ls k' := ⟨I.s, I.n, I.p, Nat.le_trans I.c h⟩
theorem InvL.each {μ : Sto} {A : Bool → Ad} {ns : Bool → List Str} {ls : Bool → List Ln} {k : Nat} (I : InvL μ A ns ls k) (b : Bool) : (ls b).length ≤ k := by
  have := I.c
  cases b <;> omega
theorem cut_map {α : Type} (f : α → T) (xs : List α) (lo hi : Option Int) : ∃ ys : List α, cutT (xs.map f) lo hi = ys.map f ∧ ys.length ≤ HT.sIx xs.length xs.length hi - HT.sIx xs.length 0 lo := by
  refine ⟨(xs.drop (HT.sIx xs.length 0 lo)).take (HT.sIx xs.length xs.length hi - HT.sIx xs.length 0 lo), ?_, ?_⟩
  · unfold cutT
    rw [List.length_map, List.map_take, List.map_drop]
  · rw [List.length_take]
    exact Nat.min_le_left _ _
structure Kn (μ : Sto) (as : List Addr) : Prop where
  nd : as.Nodup
  th : ∀ a ∈ as, μ a ≠ none
theorem Kn.add {μ : Sto} {as : List Addr} {p : Addr} {o : Ob} (K : Kn μ as) (h : μ p = none) : Kn (μ.set p o) (p :: as) :=
  ⟨List.nodup_cons.mpr ⟨fun z => K.th p z h, K.nd⟩, fun a ha e => by
    rcases List.mem_cons.mp ha with rfl | ha
    · rw [set_self] at e
      cases e
    · by_cases z : a = p
      · subst z
        rw [set_self] at e
        cases e
      · rw [set_ne z] at e
        exact K.th a ha e⟩
theorem Kn.re {μ : Sto} {as : List Addr} {p : Addr} {o : Ob} (K : Kn μ as) : Kn (μ.set p o) as :=
  ⟨K.nd, fun a ha e => by
    by_cases z : a = p
    · subst z
      rw [set_self] at e
      cases e
    · rw [set_ne z] at e
      exact K.th a ha e⟩
/-- a new hall beside what was there -/
theorem new_hall {μ : Sto} {as : List Addr} {h l1 l2 : Addr} (K : Kn μ as) (f : μ h = none) (e1 : (μ.set h (.obj 3 [])) l1 = none) (e2 : (μ.set h (.obj 3 [])) l2 = none) (ne : ¬ l1 = l2) :
    ∃ μ', μ' = ((((μ.set h (.obj 3 [])).set l1 (.lst [])).set l2 (.lst [])).set h (.obj 3 [.own l1, .own l2])) ∧ HallAt μ' h l1 l2 [] [] ∧ Kn μ' (l2 :: l1 :: h :: as) ∧ Rh.Sub μ μ' := by
  have n1 : l1 ≠ h := fun e => by
    rw [e, set_self] at e1
    cases e1
  have n2 : l2 ≠ h := fun e => by
    rw [e, set_self] at e2
    cases e2
  have g1 : μ l1 = none := by rwa [set_ne n1] at e1
  have g2 : μ l2 = none := by rwa [set_ne n2] at e2
  refine ⟨_, rfl, HallAt.init e1 e2 ne, Kn.re (((K.add f).add e1).add (by rw [set_ne (Ne.symm ne)]; exact e2)), ?_⟩
  exact sub_put (sub_put (sub_put (sub_put (Rh.Sub.refl _) f) g1) g2) f
theorem HallAt.keep {μ μ' : Sto} {h l1 l2 : Addr} {ns : List Str} {ls : List Ln} (H : HallAt μ h l1 l2 ns ls) (sb : Rh.Sub μ μ') : HallAt μ' h l1 l2 ns ls := ⟨sb _ _ H.o, sb _ _ H.w, sb _ _ H.b, H.ne⟩
/-! trees of whole numbers: each is like itself -/
def PureT : Nat → T → Prop
  | 0, _ => False
  | _ + 1, .int _ => True
  | n + 1, .lst ts => ∀ t ∈ ts, PureT n t
  | n + 1, .tup ts => ∀ t ∈ ts, PureT n t
  | _, _ => False
theorem pure_all {μ : Sto} {n : Nat} (ih : ∀ t, PureT n t → ∃ d, dat μ n t = some d ∧ d.canLay0 = true ∧ d.depth ≤ n ∧ PyData.eqv d d = true) : ∀ ts : List T, (∀ t ∈ ts, PureT n t) → ∃ ds, ts.mapM (dat μ n) = some ds ∧ PyData.canLayAll0 ds = true ∧ PyData.depthAll ds ≤ n ∧ PyData.eqvAll ds ds = true
  | [], _ => ⟨[], rfl, rfl, Nat.zero_le _, by simp [PyData.eqvAll]⟩
  | t :: ts, h => by
    obtain ⟨d, a1, a2, a3, a4⟩ := ih t (h t List.mem_cons_self)
    obtain ⟨ds, b1, b2, b3, b4⟩ := pure_all ih ts fun x hx => h x (List.mem_cons_of_mem _ hx)
    refine ⟨d :: ds, by rw [List.mapM_cons, a1, b1]; rfl, ?_, ?_, ?_⟩
    · rw [PyData.canLayAll0, a2, b2]; rfl
    · rw [PyData.depthAll]; exact Nat.max_le.mpr ⟨a3, b3⟩
    · rw [PyData.eqvAll, a4, b4]; rfl
theorem pure_dat {μ : Sto} : ∀ (n : Nat) (t : T), PureT n t → ∃ d, dat μ n t = some d ∧ d.canLay0 = true ∧ d.depth ≤ n ∧ PyData.eqv d d = true
  | 0, _, h => h.elim
  | n + 1, .int i, _ => ⟨.int i, rfl, rfl, Nat.zero_le _, by simp only [PyData.eqv]; exact (beqd i i).trans (decide_eq_true rfl)⟩
  | n + 1, .lst ts, h => by
    obtain ⟨ds, b1, b2, b3, b4⟩ := pure_all (pure_dat (μ := μ) n) ts h
    exact ⟨.list ds, by rw [Rh.dat, b1]; rfl, by simp only [PyData.canLay0]; exact b2, by simp only [PyData.depth]; exact Nat.succ_le_succ b3, by simp only [PyData.eqv]; exact b4⟩
  | n + 1, .tup ts, h => by
    obtain ⟨ds, b1, b2, b3, b4⟩ := pure_all (pure_dat (μ := μ) n) ts h
    exact ⟨.tuple ds, by rw [Rh.dat, b1]; rfl, by simp only [PyData.canLay0]; exact b2, by simp only [PyData.depth]; exact Nat.succ_le_succ b3, by simp only [PyData.eqv]; exact b4⟩
  | _ + 1, .non, h => h.elim
  | _ + 1, .bl _, h => h.elim
  | _ + 1, .str _, h => h.elim
  | _ + 1, .scr _, h => h.elim
  | _ + 1, .own _, h => h.elim
theorem eq_pure {t : T} {neg : Bool} {μ : Sto} {R : RP} (h : PureT 9 t) (hs : scalT t t = none) (hR : R (.bl (!neg)) μ) : tEq neg t t μ R := by
  obtain ⟨d, a1, a2, a3, a4⟩ := pure_dat (μ := μ) 9 t h
  have sh : SeqAt.shaped d = true := by
    unfold SeqAt.shaped
    rw [a2, Bool.true_and, decide_eq_true_eq]
    omega
  unfold tEq
  rw [hs]
  refine ⟨d, a1, sh, d, a1, sh, ?_⟩
  show R (.bl (if neg = true then !(PyData.eqv d d) else PyData.eqv d d)) μ
  rw [a4]
  cases neg <;> exact hR
theorem pure_ints {n : Nat} {xs : List Int} : PureT (n + 2) (.lst (xs.map T.int)) := fun t ht => by
  obtain ⟨x, _, rfl⟩ := List.mem_map.mp ht
  trivial
theorem pure_tm {n : Nat} {p : Int × Int} : PureT (n + 2) (tmT p) := fun t ht => by
  rcases List.mem_cons.mp ht with rfl | ht
  · trivial
  · cases List.mem_singleton.mp ht
    trivial
theorem pure_fr {n : Nat} {f : Frm} : PureT (n + 4) (frT f) := fun t ht => by
  rcases List.mem_cons.mp ht with rfl | ht
  · trivial
  · cases List.mem_singleton.mp ht
    intro t ht
    obtain ⟨p, _, rfl⟩ := List.mem_map.mp ht
    exact pure_tm
theorem pure_fs {n : Nat} {fs : List Frm} : PureT (n + 5) (fsT fs) := fun t ht => by
  obtain ⟨f, _, rfl⟩ := List.mem_map.mp ht
  exact pure_fr
theorem pure_row {n : Nat} {r : CRow} : PureT (n + 4) (rowT r) := fun t ht => by
  rcases List.mem_cons.mp ht with rfl | ht
  · trivial
  rcases List.mem_cons.mp ht with rfl | ht
  · trivial
  · cases List.mem_singleton.mp ht
    intro t ht
    obtain ⟨p, _, rfl⟩ := List.mem_map.mp ht
    exact pure_tm

theorem numL_head : ∀ (n : Nat), (TL.numL n)[0]? = some 48 → 1 < (TL.numL n).length → False := fun n => by
  induction n using Nat.strongRecOn with
  | _ n ih =>
    intro h1 h2
    by_cases hn : n < 10
    · rw [TL.numL_lt hn] at h2
      simp at h2
    · rw [TL.numL_step (by omega)] at h1
      by_cases hm : n / 10 < 10
      · rw [TL.numL_lt hm] at h1
        simp at h1
        omega
      · have hp : 1 < (TL.numL (n / 10)).length := by
          have e := TL.numL_step (n := n / 10) (by omega)
          have hne : 0 < (TL.numL (n / 10 / 10)).length := List.length_pos_iff.mpr (TL.numL_ne _)
          rw [e, List.length_append, List.length_singleton]
          omega
        rw [List.getElem?_append_left (by omega)] at h1
        exact ih (n / 10) (by omega) h1 hp
theorem num_ok {n : Nat} (h : n < 10 ^ 30) : rdNum (nmT (n : Int)) = some (n : Int) := by
  have e := nm_pos n
  have hl := TL.numL_len (k := 30) (by decide) h
  have hn : numOk (nmT (n : Int)) = true := by
    unfold numOk
    rw [sgs_len, e]
    have h1 : 1 ≤ (TL.numL n).length := by
      have := TL.numL_ne n
      cases q : TL.numL n with
      | nil => exact absurd q this
      | cons c r => simp
    rw [decide_eq_true h1, decide_eq_true hl]
    have h5 : (decide ((TL.numL n)[0]? = some 48) && decide (1 < (TL.numL n).length)) = false := by
      rw [← Bool.not_eq_true, Bool.and_eq_true, decide_eq_true_eq, decide_eq_true_eq]
      exact fun ⟨a, b⟩ => numL_head n a b
    simp only [h5, Bool.not_false, Bool.true_and]
    rw [List.all_eq_true]
    exact fun x hx => decide_eq_true (fig_mem.mpr (TL.numL_digits n x hx))
  rw [rdNum, if_pos hn, e, TL.numL_val]
theorem dash_at (z : Str) : Txt.startswith z "-" = decide ((sgs z)[0]? = some 45) := by
  have e1 : (Str.ofString "-").cps.toList = [45] := by decide
  have e2 : (Str.ofString "-").length = 1 := by decide
  unfold Txt.startswith
  rw [StrLaws.subAt_eq, e1, e2]
  show (decide (0 + 1 ≤ z.length) && ((sgs z).drop 0).take 1 == [45]) = _
  rw [sgs_len]
  cases sgs z with
  | nil => rfl
  | cons c r =>
    simp only [List.drop_zero, List.take_succ_cons, List.take_zero, List.getElem?_cons_zero, List.length_cons]
    by_cases h : c = 45
    · subst h
      simp
    · simp [h]
theorem nm_free {n : Int} {s : Nat} (h : s < 48 ∨ 57 < s) (h2 : s ≠ 45) : s ∉ sgs (nmT n) := by
  cases n with
  | ofNat m =>
    rw [show Int.ofNat m = (m : Int) from rfl, nm_pos]
    exact TL.numL_free h
  | negSucc m =>
    rw [nm_neg, List.mem_cons]
    rintro (e | e)
    · exact h2 e
    · exact TL.numL_free h e
theorem sg_ok {n : Int} (h : n.natAbs < 10 ^ 30) : rdSg (nmT n) = some n := by
  cases n with
  | ofNat m =>
    have e : ¬ Txt.startswith (nmT (m : Int)) "-" = true := by
      rw [dash_at, nm_pos, decide_eq_true_eq]
      intro e
      have := TL.numL_digits m 45 (List.mem_of_getElem? e)
      omega
    show rdSg (nmT (m : Int)) = some (m : Int)
    rw [rdSg, if_neg e]
    exact num_ok h
  | negSucc m =>
    have e : Txt.startswith (nmT (Int.negSucc m)) "-" = true := by
      rw [dash_at, nm_neg]
      rfl
    have e2 : cutS (nmT (Int.negSucc m)) (some 1) none = nmT ((m + 1 : Nat) : Int) := TL.ext_tl (by
      show sgs _ = sgs _
      rw [sgs_from (by decide) (by rw [sgs_len, nm_neg, List.length_cons]; simp), nm_neg, nm_pos]
      rfl)
    rw [rdSg, if_pos e, e2, num_ok (show m + 1 < 10 ^ 30 from h)]
    show (if ((m + 1 : Nat) : Int) = 0 then none else some (-((m + 1 : Nat) : Int))) = _
    rw [if_neg (by omega)]
    rfl
def tmW (p : Int × Int) : Str := nmT p.2 ++ "@" ++ nmT p.1
theorem term_ok {p : Int × Int} (h0 : 0 ≤ p.1) (h1 : p.1.natAbs < 10 ^ 30) (h2 : p.2.natAbs < 10 ^ 30) : rdTerm (tmW p) = some p := by
  have e : Txt.partition (tmW p) (Str.ofString "@") = (nmT p.2, Str.ofString "@", nmT p.1) := TL.partition_app (s := 64) (S := []) (by decide) (nm_free (by decide) (by decide))
  have hk : rdNum (nmT p.1) = some p.1 := by
    obtain ⟨n, hn⟩ := Int.eq_ofNat_of_zero_le h0
    rw [hn] at h1 ⊢
    exact num_ok h1
  unfold rdTerm
  rw [e]
  show (if (Str.ofString "@") = Str.ofString "" then none else _) = _
  rw [if_neg (by decide)]
  show ((rdSg (nmT p.2)).bind fun v => (rdNum (nmT p.1)).map fun k => (k, v)) = _
  rw [sg_ok h2, hk]
  rfl
structure FrmOk (f : Frm) : Prop where
  c : f.1.natAbs < 10 ^ 30
  t : ∀ p ∈ f.2, 0 ≤ p.1 ∧ p.1.natAbs < 10 ^ 30 ∧ p.2.natAbs < 10 ^ 30
theorem joinL_cons (S x : List Nat) : ∀ ys : List (List Nat), TL.joinL S (x :: ys) = x ++ (ys.map (S ++ ·)).flatten
  | [] => by simp [TL.joinL]
  | y :: r => by
    have e : TL.joinL S (x :: y :: r) = x ++ S ++ TL.joinL S (y :: r) := by simp [TL.joinL]
    rw [e, joinL_cons S y r, List.map_cons, List.flatten_cons, List.append_assoc, List.append_assoc]
theorem formT_join (f : Frm) : formT f = Txt.join " " (nmT f.1 :: f.2.map tmW) := TL.ext_tl (by
  rw [TL.join_eq, TL.tl_join, List.map_cons, joinL_cons]
  have key : ∀ (l : List (Int × Int)) (a : Str), TL.tl (l.foldl (fun a p => a ++ tmS p) a) = TL.tl a ++ (((l.map tmW).map TL.tl).map (TL.tl " " ++ ·)).flatten := fun l => by
    induction l with
    | nil => intro a; simp
    | cons p r ih =>
      intro a
      rw [List.foldl_cons, ih]
      simp only [List.map_cons, List.flatten_cons, TL.tl_append, tmS, tmW, List.append_assoc]
  exact key f.2 (nmT f.1))
theorem tmW_free {p : Int × Int} {s : Nat} (h : s < 48 ∨ 57 < s) (h2 : s ≠ 45) (h3 : s ≠ 64) : s ∉ sgs (tmW p) := by
  unfold tmW
  rw [sgs_app, sgs_app, List.mem_append, List.mem_append]
  rintro ((e | e) | e)
  · exact nm_free h h2 e
  · rw [show sgs (Str.ofString "@") = [64] from by decide] at e
    exact h3 (List.mem_singleton.mp e)
  · exact nm_free h h2 e
theorem form_words (f : Frm) : Txt.split (formT f) " " = nmT f.1 :: f.2.map tmW := by
  rw [formT_join]
  refine TL.split_join (s := 32) (S := []) (by decide) (by decide +kernel) (by simp) fun p hp => ?_
  rcases List.mem_cons.mp hp with rfl | hp
  · exact nm_free (by decide) (by decide)
  · obtain ⟨q, _, rfl⟩ := List.mem_map.mp hp
    exact tmW_free (by decide) (by decide) (by decide)
theorem mapM_ok {α β γ : Type} {f : β → Option γ} {g : α → β} {u : α → γ} : ∀ {l : List α}, (∀ x ∈ l, f (g x) = some (u x)) → (l.map g).mapM f = some (l.map u)
  | [], _ => rfl
  | x :: r, h => by
    rw [List.map_cons, List.mapM_cons, h x List.mem_cons_self, mapM_ok fun y hy => h y (List.mem_cons_of_mem _ hy)]
    rfl
theorem form_ok {f : Frm} (h : FrmOk f) : rdForm (formT f) = some f := by
  unfold rdForm
  rw [form_words]
  show ((rdSg (nmT f.1)).bind fun c => ((f.2.map tmW).mapM rdTerm).map fun t => (c, t)) = _
  rw [sg_ok h.c, mapM_ok (g := tmW) (u := id) fun p hp => term_ok (h.t p hp).1 (h.t p hp).2.1 (h.t p hp).2.2, List.map_id]
  rfl
theorem form_free {f : Frm} {s : Nat} (h : s < 48 ∨ 57 < s) (h2 : s ≠ 45) (h3 : s ≠ 64) (h4 : s ≠ 32) : s ∉ sgs (formT f) := by
  rw [formT_join]
  show s ∉ TL.tl _
  rw [TL.join_eq, TL.tl_join, List.map_cons, joinL_cons, List.mem_append]
  rintro (e | e)
  · exact nm_free h h2 e
  · obtain ⟨l, hl, e⟩ := List.mem_flatten.mp e
    rw [List.map_map, List.map_map] at hl
    obtain ⟨p, _, rfl⟩ := List.mem_map.mp hl
    rcases List.mem_append.mp e with e | e
    · rw [show TL.tl (Str.ofString " ") = [32] from by decide] at e
      exact h4 (List.mem_singleton.mp e)
    · exact tmW_free h h2 h3 e
theorem forms_ok {fs : List Frm} (hne : fs ≠ []) (h : ∀ f ∈ fs, FrmOk f) : (Txt.split (formsT fs) ", ").mapM rdForm = some fs ∧ formsT fs ≠ "-" := by
  have e : formsT fs = Txt.join ", " (fs.map formT) := if_neg hne
  have e2 : Txt.split (formsT fs) ", " = fs.map formT := by
    rw [e]
    refine TL.split_join (s := 44) (S := [32]) (by decide) (by decide +kernel) (by simpa using hne) fun p hp => ?_
    obtain ⟨q, _, rfl⟩ := List.mem_map.mp hp
    exact form_free (by decide) (by decide) (by decide) (by decide)
  have e3 : (Txt.split (formsT fs) ", ").mapM rdForm = some fs := by
    rw [e2, mapM_ok (g := formT) (u := id) fun f hf => form_ok (h f hf), List.map_id]
  refine ⟨e3, fun q => ?_⟩
  rw [q] at e3
  have : (Txt.split (Str.ofString "-") (Str.ofString ", ")).mapM rdForm = none := by decide +kernel
  rw [this] at e3
  cases e3
theorem name_free {n : Str} {s : Nat} (hn : isName n = true) (h : s < 97 ∨ 122 < s) : s ∉ sgs n := fun hm => by
  obtain ⟨_, _, q3⟩ := isName_iff.mp hn
  have := q3 s hm
  have e : abc.cps.toList = [97, 98, 99, 100, 101, 102, 103, 104, 105, 106, 107, 108, 109, 110, 111, 112, 113, 114, 115, 116, 117, 118, 119, 120, 121, 122] := by decide
  rw [e] at this
  simp only [List.mem_cons, List.not_mem_nil, or_false] at this
  omega
theorem work_words {n : Str} (hn : isName n = true) : Txt.split (workT n) " " = [Str.ofString "work", n] := by
  have e : workT n = Txt.join " " [Str.ofString "work", n] := TL.ext_tl (by
    rw [TL.join_eq, TL.tl_join]
    show TL.tl ((Str.ofString "work ") ++ n) = _
    rw [TL.tl_append, List.map_cons, joinL_cons]
    rw [show TL.tl (Str.ofString "work ") = TL.tl (Str.ofString "work") ++ TL.tl (Str.ofString " ") from by decide]
    simp [List.append_assoc])
  rw [e]
  refine TL.split_join (s := 32) (S := []) (by decide) (by decide +kernel) (by simp) fun p hp => ?_
  rcases List.mem_cons.mp hp with rfl | hp
  · decide
  · cases List.mem_singleton.mp hp
    exact name_free hn (by decide)
theorem work_ok {n : Str} (hn : isName n = true) : rdRow (workT n) = some (.w n) := by
  unfold rdRow
  rw [work_words hn]
  exact if_pos ⟨rfl, hn⟩
def lnR (ns : List Str) (l : Ln) : RowN := .b ((ns[l.g.toNat]?).getD "") ((ns[l.t.toNat]?).getD "") l.gi l.ta l.st
structure LnOk (ns : List Str) (l : Ln) : Prop where
  g0 : 0 ≤ l.g
  g1 : l.g < ns.length
  t0 : 0 ≤ l.t
  t1 : l.t < ns.length
  a : 1 ≤ l.gi ∧ l.gi.natAbs < 10 ^ 30
  b : 1 ≤ l.ta ∧ l.ta.natAbs < 10 ^ 30
  c : 0 ≤ l.st ∧ l.st.natAbs < 10 ^ 30
theorem line_ok {ns : List Str} {l : Ln} (hn : ∀ n ∈ ns, isName n = true) (h : LnOk ns l) : rdRow (lineT ns l) = some (lnR ns l) := by
  have a1 : isName ((ns[l.g.toNat]?).getD "") = true := hn _ (by
    have := h.g0
    have := h.g1
    rw [List.getElem?_eq_getElem (by omega)]
    exact List.getElem_mem _)
  have a2 : isName ((ns[l.t.toNat]?).getD "") = true := hn _ (by
    have := h.t0
    have := h.t1
    rw [List.getElem?_eq_getElem (by omega)]
    exact List.getElem_mem _)
  have e : lineT ns l = Txt.join " " [Str.ofString "belt", (ns[l.g.toNat]?).getD "", nmT l.gi, nmT l.ta, (ns[l.t.toNat]?).getD "", nmT l.st] := TL.ext_tl (by
    rw [TL.join_eq, TL.tl_join]
    unfold lineT
    simp only [TL.tl_append, List.map_cons, joinL_cons]
    rw [show TL.tl (Str.ofString "belt ") = TL.tl (Str.ofString "belt") ++ TL.tl (Str.ofString " ") from by decide]
    simp [List.append_assoc])
  have e2 : Txt.split (lineT ns l) " " = [Str.ofString "belt", (ns[l.g.toNat]?).getD "", nmT l.gi, nmT l.ta, (ns[l.t.toNat]?).getD "", nmT l.st] := by
    rw [e]
    refine TL.split_join (s := 32) (S := []) (by decide) (by decide +kernel) (by simp) fun p hp => ?_
    simp only [List.mem_cons, List.not_mem_nil, or_false] at hp
    rcases hp with rfl | rfl | rfl | rfl | rfl | rfl
    · decide
    · exact name_free a1 (by decide)
    · exact nm_free (by decide) (by decide)
    · exact nm_free (by decide) (by decide)
    · exact name_free a2 (by decide)
    · exact nm_free (by decide) (by decide)
  have nn : ∀ n : Int, 0 ≤ n → n.natAbs < 10 ^ 30 → rdNum (nmT n) = some n := fun n h0 h1 => by
    obtain ⟨m, rfl⟩ := Int.eq_ofNat_of_zero_le h0
    exact num_ok h1
  unfold rdRow
  rw [e2]
  refine (if_pos ⟨rfl, a1, a2⟩).trans ?_
  rw [nn _ (by have := h.a.1; omega) h.a.2, nn _ (by have := h.b.1; omega) h.b.2, nn _ h.c.1 h.c.2]
  rfl
/-- works first, then belts in their order -/
theorem hall_lines {ns : List Str} (hd : ns.Nodup) : ∀ (ls done : List Ln), (∀ l ∈ ls, LnOk ns l) → done.length + ls.length ≤ 60 → hallR (ls.map (lnR ns)) (ns, done) = .ok (ns, done ++ ls)
  | [], done, _, _ => by
    rw [List.append_nil]
    rfl
  | l :: r, done, h, hl => by
    have hq := h l List.mem_cons_self
    obtain ⟨g0, g1, t0, t1, qa, qb, qc⟩ := hq
    have at_ : ∀ i : Int, 0 ≤ i → i < ns.length → (ns[i.toNat]?).getD "" ∈ ns ∧ ((ns.idxOf ((ns[i.toNat]?).getD "") : Nat) : Int) = i := fun i h0 h1 => by
      have hi : i.toNat < ns.length := by omega
      rw [List.getElem?_eq_getElem hi]
      refine ⟨List.getElem_mem _, ?_⟩
      show ((ns.idxOf ns[i.toNat] : Nat) : Int) = i
      rw [hd.idxOf_getElem]
      omega
    obtain ⟨m1, i1⟩ := at_ l.g g0 g1
    obtain ⟨m2, i2⟩ := at_ l.t t0 t1
    have e : addR (ns, done) (lnR ns l) = .ok (ns, done ++ [l]) := by
      show (if _ ∉ ns then _ else if _ ∉ ns then _ else if l.gi < 1 ∨ l.ta < 1 ∨ l.st < 0 then _ else if 60 ≤ done.length then _ else _) = _
      rw [List.length_cons] at hl
      rw [if_neg (by simpa using m1), if_neg (by simpa using m2), if_neg (by omega), if_neg (by omega)]
      simp only [i1, i2]
    rw [List.map_cons]
    show (match addR (ns, done) (lnR ns l) with | .ok s' => hallR (r.map (lnR ns)) s' | .error e => .error e) = _
    rw [e]
    show hallR (r.map (lnR ns)) (ns, done ++ [l]) = _
    rw [hall_lines hd r (done ++ [l]) (fun x hx => h x (List.mem_cons_of_mem _ hx)) (by rw [List.length_append, List.length_cons, List.length_nil]; rw [List.length_cons] at hl; omega), List.append_assoc]
    rfl
/-! rows in any order: `none` is the next work, `some l` a belt -/
def itR (ns : List Str) : Nat → List (Option Ln) → List RowN
  | _, [] => []
  | k, none :: r => .w ((ns[k]?).getD "") :: itR ns (k + 1) r
  | k, some l :: r => lnR ns l :: itR ns k r
def itX (ns : List Str) : Nat → List (Option Ln) → List Str
  | _, [] => []
  | k, none :: r => workT ((ns[k]?).getD "") :: itX ns (k + 1) r
  | k, some l :: r => lineT ns l :: itX ns k r
def ItOk (ns : List Str) : Nat → List (Option Ln) → Prop
  | k, [] => k = ns.length
  | k, none :: r => k < ns.length ∧ ItOk ns (k + 1) r
  | k, some l :: r => LnOk (ns.take k) l ∧ ItOk ns k r
theorem LnOk.up {ns : List Str} {k : Nat} {l : Ln} (h : LnOk (ns.take k) l) : LnOk ns l := by
  obtain ⟨g0, g1, t0, t1, a, b, c⟩ := h
  rw [List.length_take] at g1 t1
  exact ⟨g0, by omega, t0, by omega, a, b, c⟩
theorem it_read {ns : List Str} (hn : ∀ n ∈ ns, isName n = true) : ∀ (its : List (Option Ln)) (k : Nat), ItOk ns k its → (itX ns k its).mapM rdRow = some (itR ns k its)
  | [], _, _ => rfl
  | none :: r, k, h => by
    obtain ⟨h1, h2⟩ := h
    show (workT ((ns[k]?).getD "") :: itX ns (k + 1) r).mapM rdRow = some (.w ((ns[k]?).getD "") :: itR ns (k + 1) r)
    rw [List.mapM_cons, it_read hn r (k + 1) h2, work_ok (hn _ (by rw [List.getElem?_eq_getElem h1]; exact List.getElem_mem _))]
    rfl
  | some l :: r, k, h => by
    obtain ⟨h1, h2⟩ := h
    show (lineT ns l :: itX ns k r).mapM rdRow = some (lnR ns l :: itR ns k r)
    rw [List.mapM_cons, it_read hn r k h2, line_ok hn h1.up]
    rfl
theorem it_hall {ns : List Str} (hd : ns.Nodup) (h30 : ns.length ≤ 30) : ∀ (its : List (Option Ln)) (k : Nat) (done : List Ln), ItOk ns k its → done.length + (its.filterMap id).length ≤ 60 → hallR (itR ns k its) (ns.take k, done) = .ok (ns, done ++ its.filterMap id)
  | [], k, done, h, _ => by
    have h : k = ns.length := h
    rw [h, List.take_length]
    show Except.ok (ns, done) = _
    rw [List.filterMap_nil, List.append_nil]
  | none :: r, k, done, h, hl => by
    obtain ⟨h1, h2⟩ := h
    have e : addR (ns.take k, done) (.w ((ns[k]?).getD "")) = .ok (ns.take (k + 1), done) := by
      have hx : (ns[k]?).getD "" = ns[k] := by
        rw [List.getElem?_eq_getElem h1]
        rfl
      rw [hx]
      show (if ns[k] ∈ ns.take k then _ else if 30 ≤ (ns.take k).length then _ else Except.ok (ns.take k ++ [ns[k]], done)) = _
      rw [if_neg ?_, if_neg (by rw [List.length_take]; omega), List.take_append_getElem]
      intro hm
      obtain ⟨i, hi, e⟩ := List.mem_iff_getElem.mp hm
      rw [List.length_take] at hi
      rw [List.getElem_take] at e
      exact List.pairwise_iff_getElem.mp hd i k (by omega) h1 (by omega) e
    show (match addR (ns.take k, done) (.w ((ns[k]?).getD "")) with | .ok s' => hallR (itR ns (k + 1) r) s' | .error e => .error e) = _
    rw [e]
    exact it_hall hd h30 r (k + 1) done h2 hl
  | some l :: r, k, done, h, hl => by
    obtain ⟨hq, h2⟩ := h
    have hup := hq.up
    obtain ⟨g0, g1, t0, t1, qa, qb, qc⟩ := hq
    have hdk : (ns.take k).Nodup := hd.sublist (List.take_sublist _ _)
    have at_ : ∀ i : Int, 0 ≤ i → i < (ns.take k).length → (ns[i.toNat]?).getD "" ∈ ns.take k ∧ (((ns.take k).idxOf ((ns[i.toNat]?).getD "") : Nat) : Int) = i := fun i h0 h1 => by
      have hi : i.toNat < (ns.take k).length := by omega
      have hi2 : i.toNat < ns.length := by
        rw [List.length_take] at hi
        omega
      have e : (ns[i.toNat]?).getD "" = (ns.take k)[i.toNat] := by
        rw [List.getElem?_eq_getElem hi2, List.getElem_take]
        rfl
      rw [e]
      refine ⟨List.getElem_mem _, ?_⟩
      rw [hdk.idxOf_getElem]
      omega
    obtain ⟨m1, i1⟩ := at_ l.g g0 g1
    obtain ⟨m2, i2⟩ := at_ l.t t0 t1
    rw [List.filterMap_cons] at hl
    have hl : done.length + (l :: r.filterMap id).length ≤ 60 := hl
    rw [List.length_cons] at hl
    have e : addR (ns.take k, done) (lnR ns l) = .ok (ns.take k, done ++ [l]) := by
      show (if _ ∉ ns.take k then _ else if _ ∉ ns.take k then _ else if l.gi < 1 ∨ l.ta < 1 ∨ l.st < 0 then _ else if 60 ≤ done.length then _ else _) = _
      rw [if_neg (by simpa using m1), if_neg (by simpa using m2), if_neg (by omega), if_neg (by omega)]
      simp only [i1, i2]
    show (match addR (ns.take k, done) (lnR ns l) with | .ok s' => hallR (itR ns k r) s' | .error e => .error e) = _
    rw [e]
    show hallR (itR ns k r) (ns.take k, done ++ [l]) = .ok (ns, done ++ l :: r.filterMap id)
    rw [it_hall hd h30 r k (done ++ [l]) h2 (by rw [List.length_append, List.length_singleton]; omega), List.append_assoc]
    rfl
theorem near_ok {b : Str} {i : Int} {x : Nat} (hb : isName b = true) (i0 : 0 ≤ i) (i1 : i < (b.length : Nat)) (hm : x ∈ abc.cps.toList) :
    isName (cutS b none (some i) ++ (⟨#[x]⟩ : Str) ++ cutS b (some (i + 1)) none) = true ∧ (cutS b none (some i)).length ≤ 8 ∧ (cutS b (some (i + 1)) none).length ≤ 8 := by
  obtain ⟨q1, q2, q3⟩ := isName_iff.mp hb
  rw [Array.length_toList] at q1 q2
  have q1 : 1 ≤ b.length := q1
  have q2 : b.length ≤ 8 := q2
  have e1 := sgs_to (s := b) i0 (by omega)
  have e2 := sgs_from (s := b) (i := i + 1) (by omega) (by omega)
  have e3 : (sgs b).length = b.length := Array.length_toList
  have e4 : (cutS b none (some i) ++ ⟨#[x]⟩ ++ cutS b (some (i + 1)) none : Str).cps.toList = (sgs b).take i.toNat ++ [x] ++ (sgs b).drop (i + 1).toNat := by
    show sgs _ = _
    rw [sgs_app, sgs_app, e1, e2, sgs_one]
  refine ⟨isName_iff.mpr ?_, Nat.le_trans (cutS_length _ _ _) q2, Nat.le_trans (cutS_length _ _ _) q2⟩
  rw [e4]
  refine ⟨by rw [List.length_append, List.length_append, List.length_singleton]; omega, by rw [List.length_append, List.length_append, List.length_singleton, List.length_take, List.length_drop]; omega, fun c hc => ?_⟩
  rcases List.mem_append.mp hc with hc | hc
  · rcases List.mem_append.mp hc with hc | hc
    · exact q3 c (List.mem_of_mem_take hc)
    · cases List.mem_singleton.mp hc
      exact hm
  · exact q3 c (List.mem_of_mem_drop hc)
/-- items from the works ahead of `i` to those ahead of `j` -/
def ItP (ns : List Str) : Nat → List (Option Ln) → Nat → Prop
  | i, [], j => i = j
  | i, none :: r, j => i < ns.length ∧ ItP ns (i + 1) r j
  | i, some l :: r, j => LnOk (ns.take i) l ∧ ItP ns i r j
theorem ItP.ok {ns : List Str} : ∀ {its : List (Option Ln)} {i : Nat}, ItP ns i its ns.length → ItOk ns i its
  | [], _, h => h
  | none :: _, _, h => ⟨h.1, h.2.ok⟩
  | some _ :: _, _, h => ⟨h.1, h.2.ok⟩
theorem ItP.app {ns : List Str} {j k : Nat} {b : List (Option Ln)} (hb : ItP ns j b k) : ∀ {a : List (Option Ln)} {i : Nat}, ItP ns i a j → ItP ns i (a ++ b) k
  | [], _, h => by
    cases (show _ = j from h)
    exact hb
  | none :: _, _, h => ⟨h.1, hb.app h.2⟩
  | some _ :: _, _, h => ⟨h.1, hb.app h.2⟩
theorem itX_app {ns : List Str} {j : Nat} (b : List (Option Ln)) : ∀ {a : List (Option Ln)} {i : Nat}, ItP ns i a j → itX ns i (a ++ b) = itX ns i a ++ itX ns j b
  | [], _, h => by
    cases (show _ = j from h)
    rfl
  | none :: _, i, h => congrArg (workT ((ns[i]?).getD "") :: ·) (itX_app b h.2)
  | some l :: _, _, h => congrArg (lineT ns l :: ·) (itX_app b h.2)
theorem itX_len {ns : List Str} {j : Nat} : ∀ {a : List (Option Ln)} {i : Nat}, ItP ns i a j → i + (itX ns i a).length = j + (a.filterMap id).length
  | [], _, h => by
    cases (show _ = j from h)
    rfl
  | none :: r, i, h => by
    have := itX_len h.2
    show i + ((itX ns (i + 1) r).length + 1) = j + (r.filterMap id).length
    omega
  | some l :: r, i, h => by
    have := itX_len h.2
    show i + ((itX ns i r).length + 1) = j + ((r.filterMap id).length + 1)
    omega
theorem ItP.le {ns : List Str} {j : Nat} : ∀ {a : List (Option Ln)} {i : Nat}, ItP ns i a j → i ≤ j
  | [], _, h => Nat.le_of_eq h
  | none :: _, _, h => Nat.le_of_succ_le h.2.le
  | some _ :: _, _, h => h.2.le
theorem ItP.lines {ns : List Str} {n : Nat} : ∀ (ls : List Ln), (∀ l ∈ ls, LnOk (ns.take n) l) → ItP ns n (ls.map some) n ∧ itX ns n (ls.map some) = ls.map (lineT ns) ∧ (ls.map some).filterMap id = ls
  | [], _ => ⟨rfl, rfl, rfl⟩
  | l :: r, h => by
    obtain ⟨h1, h2, h3⟩ := ItP.lines r fun x hx => h x (List.mem_cons_of_mem _ hx)
    exact ⟨⟨h l List.mem_cons_self, h1⟩, congrArg (lineT ns l :: ·) h2, congrArg (l :: ·) h3⟩
theorem LnOk.take {ns : List Str} {k : Nat} {l : Ln} (h : LnOk ns l) (h1 : l.g ≤ (k : Int)) (h2 : l.t ≤ (k : Int)) : LnOk (ns.take (k + 1)) l := by
  obtain ⟨g0, g1, t0, t1, a, b, c⟩ := h
  refine ⟨g0, ?_, t0, ?_, a, b, c⟩ <;> rw [List.length_take] <;> omega
theorem rem_step {α : Type} [DecidableEq α] (c : α → Bool) {xs : List α} {j : Nat} (hj : j < xs.length) (hc : c xs[j] = true) : ((xs.take j).filter (fun x => !c x) ++ xs.drop j).erase xs[j] = (xs.take (j + 1)).filter (fun x => !c x) ++ xs.drop (j + 1) := by
  rw [List.erase_append_right _ (by intro h; have := (List.mem_filter.mp h).2; rw [hc] at this; cases this), List.drop_eq_getElem_cons hj, List.erase_cons_head, List.take_add_one, List.getElem?_eq_getElem hj, List.filter_append]
  show _ = List.filter _ _ ++ List.filter _ [xs[j]] ++ _
  rw [List.filter_cons_of_neg (by rw [hc]; decide), List.filter_nil, List.append_nil]
theorem keep_step {α : Type} (c : α → Bool) {xs : List α} {j : Nat} (hj : j < xs.length) (hc : c xs[j] = false) : (xs.take j).filter (fun x => !c x) ++ xs.drop j = (xs.take (j + 1)).filter (fun x => !c x) ++ xs.drop (j + 1) := by
  rw [List.drop_eq_getElem_cons hj, List.take_add_one, List.getElem?_eq_getElem hj, List.filter_append]
  show _ = List.filter _ _ ++ List.filter _ [xs[j]] ++ _
  rw [List.filter_cons_of_pos (by rw [hc]; rfl), List.filter_nil, List.append_assoc]
  rfl
theorem map_erx {α β : Type} (f : α → β) : ∀ (xs : List α) (j : Nat), (xs.map f).eraseIdx j = (xs.eraseIdx j).map f
  | [], _ => rfl
  | _ :: _, 0 => rfl
  | x :: xs, j + 1 => congrArg (f x :: ·) (map_erx f xs j)
theorem lm_rem_ln {μ : Sto} {q : Addr} {xs : List Ln} {l : Ln} {R : RP} (e : μ q = some (.lst (xs.map Ln.tr))) (hm : l ∈ xs) (k : R .non (μ.set q (.lst ((xs.erase l).map Ln.tr)))) : tLm .remove (.own q) [l.tr] μ R := by
  show onM μ (.own q) fun ts p => ∃ (d : PyData) (ds : List PyData) (j : Nat) (z : PyData), Rh.dat μ 9 l.tr = some d ∧ SeqAt.shaped d = true ∧ ts.mapM (Rh.dat μ 8) = some ds ∧ SeqAt.shaped (.list ds) = true ∧ ds[j]? = some z ∧ PyData.eqv z d = true ∧ (∀ (m : Nat) (z' : PyData), m < j → ds[m]? = some z' → PyData.eqv z' d = false) ∧ R .non (μ.set p (.lst (ts.eraseIdx j)))
  have hx : Has μ l.tr l := Has.of (x := l) trivial
  have hl : Has μ (.own q) xs := Has.own e rfl fun _ _ => trivial
  have hi := List.idxOf_lt_length_iff.mpr hm
  refine ⟨q, _, rfl, e, Tt.dd l, xs.map Tt.dd, xs.idxOf l, Tt.dd (xs[xs.idxOf l]), hx.1, hx.shaped, dat_all xs (by decide), hl.shaped, ?_, ?_, ?_, ?_⟩
  · rw [List.getElem?_map, List.getElem?_eq_getElem hi]
    rfl
  · rw [Tt.eqv, List.getElem_idxOf]
    exact decide_eq_true rfl
  · intro m z' hm e
    rw [List.getElem?_map, List.getElem?_eq_getElem (by omega)] at e
    cases e
    rw [Tt.eqv]
    exact decide_eq_false fun e => by
      have := List.not_of_lt_findIdx (show m < xs.findIdx (· == l) from hm)
      rw [e] at this
      simp at this
  · have : (xs.map Ln.tr).eraseIdx (xs.idxOf l) = (xs.erase l).map Ln.tr := by
      rw [map_erx, List.erase_eq_eraseIdx]
      have e1 : xs.findIdx? (· == l) = some (xs.idxOf l) := List.findIdx?_eq_some_of_exists ⟨l, hm, by simp⟩
      rw [show xs.idxOf? l = some (xs.idxOf l) from e1]
    rw [this]
    exact k
theorem FrmOk.b {f : Frm} (h : FrmOk f) (hl : f.2.length ≤ 30) : FrmB f := by
  have k : (10 : Nat) ^ 30 ≤ 10 ^ 200 := by decide +kernel
  exact ⟨Nat.lt_of_lt_of_le h.c k, by omega, fun p hp => ⟨Nat.lt_of_lt_of_le (h.t p hp).2.1 k, Nat.lt_of_lt_of_le (h.t p hp).2.2 k⟩⟩
theorem FrmOk.len {f : Frm} (h : FrmOk f) (hl : f.2.length ≤ 30) : (formT f).length ≤ 2000 := by
  have d2 : (Str.ofString " ").length = 1 := by decide
  have d3 : (Str.ofString "@").length = 1 := by decide
  have key : ∀ (l : List (Int × Int)) (a : Str), (∀ p ∈ l, 0 ≤ p.1 ∧ p.1.natAbs < 10 ^ 30 ∧ p.2.natAbs < 10 ^ 30) → (l.foldl (fun a p => a ++ tmS p) a).length ≤ a.length + 64 * l.length := by
    intro l
    induction l with
    | nil => exact fun a _ => Nat.le_refl _
    | cons p r ih =>
      intro a h
      have h1 := ih (a ++ tmS p) fun q hq => h q (List.mem_cons_of_mem _ hq)
      obtain ⟨_, b1, b2⟩ := h p List.mem_cons_self
      have e1 := nm_len (k := 30) (by decide) b1
      have e2 := nm_len (k := 30) (by decide) b2
      rw [Str.length_append, tmS, Str.length_append, Str.length_append, Str.length_append, d2, d3] at h1
      rw [List.foldl_cons, List.length_cons]
      show (r.foldl (fun a p => a ++ tmS p) (a ++ tmS p)).length ≤ _
      have h1 : (r.foldl (fun a p => a ++ tmS p) (a ++ tmS p)).length ≤ _ := h1
      omega
  have h1 := key f.2 (nmT f.1) h.t
  have e0 := nm_len (k := 30) (by decide) h.c
  unfold formT
  omega
theorem sumN_le {α : Type} (g : α → Nat) (b : Nat) : ∀ xs : List α, (∀ x ∈ xs, g x ≤ b) → (xs.map g).sum ≤ b * xs.length
  | [], _ => Nat.zero_le _
  | x :: xs, h => by
    have h1 := sumN_le g b xs fun y hy => h y (List.mem_cons_of_mem _ hy)
    have h2 := h x List.mem_cons_self
    rw [List.map_cons, List.sum_cons, List.length_cons, Nat.mul_succ]
    omega
theorem eq_pnil {μ : Sto} {q : Addr} {ts : List T} {neg : Bool} {R : RP} (hq : μ q = some (.lst ts)) (hp : ∀ t ∈ ts, PureT 8 t) (hR : R (.bl (if neg = true then !ts.isEmpty else ts.isEmpty)) μ) : tEq neg (.own q) (.lst []) μ R := by
  have e0 : ∃ ds, dat μ 9 (.own q) = some (.list ds) ∧ SeqAt.shaped (.list ds) = true ∧ PyData.eqv (.list ds) (.list []) = ts.isEmpty := by
    obtain ⟨ds, b1, b2, b3, b4⟩ := pure_all (pure_dat (μ := μ) 8) ts hp
    refine ⟨ds, by rw [Rh.dat, hq]; dsimp only; rw [b1]; rfl, ?_, ?_⟩
    · unfold SeqAt.shaped
      have h1 : (PyData.list ds).canLay0 = true := by simp only [PyData.canLay0]; exact b2
      have h2 : (PyData.list ds).depth ≤ 9 := by simp only [PyData.depth]; exact Nat.succ_le_succ b3
      rw [h1, Bool.true_and, decide_eq_true_eq]
      omega
    · cases ts with
      | nil =>
        cases b1
        simp [PyData.eqv, PyData.eqvAll]
      | cons t ts =>
        cases ds with
        | nil =>
          rw [List.mapM_cons] at b1
          cases h1 : dat μ 8 t with
          | none => rw [h1] at b1; cases b1
          | some d =>
            rw [h1] at b1
            cases h2 : ts.mapM (dat μ 8) with
            | none => rw [h2] at b1; cases b1
            | some d2 => rw [h2] at b1; cases b1
        | cons d ds => simp [PyData.eqv, PyData.eqvAll]
  obtain ⟨ds, a1, a2, a3⟩ := e0
  unfold tEq
  show onD μ _ _
  refine ⟨_, a1, a2, .list [], rfl, by decide, ?_⟩
  show R (T.bl (if neg = true then !(PyData.list ds).eqv (PyData.list []) else (PyData.list ds).eqv (PyData.list []))) μ
  rw [a3]
  exact hR
theorem joinL_le (S : List Nat) : ∀ ps : List (List Nat), (TL.joinL S ps).length ≤ (ps.map (·.length)).sum + ps.length * S.length
  | [] => by simp [TL.joinL]
  | [x] => by simp [TL.joinL]
  | x :: y :: r => by
    have h := joinL_le S (y :: r)
    have e : TL.joinL S (x :: y :: r) = x ++ S ++ TL.joinL S (y :: r) := by simp [TL.joinL]
    rw [e, List.length_append, List.length_append, List.map_cons, List.sum_cons, List.length_cons, Nat.succ_mul]
    omega
theorem join_le (y : Str) (ys : List Str) : (Txt.join y ys).length ≤ (ys.map (·.length)).sum + ys.length * y.length := by
  rw [TL.len_tl, TL.join_eq, TL.tl_join]
  have h := joinL_le (TL.tl y) (ys.map TL.tl)
  have e : (ys.map TL.tl).map (·.length) = ys.map (·.length) := by
    rw [List.map_map]
    exact List.map_congr_left fun z _ => (TL.len_tl z).symm
  rw [e, List.length_map, ← TL.len_tl] at h
  exact h
theorem sOk_iff {s : Str} : sOk s ↔ ∀ c ∈ sgs s, c < 0x110000 := by
  unfold sOk
  rw [← Array.all_toList, List.all_eq_true]
  exact ⟨fun h c hc => of_decide_eq_true (h c hc), fun h c hc => decide_eq_true (h c hc)⟩
instance {s : Str} : Decidable (sOk s) := decidable_of_iff _ sOk_iff.symm
theorem sOk_app {a b : Str} (h1 : sOk a) (h2 : sOk b) : sOk (a ++ b) := sOk_iff.mpr fun c hc => by
  rw [sgs_app] at hc
  rcases List.mem_append.mp hc with h | h
  · exact sOk_iff.mp h1 c h
  · exact sOk_iff.mp h2 c h
theorem sOk_nm {n : Int} : sOk (nmT n) := sOk_iff.mpr fun c hc => Decidable.byContradiction fun h => nm_free (n := n) (s := c) (by omega) (by omega) hc
theorem name_at {ns : List Str} (h : ∀ n ∈ ns, isName n = true) (i : Nat) : sOk ((ns[i]?).getD "") := by
  by_cases hi : i < ns.length
  · rw [List.getElem?_eq_getElem hi]
    exact (isName_ok (h _ (List.getElem_mem hi))).1
  · rw [List.getElem?_eq_none (by omega)]
    decide
theorem line_sOk {ns : List Str} (h : ∀ n ∈ ns, isName n = true) (l : Ln) : sOk (lineT ns l) := by
  unfold lineT
  exact sOk_app (sOk_app (sOk_app (sOk_app (sOk_app (sOk_app (sOk_app (sOk_app (sOk_app (by decide) (name_at h _)) (by decide)) sOk_nm) (by decide)) sOk_nm) (by decide)) (name_at h _)) (by decide)) sOk_nm
theorem rows_sOk {ns : List Str} (h : ∀ n ∈ ns, isName n = true) (ls : List Ln) : ∀ z ∈ rowsOf ns ls, sOk z := fun z hz => by
  rcases List.mem_append.mp hz with hz | hz
  · obtain ⟨n, hn, rfl⟩ := List.mem_map.mp hz
    exact sOk_app (by decide) (isName_ok (h n hn)).1
  · obtain ⟨l, _, rfl⟩ := List.mem_map.mp hz
    exact line_sOk h l
theorem cut5 {a b : Str} (h : a.length = 5) : cutS (a ++ b) none (some 5) = a := by
  refine TL.ext_tl ?_
  have e := sgs_to (s := a ++ b) (i := 5) (by decide) (by rw [Str.length_append, h]; show 5 ≤ _; omega)
  have e2 : (sgs a).length = 5 := by rw [← sgs_len, h]
  show sgs (cutS (a ++ b) none (some 5)) = sgs a
  rw [e, sgs_app, List.take_append_of_le_length (by rw [e2]; decide), List.take_of_length_le (by rw [e2]; decide)]
def isBelt (z : Str) : Bool := decide (cutS z none (some 5) = "belt ")
theorem belt_line {ns : List Str} {l : Ln} : isBelt (lineT ns l) = true := by
  unfold isBelt lineT
  have e : ∀ a b c d e f g h i : Str, ("belt " : Str) ++ a ++ b ++ c ++ d ++ e ++ f ++ g ++ h ++ i = "belt " ++ (a ++ b ++ c ++ d ++ e ++ f ++ g ++ h ++ i) := fun a b c d e f g h i => TL.ext_tl (by
    simp only [TL.tl_append, List.append_assoc])
  rw [e, cut5 (by decide)]
  decide
theorem belt_work {n : Str} : isBelt (workT n) = false := by
  unfold isBelt workT
  rw [cut5 (by decide)]
  decide
theorem it_belts {ns : List Str} : ∀ (its : List (Option Ln)) (k : Nat), (itX ns k its).filter isBelt = (its.filterMap id).map (lineT ns)
  | [], _ => rfl
  | none :: r, k => by
    show (workT ((ns[k]?).getD "") :: itX ns (k + 1) r).filter isBelt = (r.filterMap id).map (lineT ns)
    rw [List.filter_cons_of_neg (by rw [belt_work]; decide), it_belts r]
  | some l :: r, k => by
    show (lineT ns l :: itX ns k r).filter isBelt = lineT ns l :: (r.filterMap id).map (lineT ns)
    rw [List.filter_cons_of_pos belt_line, it_belts r]
def lnI (l : Ln) : List Int := [l.g, l.t, l.gi, l.ta, l.st]
theorem code_inj {B : Int} : ∀ {a b : List Int}, a.length = b.length → TS.Bd B a → TS.Bd B b → TS.code B a ≤ TS.code B b → TS.code B b ≤ TS.code B a → a = b
  | [], [], _, _, _, _, _ => rfl
  | [], _ :: _, h, _, _, _, _ => nomatch h
  | _ :: _, [], h, _, _, _, _ => nomatch h
  | x :: a, y :: b, h, h1, h2, h3, h4 => by
    have hl : a.length = b.length := Nat.succ.inj h
    rcases Int.lt_trichotomy x y with e | e | e
    · have := TS.code_lt hl h1.tail h2.tail e
      omega
    · subst e
      have c1 := fun z => (TS.code_same (B := B) (d := x) hl).mpr z
      have c2 := fun z => (TS.code_same (B := B) (d := x) hl.symm).mpr z
      rw [code_inj hl h1.tail h2.tail (by
        by_cases z : TS.code B b < TS.code B a
        · have := c2 z
          omega
        · omega) (by
        by_cases z : TS.code B a < TS.code B b
        · have := c1 z
          omega
        · omega)]
    · have := TS.code_lt hl.symm h2.tail h1.tail e
      omega
theorem sorted_same {B : Int} {d : Nat} {xs ys m1 m2 : List (List Int)} (hp : xs.Perm ys) (hx : ∀ a ∈ xs, a.length = d ∧ TS.Bd B a) (p1 : m1.Perm xs) (p2 : m2.Perm ys) (w1 : m1.Pairwise (fun a b => TS.code B a ≤ TS.code B b)) (w2 : m2.Pairwise (fun a b => TS.code B a ≤ TS.code B b)) : m1 = m2 :=
  List.Perm.eq_of_pairwise (fun a b ha hb h1 h2 => by
    have ga := hx a (p1.mem_iff.mp ha)
    have gb := hx b (hp.mem_iff.mpr (p2.mem_iff.mp hb))
    exact code_inj (ga.1.trans gb.1.symm) ga.2 gb.2 h1 h2) w1 w2 (p1.trans (hp.trans p2.symm))
theorem lnI_bd {ns : List Str} (hn : ns.length ≤ 30) {l : Ln} (h : LnOk ns l) : (lnI l).length = 5 ∧ TS.Bd (10 ^ 30) (lnI l) := by
  obtain ⟨g0, g1, t0, t1, ⟨a1, a2⟩, ⟨b1, b2⟩, ⟨c1, c2⟩⟩ := h
  refine ⟨rfl, fun m hm => ?_⟩
  simp only [lnI, List.mem_cons, List.not_mem_nil, or_false] at hm
  rcases hm with rfl | rfl | rfl | rfl | rfl <;> omega
theorem not_take {α : Type} {xs : List α} (h : xs.Nodup) {k : Nat} (hk : k < xs.length) : xs[k] ∉ xs.take k := fun hm => by
  obtain ⟨i, hi, e⟩ := List.mem_iff_getElem.mp hm
  rw [List.length_take] at hi
  rw [List.getElem_take] at e
  exact List.pairwise_iff_getElem.mp h i k (by omega) hk (by omega) e
theorem line_len {ns : List Str} {l : Ln} (hn : ∀ n ∈ ns, isName n = true) (h : LnOk ns l) : (lineT ns l).length ≤ 200 := by
  obtain ⟨g0, g1, t0, t1, ⟨_, a2⟩, ⟨_, b2⟩, ⟨_, c2⟩⟩ := h
  have e1 := nm_len (k := 30) (by decide) a2
  have e2 := nm_len (k := 30) (by decide) b2
  have e3 := nm_len (k := 30) (by decide) c2
  have d1 : (Str.ofString "belt ").length = 5 := by decide
  have d2 : (Str.ofString " ").length = 1 := by decide
  have w : ∀ i : Nat, ((ns[i]?).getD "").length ≤ 8 := fun i => by
    by_cases hi : i < ns.length
    · rw [List.getElem?_eq_getElem hi]
      exact (isName_ok (hn _ (List.getElem_mem hi))).2
    · rw [List.getElem?_eq_none (by omega)]
      decide
  have w1 := w l.g.toNat
  have w2 := w l.t.toNat
  unfold lineT
  simp only [Str.length_append, d1, d2]
  omega
theorem it_len {ns : List Str} (hn : ∀ n ∈ ns, isName n = true) : ∀ (its : List (Option Ln)) (k : Nat), ItOk ns k its → ∀ z ∈ itX ns k its, z.length ≤ 200
  | [], _, _, z, h => nomatch h
  | none :: r, k, h, z, hz => by
    rcases List.mem_cons.mp hz with rfl | hz
    · obtain ⟨h1, _⟩ := h
      have d1 : (Str.ofString "work ").length = 5 := by decide
      have := (isName_ok (hn _ (List.getElem_mem h1))).2
      rw [workT, Str.length_append, d1, List.getElem?_eq_getElem h1]
      show 5 + (ns[k]).length ≤ 200
      omega
    · exact it_len hn r (k + 1) h.2 z hz
  | some l :: r, k, h, z, hz => by
    rcases List.mem_cons.mp hz with rfl | hz
    · exact line_len hn h.1.up
    · exact it_len hn r k h.2 z hz
theorem it_works {ns : List Str} : ∀ (m i : Nat), i + m = ns.length → ItP ns i (List.replicate m none) ns.length ∧ itX ns i (List.replicate m none) = (ns.drop i).map workT
  | 0, i, h => ⟨h, by rw [List.drop_of_length_le (show ns.length ≤ i from Nat.le_of_eq h.symm)]; rfl⟩
  | m + 1, i, h => by
    obtain ⟨h1, h2⟩ := it_works (ns := ns) m (i + 1) (by omega)
    have hi : i < ns.length := by omega
    refine ⟨⟨hi, h1⟩, ?_⟩
    rw [List.drop_eq_getElem_cons hi, List.map_cons, ← h2, List.replicate_succ]
    show workT ((ns[i]?).getD "") :: _ = _
    rw [List.getElem?_eq_getElem hi]
    rfl
theorem rows_it {ns : List Str} {ls : List Ln} (hok : ∀ l ∈ ls, LnOk ns l) : ∃ its, ItOk ns 0 its ∧ its.filterMap id = ls ∧ itX ns 0 its = rowsOf ns ls := by
  obtain ⟨h1, h2⟩ := it_works (ns := ns) ns.length 0 (by omega)
  obtain ⟨g1, g2, g3⟩ := ItP.lines (ns := ns) (n := ns.length) ls (by rw [List.take_length]; exact hok)
  refine ⟨List.replicate ns.length none ++ ls.map some, (g1.app h1).ok, ?_, ?_⟩
  · rw [List.filterMap_append, g3]
    have : ∀ m : Nat, (List.replicate m (none : Option Ln)).filterMap id = [] := fun m => by
      induction m with
      | zero => rfl
      | succ m ih => rw [List.replicate_succ]; exact ih
    rw [this]
    rfl
  · rw [itX_app _ h1, g2, h2]
    rfl
theorem ItOk.p {ns : List Str} : ∀ {its : List (Option Ln)} {k : Nat}, ItOk ns k its → ItP ns k its ns.length
  | [], _, h => h
  | none :: _, _, h => ⟨h.1, h.2.p⟩
  | some _ :: _, _, h => ⟨h.1, h.2.p⟩
theorem it_all {ns : List Str} (hn : NOk ns) {its : List (Option Ln)} (h : ItOk ns 0 its) (hl : (its.filterMap id).length ≤ 40) : (itX ns 0 its).length ≤ 70 ∧ (∀ z ∈ itX ns 0 its, z.length ≤ 100000) ∧ (itX ns 0 its).mapM rdRow = some (itR ns 0 its) ∧ hallR (itR ns 0 its) ([], []) = .ok (ns, its.filterMap id) := by
  have h1 := itX_len h.p
  have h2 := hn.le
  refine ⟨by omega, fun z hz => Nat.le_trans (it_len hn.nm its 0 h z hz) (by decide), it_read hn.nm its 0 h, ?_⟩
  exact it_hall hn.nd hn.le its 0 [] h (by show 0 + _ ≤ 60; omega)
abbrev n__law_cell : Nat := 1000
def i__law_cell : FnI := ⟨"_law_cell", none, 1, 2, []⟩
def N__law_cell : List Str := ["_law_script", "_law_k"]
def c__law_cell : List Sx := [.ife (.cmp .Lt (.var 1) (.bif .len false [(.var 0)])) [.ret (.idx (.var 0) (.var 1))] [],
 .ret (.cint 0)]
abbrev n__law_mix : Nat := 1001
def i__law_mix : FnI := ⟨"_law_mix", none, 1, 2, []⟩
def N__law_mix : List Str := ["_law_cell_here", "_law_way", "_law_first"]
def c__law_mix : List Sx := [.asg (.nm 2) (.bin .Mod false (.bin .Add false (.bin .Mult false (.var 0) (.cint 48271)) (.bin .Mult false (.var 1) (.cint 7919))) (.cint 2147483647)),
 .ret (.bin .Mod false (.bin .Mult false (.var 2) (.bin .Add false (.cint 16807) (.bin .Mult false (.cint 2) (.var 1)))) (.cint 1000003))]
abbrev n__law_form : Nat := 1002
def i__law_form : FnI := ⟨"_law_form", none, 2, 3, []⟩
def N__law_form : List Str := ["_law_cell_here", "_law_way", "_law_many", "_law_terms", "_law_draw", "_law_k", "_law_part", "_law_factor", "_law_slot", "_law_constant"]
def c__law_form : List Sx := [.asg (.nm 3) (.lst true []),
 .asg (.nm 4) (.call n__law_mix 0 [(.var 0), (.var 1)]),
 .for_ (.nm 5) .rng1 [(.var 2)] [.asg (.nm 6) (.call n__law_mix 0 [(.var 0), (.bin .Add false (.bin .Add false (.var 1) (.cint 1)) (.var 5))]),
 .asg (.nm 7) (.bin .Sub false (.bin .Mod false (.bin .FloorDiv false (.var 6) (.cint 3)) (.cint 200)) (.cint 100)),
 .asg (.nm 8) (.bin .Mod false (.bin .FloorDiv false (.var 6) (.cint 600)) (.cint 40)),
 .ife (.cmp .Eq (.bin .Mod false (.var 6) (.cint 3)) (.cint 1)) [.asg (.nm 7) (.bin .Add false (.bin .Sub false (.bin .Mod false (.bin .FloorDiv false (.var 0) (.bin .Add false (.var 5) (.cint 1))) (.bin .Sub false (.bin .Mult false (.cint 2) (.cpow 10 30 1000000000000000000000000000000)) (.cint 1))) (.cpow 10 30 1000000000000000000000000000000)) (.cint 1))] [],
 .ife (.cmp .Eq (.bin .Mod false (.var 6) (.cint 3)) (.cint 2)) [.asg (.nm 8) (.bin .Mod false (.bin .FloorDiv false (.var 0) (.bin .Add false (.var 5) (.cint 2))) (.cpow 10 30 1000000000000000000000000000000))] [],
 .expr (.lm .append (.var 3) [(.tup [(.var 8), (.var 7)])])],
 .asg (.nm 9) (.bin .Sub false (.bin .Mod false (.bin .FloorDiv false (.var 4) (.cint 2)) (.cint 41)) (.cint 20)),
 .ife (.cmp .Eq (.bin .Mod false (.var 4) (.cint 2)) (.cint 1)) [.asg (.nm 9) (.bin .Add false (.bin .Sub false (.bin .Mod false (.var 0) (.bin .Sub false (.bin .Mult false (.cint 2) (.cpow 10 30 1000000000000000000000000000000)) (.cint 1))) (.cpow 10 30 1000000000000000000000000000000)) (.cint 1))] [],
 .ret (.tup [(.var 9), (.bif .tuple false [(.var 3)])])]
abbrev n__law_form_text : Nat := 1003
def i__law_form_text : FnI := ⟨"_law_form_text", none, 1, 1, []⟩
def N__law_form_text : List Str := ["_law_form_here", "_law_text", "_law_slot", "_law_factor"]
def c__law_form_text : List Sx := [.asg (.nm 1) (.bif .str false [(.idx (.var 0) (.cint 0))]),
 .for_ (.tup [(.nm 2), (.nm 3)]) .tupl [(.idx (.var 0) (.cint 1))] [.asg (.nm 1) (.bin .Add false (.bin .Add false (.bin .Add false (.bin .Add false (.var 1) (.cstr " ")) (.bif .str false [(.var 3)])) (.cstr "@")) (.bif .str false [(.var 2)]))],
 .ret (.var 1)]
abbrev n__law_whole : Nat := 1004
def i__law_whole : FnI := ⟨"_law_whole", none, 1, 1, []⟩
def N__law_whole : List Str := ["_law_found"]
def c__law_whole : List Sx := [.ret (.andor true [(.isi ["int"] (.var 0)), (.not (.isi ["bool"] (.var 0)))])]
abbrev n__law_is_form : Nat := 1005
def i__law_is_form : FnI := ⟨"_law_is_form", none, 2, 2, []⟩
def N__law_is_form : List Str := ["_law_found", "_law_due", "_law_term"]
def c__law_is_form : List Sx := [.ife (.andor false [(.not (.isi ["tuple"] (.var 0))), (.cmp .NotEq (.bif .len false [(.var 0)]) (.cint 2)), (.not (.call n__law_whole 0 [(.idx (.var 0) (.cint 0))])), (.not (.isi ["tuple"] (.idx (.var 0) (.cint 1))))]) [.ret (.cbl false)] [],
 .for_ (.nm 2) .tupl [(.idx (.var 0) (.cint 1))] [.ife (.andor false [(.not (.isi ["tuple"] (.var 2))), (.cmp .NotEq (.bif .len false [(.var 2)]) (.cint 2)), (.not (.call n__law_whole 0 [(.idx (.var 2) (.cint 0))])), (.not (.call n__law_whole 0 [(.idx (.var 2) (.cint 1))]))]) [.ret (.cbl false)] []],
 .ret (.cmp .Eq (.var 0) (.var 1))]
abbrev n__law_forms_good : Nat := 1006
def i__law_forms_good : FnI := ⟨"_law_forms_good", none, 5, 1, []⟩
def N__law_forms_good : List Str := ["_law_script", "_law_forms", "_law_k", "_law_cell_here", "_law_many", "_law_texts", "_law_form_here", "_law_text", "_law_found"]
def c__law_forms_good : List Sx := [.asg (.nm 1) (.lst true []),
 .for_ (.nm 2) .rng1 [(.bin .Mod false (.call n__law_mix 0 [(.call n__law_cell 0 [(.var 0), (.cint 0)]), (.cint 7)]) (.cint 7))] [.asg (.nm 3) (.call n__law_cell 0 [(.var 0), (.bin .Add false (.cint 3) (.var 2))]),
 .asg (.nm 4) (.bin .Mod false (.call n__law_mix 0 [(.var 3), (.cint 8)]) (.cint 5)),
 .ife (.cmp .Eq (.bin .Mod false (.bin .FloorDiv false (.call n__law_mix 0 [(.var 3), (.cint 8)]) (.cint 5)) (.cint 8)) (.cint 1)) [.asg (.nm 4) (.cint 30)] [],
 .expr (.lm .append (.var 1) [(.call n__law_form 0 [(.var 3), (.bin .Add false (.cint 9) (.var 2)), (.var 4)])])],
 .asg (.nm 5) (.comp true [6] (.nm 6) .val [(.var 1)] (.cbl true) (.call n__law_form_text 0 [(.var 6)])),
 .while_ (.cmp .Gt (.bif .len false [(.lm .join (.cstr ", ") [(.var 5)])]) (.cint 3000)) [.expr (.lm .pop (.var 1) []),
 .expr (.lm .pop (.var 5) [])],
 .for_ (.tup [(.nm 6), (.nm 7)]) .zip [(.var 1), (.var 5)] [.ife (.andor false [(.cmp .NotEq (.call n_show_form 0 [(.var 6)]) (.var 7)), (.not (.call n__law_is_form 0 [(.call n_read_form 0 [(.var 7)]), (.var 6)]))]) [.ret (.cbl false)] []],
 .asg (.nm 7) (.lm .join (.cstr ", ") [(.var 5)]),
 .ife (.cmp .Eq (.var 1) (.lst false [])) [.asg (.nm 7) (.cstr "-")] [],
 .asg (.nm 8) (.call n_read_forms 0 [(.var 7)]),
 .ife (.andor false [(.cmp .NotEq (.call n_show_forms 0 [(.bif .tuple false [(.var 1)])]) (.var 7)), (.not (.isi ["tuple"] (.var 8))), (.cmp .NotEq (.bif .len false [(.var 8)]) (.bif .len false [(.var 1)]))]) [.ret (.cbl false)] [],
 .for_ (.nm 2) .rng1 [(.bif .len false [(.var 1)])] [.ife (.not (.call n__law_is_form 0 [(.idx (.var 8) (.var 2)), (.idx (.var 1) (.var 2))])) [.ret (.cbl false)] []],
 .ret (.cbl true)]
abbrev n__law_line_text : Nat := 1007
def i__law_line_text : FnI := ⟨"_law_line_text", none, 1, 2, []⟩
def N__law_line_text : List Str := ["_law_names_here", "_law_line", "_law_head"]
def c__law_line_text : List Sx := [.asg (.nm 2) (.bin .Add false (.bin .Add false (.bin .Add false (.cstr "belt ") (.idx (.var 0) (.idx (.var 1) (.cint 0)))) (.cstr " ")) (.bif .str false [(.idx (.var 1) (.cint 2))])),
 .ret (.bin .Add false (.bin .Add false (.bin .Add false (.bin .Add false (.bin .Add false (.bin .Add false (.var 2) (.cstr " ")) (.bif .str false [(.idx (.var 1) (.cint 3))])) (.cstr " ")) (.idx (.var 0) (.idx (.var 1) (.cint 1)))) (.cstr " ")) (.bif .str false [(.idx (.var 1) (.cint 4))]))]
abbrev n__law_lines : Nat := 1008
def i__law_lines : FnI := ⟨"_law_lines", none, 2, 2, []⟩
def N__law_lines : List Str := ["_law_script", "_law_many", "_law_lines_here", "_law_size", "_law_k", "_law_cell_here", "_law_draw", "_law_pair", "_law_at"]
def c__law_lines : List Sx := [.asg (.nm 2) (.lst true []),
 .asg (.nm 3) (.bin .Mod false (.call n__law_mix 0 [(.call n__law_cell 0 [(.var 0), (.cint 0)]), (.cint 5)]) (.cint 13)),
 .ife (.cmp .Eq (.bin .Mod false (.bin .FloorDiv false (.call n__law_mix 0 [(.call n__law_cell 0 [(.var 0), (.cint 0)]), (.cint 5)]) (.cint 13)) (.cint 8)) (.cint 1)) [.asg (.nm 3) (.cint 40)] [],
 .for_ (.nm 4) .rng1 [(.var 3)] [.asg (.nm 5) (.call n__law_cell 0 [(.var 0), (.bin .Add false (.cint 12) (.var 4))]),
 .asg (.nm 6) (.call n__law_mix 0 [(.var 5), (.bin .Add false (.cint 6) (.var 4))]),
 .asg (.nm 7) (.lst false [(.bin .Add false (.cint 1) (.bin .Mod false (.var 5) (.bin .Sub false (.cpow 10 30 1000000000000000000000000000000) (.cint 1)))), (.bin .Add false (.cint 1) (.bin .Mod false (.bin .FloorDiv false (.var 6) (.cint 900)) (.cint 12)))]),
 .asg (.nm 8) (.bin .Mod false (.bin .FloorDiv false (.var 6) (.cint 10800)) (.cint 2)),
 .expr (.lm .append (.var 2) [(.tup [(.bin .Mod false (.var 6) (.var 1)), (.bin .Mod false (.bin .FloorDiv false (.var 6) (.cint 30)) (.var 1)), (.idx (.var 7) (.var 8)), (.idx (.var 7) (.bin .Sub false (.cint 1) (.var 8))), (.bin .Mod false (.bin .FloorDiv false (.var 5) (.cint 3)) (.cpow 10 30 1000000000000000000000000000000))])])],
 .ret (.var 2)]
abbrev n__law_mixed_rows : Nat := 1009
def i__law_mixed_rows : FnI := ⟨"_law_mixed_rows", none, 2, 3, []⟩
def N__law_mixed_rows : List Str := ["_law_names_here", "_law_lines_here", "_law_turn", "_law_rows", "_law_left", "_law_k", "_law_line"]
def c__law_mixed_rows : List Sx := [.asg (.nm 3) (.lst true []),
 .asg (.nm 4) (.bif .list true [(.var 1)]),
 .for_ (.nm 5) .rng1 [(.bif .len false [(.var 0)])] [.expr (.lm .append (.var 3) [(.bin .Add false (.cstr "work ") (.idx (.var 0) (.var 5)))]),
 .for_ (.nm 6) .val [(.bif .list false [(.var 4)])] [.ife (.andor true [(.cmp .LtE (.idx (.var 6) (.cint 0)) (.var 5)), (.cmp .LtE (.idx (.var 6) (.cint 1)) (.var 5)), (.cmp .Gt (.bin .Mod false (.bin .Add false (.var 5) (.var 2)) (.cint 3)) (.cint 0))]) [.expr (.lm .append (.var 3) [(.call n__law_line_text 0 [(.var 0), (.var 6)])]),
 .expr (.lm .remove (.var 4) [(.var 6)])] []]],
 .ret (.bin .Add false (.var 3) (.comp false [6] (.nm 6) .val [(.var 4)] (.cbl true) (.call n__law_line_text 0 [(.var 0), (.var 6)])))]
abbrev n__law_name : Nat := 1010
def i__law_name : FnI := ⟨"_law_name", none, 2, 2, []⟩
def N__law_name : List Str := ["_law_cell_here", "_law_way", "_law_letters", "_law_size", "_law_k"]
def c__law_name : List Sx := [.asg (.nm 2) (.cstr "abcdefghijklmnopqrstuvwxyz"),
 .asg (.nm 3) (.bin .Add false (.cint 1) (.bin .Mod false (.call n__law_mix 0 [(.var 0), (.bin .Add false (.var 1) (.cint 3))]) (.cint 8))),
 .ret (.lm .join (.cstr "") [(.comp false [4] (.nm 4) .rng1 [(.var 3)] (.cbl true) (.idx (.var 2) (.bin .Mod false (.call n__law_mix 0 [(.var 0), (.bin .Add false (.var 1) (.bin .Mult false (.cint 5) (.var 4)))]) (.cint 26))))])]
abbrev n__law_names : Nat := 1011
def i__law_names : FnI := ⟨"_law_names", none, 3, 1, []⟩
def N__law_names : List Str := ["_law_script", "_law_letters", "_law_names_here", "_law_k", "_law_cell_here", "_law_draw", "_law_name_here", "_law_first", "_law_at"]
def c__law_names : List Sx := [.asg (.nm 1) (.cstr "abcdefghijklmnopqrstuvwxyz"),
 .asg (.nm 2) (.lst true [(.call n__law_name 0 [(.call n__law_cell 0 [(.var 0), (.cint 1)]), (.cint 1)])]),
 .for_ (.nm 3) .rng1 [(.bin .Mod false (.call n__law_mix 0 [(.call n__law_cell 0 [(.var 0), (.cint 0)]), (.cint 2)]) (.cint 31))] [.asg (.nm 4) (.call n__law_cell 0 [(.var 0), (.bin .Add false (.cint 2) (.var 3))]),
 .asg (.nm 5) (.call n__law_mix 0 [(.var 4), (.bin .Add false (.cint 3) (.var 3))]),
 .asg (.nm 6) (.call n__law_name 0 [(.var 4), (.bin .Add false (.cint 4) (.var 3))]),
 .ife (.cmp .Gt (.bin .Mod false (.var 5) (.cint 3)) (.cint 0)) [.asg (.nm 7) (.idx (.var 2) (.cint 0)),
 .asg (.nm 8) (.bin .Mod false (.bin .FloorDiv false (.var 5) (.cint 3)) (.bif .len false [(.var 7)])),
 .asg (.nm 6) (.bin .Add false (.bin .Add false (.slice false (.var 7) .cnon (.var 8)) (.idx (.var 1) (.bin .Mod false (.bin .FloorDiv false (.var 5) (.cint 24)) (.cint 26)))) (.slice false (.var 7) (.bin .Add false (.var 8) (.cint 1)) .cnon))] [],
 .ife (.andor true [(.cmp .NotIn (.var 6) (.var 2)), (.cmp .Lt (.bif .len false [(.var 2)]) (.cint 30))]) [.expr (.lm .append (.var 2) [(.var 6)])] []],
 .ret (.var 2)]
abbrev n_law : Nat := 1012
def i_law : FnI := ⟨"law", none, 6, 1, []⟩
def N_law : List Str := ["_law_script", "_law_names_here", "_law_lines_here", "_law_hall", "_law_name_here", "_law_line", "_law_rows", "_law_told", "_law_again", "_law_mixed", "_law_texts", "_law_row"]
def c_law : List Sx := [.asg (.nm 1) (.call n__law_names 0 [(.var 0)]),
 .ife (.cmp .Eq (.bin .Mod false (.call n__law_cell 0 [(.var 0), (.cint 0)]) (.cint 9)) (.cint 4)) [.asg (.nm 1) (.lst false [])] [],
 .asg (.nm 2) (.lst false []),
 .ife (.cmp .Gt (.bif .len false [(.var 1)]) (.cint 0)) [.asg (.nm 2) (.call n__law_lines 0 [(.var 0), (.bif .len false [(.var 1)])])] [],
 .asg (.nm 3) (.make 3 []),
 .for_ (.nm 4) .val [(.var 1)] [.expr (.meth n_Hall_work 0 (.var 3) [(.var 4)])],
 .for_ (.nm 5) .val [(.var 2)] [.expr (.meth n_Hall_belt 0 (.var 3) [(.idx (.var 5) (.cint 0)), (.idx (.var 5) (.cint 1)), (.idx (.var 5) (.cint 2)), (.idx (.var 5) (.cint 3)), (.idx (.var 5) (.cint 4))])],
 .asg (.nm 6) (.bin .Add false (.comp false [4] (.nm 4) .val [(.var 1)] (.cbl true) (.bin .Add false (.cstr "work ") (.var 4))) (.comp false [5] (.nm 5) .val [(.var 2)] (.cbl true) (.call n__law_line_text 0 [(.var 1), (.var 5)]))),
 .asg (.nm 7) (.call n_show_hall 0 [(.var 3)]),
 .ife (.andor false [(.not (.isi ["list"] (.var 7))), (.cmp .NotEq (.var 7) (.var 6))]) [.ret (.cbl false)] [],
 .expr (.lm .append (.var 7) [(.cstr "later")]),
 .asg (.nm 8) (.call n_read_hall 0 [(.bif .list false [(.var 6)])]),
 .ife (.andor false [(.not (.isc 3 (.var 8))), (.cmp .NotEq (.meth n_Hall_names 0 (.var 8) []) (.var 1)), (.cmp .NotEq (.meth n_Hall_belts 0 (.var 8) []) (.var 2)), (.cmp .NotEq (.call n_show_hall 0 [(.var 3)]) (.var 6))]) [.ret (.cbl false)] [],
 .asg (.nm 9) (.call n__law_mixed_rows 0 [(.var 1), (.var 2), (.call n__law_cell 0 [(.var 0), (.cint 1)])]),
 .asg (.nm 8) (.call n_read_hall 0 [(.var 9)]),
 .ife (.andor false [(.cmp .NotEq (.meth n_Hall_names 0 (.var 8) []) (.var 1)), (.cmp .NotEq (.bif .sortT false [(.meth n_Hall_belts 0 (.var 8) [])]) (.bif .sortT false [(.var 2)]))]) [.ret (.cbl false)] [],
 .asg (.nm 10) (.comp false [11] (.nm 11) .val [(.var 9)] (.cmp .Eq (.slice false (.var 11) .cnon (.cint 5)) (.cstr "belt ")) (.var 11)),
 .ret (.andor true [(.cmp .Eq (.slice false (.call n_show_hall 0 [(.var 8)]) (.bif .len false [(.var 1)]) .cnon) (.var 10)), (.call n__law_forms_good 0 [(.var 0)])])]

def S__law_cell : TSp := fun ts μ F R => ∃ (ns : List Int) (k : Int), ts = [.scr (ns.map T.int), .int k] ∧ 0 ≤ k ∧ R (.int (cel ns k)) μ
structure A__law_cell (G : Tab) (Γ : Nat → TSp) : Prop where
  triv : True
abbrev B__law_cell (G : Tab) (Γ : Nat → TSp) : Prop := ∀ ts μ F R, S__law_cell ts μ F R → denSs G Γ c__law_cell (bodyD R F) (startT N__law_cell.length ts) μ
theorem body__law_cell {G : Tab} {Γ : Nat → TSp} (A : A__law_cell G Γ) : B__law_cell G Γ := by
  rintro ts μ F R ⟨ns, k, rfl, hk, h⟩
  unfold c__law_cell
  simp only [Rh.startT, List.length_cons, List.length_nil, List.map_cons, List.map_nil, List.replicate, List.cons_append, List.nil_append, Nat.reduceAdd, Nat.reduceSub, N__law_cell]
  apply e_cons; apply e_ife; simp_arith [List.length_map]; repeat ((with_reducible refine And.intro ?_ ?_); omega)
  by_cases hl : k < ns.length
  · simp only [hl, decide_true, if_true]
    apply e_cons; simp only [denS]; (try simp_arith []); repeat ((with_reducible refine And.intro ?_ ?_); omega)
    have e : ns[k.toNat]? = some (cel ns k) := by
      unfold cel
      rw [List.getElem?_eq_getElem (by omega)]
      rfl
    exact ⟨_, at_map hk e, fin_id h⟩
  · simp only [hl, decide_false, Bool.false_eq_true, if_false]
    apply e_cons; simp only [denS]; (try simp_arith []); repeat ((with_reducible refine And.intro ?_ ?_); omega)
    have e : cel ns k = 0 := by
      unfold cel
      rw [List.getElem?_eq_none (by omega)]
      rfl
    rw [e] at h
    exact fin_id h
def S__law_mix : TSp := fun ts μ F R => ∃ c way : Int, ts = [.int c, .int way] ∧ R (.int (mxv c way)) μ
structure A__law_mix (G : Tab) (Γ : Nat → TSp) : Prop where
  triv : True
abbrev B__law_mix (G : Tab) (Γ : Nat → TSp) : Prop := ∀ ts μ F R, S__law_mix ts μ F R → denSs G Γ c__law_mix (bodyD R F) (startT N__law_mix.length ts) μ
theorem body__law_mix {G : Tab} {Γ : Nat → TSp} (A : A__law_mix G Γ) : B__law_mix G Γ := by
  rintro ts μ F R ⟨c, way, rfl, h⟩
  unfold c__law_mix
  simp only [Rh.startT, List.length_cons, List.length_nil, List.map_cons, List.map_nil, List.replicate, List.cons_append, List.nil_append, Nat.reduceAdd, Nat.reduceSub, N__law_mix]
  apply e_cons; simp only [denS]; (try simp_arith []); repeat ((with_reducible refine And.intro ?_ ?_); omega)
  have h0 := Int.emod_nonneg (c * 48271 + way * 7919) (show (2147483647 : Int) ≠ 0 by decide)
  have h1 := Int.emod_lt_of_pos (c * 48271 + way * 7919) (show (0 : Int) < 2147483647 by decide)
  have hm : Rh.MulOk ((c * 48271 + way * 7919) % 2147483647) (16807 + 2 * way) := .inl (.inl ⟨by omega, by omega⟩)
  apply e_cons; simp only [denS]; (try simp_arith [hm]); repeat ((with_reducible refine And.intro ?_ ?_); omega)
  exact fin_id h
def S__law_form : TSp := fun ts μ F R => ∃ c way n : Int, ts = [.int c, .int way, .int n] ∧ 0 ≤ way ∧ 0 ≤ n ∧ n ≤ 30 ∧ ∀ f : Frm, FrmOk f → (f.2.length : Int) = n → R (frT f) μ
structure A__law_form (G : Tab) (Γ : Nat → TSp) : Prop where
  f__law_mix : G.fn n__law_mix = some i__law_mix
  g__law_mix : Γ n__law_mix = S__law_mix
abbrev B__law_form (G : Tab) (Γ : Nat → TSp) : Prop := ∀ ts μ F R, S__law_form ts μ F R → denSs G Γ c__law_form (bodyD R F) (startT N__law_form.length ts) μ
theorem body__law_form {G : Tab} {Γ : Nat → TSp} (A : A__law_form G Γ) : B__law_form G Γ := by
  rintro ts μ F R ⟨c, way, n, rfl, hw, hn, hn2, hR⟩
  unfold c__law_form
  simp only [Rh.startT, List.length_cons, List.length_nil, List.map_cons, List.map_nil, List.replicate, List.cons_append, List.nil_append, Nat.reduceAdd, Nat.reduceSub, N__law_form]
  apply e_cons; simp only [denS]; (try simp_arith [A.f__law_mix, A.g__law_mix, S__law_mix, i__law_mix]); repeat ((with_reducible refine And.intro ?_ ?_); omega)
  intro q hq
  apply e_cons; simp only [denS]; (try simp_arith [A.f__law_mix, A.g__law_mix, S__law_mix, i__law_mix]); repeat ((with_reducible refine And.intro ?_ ?_); omega)
  apply e_cons; simp only [denS]; (try simp_arith [A.f__law_mix, A.g__law_mix, S__law_mix, i__law_mix]); repeat ((with_reducible refine And.intro ?_ ?_); omega)
  refine for_map (fun k ρ μ' => ∃ acc : List (Int × Int), acc.length = k ∧ (∀ p ∈ acc, 0 ≤ p.1 ∧ p.1.natAbs < 10 ^ 30 ∧ p.2.natAbs < 10 ^ 30) ∧ (∃ o5 o6 o7 o8, ρ = [some (.int c), some (.int way), some (.int n), some (.own q), some (.int (mxv c way)), o5, o6, o7, o8, none]) ∧ μ' = μ.set q (.lst (acc.map tmT))) ⟨[], rfl, fun _ z => (nomatch z), ⟨_, _, _, _, rfl⟩, rfl⟩ ?_ ?_
  · rintro ρ μ' ⟨acc, hl, ha, ⟨o5, o6, o7, o8, rfl⟩, rfl⟩
    refine ⟨trivial, ?_⟩
    rw [List.length_range] at hl
    apply e_cons; simp only [denS]; (try simp_arith [A.f__law_mix, A.g__law_mix, S__law_mix, i__law_mix]); repeat ((with_reducible refine And.intro ?_ ?_); omega)
    have fin : ∀ v : Int, v.natAbs < 10 ^ 30 → denSs G Γ [.ret (.tup [.var 9, .bif .tuple false [.var 3]])] (bodyD R F) [some (.int c), some (.int way), some (.int n), some (.own q), some (.int (mxv c way)), o5, o6, o7, o8, some (.int v)] (μ.set q (.lst (acc.map tmT))) := fun v hv => by
      apply e_cons; simp only [denS]; (try simp_arith [A.f__law_mix, A.g__law_mix, S__law_mix, i__law_mix]); repeat ((with_reducible refine And.intro ?_ ?_); omega)
      exact fin_sub _ (Sub.set_none hq) (hR (v, acc) ⟨hv, ha⟩ (by show (acc.length : Int) = n; omega))
    apply e_cons; apply e_ife; simp_arith [A.f__law_mix, A.g__law_mix, S__law_mix, i__law_mix]; repeat ((with_reducible refine And.intro ?_ ?_); omega)
    by_cases h1 : mxv c way % 2 = 1
    · rw [if_pos h1]
      apply e_cons; simp only [denS]; (try simp_arith [A.f__law_mix, A.g__law_mix, S__law_mix, i__law_mix]); repeat ((with_reducible refine And.intro ?_ ?_); omega)
      exact fin _ (by omega)
    · rw [if_neg h1]
      exact fin _ (by omega)
  rintro k p ρ μ' hk ⟨acc, hl, ha, ⟨o5, o6, o7, o8, rfl⟩, rfl⟩
  refine ⟨trivial, ?_⟩
  have hp : p = k ∧ k < n.toNat := by
    have h1 := (List.getElem?_eq_some_iff.mp hk).1
    rw [List.length_range] at h1
    rw [List.getElem?_range h1] at hk
    exact ⟨(Option.some.inj hk).symm, h1⟩
  have cd1 : CDivW c ((p : Int) + 1) = True := cdiv_lit (by omega) (by omega)
  have cd2 : CDivW c ((p : Int) + 2) = True := cdiv_lit (by omega) (by omega)
  have cat : ∀ w v : Int, 0 ≤ w → w.natAbs < 10 ^ 30 → v.natAbs < 10 ^ 30 → (acc ++ [(w, v)]).length = k + 1 ∧ ∀ p ∈ acc ++ [(w, v)], 0 ≤ p.1 ∧ p.1.natAbs < 10 ^ 30 ∧ p.2.natAbs < 10 ^ 30 := fun w v h0 h1 h2 => by
    refine ⟨by rw [List.length_append, List.length_singleton, hl], fun x hx => ?_⟩
    rcases List.mem_append.mp hx with hx | hx
    · exact ha x hx
    · cases List.mem_singleton.mp hx
      exact ⟨h0, h1, h2⟩
  simp_arith [A.f__law_mix, A.g__law_mix, S__law_mix, i__law_mix]
  apply e_cons; simp only [denS]; (try simp_arith [A.f__law_mix, A.g__law_mix, S__law_mix, i__law_mix]); repeat ((with_reducible refine And.intro ?_ ?_); omega)
  apply e_cons; simp only [denS]; (try simp_arith [A.f__law_mix, A.g__law_mix, S__law_mix, i__law_mix]); repeat ((with_reducible refine And.intro ?_ ?_); omega)
  apply e_cons; simp only [denS]; (try simp_arith [A.f__law_mix, A.g__law_mix, S__law_mix, i__law_mix]); repeat ((with_reducible refine And.intro ?_ ?_); omega)
  generalize mxv c (way + 1 + (p : Int)) = m
  have done_ : ∀ (o5 : Option T) (w v : Int), 0 ≤ w → w.natAbs < 10 ^ 30 → v.natAbs < 10 ^ 30 → (∃ ρ3 μ3, Wk [some (.int c), some (.int way), some (.int n), some (.own q), some (.int (mxv c way)), o5, some (.int m), some (.int v), some (.int w), none] ((μ.set q (.lst (acc.map tmT))).set q (.lst (acc.map tmT ++ [.tup [.int w, .int v]]))) ρ3 μ3 ∧ ∃ acc : List (Int × Int), acc.length = k + 1 ∧ (∀ p ∈ acc, 0 ≤ p.1 ∧ p.1.natAbs < 10 ^ 30 ∧ p.2.natAbs < 10 ^ 30) ∧ (∃ o5 o6 o7 o8, ρ3 = [some (.int c), some (.int way), some (.int n), some (.own q), some (.int (mxv c way)), o5, o6, o7, o8, none]) ∧ μ3 = μ.set q (.lst (acc.map tmT))) := fun o5 w v h0 h1 h2 => by
    refine ⟨_, _, .refl _ _, acc ++ [(w, v)], (cat w v h0 h1 h2).1, (cat w v h0 h1 h2).2, ⟨_, _, _, _, rfl⟩, ?_⟩
    rw [set_set, List.map_append]
    rfl
  apply e_cons; apply e_ife; simp_arith [A.f__law_mix, A.g__law_mix, S__law_mix, i__law_mix]; repeat ((with_reducible refine And.intro ?_ ?_); omega)
  by_cases h1 : m % 3 = 1
  · rw [if_pos h1]
    apply e_cons; simp only [denS]; (try simp_arith [A.f__law_mix, A.g__law_mix, S__law_mix, i__law_mix, cd1]); repeat ((with_reducible refine And.intro ?_ ?_); omega)
    apply e_cons; apply e_ife; simp_arith [A.f__law_mix, A.g__law_mix, S__law_mix, i__law_mix]; repeat ((with_reducible refine And.intro ?_ ?_); omega)
    rw [if_neg (by omega)]
    apply e_cons; simp only [denS]; (try simp_arith [A.f__law_mix, A.g__law_mix, S__law_mix, i__law_mix]); repeat ((with_reducible refine And.intro ?_ ?_); omega)
    exact done_ _ _ _ (by omega) (by omega) (by omega)
  rw [if_neg h1]
  apply e_cons; apply e_ife; simp_arith [A.f__law_mix, A.g__law_mix, S__law_mix, i__law_mix]; repeat ((with_reducible refine And.intro ?_ ?_); omega)
  by_cases h2 : m % 3 = 2
  · rw [if_pos h2]
    apply e_cons; simp only [denS]; (try simp_arith [A.f__law_mix, A.g__law_mix, S__law_mix, i__law_mix, cd2]); repeat ((with_reducible refine And.intro ?_ ?_); omega)
    apply e_cons; simp only [denS]; (try simp_arith [A.f__law_mix, A.g__law_mix, S__law_mix, i__law_mix]); repeat ((with_reducible refine And.intro ?_ ?_); omega)
    exact done_ _ _ _ (by omega) (by omega) (by omega)
  rw [if_neg h2]
  apply e_cons; simp only [denS]; (try simp_arith [A.f__law_mix, A.g__law_mix, S__law_mix, i__law_mix]); repeat ((with_reducible refine And.intro ?_ ?_); omega)
  exact done_ _ _ _ (by omega) (by omega) (by omega)
def S__law_form_text : TSp := fun ts μ F R => ∃ f : Frm, ts = [frT f] ∧ FrmB f ∧ R (.str (formT f)) μ
structure A__law_form_text (G : Tab) (Γ : Nat → TSp) : Prop where
  triv : True
abbrev B__law_form_text (G : Tab) (Γ : Nat → TSp) : Prop := ∀ ts μ F R, S__law_form_text ts μ F R → denSs G Γ c__law_form_text (bodyD R F) (startT N__law_form_text.length ts) μ
theorem body__law_form_text {G : Tab} {Γ : Nat → TSp} (A : A__law_form_text G Γ) : B__law_form_text G Γ := by
  rintro ts μ F R ⟨f, rfl, hf, hR⟩
  unfold c__law_form_text
  simp only [Rh.startT, List.length_cons, List.length_nil, List.map_cons, List.map_nil, List.replicate, List.cons_append, List.nil_append, Nat.reduceAdd, Nat.reduceSub, N__law_form_text]
  apply e_cons; simp only [denS]; (try simp_arith [frT]); repeat ((with_reducible refine And.intro ?_ ?_); omega)
  refine ⟨log_of hf.c, ?_⟩
  apply e_cons; simp only [denS]; (try simp_arith [frT]); repeat ((with_reducible refine And.intro ?_ ?_); omega)
  refine for_map (fun k ρ μ' => (∃ o2 o3, ρ = [some (frT f), some (.str ((f.2.take k).foldl (fun a p => a ++ tmS p) (nmT f.1))), o2, o3]) ∧ μ' = μ) ⟨⟨_, _, rfl⟩, rfl⟩ ?_ ?_
  · rintro ρ μ' ⟨⟨o2, o3, rfl⟩, rfl⟩
    rw [List.take_length]
    refine ⟨trivial, ?_⟩
    apply e_cons; simp only [denS]; (try simp_arith []); repeat ((with_reducible refine And.intro ?_ ?_); omega)
    exact fin_id hR
  rintro k p ρ μ' hk ⟨⟨o2, o3, rfl⟩, rfl⟩
  refine ⟨trivial, ?_⟩
  obtain ⟨b1, b2⟩ := hf.t p (List.mem_of_getElem? hk)
  have h2 := hf.l
  have h1 := tms_len (f.2.take k) (nmT f.1) fun q hq => hf.t q (List.mem_of_mem_take hq)
  have e0 := nm_len (k := 200) (by decide) hf.c
  have e1 := nm_len (k := 200) (by decide) b1
  have e2 := nm_len (k := 200) (by decide) b2
  have d2 : (Str.ofString " ").length = 1 := by decide
  have d3 : (Str.ofString "@").length = 1 := by decide
  have et : f.2.take (k + 1) = f.2.take k ++ [p] := by
    rw [List.take_add_one, hk]
    rfl
  rw [List.length_take] at h1
  have en : ∀ n : Int, Str.ofString (toString n) = nmT n := fun _ => rfl
  have ea : ∀ z : Str, z ++ Str.ofString " " ++ nmT p.2 ++ Str.ofString "@" ++ nmT p.1 = z ++ tmS p := fun z => TL.ext_tl (by
    simp only [tmS, TL.tl_append, List.append_assoc])
  simp_arith [tmT]
  apply e_cons; simp only [denS]; (try simp_arith []); repeat ((with_reducible refine And.intro ?_ ?_); omega)
  simp only [en, ad_str, sz, Str.length_append, d2, d3]
  repeat (first | refine And.intro (by omega) ?_ | refine And.intro (log_of (by assumption)) ?_)
  rw [et, List.foldl_append]
  exact ⟨_, _, .refl _ _, ⟨_, _, by rw [ea]; rfl⟩, rfl⟩
def S__law_whole : TSp := fun ts μ F R => (∃ i : Int, ts = [.int i]) ∧ R (.bl true) μ
structure A__law_whole (G : Tab) (Γ : Nat → TSp) : Prop where
  triv : True
abbrev B__law_whole (G : Tab) (Γ : Nat → TSp) : Prop := ∀ ts μ F R, S__law_whole ts μ F R → denSs G Γ c__law_whole (bodyD R F) (startT N__law_whole.length ts) μ
theorem body__law_whole {G : Tab} {Γ : Nat → TSp} (A : A__law_whole G Γ) : B__law_whole G Γ := by
  rintro ts μ F R ⟨⟨i, rfl⟩, h⟩
  unfold c__law_whole
  simp only [Rh.startT, List.length_cons, List.length_nil, List.map_cons, List.map_nil, List.replicate, List.cons_append, List.nil_append, Nat.reduceAdd, Nat.reduceSub, N__law_whole]
  apply e_cons; simp only [denS]; (try simp_arith []); repeat ((with_reducible refine And.intro ?_ ?_); omega)
  exact fin_id h
def S__law_is_form : TSp := fun ts μ F R => ∃ f : Frm, ts = [frT f, frT f] ∧ f.2.length ≤ 1000 ∧ R (.bl true) μ
structure A__law_is_form (G : Tab) (Γ : Nat → TSp) : Prop where
  f__law_whole : G.fn n__law_whole = some i__law_whole
  g__law_whole : Γ n__law_whole = S__law_whole
abbrev B__law_is_form (G : Tab) (Γ : Nat → TSp) : Prop := ∀ ts μ F R, S__law_is_form ts μ F R → denSs G Γ c__law_is_form (bodyD R F) (startT N__law_is_form.length ts) μ
theorem body__law_is_form {G : Tab} {Γ : Nat → TSp} (A : A__law_is_form G Γ) : B__law_is_form G Γ := by
  rintro ts μ F R ⟨f, rfl, hf, hR⟩
  unfold c__law_is_form
  simp only [Rh.startT, List.length_cons, List.length_nil, List.map_cons, List.map_nil, List.replicate, List.cons_append, List.nil_append, Nat.reduceAdd, Nat.reduceSub, N__law_is_form]
  apply e_cons; apply e_ife; simp_arith [A.f__law_whole, A.g__law_whole, S__law_whole, i__law_whole, frT]; repeat ((with_reducible refine And.intro ?_ ?_); omega)
  apply e_cons; simp only [denS]; (try simp_arith [A.f__law_whole, A.g__law_whole, S__law_whole, i__law_whole, frT]); repeat ((with_reducible refine And.intro ?_ ?_); omega)
  refine for_map (fun k ρ μ' => (∃ o2, ρ = [some (frT f), some (frT f), o2]) ∧ μ' = μ) ⟨⟨_, rfl⟩, rfl⟩ ?_ ?_
  · rintro ρ μ' ⟨⟨o2, rfl⟩, rfl⟩
    refine ⟨trivial, ?_⟩
    apply e_cons; simp only [denS]; (try simp_arith [A.f__law_whole, A.g__law_whole, S__law_whole, i__law_whole]); repeat ((with_reducible refine And.intro ?_ ?_); omega)
    exact eq_pure (pure_fr (n := 5)) rfl (fin_id hR)
  rintro k p ρ μ' hk ⟨⟨o2, rfl⟩, rfl⟩
  refine ⟨trivial, ?_⟩
  simp_arith [A.f__law_whole, A.g__law_whole, S__law_whole, i__law_whole]
  apply e_cons; apply e_ife; simp_arith [A.f__law_whole, A.g__law_whole, S__law_whole, i__law_whole, tmT]; repeat ((with_reducible refine And.intro ?_ ?_); omega)
  exact ⟨_, _, .refl _ _, ⟨_, rfl⟩, rfl⟩
def S__law_forms_good : TSp := fun ts μ F R => ∃ cs : List Int, ts = [.scr (cs.map T.int)] ∧ R (.bl true) μ
structure A__law_forms_good (G : Tab) (Γ : Nat → TSp) : Prop where
  f__law_mix : G.fn n__law_mix = some i__law_mix
  g__law_mix : Γ n__law_mix = S__law_mix
  f__law_cell : G.fn n__law_cell = some i__law_cell
  g__law_cell : Γ n__law_cell = S__law_cell
  f__law_form : G.fn n__law_form = some i__law_form
  g__law_form : Γ n__law_form = S__law_form
  f__law_form_text : G.fn n__law_form_text = some i__law_form_text
  g__law_form_text : Γ n__law_form_text = S__law_form_text
  f_show_form : G.fn n_show_form = some i_show_form
  g_show_form : Γ n_show_form = S_show_form
  f__law_is_form : G.fn n__law_is_form = some i__law_is_form
  g__law_is_form : Γ n__law_is_form = S__law_is_form
  f_read_form : G.fn n_read_form = some i_read_form
  g_read_form : Γ n_read_form = S_read_form
  f_read_forms : G.fn n_read_forms = some i_read_forms
  g_read_forms : Γ n_read_forms = S_read_forms
  f_show_forms : G.fn n_show_forms = some i_show_forms
  g_show_forms : Γ n_show_forms = S_show_forms
abbrev B__law_forms_good (G : Tab) (Γ : Nat → TSp) : Prop := ∀ ts μ F R, S__law_forms_good ts μ F R → denSs G Γ c__law_forms_good (bodyD R F) (startT N__law_forms_good.length ts) μ
theorem body__law_forms_good {G : Tab} {Γ : Nat → TSp} (A : A__law_forms_good G Γ) : B__law_forms_good G Γ := by
  rintro ts μ F R ⟨cs, rfl, hR⟩
  unfold c__law_forms_good
  simp only [Rh.startT, List.length_cons, List.length_nil, List.map_cons, List.map_nil, List.replicate, List.cons_append, List.nil_append, Nat.reduceAdd, Nat.reduceSub, N__law_forms_good]
  apply e_cons; simp only [denS]; (try simp_arith [A.f__law_mix, A.g__law_mix, S__law_mix, i__law_mix, A.f__law_cell, A.g__law_cell, S__law_cell, i__law_cell, A.f__law_form, A.g__law_form, S__law_form, i__law_form, A.f__law_form_text, A.g__law_form_text, S__law_form_text, i__law_form_text, A.f_show_form, A.g_show_form, S_show_form, i_show_form, A.f__law_is_form, A.g__law_is_form, S__law_is_form, i__law_is_form, A.f_read_form, A.g_read_form, S_read_form, i_read_form, A.f_read_forms, A.g_read_forms, S_read_forms, i_read_forms, A.f_show_forms, A.g_show_forms, S_show_forms, i_show_forms]); repeat ((with_reducible refine And.intro ?_ ?_); omega)
  intro q hq
  apply e_cons; simp only [denS]; (try simp_arith [A.f__law_mix, A.g__law_mix, S__law_mix, i__law_mix, A.f__law_cell, A.g__law_cell, S__law_cell, i__law_cell, A.f__law_form, A.g__law_form, S__law_form, i__law_form, A.f__law_form_text, A.g__law_form_text, S__law_form_text, i__law_form_text, A.f_show_form, A.g_show_form, S_show_form, i_show_form, A.f__law_is_form, A.g__law_is_form, S__law_is_form, i__law_is_form, A.f_read_form, A.g_read_form, S_read_form, i_read_form, A.f_read_forms, A.g_read_forms, S_read_forms, i_read_forms, A.f_show_forms, A.g_show_forms, S_show_forms, i_show_forms]); repeat ((with_reducible refine And.intro ?_ ?_); omega)
  refine for_map (fun k ρ μ' => ∃ fs : List Frm, fs.length = k ∧ (∀ f ∈ fs, FrmOk f ∧ f.2.length ≤ 30) ∧ (∃ o2 o3 o4, ρ = [some (.scr (cs.map T.int)), some (.own q), o2, o3, o4, none, none, none, none]) ∧ μ' = μ.set q (.lst (fs.map frT))) ⟨[], rfl, fun _ z => (nomatch z), ⟨_, _, _, rfl⟩, rfl⟩ ?_ ?_
  rotate_left
  · rintro k p ρ μ' hk ⟨fs, hl, ha, ⟨o2, o3, o4, rfl⟩, rfl⟩
    refine ⟨trivial, ?_⟩
    simp_arith [A.f__law_mix, A.g__law_mix, S__law_mix, i__law_mix, A.f__law_cell, A.g__law_cell, S__law_cell, i__law_cell, A.f__law_form, A.g__law_form, S__law_form, i__law_form, A.f__law_form_text, A.g__law_form_text, S__law_form_text, i__law_form_text, A.f_show_form, A.g_show_form, S_show_form, i_show_form, A.f__law_is_form, A.g__law_is_form, S__law_is_form, i__law_is_form, A.f_read_form, A.g_read_form, S_read_form, i_read_form, A.f_read_forms, A.g_read_forms, S_read_forms, i_read_forms, A.f_show_forms, A.g_show_forms, S_show_forms, i_show_forms]
    apply e_cons; simp only [denS]; (try simp_arith [A.f__law_mix, A.g__law_mix, S__law_mix, i__law_mix, A.f__law_cell, A.g__law_cell, S__law_cell, i__law_cell, A.f__law_form, A.g__law_form, S__law_form, i__law_form, A.f__law_form_text, A.g__law_form_text, S__law_form_text, i__law_form_text, A.f_show_form, A.g_show_form, S_show_form, i_show_form, A.f__law_is_form, A.g__law_is_form, S__law_is_form, i__law_is_form, A.f_read_form, A.g_read_form, S_read_form, i_read_form, A.f_read_forms, A.g_read_forms, S_read_forms, i_read_forms, A.f_show_forms, A.g_show_forms, S_show_forms, i_show_forms]); repeat ((with_reducible refine And.intro ?_ ?_); omega)
    apply e_cons; simp only [denS]; (try simp_arith [A.f__law_mix, A.g__law_mix, S__law_mix, i__law_mix, A.f__law_cell, A.g__law_cell, S__law_cell, i__law_cell, A.f__law_form, A.g__law_form, S__law_form, i__law_form, A.f__law_form_text, A.g__law_form_text, S__law_form_text, i__law_form_text, A.f_show_form, A.g_show_form, S_show_form, i_show_form, A.f__law_is_form, A.g__law_is_form, S__law_is_form, i__law_is_form, A.f_read_form, A.g_read_form, S_read_form, i_read_form, A.f_read_forms, A.g_read_forms, S_read_forms, i_read_forms, A.f_show_forms, A.g_show_forms, S_show_forms, i_show_forms]); repeat ((with_reducible refine And.intro ?_ ?_); omega)
    generalize cel cs (3 + (p : Int)) = c
    have go : ∀ (D : SEnds) (n : Int), 0 ≤ n → n ≤ 30 → (∀ f : Frm, FrmOk f → f.2.length ≤ 30 → D.nx [some (.scr (cs.map T.int)), some (.own q), some (.int p), some (.int c), some (.int n), none, none, none, none] (μ.set q (.lst ((fs ++ [f]).map frT)))) → denSs G Γ [.expr (.lm .append (.var 1) [.call n__law_form 0 [.var 3, .bin .Add false (.cint 9) (.var 2), .var 4]])] D [some (.scr (cs.map T.int)), some (.own q), some (.int p), some (.int c), some (.int n), none, none, none, none] (μ.set q (.lst (fs.map frT))) := fun D n h0 h1 hD => by
      apply e_cons; simp only [denS]; (try simp_arith [A.f__law_mix, A.g__law_mix, S__law_mix, i__law_mix, A.f__law_cell, A.g__law_cell, S__law_cell, i__law_cell, A.f__law_form, A.g__law_form, S__law_form, i__law_form, A.f__law_form_text, A.g__law_form_text, S__law_form_text, i__law_form_text, A.f_show_form, A.g_show_form, S_show_form, i_show_form, A.f__law_is_form, A.g__law_is_form, S__law_is_form, i__law_is_form, A.f_read_form, A.g_read_form, S_read_form, i_read_form, A.f_read_forms, A.g_read_forms, S_read_forms, i_read_forms, A.f_show_forms, A.g_show_forms, S_show_forms, i_show_forms, set_self]); repeat ((with_reducible refine And.intro ?_ ?_); omega)
      intro f hf hn
      refine ⟨by have := (List.getElem?_eq_some_iff.mp hk).1; rw [List.length_range] at this; have := Int.emod_lt_of_pos (mxv (cel cs 0) 7) (show (0 : Int) < 7 by decide); omega, ?_⟩
      rw [set_set]
      have := hD f hf (by omega)
      rwa [List.map_append] at this
    have fin : ∀ (f : Frm) (n : Int), FrmOk f → f.2.length ≤ 30 → ∃ ρ3 μ3, Wk [some (.scr (cs.map T.int)), some (.own q), some (.int p), some (.int c), some (.int n), none, none, none, none] (μ.set q (.lst ((fs ++ [f]).map frT))) ρ3 μ3 ∧ ∃ fs : List Frm, fs.length = k + 1 ∧ (∀ f ∈ fs, FrmOk f ∧ f.2.length ≤ 30) ∧ (∃ o2 o3 o4, ρ3 = [some (.scr (cs.map T.int)), some (.own q), o2, o3, o4, none, none, none, none]) ∧ μ3 = μ.set q (.lst (fs.map frT)) := fun f n hf hn =>
      ⟨_, _, .refl _ _, fs ++ [f], by rw [List.length_append, hl]; rfl, fun x hx => by
        rcases List.mem_append.mp hx with hx | hx
        · exact ha x hx
        · cases List.mem_singleton.mp hx
          exact ⟨hf, hn⟩, ⟨_, _, _, rfl⟩, rfl⟩
    apply e_cons; apply e_ife; simp_arith [A.f__law_mix, A.g__law_mix, S__law_mix, i__law_mix, A.f__law_cell, A.g__law_cell, S__law_cell, i__law_cell, A.f__law_form, A.g__law_form, S__law_form, i__law_form, A.f__law_form_text, A.g__law_form_text, S__law_form_text, i__law_form_text, A.f_show_form, A.g_show_form, S_show_form, i_show_form, A.f__law_is_form, A.g__law_is_form, S__law_is_form, i__law_is_form, A.f_read_form, A.g_read_form, S_read_form, i_read_form, A.f_read_forms, A.g_read_forms, S_read_forms, i_read_forms, A.f_show_forms, A.g_show_forms, S_show_forms, i_show_forms]; repeat ((with_reducible refine And.intro ?_ ?_); omega)
    have m0 := Int.emod_nonneg (mxv c 8) (show (5 : Int) ≠ 0 by decide)
    have m1 := Int.emod_lt_of_pos (mxv c 8) (show (0 : Int) < 5 by decide)
    by_cases h1 : mxv c 8 / 5 % 8 = 1
    · rw [if_pos h1]
      apply e_cons; simp only [denS]; (try simp_arith [A.f__law_mix, A.g__law_mix, S__law_mix, i__law_mix, A.f__law_cell, A.g__law_cell, S__law_cell, i__law_cell, A.f__law_form, A.g__law_form, S__law_form, i__law_form, A.f__law_form_text, A.g__law_form_text, S__law_form_text, i__law_form_text, A.f_show_form, A.g_show_form, S_show_form, i_show_form, A.f__law_is_form, A.g__law_is_form, S__law_is_form, i__law_is_form, A.f_read_form, A.g_read_form, S_read_form, i_read_form, A.f_read_forms, A.g_read_forms, S_read_forms, i_read_forms, A.f_show_forms, A.g_show_forms, S_show_forms, i_show_forms]); repeat ((with_reducible refine And.intro ?_ ?_); omega)
      exact go _ 30 (by decide) (by decide) fun f hf hn => fin f _ hf hn
    · rw [if_neg h1]
      exact go _ _ m0 (by omega) fun f hf hn => fin f _ hf hn
  rintro ρ μ' ⟨fs, hl, ha, ⟨o2, o3, o4, rfl⟩, rfl⟩
  refine ⟨trivial, ?_⟩
  rw [List.length_range] at hl
  have hl6 : fs.length ≤ 6 := by have := Int.emod_lt_of_pos (mxv (cel cs 0) 7) (show (0 : Int) < 7 by decide); omega
  clear hl
  apply e_cons; simp only [denS]; (try simp_arith [A.f__law_mix, A.g__law_mix, S__law_mix, i__law_mix, A.f__law_cell, A.g__law_cell, S__law_cell, i__law_cell, A.f__law_form, A.g__law_form, S__law_form, i__law_form, A.f__law_form_text, A.g__law_form_text, S__law_form_text, i__law_form_text, A.f_show_form, A.g_show_form, S_show_form, i_show_form, A.f__law_is_form, A.g__law_is_form, S__law_is_form, i__law_is_form, A.f_read_form, A.g_read_form, S_read_form, i_read_form, A.f_read_forms, A.g_read_forms, S_read_forms, i_read_forms, A.f_show_forms, A.g_show_forms, S_show_forms, i_show_forms, set_self]); repeat ((with_reducible refine And.intro ?_ ?_); omega)
  refine onG_at (LstAt.own set_self) fun gd hgd => ?_
  refine comp_xs (u := fun f => .str (formT f)) (hgd _ (LstAt.own set_self)) (by rw [sz]; omega) ?_ ?_
  · intro f hf Y N hY
    simp only [wipeT]
    simp_arith [A.f__law_mix, A.g__law_mix, S__law_mix, i__law_mix, A.f__law_cell, A.g__law_cell, S__law_cell, i__law_cell, A.f__law_form, A.g__law_form, S__law_form, i__law_form, A.f__law_form_text, A.g__law_form_text, S__law_form_text, i__law_form_text, A.f_show_form, A.g_show_form, S_show_form, i_show_form, A.f__law_is_form, A.g__law_is_form, S__law_is_form, i__law_is_form, A.f_read_form, A.g_read_form, S_read_form, i_read_form, A.f_read_forms, A.g_read_forms, S_read_forms, i_read_forms, A.f_show_forms, A.g_show_forms, S_show_forms, i_show_forms]
    exact ⟨f, rfl, (ha f hf).1.b (ha f hf).2, hY⟩
  show ∀ _, _
  intro q2 hq2
  have qp := nofr (set_self (μ := μ) (p := q) (o := .lst (fs.map frT))) hq2
  rw [set_ne qp.symm] at hq2
  generalize hM : (fun (a b : Ob) => (μ.set q a).set q2 b) = M
  have M1 : ∀ a b a', (M a b).set q a' = M a' b := fun a b a' => by
    rw [← hM]
    show ((μ.set q a).set q2 b).set q a' = (μ.set q a').set q2 b
    rw [set_comm qp.symm, set_set]
  have M2 : ∀ a b b', (M a b).set q2 b' = M a b' := fun a b b' => by
    rw [← hM]
    show ((μ.set q a).set q2 b).set q2 b' = (μ.set q a).set q2 b'
    rw [set_set]
  have M3 : ∀ a b, M a b q = some a := fun a b => by
    rw [← hM]
    show ((μ.set q a).set q2 b) q = some a
    rw [set_ne qp, set_self]
  have M4 : ∀ a b, M a b q2 = some b := fun a b => by
    rw [← hM]
    exact set_self
  have M6 : ∀ a b, Rh.Sub μ (M a b) := fun a b => by
    rw [← hM]
    exact Sub.put' (Sub.set_none hq) hq2
  rw [show (μ.set q (.lst (fs.map frT))).set q2 (.lst (fs.map fun f => .str (formT f))) = M (.lst (fs.map frT)) (.lst ((fs.map formT).map T.str)) from by rw [← hM, List.map_map]; rfl]
  clear hM
  have d2 : (Str.ofString ", ").length = 2 := by decide
  apply e_cons
  refine e_while (fun m ρ μ' => ∃ fs : List Frm, ρ = [some (.scr (cs.map T.int)), some (.own q), o2, o3, o4, some (.own q2), none, none, none] ∧ (∀ f ∈ fs, FrmOk f ∧ f.2.length ≤ 30) ∧ fs.length ≤ 6 ∧ fs.length = m ∧ μ' = M (.lst (fs.map frT)) (.lst ((fs.map formT).map T.str))) _ ⟨fs, rfl, ha, hl6, rfl, rfl⟩ ?_
  clear ha hl6 hgd gd
  clear fs
  rintro m ρ μ' ⟨fs, rfl, ha, hl6, rfl, rfl⟩
  have hsum := sumN_le (fun f => (formT f).length) 2000 fs fun f hf => (ha f hf).1.len (ha f hf).2
  have hsum : ((fs.map formT).map (·.length)).sum + (fs.map formT).length * (Str.ofString ", ").length ≤ 16777216 := by
    rw [List.map_map, d2, List.length_map]
    have : (fs.map ((·.length) ∘ formT)).sum ≤ 2000 * fs.length := hsum
    omega
  simp_arith [A.f__law_mix, A.g__law_mix, S__law_mix, i__law_mix, A.f__law_cell, A.g__law_cell, S__law_cell, i__law_cell, A.f__law_form, A.g__law_form, S__law_form, i__law_form, A.f__law_form_text, A.g__law_form_text, S__law_form_text, i__law_form_text, A.f_show_form, A.g_show_form, S_show_form, i_show_form, A.f__law_is_form, A.g__law_is_form, S__law_is_form, i__law_is_form, A.f_read_form, A.g_read_form, S_read_form, i_read_form, A.f_read_forms, A.g_read_forms, S_read_forms, i_read_forms, A.f_show_forms, A.g_show_forms, S_show_forms, i_show_forms, M4]
  refine ⟨fs.map formT, .inl rfl, hsum, Nat.le_trans (join_le _ _) hsum, ?_⟩
  by_cases hj : 3000 < ((Txt.join (Str.ofString ", ") (fs.map formT)).length : Int)
  · rw [if_pos hj]
    have hne : fs ≠ [] := fun e => by
      rw [e] at hj
      exact absurd hj (by decide)
    have hpos := List.length_pos_iff.mpr hne
    have g1 : (fs.map frT)[fs.length - 1]? = some (frT (fs.getLast hne)) := by
      rw [← List.length_map (f := frT) (as := fs), ← List.getLast?_eq_getElem?, List.getLast?_map, List.getLast?_eq_some_getLast hne]
      rfl
    have g2 : ((fs.map formT).map T.str)[fs.length - 1]? = some (.str (formT (fs.getLast hne))) := by
      rw [show fs.length - 1 = ((fs.map formT).map T.str).length - 1 from by rw [List.length_map, List.length_map], ← List.getLast?_eq_getElem?, List.getLast?_map, List.getLast?_map, List.getLast?_eq_some_getLast hne]
      rfl
    apply e_cons; simp only [denS]; (try simp_arith [A.f__law_mix, A.g__law_mix, S__law_mix, i__law_mix, A.f__law_cell, A.g__law_cell, S__law_cell, i__law_cell, A.f__law_form, A.g__law_form, S__law_form, i__law_form, A.f__law_form_text, A.g__law_form_text, S__law_form_text, i__law_form_text, A.f_show_form, A.g_show_form, S_show_form, i_show_form, A.f__law_is_form, A.g__law_is_form, S__law_is_form, i__law_is_form, A.f_read_form, A.g_read_form, S_read_form, i_read_form, A.f_read_forms, A.g_read_forms, S_read_forms, i_read_forms, A.f_show_forms, A.g_show_forms, S_show_forms, i_show_forms, M3]); repeat ((with_reducible refine And.intro ?_ ?_); omega)
    rw [M1]
    refine ⟨_, g1, ?_⟩
    apply e_cons; simp only [denS]; (try simp_arith [A.f__law_mix, A.g__law_mix, S__law_mix, i__law_mix, A.f__law_cell, A.g__law_cell, S__law_cell, i__law_cell, A.f__law_form, A.g__law_form, S__law_form, i__law_form, A.f__law_form_text, A.g__law_form_text, S__law_form_text, i__law_form_text, A.f_show_form, A.g_show_form, S_show_form, i_show_form, A.f__law_is_form, A.g__law_is_form, S__law_is_form, i__law_is_form, A.f_read_form, A.g_read_form, S_read_form, i_read_form, A.f_read_forms, A.g_read_forms, S_read_forms, i_read_forms, A.f_show_forms, A.g_show_forms, S_show_forms, i_show_forms, M4]); repeat ((with_reducible refine And.intro ?_ ?_); omega)
    rw [M2]
    refine ⟨_, g2, ?_⟩
    rw [← List.map_dropLast, ← List.map_dropLast, ← List.map_dropLast]
    have hdl : fs.dropLast.length = fs.length - 1 := List.length_dropLast
    exact ⟨_, _, .refl _ _, _, (by omega : fs.length - 1 < fs.length), rfl, fs.dropLast, fun f hf => ha f (List.dropLast_subset _ hf), by omega, hdl, rfl⟩
  rw [if_neg hj]
  have hj : (Txt.join (Str.ofString ", ") (fs.map formT)).length ≤ 3000 := by omega
  apply e_cons; simp only [denS]; (try simp_arith [A.f__law_mix, A.g__law_mix, S__law_mix, i__law_mix, A.f__law_cell, A.g__law_cell, S__law_cell, i__law_cell, A.f__law_form, A.g__law_form, S__law_form, i__law_form, A.f__law_form_text, A.g__law_form_text, S__law_form_text, i__law_form_text, A.f_show_form, A.g_show_form, S_show_form, i_show_form, A.f__law_is_form, A.g__law_is_form, S__law_is_form, i__law_is_form, A.f_read_form, A.g_read_form, S_read_form, i_read_form, A.f_read_forms, A.g_read_forms, S_read_forms, i_read_forms, A.f_show_forms, A.g_show_forms, S_show_forms, i_show_forms, M3, M4]); repeat ((with_reducible refine And.intro ?_ ?_); omega)
  refine onG_at (LstAt.own (M3 _ _)) fun g1 k1 => onG_at (LstAt.own (M4 _ _)) fun g2 k2 => ?_
  rw [List.map_map, List.zip_map', List.map_map]
  refine for_map (fun k ρ μ' => (∃ o6 o7, ρ = [some (.scr (cs.map T.int)), some (.own q), o2, o3, o4, some (.own q2), o6, o7, none]) ∧ μ' = M (.lst (fs.map frT)) (.lst ((fs.map formT).map T.str))) ⟨⟨_, _, rfl⟩, by rw [List.map_map]⟩ ?_ ?_
  rotate_left
  · rintro k f ρ μ' hk ⟨⟨o6, o7, rfl⟩, rfl⟩
    refine ⟨⟨k1 _ (LstAt.own (M3 _ _)), k2 _ (LstAt.own (by rw [M4, List.map_map]))⟩, ?_⟩
    obtain ⟨hf1, hf2⟩ := ha f (List.mem_of_getElem? hk)
    have hfl := hf1.len hf2
    show bindT _ (.tup [frT f, .str (formT f)]) _ _ _
    simp_arith [A.f__law_mix, A.g__law_mix, S__law_mix, i__law_mix, A.f__law_cell, A.g__law_cell, S__law_cell, i__law_cell, A.f__law_form, A.g__law_form, S__law_form, i__law_form, A.f__law_form_text, A.g__law_form_text, S__law_form_text, i__law_form_text, A.f_show_form, A.g_show_form, S_show_form, i_show_form, A.f__law_is_form, A.g__law_is_form, S__law_is_form, i__law_is_form, A.f_read_form, A.g_read_form, S_read_form, i_read_form, A.f_read_forms, A.g_read_forms, S_read_forms, i_read_forms, A.f_show_forms, A.g_show_forms, S_show_forms, i_show_forms]
    apply e_cons; apply e_ife; simp_arith [A.f__law_mix, A.g__law_mix, S__law_mix, i__law_mix, A.f__law_cell, A.g__law_cell, S__law_cell, i__law_cell, A.f__law_form, A.g__law_form, S__law_form, i__law_form, A.f__law_form_text, A.g__law_form_text, S__law_form_text, i__law_form_text, A.f_show_form, A.g_show_form, S_show_form, i_show_form, A.f__law_is_form, A.g__law_is_form, S__law_is_form, i__law_is_form, A.f_read_form, A.g_read_form, S_read_form, i_read_form, A.f_read_forms, A.g_read_forms, S_read_forms, i_read_forms, A.f_show_forms, A.g_show_forms, S_show_forms, i_show_forms]; repeat ((with_reducible refine And.intro ?_ ?_); omega)
    refine ⟨f, rfl, hf1.b hf2, ?_⟩
    rw [if_pos rfl]
    exact ⟨by omega, .inl ⟨f, form_ok hf1, f, rfl, rfl, by omega, _, _, .refl _ _, ⟨_, _, rfl⟩, rfl⟩⟩
  rintro ρ μ' ⟨⟨o6, o7, rfl⟩, rfl⟩
  refine ⟨⟨k1 _ (LstAt.own (M3 _ _)), k2 _ (LstAt.own (by rw [M4, List.map_map]))⟩, ?_⟩
  apply e_cons; simp only [denS]; (try simp_arith [A.f__law_mix, A.g__law_mix, S__law_mix, i__law_mix, A.f__law_cell, A.g__law_cell, S__law_cell, i__law_cell, A.f__law_form, A.g__law_form, S__law_form, i__law_form, A.f__law_form_text, A.g__law_form_text, S__law_form_text, i__law_form_text, A.f_show_form, A.g_show_form, S_show_form, i_show_form, A.f__law_is_form, A.g__law_is_form, S__law_is_form, i__law_is_form, A.f_read_form, A.g_read_form, S_read_form, i_read_form, A.f_read_forms, A.g_read_forms, S_read_forms, i_read_forms, A.f_show_forms, A.g_show_forms, S_show_forms, i_show_forms, M4]); repeat ((with_reducible refine And.intro ?_ ?_); omega)
  refine ⟨fs.map formT, .inl rfl, hsum, ?_⟩
  have key : denSs G Γ (c__law_forms_good.drop 7) (bodyD R F) [some (.scr (cs.map T.int)), some (.own q), o2, o3, o4, some (.own q2), o6, some (.str (formsT fs)), none] (M (.lst (fs.map frT)) (.lst ((fs.map formT).map T.str))) := by
    show denSs G Γ [_, _, _, _] _ _ _
    have hlen : (formsT fs).length ≤ 3000 := by
      unfold formsT
      split
      · decide
      · exact hj
    have key2 : denSs G Γ (c__law_forms_good.drop 8) (bodyD R F) [some (.scr (cs.map T.int)), some (.own q), o2, o3, o4, some (.own q2), o6, some (.str (formsT fs)), some (fsT fs)] (M (.lst (fs.map frT)) (.lst ((fs.map formT).map T.str))) := by
      show denSs G Γ [_, _, _] _ _ _
      apply e_cons; apply e_ife; simp_arith [A.f__law_mix, A.g__law_mix, S__law_mix, i__law_mix, A.f__law_cell, A.g__law_cell, S__law_cell, i__law_cell, A.f__law_form, A.g__law_form, S__law_form, i__law_form, A.f__law_form_text, A.g__law_form_text, S__law_form_text, i__law_form_text, A.f_show_form, A.g_show_form, S_show_form, i_show_form, A.f__law_is_form, A.g__law_is_form, S__law_is_form, i__law_is_form, A.f_read_form, A.g_read_form, S_read_form, i_read_form, A.f_read_forms, A.g_read_forms, S_read_forms, i_read_forms, A.f_show_forms, A.g_show_forms, S_show_forms, i_show_forms, M3, fsT]; repeat ((with_reducible refine And.intro ?_ ?_); omega)
      refine ⟨fs, rfl, fun f hf => (ha f hf).1.b (ha f hf).2, by omega, ?_⟩
      rw [if_pos rfl]
      apply e_cons; simp only [denS]; (try simp_arith [A.f__law_mix, A.g__law_mix, S__law_mix, i__law_mix, A.f__law_cell, A.g__law_cell, S__law_cell, i__law_cell, A.f__law_form, A.g__law_form, S__law_form, i__law_form, A.f__law_form_text, A.g__law_form_text, S__law_form_text, i__law_form_text, A.f_show_form, A.g_show_form, S_show_form, i_show_form, A.f__law_is_form, A.g__law_is_form, S__law_is_form, i__law_is_form, A.f_read_form, A.g_read_form, S_read_form, i_read_form, A.f_read_forms, A.g_read_forms, S_read_forms, i_read_forms, A.f_show_forms, A.g_show_forms, S_show_forms, i_show_forms, M3]); repeat ((with_reducible refine And.intro ?_ ?_); omega)
      refine for_map (fun k ρ μ' => (∃ o2, ρ = [some (.scr (cs.map T.int)), some (.own q), o2, o3, o4, some (.own q2), o6, some (.str (formsT fs)), some (.tup (fs.map frT))]) ∧ μ' = M (.lst (fs.map frT)) (.lst ((fs.map formT).map T.str))) ⟨⟨_, rfl⟩, rfl⟩ ?_ ?_
      · rintro ρ μ' ⟨⟨o2, rfl⟩, rfl⟩
        refine ⟨trivial, ?_⟩
        apply e_cons; simp only [denS]; (try simp_arith [A.f__law_mix, A.g__law_mix, S__law_mix, i__law_mix, A.f__law_cell, A.g__law_cell, S__law_cell, i__law_cell, A.f__law_form, A.g__law_form, S__law_form, i__law_form, A.f__law_form_text, A.g__law_form_text, S__law_form_text, i__law_form_text, A.f_show_form, A.g_show_form, S_show_form, i_show_form, A.f__law_is_form, A.g__law_is_form, S__law_is_form, i__law_is_form, A.f_read_form, A.g_read_form, S_read_form, i_read_form, A.f_read_forms, A.g_read_forms, S_read_forms, i_read_forms, A.f_show_forms, A.g_show_forms, S_show_forms, i_show_forms]); repeat ((with_reducible refine And.intro ?_ ?_); omega)
        exact fin_sub μ (M6 _ _) hR
      rintro k x ρ μ' hk ⟨⟨o2, rfl⟩, rfl⟩
      refine ⟨trivial, ?_⟩
      have hx : x = k ∧ k < fs.length := by
        have h1 := (List.getElem?_eq_some_iff.mp hk).1
        rw [List.length_range] at h1
        rw [List.getElem?_range h1] at hk
        exact ⟨(Option.some.inj hk).symm, h1⟩
      obtain ⟨rfl, hx⟩ := hx
      have ex : atI (fs.map frT) (x : Int) = some (frT fs[x]) := by
        rw [at_nn (by omega), List.getElem?_map, Int.toNat_natCast, List.getElem?_eq_getElem hx]
        rfl
      simp_arith [A.f__law_mix, A.g__law_mix, S__law_mix, i__law_mix, A.f__law_cell, A.g__law_cell, S__law_cell, i__law_cell, A.f__law_form, A.g__law_form, S__law_form, i__law_form, A.f__law_form_text, A.g__law_form_text, S__law_form_text, i__law_form_text, A.f_show_form, A.g_show_form, S_show_form, i_show_form, A.f__law_is_form, A.g__law_is_form, S__law_is_form, i__law_is_form, A.f_read_form, A.g_read_form, S_read_form, i_read_form, A.f_read_forms, A.g_read_forms, S_read_forms, i_read_forms, A.f_show_forms, A.g_show_forms, S_show_forms, i_show_forms, fsT]
      apply e_cons; apply e_ife; simp_arith [A.f__law_mix, A.g__law_mix, S__law_mix, i__law_mix, A.f__law_cell, A.g__law_cell, S__law_cell, i__law_cell, A.f__law_form, A.g__law_form, S__law_form, i__law_form, A.f__law_form_text, A.g__law_form_text, S__law_form_text, i__law_form_text, A.f_show_form, A.g_show_form, S_show_form, i_show_form, A.f__law_is_form, A.g__law_is_form, S__law_is_form, i__law_is_form, A.f_read_form, A.g_read_form, S_read_form, i_read_form, A.f_read_forms, A.g_read_forms, S_read_forms, i_read_forms, A.f_show_forms, A.g_show_forms, S_show_forms, i_show_forms, M3, fsT, ex]; repeat ((with_reducible refine And.intro ?_ ?_); omega)
      exact ⟨fs[x], rfl, rfl, by have := (ha _ (List.getElem_mem hx)).2; omega, _, _, .refl _ _, ⟨_, rfl⟩, rfl⟩
    apply e_cons; simp only [denS]; (try simp_arith [A.f__law_mix, A.g__law_mix, S__law_mix, i__law_mix, A.f__law_cell, A.g__law_cell, S__law_cell, i__law_cell, A.f__law_form, A.g__law_form, S__law_form, i__law_form, A.f__law_form_text, A.g__law_form_text, S__law_form_text, i__law_form_text, A.f_show_form, A.g_show_form, S_show_form, i_show_form, A.f__law_is_form, A.g__law_is_form, S__law_is_form, i__law_is_form, A.f_read_form, A.g_read_form, S_read_form, i_read_form, A.f_read_forms, A.g_read_forms, S_read_forms, i_read_forms, A.f_show_forms, A.g_show_forms, S_show_forms, i_show_forms]); repeat ((with_reducible refine And.intro ?_ ?_); omega)
    by_cases he : fs = []
    · refine .inl ⟨by rw [he]; rfl, ?_⟩
      rw [show fsT [] = fsT fs from by rw [he]]
      exact key2
    · obtain ⟨h1, h2⟩ := forms_ok he fun f hf => (ha f hf).1
      exact .inr ⟨h2, fs, h1, key2⟩
  apply e_cons; apply e_ife; simp_arith [A.f__law_mix, A.g__law_mix, S__law_mix, i__law_mix, A.f__law_cell, A.g__law_cell, S__law_cell, i__law_cell, A.f__law_form, A.g__law_form, S__law_form, i__law_form, A.f__law_form_text, A.g__law_form_text, S__law_form_text, i__law_form_text, A.f_show_form, A.g_show_form, S_show_form, i_show_form, A.f__law_is_form, A.g__law_is_form, S__law_is_form, i__law_is_form, A.f_read_form, A.g_read_form, S_read_form, i_read_form, A.f_read_forms, A.g_read_forms, S_read_forms, i_read_forms, A.f_show_forms, A.g_show_forms, S_show_forms, i_show_forms, M3]; repeat ((with_reducible refine And.intro ?_ ?_); omega)
  refine eq_pnil (M3 _ _) (fun t ht => by
    obtain ⟨f, _, rfl⟩ := List.mem_map.mp ht
    exact pure_fr (n := 4)) ⟨_, rfl, ?_⟩
  by_cases he : fs = []
  · rw [show formsT fs = Str.ofString "-" from by rw [he]; rfl] at key
    subst he
    apply e_cons; simp only [denS]; (try simp_arith [A.f__law_mix, A.g__law_mix, S__law_mix, i__law_mix, A.f__law_cell, A.g__law_cell, S__law_cell, i__law_cell, A.f__law_form, A.g__law_form, S__law_form, i__law_form, A.f__law_form_text, A.g__law_form_text, S__law_form_text, i__law_form_text, A.f_show_form, A.g_show_form, S_show_form, i_show_form, A.f__law_is_form, A.g__law_is_form, S__law_is_form, i__law_is_form, A.f_read_form, A.g_read_form, S_read_form, i_read_form, A.f_read_forms, A.g_read_forms, S_read_forms, i_read_forms, A.f_show_forms, A.g_show_forms, S_show_forms, i_show_forms]); repeat ((with_reducible refine And.intro ?_ ?_); omega)
    exact key
  · rw [show formsT fs = Txt.join (Str.ofString ", ") (fs.map formT) from if_neg he] at key
    have e1 : (fs.map frT).isEmpty = false := by
      cases fs with
      | nil => exact absurd rfl he
      | cons a b => rfl
    simp only [e1, Bool.false_eq_true, if_false]
    exact key
def S__law_line_text : TSp := fun ts μ F R => ∃ (tn : T) (ns : List Str) (l : Ln), ts = [tn, l.tr] ∧ LstAt μ tn (ns.map T.str) ∧ (∀ n ∈ ns, isName n = true) ∧ LnOk ns l ∧ R (.str (lineT ns l)) μ
structure A__law_line_text (G : Tab) (Γ : Nat → TSp) : Prop where
  triv : True
abbrev B__law_line_text (G : Tab) (Γ : Nat → TSp) : Prop := ∀ ts μ F R, S__law_line_text ts μ F R → denSs G Γ c__law_line_text (bodyD R F) (startT N__law_line_text.length ts) μ
theorem body__law_line_text {G : Tab} {Γ : Nat → TSp} (A : A__law_line_text G Γ) : B__law_line_text G Γ := by
  rintro ts μ F R ⟨tn, ns, l, rfl, ht, hn, ⟨g0, g1, t0, t1, ⟨qa, b1⟩, ⟨qb, b2⟩, ⟨qc, b3⟩⟩, hR⟩
  unfold c__law_line_text
  simp only [Rh.startT, List.length_cons, List.length_nil, List.map_cons, List.map_nil, List.replicate, List.cons_append, List.nil_append, Nat.reduceAdd, Nat.reduceSub, N__law_line_text]
  have w1 : ∀ n ∈ ns, n.length ≤ 8 := fun n hx => (isName_ok (hn n hx)).2
  have e1 := nm_len (k := 30) (by decide) b1
  have e2 := nm_len (k := 30) (by decide) b2
  have e3 := nm_len (k := 30) (by decide) b3
  have b1 : l.gi.natAbs < 10 ^ 200 := Nat.lt_of_lt_of_le b1 (by decide +kernel)
  have b2 : l.ta.natAbs < 10 ^ 200 := Nat.lt_of_lt_of_le b2 (by decide +kernel)
  have b3 : l.st.natAbs < 10 ^ 200 := Nat.lt_of_lt_of_le b3 (by decide +kernel)
  have a1 : atI (ns.map T.str) l.g = some (T.str ((ns[l.g.toNat]?).getD "")) := by
    rw [at_nn g0, List.getElem?_map, List.getElem?_eq_getElem (by omega)]
    rfl
  have a2 : atI (ns.map T.str) l.t = some (T.str ((ns[l.t.toNat]?).getD "")) := by
    rw [at_nn t0, List.getElem?_map, List.getElem?_eq_getElem (by omega)]
    rfl
  have c1 : ((ns[l.g.toNat]?).getD "").length ≤ 8 := w1 _ (by
    rw [List.getElem?_eq_getElem (by omega)]
    exact List.getElem_mem _)
  have c2 : ((ns[l.t.toNat]?).getD "").length ≤ 8 := w1 _ (by
    rw [List.getElem?_eq_getElem (by omega)]
    exact List.getElem_mem _)
  have d1 : (Str.ofString "belt ").length = 5 := by decide
  have d2 : (Str.ofString " ").length = 1 := by decide
  have en : ∀ n : Int, Str.ofString (toString n) = nmT n := fun _ => rfl
  apply e_cons; simp only [denS]; (try simp_arith [Ln.tr, Rh.idx_at ht, a1]); repeat ((with_reducible refine And.intro ?_ ?_); omega)
  simp only [en, ad_str, sz, Str.length_append, d1, d2]
  repeat (first | refine And.intro (by omega) ?_ | refine And.intro (log_of (by assumption)) ?_)
  apply e_cons; simp only [denS]; (try simp_arith [Ln.tr, Rh.idx_at ht, a2]); repeat ((with_reducible refine And.intro ?_ ?_); omega)
  simp only [en, ad_str, sz, Str.length_append, d1, d2]
  repeat (first | refine And.intro (by omega) ?_ | refine And.intro (log_of (by assumption)) ?_)
  exact fin_id hR
def S__law_lines : TSp := fun ts μ F R => ∃ (cs : List Int) (n : Int), ts = [.scr (cs.map T.int), .int n] ∧ 1 ≤ n ∧ n ≤ 30 ∧ ∀ ls : List Ln, ls.length ≤ 40 → (∀ l ∈ ls, ∀ ns : List Str, (ns.length : Int) = n → LnOk ns l) → ∀ q, μ q = none → R (.own q) (μ.set q (.lst (ls.map Ln.tr)))
structure A__law_lines (G : Tab) (Γ : Nat → TSp) : Prop where
  f__law_mix : G.fn n__law_mix = some i__law_mix
  g__law_mix : Γ n__law_mix = S__law_mix
  f__law_cell : G.fn n__law_cell = some i__law_cell
  g__law_cell : Γ n__law_cell = S__law_cell
abbrev B__law_lines (G : Tab) (Γ : Nat → TSp) : Prop := ∀ ts μ F R, S__law_lines ts μ F R → denSs G Γ c__law_lines (bodyD R F) (startT N__law_lines.length ts) μ
theorem body__law_lines {G : Tab} {Γ : Nat → TSp} (A : A__law_lines G Γ) : B__law_lines G Γ := by
  rintro ts μ F R ⟨cs, n, rfl, hn, hn2, hR⟩
  unfold c__law_lines
  simp only [Rh.startT, List.length_cons, List.length_nil, List.map_cons, List.map_nil, List.replicate, List.cons_append, List.nil_append, Nat.reduceAdd, Nat.reduceSub, N__law_lines]
  apply e_cons; simp only [denS]; (try simp_arith [A.f__law_mix, A.g__law_mix, S__law_mix, i__law_mix, A.f__law_cell, A.g__law_cell, S__law_cell, i__law_cell]); repeat ((with_reducible refine And.intro ?_ ?_); omega)
  intro q hq
  have key : ∀ sz_ : Int, 0 ≤ sz_ → sz_ ≤ 40 → denSs G Γ (c__law_lines.drop 3) (bodyD R F) [some (.scr (cs.map T.int)), some (.int n), some (.own q), some (.int sz_), none, none, none, none, none] (μ.set q (.lst [])) := fun sz_ h0 h1 => by
    show denSs G Γ [_, _] _ _ _
    apply e_cons; simp only [denS]; (try simp_arith [A.f__law_mix, A.g__law_mix, S__law_mix, i__law_mix, A.f__law_cell, A.g__law_cell, S__law_cell, i__law_cell]); repeat ((with_reducible refine And.intro ?_ ?_); omega)
    refine for_map (fun k ρ μ' => ∃ ls : List Ln, ls.length = k ∧ (∀ l ∈ ls, ∀ ns : List Str, (ns.length : Int) = n → LnOk ns l) ∧ (∃ o4 o5 o6 o7 o8, ρ = [some (.scr (cs.map T.int)), some (.int n), some (.own q), some (.int sz_), o4, o5, o6, o7, o8]) ∧ μ' = μ.set q (.lst (ls.map Ln.tr))) ⟨[], rfl, fun _ z => (nomatch z), ⟨_, _, _, _, _, rfl⟩, rfl⟩ ?_ ?_
    · rintro ρ μ' ⟨ls, hl, ha, ⟨o4, o5, o6, o7, o8, rfl⟩, rfl⟩
      refine ⟨trivial, ?_⟩
      rw [List.length_range] at hl
      apply e_cons; simp only [denS]; (try simp_arith [A.f__law_mix, A.g__law_mix, S__law_mix, i__law_mix, A.f__law_cell, A.g__law_cell, S__law_cell, i__law_cell]); repeat ((with_reducible refine And.intro ?_ ?_); omega)
      exact fin_id (hR ls (by omega) ha q hq)
    rintro k p ρ μ' hk ⟨ls, hl, ha, ⟨o4, o5, o6, o7, o8, rfl⟩, rfl⟩
    refine ⟨trivial, ?_⟩
    have hp : p = k ∧ k < sz_.toNat := by
      have h1 := (List.getElem?_eq_some_iff.mp hk).1
      rw [List.length_range] at h1
      rw [List.getElem?_range h1] at hk
      exact ⟨(Option.some.inj hk).symm, h1⟩
    simp_arith [A.f__law_mix, A.g__law_mix, S__law_mix, i__law_mix, A.f__law_cell, A.g__law_cell, S__law_cell, i__law_cell]
    apply e_cons; simp only [denS]; (try simp_arith [A.f__law_mix, A.g__law_mix, S__law_mix, i__law_mix, A.f__law_cell, A.g__law_cell, S__law_cell, i__law_cell]); repeat ((with_reducible refine And.intro ?_ ?_); omega)
    apply e_cons; simp only [denS]; (try simp_arith [A.f__law_mix, A.g__law_mix, S__law_mix, i__law_mix, A.f__law_cell, A.g__law_cell, S__law_cell, i__law_cell]); repeat ((with_reducible refine And.intro ?_ ?_); omega)
    generalize cel cs (12 + (p : Int)) = c
    generalize mxv c (6 + (p : Int)) = m
    have ln : ∀ (a b : Int) , 1 ≤ a → a.natAbs < 10 ^ 30 → 1 ≤ b → b.natAbs < 10 ^ 30 → (ls ++ [(⟨m % n, m / 30 % n, a, b, c / 3 % 1000000000000000000000000000000⟩ : Ln)]).length = k + 1 ∧ ∀ l ∈ ls ++ [(⟨m % n, m / 30 % n, a, b, c / 3 % 1000000000000000000000000000000⟩ : Ln)], ∀ ns : List Str, (ns.length : Int) = n → LnOk ns l := fun a b a1 a2 b1 b2 => by
      refine ⟨by rw [List.length_append, List.length_singleton, hl], fun x hx ns hns => ?_⟩
      rcases List.mem_append.mp hx with hx | hx
      · exact ha x hx ns hns
      · cases List.mem_singleton.mp hx
        exact ⟨Int.emod_nonneg _ (by omega), by rw [hns]; exact Int.emod_lt_of_pos _ (by omega), Int.emod_nonneg _ (by omega), by rw [hns]; exact Int.emod_lt_of_pos _ (by omega), ⟨a1, a2⟩, ⟨b1, b2⟩, by show 0 ≤ c / 3 % 1000000000000000000000000000000; omega, by show (c / 3 % 1000000000000000000000000000000).natAbs < 10 ^ 30; omega⟩
    apply e_cons; simp only [denS]; (try simp_arith [A.f__law_mix, A.g__law_mix, S__law_mix, i__law_mix, A.f__law_cell, A.g__law_cell, S__law_cell, i__law_cell]); repeat ((with_reducible refine And.intro ?_ ?_); omega)
    apply e_cons; simp only [denS]; (try simp_arith [A.f__law_mix, A.g__law_mix, S__law_mix, i__law_mix, A.f__law_cell, A.g__law_cell, S__law_cell, i__law_cell]); repeat ((with_reducible refine And.intro ?_ ?_); omega)
    rcases (by omega : m / 10800 % 2 = 0 ∨ m / 10800 % 2 = 1) with e | e
    · rw [e]
      apply e_cons; simp only [denS]; (try simp_arith [A.f__law_mix, A.g__law_mix, S__law_mix, i__law_mix, A.f__law_cell, A.g__law_cell, S__law_cell, i__law_cell]); repeat ((with_reducible refine And.intro ?_ ?_); omega)
      have L := ln (1 + c % (1000000000000000000000000000000 - 1)) (1 + m / 900 % 12) (by omega) (by omega) (by omega) (by omega)
      exact ⟨_, rfl, by omega, _, _, .refl _ _, _, L.1, L.2, ⟨_, _, _, _, _, rfl⟩, by rw [set_set, List.map_append]; rfl⟩
    · rw [e]
      apply e_cons; simp only [denS]; (try simp_arith [A.f__law_mix, A.g__law_mix, S__law_mix, i__law_mix, A.f__law_cell, A.g__law_cell, S__law_cell, i__law_cell]); repeat ((with_reducible refine And.intro ?_ ?_); omega)
      have L := ln (1 + m / 900 % 12) (1 + c % (1000000000000000000000000000000 - 1)) (by omega) (by omega) (by omega) (by omega)
      exact ⟨_, rfl, by omega, _, _, .refl _ _, _, L.1, L.2, ⟨_, _, _, _, _, rfl⟩, by rw [set_set, List.map_append]; rfl⟩
  apply e_cons; simp only [denS]; (try simp_arith [A.f__law_mix, A.g__law_mix, S__law_mix, i__law_mix, A.f__law_cell, A.g__law_cell, S__law_cell, i__law_cell]); repeat ((with_reducible refine And.intro ?_ ?_); omega)
  apply e_cons; apply e_ife; simp_arith [A.f__law_mix, A.g__law_mix, S__law_mix, i__law_mix, A.f__law_cell, A.g__law_cell, S__law_cell, i__law_cell]; repeat ((with_reducible refine And.intro ?_ ?_); omega)
  by_cases h1 : mxv (cel cs 0) 5 / 13 % 8 = 1
  · rw [if_pos h1]
    apply e_cons; simp only [denS]; (try simp_arith [A.f__law_mix, A.g__law_mix, S__law_mix, i__law_mix, A.f__law_cell, A.g__law_cell, S__law_cell, i__law_cell]); repeat ((with_reducible refine And.intro ?_ ?_); omega)
    exact key 40 (by omega) (by omega)
  · rw [if_neg h1]
    exact key _ (by omega) (by omega)
def S__law_mixed_rows : TSp := fun ts μ F R => ∃ (pn pl : T) (ns : List Str) (ls : List Ln) (tn : Int), ts = [pn, pl, .int tn] ∧ LstAt μ pn (ns.map T.str) ∧ LstAt μ pl (ls.map Ln.tr) ∧ (∀ n ∈ ns, isName n = true) ∧ ns.length ≤ 30 ∧ ls.length ≤ 40 ∧ (∀ l ∈ ls, LnOk ns l) ∧
  ∀ its, ItOk ns 0 its → (its.filterMap id).Perm ls → R (.lst ((itX ns 0 its).map T.str)) μ
structure A__law_mixed_rows (G : Tab) (Γ : Nat → TSp) : Prop where
  f__law_line_text : G.fn n__law_line_text = some i__law_line_text
  g__law_line_text : Γ n__law_line_text = S__law_line_text
abbrev B__law_mixed_rows (G : Tab) (Γ : Nat → TSp) : Prop := ∀ ts μ F R, S__law_mixed_rows ts μ F R → denSs G Γ c__law_mixed_rows (bodyD R F) (startT N__law_mixed_rows.length ts) μ
theorem body__law_mixed_rows {G : Tab} {Γ : Nat → TSp} (A : A__law_mixed_rows G Γ) : B__law_mixed_rows G Γ := by
  rintro ts μ F R ⟨pn, pl, ns, ls, tn, rfl, hpn, hpl, hn, hn30, hl40, hok, hR⟩
  unfold c__law_mixed_rows
  simp only [Rh.startT, List.length_cons, List.length_nil, List.map_cons, List.map_nil, List.replicate, List.cons_append, List.nil_append, Nat.reduceAdd, Nat.reduceSub, N__law_mixed_rows]
  apply e_cons; simp only [denS]; (try simp_arith [A.f__law_line_text, A.g__law_line_text, S__law_line_text, i__law_line_text]); repeat ((with_reducible refine And.intro ?_ ?_); omega)
  intro q hq
  have hpl2 := hpl.set (o := .lst []) hq
  apply e_cons; simp only [denS]; (try simp_arith [A.f__law_line_text, A.g__law_line_text, S__law_line_text, i__law_line_text, lst_at hpl2]); repeat ((with_reducible refine And.intro ?_ ?_); omega)
  intro p hp
  have qp := nofr (set_self (μ := μ) (p := q) (o := .lst [])) hp
  rw [set_ne qp.symm] at hp
  have hp2 : ∀ o, (μ.set q o) p = none := fun o => by rw [set_ne qp.symm]; exact hp
  generalize hM : (fun (a b : Ob) => (μ.set q a).set p b) = M
  have M1 : ∀ a b a', (M a b).set q a' = M a' b := fun a b a' => by
    rw [← hM]
    show ((μ.set q a).set p b).set q a' = (μ.set q a').set p b
    rw [set_comm qp.symm, set_set]
  have M2 : ∀ a b b', (M a b).set p b' = M a b' := fun a b b' => by
    rw [← hM]
    show ((μ.set q a).set p b).set p b' = (μ.set q a).set p b'
    rw [set_set]
  have M3 : ∀ a b, M a b q = some a := fun a b => by
    rw [← hM]
    show ((μ.set q a).set p b) q = some a
    rw [set_ne qp, set_self]
  have M4 : ∀ a b, M a b p = some b := fun a b => by
    rw [← hM]
    exact set_self
  have M5 : ∀ a b, Rh.LstAt (M a b) pn (ns.map T.str) := fun a b => by
    rw [← hM]
    exact (hpn.set hq).set (hp2 _)
  have M6 : ∀ a b, Rh.Sub μ (M a b) := fun a b => by
    rw [← hM]
    exact Sub.put' (Sub.set_none hq) hp
  rw [show (μ.set q (.lst [])).set p (.lst (ls.map Ln.tr)) = M (.lst ((itX ns 0 []).map T.str)) (.lst (ls.map Ln.tr)) from by rw [← hM]; rfl]
  clear hM
  apply e_cons; simp only [denS]; (try simp_arith [A.f__law_line_text, A.g__law_line_text, S__law_line_text, i__law_line_text, Rh.len_at (M5 _ _)]); repeat ((with_reducible refine And.intro ?_ ?_); omega)
  refine for_map (fun k ρ μ' => ∃ its left, (∃ o5 o6, ρ = [some pn, some pl, some (.int tn), some (.own q), some (.own p), o5, o6]) ∧ ItP ns 0 its k ∧ (its.filterMap id ++ left).Perm ls ∧ μ' = M (.lst ((itX ns 0 its).map T.str)) (.lst (left.map Ln.tr))) ⟨[], ls, ⟨_, _, rfl⟩, rfl, .refl _, rfl⟩ ?_ ?_
  · rintro ρ μ' ⟨its, left, ⟨o5, o6, rfl⟩, hi, hpm, rfl⟩
    rw [List.length_range] at hi
    refine ⟨trivial, ?_⟩
    have hlo : ∀ l ∈ left, LnOk ns l := fun l hl => hok l (hpm.mem_iff.mp (List.mem_append_right _ hl))
    have hll := hpm.length_eq
    rw [List.length_append] at hll
    obtain ⟨g1, g2, g3⟩ := ItP.lines (ns := ns) (n := ns.length) left (by rw [List.take_length]; exact hlo)
    have hxl := itX_len hi
    apply e_cons; simp only [denS]; (try simp_arith [A.f__law_line_text, A.g__law_line_text, S__law_line_text, i__law_line_text, M3]); repeat ((with_reducible refine And.intro ?_ ?_); omega)
    refine onG_at (LstAt.own (M4 _ _)) fun gd hgd => ?_
    refine comp_xs (u := fun l => .str (lineT ns l)) (hgd _ (LstAt.own (M4 _ _))) (by rw [sz]; omega) ?_ ?_
    · intro l hl Y N hY
      simp only [wipeT]
      simp_arith [A.f__law_line_text, A.g__law_line_text, S__law_line_text, i__law_line_text]
      exact ⟨ns, l, rfl, M5 _ _, hn, hlo l hl, hY⟩
    show Rh.tAdd false (.own q) (.lst _) _ _
    refine ⟨_, own_slst (M3 _ _), _, rfl, by rw [sz, List.length_map, List.length_map]; omega, fin_sub μ (M6 _ _) ?_⟩
    have := hR (its ++ left.map some) (g1.app hi).ok (by rw [List.filterMap_append, g3]; exact hpm)
    rw [itX_app _ hi, g2, List.map_append] at this
    simpa [List.map_map, Function.comp_def] using this
  rintro k x ρ μ' hk ⟨its, left, ⟨o5, o6, rfl⟩, hi, hpm, rfl⟩
  refine ⟨trivial, ?_⟩
  have hx : x = k ∧ k < ns.length := by
    have h1 := (List.getElem?_eq_some_iff.mp hk).1
    rw [List.length_range] at h1
    rw [List.getElem?_range h1] at hk
    exact ⟨(Option.some.inj hk).symm, h1⟩
  obtain ⟨rfl, hx⟩ := hx
  have ea : atI (ns.map T.str) (x : Int) = some (T.str ((ns[x]?).getD "")) := by
    rw [at_nn (by omega), List.getElem?_map, Int.toNat_natCast, List.getElem?_eq_getElem hx]
    rfl
  have hxl := itX_len hi
  have hll := hpm.length_eq
  rw [List.length_append] at hll
  apply e_cons; simp only [denS]; (try simp_arith [A.f__law_line_text, A.g__law_line_text, S__law_line_text, i__law_line_text, Rh.idx_at (M5 _ _), ea, M3]); repeat ((with_reducible refine And.intro ?_ ?_); omega)
  have d0 : (Str.ofString "work ").length = 5 := by decide
  have d1 : ((ns[x]?).getD (Str.ofString "")).length ≤ 8 := by
    rw [List.getElem?_eq_getElem hx]
    exact (isName_ok (hn _ (List.getElem_mem _))).2
  refine ⟨by omega, by omega, ?_⟩
  have i1 : ItP ns x [none] (x + 1) := ⟨hx, rfl⟩
  have ex : (itX ns 0 its).map T.str ++ [T.str (Str.ofString "work " ++ (ns[x]?).getD (Str.ofString ""))] = (itX ns 0 (its ++ [none])).map T.str := by
    rw [itX_app _ hi, List.map_append]
    rfl
  rw [M1, ex]
  generalize hc : (fun l : Ln => decide (l.g ≤ (x : Int) ∧ l.t ≤ (x : Int) ∧ 0 < ((x : Int) + tn) % 3)) = c
  have hcd : ∀ l, c l = decide (l.g ≤ (x : Int) ∧ l.t ≤ (x : Int) ∧ 0 < ((x : Int) + tn) % 3) := fun l => by rw [← hc]
  clear hc
  apply e_cons; simp only [denS]; (try simp_arith [A.f__law_line_text, A.g__law_line_text, S__law_line_text, i__law_line_text, M4]); repeat ((with_reducible refine And.intro ?_ ?_); omega)
  refine onG_at .lst fun gd hgd => ?_
  refine for_map (fun j ρ μ' => ∃ it2, (∃ o6, ρ = [some pn, some pl, some (.int tn), some (.own q), some (.own p), some (.int x), o6]) ∧ ItP ns 0 it2 (x + 1) ∧ (it2.filterMap id ++ ((left.take j).filter (fun x => !c x) ++ left.drop j)).Perm ls ∧ μ' = M (.lst ((itX ns 0 it2).map T.str)) (.lst (((left.take j).filter (fun x => !c x) ++ left.drop j).map Ln.tr))) ⟨its ++ [none], ⟨_, rfl⟩, i1.app hi, by rw [List.filterMap_append]; simpa using hpm, rfl⟩ ?_ ?_
  · rintro ρ μ' ⟨it2, ⟨o6, rfl⟩, hi2, hp2, rfl⟩
    exact ⟨hgd _ .lst, _, _, .refl _ _, ⟨_, _, rfl⟩, it2, hi2, _, hp2, rfl⟩
  rintro j l ρ μ' hj ⟨it2, ⟨o6, rfl⟩, hi2, hp2, rfl⟩
  refine ⟨hgd _ .lst, ?_⟩
  obtain ⟨hjl, rfl⟩ := List.getElem?_eq_some_iff.mp hj
  simp_arith [A.f__law_line_text, A.g__law_line_text, S__law_line_text, i__law_line_text, Ln.tr]
  apply e_cons; apply e_ife; simp_arith [A.f__law_line_text, A.g__law_line_text, S__law_line_text, i__law_line_text]; repeat ((with_reducible refine And.intro ?_ ?_); omega)
  have kp : c left[j] = false → ∃ ρ3 μ3, Wk [some pn, some pl, some (T.int tn), some (T.own q), some (T.own p), some (T.int x), some (T.tup [T.int left[j].g, T.int left[j].t, T.int left[j].gi, T.int left[j].ta, T.int left[j].st])] (M (.lst ((itX ns 0 it2).map T.str)) (.lst (((left.take j).filter (fun x => !c x) ++ left.drop j).map Ln.tr))) ρ3 μ3 ∧
      (∃ o6, ρ3 = [some pn, some pl, some (T.int tn), some (T.own q), some (T.own p), some (T.int x), o6]) ∧ ∃ x_1, ItP ns 0 x_1 (x + 1) ∧ (List.filterMap id x_1 ++ (List.filter (fun x => !c x) (List.take (j + 1) left) ++ List.drop (j + 1) left)).Perm ls ∧ μ3 = M (Ob.lst (List.map T.str (itX ns 0 x_1))) (Ob.lst (List.map Ln.tr (List.filter (fun x => !c x) (List.take (j + 1) left) ++ List.drop (j + 1) left))) := fun h => by
    rw [← keep_step c hjl h]
    exact ⟨_, _, .refl _ _, ⟨_, rfl⟩, it2, hi2, hp2, rfl⟩
  have h0 := hcd left[j]
  by_cases h1 : left[j].g ≤ (x : Int)
  rotate_left
  · simp only [h1, if_false, if_true]
    exact kp (by rw [h0]; exact decide_eq_false fun z => h1 z.1)
  by_cases h2 : left[j].t ≤ (x : Int)
  rotate_left
  · simp only [h1, h2, if_false, if_true]
    exact kp (by rw [h0]; exact decide_eq_false fun z => h2 z.2.1)
  by_cases h3 : 0 < ((x : Int) + tn) % 3
  rotate_left
  · simp only [h1, h2, h3, if_false, if_true]
    exact kp (by rw [h0]; exact decide_eq_false fun z => h3 z.2.2)
  simp only [h1, h2, h3, if_true]
  have hct : c left[j] = true := by rw [h0]; exact decide_eq_true ⟨h1, h2, h3⟩
  have hlm : left[j] ∈ left := List.getElem_mem _
  have hlo := hok _ (hpm.mem_iff.mp (List.mem_append_right _ hlm))
  have hx2 := itX_len hi2
  have hl2 := hp2.length_eq
  rw [List.length_append] at hl2
  have hmem : left[j] ∈ (left.take j).filter (fun x => !c x) ++ left.drop j := List.mem_append_right _ (by rw [List.drop_eq_getElem_cons hjl]; exact List.mem_cons_self)
  have j1 : ItP ns (x + 1) [some left[j]] (x + 1) := ⟨hlo.take h1 h2, rfl⟩
  apply e_cons; simp only [denS]; (try simp_arith [A.f__law_line_text, A.g__law_line_text, S__law_line_text, i__law_line_text, M3]); repeat ((with_reducible refine And.intro ?_ ?_); omega)
  refine ⟨ns, left[j], rfl, M5 _ _, hn, hlo, ?_⟩
  refine ⟨by omega, ?_⟩
  rw [M1]
  have er : (itX ns 0 it2).map T.str ++ [T.str (lineT ns left[j])] = (itX ns 0 (it2 ++ [some left[j]])).map T.str := by
    rw [itX_app _ hi2, List.map_append]
    rfl
  rw [er]
  apply e_cons; simp only [denS]; (try simp_arith [A.f__law_line_text, A.g__law_line_text, S__law_line_text, i__law_line_text]); repeat ((with_reducible refine And.intro ?_ ?_); omega)
  refine ⟨⟨_, by rw [M4]⟩, ?_⟩
  refine lm_rem_ln (l := left[j]) (M4 _ _) hmem ?_
  rw [M2, rem_step c hjl hct]
  refine ⟨_, _, .refl _ _, ⟨_, rfl⟩, it2 ++ [some left[j]], j1.app hi2, ?_, rfl⟩
  rw [List.filterMap_append]
  show (it2.filterMap id ++ [left[j]] ++ _).Perm ls
  rw [← rem_step c hjl hct, List.append_assoc]
  exact ((List.Perm.append_left _ (List.perm_cons_erase hmem).symm)).trans hp2
def S__law_name : TSp := fun ts μ F R => ∃ c way : Int, ts = [.int c, .int way] ∧ ∀ s, isName s = true → R (.str s) μ
structure A__law_name (G : Tab) (Γ : Nat → TSp) : Prop where
  f__law_mix : G.fn n__law_mix = some i__law_mix
  g__law_mix : Γ n__law_mix = S__law_mix
abbrev B__law_name (G : Tab) (Γ : Nat → TSp) : Prop := ∀ ts μ F R, S__law_name ts μ F R → denSs G Γ c__law_name (bodyD R F) (startT N__law_name.length ts) μ
theorem body__law_name {G : Tab} {Γ : Nat → TSp} (A : A__law_name G Γ) : B__law_name G Γ := by
  rintro ts μ F R ⟨c, way, rfl, h⟩
  unfold c__law_name
  simp only [Rh.startT, List.length_cons, List.length_nil, List.map_cons, List.map_nil, List.replicate, List.cons_append, List.nil_append, Nat.reduceAdd, Nat.reduceSub, N__law_name]
  apply e_cons; simp only [denS]; (try simp_arith [A.f__law_mix, A.g__law_mix, S__law_mix, i__law_mix]); repeat ((with_reducible refine And.intro ?_ ?_); omega)
  apply e_cons; simp only [denS]; (try simp_arith [A.f__law_mix, A.g__law_mix, S__law_mix, i__law_mix]); repeat ((with_reducible refine And.intro ?_ ?_); omega)
  have j0 := Int.emod_nonneg (mxv c (way + 3)) (show (8 : Int) ≠ 0 by decide)
  have j1 := Int.emod_lt_of_pos (mxv c (way + 3)) (show (0 : Int) < 8 by decide)
  apply e_cons; simp only [denS]; (try simp_arith [A.f__law_mix, A.g__law_mix, S__law_mix, i__law_mix]); repeat ((with_reducible refine And.intro ?_ ?_); omega)
  have ha : (abc.cps.toList).length = 26 := by decide
  refine comp_pure (fun _ => true) (fun t => match t with | .int i => .str ⟨#[((abc.cps.toList)[(mxv c (way + 5 * i) % 26).toNat]?).getD 0]⟩ | t => t) ?_ ?_ ?_ ?_
  · trivial
  · rw [List.length_map, List.length_range, sz]
    omega
  · intro t ht Y N hY _
    obtain ⟨i, hi, rfl⟩ := List.mem_map.mp ht
    have k0 := Int.emod_nonneg (mxv c (way + 5 * (i : Nat))) (show (26 : Int) ≠ 0 by decide)
    have k1 := Int.emod_lt_of_pos (mxv c (way + 5 * (i : Nat))) (show (0 : Int) < 26 by decide)
    have hY := hY rfl
    simp only [wipeT]
    simp_arith [A.f__law_mix, A.g__law_mix, S__law_mix, i__law_mix]
    refine ⟨by decide, _, (at_nn k0).trans (List.getElem?_eq_getElem (by show _ < (abc.cps.toList).length; omega)), ?_⟩
    have hY : Y (.str ⟨#[((abc.cps.toList)[(mxv c (way + 5 * (i : Nat)) % 26).toNat]?).getD 0]⟩) μ := hY
    rw [List.getElem?_eq_getElem (by omega)] at hY
    exact hY
  rw [List.filter_eq_self.mpr (fun _ _ => rfl), List.map_map]
  have ey : (List.range (1 + mxv c (way + 3) % 8).toNat).map ((fun t : T => match t with | .int i => T.str ⟨#[((abc.cps.toList)[(mxv c (way + 5 * i) % 26).toNat]?).getD 0]⟩ | t => t) ∘ fun i : Nat => T.int (i : Int)) = ((List.range (1 + mxv c (way + 3) % 8).toNat).map fun i : Nat => (⟨#[((abc.cps.toList)[(mxv c (way + 5 * (i : Int)) % 26).toNat]?).getD 0]⟩ : Str)).map T.str := by
    rw [List.map_map]
    rfl
  rw [ey]
  have hyl : ((List.range (1 + mxv c (way + 3) % 8).toNat).map fun i : Nat => (⟨#[((abc.cps.toList)[(mxv c (way + 5 * (i : Int)) % 26).toNat]?).getD 0]⟩ : Str)).length = (1 + mxv c (way + 3) % 8).toNat := by simp
  have hy1 : ∀ y ∈ ((List.range (1 + mxv c (way + 3) % 8).toNat).map fun i : Nat => (⟨#[((abc.cps.toList)[(mxv c (way + 5 * (i : Int)) % 26).toNat]?).getD 0]⟩ : Str)), ∃ x ∈ abc.cps.toList, sgs y = [x] := fun y hy => by
    obtain ⟨i, _, rfl⟩ := List.mem_map.mp hy
    have k0 := Int.emod_nonneg (mxv c (way + 5 * (i : Nat))) (show (26 : Int) ≠ 0 by decide)
    have k1 := Int.emod_lt_of_pos (mxv c (way + 5 * (i : Nat))) (show (0 : Int) < 26 by decide)
    rw [List.getElem?_eq_getElem (by omega)]
    exact ⟨_, List.getElem_mem _, rfl⟩
  generalize ((List.range (1 + mxv c (way + 3) % 8).toNat).map fun i : Nat => (⟨#[((abc.cps.toList)[(mxv c (way + 5 * (i : Int)) % 26).toNat]?).getD 0]⟩ : Str)) = ys at hyl hy1 ⊢
  clear ey
  have key : ∀ l : List Str, (∀ y ∈ l, ∃ x ∈ abc.cps.toList, sgs y = [x]) → (l.map (·.length)).sum = l.length ∧ ((l.map sgs).flatten).length = l.length ∧ ∀ c ∈ (l.map sgs).flatten, c ∈ abc.cps.toList := fun l => by
    induction l with
    | nil => intro _; exact ⟨rfl, rfl, fun c hc => nomatch hc⟩
    | cons y r ih =>
      intro h
      obtain ⟨x, hx, e⟩ := h y List.mem_cons_self
      obtain ⟨i1, i2, i3⟩ := ih fun y hy => h y (List.mem_cons_of_mem _ hy)
      have e1 : y.length = 1 := by rw [sgs_len, e]; rfl
      refine ⟨by rw [List.map_cons, List.sum_cons, i1, e1, List.length_cons]; omega, by rw [List.map_cons, List.flatten_cons, List.length_append, i2, e]; simp; omega, fun c hc => ?_⟩
      rw [List.map_cons, List.flatten_cons, e] at hc
      rcases List.mem_append.mp hc with z | z
      · cases List.mem_singleton.mp z
        exact hx
      · exact i3 c z
  obtain ⟨i1, i2, i3⟩ := key ys hy1
  simp_arith []
  refine ⟨ys, .inl rfl, by rw [i1]; have : (Str.ofString "").length = 0 := by decide
                           rw [this]; omega, fin_id (h _ (isName_iff.mpr ?_))⟩
  have e5 : (Txt.join "" ys).cps.toList = (ys.map sgs).flatten := sgs_join ys
  rw [e5]
  exact ⟨by omega, by omega, i3⟩
def S__law_names : TSp := fun ts μ F R => ∃ cs : List Int, ts = [.scr (cs.map T.int)] ∧ ∀ ns : List Str, NOk ns → 1 ≤ ns.length → ∀ q, μ q = none → R (.own q) (μ.set q (.lst (ns.map T.str)))
structure A__law_names (G : Tab) (Γ : Nat → TSp) : Prop where
  f__law_name : G.fn n__law_name = some i__law_name
  g__law_name : Γ n__law_name = S__law_name
  f__law_cell : G.fn n__law_cell = some i__law_cell
  g__law_cell : Γ n__law_cell = S__law_cell
  f__law_mix : G.fn n__law_mix = some i__law_mix
  g__law_mix : Γ n__law_mix = S__law_mix
abbrev B__law_names (G : Tab) (Γ : Nat → TSp) : Prop := ∀ ts μ F R, S__law_names ts μ F R → denSs G Γ c__law_names (bodyD R F) (startT N__law_names.length ts) μ
theorem body__law_names {G : Tab} {Γ : Nat → TSp} (A : A__law_names G Γ) : B__law_names G Γ := by
  rintro ts μ F R ⟨cs, rfl, hR⟩
  unfold c__law_names
  simp only [Rh.startT, List.length_cons, List.length_nil, List.map_cons, List.map_nil, List.replicate, List.cons_append, List.nil_append, Nat.reduceAdd, Nat.reduceSub, N__law_names]
  apply e_cons; simp only [denS]; (try simp_arith [A.f__law_name, A.g__law_name, S__law_name, i__law_name, A.f__law_cell, A.g__law_cell, S__law_cell, i__law_cell, A.f__law_mix, A.g__law_mix, S__law_mix, i__law_mix]); repeat ((with_reducible refine And.intro ?_ ?_); omega)
  apply e_cons; simp only [denS]; (try simp_arith [A.f__law_name, A.g__law_name, S__law_name, i__law_name, A.f__law_cell, A.g__law_cell, S__law_cell, i__law_cell, A.f__law_mix, A.g__law_mix, S__law_mix, i__law_mix]); repeat ((with_reducible refine And.intro ?_ ?_); omega)
  intro s0 hs0 q hq
  have z1 := isName_ok hs0
  apply e_cons; simp only [denS]; (try simp_arith [A.f__law_name, A.g__law_name, S__law_name, i__law_name, A.f__law_cell, A.g__law_cell, S__law_cell, i__law_cell, A.f__law_mix, A.g__law_mix, S__law_mix, i__law_mix]); repeat ((with_reducible refine And.intro ?_ ?_); omega)
  refine for_map (fun k ρ μ' => ∃ ns : List Str, NOk (s0 :: ns) ∧ (∃ o3 o4 o5 o6 o7 o8, ρ = [some (.scr (cs.map T.int)), some (.str (Str.ofString "abcdefghijklmnopqrstuvwxyz")), some (.own q), o3, o4, o5, o6, o7, o8]) ∧ μ' = μ.set q (.lst ((s0 :: ns).map T.str))) ⟨[], ⟨fun n hn => by cases List.mem_singleton.mp hn; exact hs0, by simp, by simp⟩, ⟨_, _, _, _, _, _, rfl⟩, rfl⟩ ?_ ?_
  · rintro ρ μ' ⟨ns, hN, ⟨o3, o4, o5, o6, o7, o8, rfl⟩, rfl⟩
    refine ⟨trivial, ?_⟩
    apply e_cons; simp only [denS]; (try simp_arith [A.f__law_name, A.g__law_name, S__law_name, i__law_name, A.f__law_cell, A.g__law_cell, S__law_cell, i__law_cell, A.f__law_mix, A.g__law_mix, S__law_mix, i__law_mix]); repeat ((with_reducible refine And.intro ?_ ?_); omega)
    exact fin_id (hR _ hN (by simp) q hq)
  rintro k p ρ μ' hk ⟨ns, hN, ⟨o3, o4, o5, o6, o7, o8, rfl⟩, rfl⟩
  refine ⟨trivial, ?_⟩
  have h30 := hN.le
  have last : ∀ (n : Str) (D : SEnds) (o4 o5 o7 o8 : Option T), isName n = true → (∀ ns2 : List Str, NOk (s0 :: ns2) → D.nx [some (.scr (cs.map T.int)), some (.str (Str.ofString "abcdefghijklmnopqrstuvwxyz")), some (.own q), some (.int p), o4, o5, some (.str n), o7, o8] (μ.set q (.lst ((s0 :: ns2).map T.str)))) → denSs G Γ [.ife (.andor true [.cmp .NotIn (.var 6) (.var 2), .cmp .Lt (.bif .len false [.var 2]) (.cint 30)]) [.expr (.lm .append (.var 2) [.var 6])] []] D [some (.scr (cs.map T.int)), some (.str (Str.ofString "abcdefghijklmnopqrstuvwxyz")), some (.own q), some (.int p), o4, o5, some (.str n), o7, o8] (μ.set q (.lst ((s0 :: ns).map T.str))) := fun n D o4 o5 o7 o8 hn hD => by
    apply e_cons; apply e_ife; simp_arith [A.f__law_name, A.g__law_name, S__law_name, i__law_name, A.f__law_cell, A.g__law_cell, S__law_cell, i__law_cell, A.f__law_mix, A.g__law_mix, S__law_mix, i__law_mix]; repeat ((with_reducible refine And.intro ?_ ?_); omega)
    refine in_own (xs := s0 :: ns) set_self rfl (Has.of (x := n) (isName_ok hn).1) hN.ok ?_
    simp_arith []
    by_cases hm : n ∈ s0 :: ns
    · simp only [hm, not_true_eq_false, if_false]
      exact hD ns hN
    simp only [hm, not_false_eq_true, if_true]
    by_cases hl : ((ns.length + 1 : Nat) : Int) < 30
    · rw [if_pos hl]
      apply e_cons; simp only [denS]; (try simp_arith [A.f__law_name, A.g__law_name, S__law_name, i__law_name, A.f__law_cell, A.g__law_cell, S__law_cell, i__law_cell, A.f__law_mix, A.g__law_mix, S__law_mix, i__law_mix, set_self]); repeat ((with_reducible refine And.intro ?_ ?_); omega)
      have := hD (ns ++ [n]) (by have := hN.add hn hm (by rw [List.length_cons]; omega); rwa [List.cons_append] at this)
      rw [set_set]
      simpa using this
    · rw [if_neg hl]
      exact hD ns hN
  simp_arith [A.f__law_name, A.g__law_name, S__law_name, i__law_name, A.f__law_cell, A.g__law_cell, S__law_cell, i__law_cell, A.f__law_mix, A.g__law_mix, S__law_mix, i__law_mix]
  apply e_cons; simp only [denS]; (try simp_arith [A.f__law_name, A.g__law_name, S__law_name, i__law_name, A.f__law_cell, A.g__law_cell, S__law_cell, i__law_cell, A.f__law_mix, A.g__law_mix, S__law_mix, i__law_mix]); repeat ((with_reducible refine And.intro ?_ ?_); omega)
  apply e_cons; simp only [denS]; (try simp_arith [A.f__law_name, A.g__law_name, S__law_name, i__law_name, A.f__law_cell, A.g__law_cell, S__law_cell, i__law_cell, A.f__law_mix, A.g__law_mix, S__law_mix, i__law_mix]); repeat ((with_reducible refine And.intro ?_ ?_); omega)
  apply e_cons; simp only [denS]; (try simp_arith [A.f__law_name, A.g__law_name, S__law_name, i__law_name, A.f__law_cell, A.g__law_cell, S__law_cell, i__law_cell, A.f__law_mix, A.g__law_mix, S__law_mix, i__law_mix]); repeat ((with_reducible refine And.intro ?_ ?_); omega)
  intro n1 hn1
  generalize mxv (cel cs (2 + (p : Int))) (3 + (p : Int)) = m
  apply e_cons; apply e_ife; simp_arith [A.f__law_name, A.g__law_name, S__law_name, i__law_name, A.f__law_cell, A.g__law_cell, S__law_cell, i__law_cell, A.f__law_mix, A.g__law_mix, S__law_mix, i__law_mix]; repeat ((with_reducible refine And.intro ?_ ?_); omega)
  have fin : ∀ (o4 o5 : Option T) (n : Str) (o7 o8 : Option T) (ns2 : List Str), NOk (s0 :: ns2) → ∃ ρ3 μ3, Wk [some (.scr (cs.map T.int)), some (.str (Str.ofString "abcdefghijklmnopqrstuvwxyz")), some (.own q), some (.int p), o4, o5, some (.str n), o7, o8] (μ.set q (.lst ((s0 :: ns2).map T.str))) ρ3 μ3 ∧ ∃ ns : List Str, NOk (s0 :: ns) ∧ (∃ o3 o4 o5 o6 o7 o8, ρ3 = [some (.scr (cs.map T.int)), some (.str (Str.ofString "abcdefghijklmnopqrstuvwxyz")), some (.own q), o3, o4, o5, o6, o7, o8]) ∧ μ3 = μ.set q (.lst (T.str s0 :: ns.map T.str)) :=
    fun o4 o5 n o7 o8 ns2 hN => ⟨_, _, .refl _ _, ns2, hN, ⟨_, _, _, _, _, _, rfl⟩, rfl⟩
  by_cases h3 : 0 < m % 3
  rotate_left
  · rw [if_neg h3]
    exact last _ _ _ _ _ _ hn1 fun ns2 h2 => fin _ _ _ _ _ ns2 h2
  rw [if_pos h3]
  obtain ⟨q1, q2, q3⟩ := isName_iff.mp hs0
  rw [Array.length_toList] at q1 q2
  have q1 : 1 ≤ s0.length := q1
  have i0 := Int.emod_nonneg (m / 3) (show ((s0.length : Nat) : Int) ≠ 0 by omega)
  have i1 := Int.emod_lt_of_pos (m / 3) (show (0 : Int) < (s0.length : Nat) by omega)
  have j0 := Int.emod_nonneg (m / 24) (show (26 : Int) ≠ 0 by decide)
  have j1 := Int.emod_lt_of_pos (m / 24) (show (0 : Int) < 26 by decide)
  apply e_cons; simp only [denS]; (try simp_arith [A.f__law_name, A.g__law_name, S__law_name, i__law_name, A.f__law_cell, A.g__law_cell, S__law_cell, i__law_cell, A.f__law_mix, A.g__law_mix, S__law_mix, i__law_mix, set_self]); repeat ((with_reducible refine And.intro ?_ ?_); omega)
  apply e_cons; simp only [denS]; (try simp_arith [A.f__law_name, A.g__law_name, S__law_name, i__law_name, A.f__law_cell, A.g__law_cell, S__law_cell, i__law_cell, A.f__law_mix, A.g__law_mix, S__law_mix, i__law_mix]); repeat ((with_reducible refine And.intro ?_ ?_); omega)
  apply e_cons; simp only [denS]; (try simp_arith [A.f__law_name, A.g__law_name, S__law_name, i__law_name, A.f__law_cell, A.g__law_cell, S__law_cell, i__law_cell, A.f__law_mix, A.g__law_mix, S__law_mix, i__law_mix, tSlice]); repeat ((with_reducible refine And.intro ?_ ?_); omega)
  generalize m / 3 % (s0.length : Int) = i at i0 i1 ⊢
  generalize m / 24 % 26 = j at j0 j1 ⊢
  have ha : (abc.cps.toList).length = 26 := by decide
  have ej : atI (Str.ofString "abcdefghijklmnopqrstuvwxyz").cps.toList j = some ((abc.cps.toList)[j.toNat]'(by omega)) := (at_nn j0).trans (List.getElem?_eq_getElem (by show j.toNat < (abc.cps.toList).length; omega))
  have hm := List.getElem_mem (l := abc.cps.toList) (show j.toNat < (abc.cps.toList).length by omega)
  generalize (abc.cps.toList)[j.toNat]'(by omega) = x at ej hm
  obtain ⟨n2, n3, n4⟩ := near_ok hs0 i0 i1 hm
  have g4 : (⟨#[x]⟩ : Str).length = 1 := rfl
  have g3 : (cutS s0 none (some i) ++ ⟨#[x]⟩ : Str).length ≤ 9 := by rw [sgs_len, sgs_app, List.length_append, sgs_one, ← sgs_len]; simp; omega
  refine ⟨by decide, x, ej, by rw [g4]; omega, by omega, by omega, ?_⟩
  exact last _ _ _ _ _ _ n2 fun ns2 h2 => fin _ _ _ _ _ ns2 h2
def S_law : TSp := sLawT
structure A_law (G : Tab) (Γ : Nat → TSp) : Prop where
  f__law_names : G.fn n__law_names = some i__law_names
  g__law_names : Γ n__law_names = S__law_names
  f__law_cell : G.fn n__law_cell = some i__law_cell
  g__law_cell : Γ n__law_cell = S__law_cell
  f__law_lines : G.fn n__law_lines = some i__law_lines
  g__law_lines : Γ n__law_lines = S__law_lines
  f_Hall_init : G.fn n_Hall_init = some i_Hall_init
  g_Hall_init : Γ n_Hall_init = S_Hall_init
  c_Hall : G.cl 3 = some ⟨"Hall", n_Hall_init⟩
  f_Hall_work : G.fn n_Hall_work = some i_Hall_work
  g_Hall_work : Γ n_Hall_work = S_Hall_work
  f_Hall_belt : G.fn n_Hall_belt = some i_Hall_belt
  g_Hall_belt : Γ n_Hall_belt = S_Hall_belt
  f__law_line_text : G.fn n__law_line_text = some i__law_line_text
  g__law_line_text : Γ n__law_line_text = S__law_line_text
  f_show_hall : G.fn n_show_hall = some i_show_hall
  g_show_hall : Γ n_show_hall = S_show_hall
  f_read_hall : G.fn n_read_hall = some i_read_hall
  g_read_hall : Γ n_read_hall = S_read_hall
  f_Hall_names : G.fn n_Hall_names = some i_Hall_names
  g_Hall_names : Γ n_Hall_names = S_Hall_names
  f_Hall_belts : G.fn n_Hall_belts = some i_Hall_belts
  g_Hall_belts : Γ n_Hall_belts = S_Hall_belts
  f__law_mixed_rows : G.fn n__law_mixed_rows = some i__law_mixed_rows
  g__law_mixed_rows : Γ n__law_mixed_rows = S__law_mixed_rows
  f__law_forms_good : G.fn n__law_forms_good = some i__law_forms_good
  g__law_forms_good : Γ n__law_forms_good = S__law_forms_good
abbrev B_law (G : Tab) (Γ : Nat → TSp) : Prop := ∀ ts μ F R, S_law ts μ F R → denSs G Γ c_law (bodyD R F) (startT N_law.length ts) μ
theorem law_tail {G : Tab} {Γ : Nat → TSp} (A : A_law G Γ) {F : XP} {R : RP} (hR : ∀ μ', R (.bl true) μ') {cs : List Int} {ns : List Str} {ls : List Ln} {tn tl : T} {μ : Sto} (hn : NOk ns) (hl40 : ls.length ≤ 40) (hok : ∀ l ∈ ls, LnOk ns l) (ht : LstAt μ tn (ns.map T.str)) (hl : LstAt μ tl (ls.map Ln.tr)) :
    denSs G Γ (c_law.drop 4) (bodyD R F) [some (.scr (cs.map T.int)), some tn, some tl, none, none, none, none, none, none, none, none, none] μ := by
  unfold c_law
  simp only [List.drop_succ_cons, List.drop_zero]
  have hsk : ShowOk ns ls := ⟨hn.nm, hn.le, by omega, fun l hl => ⟨(hok l hl).g0, (hok l hl).g1, (hok l hl).t0, (hok l hl).t1⟩, fun l hl => by
    have k : (10 : Nat) ^ 30 ≤ 10 ^ 200 := by decide +kernel
    have q := hok l hl
    exact ⟨Nat.lt_of_lt_of_le q.a.2 k, Nat.lt_of_lt_of_le q.b.2 k, Nat.lt_of_lt_of_le q.c.2 k⟩⟩
  apply e_cons; simp only [denS]; (try simp_arith [A.f__law_names, A.g__law_names, S__law_names, i__law_names, A.f__law_cell, A.g__law_cell, S__law_cell, i__law_cell, A.f__law_lines, A.g__law_lines, S__law_lines, i__law_lines, A.f_Hall_init, A.g_Hall_init, S_Hall_init, i_Hall_init, A.c_Hall, A.f_Hall_work, A.g_Hall_work, S_Hall_work, i_Hall_work, A.f_Hall_belt, A.g_Hall_belt, S_Hall_belt, i_Hall_belt, A.f__law_line_text, A.g__law_line_text, S__law_line_text, i__law_line_text, A.f_show_hall, A.g_show_hall, S_show_hall, i_show_hall, A.f_read_hall, A.g_read_hall, S_read_hall, i_read_hall, A.f_Hall_names, A.g_Hall_names, S_Hall_names, i_Hall_names, A.f_Hall_belts, A.g_Hall_belts, S_Hall_belts, i_Hall_belts, A.f__law_mixed_rows, A.g__law_mixed_rows, S__law_mixed_rows, i__law_mixed_rows, A.f__law_forms_good, A.g__law_forms_good, S__law_forms_good, i__law_forms_good, newL]); repeat ((with_reducible refine And.intro ?_ ?_); omega)
  intro hh f0 k1 k2 e1 e2 ne
  have H := HallAt.init e1 e2 ne
  have n1 : k1 ≠ hh := fun e => by
    rw [e, set_self] at e1
    cases e1
  have n2 : k2 ≠ hh := fun e => by
    rw [e, set_self] at e2
    cases e2
  rw [set_ne n1] at e1
  rw [set_ne n2] at e2
  have sb : Rh.Sub μ ((((μ.set hh (.obj 3 [])).set k1 (.lst [])).set k2 (.lst [])).set hh (.obj 3 [.own k1, .own k2])) := Lw.Sub.put' (Lw.Sub.put' (Lw.Sub.put' (Rh.Sub.set_none f0) e1) e2) f0
  generalize ((((μ.set hh (.obj 3 [])).set k1 (.lst [])).set k2 (.lst [])).set hh (.obj 3 [.own k1, .own k2])) = μ1 at H sb ⊢
  apply e_cons; simp only [denS]; (try simp_arith [A.f__law_names, A.g__law_names, S__law_names, i__law_names, A.f__law_cell, A.g__law_cell, S__law_cell, i__law_cell, A.f__law_lines, A.g__law_lines, S__law_lines, i__law_lines, A.f_Hall_init, A.g_Hall_init, S_Hall_init, i_Hall_init, A.c_Hall, A.f_Hall_work, A.g_Hall_work, S_Hall_work, i_Hall_work, A.f_Hall_belt, A.g_Hall_belt, S_Hall_belt, i_Hall_belt, A.f__law_line_text, A.g__law_line_text, S__law_line_text, i__law_line_text, A.f_show_hall, A.g_show_hall, S_show_hall, i_show_hall, A.f_read_hall, A.g_read_hall, S_read_hall, i_read_hall, A.f_Hall_names, A.g_Hall_names, S_Hall_names, i_Hall_names, A.f_Hall_belts, A.g_Hall_belts, S_Hall_belts, i_Hall_belts, A.f__law_mixed_rows, A.g__law_mixed_rows, S__law_mixed_rows, i__law_mixed_rows, A.f__law_forms_good, A.g__law_forms_good, S__law_forms_good, i__law_forms_good]); repeat ((with_reducible refine And.intro ?_ ?_); omega)
  refine onG_at (lstSub ht sb) fun gd hgd => ?_
  refine for_map (fun k ρ μ' => (∃ o4, ρ = [some (.scr (cs.map T.int)), some tn, some tl, some (.own hh), o4, none, none, none, none, none, none, none]) ∧ HallAt μ' hh k1 k2 (ns.take k) [] ∧ Rh.Sub μ μ') ⟨⟨_, rfl⟩, H, sb⟩ ?_ ?_
  rotate_left
  · rintro k n ρ μ' hk ⟨⟨o4, rfl⟩, H3, sb⟩
    refine ⟨hgd _ (lstSub ht sb), ?_⟩
    obtain ⟨hkl, rfl⟩ := List.getElem?_eq_some_iff.mp hk
    have hm := hn.nm _ (List.getElem_mem hkl)
    have hn30 := hn.le
    have hml := (isName_ok hm).2
    simp_arith [A.f__law_names, A.g__law_names, S__law_names, i__law_names, A.f__law_cell, A.g__law_cell, S__law_cell, i__law_cell, A.f__law_lines, A.g__law_lines, S__law_lines, i__law_lines, A.f_Hall_init, A.g_Hall_init, S_Hall_init, i_Hall_init, A.c_Hall, A.f_Hall_work, A.g_Hall_work, S_Hall_work, i_Hall_work, A.f_Hall_belt, A.g_Hall_belt, S_Hall_belt, i_Hall_belt, A.f__law_line_text, A.g__law_line_text, S__law_line_text, i__law_line_text, A.f_show_hall, A.g_show_hall, S_show_hall, i_show_hall, A.f_read_hall, A.g_read_hall, S_read_hall, i_read_hall, A.f_Hall_names, A.g_Hall_names, S_Hall_names, i_Hall_names, A.f_Hall_belts, A.g_Hall_belts, S_Hall_belts, i_Hall_belts, A.f__law_mixed_rows, A.g__law_mixed_rows, S__law_mixed_rows, i__law_mixed_rows, A.f__law_forms_good, A.g__law_forms_good, S__law_forms_good, i__law_forms_good]
    apply e_cons; simp only [denS]; (try simp_arith [A.f__law_names, A.g__law_names, S__law_names, i__law_names, A.f__law_cell, A.g__law_cell, S__law_cell, i__law_cell, A.f__law_lines, A.g__law_lines, S__law_lines, i__law_lines, A.f_Hall_init, A.g_Hall_init, S_Hall_init, i_Hall_init, A.c_Hall, A.f_Hall_work, A.g_Hall_work, S_Hall_work, i_Hall_work, A.f_Hall_belt, A.g_Hall_belt, S_Hall_belt, i_Hall_belt, A.f__law_line_text, A.g__law_line_text, S__law_line_text, i__law_line_text, A.f_show_hall, A.g_show_hall, S_show_hall, i_show_hall, A.f_read_hall, A.g_read_hall, S_read_hall, i_read_hall, A.f_Hall_names, A.g_Hall_names, S_Hall_names, i_Hall_names, A.f_Hall_belts, A.g_Hall_belts, S_Hall_belts, i_Hall_belts, A.f__law_mixed_rows, A.g__law_mixed_rows, S__law_mixed_rows, i__law_mixed_rows, A.f__law_forms_good, A.g__law_forms_good, S__law_forms_good, i__law_forms_good, H3.o]); repeat ((with_reducible refine And.intro ?_ ?_); omega)
    refine ⟨k1, k2, ns.take k, [], H3, by omega, (isName_ok hm).1, fun x hx => hn.ok x (List.mem_of_mem_take hx), ?_⟩
    rw [if_neg (by rw [hm]; decide), if_neg (not_take hn.nd hkl), if_neg (by rw [List.length_take]; omega)]
    refine ⟨_, _, .refl _ _, ⟨_, rfl⟩, ?_, Lw.Sub.put' sb e1⟩
    rw [List.take_add_one, hk]
    exact H3.addW _
  rintro ρ μ' ⟨⟨o4, rfl⟩, H3, sb⟩
  rw [List.take_length] at H3
  refine ⟨hgd _ (lstSub ht sb), ?_⟩
  apply e_cons; simp only [denS]; (try simp_arith [A.f__law_names, A.g__law_names, S__law_names, i__law_names, A.f__law_cell, A.g__law_cell, S__law_cell, i__law_cell, A.f__law_lines, A.g__law_lines, S__law_lines, i__law_lines, A.f_Hall_init, A.g_Hall_init, S_Hall_init, i_Hall_init, A.c_Hall, A.f_Hall_work, A.g_Hall_work, S_Hall_work, i_Hall_work, A.f_Hall_belt, A.g_Hall_belt, S_Hall_belt, i_Hall_belt, A.f__law_line_text, A.g__law_line_text, S__law_line_text, i__law_line_text, A.f_show_hall, A.g_show_hall, S_show_hall, i_show_hall, A.f_read_hall, A.g_read_hall, S_read_hall, i_read_hall, A.f_Hall_names, A.g_Hall_names, S_Hall_names, i_Hall_names, A.f_Hall_belts, A.g_Hall_belts, S_Hall_belts, i_Hall_belts, A.f__law_mixed_rows, A.g__law_mixed_rows, S__law_mixed_rows, i__law_mixed_rows, A.f__law_forms_good, A.g__law_forms_good, S__law_forms_good, i__law_forms_good]); repeat ((with_reducible refine And.intro ?_ ?_); omega)
  refine onG_at (lstSub hl sb) fun gd2 hgd2 => ?_
  clear hgd gd H
  refine for_map (fun k ρ μ' => (∃ o5, ρ = [some (.scr (cs.map T.int)), some tn, some tl, some (.own hh), o4, o5, none, none, none, none, none, none]) ∧ HallAt μ' hh k1 k2 ns (ls.take k) ∧ Rh.Sub μ μ') ⟨⟨_, rfl⟩, H3, sb⟩ ?_ ?_
  rotate_left
  · clear H3 sb
    clear μ'
    rintro k l ρ μ' hk ⟨⟨o5, rfl⟩, H3, sb⟩
    refine ⟨hgd2 _ (lstSub hl sb), ?_⟩
    obtain ⟨hkl, rfl⟩ := List.getElem?_eq_some_iff.mp hk
    obtain ⟨g0, g1, t0, t1, ⟨a1, a2⟩, ⟨b1, b2⟩, ⟨c1, c2⟩⟩ := hok _ (List.getElem_mem hkl)
    simp_arith [A.f__law_names, A.g__law_names, S__law_names, i__law_names, A.f__law_cell, A.g__law_cell, S__law_cell, i__law_cell, A.f__law_lines, A.g__law_lines, S__law_lines, i__law_lines, A.f_Hall_init, A.g_Hall_init, S_Hall_init, i_Hall_init, A.c_Hall, A.f_Hall_work, A.g_Hall_work, S_Hall_work, i_Hall_work, A.f_Hall_belt, A.g_Hall_belt, S_Hall_belt, i_Hall_belt, A.f__law_line_text, A.g__law_line_text, S__law_line_text, i__law_line_text, A.f_show_hall, A.g_show_hall, S_show_hall, i_show_hall, A.f_read_hall, A.g_read_hall, S_read_hall, i_read_hall, A.f_Hall_names, A.g_Hall_names, S_Hall_names, i_Hall_names, A.f_Hall_belts, A.g_Hall_belts, S_Hall_belts, i_Hall_belts, A.f__law_mixed_rows, A.g__law_mixed_rows, S__law_mixed_rows, i__law_mixed_rows, A.f__law_forms_good, A.g__law_forms_good, S__law_forms_good, i__law_forms_good, Ln.tr]
    apply e_cons; simp only [denS]; (try simp_arith [A.f__law_names, A.g__law_names, S__law_names, i__law_names, A.f__law_cell, A.g__law_cell, S__law_cell, i__law_cell, A.f__law_lines, A.g__law_lines, S__law_lines, i__law_lines, A.f_Hall_init, A.g_Hall_init, S_Hall_init, i_Hall_init, A.c_Hall, A.f_Hall_work, A.g_Hall_work, S_Hall_work, i_Hall_work, A.f_Hall_belt, A.g_Hall_belt, S_Hall_belt, i_Hall_belt, A.f__law_line_text, A.g__law_line_text, S__law_line_text, i__law_line_text, A.f_show_hall, A.g_show_hall, S_show_hall, i_show_hall, A.f_read_hall, A.g_read_hall, S_read_hall, i_read_hall, A.f_Hall_names, A.g_Hall_names, S_Hall_names, i_Hall_names, A.f_Hall_belts, A.g_Hall_belts, S_Hall_belts, i_Hall_belts, A.f__law_mixed_rows, A.g__law_mixed_rows, S__law_mixed_rows, i__law_mixed_rows, A.f__law_forms_good, A.g__law_forms_good, S__law_forms_good, i__law_forms_good, H3.o]); repeat ((with_reducible refine And.intro ?_ ?_); omega)
    refine ⟨k1, k2, ns, ls.take k, ls[k], rfl, rfl, rfl, rfl, rfl, H3, ?_⟩
    rw [if_neg (by simp; omega), if_neg (by simp; omega), if_neg (by omega), if_neg (by rw [List.length_take]; omega)]
    refine ⟨_, _, .refl _ _, ⟨_, rfl⟩, ?_, Lw.Sub.put' sb e2⟩
    rw [List.take_add_one, hk]
    exact H3.addB _
  clear H3 sb
  clear μ'
  rintro ρ μ' ⟨⟨o5, rfl⟩, H3, sb⟩
  rw [List.take_length] at H3
  refine ⟨hgd2 _ (lstSub hl sb), ?_⟩
  clear hgd2 gd2
  have ht2 := lstSub ht sb
  have hl2 := lstSub hl sb
  have hb8 : ∀ n ∈ ns, n.length ≤ 8 := fun n h => (isName_ok (hn.nm n h)).2
  clear e1 e2 f0 sb n1 n2 ne
  apply e_cons; simp only [denS]; (try simp_arith [A.f__law_names, A.g__law_names, S__law_names, i__law_names, A.f__law_cell, A.g__law_cell, S__law_cell, i__law_cell, A.f__law_lines, A.g__law_lines, S__law_lines, i__law_lines, A.f_Hall_init, A.g_Hall_init, S_Hall_init, i_Hall_init, A.c_Hall, A.f_Hall_work, A.g_Hall_work, S_Hall_work, i_Hall_work, A.f_Hall_belt, A.g_Hall_belt, S_Hall_belt, i_Hall_belt, A.f__law_line_text, A.g__law_line_text, S__law_line_text, i__law_line_text, A.f_show_hall, A.g_show_hall, S_show_hall, i_show_hall, A.f_read_hall, A.g_read_hall, S_read_hall, i_read_hall, A.f_Hall_names, A.g_Hall_names, S_Hall_names, i_Hall_names, A.f_Hall_belts, A.g_Hall_belts, S_Hall_belts, i_Hall_belts, A.f__law_mixed_rows, A.g__law_mixed_rows, S__law_mixed_rows, i__law_mixed_rows, A.f__law_forms_good, A.g__law_forms_good, S__law_forms_good, i__law_forms_good]); repeat ((with_reducible refine And.intro ?_ ?_); omega)
  refine onG_at ht2 fun g1 h1 => ?_
  refine comp_xs (u := fun n => .str (workT n)) (h1 _ ht2) (by rw [sz]; have := hn.le; omega) ?_ ?_
  · intro n hm Y N hY
    simp only [wipeT]
    have := hb8 n hm
    have d0 : (Str.ofString "work ").length = 5 := by decide
    simp_arith [A.f__law_names, A.g__law_names, S__law_names, i__law_names, A.f__law_cell, A.g__law_cell, S__law_cell, i__law_cell, A.f__law_lines, A.g__law_lines, S__law_lines, i__law_lines, A.f_Hall_init, A.g_Hall_init, S_Hall_init, i_Hall_init, A.c_Hall, A.f_Hall_work, A.g_Hall_work, S_Hall_work, i_Hall_work, A.f_Hall_belt, A.g_Hall_belt, S_Hall_belt, i_Hall_belt, A.f__law_line_text, A.g__law_line_text, S__law_line_text, i__law_line_text, A.f_show_hall, A.g_show_hall, S_show_hall, i_show_hall, A.f_read_hall, A.g_read_hall, S_read_hall, i_read_hall, A.f_Hall_names, A.g_Hall_names, S_Hall_names, i_Hall_names, A.f_Hall_belts, A.g_Hall_belts, S_Hall_belts, i_Hall_belts, A.f__law_mixed_rows, A.g__law_mixed_rows, S__law_mixed_rows, i__law_mixed_rows, A.f__law_forms_good, A.g__law_forms_good, S__law_forms_good, i__law_forms_good]
    exact ⟨by omega, hY⟩
  simp only [newL, Bool.false_eq_true, if_false]
  refine onG_at hl2 fun g2 h2 => ?_
  refine comp_xs (u := fun l => .str (lineT ns l)) (h2 _ hl2) (by rw [sz]; omega) ?_ ?_
  · intro l hm Y N hY
    simp only [wipeT]
    simp_arith [A.f__law_names, A.g__law_names, S__law_names, i__law_names, A.f__law_cell, A.g__law_cell, S__law_cell, i__law_cell, A.f__law_lines, A.g__law_lines, S__law_lines, i__law_lines, A.f_Hall_init, A.g_Hall_init, S_Hall_init, i_Hall_init, A.c_Hall, A.f_Hall_work, A.g_Hall_work, S_Hall_work, i_Hall_work, A.f_Hall_belt, A.g_Hall_belt, S_Hall_belt, i_Hall_belt, A.f__law_line_text, A.g__law_line_text, S__law_line_text, i__law_line_text, A.f_show_hall, A.g_show_hall, S_show_hall, i_show_hall, A.f_read_hall, A.g_read_hall, S_read_hall, i_read_hall, A.f_Hall_names, A.g_Hall_names, S_Hall_names, i_Hall_names, A.f_Hall_belts, A.g_Hall_belts, S_Hall_belts, i_Hall_belts, A.f__law_mixed_rows, A.g__law_mixed_rows, S__law_mixed_rows, i__law_mixed_rows, A.f__law_forms_good, A.g__law_forms_good, S__law_forms_good, i__law_forms_good]
    exact ⟨ns, l, rfl, ht2, hn.nm, hok l hm, hY⟩
  show Rh.tAdd false (.lst _) (.lst _) _ _
  have hn30 := hn.le
  refine ⟨_, rfl, _, rfl, by rw [sz, List.length_map, List.length_map]; omega, ?_⟩
  show denSs G Γ _ _ _ _
  have er : ns.map (fun n => T.str (workT n)) ++ ls.map (fun l => T.str (lineT ns l)) = (rowsOf ns ls).map T.str := by
    rw [rowsOf, List.map_append, List.map_map, List.map_map]
    rfl
  rw [er]
  have hzl : (rowsOf ns ls).length ≤ 70 := by
    rw [rowsOf, List.length_append, List.length_map, List.length_map]
    omega
  have hzo := rows_sOk hn.nm ls
  have eR : ∀ (μ : Sto) (q : Addr) (neg : Bool) (R : RP), μ q = some (.lst ((rowsOf ns ls).map T.str)) → tEq neg (.own q) (.lst ((rowsOf ns ls).map T.str)) μ R = R (.bl (!neg)) μ := fun μ q neg R e => by
    refine (eq_at (rowsOf ns ls) (rowsOf ns ls) (LstAt.own e) LstAt.lst rfl rfl hzo hzo).trans ?_
    cases neg <;> simp
  apply e_cons; simp only [denS]; (try simp_arith [A.f__law_names, A.g__law_names, S__law_names, i__law_names, A.f__law_cell, A.g__law_cell, S__law_cell, i__law_cell, A.f__law_lines, A.g__law_lines, S__law_lines, i__law_lines, A.f_Hall_init, A.g_Hall_init, S_Hall_init, i_Hall_init, A.c_Hall, A.f_Hall_work, A.g_Hall_work, S_Hall_work, i_Hall_work, A.f_Hall_belt, A.g_Hall_belt, S_Hall_belt, i_Hall_belt, A.f__law_line_text, A.g__law_line_text, S__law_line_text, i__law_line_text, A.f_show_hall, A.g_show_hall, S_show_hall, i_show_hall, A.f_read_hall, A.g_read_hall, S_read_hall, i_read_hall, A.f_Hall_names, A.g_Hall_names, S_Hall_names, i_Hall_names, A.f_Hall_belts, A.g_Hall_belts, S_Hall_belts, i_Hall_belts, A.f__law_mixed_rows, A.g__law_mixed_rows, S__law_mixed_rows, i__law_mixed_rows, A.f__law_forms_good, A.g__law_forms_good, S__law_forms_good, i__law_forms_good]); repeat ((with_reducible refine And.intro ?_ ?_); omega)
  refine ⟨k1, k2, ns, ls, H3, hsk, fun q1 hq1 => ?_⟩
  have eq1 : (μ'.set q1 (.lst ((rowsOf ns ls).map T.str))) q1 = some (.lst ((rowsOf ns ls).map T.str)) := set_self
  apply e_cons; apply e_ife; simp_arith [A.f__law_names, A.g__law_names, S__law_names, i__law_names, A.f__law_cell, A.g__law_cell, S__law_cell, i__law_cell, A.f__law_lines, A.g__law_lines, S__law_lines, i__law_lines, A.f_Hall_init, A.g_Hall_init, S_Hall_init, i_Hall_init, A.c_Hall, A.f_Hall_work, A.g_Hall_work, S_Hall_work, i_Hall_work, A.f_Hall_belt, A.g_Hall_belt, S_Hall_belt, i_Hall_belt, A.f__law_line_text, A.g__law_line_text, S__law_line_text, i__law_line_text, A.f_show_hall, A.g_show_hall, S_show_hall, i_show_hall, A.f_read_hall, A.g_read_hall, S_read_hall, i_read_hall, A.f_Hall_names, A.g_Hall_names, S_Hall_names, i_Hall_names, A.f_Hall_belts, A.g_Hall_belts, S_Hall_belts, i_Hall_belts, A.f__law_mixed_rows, A.g__law_mixed_rows, S__law_mixed_rows, i__law_mixed_rows, A.f__law_forms_good, A.g__law_forms_good, S__law_forms_good, i__law_forms_good, eR _ _ _ _ set_self, is_at (LstAt.own set_self)]; repeat ((with_reducible refine And.intro ?_ ?_); omega)
  apply e_cons; simp only [denS]; (try simp_arith [A.f__law_names, A.g__law_names, S__law_names, i__law_names, A.f__law_cell, A.g__law_cell, S__law_cell, i__law_cell, A.f__law_lines, A.g__law_lines, S__law_lines, i__law_lines, A.f_Hall_init, A.g_Hall_init, S_Hall_init, i_Hall_init, A.c_Hall, A.f_Hall_work, A.g_Hall_work, S_Hall_work, i_Hall_work, A.f_Hall_belt, A.g_Hall_belt, S_Hall_belt, i_Hall_belt, A.f__law_line_text, A.g__law_line_text, S__law_line_text, i__law_line_text, A.f_show_hall, A.g_show_hall, S_show_hall, i_show_hall, A.f_read_hall, A.g_read_hall, S_read_hall, i_read_hall, A.f_Hall_names, A.g_Hall_names, S_Hall_names, i_Hall_names, A.f_Hall_belts, A.g_Hall_belts, S_Hall_belts, i_Hall_belts, A.f__law_mixed_rows, A.g__law_mixed_rows, S__law_mixed_rows, i__law_mixed_rows, A.f__law_forms_good, A.g__law_forms_good, S__law_forms_good, i__law_forms_good, eq1]); repeat ((with_reducible refine And.intro ?_ ?_); omega)
  rw [set_set]
  have H3 := H3.fresh (ob := .lst ((rowsOf ns ls).map T.str ++ [.str "later"])) hq1
  have sb1 := Rh.Sub.set_none (o := .lst ((rowsOf ns ls).map T.str ++ [.str "later"])) hq1
  have ht2 := lstSub ht2 sb1
  have hl2 := lstSub hl2 sb1
  clear eq1
  change denSs G Γ _ _ _ (μ'.set q1 (.lst ((rowsOf ns ls).map T.str ++ [.str "later"])))
  generalize μ'.set q1 (.lst ((rowsOf ns ls).map T.str ++ [.str "later"])) = μ2 at H3 sb1 ht2 hl2 ⊢
  apply e_cons; simp only [denS]; (try simp_arith [A.f__law_names, A.g__law_names, S__law_names, i__law_names, A.f__law_cell, A.g__law_cell, S__law_cell, i__law_cell, A.f__law_lines, A.g__law_lines, S__law_lines, i__law_lines, A.f_Hall_init, A.g_Hall_init, S_Hall_init, i_Hall_init, A.c_Hall, A.f_Hall_work, A.g_Hall_work, S_Hall_work, i_Hall_work, A.f_Hall_belt, A.g_Hall_belt, S_Hall_belt, i_Hall_belt, A.f__law_line_text, A.g__law_line_text, S__law_line_text, i__law_line_text, A.f_show_hall, A.g_show_hall, S_show_hall, i_show_hall, A.f_read_hall, A.g_read_hall, S_read_hall, i_read_hall, A.f_Hall_names, A.g_Hall_names, S_Hall_names, i_Hall_names, A.f_Hall_belts, A.g_Hall_belts, S_Hall_belts, i_Hall_belts, A.f__law_mixed_rows, A.g__law_mixed_rows, S__law_mixed_rows, i__law_mixed_rows, A.f__law_forms_good, A.g__law_forms_good, S__law_forms_good, i__law_forms_good]); repeat ((with_reducible refine And.intro ?_ ?_); omega)
  obtain ⟨its0, j1, j2, j3⟩ := rows_it hok
  obtain ⟨b1, b2, b3, b4⟩ := it_all hn j1 (by rw [j2]; exact hl40)
  rw [j3] at b1 b2 b3
  rw [j2] at b4
  refine ⟨rowsOf ns ls, LstAt.lst, by omega, b2, _, b3, .inl ⟨_, b4, fun μ3 h2 m1 m2 sb2 H4 hf => ?_⟩⟩
  have H4 : HallAt μ3 h2 m1 m2 ns ls := H4
  have H3b := H3
  have H3 : HallAt μ3 hh k1 k2 ns ls := H3.sub sb2
  have ht3 := lstSub ht2 sb2
  have hl3 := lstSub hl2 sb2
  have eN : ∀ (μ : Sto) (t : T) (neg : Bool) (R : RP), LstAt μ t (ns.map T.str) → tEq neg (.lst (ns.map T.str)) t μ R = R (.bl (!neg)) μ := fun μ t neg R e => by
    refine (eq_at ns ns LstAt.lst e rfl rfl hn.ok hn.ok).trans ?_
    cases neg <;> simp
  have eL : ∀ (μ : Sto) (t : T) (neg : Bool) (R : RP), LstAt μ t (ls.map Ln.tr) → tEq neg (.lst (ls.map Ln.tr)) t μ R = R (.bl (!neg)) μ := fun μ t neg R e => by
    refine (eq_at ls ls LstAt.lst e rfl rfl (fun _ _ => trivial) (fun _ _ => trivial)).trans ?_
    cases neg <;> simp
  apply e_cons; apply e_ife; simp_arith [A.f__law_names, A.g__law_names, S__law_names, i__law_names, A.f__law_cell, A.g__law_cell, S__law_cell, i__law_cell, A.f__law_lines, A.g__law_lines, S__law_lines, i__law_lines, A.f_Hall_init, A.g_Hall_init, S_Hall_init, i_Hall_init, A.c_Hall, A.f_Hall_work, A.g_Hall_work, S_Hall_work, i_Hall_work, A.f_Hall_belt, A.g_Hall_belt, S_Hall_belt, i_Hall_belt, A.f__law_line_text, A.g__law_line_text, S__law_line_text, i__law_line_text, A.f_show_hall, A.g_show_hall, S_show_hall, i_show_hall, A.f_read_hall, A.g_read_hall, S_read_hall, i_read_hall, A.f_Hall_names, A.g_Hall_names, S_Hall_names, i_Hall_names, A.f_Hall_belts, A.g_Hall_belts, S_Hall_belts, i_Hall_belts, A.f__law_mixed_rows, A.g__law_mixed_rows, S__law_mixed_rows, i__law_mixed_rows, A.f__law_forms_good, A.g__law_forms_good, S__law_forms_good, i__law_forms_good, H4.o]; repeat ((with_reducible refine And.intro ?_ ?_); omega)
  refine ⟨m1, m2, ns, ls, H4, .inr ?_⟩
  dsimp only
  rw [eN _ _ _ _ ht3]
  refine ⟨_, rfl, ?_⟩
  rw [if_pos (by rfl)]
  refine ⟨_, H4.o, m1, m2, ns, ls, H4, .inr ?_⟩
  dsimp only
  rw [eL _ _ _ _ hl3]
  refine ⟨_, rfl, ?_⟩
  rw [if_pos (by rfl)]
  refine ⟨k1, k2, ns, ls, H3, hsk, fun q3 hq3 => ?_⟩
  rw [eR _ _ _ _ set_self]
  refine ⟨_, rfl, ?_⟩
  rw [if_neg (by decide)]
  have sb3 := Rh.Sub.set_none (o := .lst ((rowsOf ns ls).map T.str)) hq3
  have ht4 := lstSub ht3 sb3
  have hl4 := lstSub hl3 sb3
  clear hq3 H4 H3b H3
  generalize μ3.set q3 (.lst ((rowsOf ns ls).map T.str)) = μ4 at sb3 ht4 hl4 ⊢
  apply e_cons; simp only [denS]; (try simp_arith [A.f__law_names, A.g__law_names, S__law_names, i__law_names, A.f__law_cell, A.g__law_cell, S__law_cell, i__law_cell, A.f__law_lines, A.g__law_lines, S__law_lines, i__law_lines, A.f_Hall_init, A.g_Hall_init, S_Hall_init, i_Hall_init, A.c_Hall, A.f_Hall_work, A.g_Hall_work, S_Hall_work, i_Hall_work, A.f_Hall_belt, A.g_Hall_belt, S_Hall_belt, i_Hall_belt, A.f__law_line_text, A.g__law_line_text, S__law_line_text, i__law_line_text, A.f_show_hall, A.g_show_hall, S_show_hall, i_show_hall, A.f_read_hall, A.g_read_hall, S_read_hall, i_read_hall, A.f_Hall_names, A.g_Hall_names, S_Hall_names, i_Hall_names, A.f_Hall_belts, A.g_Hall_belts, S_Hall_belts, i_Hall_belts, A.f__law_mixed_rows, A.g__law_mixed_rows, S__law_mixed_rows, i__law_mixed_rows, A.f__law_forms_good, A.g__law_forms_good, S__law_forms_good, i__law_forms_good]); repeat ((with_reducible refine And.intro ?_ ?_); omega)
  refine ⟨ns, ht4, ls, hl4, hn.nm, hn30, hl40, hok, fun its i1 i2 => ?_⟩
  have hkl := i2.length_eq
  obtain ⟨c1, c2, c3, c4⟩ := it_all hn i1 (by omega)
  apply e_cons; simp only [denS]; (try simp_arith [A.f__law_names, A.g__law_names, S__law_names, i__law_names, A.f__law_cell, A.g__law_cell, S__law_cell, i__law_cell, A.f__law_lines, A.g__law_lines, S__law_lines, i__law_lines, A.f_Hall_init, A.g_Hall_init, S_Hall_init, i_Hall_init, A.c_Hall, A.f_Hall_work, A.g_Hall_work, S_Hall_work, i_Hall_work, A.f_Hall_belt, A.g_Hall_belt, S_Hall_belt, i_Hall_belt, A.f__law_line_text, A.g__law_line_text, S__law_line_text, i__law_line_text, A.f_show_hall, A.g_show_hall, S_show_hall, i_show_hall, A.f_read_hall, A.g_read_hall, S_read_hall, i_read_hall, A.f_Hall_names, A.g_Hall_names, S_Hall_names, i_Hall_names, A.f_Hall_belts, A.g_Hall_belts, S_Hall_belts, i_Hall_belts, A.f__law_mixed_rows, A.g__law_mixed_rows, S__law_mixed_rows, i__law_mixed_rows, A.f__law_forms_good, A.g__law_forms_good, S__law_forms_good, i__law_forms_good]); repeat ((with_reducible refine And.intro ?_ ?_); omega)
  refine ⟨itX ns 0 its, LstAt.lst, by omega, c2, _, c3, .inl ⟨_, c4, fun μ5 h5 m3 m4 sb4 H5 hf => ?_⟩⟩
  have hib := it_belts (ns := ns) its 0
  have hio := it_len hn.nm its 0 i1
  have hks : ∀ l ∈ its.filterMap id, LnOk ns l := fun l hl => hok l (i2.mem_iff.mp hl)
  generalize its.filterMap id = ks at i2 hkl H5 hib hks
  have H5 : HallAt μ5 h5 m3 m4 ns ks := H5
  have ht5 := lstSub ht4 sb4
  have hl5 := lstSub hl4 sb4
  have hsk2 : ShowOk ns ks := ⟨hn.nm, hn.le, by omega, fun l hl => ⟨(hks l hl).g0, (hks l hl).g1, (hks l hl).t0, (hks l hl).t1⟩, fun l hl => by
    have k : (10 : Nat) ^ 30 ≤ 10 ^ 200 := by decide +kernel
    have q := hks l hl
    exact ⟨Nat.lt_of_lt_of_le q.a.2 k, Nat.lt_of_lt_of_le q.b.2 k, Nat.lt_of_lt_of_le q.c.2 k⟩⟩
  apply e_cons; apply e_ife; simp_arith [A.f__law_names, A.g__law_names, S__law_names, i__law_names, A.f__law_cell, A.g__law_cell, S__law_cell, i__law_cell, A.f__law_lines, A.g__law_lines, S__law_lines, i__law_lines, A.f_Hall_init, A.g_Hall_init, S_Hall_init, i_Hall_init, A.c_Hall, A.f_Hall_work, A.g_Hall_work, S_Hall_work, i_Hall_work, A.f_Hall_belt, A.g_Hall_belt, S_Hall_belt, i_Hall_belt, A.f__law_line_text, A.g__law_line_text, S__law_line_text, i__law_line_text, A.f_show_hall, A.g_show_hall, S_show_hall, i_show_hall, A.f_read_hall, A.g_read_hall, S_read_hall, i_read_hall, A.f_Hall_names, A.g_Hall_names, S_Hall_names, i_Hall_names, A.f_Hall_belts, A.g_Hall_belts, S_Hall_belts, i_Hall_belts, A.f__law_mixed_rows, A.g__law_mixed_rows, S__law_mixed_rows, i__law_mixed_rows, A.f__law_forms_good, A.g__law_forms_good, S__law_forms_good, i__law_forms_good, H5.o, bf_sortT]; repeat ((with_reducible refine And.intro ?_ ?_); omega)
  refine ⟨m3, m4, ns, ks, H5, .inr ?_⟩
  dsimp only
  rw [eN _ _ _ _ ht5]
  refine ⟨_, rfl, ?_⟩
  rw [if_pos (by rfl)]
  refine ⟨_, H5.o, m3, m4, ns, ks, H5, .inr ?_⟩
  have q1 : ∀ a ∈ ks.map lnI, a.length = 5 ∧ TS.Bd (10 ^ 30) a := fun a ha => by
    obtain ⟨l, hl, rfl⟩ := List.mem_map.mp ha
    exact lnI_bd hn.le (hks l hl)
  have q2 : ∀ a ∈ ls.map lnI, a.length = 5 ∧ TS.Bd (10 ^ 30) a := fun a ha => by
    obtain ⟨l, hl, rfl⟩ := List.mem_map.mp ha
    exact lnI_bd hn.le (hok l hl)
  refine ⟨_, rfl, ks.map lnI, by rw [List.map_map]; rfl, 5, by decide, by rw [List.length_map]; omega, 10 ^ 30, q1, fun M1 p1 w1 => ?_⟩
  refine ⟨_, vl_at hl5, ls.map lnI, by rw [List.map_map]; rfl, 5, by decide, by rw [List.length_map]; omega, 10 ^ 30, q2, fun M2 p2 w2 => ?_⟩
  obtain rfl := sorted_same (i2.map lnI) q1 p1 p2 w1 w2
  have hpt : PureT 9 (.lst (M1.map fun ns => T.tup (ns.map T.int))) := fun t ht => by
    obtain ⟨a, _, rfl⟩ := List.mem_map.mp ht
    intro t ht
    obtain ⟨b, _, rfl⟩ := List.mem_map.mp ht
    trivial
  refine eq_pure hpt rfl ⟨_, rfl, ?_⟩
  rw [if_neg (by decide)]
  apply e_cons; simp only [denS]; (try simp_arith [A.f__law_names, A.g__law_names, S__law_names, i__law_names, A.f__law_cell, A.g__law_cell, S__law_cell, i__law_cell, A.f__law_lines, A.g__law_lines, S__law_lines, i__law_lines, A.f_Hall_init, A.g_Hall_init, S_Hall_init, i_Hall_init, A.c_Hall, A.f_Hall_work, A.g_Hall_work, S_Hall_work, i_Hall_work, A.f_Hall_belt, A.g_Hall_belt, S_Hall_belt, i_Hall_belt, A.f__law_line_text, A.g__law_line_text, S__law_line_text, i__law_line_text, A.f_show_hall, A.g_show_hall, S_show_hall, i_show_hall, A.f_read_hall, A.g_read_hall, S_read_hall, i_read_hall, A.f_Hall_names, A.g_Hall_names, S_Hall_names, i_Hall_names, A.f_Hall_belts, A.g_Hall_belts, S_Hall_belts, i_Hall_belts, A.f__law_mixed_rows, A.g__law_mixed_rows, S__law_mixed_rows, i__law_mixed_rows, A.f__law_forms_good, A.g__law_forms_good, S__law_forms_good, i__law_forms_good]); repeat ((with_reducible refine And.intro ?_ ?_); omega)
  refine onG_at .lst fun gd3 hgd3 => ?_
  refine comp_pure (fun t => match t with | .str z => isBelt z | _ => false) id (hgd3 _ .lst) (by rw [List.length_map, sz]; omega) ?_ ?_
  · intro t ht Y N hY hN
    obtain ⟨z, hz, rfl⟩ := List.mem_map.mp ht
    simp only [wipeT]
    simp_arith [A.f__law_names, A.g__law_names, S__law_names, i__law_names, A.f__law_cell, A.g__law_cell, S__law_cell, i__law_cell, A.f__law_lines, A.g__law_lines, S__law_lines, i__law_lines, A.f_Hall_init, A.g_Hall_init, S_Hall_init, i_Hall_init, A.c_Hall, A.f_Hall_work, A.g_Hall_work, S_Hall_work, i_Hall_work, A.f_Hall_belt, A.g_Hall_belt, S_Hall_belt, i_Hall_belt, A.f__law_line_text, A.g__law_line_text, S__law_line_text, i__law_line_text, A.f_show_hall, A.g_show_hall, S_show_hall, i_show_hall, A.f_read_hall, A.g_read_hall, S_read_hall, i_read_hall, A.f_Hall_names, A.g_Hall_names, S_Hall_names, i_Hall_names, A.f_Hall_belts, A.g_Hall_belts, S_Hall_belts, i_Hall_belts, A.f__law_mixed_rows, A.g__law_mixed_rows, S__law_mixed_rows, i__law_mixed_rows, A.f__law_forms_good, A.g__law_forms_good, S__law_forms_good, i__law_forms_good, tSlice]
    have hzl := hio z hz
    refine ⟨by omega, ?_⟩
    by_cases h : cutS z none (some 5) = Str.ofString "belt "
    · rw [if_pos h]
      exact hY (decide_eq_true h)
    · rw [if_neg h]
      exact hN (decide_eq_false h)
  have hfl : ((itX ns 0 its).map T.str).filter (fun t => match t with | .str z => isBelt z | _ => false) = (ks.map (lineT ns)).map T.str := by
    rw [List.filter_map, ← hib]
    rfl
  rw [hfl, List.map_id]
  clear hfl
  apply e_cons; simp only [denS]; (try simp_arith [A.f__law_names, A.g__law_names, S__law_names, i__law_names, A.f__law_cell, A.g__law_cell, S__law_cell, i__law_cell, A.f__law_lines, A.g__law_lines, S__law_lines, i__law_lines, A.f_Hall_init, A.g_Hall_init, S_Hall_init, i_Hall_init, A.c_Hall, A.f_Hall_work, A.g_Hall_work, S_Hall_work, i_Hall_work, A.f_Hall_belt, A.g_Hall_belt, S_Hall_belt, i_Hall_belt, A.f__law_line_text, A.g__law_line_text, S__law_line_text, i__law_line_text, A.f_show_hall, A.g_show_hall, S_show_hall, i_show_hall, A.f_read_hall, A.g_read_hall, S_read_hall, i_read_hall, A.f_Hall_names, A.g_Hall_names, S_Hall_names, i_Hall_names, A.f_Hall_belts, A.g_Hall_belts, S_Hall_belts, i_Hall_belts, A.f__law_mixed_rows, A.g__law_mixed_rows, S__law_mixed_rows, i__law_mixed_rows, A.f__law_forms_good, A.g__law_forms_good, S__law_forms_good, i__law_forms_good, newL]); repeat ((with_reducible refine And.intro ?_ ?_); omega)
  refine ⟨m3, m4, ns, ks, H5, hsk2, fun q5 hq5 => ?_⟩
  rw [Rh.len_at (lstSub ht5 (Rh.Sub.set_none hq5)), List.length_map]
  refine ⟨some ns.length, rfl, ?_⟩
  have hdr : ((rowsOf ns ks).map T.str).drop ns.length = (ks.map (lineT ns)).map T.str := by
    rw [rowsOf, List.map_append, List.drop_left' (by rw [List.length_map, List.length_map])]
  rw [Rh.slc_at (LstAt.own set_self), Rh.cut_from (by omega) (by rw [List.length_map, rowsOf, List.length_append, List.length_map]; omega), Int.toNat_natCast, hdr]
  have ok3 : ∀ z ∈ ks.map (lineT ns), sOk z := fun z hz => by
    obtain ⟨l, _, rfl⟩ := List.mem_map.mp hz
    exact line_sOk hn.nm l
  have e3 := fun (μ : Sto) (R : RP) => eq_at (μ := μ) (neg := false) (R := R) (ks.map (lineT ns)) (ks.map (lineT ns)) LstAt.lst LstAt.lst rfl rfl ok3 ok3
  simp only [newL, Bool.false_eq_true, if_false]
  refine (e3 _ _).mpr ?_
  simp only [Bool.false_eq_true, if_false, decide_true]
  rw [tr_bl, if_pos rfl]
  exact fin_id (hR _)
theorem body_law {G : Tab} {Γ : Nat → TSp} (A : A_law G Γ) : B_law G Γ := by
  rintro ts μ F R ⟨cs, rfl, hl, hb, h⟩
  unfold c_law
  simp only [Rh.startT, List.length_cons, List.length_nil, List.map_cons, List.map_nil, List.replicate, List.cons_append, List.nil_append, Nat.reduceAdd, Nat.reduceSub, N_law]
  apply e_cons; simp only [denS]; (try simp_arith [A.f__law_names, A.g__law_names, S__law_names, i__law_names, A.f__law_cell, A.g__law_cell, S__law_cell, i__law_cell, A.f__law_lines, A.g__law_lines, S__law_lines, i__law_lines, A.f_Hall_init, A.g_Hall_init, S_Hall_init, i_Hall_init, A.c_Hall, A.f_Hall_work, A.g_Hall_work, S_Hall_work, i_Hall_work, A.f_Hall_belt, A.g_Hall_belt, S_Hall_belt, i_Hall_belt, A.f__law_line_text, A.g__law_line_text, S__law_line_text, i__law_line_text, A.f_show_hall, A.g_show_hall, S_show_hall, i_show_hall, A.f_read_hall, A.g_read_hall, S_read_hall, i_read_hall, A.f_Hall_names, A.g_Hall_names, S_Hall_names, i_Hall_names, A.f_Hall_belts, A.g_Hall_belts, S_Hall_belts, i_Hall_belts, A.f__law_mixed_rows, A.g__law_mixed_rows, S__law_mixed_rows, i__law_mixed_rows, A.f__law_forms_good, A.g__law_forms_good, S__law_forms_good, i__law_forms_good]); repeat ((with_reducible refine And.intro ?_ ?_); omega)
  intro ns hn h1 q hq
  have key : ∀ (tn : T) (ns : List Str) (μ : Sto), NOk ns → LstAt μ tn (ns.map T.str) → denSs G Γ (c_law.drop 2) (bodyD R F) [some (.scr (cs.map T.int)), some tn, none, none, none, none, none, none, none, none, none, none] μ := fun tn ns μ hn ht => by
    show denSs G Γ (.asg _ _ :: .ife _ _ _ :: c_law.drop 4) _ _ _
    apply e_cons; simp only [denS]; (try simp_arith [A.f__law_names, A.g__law_names, S__law_names, i__law_names, A.f__law_cell, A.g__law_cell, S__law_cell, i__law_cell, A.f__law_lines, A.g__law_lines, S__law_lines, i__law_lines, A.f_Hall_init, A.g_Hall_init, S_Hall_init, i_Hall_init, A.c_Hall, A.f_Hall_work, A.g_Hall_work, S_Hall_work, i_Hall_work, A.f_Hall_belt, A.g_Hall_belt, S_Hall_belt, i_Hall_belt, A.f__law_line_text, A.g__law_line_text, S__law_line_text, i__law_line_text, A.f_show_hall, A.g_show_hall, S_show_hall, i_show_hall, A.f_read_hall, A.g_read_hall, S_read_hall, i_read_hall, A.f_Hall_names, A.g_Hall_names, S_Hall_names, i_Hall_names, A.f_Hall_belts, A.g_Hall_belts, S_Hall_belts, i_Hall_belts, A.f__law_mixed_rows, A.g__law_mixed_rows, S__law_mixed_rows, i__law_mixed_rows, A.f__law_forms_good, A.g__law_forms_good, S__law_forms_good, i__law_forms_good]); repeat ((with_reducible refine And.intro ?_ ?_); omega)
    apply e_cons; apply e_ife; simp_arith [A.f__law_names, A.g__law_names, S__law_names, i__law_names, A.f__law_cell, A.g__law_cell, S__law_cell, i__law_cell, A.f__law_lines, A.g__law_lines, S__law_lines, i__law_lines, A.f_Hall_init, A.g_Hall_init, S_Hall_init, i_Hall_init, A.c_Hall, A.f_Hall_work, A.g_Hall_work, S_Hall_work, i_Hall_work, A.f_Hall_belt, A.g_Hall_belt, S_Hall_belt, i_Hall_belt, A.f__law_line_text, A.g__law_line_text, S__law_line_text, i__law_line_text, A.f_show_hall, A.g_show_hall, S_show_hall, i_show_hall, A.f_read_hall, A.g_read_hall, S_read_hall, i_read_hall, A.f_Hall_names, A.g_Hall_names, S_Hall_names, i_Hall_names, A.f_Hall_belts, A.g_Hall_belts, S_Hall_belts, i_Hall_belts, A.f__law_mixed_rows, A.g__law_mixed_rows, S__law_mixed_rows, i__law_mixed_rows, A.f__law_forms_good, A.g__law_forms_good, S__law_forms_good, i__law_forms_good, Rh.len_at ht]; repeat ((with_reducible refine And.intro ?_ ?_); omega)
    by_cases h0 : (0 : Int) < ((ns.length : Nat) : Int)
    · rw [if_pos h0]
      have hn30 := hn.le
      apply e_cons; simp only [denS]; (try simp_arith [A.f__law_names, A.g__law_names, S__law_names, i__law_names, A.f__law_cell, A.g__law_cell, S__law_cell, i__law_cell, A.f__law_lines, A.g__law_lines, S__law_lines, i__law_lines, A.f_Hall_init, A.g_Hall_init, S_Hall_init, i_Hall_init, A.c_Hall, A.f_Hall_work, A.g_Hall_work, S_Hall_work, i_Hall_work, A.f_Hall_belt, A.g_Hall_belt, S_Hall_belt, i_Hall_belt, A.f__law_line_text, A.g__law_line_text, S__law_line_text, i__law_line_text, A.f_show_hall, A.g_show_hall, S_show_hall, i_show_hall, A.f_read_hall, A.g_read_hall, S_read_hall, i_read_hall, A.f_Hall_names, A.g_Hall_names, S_Hall_names, i_Hall_names, A.f_Hall_belts, A.g_Hall_belts, S_Hall_belts, i_Hall_belts, A.f__law_mixed_rows, A.g__law_mixed_rows, S__law_mixed_rows, i__law_mixed_rows, A.f__law_forms_good, A.g__law_forms_good, S__law_forms_good, i__law_forms_good, Rh.len_at ht]); repeat ((with_reducible refine And.intro ?_ ?_); omega)
      intro ls hl hk q hq
      exact law_tail A h hn hl (fun l hm => hk l hm ns rfl) (ht.set hq) (LstAt.own set_self)
    · rw [if_neg h0]
      exact law_tail A h hn (by decide) (fun _ z => nomatch z) ht (ls := []) LstAt.lst
  apply e_cons; apply e_ife; simp_arith [A.f__law_names, A.g__law_names, S__law_names, i__law_names, A.f__law_cell, A.g__law_cell, S__law_cell, i__law_cell, A.f__law_lines, A.g__law_lines, S__law_lines, i__law_lines, A.f_Hall_init, A.g_Hall_init, S_Hall_init, i_Hall_init, A.c_Hall, A.f_Hall_work, A.g_Hall_work, S_Hall_work, i_Hall_work, A.f_Hall_belt, A.g_Hall_belt, S_Hall_belt, i_Hall_belt, A.f__law_line_text, A.g__law_line_text, S__law_line_text, i__law_line_text, A.f_show_hall, A.g_show_hall, S_show_hall, i_show_hall, A.f_read_hall, A.g_read_hall, S_read_hall, i_read_hall, A.f_Hall_names, A.g_Hall_names, S_Hall_names, i_Hall_names, A.f_Hall_belts, A.g_Hall_belts, S_Hall_belts, i_Hall_belts, A.f__law_mixed_rows, A.g__law_mixed_rows, S__law_mixed_rows, i__law_mixed_rows, A.f__law_forms_good, A.g__law_forms_good, S__law_forms_good, i__law_forms_good]; repeat ((with_reducible refine And.intro ?_ ?_); omega)
  by_cases h0 : cel cs 0 % 9 = 4
  · rw [if_pos h0]
    apply e_cons; simp only [denS]; (try simp_arith [A.f__law_names, A.g__law_names, S__law_names, i__law_names, A.f__law_cell, A.g__law_cell, S__law_cell, i__law_cell, A.f__law_lines, A.g__law_lines, S__law_lines, i__law_lines, A.f_Hall_init, A.g_Hall_init, S_Hall_init, i_Hall_init, A.c_Hall, A.f_Hall_work, A.g_Hall_work, S_Hall_work, i_Hall_work, A.f_Hall_belt, A.g_Hall_belt, S_Hall_belt, i_Hall_belt, A.f__law_line_text, A.g__law_line_text, S__law_line_text, i__law_line_text, A.f_show_hall, A.g_show_hall, S_show_hall, i_show_hall, A.f_read_hall, A.g_read_hall, S_read_hall, i_read_hall, A.f_Hall_names, A.g_Hall_names, S_Hall_names, i_Hall_names, A.f_Hall_belts, A.g_Hall_belts, S_Hall_belts, i_Hall_belts, A.f__law_mixed_rows, A.g__law_mixed_rows, S__law_mixed_rows, i__law_mixed_rows, A.f__law_forms_good, A.g__law_forms_good, S__law_forms_good, i__law_forms_good]); repeat ((with_reducible refine And.intro ?_ ?_); omega)
    exact key (.lst []) [] _ ⟨fun _ z => (nomatch z), List.nodup_nil, by decide⟩ LstAt.lst
  · rw [if_neg h0]
    exact key (.own q) ns _ hn (LstAt.own set_self)

def top (i : Nat) : Stmt := PySem.Challenge.pw_ratehall_k31_halls_and_forms_written.main.body.getD i (.Pass ⟨0, 0, 0, 0⟩)
abbrev s_Hall_init : Stmt := inClass (top 15) 0
abbrev s_Hall_names : Stmt := inClass (top 15) 6
abbrev s_Hall_belts : Stmt := inClass (top 15) 8
abbrev s_Hall_lay : Stmt := inClass (top 15) 4
abbrev s_is_name : Stmt := top 11
abbrev s_Hall_work : Stmt := inClass (top 15) 2
abbrev s_Hall_need : Stmt := inClass (top 15) 1
abbrev s_read_number : Stmt := top 18
abbrev s_Hall_number_of : Stmt := inClass (top 15) 7
abbrev s_Hall_belt : Stmt := inClass (top 15) 3
abbrev s_show_hall : Stmt := top 20
abbrev s_read_signed : Stmt := top 19
abbrev s_read_form : Stmt := top 24
abbrev s_read_forms : Stmt := top 26
abbrev s_read_row : Stmt := top 21
abbrev s_read_hall : Stmt := top 22
abbrev s_show_form : Stmt := top 23
abbrev s_show_forms : Stmt := top 25
abbrev s__law_cell : Stmt := top 28
abbrev s__law_mix : Stmt := top 29
abbrev s__law_form : Stmt := top 33
abbrev s__law_form_text : Stmt := top 34
abbrev s__law_whole : Stmt := top 31
abbrev s__law_is_form : Stmt := top 38
abbrev s__law_forms_good : Stmt := top 39
abbrev s__law_line_text : Stmt := top 32
abbrev s__law_lines : Stmt := top 36
abbrev s__law_mixed_rows : Stmt := top 37
abbrev s__law_name : Stmt := top 30
abbrev s__law_names : Stmt := top 35
abbrev s_law : Stmt := top 40
def tFn : Nat → Option FnI
  | 7 => some i_Hall_init
  | 9 => some i_Hall_names
  | 10 => some i_Hall_belts
  | 29 => some i_Hall_lay
  | 30 => some i_is_name
  | 31 => some i_Hall_work
  | 43 => some i_Hall_need
  | 51 => some i_read_number
  | 54 => some i_Hall_number_of
  | 56 => some i_Hall_belt
  | 63 => some i_show_hall
  | 68 => some i_read_signed
  | 69 => some i_read_form
  | 70 => some i_read_forms
  | 102 => some i_read_row
  | 103 => some i_read_hall
  | 104 => some i_show_form
  | 105 => some i_show_forms
  | 1000 => some i__law_cell
  | 1001 => some i__law_mix
  | 1002 => some i__law_form
  | 1003 => some i__law_form_text
  | 1004 => some i__law_whole
  | 1005 => some i__law_is_form
  | 1006 => some i__law_forms_good
  | 1007 => some i__law_line_text
  | 1008 => some i__law_lines
  | 1009 => some i__law_mixed_rows
  | 1010 => some i__law_name
  | 1011 => some i__law_names
  | 1012 => some i_law
  | _ => none
def tCl : Nat → Option ClI
  | 3 => some ⟨"Hall", 7⟩
  | _ => none
def tEx : Nat → Option Str
  | 5 => some "NoName"
  | 7 => some "NoRate"
  | 9 => some "NoText"
  | 10 => some "NoWork"
  | 15 => some "TooMuch"
  | 16 => some "Twice"
  | _ => none
def tCon : Nat → Option (Str × T)
  | 1 => some ("FIGURES", .str "0123456789")
  | 2 => some ("LETTERS", .str "abcdefghijklmnopqrstuvwxyz")
  | 3 => some ("MOST_BELTS", .int 60)
  | 7 => some ("MOST_WORKS", .int 30)
  | _ => none
def tFl : Nat → List Str
  | 3 => ["called", "lines"]
  | _ => []
def tFh : Nat → Option FnI
  | _ => none
def G : Tab := ⟨tFn, tCl, tEx, tCon, tFl, false, true, tFh⟩
theorem tEx_cases {x : Nat} {y : Str} (h : tEx x = some y) : x = 5 ∨ x = 7 ∨ x = 9 ∨ x = 10 ∨ x = 15 ∨ x = 16 := by
  unfold tEx at h
  split at h <;> first | (cases h; done) | simp
theorem sx_NoName_NoName : subX G 5 5 = true := by decide +kernel
theorem sx_NoName_NoRate : subX G 5 7 = false := by decide +kernel
theorem sx_NoName_NoText : subX G 5 9 = false := by decide +kernel
theorem sx_NoName_NoWork : subX G 5 10 = false := by decide +kernel
theorem sx_NoName_TooMuch : subX G 5 15 = false := by decide +kernel
theorem sx_NoName_Twice : subX G 5 16 = false := by decide +kernel
theorem sx_NoRate_NoName : subX G 7 5 = false := by decide +kernel
theorem sx_NoRate_NoRate : subX G 7 7 = true := by decide +kernel
theorem sx_NoRate_NoText : subX G 7 9 = false := by decide +kernel
theorem sx_NoRate_NoWork : subX G 7 10 = false := by decide +kernel
theorem sx_NoRate_TooMuch : subX G 7 15 = false := by decide +kernel
theorem sx_NoRate_Twice : subX G 7 16 = false := by decide +kernel
theorem sx_NoText_NoName : subX G 9 5 = false := by decide +kernel
theorem sx_NoText_NoRate : subX G 9 7 = false := by decide +kernel
theorem sx_NoText_NoText : subX G 9 9 = true := by decide +kernel
theorem sx_NoText_NoWork : subX G 9 10 = false := by decide +kernel
theorem sx_NoText_TooMuch : subX G 9 15 = false := by decide +kernel
theorem sx_NoText_Twice : subX G 9 16 = false := by decide +kernel
theorem sx_NoWork_NoName : subX G 10 5 = false := by decide +kernel
theorem sx_NoWork_NoRate : subX G 10 7 = false := by decide +kernel
theorem sx_NoWork_NoText : subX G 10 9 = false := by decide +kernel
theorem sx_NoWork_NoWork : subX G 10 10 = true := by decide +kernel
theorem sx_NoWork_TooMuch : subX G 10 15 = false := by decide +kernel
theorem sx_NoWork_Twice : subX G 10 16 = false := by decide +kernel
theorem sx_TooMuch_NoName : subX G 15 5 = false := by decide +kernel
theorem sx_TooMuch_NoRate : subX G 15 7 = false := by decide +kernel
theorem sx_TooMuch_NoText : subX G 15 9 = false := by decide +kernel
theorem sx_TooMuch_NoWork : subX G 15 10 = false := by decide +kernel
theorem sx_TooMuch_TooMuch : subX G 15 15 = true := by decide +kernel
theorem sx_TooMuch_Twice : subX G 15 16 = false := by decide +kernel
theorem sx_Twice_NoName : subX G 16 5 = false := by decide +kernel
theorem sx_Twice_NoRate : subX G 16 7 = false := by decide +kernel
theorem sx_Twice_NoText : subX G 16 9 = false := by decide +kernel
theorem sx_Twice_NoWork : subX G 16 10 = false := by decide +kernel
theorem sx_Twice_TooMuch : subX G 16 15 = false := by decide +kernel
theorem sx_Twice_Twice : subX G 16 16 = true := by decide +kernel
theorem tabOk : TabOk G := by
  refine ⟨fun f i d h hc => ?_, fun d f h => ?_⟩
  · have h' : tFn f = some i := h
    revert h'
    unfold tFn
    split <;> intro h' <;> first | (cases h'; done) | (cases h'; first | (cases hc; done) | (cases hc; exact ⟨_, rfl⟩))
  · have h' : f ∈ tFl d := h
    revert h'
    unfold tFl
    split <;> intro h' <;> first | (cases h'; done) | exact ⟨_, rfl⟩
theorem chk_Hall_init : ChkF G 7 i_Hall_init s_Hall_init N_Hall_init ["self"] c_Hall_init := ⟨⟨rfl, rfl, rfl, by decide +kernel, rfl, by decide +kernel, by decide +kernel⟩, rfl, by decide, by decide +kernel⟩
theorem chk_Hall_names : ChkF G 9 i_Hall_names s_Hall_names N_Hall_names ["self"] c_Hall_names := ⟨⟨rfl, rfl, rfl, by decide +kernel, rfl, by decide +kernel, by decide +kernel⟩, rfl, by decide, by decide +kernel⟩
theorem chk_Hall_belts : ChkF G 10 i_Hall_belts s_Hall_belts N_Hall_belts ["self"] c_Hall_belts := ⟨⟨rfl, rfl, rfl, by decide +kernel, rfl, by decide +kernel, by decide +kernel⟩, rfl, by decide, by decide +kernel⟩
theorem chk_Hall_lay : ChkF G 29 i_Hall_lay s_Hall_lay N_Hall_lay ["self", "giver", "taker", "give", "take", "start"] c_Hall_lay := ⟨⟨rfl, rfl, rfl, by decide +kernel, rfl, by decide +kernel, by decide +kernel⟩, rfl, by decide, by decide +kernel⟩
theorem chk_is_name : ChkF G 30 i_is_name s_is_name N_is_name ["thing"] c_is_name := ⟨⟨rfl, rfl, rfl, by decide +kernel, rfl, by decide +kernel, by decide +kernel⟩, rfl, by decide, by decide +kernel⟩
theorem chk_Hall_work : ChkF G 31 i_Hall_work s_Hall_work N_Hall_work ["self", "name"] c_Hall_work := ⟨⟨rfl, rfl, rfl, by decide +kernel, rfl, by decide +kernel, by decide +kernel⟩, rfl, by decide, by decide +kernel⟩
theorem chk_Hall_need : ChkF G 43 i_Hall_need s_Hall_need N_Hall_need ["self", "work"] c_Hall_need := ⟨⟨rfl, rfl, rfl, by decide +kernel, rfl, by decide +kernel, by decide +kernel⟩, rfl, by decide, by decide +kernel⟩
theorem chk_read_number : ChkF G 51 i_read_number s_read_number N_read_number ["text"] c_read_number := ⟨⟨rfl, rfl, rfl, by decide +kernel, rfl, by decide +kernel, by decide +kernel⟩, rfl, by decide, by decide +kernel⟩
theorem chk_Hall_number_of : ChkF G 54 i_Hall_number_of s_Hall_number_of N_Hall_number_of ["self", "name"] c_Hall_number_of := ⟨⟨rfl, rfl, rfl, by decide +kernel, rfl, by decide +kernel, by decide +kernel⟩, rfl, by decide, by decide +kernel⟩
theorem chk_Hall_belt : ChkF G 56 i_Hall_belt s_Hall_belt N_Hall_belt ["self", "giver", "taker", "give", "take", "start"] c_Hall_belt := ⟨⟨rfl, rfl, rfl, by decide +kernel, rfl, by decide +kernel, by decide +kernel⟩, rfl, by decide, by decide +kernel⟩
theorem chk_show_hall : ChkF G 63 i_show_hall s_show_hall N_show_hall ["hall"] c_show_hall := ⟨⟨rfl, rfl, rfl, by decide +kernel, rfl, by decide +kernel, by decide +kernel⟩, rfl, by decide, by decide +kernel⟩
theorem chk_read_signed : ChkF G 68 i_read_signed s_read_signed N_read_signed ["text"] c_read_signed := ⟨⟨rfl, rfl, rfl, by decide +kernel, rfl, by decide +kernel, by decide +kernel⟩, rfl, by decide, by decide +kernel⟩
theorem chk_read_form : ChkF G 69 i_read_form s_read_form N_read_form ["text"] c_read_form := ⟨⟨rfl, rfl, rfl, by decide +kernel, rfl, by decide +kernel, by decide +kernel⟩, rfl, by decide, by decide +kernel⟩
theorem chk_read_forms : ChkF G 70 i_read_forms s_read_forms N_read_forms ["text"] c_read_forms := ⟨⟨rfl, rfl, rfl, by decide +kernel, rfl, by decide +kernel, by decide +kernel⟩, rfl, by decide, by decide +kernel⟩
theorem chk_read_row : ChkF G 102 i_read_row s_read_row N_read_row ["line"] c_read_row := ⟨⟨rfl, rfl, rfl, by decide +kernel, rfl, by decide +kernel, by decide +kernel⟩, rfl, by decide, by decide +kernel⟩
theorem chk_read_hall : ChkF G 103 i_read_hall s_read_hall N_read_hall ["lines"] c_read_hall := ⟨⟨rfl, rfl, rfl, by decide +kernel, rfl, by decide +kernel, by decide +kernel⟩, rfl, by decide, by decide +kernel⟩
theorem chk_show_form : ChkF G 104 i_show_form s_show_form N_show_form ["form"] c_show_form := ⟨⟨rfl, rfl, rfl, by decide +kernel, rfl, by decide +kernel, by decide +kernel⟩, rfl, by decide, by decide +kernel⟩
theorem chk_show_forms : ChkF G 105 i_show_forms s_show_forms N_show_forms ["forms"] c_show_forms := ⟨⟨rfl, rfl, rfl, by decide +kernel, rfl, by decide +kernel, by decide +kernel⟩, rfl, by decide, by decide +kernel⟩
theorem chk__law_cell : ChkF G 1000 i__law_cell s__law_cell N__law_cell ["_law_script", "_law_k"] c__law_cell := ⟨⟨rfl, rfl, rfl, by decide +kernel, rfl, by decide +kernel, by decide +kernel⟩, rfl, by decide, by decide +kernel⟩
theorem chk__law_mix : ChkF G 1001 i__law_mix s__law_mix N__law_mix ["_law_cell_here", "_law_way"] c__law_mix := ⟨⟨rfl, rfl, rfl, by decide +kernel, rfl, by decide +kernel, by decide +kernel⟩, rfl, by decide, by decide +kernel⟩
theorem chk__law_form : ChkF G 1002 i__law_form s__law_form N__law_form ["_law_cell_here", "_law_way", "_law_many"] c__law_form := ⟨⟨rfl, rfl, rfl, by decide +kernel, rfl, by decide +kernel, by decide +kernel⟩, rfl, by decide, by decide +kernel⟩
theorem chk__law_form_text : ChkF G 1003 i__law_form_text s__law_form_text N__law_form_text ["_law_form_here"] c__law_form_text := ⟨⟨rfl, rfl, rfl, by decide +kernel, rfl, by decide +kernel, by decide +kernel⟩, rfl, by decide, by decide +kernel⟩
theorem chk__law_whole : ChkF G 1004 i__law_whole s__law_whole N__law_whole ["_law_found"] c__law_whole := ⟨⟨rfl, rfl, rfl, by decide +kernel, rfl, by decide +kernel, by decide +kernel⟩, rfl, by decide, by decide +kernel⟩
theorem chk__law_is_form : ChkF G 1005 i__law_is_form s__law_is_form N__law_is_form ["_law_found", "_law_due"] c__law_is_form := ⟨⟨rfl, rfl, rfl, by decide +kernel, rfl, by decide +kernel, by decide +kernel⟩, rfl, by decide, by decide +kernel⟩
theorem chk__law_forms_good : ChkF G 1006 i__law_forms_good s__law_forms_good N__law_forms_good ["_law_script"] c__law_forms_good := ⟨⟨rfl, rfl, rfl, by decide +kernel, rfl, by decide +kernel, by decide +kernel⟩, rfl, by decide, by decide +kernel⟩
theorem chk__law_line_text : ChkF G 1007 i__law_line_text s__law_line_text N__law_line_text ["_law_names_here", "_law_line"] c__law_line_text := ⟨⟨rfl, rfl, rfl, by decide +kernel, rfl, by decide +kernel, by decide +kernel⟩, rfl, by decide, by decide +kernel⟩
theorem chk__law_lines : ChkF G 1008 i__law_lines s__law_lines N__law_lines ["_law_script", "_law_many"] c__law_lines := ⟨⟨rfl, rfl, rfl, by decide +kernel, rfl, by decide +kernel, by decide +kernel⟩, rfl, by decide, by decide +kernel⟩
theorem chk__law_mixed_rows : ChkF G 1009 i__law_mixed_rows s__law_mixed_rows N__law_mixed_rows ["_law_names_here", "_law_lines_here", "_law_turn"] c__law_mixed_rows := ⟨⟨rfl, rfl, rfl, by decide +kernel, rfl, by decide +kernel, by decide +kernel⟩, rfl, by decide, by decide +kernel⟩
theorem chk__law_name : ChkF G 1010 i__law_name s__law_name N__law_name ["_law_cell_here", "_law_way"] c__law_name := ⟨⟨rfl, rfl, rfl, by decide +kernel, rfl, by decide +kernel, by decide +kernel⟩, rfl, by decide, by decide +kernel⟩
theorem chk__law_names : ChkF G 1011 i__law_names s__law_names N__law_names ["_law_script"] c__law_names := ⟨⟨rfl, rfl, rfl, by decide +kernel, rfl, by decide +kernel, by decide +kernel⟩, rfl, by decide, by decide +kernel⟩
theorem chk_law : ChkF G 1012 i_law s_law N_law ["_law_script"] c_law := ⟨⟨rfl, rfl, rfl, by decide +kernel, rfl, by decide +kernel, by decide +kernel⟩, rfl, by decide, by decide +kernel⟩
theorem skip_0 (k : Nat) (h1 : 0 ≤ k) (h2 : k < 7) : G.fn k = none ∧ G.fh k = none := by
  show tFn k = none ∧ tFh k = none
  refine ⟨?_, ?_⟩
  · unfold tFn
    split <;> first | rfl | (exfalso; revert h1 h2; decide)
  · unfold tFh
    first | rfl | (split <;> first | rfl | (exfalso; revert h1 h2; decide))
theorem skip_1 (k : Nat) (h1 : 8 ≤ k) (h2 : k < 9) : G.fn k = none ∧ G.fh k = none := by
  show tFn k = none ∧ tFh k = none
  refine ⟨?_, ?_⟩
  · unfold tFn
    split <;> first | rfl | (exfalso; revert h1 h2; decide)
  · unfold tFh
    first | rfl | (split <;> first | rfl | (exfalso; revert h1 h2; decide))
theorem skip_3 (k : Nat) (h1 : 11 ≤ k) (h2 : k < 29) : G.fn k = none ∧ G.fh k = none := by
  show tFn k = none ∧ tFh k = none
  refine ⟨?_, ?_⟩
  · unfold tFn
    split <;> first | rfl | (exfalso; revert h1 h2; decide)
  · unfold tFh
    first | rfl | (split <;> first | rfl | (exfalso; revert h1 h2; decide))
theorem skip_6 (k : Nat) (h1 : 32 ≤ k) (h2 : k < 43) : G.fn k = none ∧ G.fh k = none := by
  show tFn k = none ∧ tFh k = none
  refine ⟨?_, ?_⟩
  · unfold tFn
    split <;> first | rfl | (exfalso; revert h1 h2; decide)
  · unfold tFh
    first | rfl | (split <;> first | rfl | (exfalso; revert h1 h2; decide))
theorem skip_7 (k : Nat) (h1 : 44 ≤ k) (h2 : k < 51) : G.fn k = none ∧ G.fh k = none := by
  show tFn k = none ∧ tFh k = none
  refine ⟨?_, ?_⟩
  · unfold tFn
    split <;> first | rfl | (exfalso; revert h1 h2; decide)
  · unfold tFh
    first | rfl | (split <;> first | rfl | (exfalso; revert h1 h2; decide))
theorem skip_8 (k : Nat) (h1 : 52 ≤ k) (h2 : k < 54) : G.fn k = none ∧ G.fh k = none := by
  show tFn k = none ∧ tFh k = none
  refine ⟨?_, ?_⟩
  · unfold tFn
    split <;> first | rfl | (exfalso; revert h1 h2; decide)
  · unfold tFh
    first | rfl | (split <;> first | rfl | (exfalso; revert h1 h2; decide))
theorem skip_9 (k : Nat) (h1 : 55 ≤ k) (h2 : k < 56) : G.fn k = none ∧ G.fh k = none := by
  show tFn k = none ∧ tFh k = none
  refine ⟨?_, ?_⟩
  · unfold tFn
    split <;> first | rfl | (exfalso; revert h1 h2; decide)
  · unfold tFh
    first | rfl | (split <;> first | rfl | (exfalso; revert h1 h2; decide))
theorem skip_10 (k : Nat) (h1 : 57 ≤ k) (h2 : k < 63) : G.fn k = none ∧ G.fh k = none := by
  show tFn k = none ∧ tFh k = none
  refine ⟨?_, ?_⟩
  · unfold tFn
    split <;> first | rfl | (exfalso; revert h1 h2; decide)
  · unfold tFh
    first | rfl | (split <;> first | rfl | (exfalso; revert h1 h2; decide))
theorem skip_11 (k : Nat) (h1 : 64 ≤ k) (h2 : k < 68) : G.fn k = none ∧ G.fh k = none := by
  show tFn k = none ∧ tFh k = none
  refine ⟨?_, ?_⟩
  · unfold tFn
    split <;> first | rfl | (exfalso; revert h1 h2; decide)
  · unfold tFh
    first | rfl | (split <;> first | rfl | (exfalso; revert h1 h2; decide))
theorem skip_14 (k : Nat) (h1 : 71 ≤ k) (h2 : k < 102) : G.fn k = none ∧ G.fh k = none := by
  show tFn k = none ∧ tFh k = none
  refine ⟨?_, ?_⟩
  · unfold tFn
    split <;> first | rfl | (exfalso; revert h1 h2; decide)
  · unfold tFh
    first | rfl | (split <;> first | rfl | (exfalso; revert h1 h2; decide))
theorem skip_18 (k : Nat) (h1 : 106 ≤ k) (h2 : k < 1000) : G.fn k = none ∧ G.fh k = none := by
  show tFn k = none ∧ tFh k = none
  refine ⟨?_, ?_⟩
  · unfold tFn
    split <;> first | rfl | (exfalso; revert h1 h2; decide)
  · unfold tFh
    first | rfl | (split <;> first | rfl | (exfalso; revert h1 h2; decide))
def Kx (P : Params) : PySem.W.Frag :=
  (nat_lit 2, ⟨.none, none, .dict (List.toArray []) 0, #[]⟩) ::
  (nat_lit 3, ⟨(.type "dict"), none, .dict (List.toArray [⟨PyData.keyHash P "__name__", (.str "__name__" 165), (.str "law_ratehall_k31_halls_and_forms_written" 534)⟩, ⟨PyData.keyHash P "__doc__", (.str "__doc__" 166), .none⟩, ⟨PyData.keyHash P "__package__", (.str "__package__" 167), .none⟩, ⟨PyData.keyHash P "__loader__", (.str "__loader__" 168), (.builtin "__main__.__loader__#opaque")⟩, ⟨PyData.keyHash P "__spec__", (.str "__spec__" 169), .none⟩, ⟨PyData.keyHash P "__annotations__", (.str "__annotations__" 170), (.ref 6)⟩, ⟨PyData.keyHash P "__builtins__", (.str "__builtins__" 171), (.ref 4)⟩, ⟨PyData.keyHash P "__file__", (.str "__file__" 173), (.str "/claim/cut.py" 172)⟩, ⟨PyData.keyHash P "__cached__", (.str "__cached__" 174), .none⟩, ⟨PyData.keyHash P "_wall", (.str "_wall" 193), (.ref 21)⟩, ⟨PyData.keyHash P "RateError", (.str "RateError" 213), (.ref 31)⟩, ⟨PyData.keyHash P "NoName", (.str "NoName" 229), (.ref 44)⟩, ⟨PyData.keyHash P "Twice", (.str "Twice" 245), (.ref 56)⟩, ⟨PyData.keyHash P "TooMuch", (.str "TooMuch" 261), (.ref 68)⟩, ⟨PyData.keyHash P "NoWork", (.str "NoWork" 277), (.ref 80)⟩, ⟨PyData.keyHash P "NoRate", (.str "NoRate" 293), (.ref 92)⟩, ⟨PyData.keyHash P "NoText", (.str "NoText" 309), (.ref 104)⟩, ⟨PyData.keyHash P "LETTERS", (.str "LETTERS" 313), (.str "abcdefghijklmnopqrstuvwxyz" 312)⟩, ⟨PyData.keyHash P "is_name", (.str "is_name" 319), (.ref 111)⟩, ⟨PyData.keyHash P "MOST_WORKS", (.str "MOST_WORKS" 323), (.int (30) 322)⟩, ⟨PyData.keyHash P "MOST_BELTS", (.str "MOST_BELTS" 325), (.int (60) 324)⟩, ⟨PyData.keyHash P "Hall", (.str "Hall" 452), (.ref 206)⟩, ⟨PyData.keyHash P "FIGURES", (.str "FIGURES" 456), (.str "0123456789" 455)⟩, ⟨PyData.keyHash P "read_number", (.str "read_number" 464), (.ref 217)⟩, ⟨PyData.keyHash P "read_signed", (.str "read_signed" 472), (.ref 224)⟩, ⟨PyData.keyHash P "show_hall", (.str "show_hall" 478), (.ref 229)⟩, ⟨PyData.keyHash P "read_row", (.str "read_row" 488), (.ref 236)⟩, ⟨PyData.keyHash P "read_hall", (.str "read_hall" 494), (.ref 241)⟩, ⟨PyData.keyHash P "show_form", (.str "show_form" 506), (.ref 248)⟩, ⟨PyData.keyHash P "read_form", (.str "read_form" 521), (.ref 255)⟩, ⟨PyData.keyHash P "show_forms", (.str "show_forms" 527), (.ref 260)⟩, ⟨PyData.keyHash P "read_forms", (.str "read_forms" 533), (.ref 265)⟩, ⟨PyData.keyHash P "_law_cell", (.str "_law_cell" 543), (.ref 272)⟩, ⟨PyData.keyHash P "_law_mix", (.str "_law_mix" 552), (.ref 279)⟩, ⟨PyData.keyHash P "_law_name", (.str "_law_name" 558), (.ref 284)⟩, ⟨PyData.keyHash P "_law_whole", (.str "_law_whole" 565), (.ref 291)⟩, ⟨PyData.keyHash P "_law_line_text", (.str "_law_line_text" 574), (.ref 298)⟩, ⟨PyData.keyHash P "_law_form", (.str "_law_form" 590), (.ref 305)⟩, ⟨PyData.keyHash P "_law_form_text", (.str "_law_form_text" 600), (.ref 312)⟩, ⟨PyData.keyHash P "_law_names", (.str "_law_names" 615), (.ref 319)⟩, ⟨PyData.keyHash P "_law_lines", (.str "_law_lines" 630), (.ref 326)⟩, ⟨PyData.keyHash P "_law_mixed_rows", (.str "_law_mixed_rows" 636), (.ref 331)⟩, ⟨PyData.keyHash P "_law_is_form", (.str "_law_is_form" 645), (.ref 338)⟩, ⟨PyData.keyHash P "_law_forms_good", (.str "_law_forms_good" 651), (.ref 343)⟩, ⟨PyData.keyHash P "law", (.str "law" 657), (.ref 348)⟩]) 45, #[]⟩) ::
  (nat_lit 15, ⟨(.type "tuple"), none, .seq #[] 0, #[]⟩) ::
  (nat_lit 17, ⟨(.type "tuple"), none, .seq #[(.str "k" 190)] 0, #[]⟩) ::
  (nat_lit 18, ⟨(.type "tuple"), none, .seq #[] 0, #[]⟩) ::
  (nat_lit 20, ⟨(.type "code"), none, .fields #[(.str "_wall" 187), (.str "_wall" 188), (.str "/claim/cut.py" 189), (.int (1) 0), (.int (1) 0), (.int (0) 0), (.int (0) 0), (.int (3) 0), (.ref 15), (.bool true), (.int (181) 0), (.ref 16), .none, (.ref 17), (.ref 18), (.ref 19), (.int (191) 0), (.int (1) 0), (.str "/claim/cut.py" 192)], #[]⟩) ::
  (nat_lit 21, ⟨(.type "function"), none, .func ⟨"_wall", "_wall", defArgs (top 0), .stmts (defBody (top 0)), defScope (top 0), 3, [], .none, .none, .none, (.str "__main__" 164), none, (.ref 20), .none, 0⟩, #[]⟩) ::
  (nat_lit 22, ⟨(.type "tuple"), none, .seq #[(.type "ValueError")] 0, #[]⟩) ::
  (nat_lit 29, ⟨(.type "tuple"), none, .seq #[] 0, #[]⟩) ::
  (nat_lit 30, ⟨(.type "dict"), none, .dict (List.toArray [⟨PyData.keyHash P "__module__", (.str "__module__" 203), (.str "ratehall.errors" 194)⟩, ⟨PyData.keyHash P "__firstlineno__", (.str "__firstlineno__" 207), (.int (5) 206)⟩, ⟨PyData.keyHash P "__static_attributes__", (.str "__static_attributes__" 208), (.ref 29)⟩, ⟨PyData.keyHash P "__weakref__", (.str "__weakref__" 210), (.ref 32)⟩, ⟨PyData.keyHash P "__doc__", (.str "__doc__" 211), .none⟩]) 3, #[]⟩) ::
  (nat_lit 31, ⟨(.type "type"), none, .cls ⟨"RateError", [(.type "ValueError")], [(.ref 31), (.type "ValueError"), (.type "Exception"), (.type "BaseException"), (.type "object")], 30, "RateError", true, [], [(.ref 44), (.ref 56), (.ref 68), (.ref 80), (.ref 92), (.ref 104)], false, none, false⟩, #[(some (.ref 22)), none, (some (.str "RateError" 196)), (some (.str "RateError" 204)), (some (.builtin "ValueError.__new__")), (some (.bool true))]⟩) ::
  (nat_lit 32, ⟨(.type "getset_descriptor"), none, .fields #[(.str "__weakref__" 209), (.ref 31), (.builtin "ExceptionGroup.__weakref__"), .none], #[]⟩) ::
  (nat_lit 35, ⟨(.type "tuple"), none, .seq #[(.ref 31)] 0, #[]⟩) ::
  (nat_lit 42, ⟨(.type "tuple"), none, .seq #[] 0, #[]⟩) ::
  (nat_lit 43, ⟨(.type "dict"), none, .dict (List.toArray [⟨PyData.keyHash P "__module__", (.str "__module__" 221), (.str "ratehall.errors" 194)⟩, ⟨PyData.keyHash P "__firstlineno__", (.str "__firstlineno__" 225), (.int (7) 224)⟩, ⟨PyData.keyHash P "__static_attributes__", (.str "__static_attributes__" 226), (.ref 42)⟩, ⟨PyData.keyHash P "__doc__", (.str "__doc__" 227), .none⟩]) 2, #[]⟩) ::
  (nat_lit 44, ⟨(.type "type"), none, .cls ⟨"NoName", [(.ref 31)], [(.ref 44), (.ref 31), (.type "ValueError"), (.type "Exception"), (.type "BaseException"), (.type "object")], 43, "NoName", true, [], [], false, none, false⟩, #[(some (.ref 35)), none, (some (.str "NoName" 214)), (some (.str "NoName" 222)), (some (.builtin "ValueError.__new__")), (some (.bool true))]⟩) ::
  (nat_lit 47, ⟨(.type "tuple"), none, .seq #[(.ref 31)] 0, #[]⟩) ::
  (nat_lit 54, ⟨(.type "tuple"), none, .seq #[] 0, #[]⟩) ::
  (nat_lit 55, ⟨(.type "dict"), none, .dict (List.toArray [⟨PyData.keyHash P "__module__", (.str "__module__" 237), (.str "ratehall.errors" 194)⟩, ⟨PyData.keyHash P "__firstlineno__", (.str "__firstlineno__" 241), (.int (9) 240)⟩, ⟨PyData.keyHash P "__static_attributes__", (.str "__static_attributes__" 242), (.ref 54)⟩, ⟨PyData.keyHash P "__doc__", (.str "__doc__" 243), .none⟩]) 2, #[]⟩) ::
  (nat_lit 56, ⟨(.type "type"), none, .cls ⟨"Twice", [(.ref 31)], [(.ref 56), (.ref 31), (.type "ValueError"), (.type "Exception"), (.type "BaseException"), (.type "object")], 55, "Twice", true, [], [], false, none, false⟩, #[(some (.ref 47)), none, (some (.str "Twice" 230)), (some (.str "Twice" 238)), (some (.builtin "ValueError.__new__")), (some (.bool true))]⟩) ::
  (nat_lit 59, ⟨(.type "tuple"), none, .seq #[(.ref 31)] 0, #[]⟩) ::
  (nat_lit 66, ⟨(.type "tuple"), none, .seq #[] 0, #[]⟩) ::
  (nat_lit 67, ⟨(.type "dict"), none, .dict (List.toArray [⟨PyData.keyHash P "__module__", (.str "__module__" 253), (.str "ratehall.errors" 194)⟩, ⟨PyData.keyHash P "__firstlineno__", (.str "__firstlineno__" 257), (.int (11) 256)⟩, ⟨PyData.keyHash P "__static_attributes__", (.str "__static_attributes__" 258), (.ref 66)⟩, ⟨PyData.keyHash P "__doc__", (.str "__doc__" 259), .none⟩]) 2, #[]⟩) ::
  (nat_lit 68, ⟨(.type "type"), none, .cls ⟨"TooMuch", [(.ref 31)], [(.ref 68), (.ref 31), (.type "ValueError"), (.type "Exception"), (.type "BaseException"), (.type "object")], 67, "TooMuch", true, [], [], false, none, false⟩, #[(some (.ref 59)), none, (some (.str "TooMuch" 246)), (some (.str "TooMuch" 254)), (some (.builtin "ValueError.__new__")), (some (.bool true))]⟩) ::
  (nat_lit 71, ⟨(.type "tuple"), none, .seq #[(.ref 31)] 0, #[]⟩) ::
  (nat_lit 78, ⟨(.type "tuple"), none, .seq #[] 0, #[]⟩) ::
  (nat_lit 79, ⟨(.type "dict"), none, .dict (List.toArray [⟨PyData.keyHash P "__module__", (.str "__module__" 269), (.str "ratehall.errors" 194)⟩, ⟨PyData.keyHash P "__firstlineno__", (.str "__firstlineno__" 273), (.int (13) 272)⟩, ⟨PyData.keyHash P "__static_attributes__", (.str "__static_attributes__" 274), (.ref 78)⟩, ⟨PyData.keyHash P "__doc__", (.str "__doc__" 275), .none⟩]) 2, #[]⟩) ::
  (nat_lit 80, ⟨(.type "type"), none, .cls ⟨"NoWork", [(.ref 31)], [(.ref 80), (.ref 31), (.type "ValueError"), (.type "Exception"), (.type "BaseException"), (.type "object")], 79, "NoWork", true, [], [], false, none, false⟩, #[(some (.ref 71)), none, (some (.str "NoWork" 262)), (some (.str "NoWork" 270)), (some (.builtin "ValueError.__new__")), (some (.bool true))]⟩) ::
  (nat_lit 83, ⟨(.type "tuple"), none, .seq #[(.ref 31)] 0, #[]⟩) ::
  (nat_lit 90, ⟨(.type "tuple"), none, .seq #[] 0, #[]⟩) ::
  (nat_lit 91, ⟨(.type "dict"), none, .dict (List.toArray [⟨PyData.keyHash P "__module__", (.str "__module__" 285), (.str "ratehall.errors" 194)⟩, ⟨PyData.keyHash P "__firstlineno__", (.str "__firstlineno__" 289), (.int (15) 288)⟩, ⟨PyData.keyHash P "__static_attributes__", (.str "__static_attributes__" 290), (.ref 90)⟩, ⟨PyData.keyHash P "__doc__", (.str "__doc__" 291), .none⟩]) 2, #[]⟩) ::
  (nat_lit 92, ⟨(.type "type"), none, .cls ⟨"NoRate", [(.ref 31)], [(.ref 92), (.ref 31), (.type "ValueError"), (.type "Exception"), (.type "BaseException"), (.type "object")], 91, "NoRate", true, [], [], false, none, false⟩, #[(some (.ref 83)), none, (some (.str "NoRate" 278)), (some (.str "NoRate" 286)), (some (.builtin "ValueError.__new__")), (some (.bool true))]⟩) ::
  (nat_lit 95, ⟨(.type "tuple"), none, .seq #[(.ref 31)] 0, #[]⟩) ::
  (nat_lit 102, ⟨(.type "tuple"), none, .seq #[] 0, #[]⟩) ::
  (nat_lit 103, ⟨(.type "dict"), none, .dict (List.toArray [⟨PyData.keyHash P "__module__", (.str "__module__" 301), (.str "ratehall.errors" 194)⟩, ⟨PyData.keyHash P "__firstlineno__", (.str "__firstlineno__" 305), (.int (17) 304)⟩, ⟨PyData.keyHash P "__static_attributes__", (.str "__static_attributes__" 306), (.ref 102)⟩, ⟨PyData.keyHash P "__doc__", (.str "__doc__" 307), .none⟩]) 2, #[]⟩) ::
  (nat_lit 104, ⟨(.type "type"), none, .cls ⟨"NoText", [(.ref 31)], [(.ref 104), (.ref 31), (.type "ValueError"), (.type "Exception"), (.type "BaseException"), (.type "object")], 103, "NoText", true, [], [], false, none, false⟩, #[(some (.ref 95)), none, (some (.str "NoText" 294)), (some (.str "NoText" 302)), (some (.builtin "ValueError.__new__")), (some (.bool true))]⟩) ::
  (nat_lit 107, ⟨(.type "tuple"), none, .seq #[] 0, #[]⟩) ::
  (nat_lit 110, ⟨(.type "code"), none, .fields #[(.str "is_name" 314), (.str "is_name" 315), (.str "/claim/cut.py" 316), (.int (21) 0), (.int (1) 0), (.int (0) 0), (.int (0) 0), (.int (3) 0), (.ref 107), (.bool true), (.int (181) 0), (.ref 108), .none, .none, .none, (.ref 109), (.int (317) 0), (.int (21) 0), (.str "/claim/cut.py" 318)], #[]⟩) ::
  (nat_lit 111, ⟨(.type "function"), none, .func ⟨"is_name", "is_name", defArgs (top 11), .stmts (defBody (top 11)), defScope (top 11), 3, [], .none, .none, .none, (.str "ratehall.names" 310), none, (.ref 110), .none, 0⟩, #[]⟩) ::
  (nat_lit 119, ⟨(.type "tuple"), none, .seq #[] 0, #[]⟩) ::
  (nat_lit 121, ⟨(.type "tuple"), none, .seq #[(.str "self" 341)] 0, #[]⟩) ::
  (nat_lit 122, ⟨(.type "tuple"), none, .seq #[] 0, #[]⟩) ::
  (nat_lit 124, ⟨(.type "code"), none, .fields #[(.str "__init__" 338), (.str "Hall.__init__" 339), (.str "/claim/cut.py" 340), (.int (30) 0), (.int (1) 0), (.int (0) 0), (.int (0) 0), (.int (3) 0), (.ref 119), (.bool true), (.int (181) 0), (.ref 120), .none, (.ref 121), (.ref 122), (.ref 123), (.int (342) 0), (.int (30) 0), (.str "/claim/cut.py" 343)], #[]⟩) ::
  (nat_lit 125, ⟨(.type "function"), none, .func ⟨"__init__", "Hall.__init__", defArgs (inClass (top 15) 0), .stmts (defBody (inClass (top 15) 0)), defScope (inClass (top 15) 0), 3, [], .none, .none, .none, (.str "ratehall.hall" 320), none, (.ref 124), .none, 0⟩, #[]⟩) ::
  (nat_lit 126, ⟨(.type "tuple"), none, .seq #[] 0, #[]⟩) ::
  (nat_lit 128, ⟨(.type "tuple"), none, .seq #[(.str "self" 348), (.str "work" 349)] 0, #[]⟩) ::
  (nat_lit 129, ⟨(.type "tuple"), none, .seq #[] 0, #[]⟩) ::
  (nat_lit 131, ⟨(.type "code"), none, .fields #[(.str "need" 345), (.str "Hall.need" 346), (.str "/claim/cut.py" 347), (.int (34) 0), (.int (2) 0), (.int (0) 0), (.int (0) 0), (.int (3) 0), (.ref 126), (.bool true), (.int (181) 0), (.ref 127), .none, (.ref 128), (.ref 129), (.ref 130), (.int (350) 0), (.int (34) 0), (.str "/claim/cut.py" 351)], #[]⟩) ::
  (nat_lit 132, ⟨(.type "function"), none, .func ⟨"need", "Hall.need", defArgs (inClass (top 15) 1), .stmts (defBody (inClass (top 15) 1)), defScope (inClass (top 15) 1), 3, [], .none, .none, .none, (.str "ratehall.hall" 320), none, (.ref 131), .none, 0⟩, #[]⟩) ::
  (nat_lit 133, ⟨(.type "tuple"), none, .seq #[] 0, #[]⟩) ::
  (nat_lit 135, ⟨(.type "tuple"), none, .seq #[(.str "self" 356), (.str "name" 357)] 0, #[]⟩) ::
  (nat_lit 136, ⟨(.type "tuple"), none, .seq #[] 0, #[]⟩) ::
  (nat_lit 138, ⟨(.type "code"), none, .fields #[(.str "work" 353), (.str "Hall.work" 354), (.str "/claim/cut.py" 355), (.int (38) 0), (.int (2) 0), (.int (0) 0), (.int (0) 0), (.int (3) 0), (.ref 133), (.bool true), (.int (181) 0), (.ref 134), .none, (.ref 135), (.ref 136), (.ref 137), (.int (358) 0), (.int (38) 0), (.str "/claim/cut.py" 359)], #[]⟩) ::
  (nat_lit 139, ⟨(.type "function"), none, .func ⟨"work", "Hall.work", defArgs (inClass (top 15) 2), .stmts (defBody (inClass (top 15) 2)), defScope (inClass (top 15) 2), 3, [], .none, .none, .none, (.str "ratehall.hall" 320), none, (.ref 138), .none, 0⟩, #[]⟩) ::
  (nat_lit 140, ⟨(.type "tuple"), none, .seq #[(.int (0) 361)] 0, #[]⟩) ::
  (nat_lit 141, ⟨(.type "tuple"), none, .seq #[] 0, #[]⟩) ::
  (nat_lit 143, ⟨(.type "tuple"), none, .seq #[(.str "self" 365), (.str "giver" 366), (.str "taker" 367), (.str "give" 368), (.str "take" 369), (.str "start" 370)] 0, #[]⟩) ::
  (nat_lit 144, ⟨(.type "tuple"), none, .seq #[] 0, #[]⟩) ::
  (nat_lit 146, ⟨(.type "code"), none, .fields #[(.str "belt" 362), (.str "Hall.belt" 363), (.str "/claim/cut.py" 364), (.int (48) 0), (.int (6) 0), (.int (0) 0), (.int (0) 0), (.int (3) 0), (.ref 141), (.bool true), (.int (181) 0), (.ref 142), .none, (.ref 143), (.ref 144), (.ref 145), (.int (371) 0), (.int (48) 0), (.str "/claim/cut.py" 372)], #[]⟩) ::
  (nat_lit 147, ⟨(.type "function"), none, .func ⟨"belt", "Hall.belt", defArgs (inClass (top 15) 3), .stmts (defBody (inClass (top 15) 3)), defScope (inClass (top 15) 3), 3, [], (.ref 140), .none, .none, (.str "ratehall.hall" 320), none, (.ref 146), .none, 0⟩, #[]⟩) ::
  (nat_lit 148, ⟨(.type "tuple"), none, .seq #[] 0, #[]⟩) ::
  (nat_lit 150, ⟨(.type "tuple"), none, .seq #[(.str "self" 377), (.str "giver" 378), (.str "taker" 379), (.str "give" 380), (.str "take" 381), (.str "start" 382)] 0, #[]⟩) ::
  (nat_lit 151, ⟨(.type "tuple"), none, .seq #[] 0, #[]⟩) ::
  (nat_lit 153, ⟨(.type "code"), none, .fields #[(.str "lay" 374), (.str "Hall.lay" 375), (.str "/claim/cut.py" 376), (.int (57) 0), (.int (6) 0), (.int (0) 0), (.int (0) 0), (.int (3) 0), (.ref 148), (.bool true), (.int (181) 0), (.ref 149), .none, (.ref 150), (.ref 151), (.ref 152), (.int (383) 0), (.int (57) 0), (.str "/claim/cut.py" 384)], #[]⟩) ::
  (nat_lit 154, ⟨(.type "function"), none, .func ⟨"lay", "Hall.lay", defArgs (inClass (top 15) 4), .stmts (defBody (inClass (top 15) 4)), defScope (inClass (top 15) 4), 3, [], .none, .none, .none, (.str "ratehall.hall" 320), none, (.ref 153), .none, 0⟩, #[]⟩) ::
  (nat_lit 155, ⟨(.type "tuple"), none, .seq #[] 0, #[]⟩) ::
  (nat_lit 157, ⟨(.type "tuple"), none, .seq #[(.str "self" 389), (.str "belt" 390), (.str "start" 391)] 0, #[]⟩) ::
  (nat_lit 158, ⟨(.type "tuple"), none, .seq #[] 0, #[]⟩) ::
  (nat_lit 160, ⟨(.type "code"), none, .fields #[(.str "fill" 386), (.str "Hall.fill" 387), (.str "/claim/cut.py" 388), (.int (61) 0), (.int (3) 0), (.int (0) 0), (.int (0) 0), (.int (3) 0), (.ref 155), (.bool true), (.int (181) 0), (.ref 156), .none, (.ref 157), (.ref 158), (.ref 159), (.int (392) 0), (.int (61) 0), (.str "/claim/cut.py" 393)], #[]⟩) ::
  (nat_lit 161, ⟨(.type "function"), none, .func ⟨"fill", "Hall.fill", defArgs (inClass (top 15) 5), .stmts (defBody (inClass (top 15) 5)), defScope (inClass (top 15) 5), 3, [], .none, .none, .none, (.str "ratehall.hall" 320), none, (.ref 160), .none, 0⟩, #[]⟩) ::
  (nat_lit 162, ⟨(.type "tuple"), none, .seq #[] 0, #[]⟩) ::
  (nat_lit 164, ⟨(.type "tuple"), none, .seq #[(.str "self" 398)] 0, #[]⟩) ::
  (nat_lit 165, ⟨(.type "tuple"), none, .seq #[] 0, #[]⟩) ::
  (nat_lit 167, ⟨(.type "code"), none, .fields #[(.str "names" 395), (.str "Hall.names" 396), (.str "/claim/cut.py" 397), (.int (64) 0), (.int (1) 0), (.int (0) 0), (.int (0) 0), (.int (3) 0), (.ref 162), (.bool true), (.int (181) 0), (.ref 163), .none, (.ref 164), (.ref 165), (.ref 166), (.int (399) 0), (.int (64) 0), (.str "/claim/cut.py" 400)], #[]⟩) ::
  (nat_lit 168, ⟨(.type "function"), none, .func ⟨"names", "Hall.names", defArgs (inClass (top 15) 6), .stmts (defBody (inClass (top 15) 6)), defScope (inClass (top 15) 6), 3, [], .none, .none, .none, (.str "ratehall.hall" 320), none, (.ref 167), .none, 0⟩, #[]⟩) ::
  (nat_lit 169, ⟨(.type "tuple"), none, .seq #[] 0, #[]⟩) ::
  (nat_lit 171, ⟨(.type "tuple"), none, .seq #[(.str "self" 405), (.str "name" 406), (.str "work" 407), (.str "known" 408)] 0, #[]⟩) ::
  (nat_lit 172, ⟨(.type "tuple"), none, .seq #[] 0, #[]⟩) ::
  (nat_lit 174, ⟨(.type "code"), none, .fields #[(.str "number_of" 402), (.str "Hall.number_of" 403), (.str "/claim/cut.py" 404), (.int (67) 0), (.int (2) 0), (.int (0) 0), (.int (0) 0), (.int (3) 0), (.ref 169), (.bool true), (.int (181) 0), (.ref 170), .none, (.ref 171), (.ref 172), (.ref 173), (.int (409) 0), (.int (67) 0), (.str "/claim/cut.py" 410)], #[]⟩) ::
  (nat_lit 175, ⟨(.type "function"), none, .func ⟨"number_of", "Hall.number_of", defArgs (inClass (top 15) 7), .stmts (defBody (inClass (top 15) 7)), defScope (inClass (top 15) 7), 3, [], .none, .none, .none, (.str "ratehall.hall" 320), none, (.ref 174), .none, 0⟩, #[]⟩) ::
  (nat_lit 176, ⟨(.type "tuple"), none, .seq #[] 0, #[]⟩) ::
  (nat_lit 178, ⟨(.type "tuple"), none, .seq #[(.str "self" 415)] 0, #[]⟩) ::
  (nat_lit 179, ⟨(.type "tuple"), none, .seq #[] 0, #[]⟩) ::
  (nat_lit 181, ⟨(.type "code"), none, .fields #[(.str "belts" 412), (.str "Hall.belts" 413), (.str "/claim/cut.py" 414), (.int (73) 0), (.int (1) 0), (.int (0) 0), (.int (0) 0), (.int (3) 0), (.ref 176), (.bool true), (.int (181) 0), (.ref 177), .none, (.ref 178), (.ref 179), (.ref 180), (.int (416) 0), (.int (73) 0), (.str "/claim/cut.py" 417)], #[]⟩) ::
  (nat_lit 182, ⟨(.type "function"), none, .func ⟨"belts", "Hall.belts", defArgs (inClass (top 15) 8), .stmts (defBody (inClass (top 15) 8)), defScope (inClass (top 15) 8), 3, [], .none, .none, .none, (.str "ratehall.hall" 320), none, (.ref 181), .none, 0⟩, #[]⟩) ::
  (nat_lit 183, ⟨(.type "tuple"), none, .seq #[] 0, #[]⟩) ::
  (nat_lit 185, ⟨(.type "tuple"), none, .seq #[(.str "self" 422), (.str "belt" 423)] 0, #[]⟩) ::
  (nat_lit 186, ⟨(.type "tuple"), none, .seq #[] 0, #[]⟩) ::
  (nat_lit 188, ⟨(.type "code"), none, .fields #[(.str "belt_at" 419), (.str "Hall.belt_at" 420), (.str "/claim/cut.py" 421), (.int (76) 0), (.int (2) 0), (.int (0) 0), (.int (0) 0), (.int (3) 0), (.ref 183), (.bool true), (.int (181) 0), (.ref 184), .none, (.ref 185), (.ref 186), (.ref 187), (.int (424) 0), (.int (76) 0), (.str "/claim/cut.py" 425)], #[]⟩) ::
  (nat_lit 189, ⟨(.type "function"), none, .func ⟨"belt_at", "Hall.belt_at", defArgs (inClass (top 15) 9), .stmts (defBody (inClass (top 15) 9)), defScope (inClass (top 15) 9), 3, [], .none, .none, .none, (.str "ratehall.hall" 320), none, (.ref 188), .none, 0⟩, #[]⟩) ::
  (nat_lit 190, ⟨(.type "tuple"), none, .seq #[] 0, #[]⟩) ::
  (nat_lit 192, ⟨(.type "tuple"), none, .seq #[(.str "self" 430), (.str "work" 431)] 0, #[]⟩) ::
  (nat_lit 193, ⟨(.type "tuple"), none, .seq #[] 0, #[]⟩) ::
  (nat_lit 195, ⟨(.type "code"), none, .fields #[(.str "entering" 427), (.str "Hall.entering" 428), (.str "/claim/cut.py" 429), (.int (79) 0), (.int (2) 0), (.int (0) 0), (.int (0) 0), (.int (3) 0), (.ref 190), (.bool true), (.int (181) 0), (.ref 191), .none, (.ref 192), (.ref 193), (.ref 194), (.int (432) 0), (.int (79) 0), (.str "/claim/cut.py" 433)], #[]⟩) ::
  (nat_lit 196, ⟨(.type "function"), none, .func ⟨"entering", "Hall.entering", defArgs (inClass (top 15) 10), .stmts (defBody (inClass (top 15) 10)), defScope (inClass (top 15) 10), 3, [], .none, .none, .none, (.str "ratehall.hall" 320), none, (.ref 195), .none, 0⟩, #[]⟩) ::
  (nat_lit 197, ⟨(.type "tuple"), none, .seq #[] 0, #[]⟩) ::
  (nat_lit 199, ⟨(.type "tuple"), none, .seq #[(.str "self" 438), (.str "work" 439)] 0, #[]⟩) ::
  (nat_lit 200, ⟨(.type "tuple"), none, .seq #[] 0, #[]⟩) ::
  (nat_lit 202, ⟨(.type "code"), none, .fields #[(.str "leaving" 435), (.str "Hall.leaving" 436), (.str "/claim/cut.py" 437), (.int (82) 0), (.int (2) 0), (.int (0) 0), (.int (0) 0), (.int (3) 0), (.ref 197), (.bool true), (.int (181) 0), (.ref 198), .none, (.ref 199), (.ref 200), (.ref 201), (.int (440) 0), (.int (82) 0), (.str "/claim/cut.py" 441)], #[]⟩) ::
  (nat_lit 203, ⟨(.type "function"), none, .func ⟨"leaving", "Hall.leaving", defArgs (inClass (top 15) 11), .stmts (defBody (inClass (top 15) 11)), defScope (inClass (top 15) 11), 3, [], .none, .none, .none, (.str "ratehall.hall" 320), none, (.ref 202), .none, 0⟩, #[]⟩) ::
  (nat_lit 204, ⟨(.type "tuple"), none, .seq #[(.str "called" 443), (.str "lines" 444)] 0, #[]⟩) ::
  (nat_lit 205, ⟨(.type "dict"), none, .dict (List.toArray [⟨PyData.keyHash P "__module__", (.str "__module__" 333), (.str "ratehall.hall" 320)⟩, ⟨PyData.keyHash P "__firstlineno__", (.str "__firstlineno__" 337), (.int (28) 336)⟩, ⟨PyData.keyHash P "__init__", (.str "__init__" 344), (.ref 125)⟩, ⟨PyData.keyHash P "need", (.str "need" 352), (.ref 132)⟩, ⟨PyData.keyHash P "work", (.str "work" 360), (.ref 139)⟩, ⟨PyData.keyHash P "belt", (.str "belt" 373), (.ref 147)⟩, ⟨PyData.keyHash P "lay", (.str "lay" 385), (.ref 154)⟩, ⟨PyData.keyHash P "fill", (.str "fill" 394), (.ref 161)⟩, ⟨PyData.keyHash P "names", (.str "names" 401), (.ref 168)⟩, ⟨PyData.keyHash P "number_of", (.str "number_of" 411), (.ref 175)⟩, ⟨PyData.keyHash P "belts", (.str "belts" 418), (.ref 182)⟩, ⟨PyData.keyHash P "belt_at", (.str "belt_at" 426), (.ref 189)⟩, ⟨PyData.keyHash P "entering", (.str "entering" 434), (.ref 196)⟩, ⟨PyData.keyHash P "leaving", (.str "leaving" 442), (.ref 203)⟩, ⟨PyData.keyHash P "__static_attributes__", (.str "__static_attributes__" 445), (.ref 204)⟩, ⟨PyData.keyHash P "__dict__", (.str "__dict__" 447), (.ref 207)⟩, ⟨PyData.keyHash P "__weakref__", (.str "__weakref__" 449), (.ref 208)⟩, ⟨PyData.keyHash P "__doc__", (.str "__doc__" 450), .none⟩]) 4, #[]⟩) ::
  (nat_lit 206, ⟨(.type "type"), none, .cls ⟨"Hall", [(.type "object")], [(.ref 206), (.type "object")], 205, "Hall", true, [], [], false, none, false⟩, #[none, none, (some (.str "Hall" 326)), (some (.str "Hall" 334)), (some (.builtin "object.__new__")), (some (.bool true))]⟩) ::
  (nat_lit 207, ⟨(.type "getset_descriptor"), none, .fields #[(.str "__dict__" 446), (.ref 206), (.builtin "function.__dict__"), (.builtin "function.__dict__#set")], #[]⟩) ::
  (nat_lit 208, ⟨(.type "getset_descriptor"), none, .fields #[(.str "__weakref__" 448), (.ref 206), (.builtin "ExceptionGroup.__weakref__"), .none], #[]⟩) ::
  (nat_lit 211, ⟨(.type "tuple"), none, .seq #[] 0, #[]⟩) ::
  (nat_lit 213, ⟨(.type "tuple"), none, .seq #[(.str "text" 460), (.str "sign" 461)] 0, #[]⟩) ::
  (nat_lit 214, ⟨(.type "tuple"), none, .seq #[] 0, #[]⟩) ::
  (nat_lit 216, ⟨(.type "code"), none, .fields #[(.str "read_number" 457), (.str "read_number" 458), (.str "/claim/cut.py" 459), (.int (86) 0), (.int (1) 0), (.int (0) 0), (.int (0) 0), (.int (3) 0), (.ref 211), (.bool true), (.int (181) 0), (.ref 212), .none, (.ref 213), (.ref 214), (.ref 215), (.int (462) 0), (.int (86) 0), (.str "/claim/cut.py" 463)], #[]⟩) ::
  (nat_lit 217, ⟨(.type "function"), none, .func ⟨"read_number", "read_number", defArgs (top 18), .stmts (defBody (top 18)), defScope (top 18), 3, [], .none, .none, .none, (.str "ratehall.notes" 453), none, (.ref 216), .none, 0⟩, #[]⟩) ::
  (nat_lit 218, ⟨(.type "tuple"), none, .seq #[] 0, #[]⟩) ::
  (nat_lit 220, ⟨(.type "tuple"), none, .seq #[(.str "text" 468), (.str "found" 469)] 0, #[]⟩) ::
  (nat_lit 221, ⟨(.type "tuple"), none, .seq #[] 0, #[]⟩) ::
  (nat_lit 223, ⟨(.type "code"), none, .fields #[(.str "read_signed" 465), (.str "read_signed" 466), (.str "/claim/cut.py" 467), (.int (93) 0), (.int (1) 0), (.int (0) 0), (.int (0) 0), (.int (3) 0), (.ref 218), (.bool true), (.int (181) 0), (.ref 219), .none, (.ref 220), (.ref 221), (.ref 222), (.int (470) 0), (.int (93) 0), (.str "/claim/cut.py" 471)], #[]⟩) ::
  (nat_lit 224, ⟨(.type "function"), none, .func ⟨"read_signed", "read_signed", defArgs (top 19), .stmts (defBody (top 19)), defScope (top 19), 3, [], .none, .none, .none, (.str "ratehall.notes" 453), none, (.ref 223), .none, 0⟩, #[]⟩) ::
  (nat_lit 225, ⟨(.type "tuple"), none, .seq #[] 0, #[]⟩) ::
  (nat_lit 228, ⟨(.type "code"), none, .fields #[(.str "show_hall" 473), (.str "show_hall" 474), (.str "/claim/cut.py" 475), (.int (100) 0), (.int (1) 0), (.int (0) 0), (.int (0) 0), (.int (3) 0), (.ref 225), (.bool true), (.int (181) 0), (.ref 226), .none, .none, .none, (.ref 227), (.int (476) 0), (.int (100) 0), (.str "/claim/cut.py" 477)], #[]⟩) ::
  (nat_lit 229, ⟨(.type "function"), none, .func ⟨"show_hall", "show_hall", defArgs (top 20), .stmts (defBody (top 20)), defScope (top 20), 3, [], .none, .none, .none, (.str "ratehall.notes" 453), none, (.ref 228), .none, 0⟩, #[]⟩) ::
  (nat_lit 230, ⟨(.type "tuple"), none, .seq #[] 0, #[]⟩) ::
  (nat_lit 232, ⟨(.type "tuple"), none, .seq #[(.str "line" 482), (.str "words" 483), (.str "give" 484), (.str "take" 485)] 0, #[]⟩) ::
  (nat_lit 233, ⟨(.type "tuple"), none, .seq #[] 0, #[]⟩) ::
  (nat_lit 235, ⟨(.type "code"), none, .fields #[(.str "read_row" 479), (.str "read_row" 480), (.str "/claim/cut.py" 481), (.int (107) 0), (.int (1) 0), (.int (0) 0), (.int (0) 0), (.int (3) 0), (.ref 230), (.bool true), (.int (181) 0), (.ref 231), .none, (.ref 232), (.ref 233), (.ref 234), (.int (486) 0), (.int (107) 0), (.str "/claim/cut.py" 487)], #[]⟩) ::
  (nat_lit 236, ⟨(.type "function"), none, .func ⟨"read_row", "read_row", defArgs (top 21), .stmts (defBody (top 21)), defScope (top 21), 3, [], .none, .none, .none, (.str "ratehall.notes" 453), none, (.ref 235), .none, 0⟩, #[]⟩) ::
  (nat_lit 237, ⟨(.type "tuple"), none, .seq #[] 0, #[]⟩) ::
  (nat_lit 240, ⟨(.type "code"), none, .fields #[(.str "read_hall" 489), (.str "read_hall" 490), (.str "/claim/cut.py" 491), (.int (116) 0), (.int (1) 0), (.int (0) 0), (.int (0) 0), (.int (3) 0), (.ref 237), (.bool true), (.int (181) 0), (.ref 238), .none, .none, .none, (.ref 239), (.int (492) 0), (.int (116) 0), (.str "/claim/cut.py" 493)], #[]⟩) ::
  (nat_lit 241, ⟨(.type "function"), none, .func ⟨"read_hall", "read_hall", defArgs (top 22), .stmts (defBody (top 22)), defScope (top 22), 3, [], .none, .none, .none, (.str "ratehall.notes" 453), none, (.ref 240), .none, 0⟩, #[]⟩) ::
  (nat_lit 242, ⟨(.type "tuple"), none, .seq #[] 0, #[]⟩) ::
  (nat_lit 244, ⟨(.type "tuple"), none, .seq #[(.str "form" 498), (.str "constant" 499), (.str "terms" 500), (.str "text" 501), (.str "slot" 502), (.str "factor" 503)] 0, #[]⟩) ::
  (nat_lit 245, ⟨(.type "tuple"), none, .seq #[] 0, #[]⟩) ::
  (nat_lit 247, ⟨(.type "code"), none, .fields #[(.str "show_form" 495), (.str "show_form" 496), (.str "/claim/cut.py" 497), (.int (126) 0), (.int (1) 0), (.int (0) 0), (.int (0) 0), (.int (3) 0), (.ref 242), (.bool true), (.int (181) 0), (.ref 243), .none, (.ref 244), (.ref 245), (.ref 246), (.int (504) 0), (.int (126) 0), (.str "/claim/cut.py" 505)], #[]⟩) ::
  (nat_lit 248, ⟨(.type "function"), none, .func ⟨"show_form", "show_form", defArgs (top 23), .stmts (defBody (top 23)), defScope (top 23), 3, [], .none, .none, .none, (.str "ratehall.notes" 453), none, (.ref 247), .none, 0⟩, #[]⟩) ::
  (nat_lit 249, ⟨(.type "tuple"), none, .seq #[] 0, #[]⟩) ::
  (nat_lit 251, ⟨(.type "tuple"), none, .seq #[(.str "text" 510), (.str "words" 511), (.str "constant" 512), (.str "terms" 513), (.str "word" 514), (.str "factor" 515), (.str "sign" 516), (.str "slot" 517), (.str "number" 518)] 0, #[]⟩) ::
  (nat_lit 252, ⟨(.type "tuple"), none, .seq #[] 0, #[]⟩) ::
  (nat_lit 254, ⟨(.type "code"), none, .fields #[(.str "read_form" 507), (.str "read_form" 508), (.str "/claim/cut.py" 509), (.int (132) 0), (.int (1) 0), (.int (0) 0), (.int (0) 0), (.int (3) 0), (.ref 249), (.bool true), (.int (181) 0), (.ref 250), .none, (.ref 251), (.ref 252), (.ref 253), (.int (519) 0), (.int (132) 0), (.str "/claim/cut.py" 520)], #[]⟩) ::
  (nat_lit 255, ⟨(.type "function"), none, .func ⟨"read_form", "read_form", defArgs (top 24), .stmts (defBody (top 24)), defScope (top 24), 3, [], .none, .none, .none, (.str "ratehall.notes" 453), none, (.ref 254), .none, 0⟩, #[]⟩) ::
  (nat_lit 256, ⟨(.type "tuple"), none, .seq #[] 0, #[]⟩) ::
  (nat_lit 259, ⟨(.type "code"), none, .fields #[(.str "show_forms" 522), (.str "show_forms" 523), (.str "/claim/cut.py" 524), (.int (143) 0), (.int (1) 0), (.int (0) 0), (.int (0) 0), (.int (3) 0), (.ref 256), (.bool true), (.int (181) 0), (.ref 257), .none, .none, .none, (.ref 258), (.int (525) 0), (.int (143) 0), (.str "/claim/cut.py" 526)], #[]⟩) ::
  (nat_lit 260, ⟨(.type "function"), none, .func ⟨"show_forms", "show_forms", defArgs (top 25), .stmts (defBody (top 25)), defScope (top 25), 3, [], .none, .none, .none, (.str "ratehall.notes" 453), none, (.ref 259), .none, 0⟩, #[]⟩) ::
  (nat_lit 261, ⟨(.type "tuple"), none, .seq #[] 0, #[]⟩) ::
  (nat_lit 264, ⟨(.type "code"), none, .fields #[(.str "read_forms" 528), (.str "read_forms" 529), (.str "/claim/cut.py" 530), (.int (147) 0), (.int (1) 0), (.int (0) 0), (.int (0) 0), (.int (3) 0), (.ref 261), (.bool true), (.int (181) 0), (.ref 262), .none, .none, .none, (.ref 263), (.int (531) 0), (.int (147) 0), (.str "/claim/cut.py" 532)], #[]⟩) ::
  (nat_lit 265, ⟨(.type "function"), none, .func ⟨"read_forms", "read_forms", defArgs (top 26), .stmts (defBody (top 26)), defScope (top 26), 3, [], .none, .none, .none, (.str "ratehall.notes" 453), none, (.ref 264), .none, 0⟩, #[]⟩) ::
  (nat_lit 266, ⟨(.type "tuple"), none, .seq #[] 0, #[]⟩) ::
  (nat_lit 268, ⟨(.type "tuple"), none, .seq #[(.str "_law_script" 539), (.str "_law_k" 540)] 0, #[]⟩) ::
  (nat_lit 269, ⟨(.type "tuple"), none, .seq #[] 0, #[]⟩) ::
  (nat_lit 271, ⟨(.type "code"), none, .fields #[(.str "_law_cell" 536), (.str "_law_cell" 537), (.str "/claim/cut.py" 538), (.int (152) 0), (.int (2) 0), (.int (0) 0), (.int (0) 0), (.int (3) 0), (.ref 266), (.bool true), (.int (181) 0), (.ref 267), .none, (.ref 268), (.ref 269), (.ref 270), (.int (541) 0), (.int (152) 0), (.str "/claim/cut.py" 542)], #[]⟩) ::
  (nat_lit 272, ⟨(.type "function"), none, .func ⟨"_law_cell", "_law_cell", defArgs (top 28), .stmts (defBody (top 28)), defScope (top 28), 3, [], .none, .none, .none, (.str "law_ratehall_k31_halls_and_forms_written" 534), none, (.ref 271), .none, 0⟩, #[]⟩) ::
  (nat_lit 273, ⟨(.type "tuple"), none, .seq #[] 0, #[]⟩) ::
  (nat_lit 275, ⟨(.type "tuple"), none, .seq #[(.str "_law_cell_here" 547), (.str "_law_way" 548), (.str "_law_first" 549)] 0, #[]⟩) ::
  (nat_lit 276, ⟨(.type "tuple"), none, .seq #[] 0, #[]⟩) ::
  (nat_lit 278, ⟨(.type "code"), none, .fields #[(.str "_law_mix" 544), (.str "_law_mix" 545), (.str "/claim/cut.py" 546), (.int (156) 0), (.int (2) 0), (.int (0) 0), (.int (0) 0), (.int (3) 0), (.ref 273), (.bool true), (.int (181) 0), (.ref 274), .none, (.ref 275), (.ref 276), (.ref 277), (.int (550) 0), (.int (156) 0), (.str "/claim/cut.py" 551)], #[]⟩) ::
  (nat_lit 279, ⟨(.type "function"), none, .func ⟨"_law_mix", "_law_mix", defArgs (top 29), .stmts (defBody (top 29)), defScope (top 29), 3, [], .none, .none, .none, (.str "law_ratehall_k31_halls_and_forms_written" 534), none, (.ref 278), .none, 0⟩, #[]⟩) ::
  (nat_lit 280, ⟨(.type "tuple"), none, .seq #[] 0, #[]⟩) ::
  (nat_lit 283, ⟨(.type "code"), none, .fields #[(.str "_law_name" 553), (.str "_law_name" 554), (.str "/claim/cut.py" 555), (.int (159) 0), (.int (2) 0), (.int (0) 0), (.int (0) 0), (.int (3) 0), (.ref 280), (.bool true), (.int (181) 0), (.ref 281), .none, .none, .none, (.ref 282), (.int (556) 0), (.int (159) 0), (.str "/claim/cut.py" 557)], #[]⟩) ::
  (nat_lit 284, ⟨(.type "function"), none, .func ⟨"_law_name", "_law_name", defArgs (top 30), .stmts (defBody (top 30)), defScope (top 30), 3, [], .none, .none, .none, (.str "law_ratehall_k31_halls_and_forms_written" 534), none, (.ref 283), .none, 0⟩, #[]⟩) ::
  (nat_lit 285, ⟨(.type "tuple"), none, .seq #[] 0, #[]⟩) ::
  (nat_lit 287, ⟨(.type "tuple"), none, .seq #[(.str "_law_found" 562)] 0, #[]⟩) ::
  (nat_lit 288, ⟨(.type "tuple"), none, .seq #[] 0, #[]⟩) ::
  (nat_lit 290, ⟨(.type "code"), none, .fields #[(.str "_law_whole" 559), (.str "_law_whole" 560), (.str "/claim/cut.py" 561), (.int (163) 0), (.int (1) 0), (.int (0) 0), (.int (0) 0), (.int (3) 0), (.ref 285), (.bool true), (.int (181) 0), (.ref 286), .none, (.ref 287), (.ref 288), (.ref 289), (.int (563) 0), (.int (163) 0), (.str "/claim/cut.py" 564)], #[]⟩) ::
  (nat_lit 291, ⟨(.type "function"), none, .func ⟨"_law_whole", "_law_whole", defArgs (top 31), .stmts (defBody (top 31)), defScope (top 31), 3, [], .none, .none, .none, (.str "law_ratehall_k31_halls_and_forms_written" 534), none, (.ref 290), .none, 0⟩, #[]⟩) ::
  (nat_lit 292, ⟨(.type "tuple"), none, .seq #[] 0, #[]⟩) ::
  (nat_lit 294, ⟨(.type "tuple"), none, .seq #[(.str "_law_names_here" 569), (.str "_law_line" 570), (.str "_law_head" 571)] 0, #[]⟩) ::
  (nat_lit 295, ⟨(.type "tuple"), none, .seq #[] 0, #[]⟩) ::
  (nat_lit 297, ⟨(.type "code"), none, .fields #[(.str "_law_line_text" 566), (.str "_law_line_text" 567), (.str "/claim/cut.py" 568), (.int (165) 0), (.int (2) 0), (.int (0) 0), (.int (0) 0), (.int (3) 0), (.ref 292), (.bool true), (.int (181) 0), (.ref 293), .none, (.ref 294), (.ref 295), (.ref 296), (.int (572) 0), (.int (165) 0), (.str "/claim/cut.py" 573)], #[]⟩) ::
  (nat_lit 298, ⟨(.type "function"), none, .func ⟨"_law_line_text", "_law_line_text", defArgs (top 32), .stmts (defBody (top 32)), defScope (top 32), 3, [], .none, .none, .none, (.str "law_ratehall_k31_halls_and_forms_written" 534), none, (.ref 297), .none, 0⟩, #[]⟩) ::
  (nat_lit 299, ⟨(.type "tuple"), none, .seq #[] 0, #[]⟩) ::
  (nat_lit 301, ⟨(.type "tuple"), none, .seq #[(.str "_law_cell_here" 578), (.str "_law_way" 579), (.str "_law_many" 580), (.str "_law_terms" 581), (.str "_law_draw" 582), (.str "_law_k" 583), (.str "_law_part" 584), (.str "_law_factor" 585), (.str "_law_slot" 586), (.str "_law_constant" 587)] 0, #[]⟩) ::
  (nat_lit 302, ⟨(.type "tuple"), none, .seq #[] 0, #[]⟩) ::
  (nat_lit 304, ⟨(.type "code"), none, .fields #[(.str "_law_form" 575), (.str "_law_form" 576), (.str "/claim/cut.py" 577), (.int (168) 0), (.int (3) 0), (.int (0) 0), (.int (0) 0), (.int (3) 0), (.ref 299), (.bool true), (.int (181) 0), (.ref 300), .none, (.ref 301), (.ref 302), (.ref 303), (.int (588) 0), (.int (168) 0), (.str "/claim/cut.py" 589)], #[]⟩) ::
  (nat_lit 305, ⟨(.type "function"), none, .func ⟨"_law_form", "_law_form", defArgs (top 33), .stmts (defBody (top 33)), defScope (top 33), 3, [], .none, .none, .none, (.str "law_ratehall_k31_halls_and_forms_written" 534), none, (.ref 304), .none, 0⟩, #[]⟩) ::
  (nat_lit 306, ⟨(.type "tuple"), none, .seq #[] 0, #[]⟩) ::
  (nat_lit 308, ⟨(.type "tuple"), none, .seq #[(.str "_law_form_here" 594), (.str "_law_text" 595), (.str "_law_slot" 596), (.str "_law_factor" 597)] 0, #[]⟩) ::
  (nat_lit 309, ⟨(.type "tuple"), none, .seq #[] 0, #[]⟩) ::
  (nat_lit 311, ⟨(.type "code"), none, .fields #[(.str "_law_form_text" 591), (.str "_law_form_text" 592), (.str "/claim/cut.py" 593), (.int (184) 0), (.int (1) 0), (.int (0) 0), (.int (0) 0), (.int (3) 0), (.ref 306), (.bool true), (.int (181) 0), (.ref 307), .none, (.ref 308), (.ref 309), (.ref 310), (.int (598) 0), (.int (184) 0), (.str "/claim/cut.py" 599)], #[]⟩) ::
  (nat_lit 312, ⟨(.type "function"), none, .func ⟨"_law_form_text", "_law_form_text", defArgs (top 34), .stmts (defBody (top 34)), defScope (top 34), 3, [], .none, .none, .none, (.str "law_ratehall_k31_halls_and_forms_written" 534), none, (.ref 311), .none, 0⟩, #[]⟩) ::
  (nat_lit 313, ⟨(.type "tuple"), none, .seq #[] 0, #[]⟩) ::
  (nat_lit 315, ⟨(.type "tuple"), none, .seq #[(.str "_law_script" 604), (.str "_law_letters" 605), (.str "_law_names_here" 606), (.str "_law_k" 607), (.str "_law_cell_here" 608), (.str "_law_draw" 609), (.str "_law_name_here" 610), (.str "_law_first" 611), (.str "_law_at" 612)] 0, #[]⟩) ::
  (nat_lit 316, ⟨(.type "tuple"), none, .seq #[] 0, #[]⟩) ::
  (nat_lit 318, ⟨(.type "code"), none, .fields #[(.str "_law_names" 601), (.str "_law_names" 602), (.str "/claim/cut.py" 603), (.int (189) 0), (.int (1) 0), (.int (0) 0), (.int (0) 0), (.int (3) 0), (.ref 313), (.bool true), (.int (181) 0), (.ref 314), .none, (.ref 315), (.ref 316), (.ref 317), (.int (613) 0), (.int (189) 0), (.str "/claim/cut.py" 614)], #[]⟩) ::
  (nat_lit 319, ⟨(.type "function"), none, .func ⟨"_law_names", "_law_names", defArgs (top 35), .stmts (defBody (top 35)), defScope (top 35), 3, [], .none, .none, .none, (.str "law_ratehall_k31_halls_and_forms_written" 534), none, (.ref 318), .none, 0⟩, #[]⟩) ::
  (nat_lit 320, ⟨(.type "tuple"), none, .seq #[] 0, #[]⟩) ::
  (nat_lit 322, ⟨(.type "tuple"), none, .seq #[(.str "_law_script" 619), (.str "_law_many" 620), (.str "_law_lines_here" 621), (.str "_law_size" 622), (.str "_law_k" 623), (.str "_law_cell_here" 624), (.str "_law_draw" 625), (.str "_law_pair" 626), (.str "_law_at" 627)] 0, #[]⟩) ::
  (nat_lit 323, ⟨(.type "tuple"), none, .seq #[] 0, #[]⟩) ::
  (nat_lit 325, ⟨(.type "code"), none, .fields #[(.str "_law_lines" 616), (.str "_law_lines" 617), (.str "/claim/cut.py" 618), (.int (203) 0), (.int (2) 0), (.int (0) 0), (.int (0) 0), (.int (3) 0), (.ref 320), (.bool true), (.int (181) 0), (.ref 321), .none, (.ref 322), (.ref 323), (.ref 324), (.int (628) 0), (.int (203) 0), (.str "/claim/cut.py" 629)], #[]⟩) ::
  (nat_lit 326, ⟨(.type "function"), none, .func ⟨"_law_lines", "_law_lines", defArgs (top 36), .stmts (defBody (top 36)), defScope (top 36), 3, [], .none, .none, .none, (.str "law_ratehall_k31_halls_and_forms_written" 534), none, (.ref 325), .none, 0⟩, #[]⟩) ::
  (nat_lit 327, ⟨(.type "tuple"), none, .seq #[] 0, #[]⟩) ::
  (nat_lit 330, ⟨(.type "code"), none, .fields #[(.str "_law_mixed_rows" 631), (.str "_law_mixed_rows" 632), (.str "/claim/cut.py" 633), (.int (215) 0), (.int (3) 0), (.int (0) 0), (.int (0) 0), (.int (3) 0), (.ref 327), (.bool true), (.int (181) 0), (.ref 328), .none, .none, .none, (.ref 329), (.int (634) 0), (.int (215) 0), (.str "/claim/cut.py" 635)], #[]⟩) ::
  (nat_lit 331, ⟨(.type "function"), none, .func ⟨"_law_mixed_rows", "_law_mixed_rows", defArgs (top 37), .stmts (defBody (top 37)), defScope (top 37), 3, [], .none, .none, .none, (.str "law_ratehall_k31_halls_and_forms_written" 534), none, (.ref 330), .none, 0⟩, #[]⟩) ::
  (nat_lit 332, ⟨(.type "tuple"), none, .seq #[] 0, #[]⟩) ::
  (nat_lit 334, ⟨(.type "tuple"), none, .seq #[(.str "_law_found" 640), (.str "_law_due" 641), (.str "_law_term" 642)] 0, #[]⟩) ::
  (nat_lit 335, ⟨(.type "tuple"), none, .seq #[] 0, #[]⟩) ::
  (nat_lit 337, ⟨(.type "code"), none, .fields #[(.str "_law_is_form" 637), (.str "_law_is_form" 638), (.str "/claim/cut.py" 639), (.int (225) 0), (.int (2) 0), (.int (0) 0), (.int (0) 0), (.int (3) 0), (.ref 332), (.bool true), (.int (181) 0), (.ref 333), .none, (.ref 334), (.ref 335), (.ref 336), (.int (643) 0), (.int (225) 0), (.str "/claim/cut.py" 644)], #[]⟩) ::
  (nat_lit 338, ⟨(.type "function"), none, .func ⟨"_law_is_form", "_law_is_form", defArgs (top 38), .stmts (defBody (top 38)), defScope (top 38), 3, [], .none, .none, .none, (.str "law_ratehall_k31_halls_and_forms_written" 534), none, (.ref 337), .none, 0⟩, #[]⟩) ::
  (nat_lit 339, ⟨(.type "tuple"), none, .seq #[] 0, #[]⟩) ::
  (nat_lit 342, ⟨(.type "code"), none, .fields #[(.str "_law_forms_good" 646), (.str "_law_forms_good" 647), (.str "/claim/cut.py" 648), (.int (232) 0), (.int (1) 0), (.int (0) 0), (.int (0) 0), (.int (3) 0), (.ref 339), (.bool true), (.int (181) 0), (.ref 340), .none, .none, .none, (.ref 341), (.int (649) 0), (.int (232) 0), (.str "/claim/cut.py" 650)], #[]⟩) ::
  (nat_lit 343, ⟨(.type "function"), none, .func ⟨"_law_forms_good", "_law_forms_good", defArgs (top 39), .stmts (defBody (top 39)), defScope (top 39), 3, [], .none, .none, .none, (.str "law_ratehall_k31_halls_and_forms_written" 534), none, (.ref 342), .none, 0⟩, #[]⟩) ::
  (nat_lit 344, ⟨(.type "tuple"), none, .seq #[] 0, #[]⟩) ::
  (nat_lit 347, ⟨(.type "code"), none, .fields #[(.str "law" 652), (.str "law" 653), (.str "/claim/cut.py" 654), (.int (257) 0), (.int (1) 0), (.int (0) 0), (.int (0) 0), (.int (3) 0), (.ref 344), (.bool true), (.int (181) 0), (.ref 345), .none, .none, .none, (.ref 346), (.int (655) 0), (.int (257) 0), (.str "/claim/cut.py" 656)], #[]⟩) ::
  (nat_lit 348, ⟨(.type "function"), none, .func ⟨"law", "law", defArgs (top 40), .stmts (defBody (top 40)), defScope (top 40), 3, [], .none, .none, .none, (.str "law_ratehall_k31_halls_and_forms_written" 534), none, (.ref 347), .none, 0⟩, #[]⟩) :: []
def Ax : List Addr := 2 :: 3 :: 15 :: 17 :: 18 :: 20 :: 21 :: 22 :: 29 :: 30 :: 31 :: 32 :: 35 :: 42 :: 43 :: 44 :: 47 :: 54 :: 55 :: 56 :: 59 :: 66 :: 67 :: 68 :: 71 :: 78 :: 79 :: 80 :: 83 :: 90 :: 91 :: 92 :: 95 :: 102 :: 103 :: 104 :: 107 :: 110 :: 111 :: 119 :: 121 :: 122 :: 124 :: 125 :: 126 :: 128 :: 129 :: 131 :: 132 :: 133 :: 135 :: 136 :: 138 :: 139 :: 140 :: 141 :: 143 :: 144 :: 146 :: 147 :: 148 :: 150 :: 151 :: 153 :: 154 :: 155 :: 157 :: 158 :: 160 :: 161 :: 162 :: 164 :: 165 :: 167 :: 168 :: 169 :: 171 :: 172 :: 174 :: 175 :: 176 :: 178 :: 179 :: 181 :: 182 :: 183 :: 185 :: 186 :: 188 :: 189 :: 190 :: 192 :: 193 :: 195 :: 196 :: 197 :: 199 :: 200 :: 202 :: 203 :: 204 :: 205 :: 206 :: 207 :: 208 :: 211 :: 213 :: 214 :: 216 :: 217 :: 218 :: 220 :: 221 :: 223 :: 224 :: 225 :: 228 :: 229 :: 230 :: 232 :: 233 :: 235 :: 236 :: 237 :: 240 :: 241 :: 242 :: 244 :: 245 :: 247 :: 248 :: 249 :: 251 :: 252 :: 254 :: 255 :: 256 :: 259 :: 260 :: 261 :: 264 :: 265 :: 266 :: 268 :: 269 :: 271 :: 272 :: 273 :: 275 :: 276 :: 278 :: 279 :: 280 :: 283 :: 284 :: 285 :: 287 :: 288 :: 290 :: 291 :: 292 :: 294 :: 295 :: 297 :: 298 :: 299 :: 301 :: 302 :: 304 :: 305 :: 306 :: 308 :: 309 :: 311 :: 312 :: 313 :: 315 :: 316 :: 318 :: 319 :: 320 :: 322 :: 323 :: 325 :: 326 :: 327 :: 330 :: 331 :: 332 :: 334 :: 335 :: 337 :: 338 :: 339 :: 342 :: 343 :: 344 :: 347 :: 348 :: []
theorem Ex_ : ∀ P, Ax = (Kx P).map (·.1) := fun _ => by kernel_rfl
def Vx : Program := PySem.W.view (PySem.W.OpenLaw.row PySem.Challenge.rw_ratehall_k31_halls_and_forms_written).prog [40]
def Nx : List PySem.Str := PySem.Str.ofString "_wall" :: PySem.Str.ofString "RateError" :: PySem.Str.ofString "NoName" :: PySem.Str.ofString "Twice" :: PySem.Str.ofString "TooMuch" :: PySem.Str.ofString "NoWork" :: PySem.Str.ofString "NoRate" :: PySem.Str.ofString "NoText" :: PySem.Str.ofString "LETTERS" :: PySem.Str.ofString "is_name" :: PySem.Str.ofString "MOST_WORKS" :: PySem.Str.ofString "MOST_BELTS" :: PySem.Str.ofString "Hall" :: PySem.Str.ofString "FIGURES" :: PySem.Str.ofString "read_number" :: PySem.Str.ofString "read_signed" :: PySem.Str.ofString "show_hall" :: PySem.Str.ofString "read_row" :: PySem.Str.ofString "read_hall" :: PySem.Str.ofString "show_form" :: PySem.Str.ofString "read_form" :: PySem.Str.ofString "show_forms" :: PySem.Str.ofString "read_forms" :: PySem.Str.ofString "_law_cell" :: PySem.Str.ofString "_law_mix" :: PySem.Str.ofString "_law_name" :: PySem.Str.ofString "_law_whole" :: PySem.Str.ofString "_law_line_text" :: PySem.Str.ofString "_law_form" :: PySem.Str.ofString "_law_form_text" :: PySem.Str.ofString "_law_names" :: PySem.Str.ofString "_law_lines" :: PySem.Str.ofString "_law_mixed_rows" :: PySem.Str.ofString "_law_is_form" :: PySem.Str.ofString "_law_forms_good" :: []
theorem run_ (w : World) : HandSHeadRun.RunEq (PySem.W.OpenLaw.row PySem.Challenge.rw_ratehall_k31_halls_and_forms_written) Vx (PySem.W.kHook Kx Ax Ex_) (fun s => Ax.map (HandSHeadRun.getT s)) 20000 Nx w := by
  intro os
  kernel_rfl
def Γ : Nat → TSp
  | 7 => S_Hall_init
  | 9 => S_Hall_names
  | 10 => S_Hall_belts
  | 29 => S_Hall_lay
  | 30 => S_is_name
  | 31 => S_Hall_work
  | 43 => S_Hall_need
  | 51 => S_read_number
  | 54 => S_Hall_number_of
  | 56 => S_Hall_belt
  | 63 => S_show_hall
  | 68 => S_read_signed
  | 69 => S_read_form
  | 70 => S_read_forms
  | 102 => S_read_row
  | 103 => S_read_hall
  | 104 => S_show_form
  | 105 => S_show_forms
  | 1000 => S__law_cell
  | 1001 => S__law_mix
  | 1002 => S__law_form
  | 1003 => S__law_form_text
  | 1004 => S__law_whole
  | 1005 => S__law_is_form
  | 1006 => S__law_forms_good
  | 1007 => S__law_line_text
  | 1008 => S__law_lines
  | 1009 => S__law_mixed_rows
  | 1010 => S__law_name
  | 1011 => S__law_names
  | 1012 => S_law
  | _ => fun _ _ _ _ => False
theorem all_mk {l : PySem.W.OpenLaw} {w : World} {K : PySem.W.Frag} {h : Heap} {mg : Str → Option Value} {fa : Addr} (X : K.In h) (Gn : h.Ns mainGlobals mg) (hfa : mg "law" = some (.ref fa))
    {C_Hall E_NoName E_NoRate E_NoText E_NoWork E_TooMuch E_Twice f_Hall_init f_Hall_names f_Hall_belts f_Hall_lay f_is_name f_Hall_work f_Hall_need f_read_number f_Hall_number_of f_Hall_belt d_Hall_belt f_show_hall f_read_signed f_read_form f_read_forms f_read_row f_read_hall f_show_form f_show_forms f__law_cell f__law_mix f__law_form f__law_form_text f__law_whole f__law_is_form f__law_forms_good f__law_line_text f__law_lines f__law_mixed_rows f__law_name f__law_names f_law : Addr} {oc_Hall_init kV_Hall_init dc_Hall_init pm_Hall_init cd_Hall_init ct_Hall_init oc_Hall_names kV_Hall_names dc_Hall_names pm_Hall_names cd_Hall_names ct_Hall_names oc_Hall_belts kV_Hall_belts dc_Hall_belts pm_Hall_belts cd_Hall_belts ct_Hall_belts oc_Hall_lay kV_Hall_lay dc_Hall_lay pm_Hall_lay cd_Hall_lay ct_Hall_lay oc_is_name kV_is_name dc_is_name pm_is_name cd_is_name ct_is_name oc_Hall_work kV_Hall_work dc_Hall_work pm_Hall_work cd_Hall_work ct_Hall_work oc_Hall_need kV_Hall_need dc_Hall_need pm_Hall_need cd_Hall_need ct_Hall_need oc_read_number kV_read_number dc_read_number pm_read_number cd_read_number ct_read_number oc_Hall_number_of kV_Hall_number_of dc_Hall_number_of pm_Hall_number_of cd_Hall_number_of ct_Hall_number_of oc_Hall_belt kV_Hall_belt dc_Hall_belt pm_Hall_belt cd_Hall_belt ct_Hall_belt oe_Hall_belt oc_show_hall kV_show_hall dc_show_hall pm_show_hall cd_show_hall ct_show_hall oc_read_signed kV_read_signed dc_read_signed pm_read_signed cd_read_signed ct_read_signed oc_read_form kV_read_form dc_read_form pm_read_form cd_read_form ct_read_form oc_read_forms kV_read_forms dc_read_forms pm_read_forms cd_read_forms ct_read_forms oc_read_row kV_read_row dc_read_row pm_read_row cd_read_row ct_read_row oc_read_hall kV_read_hall dc_read_hall pm_read_hall cd_read_hall ct_read_hall oc_show_form kV_show_form dc_show_form pm_show_form cd_show_form ct_show_form oc_show_forms kV_show_forms dc_show_forms pm_show_forms cd_show_forms ct_show_forms oc__law_cell kV__law_cell dc__law_cell pm__law_cell cd__law_cell ct__law_cell oc__law_mix kV__law_mix dc__law_mix pm__law_mix cd__law_mix ct__law_mix oc__law_form kV__law_form dc__law_form pm__law_form cd__law_form ct__law_form oc__law_form_text kV__law_form_text dc__law_form_text pm__law_form_text cd__law_form_text ct__law_form_text oc__law_whole kV__law_whole dc__law_whole pm__law_whole cd__law_whole ct__law_whole oc__law_is_form kV__law_is_form dc__law_is_form pm__law_is_form cd__law_is_form ct__law_is_form oc__law_forms_good kV__law_forms_good dc__law_forms_good pm__law_forms_good cd__law_forms_good ct__law_forms_good oc__law_line_text kV__law_line_text dc__law_line_text pm__law_line_text cd__law_line_text ct__law_line_text oc__law_lines kV__law_lines dc__law_lines pm__law_lines cd__law_lines ct__law_lines oc__law_mixed_rows kV__law_mixed_rows dc__law_mixed_rows pm__law_mixed_rows cd__law_mixed_rows ct__law_mixed_rows oc__law_name kV__law_name dc__law_name pm__law_name cd__law_name ct__law_name oc__law_names kV__law_names dc__law_names pm__law_names cd__law_names ct__law_names oc_law kV_law dc_law pm_law cd_law ct_law : Value} {od_Hall_init an_Hall_init od_Hall_names an_Hall_names od_Hall_belts an_Hall_belts od_Hall_lay an_Hall_lay od_is_name an_is_name od_Hall_work an_Hall_work od_Hall_need an_Hall_need od_read_number an_read_number od_Hall_number_of an_Hall_number_of od_Hall_belt an_Hall_belt oo_Hall_belt od_show_hall an_show_hall od_read_signed an_read_signed od_read_form an_read_form od_read_forms an_read_forms od_read_row an_read_row od_read_hall an_read_hall od_show_form an_show_form od_show_forms an_show_forms od__law_cell an__law_cell od__law_mix an__law_mix od__law_form an__law_form od__law_form_text an__law_form_text od__law_whole an__law_whole od__law_is_form an__law_is_form od__law_forms_good an__law_forms_good od__law_line_text an__law_line_text od__law_lines an__law_lines od__law_mixed_rows an__law_mixed_rows od__law_name an__law_name od__law_names an__law_names od_law an_law : Option Addr} {sl_Hall_init sl_Hall_names sl_Hall_belts sl_Hall_lay sl_is_name sl_Hall_work sl_Hall_need sl_read_number sl_Hall_number_of sl_Hall_belt os_Hall_belt sl_show_hall sl_read_signed sl_read_form sl_read_forms sl_read_row sl_read_hall sl_show_form sl_show_forms sl__law_cell sl__law_mix sl__law_form sl__law_form_text sl__law_whole sl__law_is_form sl__law_forms_good sl__law_line_text sl__law_lines sl__law_mixed_rows sl__law_name sl__law_names sl_law : Array (Option Value)} {nn_Hall_belt : Nat} {tk_Hall_belt k_FIGURES k_LETTERS k_MOST_BELTS k_MOST_WORKS : Tok}
    (n_Hall : PySem.W.nsIn K mainGlobals "Hall" = some (some (.ref C_Hall)))
    (pg_Hall : PySem.W.plainGet K C_Hall Str.empty = true)
    (hd_Hall : PySem.W.hasDictIn K C_Hall = true)
    (po_Hall : PySem.W.plainOver K C_Hall = true)
    (sa_Hall : PySem.W.findIn K (.ref C_Hall) "__setattr__" = some (some (.builtin "object.__setattr__")))
    (mk_Hall : PySem.W.makesIn K C_Hall = true)
    (kc_Hall : PySem.W.keepIn K (.ref C_Hall) = true)
    (na_Hall_called : PySem.W.findIn K (.ref C_Hall) "called" = some none)
    (na_Hall_lines : PySem.W.findIn K (.ref C_Hall) "lines" = some none)
    (x_NoName : PySem.W.nsIn K mainGlobals "NoName" = some (some (.ref E_NoName)))
    (xx_NoName : PySem.W.excIn K E_NoName [.type "ValueError", .type "Exception", .type "BaseException", .type "object"] "ValueError.__new__" = true)
    (xk_NoName : PySem.W.keepIn K (.ref E_NoName) = true)
    (xb_NoName : PySem.W.subIn K (.ref E_NoName) (.type "BaseException") = some true)
    (xh_NoName : PySem.W.hasDictIn K E_NoName = true)
    (xt_NoName : PySem.W.typeIn K (.ref E_NoName) = some (.type "type"))
    (x_NoRate : PySem.W.nsIn K mainGlobals "NoRate" = some (some (.ref E_NoRate)))
    (xx_NoRate : PySem.W.excIn K E_NoRate [.type "ValueError", .type "Exception", .type "BaseException", .type "object"] "ValueError.__new__" = true)
    (xk_NoRate : PySem.W.keepIn K (.ref E_NoRate) = true)
    (xb_NoRate : PySem.W.subIn K (.ref E_NoRate) (.type "BaseException") = some true)
    (xh_NoRate : PySem.W.hasDictIn K E_NoRate = true)
    (xt_NoRate : PySem.W.typeIn K (.ref E_NoRate) = some (.type "type"))
    (x_NoText : PySem.W.nsIn K mainGlobals "NoText" = some (some (.ref E_NoText)))
    (xx_NoText : PySem.W.excIn K E_NoText [.type "ValueError", .type "Exception", .type "BaseException", .type "object"] "ValueError.__new__" = true)
    (xk_NoText : PySem.W.keepIn K (.ref E_NoText) = true)
    (xb_NoText : PySem.W.subIn K (.ref E_NoText) (.type "BaseException") = some true)
    (xh_NoText : PySem.W.hasDictIn K E_NoText = true)
    (xt_NoText : PySem.W.typeIn K (.ref E_NoText) = some (.type "type"))
    (x_NoWork : PySem.W.nsIn K mainGlobals "NoWork" = some (some (.ref E_NoWork)))
    (xx_NoWork : PySem.W.excIn K E_NoWork [.type "ValueError", .type "Exception", .type "BaseException", .type "object"] "ValueError.__new__" = true)
    (xk_NoWork : PySem.W.keepIn K (.ref E_NoWork) = true)
    (xb_NoWork : PySem.W.subIn K (.ref E_NoWork) (.type "BaseException") = some true)
    (xh_NoWork : PySem.W.hasDictIn K E_NoWork = true)
    (xt_NoWork : PySem.W.typeIn K (.ref E_NoWork) = some (.type "type"))
    (x_TooMuch : PySem.W.nsIn K mainGlobals "TooMuch" = some (some (.ref E_TooMuch)))
    (xx_TooMuch : PySem.W.excIn K E_TooMuch [.type "ValueError", .type "Exception", .type "BaseException", .type "object"] "ValueError.__new__" = true)
    (xk_TooMuch : PySem.W.keepIn K (.ref E_TooMuch) = true)
    (xb_TooMuch : PySem.W.subIn K (.ref E_TooMuch) (.type "BaseException") = some true)
    (xh_TooMuch : PySem.W.hasDictIn K E_TooMuch = true)
    (xt_TooMuch : PySem.W.typeIn K (.ref E_TooMuch) = some (.type "type"))
    (x_Twice : PySem.W.nsIn K mainGlobals "Twice" = some (some (.ref E_Twice)))
    (xx_Twice : PySem.W.excIn K E_Twice [.type "ValueError", .type "Exception", .type "BaseException", .type "object"] "ValueError.__new__" = true)
    (xk_Twice : PySem.W.keepIn K (.ref E_Twice) = true)
    (xb_Twice : PySem.W.subIn K (.ref E_Twice) (.type "BaseException") = some true)
    (xh_Twice : PySem.W.hasDictIn K E_Twice = true)
    (xt_Twice : PySem.W.typeIn K (.ref E_Twice) = some (.type "type"))
    (xs_NoName_NoName : PySem.W.subIn K (.ref E_NoName) (.ref E_NoName) = some true)
    (xs_NoName_NoRate : PySem.W.subIn K (.ref E_NoName) (.ref E_NoRate) = some false)
    (xs_NoName_NoText : PySem.W.subIn K (.ref E_NoName) (.ref E_NoText) = some false)
    (xs_NoName_NoWork : PySem.W.subIn K (.ref E_NoName) (.ref E_NoWork) = some false)
    (xs_NoName_TooMuch : PySem.W.subIn K (.ref E_NoName) (.ref E_TooMuch) = some false)
    (xs_NoName_Twice : PySem.W.subIn K (.ref E_NoName) (.ref E_Twice) = some false)
    (xs_NoRate_NoName : PySem.W.subIn K (.ref E_NoRate) (.ref E_NoName) = some false)
    (xs_NoRate_NoRate : PySem.W.subIn K (.ref E_NoRate) (.ref E_NoRate) = some true)
    (xs_NoRate_NoText : PySem.W.subIn K (.ref E_NoRate) (.ref E_NoText) = some false)
    (xs_NoRate_NoWork : PySem.W.subIn K (.ref E_NoRate) (.ref E_NoWork) = some false)
    (xs_NoRate_TooMuch : PySem.W.subIn K (.ref E_NoRate) (.ref E_TooMuch) = some false)
    (xs_NoRate_Twice : PySem.W.subIn K (.ref E_NoRate) (.ref E_Twice) = some false)
    (xs_NoText_NoName : PySem.W.subIn K (.ref E_NoText) (.ref E_NoName) = some false)
    (xs_NoText_NoRate : PySem.W.subIn K (.ref E_NoText) (.ref E_NoRate) = some false)
    (xs_NoText_NoText : PySem.W.subIn K (.ref E_NoText) (.ref E_NoText) = some true)
    (xs_NoText_NoWork : PySem.W.subIn K (.ref E_NoText) (.ref E_NoWork) = some false)
    (xs_NoText_TooMuch : PySem.W.subIn K (.ref E_NoText) (.ref E_TooMuch) = some false)
    (xs_NoText_Twice : PySem.W.subIn K (.ref E_NoText) (.ref E_Twice) = some false)
    (xs_NoWork_NoName : PySem.W.subIn K (.ref E_NoWork) (.ref E_NoName) = some false)
    (xs_NoWork_NoRate : PySem.W.subIn K (.ref E_NoWork) (.ref E_NoRate) = some false)
    (xs_NoWork_NoText : PySem.W.subIn K (.ref E_NoWork) (.ref E_NoText) = some false)
    (xs_NoWork_NoWork : PySem.W.subIn K (.ref E_NoWork) (.ref E_NoWork) = some true)
    (xs_NoWork_TooMuch : PySem.W.subIn K (.ref E_NoWork) (.ref E_TooMuch) = some false)
    (xs_NoWork_Twice : PySem.W.subIn K (.ref E_NoWork) (.ref E_Twice) = some false)
    (xs_TooMuch_NoName : PySem.W.subIn K (.ref E_TooMuch) (.ref E_NoName) = some false)
    (xs_TooMuch_NoRate : PySem.W.subIn K (.ref E_TooMuch) (.ref E_NoRate) = some false)
    (xs_TooMuch_NoText : PySem.W.subIn K (.ref E_TooMuch) (.ref E_NoText) = some false)
    (xs_TooMuch_NoWork : PySem.W.subIn K (.ref E_TooMuch) (.ref E_NoWork) = some false)
    (xs_TooMuch_TooMuch : PySem.W.subIn K (.ref E_TooMuch) (.ref E_TooMuch) = some true)
    (xs_TooMuch_Twice : PySem.W.subIn K (.ref E_TooMuch) (.ref E_Twice) = some false)
    (xs_Twice_NoName : PySem.W.subIn K (.ref E_Twice) (.ref E_NoName) = some false)
    (xs_Twice_NoRate : PySem.W.subIn K (.ref E_Twice) (.ref E_NoRate) = some false)
    (xs_Twice_NoText : PySem.W.subIn K (.ref E_Twice) (.ref E_NoText) = some false)
    (xs_Twice_NoWork : PySem.W.subIn K (.ref E_Twice) (.ref E_NoWork) = some false)
    (xs_Twice_TooMuch : PySem.W.subIn K (.ref E_Twice) (.ref E_TooMuch) = some false)
    (xs_Twice_Twice : PySem.W.subIn K (.ref E_Twice) (.ref E_Twice) = some true)
    (oc_n : PySem.W.specialIn K (.builtin "object.__class__") "__get__" = some (some (.builtin "getset_descriptor.__get__")))
    (oc_t : PySem.W.takesIn K (.builtin "object.__class__") = some true)
    (ia_Hall : PySem.W.findIn K (.ref C_Hall) "__class__" = some (some (.builtin "object.__class__")))
    (im_Hall : PySem.W.mroIn K C_Hall (.type "object") = some true)
    (g_FIGURES : PySem.W.nsIn K mainGlobals "FIGURES" = some (some (.str "0123456789" k_FIGURES)))
    (g_LETTERS : PySem.W.nsIn K mainGlobals "LETTERS" = some (some (.str "abcdefghijklmnopqrstuvwxyz" k_LETTERS)))
    (g_MOST_BELTS : PySem.W.nsIn K mainGlobals "MOST_BELTS" = some (some (.int 60 k_MOST_BELTS)))
    (g_MOST_WORKS : PySem.W.nsIn K mainGlobals "MOST_WORKS" = some (some (.int 30 k_MOST_WORKS)))
    (b_len : PySem.W.nsIn K mainGlobals "len" = some none)
    (b_sum : PySem.W.nsIn K mainGlobals "sum" = some none)
    (b_max : PySem.W.nsIn K mainGlobals "max" = some none)
    (b_min : PySem.W.nsIn K mainGlobals "min" = some none)
    (b_list : PySem.W.nsIn K mainGlobals "list" = some none)
    (b_tuple : PySem.W.nsIn K mainGlobals "tuple" = some none)
    (b_sorted : PySem.W.nsIn K mainGlobals "sorted" = some none)
    (b_all : PySem.W.nsIn K mainGlobals "all" = some none)
    (b_any : PySem.W.nsIn K mainGlobals "any" = some none)
    (b_str : PySem.W.nsIn K mainGlobals "str" = some none)
    (b_int : PySem.W.nsIn K mainGlobals "int" = some none)
    (b_bool : PySem.W.nsIn K mainGlobals "bool" = some none)
    (b_dict : PySem.W.nsIn K mainGlobals "dict" = some none)
    (b_isinstance : PySem.W.nsIn K mainGlobals "isinstance" = some none)
    (b_range : PySem.W.nsIn K mainGlobals "range" = some none)
    (b_enumerate : PySem.W.nsIn K mainGlobals "enumerate" = some none)
    (b_zip : PySem.W.nsIn K mainGlobals "zip" = some none)
    (b_reversed : PySem.W.nsIn K mainGlobals "reversed" = some none)
    (b_ValueError : PySem.W.nsIn K mainGlobals "ValueError" = some none)
    (b_set : PySem.W.nsIn K mainGlobals "set" = some none)
    (a_Hall_init : PySem.W.findIn K (.ref C_Hall) "__init__" = some (some (.ref f_Hall_init)))
    (i_f_Hall_init : PySem.W.isFn K (.ref f_Hall_init) = true)
    (l_Hall_init : K.lookup f_Hall_init = some ⟨oc_Hall_init, od_Hall_init, .func (PySem.W.fnOf "__init__" "Hall.__init__" (defArgs s_Hall_init) (defBody s_Hall_init) (defScope s_Hall_init) .none kV_Hall_init dc_Hall_init pm_Hall_init an_Hall_init cd_Hall_init ct_Hall_init), sl_Hall_init⟩)
    (c_f_Hall_init : PySem.W.codeIn K cd_Hall_init "Hall.__init__" = true)
    (k_f_Hall_init : PySem.W.keepIn K (.ref f_Hall_init) = true)
    (a_Hall_names : PySem.W.findIn K (.ref C_Hall) "names" = some (some (.ref f_Hall_names)))
    (i_f_Hall_names : PySem.W.isFn K (.ref f_Hall_names) = true)
    (l_Hall_names : K.lookup f_Hall_names = some ⟨oc_Hall_names, od_Hall_names, .func (PySem.W.fnOf "names" "Hall.names" (defArgs s_Hall_names) (defBody s_Hall_names) (defScope s_Hall_names) .none kV_Hall_names dc_Hall_names pm_Hall_names an_Hall_names cd_Hall_names ct_Hall_names), sl_Hall_names⟩)
    (c_f_Hall_names : PySem.W.codeIn K cd_Hall_names "Hall.names" = true)
    (k_f_Hall_names : PySem.W.keepIn K (.ref f_Hall_names) = true)
    (a_Hall_belts : PySem.W.findIn K (.ref C_Hall) "belts" = some (some (.ref f_Hall_belts)))
    (i_f_Hall_belts : PySem.W.isFn K (.ref f_Hall_belts) = true)
    (l_Hall_belts : K.lookup f_Hall_belts = some ⟨oc_Hall_belts, od_Hall_belts, .func (PySem.W.fnOf "belts" "Hall.belts" (defArgs s_Hall_belts) (defBody s_Hall_belts) (defScope s_Hall_belts) .none kV_Hall_belts dc_Hall_belts pm_Hall_belts an_Hall_belts cd_Hall_belts ct_Hall_belts), sl_Hall_belts⟩)
    (c_f_Hall_belts : PySem.W.codeIn K cd_Hall_belts "Hall.belts" = true)
    (k_f_Hall_belts : PySem.W.keepIn K (.ref f_Hall_belts) = true)
    (a_Hall_lay : PySem.W.findIn K (.ref C_Hall) "lay" = some (some (.ref f_Hall_lay)))
    (i_f_Hall_lay : PySem.W.isFn K (.ref f_Hall_lay) = true)
    (l_Hall_lay : K.lookup f_Hall_lay = some ⟨oc_Hall_lay, od_Hall_lay, .func (PySem.W.fnOf "lay" "Hall.lay" (defArgs s_Hall_lay) (defBody s_Hall_lay) (defScope s_Hall_lay) .none kV_Hall_lay dc_Hall_lay pm_Hall_lay an_Hall_lay cd_Hall_lay ct_Hall_lay), sl_Hall_lay⟩)
    (c_f_Hall_lay : PySem.W.codeIn K cd_Hall_lay "Hall.lay" = true)
    (k_f_Hall_lay : PySem.W.keepIn K (.ref f_Hall_lay) = true)
    (a_is_name : PySem.W.nsIn K mainGlobals "is_name" = some (some (.ref f_is_name)))
    (l_is_name : K.lookup f_is_name = some ⟨oc_is_name, od_is_name, .func (PySem.W.fnOf "is_name" "is_name" (defArgs s_is_name) (defBody s_is_name) (defScope s_is_name) .none kV_is_name dc_is_name pm_is_name an_is_name cd_is_name ct_is_name), sl_is_name⟩)
    (c_f_is_name : PySem.W.codeIn K cd_is_name "is_name" = true)
    (k_f_is_name : PySem.W.keepIn K (.ref f_is_name) = true)
    (a_Hall_work : PySem.W.findIn K (.ref C_Hall) "work" = some (some (.ref f_Hall_work)))
    (i_f_Hall_work : PySem.W.isFn K (.ref f_Hall_work) = true)
    (l_Hall_work : K.lookup f_Hall_work = some ⟨oc_Hall_work, od_Hall_work, .func (PySem.W.fnOf "work" "Hall.work" (defArgs s_Hall_work) (defBody s_Hall_work) (defScope s_Hall_work) .none kV_Hall_work dc_Hall_work pm_Hall_work an_Hall_work cd_Hall_work ct_Hall_work), sl_Hall_work⟩)
    (c_f_Hall_work : PySem.W.codeIn K cd_Hall_work "Hall.work" = true)
    (k_f_Hall_work : PySem.W.keepIn K (.ref f_Hall_work) = true)
    (a_Hall_need : PySem.W.findIn K (.ref C_Hall) "need" = some (some (.ref f_Hall_need)))
    (i_f_Hall_need : PySem.W.isFn K (.ref f_Hall_need) = true)
    (l_Hall_need : K.lookup f_Hall_need = some ⟨oc_Hall_need, od_Hall_need, .func (PySem.W.fnOf "need" "Hall.need" (defArgs s_Hall_need) (defBody s_Hall_need) (defScope s_Hall_need) .none kV_Hall_need dc_Hall_need pm_Hall_need an_Hall_need cd_Hall_need ct_Hall_need), sl_Hall_need⟩)
    (c_f_Hall_need : PySem.W.codeIn K cd_Hall_need "Hall.need" = true)
    (k_f_Hall_need : PySem.W.keepIn K (.ref f_Hall_need) = true)
    (a_read_number : PySem.W.nsIn K mainGlobals "read_number" = some (some (.ref f_read_number)))
    (l_read_number : K.lookup f_read_number = some ⟨oc_read_number, od_read_number, .func (PySem.W.fnOf "read_number" "read_number" (defArgs s_read_number) (defBody s_read_number) (defScope s_read_number) .none kV_read_number dc_read_number pm_read_number an_read_number cd_read_number ct_read_number), sl_read_number⟩)
    (c_f_read_number : PySem.W.codeIn K cd_read_number "read_number" = true)
    (k_f_read_number : PySem.W.keepIn K (.ref f_read_number) = true)
    (a_Hall_number_of : PySem.W.findIn K (.ref C_Hall) "number_of" = some (some (.ref f_Hall_number_of)))
    (i_f_Hall_number_of : PySem.W.isFn K (.ref f_Hall_number_of) = true)
    (l_Hall_number_of : K.lookup f_Hall_number_of = some ⟨oc_Hall_number_of, od_Hall_number_of, .func (PySem.W.fnOf "number_of" "Hall.number_of" (defArgs s_Hall_number_of) (defBody s_Hall_number_of) (defScope s_Hall_number_of) .none kV_Hall_number_of dc_Hall_number_of pm_Hall_number_of an_Hall_number_of cd_Hall_number_of ct_Hall_number_of), sl_Hall_number_of⟩)
    (c_f_Hall_number_of : PySem.W.codeIn K cd_Hall_number_of "Hall.number_of" = true)
    (k_f_Hall_number_of : PySem.W.keepIn K (.ref f_Hall_number_of) = true)
    (a_Hall_belt : PySem.W.findIn K (.ref C_Hall) "belt" = some (some (.ref f_Hall_belt)))
    (i_f_Hall_belt : PySem.W.isFn K (.ref f_Hall_belt) = true)
    (l_Hall_belt : K.lookup f_Hall_belt = some ⟨oc_Hall_belt, od_Hall_belt, .func (PySem.W.fnOf "belt" "Hall.belt" (defArgs s_Hall_belt) (defBody s_Hall_belt) (defScope s_Hall_belt) (.ref d_Hall_belt) kV_Hall_belt dc_Hall_belt pm_Hall_belt an_Hall_belt cd_Hall_belt ct_Hall_belt), sl_Hall_belt⟩)
    (c_f_Hall_belt : PySem.W.codeIn K cd_Hall_belt "Hall.belt" = true)
    (k_f_Hall_belt : PySem.W.keepIn K (.ref f_Hall_belt) = true)
    (t_Hall_belt : K.lookup d_Hall_belt = some ⟨oe_Hall_belt, oo_Hall_belt, .seq [Value.int 0 tk_Hall_belt].toArray nn_Hall_belt, os_Hall_belt⟩)
    (a_show_hall : PySem.W.nsIn K mainGlobals "show_hall" = some (some (.ref f_show_hall)))
    (l_show_hall : K.lookup f_show_hall = some ⟨oc_show_hall, od_show_hall, .func (PySem.W.fnOf "show_hall" "show_hall" (defArgs s_show_hall) (defBody s_show_hall) (defScope s_show_hall) .none kV_show_hall dc_show_hall pm_show_hall an_show_hall cd_show_hall ct_show_hall), sl_show_hall⟩)
    (c_f_show_hall : PySem.W.codeIn K cd_show_hall "show_hall" = true)
    (k_f_show_hall : PySem.W.keepIn K (.ref f_show_hall) = true)
    (a_read_signed : PySem.W.nsIn K mainGlobals "read_signed" = some (some (.ref f_read_signed)))
    (l_read_signed : K.lookup f_read_signed = some ⟨oc_read_signed, od_read_signed, .func (PySem.W.fnOf "read_signed" "read_signed" (defArgs s_read_signed) (defBody s_read_signed) (defScope s_read_signed) .none kV_read_signed dc_read_signed pm_read_signed an_read_signed cd_read_signed ct_read_signed), sl_read_signed⟩)
    (c_f_read_signed : PySem.W.codeIn K cd_read_signed "read_signed" = true)
    (k_f_read_signed : PySem.W.keepIn K (.ref f_read_signed) = true)
    (a_read_form : PySem.W.nsIn K mainGlobals "read_form" = some (some (.ref f_read_form)))
    (l_read_form : K.lookup f_read_form = some ⟨oc_read_form, od_read_form, .func (PySem.W.fnOf "read_form" "read_form" (defArgs s_read_form) (defBody s_read_form) (defScope s_read_form) .none kV_read_form dc_read_form pm_read_form an_read_form cd_read_form ct_read_form), sl_read_form⟩)
    (c_f_read_form : PySem.W.codeIn K cd_read_form "read_form" = true)
    (k_f_read_form : PySem.W.keepIn K (.ref f_read_form) = true)
    (a_read_forms : PySem.W.nsIn K mainGlobals "read_forms" = some (some (.ref f_read_forms)))
    (l_read_forms : K.lookup f_read_forms = some ⟨oc_read_forms, od_read_forms, .func (PySem.W.fnOf "read_forms" "read_forms" (defArgs s_read_forms) (defBody s_read_forms) (defScope s_read_forms) .none kV_read_forms dc_read_forms pm_read_forms an_read_forms cd_read_forms ct_read_forms), sl_read_forms⟩)
    (c_f_read_forms : PySem.W.codeIn K cd_read_forms "read_forms" = true)
    (k_f_read_forms : PySem.W.keepIn K (.ref f_read_forms) = true)
    (a_read_row : PySem.W.nsIn K mainGlobals "read_row" = some (some (.ref f_read_row)))
    (l_read_row : K.lookup f_read_row = some ⟨oc_read_row, od_read_row, .func (PySem.W.fnOf "read_row" "read_row" (defArgs s_read_row) (defBody s_read_row) (defScope s_read_row) .none kV_read_row dc_read_row pm_read_row an_read_row cd_read_row ct_read_row), sl_read_row⟩)
    (c_f_read_row : PySem.W.codeIn K cd_read_row "read_row" = true)
    (k_f_read_row : PySem.W.keepIn K (.ref f_read_row) = true)
    (a_read_hall : PySem.W.nsIn K mainGlobals "read_hall" = some (some (.ref f_read_hall)))
    (l_read_hall : K.lookup f_read_hall = some ⟨oc_read_hall, od_read_hall, .func (PySem.W.fnOf "read_hall" "read_hall" (defArgs s_read_hall) (defBody s_read_hall) (defScope s_read_hall) .none kV_read_hall dc_read_hall pm_read_hall an_read_hall cd_read_hall ct_read_hall), sl_read_hall⟩)
    (c_f_read_hall : PySem.W.codeIn K cd_read_hall "read_hall" = true)
    (k_f_read_hall : PySem.W.keepIn K (.ref f_read_hall) = true)
    (a_show_form : PySem.W.nsIn K mainGlobals "show_form" = some (some (.ref f_show_form)))
    (l_show_form : K.lookup f_show_form = some ⟨oc_show_form, od_show_form, .func (PySem.W.fnOf "show_form" "show_form" (defArgs s_show_form) (defBody s_show_form) (defScope s_show_form) .none kV_show_form dc_show_form pm_show_form an_show_form cd_show_form ct_show_form), sl_show_form⟩)
    (c_f_show_form : PySem.W.codeIn K cd_show_form "show_form" = true)
    (k_f_show_form : PySem.W.keepIn K (.ref f_show_form) = true)
    (a_show_forms : PySem.W.nsIn K mainGlobals "show_forms" = some (some (.ref f_show_forms)))
    (l_show_forms : K.lookup f_show_forms = some ⟨oc_show_forms, od_show_forms, .func (PySem.W.fnOf "show_forms" "show_forms" (defArgs s_show_forms) (defBody s_show_forms) (defScope s_show_forms) .none kV_show_forms dc_show_forms pm_show_forms an_show_forms cd_show_forms ct_show_forms), sl_show_forms⟩)
    (c_f_show_forms : PySem.W.codeIn K cd_show_forms "show_forms" = true)
    (k_f_show_forms : PySem.W.keepIn K (.ref f_show_forms) = true)
    (a__law_cell : PySem.W.nsIn K mainGlobals "_law_cell" = some (some (.ref f__law_cell)))
    (l__law_cell : K.lookup f__law_cell = some ⟨oc__law_cell, od__law_cell, .func (PySem.W.fnOf "_law_cell" "_law_cell" (defArgs s__law_cell) (defBody s__law_cell) (defScope s__law_cell) .none kV__law_cell dc__law_cell pm__law_cell an__law_cell cd__law_cell ct__law_cell), sl__law_cell⟩)
    (c_f__law_cell : PySem.W.codeIn K cd__law_cell "_law_cell" = true)
    (k_f__law_cell : PySem.W.keepIn K (.ref f__law_cell) = true)
    (a__law_mix : PySem.W.nsIn K mainGlobals "_law_mix" = some (some (.ref f__law_mix)))
    (l__law_mix : K.lookup f__law_mix = some ⟨oc__law_mix, od__law_mix, .func (PySem.W.fnOf "_law_mix" "_law_mix" (defArgs s__law_mix) (defBody s__law_mix) (defScope s__law_mix) .none kV__law_mix dc__law_mix pm__law_mix an__law_mix cd__law_mix ct__law_mix), sl__law_mix⟩)
    (c_f__law_mix : PySem.W.codeIn K cd__law_mix "_law_mix" = true)
    (k_f__law_mix : PySem.W.keepIn K (.ref f__law_mix) = true)
    (a__law_form : PySem.W.nsIn K mainGlobals "_law_form" = some (some (.ref f__law_form)))
    (l__law_form : K.lookup f__law_form = some ⟨oc__law_form, od__law_form, .func (PySem.W.fnOf "_law_form" "_law_form" (defArgs s__law_form) (defBody s__law_form) (defScope s__law_form) .none kV__law_form dc__law_form pm__law_form an__law_form cd__law_form ct__law_form), sl__law_form⟩)
    (c_f__law_form : PySem.W.codeIn K cd__law_form "_law_form" = true)
    (k_f__law_form : PySem.W.keepIn K (.ref f__law_form) = true)
    (a__law_form_text : PySem.W.nsIn K mainGlobals "_law_form_text" = some (some (.ref f__law_form_text)))
    (l__law_form_text : K.lookup f__law_form_text = some ⟨oc__law_form_text, od__law_form_text, .func (PySem.W.fnOf "_law_form_text" "_law_form_text" (defArgs s__law_form_text) (defBody s__law_form_text) (defScope s__law_form_text) .none kV__law_form_text dc__law_form_text pm__law_form_text an__law_form_text cd__law_form_text ct__law_form_text), sl__law_form_text⟩)
    (c_f__law_form_text : PySem.W.codeIn K cd__law_form_text "_law_form_text" = true)
    (k_f__law_form_text : PySem.W.keepIn K (.ref f__law_form_text) = true)
    (a__law_whole : PySem.W.nsIn K mainGlobals "_law_whole" = some (some (.ref f__law_whole)))
    (l__law_whole : K.lookup f__law_whole = some ⟨oc__law_whole, od__law_whole, .func (PySem.W.fnOf "_law_whole" "_law_whole" (defArgs s__law_whole) (defBody s__law_whole) (defScope s__law_whole) .none kV__law_whole dc__law_whole pm__law_whole an__law_whole cd__law_whole ct__law_whole), sl__law_whole⟩)
    (c_f__law_whole : PySem.W.codeIn K cd__law_whole "_law_whole" = true)
    (k_f__law_whole : PySem.W.keepIn K (.ref f__law_whole) = true)
    (a__law_is_form : PySem.W.nsIn K mainGlobals "_law_is_form" = some (some (.ref f__law_is_form)))
    (l__law_is_form : K.lookup f__law_is_form = some ⟨oc__law_is_form, od__law_is_form, .func (PySem.W.fnOf "_law_is_form" "_law_is_form" (defArgs s__law_is_form) (defBody s__law_is_form) (defScope s__law_is_form) .none kV__law_is_form dc__law_is_form pm__law_is_form an__law_is_form cd__law_is_form ct__law_is_form), sl__law_is_form⟩)
    (c_f__law_is_form : PySem.W.codeIn K cd__law_is_form "_law_is_form" = true)
    (k_f__law_is_form : PySem.W.keepIn K (.ref f__law_is_form) = true)
    (a__law_forms_good : PySem.W.nsIn K mainGlobals "_law_forms_good" = some (some (.ref f__law_forms_good)))
    (l__law_forms_good : K.lookup f__law_forms_good = some ⟨oc__law_forms_good, od__law_forms_good, .func (PySem.W.fnOf "_law_forms_good" "_law_forms_good" (defArgs s__law_forms_good) (defBody s__law_forms_good) (defScope s__law_forms_good) .none kV__law_forms_good dc__law_forms_good pm__law_forms_good an__law_forms_good cd__law_forms_good ct__law_forms_good), sl__law_forms_good⟩)
    (c_f__law_forms_good : PySem.W.codeIn K cd__law_forms_good "_law_forms_good" = true)
    (k_f__law_forms_good : PySem.W.keepIn K (.ref f__law_forms_good) = true)
    (a__law_line_text : PySem.W.nsIn K mainGlobals "_law_line_text" = some (some (.ref f__law_line_text)))
    (l__law_line_text : K.lookup f__law_line_text = some ⟨oc__law_line_text, od__law_line_text, .func (PySem.W.fnOf "_law_line_text" "_law_line_text" (defArgs s__law_line_text) (defBody s__law_line_text) (defScope s__law_line_text) .none kV__law_line_text dc__law_line_text pm__law_line_text an__law_line_text cd__law_line_text ct__law_line_text), sl__law_line_text⟩)
    (c_f__law_line_text : PySem.W.codeIn K cd__law_line_text "_law_line_text" = true)
    (k_f__law_line_text : PySem.W.keepIn K (.ref f__law_line_text) = true)
    (a__law_lines : PySem.W.nsIn K mainGlobals "_law_lines" = some (some (.ref f__law_lines)))
    (l__law_lines : K.lookup f__law_lines = some ⟨oc__law_lines, od__law_lines, .func (PySem.W.fnOf "_law_lines" "_law_lines" (defArgs s__law_lines) (defBody s__law_lines) (defScope s__law_lines) .none kV__law_lines dc__law_lines pm__law_lines an__law_lines cd__law_lines ct__law_lines), sl__law_lines⟩)
    (c_f__law_lines : PySem.W.codeIn K cd__law_lines "_law_lines" = true)
    (k_f__law_lines : PySem.W.keepIn K (.ref f__law_lines) = true)
    (a__law_mixed_rows : PySem.W.nsIn K mainGlobals "_law_mixed_rows" = some (some (.ref f__law_mixed_rows)))
    (l__law_mixed_rows : K.lookup f__law_mixed_rows = some ⟨oc__law_mixed_rows, od__law_mixed_rows, .func (PySem.W.fnOf "_law_mixed_rows" "_law_mixed_rows" (defArgs s__law_mixed_rows) (defBody s__law_mixed_rows) (defScope s__law_mixed_rows) .none kV__law_mixed_rows dc__law_mixed_rows pm__law_mixed_rows an__law_mixed_rows cd__law_mixed_rows ct__law_mixed_rows), sl__law_mixed_rows⟩)
    (c_f__law_mixed_rows : PySem.W.codeIn K cd__law_mixed_rows "_law_mixed_rows" = true)
    (k_f__law_mixed_rows : PySem.W.keepIn K (.ref f__law_mixed_rows) = true)
    (a__law_name : PySem.W.nsIn K mainGlobals "_law_name" = some (some (.ref f__law_name)))
    (l__law_name : K.lookup f__law_name = some ⟨oc__law_name, od__law_name, .func (PySem.W.fnOf "_law_name" "_law_name" (defArgs s__law_name) (defBody s__law_name) (defScope s__law_name) .none kV__law_name dc__law_name pm__law_name an__law_name cd__law_name ct__law_name), sl__law_name⟩)
    (c_f__law_name : PySem.W.codeIn K cd__law_name "_law_name" = true)
    (k_f__law_name : PySem.W.keepIn K (.ref f__law_name) = true)
    (a__law_names : PySem.W.nsIn K mainGlobals "_law_names" = some (some (.ref f__law_names)))
    (l__law_names : K.lookup f__law_names = some ⟨oc__law_names, od__law_names, .func (PySem.W.fnOf "_law_names" "_law_names" (defArgs s__law_names) (defBody s__law_names) (defScope s__law_names) .none kV__law_names dc__law_names pm__law_names an__law_names cd__law_names ct__law_names), sl__law_names⟩)
    (c_f__law_names : PySem.W.codeIn K cd__law_names "_law_names" = true)
    (k_f__law_names : PySem.W.keepIn K (.ref f__law_names) = true)
    (a_law : PySem.W.nsIn K mainGlobals "law" = some (some (.ref f_law)))
    (l_law : K.lookup f_law = some ⟨oc_law, od_law, .func (PySem.W.fnOf "law" "law" (defArgs s_law) (defBody s_law) (defScope s_law) .none kV_law dc_law pm_law an_law cd_law ct_law), sl_law⟩)
    (c_f_law : PySem.W.codeIn K cd_law "law" = true)
    (k_f_law : PySem.W.keepIn K (.ref f_law) = true) :
    ∃ fd : FuncData, (∀ (s : Shared) (v : Value), BindsTo s fd ⟨[v], []⟩ [("_law_script", v)]) ∧ ∀ base : Heap, K.In base → base.Ns mainGlobals mg → ∃ L, FnOk l.prog w K mg base (CXR l.prog w) 6 fa fd ["_law_script"] (spOf K L 1 sLawT) := by
  have e := hfa.symm.trans (PySem.W.mg_of X Gn a_law)
  have e' : f_law = fa := by
    cases e
    rfl
  subst e'
  let L : Lay := ⟨fun k => match k with | 3 => C_Hall | _ => 0, tFl, fun k => match k with | 5 => E_NoName | 7 => E_NoRate | 9 => E_NoText | 10 => E_NoWork | 15 => E_TooMuch | 16 => E_Twice | _ => 0⟩
  have D_Hall_init : DefF K i_Hall_init "Hall.__init__" s_Hall_init f_Hall_init _ ["self"] := def0 rfl l_Hall_init c_f_Hall_init k_f_Hall_init fun _ _ _ _ _ _ us hl => match us, hl with | [_], _ => rfl
  have D_Hall_names : DefF K i_Hall_names "Hall.names" s_Hall_names f_Hall_names _ ["self"] := def0 rfl l_Hall_names c_f_Hall_names k_f_Hall_names fun _ _ _ _ _ _ us hl => match us, hl with | [_], _ => rfl
  have D_Hall_belts : DefF K i_Hall_belts "Hall.belts" s_Hall_belts f_Hall_belts _ ["self"] := def0 rfl l_Hall_belts c_f_Hall_belts k_f_Hall_belts fun _ _ _ _ _ _ us hl => match us, hl with | [_], _ => rfl
  have D_Hall_lay : DefF K i_Hall_lay "Hall.lay" s_Hall_lay f_Hall_lay _ ["self", "giver", "taker", "give", "take", "start"] := def0 rfl l_Hall_lay c_f_Hall_lay k_f_Hall_lay fun _ _ _ _ _ _ us hl => match us, hl with | [_, _, _, _, _, _], _ => rfl
  have D_is_name : DefF K i_is_name "is_name" s_is_name f_is_name _ ["thing"] := def0 rfl l_is_name c_f_is_name k_f_is_name fun _ _ _ _ _ _ us hl => match us, hl with | [_], _ => rfl
  have D_Hall_work : DefF K i_Hall_work "Hall.work" s_Hall_work f_Hall_work _ ["self", "name"] := def0 rfl l_Hall_work c_f_Hall_work k_f_Hall_work fun _ _ _ _ _ _ us hl => match us, hl with | [_, _], _ => rfl
  have D_Hall_need : DefF K i_Hall_need "Hall.need" s_Hall_need f_Hall_need _ ["self", "work"] := def0 rfl l_Hall_need c_f_Hall_need k_f_Hall_need fun _ _ _ _ _ _ us hl => match us, hl with | [_, _], _ => rfl
  have D_read_number : DefF K i_read_number "read_number" s_read_number f_read_number _ ["text"] := def0 rfl l_read_number c_f_read_number k_f_read_number fun _ _ _ _ _ _ us hl => match us, hl with | [_], _ => rfl
  have D_Hall_number_of : DefF K i_Hall_number_of "Hall.number_of" s_Hall_number_of f_Hall_number_of _ ["self", "name"] := def0 rfl l_Hall_number_of c_f_Hall_number_of k_f_Hall_number_of fun _ _ _ _ _ _ us hl => match us, hl with | [_, _], _ => rfl
  have D_Hall_belt : DefF K i_Hall_belt "Hall.belt" s_Hall_belt f_Hall_belt _ ["self", "giver", "taker", "give", "take", "start"] := def1 rfl l_Hall_belt c_f_Hall_belt k_f_Hall_belt t_Hall_belt (fun _ _ _ _ _ _ _ us its hl hi => match us, its, hl, hi with | [_, _, _, _, _, _], [_], _, _ => ⟨_, rfl, rfl⟩) (fun _ _ _ _ _ _ _ us its hl hi => match us, its, hl, hi with | [_, _, _, _, _], [_], _, _ => ⟨_, rfl, rfl⟩)
  have D_show_hall : DefF K i_show_hall "show_hall" s_show_hall f_show_hall _ ["hall"] := def0 rfl l_show_hall c_f_show_hall k_f_show_hall fun _ _ _ _ _ _ us hl => match us, hl with | [_], _ => rfl
  have D_read_signed : DefF K i_read_signed "read_signed" s_read_signed f_read_signed _ ["text"] := def0 rfl l_read_signed c_f_read_signed k_f_read_signed fun _ _ _ _ _ _ us hl => match us, hl with | [_], _ => rfl
  have D_read_form : DefF K i_read_form "read_form" s_read_form f_read_form _ ["text"] := def0 rfl l_read_form c_f_read_form k_f_read_form fun _ _ _ _ _ _ us hl => match us, hl with | [_], _ => rfl
  have D_read_forms : DefF K i_read_forms "read_forms" s_read_forms f_read_forms _ ["text"] := def0 rfl l_read_forms c_f_read_forms k_f_read_forms fun _ _ _ _ _ _ us hl => match us, hl with | [_], _ => rfl
  have D_read_row : DefF K i_read_row "read_row" s_read_row f_read_row _ ["line"] := def0 rfl l_read_row c_f_read_row k_f_read_row fun _ _ _ _ _ _ us hl => match us, hl with | [_], _ => rfl
  have D_read_hall : DefF K i_read_hall "read_hall" s_read_hall f_read_hall _ ["lines"] := def0 rfl l_read_hall c_f_read_hall k_f_read_hall fun _ _ _ _ _ _ us hl => match us, hl with | [_], _ => rfl
  have D_show_form : DefF K i_show_form "show_form" s_show_form f_show_form _ ["form"] := def0 rfl l_show_form c_f_show_form k_f_show_form fun _ _ _ _ _ _ us hl => match us, hl with | [_], _ => rfl
  have D_show_forms : DefF K i_show_forms "show_forms" s_show_forms f_show_forms _ ["forms"] := def0 rfl l_show_forms c_f_show_forms k_f_show_forms fun _ _ _ _ _ _ us hl => match us, hl with | [_], _ => rfl
  have D__law_cell : DefF K i__law_cell "_law_cell" s__law_cell f__law_cell _ ["_law_script", "_law_k"] := def0 rfl l__law_cell c_f__law_cell k_f__law_cell fun _ _ _ _ _ _ us hl => match us, hl with | [_, _], _ => rfl
  have D__law_mix : DefF K i__law_mix "_law_mix" s__law_mix f__law_mix _ ["_law_cell_here", "_law_way"] := def0 rfl l__law_mix c_f__law_mix k_f__law_mix fun _ _ _ _ _ _ us hl => match us, hl with | [_, _], _ => rfl
  have D__law_form : DefF K i__law_form "_law_form" s__law_form f__law_form _ ["_law_cell_here", "_law_way", "_law_many"] := def0 rfl l__law_form c_f__law_form k_f__law_form fun _ _ _ _ _ _ us hl => match us, hl with | [_, _, _], _ => rfl
  have D__law_form_text : DefF K i__law_form_text "_law_form_text" s__law_form_text f__law_form_text _ ["_law_form_here"] := def0 rfl l__law_form_text c_f__law_form_text k_f__law_form_text fun _ _ _ _ _ _ us hl => match us, hl with | [_], _ => rfl
  have D__law_whole : DefF K i__law_whole "_law_whole" s__law_whole f__law_whole _ ["_law_found"] := def0 rfl l__law_whole c_f__law_whole k_f__law_whole fun _ _ _ _ _ _ us hl => match us, hl with | [_], _ => rfl
  have D__law_is_form : DefF K i__law_is_form "_law_is_form" s__law_is_form f__law_is_form _ ["_law_found", "_law_due"] := def0 rfl l__law_is_form c_f__law_is_form k_f__law_is_form fun _ _ _ _ _ _ us hl => match us, hl with | [_, _], _ => rfl
  have D__law_forms_good : DefF K i__law_forms_good "_law_forms_good" s__law_forms_good f__law_forms_good _ ["_law_script"] := def0 rfl l__law_forms_good c_f__law_forms_good k_f__law_forms_good fun _ _ _ _ _ _ us hl => match us, hl with | [_], _ => rfl
  have D__law_line_text : DefF K i__law_line_text "_law_line_text" s__law_line_text f__law_line_text _ ["_law_names_here", "_law_line"] := def0 rfl l__law_line_text c_f__law_line_text k_f__law_line_text fun _ _ _ _ _ _ us hl => match us, hl with | [_, _], _ => rfl
  have D__law_lines : DefF K i__law_lines "_law_lines" s__law_lines f__law_lines _ ["_law_script", "_law_many"] := def0 rfl l__law_lines c_f__law_lines k_f__law_lines fun _ _ _ _ _ _ us hl => match us, hl with | [_, _], _ => rfl
  have D__law_mixed_rows : DefF K i__law_mixed_rows "_law_mixed_rows" s__law_mixed_rows f__law_mixed_rows _ ["_law_names_here", "_law_lines_here", "_law_turn"] := def0 rfl l__law_mixed_rows c_f__law_mixed_rows k_f__law_mixed_rows fun _ _ _ _ _ _ us hl => match us, hl with | [_, _, _], _ => rfl
  have D__law_name : DefF K i__law_name "_law_name" s__law_name f__law_name _ ["_law_cell_here", "_law_way"] := def0 rfl l__law_name c_f__law_name k_f__law_name fun _ _ _ _ _ _ us hl => match us, hl with | [_, _], _ => rfl
  have D__law_names : DefF K i__law_names "_law_names" s__law_names f__law_names _ ["_law_script"] := def0 rfl l__law_names c_f__law_names k_f__law_names fun _ _ _ _ _ _ us hl => match us, hl with | [_], _ => rfl
  have D_law : DefF K i_law "law" s_law f_law _ ["_law_script"] := def0 rfl l_law c_f_law k_f_law fun _ _ _ _ _ _ us hl => match us, hl with | [_], _ => rfl
  refine ⟨PySem.W.fnOf "law" "law" (defArgs s_law) (defBody s_law) (defScope s_law) .none kV_law dc_law pm_law an_law cd_law ct_law, fun s v => .of_eq rfl, fun base hK hN => ⟨L, ?_⟩⟩
  have mgo : ∀ {x : Str} {v : Value}, PySem.W.nsIn K mainGlobals x = some (some v) → mg x = some v := fun e => PySem.W.mg_of X Gn e
  have mgn : ∀ {x : Str}, PySem.W.nsIn K mainGlobals x = some none → mg x = none := fun e => PySem.W.mg_none_of X Gn e
  have g0 : GOk G Γ L 0 l.prog w K mg base := by
    refine ⟨fun f i h => absurd h (Nat.not_lt_zero f), fun c i h => ?_, fun x n h => ?_, fun n hn => ?_, fun k y h => ?_, rfl, fun z => Bool.noConfusion z, fun _ d i h => ?_, fun a h n m ea eh => ?_, fun f i h => absurd h (Nat.not_lt_zero f)⟩
    · have h' : tCl c = some i := h
      revert h'
      unfold tCl
      split <;> intro h' <;> first | (cases h'; done) | skip
      · cases h'; exact ⟨mgo n_Hall, ⟨pg_Hall, hd_Hall, po_Hall, sa_Hall⟩, mk_Hall, kc_Hall, fun f hf => by
          simp only [G, tFl, List.mem_cons, List.not_mem_nil, or_false] at hf
          rcases hf with rfl | rfl
          · exact na_Hall_called
          · exact na_Hall_lines, by decide +kernel, by decide, _, rfl, rfl, rfl, rfl⟩
    · have h' : tEx x = some n := h
      revert h'
      unfold tEx
      split <;> intro h' <;> first | (cases h'; done) | skip
      · cases h'; exact ⟨mgo x_NoName, xx_NoName, xk_NoName, xb_NoName, xt_NoName⟩
      · cases h'; exact ⟨mgo x_NoRate, xx_NoRate, xk_NoRate, xb_NoRate, xt_NoRate⟩
      · cases h'; exact ⟨mgo x_NoText, xx_NoText, xk_NoText, xb_NoText, xt_NoText⟩
      · cases h'; exact ⟨mgo x_NoWork, xx_NoWork, xk_NoWork, xb_NoWork, xt_NoWork⟩
      · cases h'; exact ⟨mgo x_TooMuch, xx_TooMuch, xk_TooMuch, xb_TooMuch, xt_TooMuch⟩
      · cases h'; exact ⟨mgo x_Twice, xx_Twice, xk_Twice, xb_Twice, xt_Twice⟩
    · simp only [blNames, List.mem_cons, List.not_mem_nil, or_false] at hn
      rcases hn with rfl | rfl | rfl | rfl | rfl | rfl | rfl | rfl | rfl | rfl | rfl | rfl | rfl | rfl | rfl | rfl | rfl | rfl | rfl | rfl
      · exact mgn b_len
      · exact mgn b_sum
      · exact mgn b_max
      · exact mgn b_min
      · exact mgn b_list
      · exact mgn b_tuple
      · exact mgn b_sorted
      · exact mgn b_all
      · exact mgn b_any
      · exact mgn b_str
      · exact mgn b_int
      · exact mgn b_bool
      · exact mgn b_dict
      · exact mgn b_isinstance
      · exact mgn b_range
      · exact mgn b_enumerate
      · exact mgn b_zip
      · exact mgn b_reversed
      · exact mgn b_ValueError
      · exact mgn b_set
    · have h' : tCon k = some y := h
      revert h'
      unfold tCon
      split <;> intro h' <;> first | (cases h'; done) | skip
      · cases h'; exact ⟨.str "0123456789", _, mgo g_FIGURES, ⟨_, rfl⟩, fun _ => rfl⟩
      · cases h'; exact ⟨.str "abcdefghijklmnopqrstuvwxyz", _, mgo g_LETTERS, ⟨_, rfl⟩, fun _ => rfl⟩
      · cases h'; exact ⟨.int 60, _, mgo g_MOST_BELTS, ⟨_, rfl⟩, fun _ => rfl⟩
      · cases h'; exact ⟨.int 30, _, mgo g_MOST_WORKS, ⟨_, rfl⟩, fun _ => rfl⟩
    · have h' : tCl d = some i := h
      revert h'
      unfold tCl
      split <;> intro h' <;> first | (cases h'; done) | skip
      · cases h'; exact ⟨⟨pg_Hall, hd_Hall, po_Hall, sa_Hall⟩, ia_Hall, oc_n, oc_t, im_Hall, if_pos (by simp)⟩
    · rcases tEx_cases ea with rfl | rfl | rfl | rfl | rfl | rfl
      · rcases tEx_cases eh with rfl | rfl | rfl | rfl | rfl | rfl
        · rw [sx_NoName_NoName]
          exact PySem.W.exm_ref xb_NoName xh_NoName xt_NoName xs_NoName_NoName
        · rw [sx_NoName_NoRate]
          exact PySem.W.exm_ref xb_NoRate xh_NoRate xt_NoRate xs_NoName_NoRate
        · rw [sx_NoName_NoText]
          exact PySem.W.exm_ref xb_NoText xh_NoText xt_NoText xs_NoName_NoText
        · rw [sx_NoName_NoWork]
          exact PySem.W.exm_ref xb_NoWork xh_NoWork xt_NoWork xs_NoName_NoWork
        · rw [sx_NoName_TooMuch]
          exact PySem.W.exm_ref xb_TooMuch xh_TooMuch xt_TooMuch xs_NoName_TooMuch
        · rw [sx_NoName_Twice]
          exact PySem.W.exm_ref xb_Twice xh_Twice xt_Twice xs_NoName_Twice
      · rcases tEx_cases eh with rfl | rfl | rfl | rfl | rfl | rfl
        · rw [sx_NoRate_NoName]
          exact PySem.W.exm_ref xb_NoName xh_NoName xt_NoName xs_NoRate_NoName
        · rw [sx_NoRate_NoRate]
          exact PySem.W.exm_ref xb_NoRate xh_NoRate xt_NoRate xs_NoRate_NoRate
        · rw [sx_NoRate_NoText]
          exact PySem.W.exm_ref xb_NoText xh_NoText xt_NoText xs_NoRate_NoText
        · rw [sx_NoRate_NoWork]
          exact PySem.W.exm_ref xb_NoWork xh_NoWork xt_NoWork xs_NoRate_NoWork
        · rw [sx_NoRate_TooMuch]
          exact PySem.W.exm_ref xb_TooMuch xh_TooMuch xt_TooMuch xs_NoRate_TooMuch
        · rw [sx_NoRate_Twice]
          exact PySem.W.exm_ref xb_Twice xh_Twice xt_Twice xs_NoRate_Twice
      · rcases tEx_cases eh with rfl | rfl | rfl | rfl | rfl | rfl
        · rw [sx_NoText_NoName]
          exact PySem.W.exm_ref xb_NoName xh_NoName xt_NoName xs_NoText_NoName
        · rw [sx_NoText_NoRate]
          exact PySem.W.exm_ref xb_NoRate xh_NoRate xt_NoRate xs_NoText_NoRate
        · rw [sx_NoText_NoText]
          exact PySem.W.exm_ref xb_NoText xh_NoText xt_NoText xs_NoText_NoText
        · rw [sx_NoText_NoWork]
          exact PySem.W.exm_ref xb_NoWork xh_NoWork xt_NoWork xs_NoText_NoWork
        · rw [sx_NoText_TooMuch]
          exact PySem.W.exm_ref xb_TooMuch xh_TooMuch xt_TooMuch xs_NoText_TooMuch
        · rw [sx_NoText_Twice]
          exact PySem.W.exm_ref xb_Twice xh_Twice xt_Twice xs_NoText_Twice
      · rcases tEx_cases eh with rfl | rfl | rfl | rfl | rfl | rfl
        · rw [sx_NoWork_NoName]
          exact PySem.W.exm_ref xb_NoName xh_NoName xt_NoName xs_NoWork_NoName
        · rw [sx_NoWork_NoRate]
          exact PySem.W.exm_ref xb_NoRate xh_NoRate xt_NoRate xs_NoWork_NoRate
        · rw [sx_NoWork_NoText]
          exact PySem.W.exm_ref xb_NoText xh_NoText xt_NoText xs_NoWork_NoText
        · rw [sx_NoWork_NoWork]
          exact PySem.W.exm_ref xb_NoWork xh_NoWork xt_NoWork xs_NoWork_NoWork
        · rw [sx_NoWork_TooMuch]
          exact PySem.W.exm_ref xb_TooMuch xh_TooMuch xt_TooMuch xs_NoWork_TooMuch
        · rw [sx_NoWork_Twice]
          exact PySem.W.exm_ref xb_Twice xh_Twice xt_Twice xs_NoWork_Twice
      · rcases tEx_cases eh with rfl | rfl | rfl | rfl | rfl | rfl
        · rw [sx_TooMuch_NoName]
          exact PySem.W.exm_ref xb_NoName xh_NoName xt_NoName xs_TooMuch_NoName
        · rw [sx_TooMuch_NoRate]
          exact PySem.W.exm_ref xb_NoRate xh_NoRate xt_NoRate xs_TooMuch_NoRate
        · rw [sx_TooMuch_NoText]
          exact PySem.W.exm_ref xb_NoText xh_NoText xt_NoText xs_TooMuch_NoText
        · rw [sx_TooMuch_NoWork]
          exact PySem.W.exm_ref xb_NoWork xh_NoWork xt_NoWork xs_TooMuch_NoWork
        · rw [sx_TooMuch_TooMuch]
          exact PySem.W.exm_ref xb_TooMuch xh_TooMuch xt_TooMuch xs_TooMuch_TooMuch
        · rw [sx_TooMuch_Twice]
          exact PySem.W.exm_ref xb_Twice xh_Twice xt_Twice xs_TooMuch_Twice
      · rcases tEx_cases eh with rfl | rfl | rfl | rfl | rfl | rfl
        · rw [sx_Twice_NoName]
          exact PySem.W.exm_ref xb_NoName xh_NoName xt_NoName xs_Twice_NoName
        · rw [sx_Twice_NoRate]
          exact PySem.W.exm_ref xb_NoRate xh_NoRate xt_NoRate xs_Twice_NoRate
        · rw [sx_Twice_NoText]
          exact PySem.W.exm_ref xb_NoText xh_NoText xt_NoText xs_Twice_NoText
        · rw [sx_Twice_NoWork]
          exact PySem.W.exm_ref xb_NoWork xh_NoWork xt_NoWork xs_Twice_NoWork
        · rw [sx_Twice_TooMuch]
          exact PySem.W.exm_ref xb_TooMuch xh_TooMuch xt_TooMuch xs_Twice_TooMuch
        · rw [sx_Twice_Twice]
          exact PySem.W.exm_ref xb_Twice xh_Twice xt_Twice xs_Twice_Twice
  have k0 : GOk G Γ L 7 l.prog w K mg base := skip g0 fun k h1 h2 => skip_0 k h1 h2
  have g1 : GOk G Γ L 8 l.prog w K mg base := step tabOk k0 rfl rfl chk_Hall_init D_Hall_init (body_Hall_init ⟨trivial⟩) (fun h => nomatch h) (fun c h => by cases h; exact ⟨a_Hall_init, i_f_Hall_init, k_f_Hall_init⟩)
  have k1 : GOk G Γ L 9 l.prog w K mg base := skip g1 fun k h1 h2 => skip_1 k h1 h2
  have g2 : GOk G Γ L 10 l.prog w K mg base := step tabOk k1 rfl rfl chk_Hall_names D_Hall_names (body_Hall_names ⟨trivial⟩) (fun h => nomatch h) (fun c h => by cases h; exact ⟨a_Hall_names, i_f_Hall_names, k_f_Hall_names⟩)
  have g3 : GOk G Γ L 11 l.prog w K mg base := step tabOk g2 rfl rfl chk_Hall_belts D_Hall_belts (body_Hall_belts ⟨trivial⟩) (fun h => nomatch h) (fun c h => by cases h; exact ⟨a_Hall_belts, i_f_Hall_belts, k_f_Hall_belts⟩)
  have k3 : GOk G Γ L 29 l.prog w K mg base := skip g3 fun k h1 h2 => skip_3 k h1 h2
  have g4 : GOk G Γ L 30 l.prog w K mg base := step tabOk k3 rfl rfl chk_Hall_lay D_Hall_lay (body_Hall_lay ⟨trivial⟩) (fun h => nomatch h) (fun c h => by cases h; exact ⟨a_Hall_lay, i_f_Hall_lay, k_f_Hall_lay⟩)
  have g5 : GOk G Γ L 31 l.prog w K mg base := step tabOk g4 rfl rfl chk_is_name D_is_name (body_is_name ⟨rfl⟩) (fun _ => mgo a_is_name) (fun _ h => nomatch h)
  have g6 : GOk G Γ L 32 l.prog w K mg base := step tabOk g5 rfl rfl chk_Hall_work D_Hall_work (body_Hall_work ⟨rfl, rfl, rfl⟩) (fun h => nomatch h) (fun c h => by cases h; exact ⟨a_Hall_work, i_f_Hall_work, k_f_Hall_work⟩)
  have k6 : GOk G Γ L 43 l.prog w K mg base := skip g6 fun k h1 h2 => skip_6 k h1 h2
  have g7 : GOk G Γ L 44 l.prog w K mg base := step tabOk k6 rfl rfl chk_Hall_need D_Hall_need (body_Hall_need ⟨trivial⟩) (fun h => nomatch h) (fun c h => by cases h; exact ⟨a_Hall_need, i_f_Hall_need, k_f_Hall_need⟩)
  have k7 : GOk G Γ L 51 l.prog w K mg base := skip g7 fun k h1 h2 => skip_7 k h1 h2
  have g8 : GOk G Γ L 52 l.prog w K mg base := step tabOk k7 rfl rfl chk_read_number D_read_number (body_read_number ⟨rfl⟩) (fun _ => mgo a_read_number) (fun _ h => nomatch h)
  have k8 : GOk G Γ L 54 l.prog w K mg base := skip g8 fun k h1 h2 => skip_8 k h1 h2
  have g9 : GOk G Γ L 55 l.prog w K mg base := step tabOk k8 rfl rfl chk_Hall_number_of D_Hall_number_of (body_Hall_number_of ⟨trivial⟩) (fun h => nomatch h) (fun c h => by cases h; exact ⟨a_Hall_number_of, i_f_Hall_number_of, k_f_Hall_number_of⟩)
  have k9 : GOk G Γ L 56 l.prog w K mg base := skip g9 fun k h1 h2 => skip_9 k h1 h2
  have g10 : GOk G Γ L 57 l.prog w K mg base := step tabOk k9 rfl rfl chk_Hall_belt D_Hall_belt (body_Hall_belt ⟨rfl, rfl, rfl, rfl, rfl⟩) (fun h => nomatch h) (fun c h => by cases h; exact ⟨a_Hall_belt, i_f_Hall_belt, k_f_Hall_belt⟩)
  have k10 : GOk G Γ L 63 l.prog w K mg base := skip g10 fun k h1 h2 => skip_10 k h1 h2
  have g11 : GOk G Γ L 64 l.prog w K mg base := step tabOk k10 rfl rfl chk_show_hall D_show_hall (body_show_hall ⟨rfl, rfl, rfl, rfl⟩) (fun _ => mgo a_show_hall) (fun _ h => nomatch h)
  have k11 : GOk G Γ L 68 l.prog w K mg base := skip g11 fun k h1 h2 => skip_11 k h1 h2
  have g12 : GOk G Γ L 69 l.prog w K mg base := step tabOk k11 rfl rfl chk_read_signed D_read_signed (body_read_signed ⟨rfl, rfl⟩) (fun _ => mgo a_read_signed) (fun _ h => nomatch h)
  have g13 : GOk G Γ L 70 l.prog w K mg base := step tabOk g12 rfl rfl chk_read_form D_read_form (body_read_form ⟨rfl, rfl, rfl, rfl⟩) (fun _ => mgo a_read_form) (fun _ h => nomatch h)
  have g14 : GOk G Γ L 71 l.prog w K mg base := step tabOk g13 rfl rfl chk_read_forms D_read_forms (body_read_forms ⟨rfl, rfl⟩) (fun _ => mgo a_read_forms) (fun _ h => nomatch h)
  have k14 : GOk G Γ L 102 l.prog w K mg base := skip g14 fun k h1 h2 => skip_14 k h1 h2
  have g15 : GOk G Γ L 103 l.prog w K mg base := step tabOk k14 rfl rfl chk_read_row D_read_row (body_read_row ⟨rfl, rfl, rfl, rfl⟩) (fun _ => mgo a_read_row) (fun _ h => nomatch h)
  have g16 : GOk G Γ L 104 l.prog w K mg base := step tabOk g15 rfl rfl chk_read_hall D_read_hall (body_read_hall ⟨rfl, rfl, rfl, rfl, rfl, rfl, rfl, rfl, rfl, rfl, rfl⟩) (fun _ => mgo a_read_hall) (fun _ h => nomatch h)
  have g17 : GOk G Γ L 105 l.prog w K mg base := step tabOk g16 rfl rfl chk_show_form D_show_form (body_show_form ⟨trivial⟩) (fun _ => mgo a_show_form) (fun _ h => nomatch h)
  have g18 : GOk G Γ L 106 l.prog w K mg base := step tabOk g17 rfl rfl chk_show_forms D_show_forms (body_show_forms ⟨rfl, rfl⟩) (fun _ => mgo a_show_forms) (fun _ h => nomatch h)
  have k18 : GOk G Γ L 1000 l.prog w K mg base := skip g18 fun k h1 h2 => skip_18 k h1 h2
  have g19 : GOk G Γ L 1001 l.prog w K mg base := step tabOk k18 rfl rfl chk__law_cell D__law_cell (body__law_cell ⟨trivial⟩) (fun _ => mgo a__law_cell) (fun _ h => nomatch h)
  have g20 : GOk G Γ L 1002 l.prog w K mg base := step tabOk g19 rfl rfl chk__law_mix D__law_mix (body__law_mix ⟨trivial⟩) (fun _ => mgo a__law_mix) (fun _ h => nomatch h)
  have g21 : GOk G Γ L 1003 l.prog w K mg base := step tabOk g20 rfl rfl chk__law_form D__law_form (body__law_form ⟨rfl, rfl⟩) (fun _ => mgo a__law_form) (fun _ h => nomatch h)
  have g22 : GOk G Γ L 1004 l.prog w K mg base := step tabOk g21 rfl rfl chk__law_form_text D__law_form_text (body__law_form_text ⟨trivial⟩) (fun _ => mgo a__law_form_text) (fun _ h => nomatch h)
  have g23 : GOk G Γ L 1005 l.prog w K mg base := step tabOk g22 rfl rfl chk__law_whole D__law_whole (body__law_whole ⟨trivial⟩) (fun _ => mgo a__law_whole) (fun _ h => nomatch h)
  have g24 : GOk G Γ L 1006 l.prog w K mg base := step tabOk g23 rfl rfl chk__law_is_form D__law_is_form (body__law_is_form ⟨rfl, rfl⟩) (fun _ => mgo a__law_is_form) (fun _ h => nomatch h)
  have g25 : GOk G Γ L 1007 l.prog w K mg base := step tabOk g24 rfl rfl chk__law_forms_good D__law_forms_good (body__law_forms_good ⟨rfl, rfl, rfl, rfl, rfl, rfl, rfl, rfl, rfl, rfl, rfl, rfl, rfl, rfl, rfl, rfl, rfl, rfl⟩) (fun _ => mgo a__law_forms_good) (fun _ h => nomatch h)
  have g26 : GOk G Γ L 1008 l.prog w K mg base := step tabOk g25 rfl rfl chk__law_line_text D__law_line_text (body__law_line_text ⟨trivial⟩) (fun _ => mgo a__law_line_text) (fun _ h => nomatch h)
  have g27 : GOk G Γ L 1009 l.prog w K mg base := step tabOk g26 rfl rfl chk__law_lines D__law_lines (body__law_lines ⟨rfl, rfl, rfl, rfl⟩) (fun _ => mgo a__law_lines) (fun _ h => nomatch h)
  have g28 : GOk G Γ L 1010 l.prog w K mg base := step tabOk g27 rfl rfl chk__law_mixed_rows D__law_mixed_rows (body__law_mixed_rows ⟨rfl, rfl⟩) (fun _ => mgo a__law_mixed_rows) (fun _ h => nomatch h)
  have g29 : GOk G Γ L 1011 l.prog w K mg base := step tabOk g28 rfl rfl chk__law_name D__law_name (body__law_name ⟨rfl, rfl⟩) (fun _ => mgo a__law_name) (fun _ h => nomatch h)
  have g30 : GOk G Γ L 1012 l.prog w K mg base := step tabOk g29 rfl rfl chk__law_names D__law_names (body__law_names ⟨rfl, rfl, rfl, rfl, rfl, rfl⟩) (fun _ => mgo a__law_names) (fun _ h => nomatch h)
  exact fn_okD tabOk.hcl tabOk.hfl l_law c_f_law chk_law.S chk_law.np chk_law.ck g30 (body_law ⟨rfl, rfl, rfl, rfl, rfl, rfl, rfl, rfl, rfl, rfl, rfl, rfl, rfl, rfl, rfl, rfl, rfl, rfl, rfl, rfl, rfl, rfl, rfl, rfl, rfl, rfl, rfl⟩)

end Lw
theorem PySem.Challenge.cw_ratehall_k31_halls_and_forms_written_holds : PySem.Challenge.rw_ratehall_k31_halls_and_forms_written.Holds := by
  w_on; o_law
  refine HandSHeadRun.head_any (r := PySem.W.OpenLaw.row PySem.Challenge.rw_ratehall_k31_halls_and_forms_written) (q := Lw.Vx) (H := PySem.W.kHook Lw.Kx Lw.Ax Lw.Ex_) (ob := fun s => Lw.Ax.map (HandSHeadRun.getT s)) (M := 20000) (loose := Lw.Nx) (d := HandSHeadRun.topDef (PySem.W.OpenLaw.row PySem.Challenge.rw_ratehall_k31_halls_and_forms_written).prog 40) (kwd := []) (fun s => List.map_congr_left fun a _ => HandSHeadRun.getT_eq s a) (by kernel_rfl) (fun s => by kernel_rfl) Lw.run_ (by kernel_rfl) (by kernel_rfl) (by kernel_rfl) (by rfl) (by first | assumption | decide +kernel) (by decide +kernel) ⟨rfl, rfl, rfl, rfl, rfl, by decide +kernel⟩ ?hw ?hc
  case hw => w_witness2
  case hc =>
  k_fill
  refine Rh.walkT (l := PySem.Challenge.rw_ratehall_k31_halls_and_forms_written) (k := 6) (x := "_law_script") rfl (by kernel_rfl) ⟨rfl, by decide, by decide⟩ (fun w h Y => PySem.W.kIn_of Y) ?F
  case F =>
    intro w mg fa h KX G hmg0
    have hmg : mg ("law" : PySem.Str) = some (.ref fa) := by
      have e : (HandSHeadRun.topDef (PySem.W.OpenLaw.row PySem.Challenge.rw_ratehall_k31_halls_and_forms_written).prog 40).name = ("law" : PySem.Str) := by kernel_rfl
      rw [← e]
      exact hmg0
    refine' Lw.all_mk KX G hmg ?n_Hall ?pg_Hall ?hd_Hall ?po_Hall ?sa_Hall ?mk_Hall ?kc_Hall ?na_Hall_called ?na_Hall_lines ?x_NoName ?xx_NoName ?xk_NoName ?xb_NoName ?xh_NoName ?xt_NoName ?x_NoRate ?xx_NoRate ?xk_NoRate ?xb_NoRate ?xh_NoRate ?xt_NoRate ?x_NoText ?xx_NoText ?xk_NoText ?xb_NoText ?xh_NoText ?xt_NoText ?x_NoWork ?xx_NoWork ?xk_NoWork ?xb_NoWork ?xh_NoWork ?xt_NoWork ?x_TooMuch ?xx_TooMuch ?xk_TooMuch ?xb_TooMuch ?xh_TooMuch ?xt_TooMuch ?x_Twice ?xx_Twice ?xk_Twice ?xb_Twice ?xh_Twice ?xt_Twice ?xs_NoName_NoName ?xs_NoName_NoRate ?xs_NoName_NoText ?xs_NoName_NoWork ?xs_NoName_TooMuch ?xs_NoName_Twice ?xs_NoRate_NoName ?xs_NoRate_NoRate ?xs_NoRate_NoText ?xs_NoRate_NoWork ?xs_NoRate_TooMuch ?xs_NoRate_Twice ?xs_NoText_NoName ?xs_NoText_NoRate ?xs_NoText_NoText ?xs_NoText_NoWork ?xs_NoText_TooMuch ?xs_NoText_Twice ?xs_NoWork_NoName ?xs_NoWork_NoRate ?xs_NoWork_NoText ?xs_NoWork_NoWork ?xs_NoWork_TooMuch ?xs_NoWork_Twice ?xs_TooMuch_NoName ?xs_TooMuch_NoRate ?xs_TooMuch_NoText ?xs_TooMuch_NoWork ?xs_TooMuch_TooMuch ?xs_TooMuch_Twice ?xs_Twice_NoName ?xs_Twice_NoRate ?xs_Twice_NoText ?xs_Twice_NoWork ?xs_Twice_TooMuch ?xs_Twice_Twice ?oc_n ?oc_t ?ia_Hall ?im_Hall ?g_FIGURES ?g_LETTERS ?g_MOST_BELTS ?g_MOST_WORKS ?b_len ?b_sum ?b_max ?b_min ?b_list ?b_tuple ?b_sorted ?b_all ?b_any ?b_str ?b_int ?b_bool ?b_dict ?b_isinstance ?b_range ?b_enumerate ?b_zip ?b_reversed ?b_ValueError ?b_set ?a_Hall_init ?i_f_Hall_init ?l_Hall_init ?c_f_Hall_init ?k_f_Hall_init ?a_Hall_names ?i_f_Hall_names ?l_Hall_names ?c_f_Hall_names ?k_f_Hall_names ?a_Hall_belts ?i_f_Hall_belts ?l_Hall_belts ?c_f_Hall_belts ?k_f_Hall_belts ?a_Hall_lay ?i_f_Hall_lay ?l_Hall_lay ?c_f_Hall_lay ?k_f_Hall_lay ?a_is_name ?l_is_name ?c_f_is_name ?k_f_is_name ?a_Hall_work ?i_f_Hall_work ?l_Hall_work ?c_f_Hall_work ?k_f_Hall_work ?a_Hall_need ?i_f_Hall_need ?l_Hall_need ?c_f_Hall_need ?k_f_Hall_need ?a_read_number ?l_read_number ?c_f_read_number ?k_f_read_number ?a_Hall_number_of ?i_f_Hall_number_of ?l_Hall_number_of ?c_f_Hall_number_of ?k_f_Hall_number_of ?a_Hall_belt ?i_f_Hall_belt ?l_Hall_belt ?c_f_Hall_belt ?k_f_Hall_belt ?t_Hall_belt ?a_show_hall ?l_show_hall ?c_f_show_hall ?k_f_show_hall ?a_read_signed ?l_read_signed ?c_f_read_signed ?k_f_read_signed ?a_read_form ?l_read_form ?c_f_read_form ?k_f_read_form ?a_read_forms ?l_read_forms ?c_f_read_forms ?k_f_read_forms ?a_read_row ?l_read_row ?c_f_read_row ?k_f_read_row ?a_read_hall ?l_read_hall ?c_f_read_hall ?k_f_read_hall ?a_show_form ?l_show_form ?c_f_show_form ?k_f_show_form ?a_show_forms ?l_show_forms ?c_f_show_forms ?k_f_show_forms ?a__law_cell ?l__law_cell ?c_f__law_cell ?k_f__law_cell ?a__law_mix ?l__law_mix ?c_f__law_mix ?k_f__law_mix ?a__law_form ?l__law_form ?c_f__law_form ?k_f__law_form ?a__law_form_text ?l__law_form_text ?c_f__law_form_text ?k_f__law_form_text ?a__law_whole ?l__law_whole ?c_f__law_whole ?k_f__law_whole ?a__law_is_form ?l__law_is_form ?c_f__law_is_form ?k_f__law_is_form ?a__law_forms_good ?l__law_forms_good ?c_f__law_forms_good ?k_f__law_forms_good ?a__law_line_text ?l__law_line_text ?c_f__law_line_text ?k_f__law_line_text ?a__law_lines ?l__law_lines ?c_f__law_lines ?k_f__law_lines ?a__law_mixed_rows ?l__law_mixed_rows ?c_f__law_mixed_rows ?k_f__law_mixed_rows ?a__law_name ?l__law_name ?c_f__law_name ?k_f__law_name ?a__law_names ?l__law_names ?c_f__law_names ?k_f__law_names ?a_law ?l_law ?c_f_law ?k_f_law
    (case n_Hall => k_is)
    (case pg_Hall => k_is)
    (case hd_Hall => k_is)
    (case po_Hall => k_is)
    (case sa_Hall => k_is)
    (case mk_Hall => k_is)
    (case kc_Hall => k_is)
    (case na_Hall_called => k_is)
    (case na_Hall_lines => k_is)
    (case x_NoName => k_is)
    (case xx_NoName => k_exc)
    (case xk_NoName => k_is)
    (case xb_NoName => k_is)
    (case xh_NoName => k_is)
    (case xt_NoName => k_is)
    (case x_NoRate => k_is)
    (case xx_NoRate => k_exc)
    (case xk_NoRate => k_is)
    (case xb_NoRate => k_is)
    (case xh_NoRate => k_is)
    (case xt_NoRate => k_is)
    (case x_NoText => k_is)
    (case xx_NoText => k_exc)
    (case xk_NoText => k_is)
    (case xb_NoText => k_is)
    (case xh_NoText => k_is)
    (case xt_NoText => k_is)
    (case x_NoWork => k_is)
    (case xx_NoWork => k_exc)
    (case xk_NoWork => k_is)
    (case xb_NoWork => k_is)
    (case xh_NoWork => k_is)
    (case xt_NoWork => k_is)
    (case x_TooMuch => k_is)
    (case xx_TooMuch => k_exc)
    (case xk_TooMuch => k_is)
    (case xb_TooMuch => k_is)
    (case xh_TooMuch => k_is)
    (case xt_TooMuch => k_is)
    (case x_Twice => k_is)
    (case xx_Twice => k_exc)
    (case xk_Twice => k_is)
    (case xb_Twice => k_is)
    (case xh_Twice => k_is)
    (case xt_Twice => k_is)
    (case xs_NoName_NoName => k_is)
    (case xs_NoName_NoRate => k_is)
    (case xs_NoName_NoText => k_is)
    (case xs_NoName_NoWork => k_is)
    (case xs_NoName_TooMuch => k_is)
    (case xs_NoName_Twice => k_is)
    (case xs_NoRate_NoName => k_is)
    (case xs_NoRate_NoRate => k_is)
    (case xs_NoRate_NoText => k_is)
    (case xs_NoRate_NoWork => k_is)
    (case xs_NoRate_TooMuch => k_is)
    (case xs_NoRate_Twice => k_is)
    (case xs_NoText_NoName => k_is)
    (case xs_NoText_NoRate => k_is)
    (case xs_NoText_NoText => k_is)
    (case xs_NoText_NoWork => k_is)
    (case xs_NoText_TooMuch => k_is)
    (case xs_NoText_Twice => k_is)
    (case xs_NoWork_NoName => k_is)
    (case xs_NoWork_NoRate => k_is)
    (case xs_NoWork_NoText => k_is)
    (case xs_NoWork_NoWork => k_is)
    (case xs_NoWork_TooMuch => k_is)
    (case xs_NoWork_Twice => k_is)
    (case xs_TooMuch_NoName => k_is)
    (case xs_TooMuch_NoRate => k_is)
    (case xs_TooMuch_NoText => k_is)
    (case xs_TooMuch_NoWork => k_is)
    (case xs_TooMuch_TooMuch => k_is)
    (case xs_TooMuch_Twice => k_is)
    (case xs_Twice_NoName => k_is)
    (case xs_Twice_NoRate => k_is)
    (case xs_Twice_NoText => k_is)
    (case xs_Twice_NoWork => k_is)
    (case xs_Twice_TooMuch => k_is)
    (case xs_Twice_Twice => k_is)
    (case oc_n => k_is)
    (case oc_t => k_is)
    (case ia_Hall => k_is)
    (case im_Hall => k_is)
    (case g_FIGURES => k_is)
    (case g_LETTERS => k_is)
    (case g_MOST_BELTS => k_is)
    (case g_MOST_WORKS => k_is)
    (case b_len => k_is)
    (case b_sum => k_is)
    (case b_max => k_is)
    (case b_min => k_is)
    (case b_list => k_is)
    (case b_tuple => k_is)
    (case b_sorted => k_is)
    (case b_all => k_is)
    (case b_any => k_is)
    (case b_str => k_is)
    (case b_int => k_is)
    (case b_bool => k_is)
    (case b_dict => k_is)
    (case b_isinstance => k_is)
    (case b_range => k_is)
    (case b_enumerate => k_is)
    (case b_zip => k_is)
    (case b_reversed => k_is)
    (case b_ValueError => k_is)
    (case b_set => k_is)
    (case a_Hall_init => k_is)
    (case i_f_Hall_init => k_is)
    (case l_Hall_init => k_is)
    (case c_f_Hall_init => k_is)
    (case k_f_Hall_init => k_is)
    (case a_Hall_names => k_is)
    (case i_f_Hall_names => k_is)
    (case l_Hall_names => k_is)
    (case c_f_Hall_names => k_is)
    (case k_f_Hall_names => k_is)
    (case a_Hall_belts => k_is)
    (case i_f_Hall_belts => k_is)
    (case l_Hall_belts => k_is)
    (case c_f_Hall_belts => k_is)
    (case k_f_Hall_belts => k_is)
    (case a_Hall_lay => k_is)
    (case i_f_Hall_lay => k_is)
    (case l_Hall_lay => k_is)
    (case c_f_Hall_lay => k_is)
    (case k_f_Hall_lay => k_is)
    (case a_is_name => k_is)
    (case l_is_name => k_is)
    (case c_f_is_name => k_is)
    (case k_f_is_name => k_is)
    (case a_Hall_work => k_is)
    (case i_f_Hall_work => k_is)
    (case l_Hall_work => k_is)
    (case c_f_Hall_work => k_is)
    (case k_f_Hall_work => k_is)
    (case a_Hall_need => k_is)
    (case i_f_Hall_need => k_is)
    (case l_Hall_need => k_is)
    (case c_f_Hall_need => k_is)
    (case k_f_Hall_need => k_is)
    (case a_read_number => k_is)
    (case l_read_number => k_is)
    (case c_f_read_number => k_is)
    (case k_f_read_number => k_is)
    (case a_Hall_number_of => k_is)
    (case i_f_Hall_number_of => k_is)
    (case l_Hall_number_of => k_is)
    (case c_f_Hall_number_of => k_is)
    (case k_f_Hall_number_of => k_is)
    (case a_Hall_belt => k_is)
    (case i_f_Hall_belt => k_is)
    (case l_Hall_belt => k_is)
    (case c_f_Hall_belt => k_is)
    (case k_f_Hall_belt => k_is)
    (case t_Hall_belt => k_is)
    (case a_show_hall => k_is)
    (case l_show_hall => k_is)
    (case c_f_show_hall => k_is)
    (case k_f_show_hall => k_is)
    (case a_read_signed => k_is)
    (case l_read_signed => k_is)
    (case c_f_read_signed => k_is)
    (case k_f_read_signed => k_is)
    (case a_read_form => k_is)
    (case l_read_form => k_is)
    (case c_f_read_form => k_is)
    (case k_f_read_form => k_is)
    (case a_read_forms => k_is)
    (case l_read_forms => k_is)
    (case c_f_read_forms => k_is)
    (case k_f_read_forms => k_is)
    (case a_read_row => k_is)
    (case l_read_row => k_is)
    (case c_f_read_row => k_is)
    (case k_f_read_row => k_is)
    (case a_read_hall => k_is)
    (case l_read_hall => k_is)
    (case c_f_read_hall => k_is)
    (case k_f_read_hall => k_is)
    (case a_show_form => k_is)
    (case l_show_form => k_is)
    (case c_f_show_form => k_is)
    (case k_f_show_form => k_is)
    (case a_show_forms => k_is)
    (case l_show_forms => k_is)
    (case c_f_show_forms => k_is)
    (case k_f_show_forms => k_is)
    (case a__law_cell => k_is)
    (case l__law_cell => k_is)
    (case c_f__law_cell => k_is)
    (case k_f__law_cell => k_is)
    (case a__law_mix => k_is)
    (case l__law_mix => k_is)
    (case c_f__law_mix => k_is)
    (case k_f__law_mix => k_is)
    (case a__law_form => k_is)
    (case l__law_form => k_is)
    (case c_f__law_form => k_is)
    (case k_f__law_form => k_is)
    (case a__law_form_text => k_is)
    (case l__law_form_text => k_is)
    (case c_f__law_form_text => k_is)
    (case k_f__law_form_text => k_is)
    (case a__law_whole => k_is)
    (case l__law_whole => k_is)
    (case c_f__law_whole => k_is)
    (case k_f__law_whole => k_is)
    (case a__law_is_form => k_is)
    (case l__law_is_form => k_is)
    (case c_f__law_is_form => k_is)
    (case k_f__law_is_form => k_is)
    (case a__law_forms_good => k_is)
    (case l__law_forms_good => k_is)
    (case c_f__law_forms_good => k_is)
    (case k_f__law_forms_good => k_is)
    (case a__law_line_text => k_is)
    (case l__law_line_text => k_is)
    (case c_f__law_line_text => k_is)
    (case k_f__law_line_text => k_is)
    (case a__law_lines => k_is)
    (case l__law_lines => k_is)
    (case c_f__law_lines => k_is)
    (case k_f__law_lines => k_is)
    (case a__law_mixed_rows => k_is)
    (case l__law_mixed_rows => k_is)
    (case c_f__law_mixed_rows => k_is)
    (case k_f__law_mixed_rows => k_is)
    (case a__law_name => k_is)
    (case l__law_name => k_is)
    (case c_f__law_name => k_is)
    (case k_f__law_name => k_is)
    (case a__law_names => k_is)
    (case l__law_names => k_is)
    (case c_f__law_names => k_is)
    (case k_f__law_names => k_is)
    (case a_law => k_is)
    (case l_law => k_is)
    (case c_f_law => k_is)
    (case k_f_law => k_is)
