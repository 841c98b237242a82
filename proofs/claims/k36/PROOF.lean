import PyProof.Rows.All
import Wide.All
import OpenK.AllK
import Wide.FinOn
import HandS.ForMost
import HandS.Exc
import HandS.TryOnly
import HandS.TryMany
import HandS.ExcOwn
import HandS.WordsExc
import HandS.CallSlots
import HandS.Wide
import HandS.SortInts
import HandS.IsInst
import HandS.Zip
import HandS.Flow
import HandS.Deep
import HandS.TupMul
import HandS.Style
import HandS.More
import HandS.SetFor
import HandS.Text
import HandS.Flt
import HandS.ExcIs
import HandS.Codes
import HandS.Conv
import HandS.Rev
import HandS.EndBits
import HandS.Defaults
import PySem.Challenge.RW_ratehall_k36_whole_any_order_same_pieces
set_option Elab.async false
set_option linter.all false
set_option maxRecDepth 100000
set_option maxHeartbeats 4000000
namespace Rh
open PySem PySem.Spec PyProof.Rows L2

/-! ## 1. Values without a heap, and a store of the things that change -/
inductive T where
  | non | bl (b : Bool) | int (i : Int) | str (s : Str)
  | tup (ts : List T) | lst (ts : List T) | scr (ts : List T) | own (p : Addr)

inductive Ob where
  | lst (ts : List T) | dict (kvs : List (Key × T)) | obj (c : Nat) (ts : List T)
abbrev Sto := Addr → Option Ob
def Sto.set (μ : Sto) (p : Addr) (o : Ob) : Sto := fun q => if q = p then some o else μ q
theorem Sto.set_same {μ : Sto} {p : Addr} {o : Ob} : μ.set p o p = some o := if_pos rfl
theorem Sto.set_ne {μ : Sto} {p q : Addr} {o : Ob} (h : q ≠ p) : μ.set p o q = μ q := if_neg h
theorem Sto.set_set {μ : Sto} {p : Addr} {o u : Ob} : (μ.set p o).set p u = μ.set p u := by
  funext q
  unfold Sto.set
  split <;> rfl
/-- the one store within the other -/
def Sub (μ' μ : Sto) : Prop := ∀ p o, μ' p = some o → μ p = some o
theorem Sub.refl (μ : Sto) : Sub μ μ := fun _ _ h => h
theorem Sub.trans {a b c : Sto} (h : Sub a b) (k : Sub b c) : Sub a c := fun p o e => k p o (h p o e)
abbrev Ro := List (Option T)
abbrev RP := T → Sto → Prop
abbrev XP := Nat → Sto → Prop

/-- where classes stand, and their fields in the order in which they come to be -/
structure Lay where
  addr : Nat → Addr
  flds : Nat → List Str
  exc : Nat → Addr

/-! ## 2. What a value is worth in a heap that does not change -/
mutual
def Tr (K : PySem.W.Frag) (B : Hp) : V → T → Prop
  | v, .non => v = .non
  | v, .bl b => v = .bl b
  | v, .int i => v = .int i
  | v, .str s => v = .str s
  | v, .tup ts => ∃ a vs, v = .ref a ∧ SqT K B a vs ∧ Trs K B vs ts
  | v, .lst ts => ∃ a vs, v = .ref a ∧ B a = some (.lst vs) ∧ Trs K B vs ts
  | v, .scr ts => ∃ a vs, v = .ref a ∧ SqL K B a vs ∧ Trs K B vs ts
  | v, .own p => v = .ref p
def Trs (K : PySem.W.Frag) (B : Hp) : List V → List T → Prop
  | vs, [] => vs = []
  | vs, t :: ts => ∃ v r, vs = v :: r ∧ Tr K B v t ∧ Trs K B r ts
end
abbrev Le (B B' : Hp) : Prop := Same B B'
section
variable {K : PySem.W.Frag} {B B' H H' : Hp}
theorem Le.seqT {a : Addr} {xs : List V} (e : Le B B') (h : SqT K B a xs) : SqT K B' a xs := by
  rcases h with (h | ⟨o, h⟩) | h
  · exact .inl (.inl (e _ _ h))
  · exact .inl (.inr ⟨o, e _ _ h⟩)
  · exact .inr h
mutual
theorem Tr.mono (e : Le B B') : ∀ {t : T} {v : V}, Tr K B v t → Tr K B' v t
  | .non, _, h => h
  | .bl _, _, h => h
  | .int _, _, h => h
  | .str _, _, h => h
  | .tup _, _, ⟨a, vs, e1, h1, h2⟩ => ⟨a, vs, e1, e.seqT h1, Trs.mono e h2⟩
  | .lst _, _, ⟨a, vs, e1, h1, h2⟩ => ⟨a, vs, e1, e _ _ h1, Trs.mono e h2⟩
  | .scr _, _, ⟨a, vs, e1, h1, h2⟩ => ⟨a, vs, e1, Same.seq e h1, Trs.mono e h2⟩
  | .own _, _, h => h
theorem Trs.mono (e : Le B B') : ∀ {ts : List T} {vs : List V}, Trs K B vs ts → Trs K B' vs ts
  | [], _, h => h
  | _ :: _, _, ⟨v, r, e1, h1, h2⟩ => ⟨v, r, e1, Tr.mono e h1, Trs.mono e h2⟩
end
theorem Trs.nil : Trs K B [] [] := rfl
theorem Trs.cons {v : V} {vs : List V} {t : T} {ts : List T} (h : Tr K B v t) (hs : Trs K B vs ts) : Trs K B (v :: vs) (t :: ts) := ⟨v, vs, rfl, h, hs⟩
theorem Trs.length : ∀ {ts : List T} {vs : List V}, Trs K B vs ts → vs.length = ts.length
  | [], _, h => by cases h; rfl
  | _ :: _, _, ⟨v, r, e, _, h⟩ => by subst e; simp [Trs.length h]
theorem Trs.get : ∀ {ts : List T} {vs : List V} {i : Nat} {t : T}, Trs K B vs ts → ts[i]? = some t → ∃ v, vs[i]? = some v ∧ Tr K B v t
  | [], _, _, _, _, e => by simp at e
  | _ :: _, _, 0, _, ⟨v, r, e1, h, _⟩, e => by
    subst e1
    simp at e
    subst e
    exact ⟨v, rfl, h⟩
  | _ :: _, _, i + 1, _, ⟨v, r, e1, _, h⟩, e => by
    subst e1
    exact Trs.get (i := i) h (by simpa using e)
theorem Trs.append : ∀ {ts us : List T} {vs ws : List V}, Trs K B vs ts → Trs K B ws us → Trs K B (vs ++ ws) (ts ++ us)
  | [], _, _, _, h, k => by cases h; exact k
  | _ :: _, _, _, _, ⟨v, r, e, h, hs⟩, k => by subst e; exact ⟨v, _, rfl, h, Trs.append hs k⟩
theorem Trs.take : ∀ {ts : List T} {vs : List V} (n : Nat), Trs K B vs ts → Trs K B (vs.take n) (ts.take n)
  | _, _, 0, _ => rfl
  | [], _, _ + 1, h => by cases h; rfl
  | _ :: _, _, n + 1, ⟨v, r, e, h, hs⟩ => by subst e; exact ⟨v, _, rfl, h, Trs.take n hs⟩
theorem Trs.drop : ∀ {ts : List T} {vs : List V} (n : Nat), Trs K B vs ts → Trs K B (vs.drop n) (ts.drop n)
  | _, _, 0, h => h
  | [], _, _ + 1, h => by cases h; rfl
  | _ :: _, _, n + 1, ⟨v, r, e, h, hs⟩ => by subst e; exact Trs.drop n hs
theorem Trs.set : ∀ {ts : List T} {vs : List V} {v : V} {t : T} (i : Nat), Trs K B vs ts → Tr K B v t → Trs K B (vs.set i v) (ts.set i t)
  | [], _, _, _, _, h, _ => by cases h; rfl
  | _ :: _, _, v', _, 0, ⟨v, r, e, _, hs⟩, k => by subst e; exact ⟨v', r, rfl, k, hs⟩
  | _ :: _, _, _, _, i + 1, ⟨v, r, e, h, hs⟩, k => by subst e; exact ⟨v, _, rfl, h, Trs.set i hs k⟩
theorem Trs.eraseIdx : ∀ {ts : List T} {vs : List V} (i : Nat), Trs K B vs ts → Trs K B (vs.eraseIdx i) (ts.eraseIdx i)
  | [], _, _, h => by cases h; rfl
  | _ :: _, _, 0, ⟨v, r, e, _, hs⟩ => by subst e; exact hs
  | _ :: _, _, i + 1, ⟨v, r, e, h, hs⟩ => by subst e; exact ⟨v, _, rfl, h, Trs.eraseIdx i hs⟩
theorem Trs.dropLast {ts : List T} {vs : List V} (h : Trs K B vs ts) : Trs K B vs.dropLast ts.dropLast := by
  rw [List.dropLast_eq_take, List.dropLast_eq_take, h.length]
  exact h.take _
theorem Trs.reverse : ∀ {ts : List T} {vs : List V}, Trs K B vs ts → Trs K B vs.reverse ts.reverse
  | [], _, h => by cases h; rfl
  | _ :: _, _, ⟨v, r, e, h, hs⟩ => by
    subst e
    rw [List.reverse_cons, List.reverse_cons]
    exact Trs.append (Trs.reverse hs) ⟨v, [], rfl, h, rfl⟩
theorem Trs.rep {ts : List T} {vs : List V} (h : Trs K B vs ts) : ∀ k : Nat, Trs K B (List.replicate k vs).flatten (List.replicate k ts).flatten
  | 0 => rfl
  | k + 1 => by
    rw [List.replicate_succ, List.replicate_succ, List.flatten_cons, List.flatten_cons]
    exact Trs.append h (Trs.rep h k)
theorem Trs.ints : ∀ {ns : List Int} {vs : List V}, Trs K B vs (ns.map T.int) → vs = ns.map V.int
  | [], _, h => h
  | _ :: _, _, ⟨v, r, e, h, hs⟩ => by
    have h' : v = V.int _ := h
    rw [e, h', Trs.ints hs]
    rfl
theorem Trs.of_ints : ∀ (ns : List Int), Trs K B (ns.map V.int) (ns.map T.int)
  | [] => rfl
  | _ :: r => ⟨_, _, rfl, rfl, Trs.of_ints r⟩
theorem Trs.strs : ∀ {ns : List Str} {vs : List V}, Trs K B vs (ns.map T.str) → vs = ns.map V.str
  | [], _, h => h
  | _ :: _, _, ⟨v, r, e, h, hs⟩ => by
    have h' : v = V.str _ := h
    rw [e, h', Trs.strs hs]
    rfl
theorem Trs.of_strs : ∀ (ns : List Str), Trs K B (ns.map V.str) (ns.map T.str)
  | [] => rfl
  | _ :: r => ⟨_, _, rfl, rfl, Trs.of_strs r⟩
theorem Trs.bls : ∀ {ns : List Bool} {vs : List V}, Trs K B vs (ns.map T.bl) → vs = ns.map V.bl
  | [], _, h => h
  | _ :: _, _, ⟨v, r, e, h, hs⟩ => by
    have h' : v = V.bl _ := h
    rw [e, h', Trs.bls hs]
    rfl
end

/-! ## 3. The heap: a part that stands still (B), and the store -/
def KTs (K : PySem.W.Frag) (B : Hp) : List (Key × V) → List (Key × T) → Prop := Paired fun p q => p.1 = q.1 ∧ Tr K B p.2 q.2
def ObOk (K : PySem.W.Frag) (L : Lay) (H B : Hp) (p : Addr) : Ob → Prop
  | .lst ts => ∃ vs, H p = some (.lst vs) ∧ Trs K B vs ts
  | .dict kvs => ∃ ks, H p = some (.dK ks) ∧ KTs K B ks kvs
  | .obj c ts => ∃ dx vs, H p = some (.ins (L.addr c) dx ((L.flds c).zip vs)) ∧ Trs K B vs ts ∧ vs.length ≤ (L.flds c).length
structure St (K : PySem.W.Frag) (L : Lay) (Φ H B : Hp) (μ : Sto) : Prop where
  sub : Le B H
  sto : ∀ p o, μ p = some o → B p = none ∧ ObOk K L H B p o
  frm : ∀ p o, Φ p = some o → H p = some o ∧ B p = none ∧ μ p = none
section
variable {K : PySem.W.Frag} {L : Lay} {Φ B B' H H' : Hp} {μ μ' : Sto}
theorem KTs.mono {a : List (Key × V)} {b : List (Key × T)} (e : Le B B') (h : KTs K B a b) : KTs K B' a b := Paired.mapP h fun _ _ z => ⟨z.1, z.2.mono e⟩
theorem ObOk.mono {p : Addr} {o : Ob} (h : ObOk K L H B p o) (e : Le B B') (eH : H' p = H p) : ObOk K L H' B' p o := by
  cases o with
  | lst ts => obtain ⟨vs, h1, h2⟩ := h; exact ⟨vs, eH.trans h1, h2.mono e⟩
  | dict kvs => obtain ⟨ks, h1, h2⟩ := h; exact ⟨ks, eH.trans h1, h2.mono e⟩
  | obj c ts => obtain ⟨dx, vs, h1, h2, h3⟩ := h; exact ⟨dx, vs, eH.trans h1, h2.mono e, h3⟩
theorem ObOk.there {p : Addr} {o : Ob} (h : ObOk K L H B p o) : ∃ u, H p = some u := by
  cases o with
  | lst ts => obtain ⟨vs, h1, h2⟩ := h; exact ⟨_, h1⟩
  | dict kvs => obtain ⟨ks, h1, h2⟩ := h; exact ⟨_, h1⟩
  | obj c ts => obtain ⟨dx, vs, h1, h2, h3⟩ := h; exact ⟨_, h1⟩
theorem St.fresh (S : St K L Φ H B μ) {p : Addr} (h : H p = none) : μ p = none := by
  cases e : μ p with
  | none => rfl
  | some o =>
    obtain ⟨u, q⟩ := (S.sto p o e).2.there
    rw [h] at q
    cases q
theorem St.freshB (S : St K L Φ H B μ) {p : Addr} (h : H p = none) : B p = none := Same.free S.sub h
/-- fewer things of the store are looked at -/
theorem Sub.none (h : Sub μ' μ) {p : Addr} (e : μ p = none) : μ' p = none := by
  cases q : μ' p with
  | none => rfl
  | some o => rw [h p o q] at e; cases e
theorem St.freshF (S : St K L Φ H B μ) {p : Addr} (h : H p = none) : Φ p = none := by
  cases e : Φ p with
  | none => rfl
  | some o =>
    have q := (S.frm p o e).1
    rw [h] at q
    cases q
theorem St.drop (S : St K L Φ H B μ) (h : Sub μ' μ) : St K L Φ H B μ' := ⟨S.sub, fun p o e => S.sto p o (h p o e), fun p o e => let ⟨a, b, c⟩ := S.frm p o e; ⟨a, b, h.none c⟩⟩
theorem le_upd {p : Addr} {o : HO} (h : B p = none) : Le B (upd B p o) := fun b u e => by rw [upd_ne (ne_of_none e h)]; exact e
/-- a thing that stands still from now on -/
theorem St.laid {p : Addr} {o : HO} (S : St K L Φ H B μ) (h : H p = none) : St K L Φ (upd H p o) (upd B p o) μ := by
  refine ⟨fun b u e => ?_, fun q ob e => ?_, fun q ob e => ?_⟩
  · by_cases hb : b = p
    · subst hb
      rw [upd_same] at e ⊢
      exact e
    · rw [upd_ne hb] at e ⊢
      exact S.sub _ _ e
  · have hq : q ≠ p := fun z => by
      rw [z, S.fresh h] at e
      cases e
    obtain ⟨h1, h2⟩ := S.sto q ob e
    exact ⟨by rw [upd_ne hq]; exact h1, h2.mono (le_upd (S.freshB h)) (upd_ne hq)⟩
  · have hq : q ≠ p := fun z => by
      rw [z, S.freshF h] at e
      cases e
    obtain ⟨a, b, c⟩ := S.frm q ob e
    exact ⟨by rw [upd_ne hq]; exact a, by rw [upd_ne hq]; exact b, c⟩
/-- something tracked that nothing of ours names -/
theorem St.aside {p : Addr} {o : HO} (S : St K L Φ H B μ) (h : H p = none) : St K L Φ (upd H p o) B μ := by
  refine ⟨fun b u e => ?_, fun q ob e => ?_, fun q ob e => ?_⟩
  · rw [upd_ne (ne_of_none (S.sub _ _ e) h)]
    exact S.sub _ _ e
  · have hq : q ≠ p := fun z => by
      rw [z, S.fresh h] at e
      cases e
    obtain ⟨h1, h2⟩ := S.sto q ob e
    exact ⟨h1, h2.mono (Same.refl _) (upd_ne hq)⟩
  · have hq : q ≠ p := fun z => by
      rw [z, S.freshF h] at e
      cases e
    obtain ⟨a, b, c⟩ := S.frm q ob e
    exact ⟨by rw [upd_ne hq]; exact a, b, c⟩
/-- a thing of the store is new, or written -/
theorem St.put {p : Addr} {o : HO} {ob : Ob} (S : St K L Φ H B μ) (hB : B p = none) (hF : Φ p = none) (h : ObOk K L (upd H p o) B p ob) : St K L Φ (upd H p o) B (μ.set p ob) := by
  refine ⟨fun b u e => ?_, fun q ob' e => ?_, fun q ob' e => ?_⟩
  · rw [upd_ne (ne_of_none e hB)]
    exact S.sub _ _ e
  · by_cases hq : q = p
    · subst hq
      rw [Sto.set_same] at e
      cases e
      exact ⟨hB, h⟩
    · rw [Sto.set_ne hq] at e
      obtain ⟨h1, h2⟩ := S.sto q ob' e
      exact ⟨h1, h2.mono (Same.refl _) (upd_ne hq)⟩
  · have hq : q ≠ p := fun z => by
      rw [z, hF] at e
      cases e
    obtain ⟨a, b, c⟩ := S.frm q ob' e
    exact ⟨by rw [upd_ne hq]; exact a, b, by rw [Sto.set_ne hq]; exact c⟩
theorem St.noF {p : Addr} {o : Ob} (S : St K L Φ H B μ) (e : μ p = some o) : Φ p = none := by
  cases q : Φ p with
  | none => rfl
  | some u =>
    have z := (S.frm p u q).2.2
    rw [e] at z
    cases z
theorem St.mem {p : Addr} {ts : List T} (S : St K L Φ H B μ) (e : μ p = some (.lst ts)) : ∃ vs, H p = some (.lst vs) ∧ Trs K B vs ts := (S.sto p _ e).2
theorem St.memD {p : Addr} {kvs : List (Key × T)} (S : St K L Φ H B μ) (e : μ p = some (.dict kvs)) : ∃ ks, H p = some (.dK ks) ∧ KTs K B ks kvs := (S.sto p _ e).2
theorem St.memO {p : Addr} {c : Nat} {ts : List T} (S : St K L Φ H B μ) (e : μ p = some (.obj c ts)) : ∃ dx vs, H p = some (.ins (L.addr c) dx ((L.flds c).zip vs)) ∧ Trs K B vs ts ∧ vs.length ≤ (L.flds c).length := (S.sto p _ e).2
end
/-- lists: those that may be written or added; those that may be read; tuples -/
def slst (μ : Sto) : T → Option (List T)
  | .lst ts => some ts
  | .own p => match μ p with
    | some (.lst ts) => some ts
    | _ => none
  | _ => none
def vlst (μ : Sto) : T → Option (List T)
  | .lst ts => some ts
  | .scr ts => some ts
  | .own p => match μ p with
    | some (.lst ts) => some ts
    | _ => none
  | _ => none
def vtup : T → Option (List T)
  | .tup ts => some ts
  | _ => none
section
variable {K : PySem.W.Frag} {L : Lay} {Φ B B' H H' : Hp} {μ μ' : Sto} {v : V} {t : T} {ts : List T}
theorem own_lst {p : Addr} (h : (match μ p with | some (.lst ts) => some ts | _ => none) = some ts) : μ p = some (.lst ts) := by
  cases e : μ p with
  | none => rw [e] at h; cases h
  | some o =>
    rw [e] at h
    cases o with
    | lst us => cases h; rfl
    | dict _ => cases h
    | obj _ _ => cases h
theorem slst_ok (S : St K L Φ H B μ) (r : Tr K B v t) (h : slst μ t = some ts) : ∃ a vs, v = .ref a ∧ H a = some (.lst vs) ∧ Trs K B vs ts := by
  cases t with
  | lst us =>
    cases h
    obtain ⟨a, vs, e, h1, h2⟩ := r
    exact ⟨a, vs, e, S.sub _ _ h1, h2⟩
  | own p =>
    obtain ⟨vs, h1, h2⟩ := S.mem (own_lst h)
    exact ⟨p, vs, r, h1, h2⟩
  | _ => cases h
theorem vlst_ok (S : St K L Φ H B μ) (r : Tr K B v t) (h : vlst μ t = some ts) : ∃ a vs, v = .ref a ∧ SqL K H a vs ∧ Trs K B vs ts := by
  cases t with
  | lst us =>
    cases h
    obtain ⟨a, vs, e, h1, h2⟩ := r
    exact ⟨a, vs, e, .of (S.sub _ _ h1), h2⟩
  | scr us =>
    cases h
    obtain ⟨a, vs, e, h1, h2⟩ := r
    exact ⟨a, vs, e, Same.seq S.sub h1, h2⟩
  | own p =>
    obtain ⟨vs, h1, h2⟩ := S.mem (own_lst h)
    exact ⟨p, vs, r, .of h1, h2⟩
  | _ => cases h
theorem vtup_ok (S : St K L Φ H B μ) (r : Tr K B v t) (h : vtup t = some ts) : ∃ a vs, v = .ref a ∧ SqT K H a vs ∧ Trs K B vs ts := by
  cases t with
  | tup us =>
    cases h
    obtain ⟨a, vs, e, h1, h2⟩ := r
    exact ⟨a, vs, e, Le.seqT S.sub h1, h2⟩
  | _ => cases h
end

/-! ## 4. What is wanted behind: from trees to the heap -/
def Post (K : PySem.W.Frag) (L : Lay) (Φ B : Hp) (R : RP) (Q : VK) : Prop := ∀ v t H' B' μ', Le B B' → St K L Φ H' B' μ' → Tr K B' v t → R t μ' → Q v H'
def PostS (K : PySem.W.Frag) (L : Lay) (Φ B : Hp) (R : Sto → Prop) (Q : Hp → Prop) : Prop := ∀ H' B' μ', Le B B' → St K L Φ H' B' μ' → R μ' → Q H'
def PostB (K : PySem.W.Frag) (L : Lay) (Φ B : Hp) (R : Bool → Sto → Prop) (Q : Bool → Hp → Prop) : Prop := ∀ b H' B' μ', Le B B' → St K L Φ H' B' μ' → R b μ' → Q b H'
def PostX (K : PySem.W.Frag) (L : Lay) (Φ B : Hp) (F : XP) (E : XK) : Prop := ∀ c H' B' μ', Le B B' → St K L Φ H' B' μ' → F c μ' → E (.ref (L.exc c)) none H'
section
variable {K : PySem.W.Frag} {L : Lay} {Φ B B' H H' : Hp} {μ μ' : Sto} {R : RP} {Q : VK} {F : XP} {E : XK}
theorem Post.mono (h : Post K L Φ B R Q) (e : Le B B') : Post K L Φ B' R Q := fun v t H' B2 μ' e2 => h v t H' B2 μ' (e.trans e2)
theorem PostX.mono (h : PostX K L Φ B F E) (e : Le B B') : PostX K L Φ B' F E := fun c H' B2 μ' e2 => h c H' B2 μ' (e.trans e2)
theorem Post.here (h : Post K L Φ B R Q) {v : V} {t : T} (S : St K L Φ H B μ) (r : Tr K B v t) (q : R t μ) : Q v H := h v t H B μ (Same.refl _) S r q
/-- a new list: one's own, or one that stands still -/
def newL (own : Bool) (ts : List T) (μ : Sto) (R : RP) : Prop :=
  match own with
  | true => ∀ p, μ p = none → R (.own p) (μ.set p (.lst ts))
  | false => R (.lst ts) μ
theorem newL_ok {own : Bool} {vs : List V} {ts : List T} (S : St K L Φ H B μ) (r : Trs K B vs ts) (h : newL own ts μ R) (k : Post K L Φ B R Q) {p : Addr} (hp : H p = none) : Q (.ref p) (upd H p (.lst vs)) := by
  cases own with
  | true =>
    have h : ∀ p, μ p = none → R (.own p) (μ.set p (.lst ts)) := h
    exact k _ (.own p) _ B _ (Same.refl _) (S.put (S.freshB hp) (S.freshF hp) (show ObOk K L (upd H p (.lst vs)) B p (.lst ts) from ⟨vs, upd_same, r⟩)) rfl (h p (S.fresh hp))
  | false =>
    have h : R (.lst ts) μ := h
    have e := le_upd (o := HO.lst vs) (S.freshB hp)
    exact k _ (.lst ts) _ _ _ e (S.laid hp) ⟨p, vs, rfl, upd_same, r.mono e⟩ h
theorem newT_ok {vs : List V} {ts : List T} (S : St K L Φ H B μ) (r : Trs K B vs ts) (h : R (.tup ts) μ) (k : Post K L Φ B R Q) {p : Addr} (hp : H p = none) : Q (.ref p) (upd H p (.tup vs)) := by
  have e := le_upd (o := HO.tup vs) (S.freshB hp)
  exact k _ (.tup ts) _ _ _ e (S.laid hp) ⟨p, vs, rfl, .of upd_same, r.mono e⟩ h
end
end Rh

namespace Rh
open PySem PySem.Spec PyProof.Rows L2

/-! ## 5. Operations on trees -/
/-- what a tree is as data -/
def dat (μ : Sto) : Nat → T → Option PyData
  | 0, _ => none
  | _ + 1, .non => some .none
  | _ + 1, .bl b => some (.bool b)
  | _ + 1, .int i => some (.int i)
  | _ + 1, .str s => some (.str s)
  | n + 1, .tup ts => (ts.mapM (dat μ n)).map .tuple
  | n + 1, .lst ts => (ts.mapM (dat μ n)).map .list
  | n + 1, .scr ts => (ts.mapM (dat μ n)).map .list
  | n + 1, .own p => match μ p with
    | some (.lst ts) => (ts.mapM (dat μ n)).map .list
    | _ => none
def onD (μ : Sto) (x : T) (k : PyData → Prop) : Prop := ∃ d, dat μ 6 x = some d ∧ SeqAt.shaped d = true ∧ k d
def onS (μ : Sto) (x : T) (k : List T → Prop) : Prop := ∃ ts, slst μ x = some ts ∧ k ts
def onL (μ : Sto) (x : T) (k : List T → Prop) : Prop := ∃ ts, vlst μ x = some ts ∧ k ts
def MulOk (i j : Int) : Prop := CMul i j ∨ CMulW i j
def tAdd (own : Bool) (x y : T) (μ : Sto) (R : RP) : Prop :=
  match x, y with
  | .int i, .int j => R (.int (i + j)) μ
  | .str a, .str b => a.length + b.length ≤ sizeLine ∧ R (.str (a ++ b)) μ
  | .tup xs, .tup ys => xs ≠ [] ∧ ys ≠ [] ∧ xs.length + ys.length ≤ sizeLine ∧ R (.tup (xs ++ ys)) μ
  | x, y => onS μ x fun xs => onS μ y fun ys => xs.length + ys.length ≤ sizeLine ∧ newL own (xs ++ ys) μ R
def tMulO (own : Bool) (x y : T) (μ : Sto) (R : RP) : Prop :=
  match x, y with
  | .int i, .int j => MulOk i j ∧ R (.int (i * j)) μ
  | .str x, .int k => 0 ≤ k ∧ k < 16777216 ∧ x.length * k.toNat ≤ sizeLine ∧ R (.str (Txt.mul x k)) μ
  | x, .int k => onS μ x fun xs => k < 2 ^ 62 ∧ -(2 ^ 62) ≤ k ∧ xs.length * k.toNat ≤ sizeLine ∧ newL own (List.replicate k.toNat xs).flatten μ R
  | _, _ => False
def tBin (op : Operator) (own : Bool) (x y : T) (μ : Sto) (R : RP) : Prop :=
  match op with
  | .Add => tAdd own x y μ R
  | .Sub => ∃ i j, x = .int i ∧ y = .int j ∧ R (.int (i - j)) μ
  | .Mult => tMulO own x y μ R
  | .FloorDiv => ∃ i j, x = .int i ∧ y = .int j ∧ CDivW i j ∧ R (.int (i / j)) μ
  | .Mod => ∃ i j, x = .int i ∧ y = .int j ∧ 0 < j ∧ R (.int (i % j)) μ
  | _ => False
def scalT : T → T → Option Bool
  | .non, .non => some true | .non, .int _ => some false | .int _, .non => some false | .non, .bl _ => some false | .bl _, .non => some false | .non, .str _ => some false | .str _, .non => some false
  | .int i, .int j => some (decide (i = j)) | .bl a, .bl b => some (decide (a = b)) | .str a, .str b => some (decide (a = b))
  | .int _, .str _ => some false | .str _, .int _ => some false | .bl _, .str _ => some false | .str _, .bl _ => some false
  | _, _ => none
def tEq (neg : Bool) (x y : T) (μ : Sto) (R : RP) : Prop :=
  match scalT x y with
  | some b => R (.bl (if neg then !b else b)) μ
  | none => onD μ x fun d => onD μ y fun e => R (.bl (if neg then !PyData.eqv d e else PyData.eqv d e)) μ
def strIn (a b : Str) : Bool := !(Builtin.Str.occurrences b a 0 b.length 1).isEmpty
theorem strIn_sign (c : Nat) (z : Str) : strIn ⟨#[c]⟩ z = decide (c ∈ z.cps.toList) := PySem.StrLaws.found_one z c
def valT (kvs : List (Key × T)) (k : Key) : Option T := (kvs.find? fun kv => decide (kv.1 = k)).map (·.2)
def putT (kvs : List (Key × T)) (k : Key) (v : T) : List (Key × T) := if (kvs.any fun kv => decide (kv.1 = k)) = true then kvs.map fun kv => if kv.1 = k then (kv.1, v) else kv else kvs ++ [(k, v)]
def keyT : T → Option Key
  | .int i => some (.inl i)
  | .str s => some (.inr s)
  | _ => none
/-- a dict -/
def onK (μ : Sto) (x : T) (k : List (Key × T) → Addr → Prop) : Prop := ∃ p kvs, x = .own p ∧ μ p = some (.dict kvs) ∧ k kvs p
def flatT : T → Bool
  | .non => true | .bl _ => true | .int _ => true | .str _ => true | _ => false
def eqT : T → T → Bool
  | .non, .non => true
  | .bl a, .bl b => a == b
  | .bl a, .int b => (if a then 1 else 0) == b
  | .int a, .bl b => a == (if b then 1 else 0)
  | .int a, .int b => a == b
  | .str a, .str b => a == b
  | _, _ => false
def isDict (μ : Sto) : T → Bool
  | .own p => match μ p with
    | some (.dict _) => true
    | _ => false
  | _ => false
def tIn (neg : Bool) (x y : T) (μ : Sto) (R : RP) : Prop :=
  match y with
  | .str b => ∃ a, x = .str a ∧ R (.bl (if neg then !strIn a b else strIn a b)) μ
  | .tup ts => flatT x = true ∧ ts.all flatT = true ∧ R (.bl (if neg then !(ts.any fun z => eqT z x) else ts.any fun z => eqT z x)) μ
  | y => match isDict μ y with
    | true => onK μ y fun kvs _ => ∃ k, keyT x = some k ∧ R (.bl (if neg then !(valT kvs k).isSome else (valT kvs k).isSome)) μ
    | false => onD μ x fun d => ∃ ds, dat μ 6 y = some (.list ds) ∧ SeqAt.shaped (.list ds) = true ∧ R (.bl (if neg then !(ds.any fun z => PyData.eqv z d) else ds.any fun z => PyData.eqv z d)) μ
def isNon : T → Bool
  | .non => true
  | _ => false
def tCmp (op : CmpOp) (x y : T) (μ : Sto) (R : RP) : Prop :=
  match op with
  | .Lt => ∃ i j, x = .int i ∧ y = .int j ∧ R (.bl (decide (i < j))) μ
  | .LtE => ∃ i j, x = .int i ∧ y = .int j ∧ R (.bl (decide (i ≤ j))) μ
  | .Gt => ∃ i j, x = .int i ∧ y = .int j ∧ R (.bl (decide (j < i))) μ
  | .GtE => ∃ i j, x = .int i ∧ y = .int j ∧ R (.bl (decide (j ≤ i))) μ
  | .Eq => tEq false x y μ R
  | .NotEq => tEq true x y μ R
  | .In => tIn false x y μ R
  | .NotIn => tIn true x y μ R
  | .Is => match y with
    | .bl b => ∃ a, x = .bl a ∧ R (.bl (decide (a = b))) μ
    | y => y = .non ∧ R (.bl (isNon x)) μ
  | .IsNot => y = .non ∧ R (.bl (!isNon x)) μ
def tIdx (x y : T) (μ : Sto) (R : RP) : Prop :=
  match x with
  | .tup ts => ∃ i t, y = .int i ∧ atI ts i = some t ∧ R t μ
  | .str z => ∃ i c, y = .int i ∧ z.length ≤ sizeLine ∧ atI z.cps.toList i = some c ∧ R (.str ⟨#[c]⟩) μ
  | x => match isDict μ x with
    | true => onK μ x fun kvs _ => ∃ k t, keyT y = some k ∧ valT kvs k = some t ∧ R t μ
    | false => onL μ x fun ts => ∃ i t, y = .int i ∧ atI ts i = some t ∧ R t μ
def cutT (xs : List T) (lo hi : Option Int) : List T := (xs.drop (HT.sIx xs.length 0 lo)).take (HT.sIx xs.length xs.length hi - HT.sIx xs.length 0 lo)
def tSlice (own : Bool) (x : T) (lo hi : Option Int) (μ : Sto) (R : RP) : Prop :=
  match x with
  | .str z => z.length ≤ sizeLine ∧ R (.str (cutS z lo hi)) μ
  | .tup ts => ¬ (HT.sIx ts.length 0 lo = 0 ∧ HT.sIx ts.length ts.length hi = ts.length) ∧ R (.tup (cutT ts lo hi)) μ
  | x => onL μ x fun ts => newL own (cutT ts lo hi) μ R
def truT (μ : Sto) (x : T) (k : Bool → Prop) : Prop :=
  match x with
  | .non => k false
  | .bl b => k b
  | .int i => k (i != 0)
  | .str y => y.length ≤ sizeLine ∧ k ((y.length : Int) != 0)
  | .tup ts => k (!ts.isEmpty)
  | x => match isDict μ x with
    | true => onK μ x fun kvs _ => k (!kvs.isEmpty)
    | false => onL μ x fun ts => k (!ts.isEmpty)
def tLen (x : T) (μ : Sto) (R : RP) : Prop :=
  match x with
  | .str y => y.length ≤ sizeLine ∧ R (.int y.length) μ
  | .tup ts => R (.int ts.length) μ
  | x => onL μ x fun ts => R (.int ts.length) μ

section
variable {X : Cx} {L : Lay}
/-- an operation on trees, as one on values -/
def Op2 (K : PySem.W.Frag) (L : Lay) (tb : T → T → Sto → RP → Prop) : R2 := fun x y H Q => ∃ Φ B μ tx ty R, St K L Φ H B μ ∧ Tr K B x tx ∧ Tr K B y ty ∧ tb tx ty μ R ∧ Post K L Φ B R Q
theorem Vals.refl_dummy : True := trivial
mutual
theorem dat_ok {K : PySem.W.Frag} {Φ H B : Hp} {μ : Sto} (S : St K L Φ H B μ) : ∀ (n : Nat) (t : T) (v : V) (d : PyData), dat μ n t = some d → Tr K B v t → Dp K H v d
  | 0, _, _, _, h, _ => by simp [dat] at h
  | _ + 1, .non, v, d, h, r => by simp [dat] at h; subst h; cases (show v = .non from r); exact .non
  | _ + 1, .bl b, v, d, h, r => by simp [dat] at h; subst h; cases (show v = .bl b from r); exact .bl b
  | _ + 1, .int i, v, d, h, r => by simp [dat] at h; subst h; cases (show v = .int i from r); exact .int i
  | _ + 1, .str s, v, d, h, r => by simp [dat] at h; subst h; cases (show v = .str s from r); exact .str s
  | n + 1, .tup ts, v, d, h, r => by
    simp only [dat, Option.map_eq_some_iff] at h
    obtain ⟨ds, h1, rfl⟩ := h
    obtain ⟨a, vs, rfl, h2, h3⟩ := vtup_ok S r rfl
    exact .tup h2 (dats_ok S n ts vs ds h1 h3)
  | n + 1, .lst ts, v, d, h, r => by
    simp only [dat, Option.map_eq_some_iff] at h
    obtain ⟨ds, h1, rfl⟩ := h
    obtain ⟨a, vs, rfl, h2, h3⟩ := vlst_ok (μ := μ) S r rfl
    exact .lst h2 (dats_ok S n ts vs ds h1 h3)
  | n + 1, .scr ts, v, d, h, r => by
    simp only [dat, Option.map_eq_some_iff] at h
    obtain ⟨ds, h1, rfl⟩ := h
    obtain ⟨a, vs, rfl, h2, h3⟩ := vlst_ok (μ := μ) S r rfl
    exact .lst h2 (dats_ok S n ts vs ds h1 h3)
  | n + 1, .own p, v, d, h, r => by
    unfold dat at h
    split at h
    · rename_i ts e
      rw [Option.map_eq_some_iff] at h
      obtain ⟨ds, h1, rfl⟩ := h
      obtain ⟨vs, h2, h3⟩ := S.mem e
      cases (show v = .ref p from r)
      exact .lst (.of h2) (dats_ok S n ts vs ds h1 h3)
    · cases h
theorem dats_ok {K : PySem.W.Frag} {Φ H B : Hp} {μ : Sto} (S : St K L Φ H B μ) : ∀ (n : Nat) (ts : List T) (vs : List V) (ds : List PyData), ts.mapM (dat μ n) = some ds → Trs K B vs ts → DpAll K H vs ds
  | n, [], vs, ds, h, r => by
    cases (show vs = [] from r)
    simp at h
    subst h
    exact .nil
  | n, t :: ts, vs, ds, h, r => by
    obtain ⟨v, rs, rfl, r1, r2⟩ := r
    simp only [List.mapM_cons, Option.bind_eq_bind, Option.bind_eq_some_iff] at h
    obtain ⟨d, h1, es, h2, h3⟩ := h
    cases h3
    exact .cons (dat_ok S n t v d h1 r1) (dats_ok S n ts rs es h2 r2)
end
theorem onS_ok {K : PySem.W.Frag} {Φ H B : Hp} {μ : Sto} {x : T} {v : V} {k : List T → Prop} (S : St K L Φ H B μ) (r : Tr K B v x) (h : onS μ x k) : ∃ a vs ts, v = .ref a ∧ H a = some (.lst vs) ∧ Trs K B vs ts ∧ k ts :=
  let ⟨ts, e, q⟩ := h
  let ⟨a, vs, h1, h2, h3⟩ := slst_ok S r e
  ⟨a, vs, ts, h1, h2, h3, q⟩
theorem onL_ok {K : PySem.W.Frag} {Φ H B : Hp} {μ : Sto} {x : T} {v : V} {k : List T → Prop} (S : St K L Φ H B μ) (r : Tr K B v x) (h : onL μ x k) : ∃ a vs ts, v = .ref a ∧ SqL K H a vs ∧ Trs K B vs ts ∧ k ts :=
  let ⟨ts, e, q⟩ := h
  let ⟨a, vs, h1, h2, h3⟩ := vlst_ok S r e
  ⟨a, vs, ts, h1, h2, h3, q⟩
theorem add_ok (own : Bool) : OpR X (binaryOp .Add) (Op2 X.K L (tAdd own)) := by
  intro pins s σ H x y v u Q I rx ry ⟨Φ, B, μ, tx, ty, R, S, r1, r2, h, k⟩
  unfold tAdd at h
  split at h
  · cases (show x = .int _ from r1); cases (show y = .int _ from r2)
    exact op_add pins s σ H _ _ v u Q I rx ry ⟨_, _, rfl, rfl, k.here S (show Tr X.K B (.int _) (.int _) from rfl) h⟩
  · cases (show x = .str _ from r1); cases (show y = .str _ from r2)
    exact op_add_str pins s σ H _ _ v u Q I rx ry ⟨_, _, rfl, rfl, h.1, k.here S (show Tr X.K B (.str _) (.str _) from rfl) h.2⟩
  · rename_i xs ys
    obtain ⟨a, vs, rfl, h1, h2⟩ := vtup_ok S r1 rfl
    obtain ⟨b, ws, rfl, g1, g2⟩ := vtup_ok S r2 rfl
    obtain ⟨n1, n2, hz, h⟩ := h
    have e1 := h2.length
    have e2 := g2.length
    have m1 : vs ≠ [] := fun z => n1 (List.length_eq_zero_iff.mp (by rw [← e1, z]; rfl))
    have m2 : ws ≠ [] := fun z => n2 (List.length_eq_zero_iff.mp (by rw [← e2, z]; rfl))
    exact op_catT pins s σ H _ _ v u Q I rx ry ⟨a, b, vs, ws, rfl, rfl, h1, g1, m1, by omega, fun z => absurd z m2, fun _ p hp => newT_ok S (h2.append g2) h k hp⟩
  · obtain ⟨a, vs, xs, rfl, h1, h2, h⟩ := onS_ok S r1 h
    obtain ⟨b, ws, ys, rfl, g1, g2, hz, h⟩ := onS_ok S r2 h
    have e1 := h2.length
    have e2 := g2.length
    exact op_cat pins s σ H _ _ v u Q I rx ry ⟨a, b, vs, ws, rfl, rfl, h1, g1, by omega, fun p hp => newL_ok S (h2.append g2) h k hp⟩
theorem mul_ok (own : Bool) : OpR X (binaryOp .Mult) (Op2 X.K L (tMulO own)) := by
  intro pins s σ H x y v u Q I rx ry ⟨Φ, B, μ, tx, ty, R, S, r1, r2, h, k⟩
  unfold tMulO at h
  split at h
  · cases (show x = .int _ from r1); cases (show y = .int _ from r2)
    obtain ⟨hm, h⟩ := h
    rcases hm with hm | hm
    · exact op_mul pins s σ H _ _ v u Q I rx ry ⟨_, _, rfl, rfl, hm, k.here S (show Tr X.K B (.int _) (.int _) from rfl) h⟩
    · exact op_mulW pins s σ H _ _ v u Q I rx ry ⟨_, _, rfl, rfl, hm, k.here S (show Tr X.K B (.int _) (.int _) from rfl) h⟩
  · rename_i z n
    cases (show x = .str _ from r1); cases (show y = .int _ from r2)
    obtain ⟨h0, h1, hz, h⟩ := h
    obtain ⟨t, rfl⟩ := rx
    obtain ⟨t', rfl⟩ := ry
    have q := k.here S (show Tr X.K B (.str _) (.str _) from rfl) h
    refine SB.mul ⟨?_, fun hn _ => ?_, fun hn _ => ?_⟩ fun t' tk => ⟨.str (Txt.mul z n), H, I.tok _, ⟨_, rfl⟩, q⟩
    · rw [Bool.or_eq_false_iff, decide_eq_false_iff_not, decide_eq_false_iff_not]
      omega
    · have hz2 : (z.length : Int) * n ≤ 2 ^ 63 - 1 := by
        have e : n = (n.toNat : Int) := by omega
        rw [e, ← Int.natCast_mul]
        have : sizeLine ≤ 16777216 := by decide
        omega
      have := (Int.le_ediv_iff_mul_le (show 0 < n by omega)).mpr hz2
      omega
    · show decide (_ > sizeLine) = false
      exact decide_eq_false (by omega)
  · cases (show y = .int _ from r2)
    obtain ⟨a, vs, xs, rfl, h1, h2, hk1, hk2, hz, h⟩ := onS_ok S r1 h
    have e1 := h2.length
    exact op_rep pins s σ H _ _ v u Q I rx ry ⟨a, _, vs, rfl, rfl, h1, by omega, by omega, by rw [e1]; exact hz, fun p hp => newL_ok S (h2.rep _) h k hp⟩
  · exact h.elim
theorem bin_ok (op : Operator) (own : Bool) : OpR X (binaryOp op) (Op2 X.K L (tBin op own)) := by
  intro pins s σ H x y v u Q I rx ry ⟨Φ, B, μ, tx, ty, R, S, r1, r2, h, k⟩
  cases op with
  | Add => exact add_ok own pins s σ H x y v u Q I rx ry ⟨Φ, B, μ, tx, ty, R, S, r1, r2, h, k⟩
  | Mult => exact mul_ok own pins s σ H x y v u Q I rx ry ⟨Φ, B, μ, tx, ty, R, S, r1, r2, h, k⟩
  | Sub =>
    obtain ⟨i, j, rfl, rfl, h⟩ := h
    cases (show x = .int _ from r1); cases (show y = .int _ from r2)
    exact op_sub pins s σ H _ _ v u Q I rx ry ⟨_, _, rfl, rfl, k.here S (show Tr X.K B (.int _) (.int _) from rfl) h⟩
  | FloorDiv =>
    obtain ⟨i, j, rfl, rfl, hc, h⟩ := h
    cases (show x = .int _ from r1); cases (show y = .int _ from r2)
    exact op_fdivW pins s σ H _ _ v u Q I rx ry ⟨_, _, rfl, rfl, hc, k.here S (show Tr X.K B (.int _) (.int _) from rfl) h⟩
  | Mod =>
    obtain ⟨i, j, rfl, rfl, hc, h⟩ := h
    cases (show x = .int _ from r1); cases (show y = .int _ from r2)
    exact op_mod pins s σ H _ _ v u Q I rx ry ⟨_, _, rfl, rfl, hc, k.here S (show Tr X.K B (.int _) (.int _) from rfl) h⟩
  | _ => exact (show False from h).elim
theorem scal_ok {K : PySem.W.Frag} {B : Hp} {x y : V} : ∀ {tx ty : T} {b : Bool}, Tr K B x tx → Tr K B y ty → scalT tx ty = some b → scal x y = true ∧ decide (x = y) = b := by
  intro tx ty b r1 r2 h
  unfold scalT at h
  split at h
  all_goals first
    | (cases h; done)
    | (injection h with h; subst h; obtain rfl := r1; obtain rfl := r2; exact ⟨rfl, by simp⟩)
theorem eq_ok (hu : X.A.units + 64 < cLine) : OpR X (compareOp .Eq) (Op2 X.K L (tEq false)) := by
  intro pins s σ H x y v u Q I rx ry ⟨Φ, B, μ, tx, ty, R, S, r1, r2, h, k⟩
  unfold tEq at h
  split at h
  · rename_i b e
    obtain ⟨h1, h2⟩ := scal_ok r1 r2 e
    exact op_eq pins s σ H x y v u Q I rx ry ⟨h1, by rw [h2]; exact k.here S (show Tr X.K B (.bl b) (.bl b) from rfl) h⟩
  · obtain ⟨d, e1, s1, e, e2, s2, h⟩ := h
    exact op_eqD hu pins s σ H x y v u Q I rx ry ⟨d, e, dat_ok S _ _ _ _ e1 r1, dat_ok S _ _ _ _ e2 r2, s1, s2, k.here S (show Tr X.K B (.bl _) (.bl _) from rfl) h⟩
theorem ne_ok (hu : X.A.units + 64 < cLine) : OpR X (compareOp .NotEq) (Op2 X.K L (tEq true)) := by
  intro pins s σ H x y v u Q I rx ry ⟨Φ, B, μ, tx, ty, R, S, r1, r2, h, k⟩
  unfold tEq at h
  split at h
  · rename_i b e
    obtain ⟨h1, h2⟩ := scal_ok r1 r2 e
    exact op_ne pins s σ H x y v u Q I rx ry ⟨h1, by rw [h2]; exact k.here S (show Tr X.K B (.bl _) (.bl _) from rfl) h⟩
  · obtain ⟨d, e1, s1, e, e2, s2, h⟩ := h
    exact op_neD hu pins s σ H x y v u Q I rx ry ⟨d, e, dat_ok S _ _ _ _ e1 r1, dat_ok S _ _ _ _ e2 r2, s1, s2, k.here S (show Tr X.K B (.bl _) (.bl _) from rfl) h⟩
end
end Rh

namespace Rh
open PySem PySem.Spec PyProof.Rows L2
section
variable {K : PySem.W.Frag} {B B' H H' : Hp} {μ : Sto} {L : Lay}
theorem KTs.val {a : List (Key × V)} {b : List (Key × T)} (r : KTs K B a b) (k : Key) : ∀ {t : T}, valT b k = some t → ∃ v, valV a k = some v ∧ Tr K B v t := by
  induction r with
  | nil => intro t h; cases h
  | @cons p q l m h hs ih =>
    intro t e
    obtain ⟨h1, h2⟩ := h
    by_cases z : q.1 = k
    · have e' : valT (q :: m) k = some q.2 := by simp [valT, List.find?_cons, z]
      rw [e'] at e
      cases e
      exact ⟨p.2, valV_pos (h1.trans z), h2⟩
    · have e' : valT (q :: m) k = valT m k := by simp [valT, List.find?_cons, z]
      rw [e'] at e
      obtain ⟨v, g1, g2⟩ := ih e
      exact ⟨v, by rw [valV_neg (fun w => z (h1.symm.trans w))]; exact g1, g2⟩
theorem KTs.some {a : List (Key × V)} {b : List (Key × T)} (r : KTs K B a b) (k : Key) : (valV a k).isSome = (valT b k).isSome := by
  induction r with
  | nil => rfl
  | @cons p q l m h hs ih =>
    obtain ⟨h1, h2⟩ := h
    by_cases z : q.1 = k
    · rw [valV_pos (h1.trans z)]
      simp [valT, List.find?_cons, z]
    · rw [valV_neg (fun w => z (h1.symm.trans w)), ih]
      simp [valT, List.find?_cons, z]
theorem KTs.anyK {a : List (Key × V)} {b : List (Key × T)} (r : KTs K B a b) (k : Key) : (a.any fun kv => decide (kv.1 = k)) = (b.any fun kv => decide (kv.1 = k)) := by
  induction r with
  | nil => rfl
  | @cons p q l m h hs ih => simp only [List.any_cons, ih, h.1]
theorem Paired.snoc {α β : Type} {G : α → β → Prop} : ∀ {l : List α} {m : List β} {a : α} {b : β}, Paired G l m → G a b → Paired G (l ++ [a]) (m ++ [b])
  | _, _, _, _, .nil, g => .cons g .nil
  | _, _, _, _, .cons h t, g => .cons h (Paired.snoc t g)
theorem KTs.put {a : List (Key × V)} {b : List (Key × T)} (r : KTs K B a b) (k : Key) {v : V} {t : T} (h : Tr K B v t) : KTs K B (putK a k v) (putT b k t) := by
  have e := r.anyK k
  unfold putT putK
  rw [← e]
  split
  · rename_i hh
    clear e hh
    induction r with
    | nil => exact .nil
    | @cons p q l m g gs ih =>
      refine .cons ?_ (ih)
      dsimp only
      by_cases z : q.1 = k
      · rw [if_pos (g.1.trans z), if_pos z]
        exact ⟨g.1, h⟩
      · rw [if_neg (fun w => z (g.1.symm.trans w)), if_neg z]
        exact g
  · exact Paired.snoc r ⟨rfl, h⟩
theorem KTs.length {a : List (Key × V)} {b : List (Key × T)} (r : KTs K B a b) : a.length = b.length := Paired.length r
theorem KTs.empty {a : List (Key × V)} {b : List (Key × T)} (r : KTs K B a b) : a.isEmpty = b.isEmpty := by cases r <;> rfl
theorem keyT_ok {t : T} {v : V} {k : Key} (r : Tr K B v t) (h : keyT t = some k) : v = kV k := by
  cases t with
  | int i => cases h; exact r
  | str s => cases h; exact r
  | _ => cases h
theorem Trs.flat : ∀ {ts : List T} {vs : List V}, Trs K B vs ts → ts.all flatT = true → vs.all flatV = true
  | [], _, h, _ => by cases h; rfl
  | t :: ts, _, ⟨v, r, e, h, hs⟩, f => by
    subst e
    simp only [List.all_cons, Bool.and_eq_true] at f ⊢
    refine ⟨?_, Trs.flat hs f.2⟩
    cases t with
    | non => cases (show v = V.non from h); rfl
    | bl b => cases (show v = V.bl b from h); rfl
    | int b => cases (show v = V.int b from h); rfl
    | str b => cases (show v = V.str b from h); rfl
    | _ => exact absurd f.1 (by simp [flatT])
theorem flat_one {t : T} {v : V} (h : Tr K B v t) (f : flatT t = true) : flatV v = true := by
  have := Trs.flat (ts := [t]) (vs := [v]) ⟨v, [], rfl, h, rfl⟩ (by simp [f])
  simpa using this
theorem eqT_ok {s t : T} {x v : V} (h : Tr K B x s) (h' : Tr K B v t) (f : flatT s = true) (f' : flatT t = true) : eqV x v = eqT s t := by
  cases s with
  | non => cases (show x = V.non from h); cases t with
    | non => cases (show v = V.non from h'); rfl
    | bl b => cases (show v = V.bl b from h'); rfl
    | int b => cases (show v = V.int b from h'); rfl
    | str b => cases (show v = V.str b from h'); rfl
    | _ => exact absurd f' (by simp [flatT])
  | bl a => cases (show x = V.bl a from h); cases t with
    | non => cases (show v = V.non from h'); rfl
    | bl b => cases (show v = V.bl b from h'); rfl
    | int b => cases (show v = V.int b from h'); rfl
    | str b => cases (show v = V.str b from h'); rfl
    | _ => exact absurd f' (by simp [flatT])
  | int a => cases (show x = V.int a from h); cases t with
    | non => cases (show v = V.non from h'); rfl
    | bl b => cases (show v = V.bl b from h'); rfl
    | int b => cases (show v = V.int b from h'); rfl
    | str b => cases (show v = V.str b from h'); rfl
    | _ => exact absurd f' (by simp [flatT])
  | str a => cases (show x = V.str a from h); cases t with
    | non => cases (show v = V.non from h'); rfl
    | bl b => cases (show v = V.bl b from h'); rfl
    | int b => cases (show v = V.int b from h'); rfl
    | str b => cases (show v = V.str b from h'); rfl
    | _ => exact absurd f' (by simp [flatT])
  | _ => exact absurd f (by simp [flatT])
theorem anyT_ok {s : T} {x : V} (h : Tr K B x s) (f : flatT s = true) : ∀ {ts : List T} {vs : List V}, Trs K B vs ts → ts.all flatT = true → inV x vs = ts.any fun z => eqT z s
  | [], _, e, _ => by cases e; rfl
  | t :: ts, _, ⟨v, r, e, h1, hs⟩, g => by
    subst e
    simp only [List.all_cons, Bool.and_eq_true] at g
    unfold inV
    rw [List.any_cons, List.any_cons, eqT_ok h1 h g.1 f]
    congr 1
    exact anyT_ok h f hs g.2
end
section
variable {X : Cx} {L : Lay}
theorem isDict_of {μ : Sto} {x : T} {k : List (Key × T) → Addr → Prop} (h : onK μ x k) : ∃ p kvs, x = .own p ∧ μ p = some (.dict kvs) ∧ k kvs p := h
theorem in_ok (hu : X.A.units + 65 < cLine) : OpR X (compareOp .In) (Op2 X.K L (tIn false)) := by
  intro pins s σ H x y v u Q I rx ry ⟨Φ, B, μ, tx, ty, R, S, r1, r2, h, k⟩
  unfold tIn at h
  split at h
  · obtain ⟨a, rfl, h⟩ := h
    obtain rfl := r1
    obtain rfl := r2
    exact op_in_str pins s σ H _ _ v u Q I rx ry ⟨_, _, rfl, rfl, k.here S (show Tr X.K B (.bl _) (.bl _) from rfl) h⟩
  · rename_i ts
    obtain ⟨a, vs, rfl, h1, h2⟩ := vtup_ok S r2 rfl
    obtain ⟨f1, f2, h⟩ := h
    refine op_in_seq pins s σ H _ _ v u Q I rx ry ⟨a, vs, rfl, .inr h1, flat_one r1 f1, h2.flat f2, ?_⟩
    rw [if_neg Bool.false_ne_true, anyT_ok r1 f1 h2 f2]
    exact k.here S (show Tr X.K B (.bl _) (.bl _) from rfl) h
  · split at h
    · obtain ⟨p, kvs, rfl, e, kk, e2, h⟩ := h
      obtain ⟨ks, g1, g2⟩ := S.memD e
      obtain rfl := r2
      have ey := keyT_ok r1 e2
      subst ey
      cases (show u = Value.ref p from ry)
      refine d_in (by omega) I (DGet.k (k := kk) g1) rx fun s' I' => ⟨.bl _, H, I', rfl, ?_⟩
      rw [g2.some]
      exact k.here S (show Tr X.K B (.bl _) (.bl _) from rfl) h
    · obtain ⟨d, e1, s1, ds, e2, s2, h⟩ := h
      exact op_inD hu pins s σ H x y v u Q I rx ry ⟨d, ds, dat_ok S _ _ _ _ e1 r1, dat_ok S _ _ _ _ e2 r2, s1, s2, k.here S (show Tr X.K B (.bl _) (.bl _) from rfl) h⟩
theorem notIn_ok (hu : X.A.units + 65 < cLine) : OpR X (compareOp .NotIn) (Op2 X.K L (tIn true)) := by
  intro pins s σ H x y v u Q I rx ry ⟨Φ, B, μ, tx, ty, R, S, r1, r2, h, k⟩
  unfold tIn at h
  split at h
  · obtain ⟨a, rfl, h⟩ := h
    obtain rfl := r1
    obtain rfl := r2
    exact L2.op_notin_str pins s σ H _ _ v u Q I rx ry ⟨_, _, rfl, rfl, k.here S (show Tr X.K B (.bl _) (.bl _) from rfl) h⟩
  · rename_i ts
    obtain ⟨a, vs, rfl, h1, h2⟩ := vtup_ok S r2 rfl
    obtain ⟨f1, f2, h⟩ := h
    refine op_notIn_seq pins s σ H _ _ v u Q I rx ry ⟨a, vs, rfl, .inr h1, flat_one r1 f1, h2.flat f2, ?_⟩
    rw [if_pos rfl, anyT_ok r1 f1 h2 f2]
    exact k.here S (show Tr X.K B (.bl _) (.bl _) from rfl) h
  · split at h
    · obtain ⟨p, kvs, rfl, e, kk, e2, h⟩ := h
      obtain ⟨ks, g1, g2⟩ := S.memD e
      obtain rfl := r2
      have ey := keyT_ok r1 e2
      subst ey
      cases (show u = Value.ref p from ry)
      refine d_notIn (by omega) I (DGet.k (k := kk) g1) rx fun s' I' => ⟨.bl _, H, I', rfl, ?_⟩
      rw [g2.some]
      exact k.here S (show Tr X.K B (.bl _) (.bl _) from rfl) h
    · obtain ⟨d, e1, s1, ds, e2, s2, h⟩ := h
      exact op_notInD hu pins s σ H x y v u Q I rx ry ⟨d, ds, dat_ok S _ _ _ _ e1 r1, dat_ok S _ _ _ _ e2 r2, s1, s2, k.here S (show Tr X.K B (.bl _) (.bl _) from rfl) h⟩
theorem cmp_ok (hu : X.A.units + 65 < cLine) (op : CmpOp) : OpR X (compareOp op) (Op2 X.K L (tCmp op)) := by
  intro pins s σ H x y v u Q I rx ry ⟨Φ, B, μ, tx, ty, R, S, r1, r2, h, k⟩
  cases op with
  | Eq => exact eq_ok (by omega) pins s σ H x y v u Q I rx ry ⟨Φ, B, μ, tx, ty, R, S, r1, r2, h, k⟩
  | NotEq => exact ne_ok (by omega) pins s σ H x y v u Q I rx ry ⟨Φ, B, μ, tx, ty, R, S, r1, r2, h, k⟩
  | In => exact in_ok hu pins s σ H x y v u Q I rx ry ⟨Φ, B, μ, tx, ty, R, S, r1, r2, h, k⟩
  | NotIn => exact notIn_ok hu pins s σ H x y v u Q I rx ry ⟨Φ, B, μ, tx, ty, R, S, r1, r2, h, k⟩
  | Lt =>
    obtain ⟨i, j, rfl, rfl, h⟩ := h
    obtain rfl := r1
    obtain rfl := r2
    exact op_lt pins s σ H _ _ v u Q I rx ry ⟨_, _, rfl, rfl, k.here S (show Tr X.K B (.bl _) (.bl _) from rfl) h⟩
  | LtE =>
    obtain ⟨i, j, rfl, rfl, h⟩ := h
    obtain rfl := r1
    obtain rfl := r2
    exact op_le pins s σ H _ _ v u Q I rx ry ⟨_, _, rfl, rfl, k.here S (show Tr X.K B (.bl _) (.bl _) from rfl) h⟩
  | Gt =>
    obtain ⟨i, j, rfl, rfl, h⟩ := h
    obtain rfl := r1
    obtain rfl := r2
    exact op_gt pins s σ H _ _ v u Q I rx ry ⟨_, _, rfl, rfl, k.here S (show Tr X.K B (.bl _) (.bl _) from rfl) h⟩
  | GtE =>
    obtain ⟨i, j, rfl, rfl, h⟩ := h
    obtain rfl := r1
    obtain rfl := r2
    exact op_ge pins s σ H _ _ v u Q I rx ry ⟨_, _, rfl, rfl, k.here S (show Tr X.K B (.bl _) (.bl _) from rfl) h⟩
  | Is =>
    cases ty with
    | bl b =>
      obtain ⟨a, rfl, h⟩ := h
      obtain rfl := r1
      obtain rfl := r2
      exact op_isBl pins s σ H _ _ v u Q I rx ry ⟨a, b, rfl, rfl, k.here S (show Tr X.K B (.bl _) (.bl _) from rfl) h⟩
    | non =>
      obtain ⟨_, h⟩ := h
      obtain rfl := r2
      refine op_isN pins s σ H _ _ v u Q I rx ry ⟨rfl, ?_⟩
      have e : decide (x = V.non) = isNon tx := by
        cases tx with
        | non => obtain rfl := r1; rfl
        | bl b => obtain rfl := r1; rfl
        | int b => obtain rfl := r1; rfl
        | str b => obtain rfl := r1; rfl
        | tup ts => obtain ⟨a, vs, rfl, _⟩ := r1; rfl
        | lst ts => obtain ⟨a, vs, rfl, _⟩ := r1; rfl
        | scr ts => obtain ⟨a, vs, rfl, _⟩ := r1; rfl
        | own ts => obtain rfl := r1; rfl
      rw [e]
      exact k.here S (show Tr X.K B (.bl _) (.bl _) from rfl) h
    | _ =>
      obtain ⟨e, _⟩ := h
      cases e
  | IsNot =>
    obtain ⟨rfl, h⟩ := h
    obtain rfl := r2
    refine op_notN pins s σ H _ _ v u Q I rx ry ⟨rfl, ?_⟩
    have e : decide (x = V.non) = isNon tx := by
      cases tx with
      | non => obtain rfl := r1; rfl
      | bl b => obtain rfl := r1; rfl
      | int b => obtain rfl := r1; rfl
      | str b => obtain rfl := r1; rfl
      | tup ts => obtain ⟨a, vs, rfl, _⟩ := r1; rfl
      | lst ts => obtain ⟨a, vs, rfl, _⟩ := r1; rfl
      | scr ts => obtain ⟨a, vs, rfl, _⟩ := r1; rfl
      | own ts => obtain rfl := r1; rfl
    rw [e]
    exact k.here S (show Tr X.K B (.bl _) (.bl _) from rfl) h
theorem Trs.atI {K : PySem.W.Frag} {B : Hp} {ts : List T} {vs : List V} {i : Int} {t : T} (h : Trs K B vs ts) (e : L2.atI ts i = some t) : ∃ v, L2.atI vs i = some v ∧ Tr K B v t := by
  unfold L2.atI at e ⊢
  rw [h.length]
  cases q : ixN ts.length i with
  | none => rw [q] at e; cases e
  | some j =>
    rw [q] at e
    exact h.get (i := j) e
theorem idx_ok (hu : X.A.units + 65 < cLine) : IxR X (Op2 X.K L tIdx) := by
  intro value slice pins s σ H x y v u Q I rx ry ⟨Φ, B, μ, tx, ty, R, S, r1, r2, h, k⟩ hs
  unfold tIdx at h
  split at h
  · obtain ⟨a, vs, rfl, h1, h2⟩ := vtup_ok S r1 rfl
    obtain ⟨i, t, rfl, e, h⟩ := h
    obtain rfl := r2
    obtain ⟨w, ew, rw'⟩ := h2.atI e
    exact ix_tup value slice pins s σ H _ _ v u Q I rx ry ⟨a, vs, i, w, rfl, rfl, h1, ew, k.here S rw' h⟩ hs
  · obtain ⟨i, c, rfl, hz, e, h⟩ := h
    obtain rfl := r1
    obtain rfl := r2
    exact ix_str value slice pins s σ H _ _ v u Q I rx ry ⟨_, i, c, rfl, rfl, hz, e, k.here S (show Tr X.K B (.str _) (.str _) from rfl) h⟩ hs
  · split at h
    · obtain ⟨p, kvs, rfl, e, kk, t, e2, e3, h⟩ := h
      obtain ⟨ks, g1, g2⟩ := S.memD e
      obtain rfl := r1
      have ey := keyT_ok r2 e2
      subst ey
      cases (show v = Value.ref p from rx)
      obtain ⟨w, ew, rw'⟩ := g2.val kk e3
      have G : DGet H p (kV kk) (some w) := by rw [← ew]; exact DGet.k (k := kk) g1
      have hT := dict_typeIs I G
      unfold subscriptTail
      refine wpAny_bind ?_
      rw [getitemInPython_of_ne hT.not_modules]
      refine wpAny_bind (wpAny_specialOf hT PySem.F.slot_dict_getitem.lookup ?_)
      have fin : wpAny (model X.prog X.w) X.A (subscripted slice false (.ref p) u) (fun r s₃ => wpAny (model X.prog X.w) X.A (letTemporaryGo value (.ref p) r >>= fun _ => pure r) (EP X pins σ Q) X.xe s₃) X.xe s := by
        rw [hs]
        exact wpAny_operating (d_getItem (by omega) I G ry fun w' s3 I3 r3 => wpAny_bind (wpAny_letTemporaryGo (wpAny_pure ⟨w, H, I3, r3, k.here S rw' h⟩)))
      first
        | exact wpAny_pure (wpAny_bind fin)
        | exact wpAny_bind (wpAny_pure (wpAny_bind fin))
        | exact wpAny_bind fin
    · obtain ⟨a, vs, ts, rfl, h1, h2, i, t, rfl, e, h⟩ := onL_ok S r1 h
      obtain rfl := r2
      obtain ⟨w, ew, rw'⟩ := h2.atI e
      exact ix_list value slice pins s σ H _ _ v u Q I rx ry ⟨a, vs, i, w, rfl, rfl, h1, ew, k.here S rw' h⟩ hs
def OpSl (K : PySem.W.Frag) (L : Lay) (own : Bool) : V → Option Int → Option Int → Hp → VK → Prop := fun x lo hi H Q => ∃ Φ B μ tx R, St K L Φ H B μ ∧ Tr K B x tx ∧ tSlice own tx lo hi μ R ∧ Post K L Φ B R Q
theorem Trs.cut {K : PySem.W.Frag} {B : Hp} {ts : List T} {vs : List V} (h : Trs K B vs ts) (lo hi : Option Int) : Trs K B (cutV vs lo hi) (cutT ts lo hi) := by
  unfold cutV cutT
  rw [h.length]
  exact (h.drop _).take _
theorem slice_ok (own : Bool) : SlR X (OpSl X.K L own) := by
  intro pins s σ H x v vl vu lo hi sl Q I rx hsl pl pu ⟨Φ, B, μ, tx, R, S, r1, h, k⟩
  unfold tSlice at h
  split at h
  · obtain rfl := r1
    exact sl_str pins s σ H _ v vl vu lo hi sl Q I rx hsl pl pu ⟨_, rfl, h.1, k.here S (show Tr X.K B (.str _) (.str _) from rfl) h.2⟩
  · obtain ⟨a, vs, rfl, h1, h2⟩ := vtup_ok S r1 rfl
    refine sl_tup pins s σ H _ v vl vu lo hi sl Q I rx hsl pl pu ⟨a, vs, rfl, h1, by rw [h2.length]; exact h.1, fun p hp => newT_ok S (h2.cut lo hi) h.2 k hp⟩
  · obtain ⟨a, vs, ts, rfl, h1, h2, h⟩ := onL_ok S r1 h
    exact sl_list pins s σ H _ v vl vu lo hi sl Q I rx hsl pl pu ⟨a, vs, rfl, h1, fun p hp => newL_ok S (h2.cut lo hi) h k hp⟩
theorem Trs.isEmpty {K : PySem.W.Frag} {B : Hp} {ts : List T} {vs : List V} (h : Trs K B vs ts) : vs.isEmpty = ts.isEmpty := by
  have e := h.length
  cases vs <;> cases ts <;> first | rfl | simp at e
theorem tru_okT {K : PySem.W.Frag} {Φ H B : Hp} {μ : Sto} {x : V} {t : T} {k : Bool → Prop} (S : St K L Φ H B μ) (r : Tr K B x t) (h : truT μ t k) : ∃ b, TruV K x H b ∧ k b := by
  unfold truT at h
  split at h
  · obtain rfl := r; exact ⟨false, rfl, h⟩
  · obtain rfl := r; exact ⟨_, rfl, h⟩
  · obtain rfl := r; exact ⟨_, rfl, h⟩
  · obtain rfl := r; exact ⟨_, ⟨h.1, rfl⟩, h.2⟩
  · obtain ⟨a, vs, rfl, h1, h2⟩ := vtup_ok S r rfl
    exact ⟨_, .inr (.inl ⟨vs, h1, rfl⟩), by rw [h2.isEmpty]; exact h⟩
  · split at h
    · obtain ⟨p, kvs, rfl, e, h⟩ := h
      obtain ⟨ks, g1, g2⟩ := S.memD e
      obtain rfl := r
      exact ⟨_, .inr (.inr ⟨ks, g1, rfl⟩), by rw [g2.empty]; exact h⟩
    · obtain ⟨a, vs, ts, rfl, h1, h2, h⟩ := onL_ok S r h
      exact ⟨_, .inl ⟨vs, h1, rfl⟩, by rw [h2.isEmpty]; exact h⟩
/-- operations of one value: functions of one argument -/
def Op1 (K : PySem.W.Frag) (L : Lay) (tb : T → Sto → RP → Prop) : List V → Hp → VK → Prop := fun xs H Q => ∃ x Φ B μ t R, xs = [x] ∧ St K L Φ H B μ ∧ Tr K B x t ∧ tb t μ R ∧ Post K L Φ B R Q
theorem len_ok : CallR X (.builtin "len") (Op1 X.K L tLen) := by
  intro pins s σ H xs us Q I r ⟨x, Φ, B, μ, t, R, e, S, r1, h, k⟩
  subst e
  unfold tLen at h
  split at h
  · obtain rfl := r1
    exact call_len pins s σ H _ us Q I r ⟨_, _, rfl, ⟨h.1, rfl⟩, k.here S (show Tr X.K B (.int _) (.int _) from rfl) h.2⟩
  · obtain ⟨a, vs, rfl, h1, h2⟩ := vtup_ok S r1 rfl
    refine call_len pins s σ H _ us Q I r ⟨_, _, rfl, .inr ⟨vs, h1, rfl⟩, ?_⟩
    rw [h2.length]
    exact k.here S (show Tr X.K B (.int _) (.int _) from rfl) h
  · obtain ⟨a, vs, ts, rfl, h1, h2, h⟩ := onL_ok S r1 h
    refine call_len pins s σ H _ us Q I r ⟨_, _, rfl, .inl ⟨vs, h1, rfl⟩, ?_⟩
    rw [h2.length]
    exact k.here S (show Tr X.K B (.int _) (.int _) from rfl) h
end
end Rh

namespace Rh
open PySem PySem.Spec PyProof.Rows L2

/-! ## 6. Lists of one's own that stand still from now on; what is no longer looked at -/
mutual
inductive View (μ : Sto) (fz : List Addr) : T → T → Prop
  | refl (t : T) : View μ fz t t
  | own {p : Addr} {ts us : List T} : μ p = some (.lst ts) → p ∈ fz → Views μ fz ts us → View μ fz (.own p) (.lst us)
  | tup {ts us : List T} : Views μ fz ts us → View μ fz (.tup ts) (.tup us)
  | lst {ts us : List T} : Views μ fz ts us → View μ fz (.lst ts) (.lst us)
inductive Views (μ : Sto) (fz : List Addr) : List T → List T → Prop
  | nil : Views μ fz [] []
  | cons {t u : T} {ts us : List T} : View μ fz t u → Views μ fz ts us → Views μ fz (t :: ts) (u :: us)
end
theorem Views.refl {μ : Sto} {fz : List Addr} : ∀ ts : List T, Views μ fz ts ts
  | [] => .nil
  | t :: ts => .cons (.refl t) (Views.refl ts)
/-- the store behind it -/
def Left (μ : Sto) (fz : List Addr) (μ' : Sto) : Prop := Sub μ' μ ∧ ∀ p ∈ fz, μ' p = none
/-- slots: seen otherwise, or forgotten -/
inductive Slv (μ : Sto) (fz : List Addr) : Ro → Ro → Prop
  | nil : Slv μ fz [] []
  | keep {t u : T} {ρ ρ' : Ro} : View μ fz t u → Slv μ fz ρ ρ' → Slv μ fz (some t :: ρ) (some u :: ρ')
  | gone {o : Option T} {ρ ρ' : Ro} : Slv μ fz ρ ρ' → Slv μ fz (o :: ρ) (none :: ρ')
theorem Slv.refl {μ : Sto} {fz : List Addr} : ∀ ρ : Ro, Slv μ fz ρ ρ
  | [] => .nil
  | some t :: ρ => .keep (.refl t) (Slv.refl ρ)
  | none :: ρ => .gone (Slv.refl ρ)
def Wk (ρ : Ro) (μ : Sto) (ρ' : Ro) (μ' : Sto) : Prop := ∃ fz, Slv μ fz ρ ρ' ∧ Left μ fz μ'
def WkV (t : T) (μ : Sto) (t' : T) (μ' : Sto) : Prop := ∃ fz, View μ fz t t' ∧ Left μ fz μ'
theorem Left.refl {μ : Sto} : Left μ [] μ := ⟨Sub.refl _, fun _ h => nomatch h⟩
theorem Wk.refl (ρ : Ro) (μ : Sto) : Wk ρ μ ρ μ := ⟨[], .refl ρ, .refl⟩
theorem WkV.refl (t : T) (μ : Sto) : WkV t μ t μ := ⟨[], .refl t, .refl⟩
theorem WkV.drop {t : T} {μ μ' : Sto} (h : Sub μ' μ) : WkV t μ t μ' := ⟨[], .refl t, h, fun _ z => nomatch z⟩
/-- the still part with these lists in it -/
def frz (B H : Hp) (μ : Sto) (fz : List Addr) : Hp := fun b => if b ∈ fz then (match μ b with | some (.lst _) => H b | _ => B b) else B b
section
variable {K : PySem.W.Frag} {L : Lay} {Φ B B' H H' : Hp} {μ μ' : Sto} {fz : List Addr}
theorem frz_le (S : St K L Φ H B μ) : Le B (frz B H μ fz) := fun b o e => by
  unfold frz
  split
  · split
    · rename_i h
      have z := (S.sto b _ h).1
      rw [e] at z
      cases z
    · exact e
  · exact e
theorem frz_at (S : St K L Φ H B μ) {p : Addr} {ts : List T} (e : μ p = some (.lst ts)) (h : p ∈ fz) : ∃ vs, frz B H μ fz p = some (.lst vs) ∧ Trs K (frz B H μ fz) vs ts := by
  obtain ⟨vs, h1, h2⟩ := S.mem e
  refine ⟨vs, ?_, h2.mono (frz_le S)⟩
  unfold frz
  rw [if_pos h, e]
  exact h1
theorem St.freeze (S : St K L Φ H B μ) (l : Left μ fz μ') : St K L Φ H (frz B H μ fz) μ' := by
  refine ⟨fun b o e => ?_, fun p o e => ?_, fun p o e => ?_⟩
  · unfold frz at e
    split at e
    · split at e
      · exact e
      · exact S.sub _ _ e
    · exact S.sub _ _ e
  · have hn : p ∉ fz := fun z => by
      rw [l.2 p z] at e
      cases e
    obtain ⟨h1, h2⟩ := S.sto p o (l.1 p o e)
    refine ⟨?_, h2.mono (frz_le S) rfl⟩
    unfold frz
    rw [if_neg hn]
    exact h1
  · obtain ⟨h1, h2, h3⟩ := S.frm p o e
    refine ⟨h1, ?_, l.1.none h3⟩
    unfold frz
    split
    · rw [h3]
      exact h2
    · exact h2
mutual
theorem View.ok (S : St K L Φ H B μ) : ∀ {t u : T} {v : V}, View μ fz t u → Tr K B v t → Tr K (frz B H μ fz) v u
  | _, _, _, .refl t, r => r.mono (frz_le S)
  | _, _, v, .own (p := p) e h s, r => by
    obtain ⟨vs, h1, h2⟩ := S.mem e
    cases (show v = .ref p from r)
    obtain ⟨vs', g1, g2⟩ := frz_at S e h
    have q : vs' = vs := by
      unfold frz at g1
      rw [if_pos h, e] at g1
      rw [h1] at g1
      cases g1
      rfl
    subst q
    exact ⟨p, vs', rfl, g1, Views.ok S s h2⟩
  | _, _, _, .tup s, ⟨a, vs, e, h1, h2⟩ => ⟨a, vs, e, Le.seqT (frz_le S) h1, Views.ok S s h2⟩
  | _, _, _, .lst s, ⟨a, vs, e, h1, h2⟩ => ⟨a, vs, e, frz_le S _ _ h1, Views.ok S s h2⟩
theorem Views.ok (S : St K L Φ H B μ) : ∀ {ts us : List T} {vs : List V}, Views μ fz ts us → Trs K B vs ts → Trs K (frz B H μ fz) vs us
  | _, _, _, .nil, r => r
  | _, _, _, .cons h s, ⟨v, r, e, h1, h2⟩ => ⟨v, r, e, View.ok S h h1, Views.ok S s h2⟩
end
/-- the slots of a frame -/
def Slots (K : PySem.W.Frag) (B : Hp) (σ : L2.St) (ρ : Ro) : Prop := σ.length = ρ.length ∧ ∀ (i : Nat) (t : T), ρ[i]? = some (some t) → ∃ v, σ[i]? = some (some v) ∧ Tr K B v t
theorem Slots.mono {σ : L2.St} {ρ : Ro} (h : Slots K B σ ρ) (e : Le B B') : Slots K B' σ ρ := ⟨h.1, fun i t q => let ⟨v, a, b⟩ := h.2 i t q; ⟨v, a, b.mono e⟩⟩
theorem Slots.set {σ : L2.St} {ρ : Ro} {v : V} {t : T} (h : Slots K B σ ρ) (i : Nat) (r : Tr K B v t) : Slots K B (σ.set i (some v)) (ρ.set i (some t)) := by
  refine ⟨by rw [List.length_set, List.length_set]; exact h.1, fun j u e => ?_⟩
  by_cases hj : i = j
  · subst hj
    by_cases hl : i < ρ.length
    · rw [List.getElem?_set_self hl] at e
      cases e
      exact ⟨v, List.getElem?_set_self (by rw [h.1]; exact hl), r⟩
    · rw [List.getElem?_eq_none (by rw [List.length_set]; omega)] at e
      cases e
  · rw [List.getElem?_set_ne hj] at e
    obtain ⟨w, a, b⟩ := h.2 j u e
    exact ⟨w, by rw [List.getElem?_set_ne hj]; exact a, b⟩
theorem Slots.wipe1 {σ : L2.St} {ρ : Ro} (h : Slots K B σ ρ) (i : Nat) : Slots K B (σ.set i none) (ρ.set i none) := by
  refine ⟨by rw [List.length_set, List.length_set]; exact h.1, fun j u e => ?_⟩
  by_cases hj : i = j
  · subst hj
    by_cases hl : i < ρ.length
    · rw [List.getElem?_set_self hl] at e
      cases e
    · rw [List.getElem?_eq_none (by rw [List.length_set]; omega)] at e
      cases e
  · rw [List.getElem?_set_ne hj] at e
    obtain ⟨w, a, b⟩ := h.2 j u e
    exact ⟨w, by rw [List.getElem?_set_ne hj]; exact a, b⟩
def wipeT (ρ : Ro) : List Nat → Ro
  | [] => ρ
  | v :: vs => (wipeT ρ vs).set v none
theorem Slots.wipe {σ : L2.St} {ρ : Ro} (h : Slots K B σ ρ) : ∀ vs : List Nat, Slots K B (L2.wipe σ vs) (wipeT ρ vs)
  | [] => h
  | v :: vs => (Slots.wipe h vs).wipe1 v
theorem Slv.ok (S : St K L Φ H B μ) : ∀ {ρ ρ' : Ro} {σ : L2.St}, Slv μ fz ρ ρ' → Slots K B σ ρ → Slots K (frz B H μ fz) σ ρ' := by
  intro ρ ρ' σ s h
  have key : ρ.length = ρ'.length ∧ ∀ (i : Nat) (u : T), ρ'[i]? = some (some u) → ∃ t, ρ[i]? = some (some t) ∧ View μ fz t u := by
    clear h
    induction s with
    | nil => exact ⟨rfl, fun i u e => by simp at e⟩
    | @keep t u ρ ρ' w _ ih =>
      refine ⟨by simp [ih.1], fun i x e => ?_⟩
      cases i with
      | zero =>
        simp at e
        subst e
        exact ⟨t, rfl, w⟩
      | succ i => exact ih.2 i x (by simpa using e)
    | @gone o ρ ρ' _ ih =>
      refine ⟨by simp [ih.1], fun i x e => ?_⟩
      cases i with
      | zero => simp at e
      | succ i => exact ih.2 i x (by simpa using e)
  refine ⟨h.1.trans key.1, fun i u e => ?_⟩
  obtain ⟨t, e1, w⟩ := key.2 i u e
  obtain ⟨v, a, b⟩ := h.2 i t e1
  exact ⟨v, a, w.ok S b⟩
theorem Wk.ok {ρ ρ' : Ro} {σ : L2.St} (w : Wk ρ μ ρ' μ') (S : St K L Φ H B μ) (h : Slots K B σ ρ) : ∃ B', Le B B' ∧ St K L Φ H B' μ' ∧ Slots K B' σ ρ' :=
  let ⟨fz, s, l⟩ := w
  ⟨frz B H μ fz, frz_le S, S.freeze l, s.ok S h⟩
theorem WkV.ok {t t' : T} {v : V} (w : WkV t μ t' μ') (S : St K L Φ H B μ) (h : Tr K B v t) : ∃ B', Le B B' ∧ St K L Φ H B' μ' ∧ Tr K B' v t' :=
  let ⟨fz, s, l⟩ := w
  ⟨frz B H μ fz, frz_le S, S.freeze l, s.ok S h⟩
end

/-! ## 7. Built-in functions and the methods of lists, on trees -/
inductive Bif where
  | len | sum | max2 | min2 | list | tuple | sorted | all | any | str | int | max3 | min3 | max1 | min1
def max3 (i j k : Int) : Int := if (if i < j then j else i) < k then k else (if i < j then j else i)
def min3 (i j k : Int) : Int := if k < (if j < i then j else i) then k else (if j < i then j else i)
def tBif (f : Bif) (own : Bool) (ts : List T) (μ : Sto) (R : RP) : Prop :=
  match f, ts with
  | .len, [x] => tLen x μ R
  | .sum, [x] => onL μ x fun us => ∃ ns : List Int, us = ns.map T.int ∧ R (.int ns.sum) μ
  | .max2, [x, y] => ∃ i j, x = .int i ∧ y = .int j ∧ R (.int (if j > i then j else i)) μ
  | .min2, [x, y] => ∃ i j, x = .int i ∧ y = .int j ∧ R (.int (if j < i then j else i)) μ
  | .max3, [x, y, z] => ∃ i j k, x = .int i ∧ y = .int j ∧ z = .int k ∧ R (.int (max3 i j k)) μ
  | .min3, [x, y, z] => ∃ i j k, x = .int i ∧ y = .int j ∧ z = .int k ∧ R (.int (min3 i j k)) μ
  | .list, [.tup us] => newL own us μ R
  | .list, [x] => onL μ x fun us => newL own us μ R
  | .tuple, [.tup us] => R (.tup us) μ
  | .tuple, [x] => onL μ x fun us => R (.tup us) μ
  | .sorted, [x] => match isDict μ x with
    | true => onK μ x fun kvs _ => ∃ ks : List Int, kvs.map (·.1) = ks.map Sum.inl ∧ ks.length < 64 ∧ ∀ ys : List Int, ys.Perm ks → ys.Pairwise (· ≤ ·) → newL own (ys.map T.int) μ R
    | false => onL μ x fun us => ∃ ns : List Int, us = ns.map T.int ∧ ∀ ys : List Int, ys.Perm ns → ys.Pairwise (· ≤ ·) → newL own (ys.map T.int) μ R
  | .all, [x] => onL μ x fun us => ∃ bs : List Bool, us = bs.map T.bl ∧ R (.bl (bs.all id)) μ
  | .any, [x] => onL μ x fun us => ∃ bs : List Bool, us = bs.map T.bl ∧ R (.bl (bs.any id)) μ
  | .str, [.int i] => i.natAbs.log2 < 1920 ∧ R (.str (toString i)) μ
  | .int, [.int i] => R (.int i) μ
  | .int, [.bl b] => R (.int (if b then 1 else 0)) μ
  | .max1, [x] => onL μ x fun us => ∃ ns : List Int, us = ns.map T.int ∧ 0 < ns.length ∧ ∀ m, m ∈ ns → (∀ y, y ∈ ns → y ≤ m) → R (.int m) μ
  | .min1, [x] => onL μ x fun us => ∃ ns : List Int, us = ns.map T.int ∧ 0 < ns.length ∧ ∀ m, m ∈ ns → (∀ y, y ∈ ns → m ≤ y) → R (.int m) μ
  | _, _ => False
def bifName : Bif → Str
  | .len => "len" | .sum => "sum" | .max2 => "max" | .min2 => "min" | .list => "list" | .tuple => "tuple" | .sorted => "sorted" | .all => "all" | .any => "any" | .str => "str" | .int => "int" | .max3 => "max" | .min3 => "min" | .max1 => "max" | .min1 => "min"
def bifVal : Bif → Value
  | .len => .builtin "len" | .sum => .builtin "sum" | .max2 => .builtin "max" | .min2 => .builtin "min" | .list => .type "list" | .tuple => .type "tuple" | .sorted => .builtin "sorted" | .all => .builtin "all" | .any => .builtin "any"
  | .str => .type "str" | .int => .type "int" | .max3 => .builtin "max" | .min3 => .builtin "min" | .max1 => .builtin "max" | .min1 => .builtin "min"
/-- a function of many arguments, by values -/
def OpN (K : PySem.W.Frag) (L : Lay) (tb : List T → Sto → RP → Prop) : List V → Hp → VK → Prop := fun xs H Q => ∃ Φ B μ ts R, St K L Φ H B μ ∧ Trs K B xs ts ∧ tb ts μ R ∧ Post K L Φ B R Q
section
variable {X : Cx} {L : Lay}
theorem Trs.one {K : PySem.W.Frag} {B : Hp} {vs : List V} {t : T} (h : Trs K B vs [t]) : ∃ v, vs = [v] ∧ Tr K B v t := by
  obtain ⟨v, r, rfl, h1, h2⟩ := h
  cases (show r = [] from h2)
  exact ⟨v, rfl, h1⟩
theorem Trs.two {K : PySem.W.Frag} {B : Hp} {vs : List V} {t u : T} (h : Trs K B vs [t, u]) : ∃ v w, vs = [v, w] ∧ Tr K B v t ∧ Tr K B w u := by
  obtain ⟨v, r, rfl, h1, h2⟩ := h
  obtain ⟨w, rfl, h3⟩ := Trs.one h2
  exact ⟨v, w, rfl, h1, h3⟩
theorem Trs.three {K : PySem.W.Frag} {B : Hp} {vs : List V} {t u w : T} (h : Trs K B vs [t, u, w]) : ∃ v1 v2 v3, vs = [v1, v2, v3] ∧ Tr K B v1 t ∧ Tr K B v2 u ∧ Tr K B v3 w := by
  obtain ⟨v, r, rfl, h1, h2⟩ := h
  obtain ⟨v2, v3, rfl, h3, h4⟩ := Trs.two h2
  exact ⟨v, v2, v3, rfl, h1, h3, h4⟩
theorem bif_ok (hc : X.calm = true) (own : Bool) (f : Bif) : CallR X (bifVal f) (OpN X.K L (tBif f own)) := by
  intro pins s σ H xs us Q I r ⟨Φ, B, μ, ts, R, S, rs, h, k⟩
  unfold tBif at h
  split at h
  · obtain ⟨v, rfl, r1⟩ := rs.one
    exact len_ok pins s σ H _ us Q I r ⟨v, Φ, B, μ, _, R, rfl, S, r1, h, k⟩
  · obtain ⟨v, rfl, r1⟩ := rs.one
    obtain ⟨a, vs, _, rfl, h1, h2, ns, rfl, h⟩ := onL_ok S r1 h
    have e := h2.ints
    subst e
    exact cr_sum hc pins s σ H _ us Q I r ⟨a, ns, rfl, h1, k.here S (show Tr X.K B (.int _) (.int _) from rfl) h⟩
  · obtain ⟨v, w, rfl, r1, r2⟩ := rs.two
    obtain ⟨i, j, rfl, rfl, h⟩ := h
    obtain rfl := r1
    obtain rfl := r2
    exact call_max2 hc pins s σ H _ us Q I r ⟨i, j, rfl, k.here S (show Tr X.K B (.int _) (.int _) from rfl) h⟩
  · obtain ⟨v, w, rfl, r1, r2⟩ := rs.two
    obtain ⟨i, j, rfl, rfl, h⟩ := h
    obtain rfl := r1
    obtain rfl := r2
    exact call_min2 hc pins s σ H _ us Q I r ⟨i, j, rfl, k.here S (show Tr X.K B (.int _) (.int _) from rfl) h⟩
  · obtain ⟨v, v2, v3, rfl, r1, r2, r3⟩ := rs.three
    obtain ⟨i, j, l, rfl, rfl, rfl, h⟩ := h
    obtain rfl := r1
    obtain rfl := r2
    obtain rfl := r3
    refine call_max3Nu hc pins s σ H _ us Q I r ⟨.int i, .int j, .int l, .int (max3 i j l), rfl, ?_, k.here S (show Tr X.K B (.int _) (.int _) from rfl) h⟩
    have e : ∀ a b : Int, nuLt (.int a) (.int b) = some (decide (a < b)) := fun _ _ => rfl
    unfold max3 nuMax3 nuMax2
    rw [e]
    by_cases h1 : i < j
    · simp only [h1, decide_true, Option.map_some, if_true, Option.bind_some, e]
      by_cases h2 : j < l <;> simp [h2]
    · simp only [h1, decide_false, Option.map_some, Bool.false_eq_true, if_false, Option.bind_some, e]
      by_cases h2 : i < l <;> simp [h2]
  · obtain ⟨v, v2, v3, rfl, r1, r2, r3⟩ := rs.three
    obtain ⟨i, j, l, rfl, rfl, rfl, h⟩ := h
    obtain rfl := r1
    obtain rfl := r2
    obtain rfl := r3
    refine call_min3Nu hc pins s σ H _ us Q I r ⟨.int i, .int j, .int l, .int (min3 i j l), rfl, ?_, k.here S (show Tr X.K B (.int _) (.int _) from rfl) h⟩
    have e : ∀ a b : Int, nuLt (.int a) (.int b) = some (decide (a < b)) := fun _ _ => rfl
    unfold min3 nuMin3 nuMin2
    rw [e]
    by_cases h1 : j < i
    · simp only [h1, decide_true, Option.map_some, if_true, Option.bind_some, e]
      by_cases h2 : l < j <;> simp [h2]
    · simp only [h1, decide_false, Option.map_some, Bool.false_eq_true, if_false, Option.bind_some, e]
      by_cases h2 : l < i <;> simp [h2]
  · obtain ⟨v, rfl, r1⟩ := rs.one
    obtain ⟨a, vs, rfl, h1, h2⟩ := vtup_ok S r1 rfl
    exact call_list_of pins s σ H _ us Q I r ⟨a, vs, rfl, .inr h1, fun p hp => newL_ok S h2 h k hp⟩
  · obtain ⟨v, rfl, r1⟩ := rs.one
    obtain ⟨a, vs, ts, rfl, h1, h2, h⟩ := onL_ok S r1 h
    exact call_list_of pins s σ H _ us Q I r ⟨a, vs, rfl, .inl h1, fun p hp => newL_ok S h2 h k hp⟩
  · obtain ⟨v, rfl, r1⟩ := rs.one
    obtain ⟨a, vs, rfl, h1, h2⟩ := vtup_ok S r1 rfl
    exact call_tuple_of pins s σ H _ us Q I r ⟨a, vs, rfl, .inr ⟨h1, k.here S r1 h⟩⟩
  · obtain ⟨v, rfl, r1⟩ := rs.one
    obtain ⟨a, vs, ts, rfl, h1, h2, h⟩ := onL_ok S r1 h
    exact call_tuple_of pins s σ H _ us Q I r ⟨a, vs, rfl, .inl ⟨h1, fun p hp => newT_ok S h2 h k hp⟩⟩
  · obtain ⟨v, rfl, r1⟩ := rs.one
    split at h
    · obtain ⟨p, kvs, rfl, e, ks, e2, h64, h⟩ := h
      obtain ⟨kk, g1, g2⟩ := S.memD e
      obtain rfl := r1
      refine call_sortedDI hc pins s σ H _ us Q I r ⟨p, kk, ks, rfl, .of g1, ?_, h64, fun ys q pm pw hq => newL_ok S (Trs.of_ints ys) (h ys pm pw) k hq⟩
      rw [← e2]
      clear e2 h e g1 r rs
      induction g2 with
      | nil => rfl
      | cons a _ ih => rw [List.map_cons, List.map_cons, ih, a.1]
    · obtain ⟨a, vs, _, rfl, h1, h2, ns, rfl, h⟩ := onL_ok S r1 h
      have e := h2.ints
      subst e
      exact cr_sortedI pins s σ H _ us Q I r ⟨a, ns, rfl, h1, fun ys p pm pw hp => newL_ok S (Trs.of_ints ys) (h ys pm pw) k hp⟩
  · obtain ⟨v, rfl, r1⟩ := rs.one
    obtain ⟨a, vs, _, rfl, h1, h2, bs, rfl, h⟩ := onL_ok S r1 h
    have e := h2.bls
    subst e
    exact cr_all hc pins s σ H _ us Q I r ⟨a, bs, rfl, h1, k.here S (show Tr X.K B (.bl _) (.bl _) from rfl) h⟩
  · obtain ⟨v, rfl, r1⟩ := rs.one
    obtain ⟨a, vs, _, rfl, h1, h2, bs, rfl, h⟩ := onL_ok S r1 h
    have e := h2.bls
    subst e
    exact cr_any hc pins s σ H _ us Q I r ⟨a, bs, rfl, h1, k.here S (show Tr X.K B (.bl _) (.bl _) from rfl) h⟩
  · obtain ⟨v, rfl, r1⟩ := rs.one
    obtain rfl := r1
    exact call_str_int pins s σ H _ us Q I r ⟨_, rfl, h.1, k.here S (show Tr X.K B (.str _) (.str _) from rfl) h.2⟩
  · obtain ⟨v, rfl, r1⟩ := rs.one
    obtain rfl := r1
    exact call_int1 pins s σ H _ us Q I r (.inl ⟨_, rfl, k.here S (show Tr X.K B (.int _) (.int _) from rfl) h⟩)
  · obtain ⟨v, rfl, r1⟩ := rs.one
    obtain rfl := r1
    exact call_int1 pins s σ H _ us Q I r (.inr ⟨_, rfl, k.here S (show Tr X.K B (.int _) (.int _) from rfl) h⟩)
  · obtain ⟨v, rfl, r1⟩ := rs.one
    obtain ⟨a, vs, _, rfl, h1, h2, ns, rfl, hl, h⟩ := onL_ok S r1 h
    have e := h2.ints
    subst e
    exact cr_max hc pins s σ H _ us Q I r ⟨a, ns, rfl, h1, hl, fun m hm hy => k.here S (show Tr X.K B (.int _) (.int _) from rfl) (h m hm hy)⟩
  · obtain ⟨v, rfl, r1⟩ := rs.one
    obtain ⟨a, vs, _, rfl, h1, h2, ns, rfl, hl, h⟩ := onL_ok S r1 h
    have e := h2.ints
    subst e
    exact cr_min hc pins s σ H _ us Q I r ⟨a, ns, rfl, h1, hl, fun m hm hy => k.here S (show Tr X.K B (.int _) (.int _) from rfl) (h m hm hy)⟩
  · exact h.elim
end
inductive Lm where
  | append | pop | popAt | extend | index | insert | remove | count | join | split | partition | startswith
/-- the methods that write -/
def onM (μ : Sto) (x : T) (k : List T → Addr → Prop) : Prop := ∃ p ts, x = .own p ∧ μ p = some (.lst ts) ∧ k ts p
def tLm (m : Lm) (x : T) (as : List T) (μ : Sto) (R : RP) : Prop :=
  match m, as with
  | .append, [y] => onM μ x fun ts p => ts.length < sizeLine ∧ R .non (μ.set p (.lst (ts ++ [y])))
  | .pop, [] => onM μ x fun ts p => ∃ y, ts[ts.length - 1]? = some y ∧ R y (μ.set p (.lst ts.dropLast))
  | .popAt, [.int i] => onM μ x fun ts p => ∃ k y, -(2 ^ 63) ≤ i ∧ i < 2 ^ 63 ∧ seqIndex? i ts.length = some k ∧ ts[k]? = some y ∧ R y (μ.set p (.lst (ts.eraseIdx k)))
  | .extend, [y] => onM μ x fun ts p => onS μ y fun us => ts.length + us.length ≤ sizeLine ∧ R .non (μ.set p (.lst (ts ++ us)))
  | .index, [y] => onL μ x fun ts => ∃ j z, flatT y = true ∧ ts.all flatT = true ∧ ts[j]? = some z ∧ eqT z y = true ∧ (∀ (n : Nat) (z' : T), n < j → ts[n]? = some z' → eqT z' y = false) ∧ R (.int (j : Nat)) μ
  | .insert, [.int i, y] => onM μ x fun ts p => ts.length < sizeLine ∧ 0 ≤ i ∧ i < 2 ^ 63 ∧ R .non (μ.set p (.lst (ts.take i.toNat ++ [y] ++ ts.drop i.toNat)))
  | .count, [.int k] => onL μ x fun ts => ∃ ns : List Int, ts = ns.map T.int ∧ R (.int (ns.count k : Nat)) μ
  | .remove, [.int k] => onM μ x fun ts p => ∃ (ns : List Int) (j : Nat), ts = ns.map T.int ∧ ns[j]? = some k ∧ (∀ m : Nat, m < j → ns[m]? ≠ some k) ∧ R .non (μ.set p (.lst ((ns.eraseIdx j).map T.int)))
  | .join, [y] => ∃ a, ∃ ys : List Str, x = .str a ∧ (vlst μ y = some (ys.map T.str) ∨ y = .tup (ys.map T.str)) ∧ (ys.map (·.length)).sum + ys.length * a.length ≤ 16777216 ∧ R (.str (Txt.join a ys)) μ
  | .split, [.str b] => ∃ a, x = .str a ∧ (b.length == 0) = false ∧ a.length + 2 ≤ sizeLine ∧ R (.lst ((Txt.split a b).map T.str)) μ
  | .partition, [.str b] => ∃ a, x = .str a ∧ (b.length == 0) = false ∧ a.length ≤ sizeLine ∧ R (.tup [.str (Txt.partition a b).1, .str (Txt.partition a b).2.1, .str (Txt.partition a b).2.2]) μ
  | .startswith, [.str b] => ∃ a, x = .str a ∧ R (.bl (Txt.startswith a b)) μ
  | _, _ => False
def lmId : Lm → String
  | .append => "list.append" | .pop => "list.pop" | .popAt => "list.pop" | .extend => "list.extend" | .index => "list.index" | .insert => "list.insert" | .remove => "list.remove" | .count => "list.count" | .join => "str.join" | .split => "str.split" | .partition => "str.partition" | .startswith => "str.startswith"
def lmName : Lm → Str
  | .append => "append" | .pop => "pop" | .popAt => "pop" | .extend => "extend" | .index => "index" | .insert => "insert" | .remove => "remove" | .count => "count" | .join => "join" | .split => "split" | .partition => "partition" | .startswith => "startswith"
def lmTy : Lm → String
  | .join => "str" | .split => "str" | .partition => "str" | .startswith => "str" | _ => "list"
/-- what a method is asked of -/
def rcv (m : Lm) (μ : Sto) (x : T) : Prop :=
  match m with
  | .join => ∃ z, x = .str z
  | .split => ∃ z, x = .str z
  | .partition => ∃ z, x = .str z
  | .startswith => ∃ z, x = .str z
  | _ => ∃ us, vlst μ x = some us
def OpM (K : PySem.W.Frag) (L : Lay) (tb : T → List T → Sto → RP → Prop) : V → List V → Hp → VK → Prop := fun x xs H Q => ∃ Φ B μ t ts R, St K L Φ H B μ ∧ Tr K B x t ∧ Trs K B xs ts ∧ tb t ts μ R ∧ Post K L Φ B R Q
section
variable {X : Cx} {L : Lay}
theorem onM_ok {K : PySem.W.Frag} {Φ H B : Hp} {μ : Sto} {x : T} {v : V} {k : List T → Addr → Prop} (S : St K L Φ H B μ) (r : Tr K B v x) (h : onM μ x k) : ∃ p vs ts, v = .ref p ∧ H p = some (.lst vs) ∧ Trs K B vs ts ∧ k ts p ∧ B p = none ∧ Φ p = none := by
  obtain ⟨p, ts, rfl, e, q⟩ := h
  obtain ⟨vs, h1, h2⟩ := S.mem e
  exact ⟨p, vs, ts, r, h1, h2, q, (S.sto p _ e).1, S.noF e⟩
theorem wr_ok {K : PySem.W.Frag} {Φ H B : Hp} {μ : Sto} {R : RP} {Q : VK} {y : V} {u : T} {p : Addr} {vs : List V} {ts : List T} (S : St K L Φ H B μ) (k : Post K L Φ B R Q) (hB : B p = none) (hF : Φ p = none) (r : Tr K B y u) (rs : Trs K B vs ts) (h : R u (μ.set p (.lst ts))) : Q y (upd H p (.lst vs)) :=
  k _ _ _ B _ (Same.refl _) (S.put hB hF (show ObOk K L (upd H p (.lst vs)) B p (.lst ts) from ⟨vs, upd_same, rs⟩)) r h
theorem lm_ok (m : Lm) : MtR X (lmId m) (OpM X.K L (tLm m)) := by
  intro pins s σ H x xs v us Q I rx rus ⟨Φ, B, μ, t, ts, R, S, r1, rs, h, k⟩
  unfold tLm at h
  split at h
  · obtain ⟨y, rfl, r2⟩ := rs.one
    obtain ⟨p, vs, us', rfl, h1, h2, ⟨hz, h⟩, hB, hF⟩ := onM_ok S r1 h
    have e := h2.length
    exact mt_append pins s σ H _ _ v us Q I rx rus ⟨p, vs, y, rfl, rfl, h1, by omega, wr_ok (u := .non) S k hB hF rfl (h2.append (Trs.cons r2 Trs.nil)) h⟩
  · cases (show xs = [] from rs)
    obtain ⟨p, vs, us', rfl, h1, h2, ⟨y, hy, h⟩, hB, hF⟩ := onM_ok S r1 h
    obtain ⟨w, ew, rw'⟩ := h2.get hy
    exact mt_pop pins s σ H _ _ v us Q I rx rus ⟨p, vs, w, rfl, rfl, h1, by rw [h2.length]; exact ew, wr_ok S k hB hF rw' h2.dropLast h⟩
  · obtain ⟨y, rfl, r2⟩ := rs.one
    obtain rfl := r2
    obtain ⟨p, vs, us', rfl, h1, h2, ⟨j, y, b1, b2, hj, hy, h⟩, hB, hF⟩ := onM_ok S r1 h
    obtain ⟨w, ew, rw'⟩ := h2.get hy
    exact mt_popAt pins s σ H _ _ v us Q I rx rus ⟨p, vs, _, j, w, rfl, rfl, h1, b1, b2, by rw [h2.length]; exact hj, ew, wr_ok S k hB hF rw' (h2.eraseIdx j) h⟩
  · obtain ⟨y, rfl, r2⟩ := rs.one
    obtain ⟨p, vs, us', rfl, h1, h2, h, hB, hF⟩ := onM_ok S r1 h
    obtain ⟨b, ws, us2, rfl, g1, g2, hz, h⟩ := onS_ok S r2 h
    have e := h2.length
    have e2 := g2.length
    exact mt_extend pins s σ H _ _ v us Q I rx rus ⟨p, b, vs, ws, rfl, rfl, h1, g1, by omega, wr_ok (u := .non) S k hB hF rfl (h2.append g2) h⟩
  · obtain ⟨y, rfl, r2⟩ := rs.one
    obtain ⟨a, vs, ts, rfl, h1, h2, j, z, f1, f2, hj, hz, hn, h⟩ := onL_ok S r1 h
    obtain ⟨w, ew, rw'⟩ := h2.get hj
    have fz : flatT z = true := List.all_eq_true.mp f2 z (List.mem_of_getElem? hj)
    refine mt_index pins s σ H _ _ v us Q I rx rus ⟨a, vs, y, j, w, rfl, rfl, h1, flat_one r2 f1, h2.flat f2, ew, by rw [eqT_ok rw' r2 fz f1]; exact hz, fun n z' hn' e => ?_, k.here S (show Tr X.K B (.int _) (.int _) from rfl) h⟩
    have hl : n < ts.length := by
      rw [← h2.length]
      exact (List.getElem?_eq_some_iff.mp e).1
    obtain ⟨w2, e2, r3⟩ := h2.get (List.getElem?_eq_getElem hl)
    rw [e] at e2
    cases e2
    rw [eqT_ok r3 r2 (List.all_eq_true.mp f2 _ (List.getElem_mem hl)) f1]
    exact hn n _ hn' (List.getElem?_eq_getElem hl)
  · obtain ⟨y, w, rfl, r2, r3⟩ := rs.two
    obtain rfl := r2
    obtain ⟨p, vs, us', rfl, h1, h2, ⟨hz, b1, b2, h⟩, hB, hF⟩ := onM_ok S r1 h
    have e := h2.length
    exact mt_insert pins s σ H _ _ v us Q I rx rus ⟨p, vs, _, w, rfl, rfl, h1, by omega, b1, b2, wr_ok (u := .non) S k hB hF rfl (((h2.take _).append (Trs.cons r3 Trs.nil)).append (h2.drop _)) h⟩
  · obtain ⟨y, rfl, r2⟩ := rs.one
    obtain rfl := r2
    obtain ⟨a, vs, ts, rfl, h1, h2, ns, rfl, h⟩ := onL_ok S r1 h
    have e := h2.ints
    subst e
    exact mt_lcount pins s σ H _ _ v us Q I rx rus ⟨a, ns, _, rfl, rfl, h1, k.here S (show Tr X.K B (.int _) (.int _) from rfl) h⟩
  · obtain ⟨y, rfl, r2⟩ := rs.one
    obtain rfl := r2
    obtain ⟨p, vs, us', rfl, h1, h2, ⟨ns, j, rfl, hj, hn, h⟩, hB, hF⟩ := onM_ok S r1 h
    have e := h2.ints
    subst e
    exact mt_remove pins s σ H _ _ v us Q I rx rus ⟨p, ns, _, j, rfl, rfl, h1, hj, hn, wr_ok (u := .non) S k hB hF rfl (Trs.of_ints _) h⟩
  · obtain ⟨y, rfl, r2⟩ := rs.one
    obtain ⟨a, ys, rfl, hy, hz, h⟩ := h
    obtain rfl := r1
    rcases hy with hy | rfl
    · obtain ⟨b, vs, rfl, h1, h2⟩ := vlst_ok S r2 hy
      have e := h2.strs
      subst e
      exact mt_join pins s σ H _ _ v us Q I rx rus ⟨a, b, ys, rfl, rfl, .inl h1, hz, k.here S (show Tr X.K B (.str _) (.str _) from rfl) h⟩
    · obtain ⟨b, vs, rfl, h1, h2⟩ := vtup_ok S r2 rfl
      have e := h2.strs
      subst e
      exact mt_join pins s σ H _ _ v us Q I rx rus ⟨a, b, ys, rfl, rfl, .inr h1, hz, k.here S (show Tr X.K B (.str _) (.str _) from rfl) h⟩
  · obtain ⟨y, rfl, r2⟩ := rs.one
    obtain ⟨a, rfl, hb, hz, h⟩ := h
    obtain rfl := r1
    obtain rfl := r2
    exact mt_split pins s σ H _ _ v us Q I rx rus ⟨a, _, rfl, rfl, hb, hz, fun p hp => newL_ok (own := false) S (Trs.of_strs _) h k hp⟩
  · obtain ⟨y, rfl, r2⟩ := rs.one
    obtain ⟨a, rfl, hb, hz, h⟩ := h
    obtain rfl := r1
    obtain rfl := r2
    exact mt_partition pins s σ H _ _ v us Q I rx rus ⟨a, _, rfl, rfl, hb, hz, fun p hp => newT_ok S (Trs.of_strs [_, _, _]) h k hp⟩
  · obtain ⟨y, rfl, r2⟩ := rs.one
    obtain ⟨a, rfl, h⟩ := h
    obtain rfl := r1
    obtain rfl := r2
    exact mt_startswith pins s σ H _ _ v us Q I rx rus ⟨a, _, rfl, rfl, k.here S (show Tr X.K B (.bl _) (.bl _) from rfl) h⟩
  · exact h.elim
end
end Rh

namespace Rh
open PySem PySem.Spec PyProof.Rows L2

/-! ## 8. The core: expressions by places and numbers, and what they mean on trees -/
inductive Tg where
  | nm (i : Nat) | tup (gs : List Tg)
inductive ItK where
  | val | tupl | strg | rng1 | rng2 | enum | zip | rev
inductive Ex where
  | var (i : Nat) | cint (i : Int) | cstr (s : Str) | cbl (b : Bool) | cnon | glob (k : Nat)
  | bin (op : Operator) (own : Bool) (a b : Ex) | cpow (a b v : Int) | neg (a : Ex)
  | cmp (op : CmpOp) (a b : Ex) | chain (op op' : CmpOp) (a b c : Ex)
  | andor (w : Bool) (es : List Ex) | not (a : Ex) | ife (c a b : Ex)
  | idx (a b : Ex) | slice (own : Bool) (a lo hi : Ex)
  | lst (own : Bool) (es : List Ex) | tup (es : List Ex) | dict (ks vs : List Ex)
  | bif (f : Bif) (own : Bool) (es : List Ex) | isi (ks : List String) (a : Ex)
  | call (f nd : Nat) (es : List Ex) | meth (f nd : Nat) (o : Ex) (es : List Ex) | make (c : Nat) (es : List Ex)
  | fld (c i : Nat) (o : Ex) | lm (m : Lm) (o : Ex) (es : List Ex)
  | comp (own : Bool) (vs : List Nat) (g : Tg) (k : ItK) (its : List Ex) (cond elt : Ex)
  | lrng (own : Bool) (a : Ex) | isx (i h : Nat)
  | nset (a : Ex) | isx2 (i h h' : Nat) | isc (d : Nat) (a : Ex) | chain3 (op op' op2 : CmpOp) (a b c d : Ex) | lrev (own : Bool) (a : Ex)
abbrev TEx := Ro → Sto → XP → RP → Prop
abbrev TTe := Ro → Sto → XP → (Bool → Sto → Prop) → Prop
abbrev TSp := List T → Sto → XP → RP → Prop
structure FnI where
  name : Str
  cls : Option Nat
  lvl : Nat
  np : Nat
  dfl : List Int
structure ClI where
  name : Str
  init : Nat
structure Tab where
  fn : Nat → Option FnI
  cl : Nat → Option ClI
  ex : Nat → Option Str
  con : Nat → Option (Str × T)
  flds : Nat → List Str
  xs : Bool
  xc : Bool
/-- defaults left out -/
def FnI.rest (i : FnI) (nd : Nat) : List Int := i.dfl.drop (i.dfl.length - nd)
def noX : XP := fun _ _ => False
abbrev any : Sto → Prop := fun _ => True

def unp (μ : Sto) : T → Option (List T)
  | .tup ts => some ts
  | t => vlst μ t
mutual
def bindT : Tg → T → Ro → Sto → (Ro → Prop) → Prop
  | .nm i, t, ρ, _, k => k (ρ.set i (some t))
  | .tup gs, t, ρ, μ, k => ∃ ts, unp μ t = some ts ∧ ts.length = gs.length ∧ bindTs gs ts ρ μ k
def bindTs : List Tg → List T → Ro → Sto → (Ro → Prop) → Prop
  | [], _, ρ, _, k => k ρ
  | g :: gs, ts, ρ, μ, k => ∃ t r, ts = t :: r ∧ bindT g t ρ μ fun ρ' => bindTs gs r ρ' μ k
end
def onG (μ : Sto) (t : T) (k : List T → (Sto → Prop) → Prop) : Prop :=
  match t with
  | .lst us => k us any
  | .scr us => k us any
  | .own p => ∃ us, μ p = some (.lst us) ∧ k us fun μ' => μ' p = some (.lst us)
  | _ => False
def signs (z : Str) : List T := z.cps.toList.map fun c => .str ⟨#[c]⟩
def itT (k : ItK) (ts : List T) (μ : Sto) (K : List T → (Sto → Prop) → Prop) : Prop :=
  match k, ts with
  | .strg, [t] => ∃ z, t = .str z ∧ K (signs z) any
  | .tupl, [t] => ∃ us, t = .tup us ∧ K us any
  | .val, [t] => onG μ t K
  | .rng1, [t] => ∃ n, t = .int n ∧ (-(2 ^ 62) ≤ n ∧ n < 2 ^ 62) ∧ K ((List.range n.toNat).map fun i => .int (i : Nat)) any
  | .rng2, [t, u] => ∃ a b, t = .int a ∧ u = .int b ∧ (-(2 ^ 62) ≤ a ∧ a < 2 ^ 62 ∧ -(2 ^ 62) ≤ b ∧ b < 2 ^ 62) ∧ K ((List.range (b - a).toNat).map fun i => .int (a + (i : Nat))) any
  | .enum, [t] => onG μ t fun us gd => K (us.zipIdx.map fun p => .tup [.int (p.2 : Nat), p.1]) gd
  | .zip, [t, u] => onG μ t fun us g1 => onG μ u fun ws g2 => K ((us.zip ws).map fun p => .tup [p.1, p.2]) fun μ' => g1 μ' ∧ g2 μ'
  | .rev, [t] => onG μ t fun us gd => K us.reverse gd
  | _, _ => False
def evs : List (TEx × TTe) → Ro → Sto → XP → (List T → Sto → Prop) → Prop
  | [], _, μ, _, k => k [] μ
  | p :: ps, ρ, μ, F, k => p.1 ρ μ F fun t μ1 => evs ps ρ μ1 F fun ts μ2 => k (t :: ts) μ2
def boV (w : Bool) : List (TEx × TTe) → TEx
  | [], _, _, _, _ => False
  | [p], ρ, μ, F, R => p.1 ρ μ F R
  | p :: ps, ρ, μ, F, R => p.1 ρ μ F fun t μ1 => truT μ1 t fun b => if b = w then boV w ps ρ μ1 F R else R t μ1
def boT (w : Bool) : List (TEx × TTe) → TTe
  | [], _, _, _, _ => False
  | [p], ρ, μ, F, k => p.2 ρ μ F k
  | p :: ps, ρ, μ, F, k => p.2 ρ μ F fun b μ1 => if b = w then boT w ps ρ μ1 F k else k b μ1
def plain (te : TEx) : TEx × TTe := (te, fun ρ μ F k => te ρ μ F fun t μ1 => truT μ1 t fun b => k b μ1)
def cmpd (te : TEx) : TEx × TTe := (te, fun ρ μ F k => te ρ μ F fun t μ1 => ∃ b, t = .bl b ∧ k b μ1)
def isStr (μ : Sto) : T → Option String
  | .non => some "NoneType" | .bl _ => some "bool" | .int _ => some "int" | .str _ => some "str" | .tup _ => some "tuple" | .lst _ => some "list" | .scr _ => none
  | .own p => match μ p with
    | some (.lst _) => some "list"
    | some (.dict _) => some "dict"
    | _ => none
def isT (t k : String) : Bool := t == k || (t == "bool" && k == "int")
def optI (lo : Ex) (t : T) : Option (Option Int) :=
  match lo, t with
  | .cnon, _ => some none
  | _, .int i => some (some i)
  | _, _ => none
/-- a list made item by item -/
def compD (own : Bool) (vs : List Nat) (g : Tg) (cond elt : TEx × TTe) (ρ : Ro) (R : RP) (ts : List T) (gd : Sto → Prop) (μ : Sto) : Prop :=
  ∃ I : List T → List T → Sto → Prop, I [] ts μ ∧ (∀ acc μ2, I acc [] μ2 → gd μ2 ∧ newL own acc μ2 R) ∧
    ∀ acc t r μ2, I acc (t :: r) μ2 → gd μ2 ∧ bindT g t (wipeT ρ vs) μ2 fun ρ' => cond.2 ρ' μ2 noX fun b μ3 =>
      if b = true then elt.1 ρ' μ3 noX fun y μ4 => acc.length < sizeLine ∧ ∃ y' μ5, WkV y μ4 y' μ5 ∧ I (acc ++ [y']) r μ5 else I acc r μ3
section
variable (G : Tab) (Γ : Nat → TSp)
mutual
def den : Ex → TEx × TTe
  | .var i => plain fun ρ μ _ R => ∃ t, ρ[i]? = some (some t) ∧ R t μ
  | .cint i => plain fun _ μ _ R => R (.int i) μ
  | .cstr s => plain fun _ μ _ R => R (.str s) μ
  | .cbl b => plain fun _ μ _ R => R (.bl b) μ
  | .cnon => plain fun _ μ _ R => R .non μ
  | .glob k => plain fun _ μ _ R => ∃ x, G.con k = some x ∧ R x.2 μ
  | .bin op own a b => plain fun ρ μ F R => (den a).1 ρ μ F fun x μ1 => (den b).1 ρ μ1 F fun y μ2 => tBin op own x y μ2 R
  | .cpow _ _ v => plain fun _ μ _ R => R (.int v) μ
  | .neg a => plain fun ρ μ F R => (den a).1 ρ μ F fun x μ1 => ∃ i, x = .int i ∧ R (.int (-i)) μ1
  | .cmp op a b => cmpd fun ρ μ F R => (den a).1 ρ μ F fun x μ1 => (den b).1 ρ μ1 F fun y μ2 => tCmp op x y μ2 R
  | .chain op op' a b c => cmpd fun ρ μ F R => (den a).1 ρ μ F fun x μ1 => (den b).1 ρ μ1 F fun y μ2 => tCmp op x y μ2 fun z μ3 => ∃ k, z = .bl k ∧ if k = true then (den c).1 ρ μ3 F fun w μ4 => tCmp op' y w μ4 R else R (.bl false) μ3
  | .andor w es => let ps := dens es; (boV w ps, boT w ps)
  | .not a => (fun ρ μ F R => (den a).1 ρ μ F fun t μ1 => truT μ1 t fun b => R (.bl (!b)) μ1, fun ρ μ F k => (den a).2 ρ μ F fun b μ1 => k (!b) μ1)
  | .ife c a b => (fun ρ μ F R => (den c).2 ρ μ F fun k μ1 => if k = true then (den a).1 ρ μ1 F R else (den b).1 ρ μ1 F R, fun _ _ _ _ => False)
  | .idx a b => plain fun ρ μ F R => (den a).1 ρ μ F fun x μ1 => (den b).1 ρ μ1 F fun y μ2 => tIdx x y μ2 R
  | .slice own a lo hi => plain fun ρ μ F R => (den a).1 ρ μ F fun x μ1 => (den lo).1 ρ μ1 F fun l μ2 => ∃ l', optI lo l = some l' ∧ (den hi).1 ρ μ2 F fun h μ3 => ∃ h', optI hi h = some h' ∧ tSlice own x l' h' μ3 R
  | .lst own es => let ps := dens es; plain fun ρ μ F R => evs ps ρ μ F fun ts μ1 => ts.length ≤ sizeLine ∧ newL own ts μ1 R
  | .tup es => let ps := dens es; plain fun ρ μ F R => evs ps ρ μ F fun ts μ1 => ts.length ≤ sizeLine ∧ R (.tup ts) μ1
  | .dict ks vs => let pk := dens ks; let pv := dens vs; plain fun ρ μ F R => match pk, pv with
    | [], [] => ∀ p, μ p = none → R (.own p) (μ.set p (.dict []))
    | [k], [v] => k.1 ρ μ F fun x μ1 => v.1 ρ μ1 F fun y μ2 => ∃ k', keyT x = some k' ∧ ∀ p, μ2 p = none → R (.own p) (μ2.set p (.dict [(k', y)]))
    | _, _ => False
  | .bif f own es => let ps := dens es; plain fun ρ μ F R => evs ps ρ μ F fun ts μ1 => tBif f own ts μ1 R
  | .isx i h => plain fun ρ μ F R => ∃ t, ρ[i]? = some (some t) ∧ Γ 999999 [t, .int h] μ F R
  | .nset a => plain fun ρ μ F R => (den a).1 ρ μ F fun x μ1 => ∃ ns : List Int, vlst μ1 x = some (ns.map T.int) ∧ ns.length ≤ 4000 ∧ R (.int ((PyProof.Rows.firstMet (fun i => ns.getD i 0) ns.length).length : Nat)) μ1
  | .isx2 i h h' => plain fun ρ μ F R => ∃ t, ρ[i]? = some (some t) ∧ Γ 999999 [t, .int h] μ F fun x μ1 => ∃ b, x = .bl b ∧ Γ 999999 [t, .int h'] μ1 F fun y μ2 => ∃ b', y = .bl b' ∧ R (.bl (b || b')) μ2
  | .isc d a => plain fun ρ μ F R => (den a).1 ρ μ F fun x μ1 => ∃ p us, x = .own p ∧ μ1 p = some (.obj d us) ∧ R (.bl true) μ1
  | .chain3 op op' op2 a b c d => cmpd fun ρ μ F R => (den a).1 ρ μ F fun x μ1 => (den b).1 ρ μ1 F fun y μ2 => tCmp op x y μ2 fun z μ3 => ∃ k, z = .bl k ∧ if k = true then (den c).1 ρ μ3 F fun w μ4 => tCmp op' y w μ4 fun z' μ5 => ∃ k', z' = .bl k' ∧ if k' = true then (den d).1 ρ μ5 F fun v μ6 => tCmp op2 w v μ6 R else R (.bl false) μ5 else R (.bl false) μ3
  | .lrng own a => plain fun ρ μ F R => (den a).1 ρ μ F fun x μ1 => ∃ n, x = .int n ∧ -(2 ^ 62) ≤ n ∧ n ≤ 16777216 ∧ newL own ((List.range n.toNat).map fun i => .int (i : Nat)) μ1 R
  | .lrev own a => plain fun ρ μ F R => (den a).1 ρ μ F fun x μ1 => ∃ us, vlst μ1 x = some us ∧ newL own us.reverse μ1 R
  | .isi ks a => plain fun ρ μ F R => (den a).1 ρ μ F fun x μ1 => ∃ n, isStr μ1 x = some n ∧ R (.bl (ks.any (isT n))) μ1
  | .call f nd es => let ps := dens es; plain fun ρ μ F R => evs ps ρ μ F fun ts μ1 => ∃ i, G.fn f = some i ∧ Γ f (ts ++ (i.rest nd).map T.int) μ1 F R
  | .meth f nd o es => let ps := dens es; plain fun ρ μ F R => (den o).1 ρ μ F fun x μ1 => ∃ i c p us, G.fn f = some i ∧ i.cls = some c ∧ x = .own p ∧ μ1 p = some (.obj c us) ∧
      evs ps ρ μ1 F fun ts μ2 => Γ f (x :: (ts ++ (i.rest nd).map T.int)) μ2 F R
  | .make c es => let ps := dens es; plain fun ρ μ F R => evs ps ρ μ F fun ts μ1 => ∃ i, G.cl c = some i ∧ ∀ p, μ1 p = none → Γ i.init (.own p :: ts) (μ1.set p (.obj c [])) F fun v μ2 => v = .non ∧ R (.own p) μ2
  | .fld c i o => plain fun ρ μ F R => (den o).1 ρ μ F fun x μ1 => ∃ p us t, x = .own p ∧ μ1 p = some (.obj c us) ∧ us[i]? = some t ∧ R t μ1
  | .lm m o es => let ps := dens es; plain fun ρ μ F R => (den o).1 ρ μ F fun x μ1 => rcv m μ1 x ∧ evs ps ρ μ1 F fun ts μ2 => tLm m x ts μ2 R
  | .comp own vs g k its cond elt => let ps := dens its; let pc := den cond; let pe := den elt; plain fun ρ μ F R => evs ps ρ μ F fun ts μ1 => itT k ts μ1 fun us gd => compD own vs g pc pe ρ R us gd μ1
def dens : List Ex → List (TEx × TTe)
  | [] => []
  | e :: es => den e :: dens es
end
end

/-! ## 9. The core against the text -/
structure SC where
  N : List Str
  sc : Scope
  k : Nat
  m : Nat
  hot : Bool
  as : Bool
def vis (sc : Scope) (x : Str) : Bool := match sc.names.lookup x with
  | some .local => true | some .cell => true | some .free => true | _ => false
def loc (sc : Scope) (x : Str) : Bool := match sc.names.lookup x with
  | some .local => true | some .cell => true | _ => false
def glb (sc : Scope) (x : Str) : Bool := match sc.names.lookup x with
  | some .globalImplicit => true | _ => false
def plainN (x : Str) : Bool := !(x == ("__debug__" : Str)) && !(x == ("__classdict__" : Str)) && !(x == ("__name__" : Str))
def notSet : Expr → Bool
  | .Set .. => false
  | _ => true
def notSup : Expr → Bool
  | .Call (.Name id _) [] [] _ => !(id == ("super" : Str))
  | _ => true
def ownNames (N : List Str) (vs : List Nat) : List (Str × Nat) := vs.filterMap fun i => (N[i]?).map fun x => (x, i)
mutual
def chkG (c : SC) : Tg → Expr → Bool
  | .nm i, .Name x _ => decide (c.N[i]? = some x) && loc c.sc x
  | .tup gs, .Tuple es _ _ => chkGs c gs es && !c.hot
  | _, _ => false
def chkGs (c : SC) : List Tg → List Expr → Bool
  | [], [] => true
  | g :: gs, e :: es => chkG c g e && chkGs c gs es
  | _, _ => false
end
mutual
def tgIn (vs : List Nat) : Tg → Bool
  | .nm i => decide (i ∈ vs)
  | .tup gs => tgsIn vs gs
def tgsIn (vs : List Nat) : List Tg → Bool
  | [] => true
  | g :: gs => tgIn vs g && tgsIn vs gs
end
def isTupE : Expr → Bool
  | .Tuple .. => true
  | _ => false
def gName (c : SC) (n : Str) (x : Str) : Bool := decide (x = n) && glb c.sc x
/-- the classes of isinstance -/
def chkKs (c : SC) : List String → Expr → Bool
  | [k], .Name x _ => decide (x = Str.ofString k) && glb c.sc x && decide (k ∈ ["int", "bool", "str", "list", "tuple", "dict"])
  | _, _ => false
/-- the name of an exception's class -/
def exName (G : Tab) (h : Nat) : Option Str := if h = 999 then some "ValueError" else G.ex h
/-- which exception a clause takes -/
def subX (G : Tab) (a h : Nat) : Bool := decide (a = h) || decide (G.ex h = some ("RateError" : Str)) || decide (h = 999)
def isCnon : Ex → Bool
  | .cnon => true
  | _ => false
def isCtrue : Ex → Bool
  | .cbl b => b
  | _ => false
section
variable (G : Tab)
def gFn (c : SC) (f nd k : Nat) (x : Str) : Bool := (match G.fn f with | some i => decide (i.name = x) && decide (i.cls = none) && decide (i.lvl ≤ c.k) && decide (nd ≤ i.dfl.length) && decide (k + nd = i.np) | none => false) && decide (f < c.m)
def gMt (c : SC) (f nd k : Nat) (m : Str) : Bool := (match G.fn f with | some i => decide (i.name = m) && (match i.cls with | some d => decide (m ∉ G.flds d) | none => false) && decide (i.lvl ≤ c.k) && decide (nd ≤ i.dfl.length) && decide (k + nd + 1 = i.np) | none => false) && decide (f < c.m)
def gMk (c : SC) (d k : Nat) (x : Str) : Bool := match G.cl d with | some i => decide (i.name = x) && decide (i.init < c.m) && (match G.fn i.init with | some j => decide (j.lvl < c.k) && decide (k + 1 = j.np) | none => false) | none => false
def gCl (d : Nat) (k : Str) : Bool := match G.cl d with | some i => decide (i.name = k) | none => false
def gCon (k : Nat) (x : Str) : Bool := match G.con k with | some y => decide (y.1 = x) | none => false
mutual
def chkE (c : SC) : Ex → Expr → Bool
  | .var i, e => (match e with | .Name x _ => decide (c.N[i]? = some x) && vis c.sc x && plainN x | _ => false)
  | .cint i, e => (match e with | .Constant (.int j) _ _ => decide (i = j) | _ => false)
  | .cstr s, e => (match e with | .Constant (.str t) _ _ => decide (s = t) | _ => false)
  | .cbl b, e => (match e with | .Constant (.bool d) _ _ => decide (b = d) | _ => false)
  | .cnon, e => (match e with | .Constant .none _ _ => true | _ => false)
  | .glob k, e => (match e with | .Name x _ => gCon G k x && glb c.sc x && plainN x | _ => false)
  | .bin op _ a b, e => (match e with | .BinOp x o y _ => decide (op = o) && chkE c a x && chkE c b y | _ => false)
  | .cpow a b v, e => (match e with | .BinOp (.Constant (.int i) _ _) .Pow (.Constant (.int j) _ _) _ => decide (a = i) && decide (b = j) && decide (0 ≤ b ∧ b ≤ 1000 ∧ a.natAbs < 2 ^ 64) && decide (a ^ b.toNat = v) | _ => false)
  | .neg a, e => (match e with | .UnaryOp .USub x _ => chkE c a x | _ => false)
  | .cmp op a b, e => (match e with | .Compare x [o] [y] _ => decide (op = o) && chkE c a x && chkE c b y && notSet y | _ => false)
  | .chain op op' a b d, e => (match e with | .Compare x [o, o'] [y, z] _ => decide (op = o) && decide (op' = o') && chkE c a x && chkE c b y && chkE c d z && notSet z | _ => false)
  | .andor w es, e => (match e with | .BoolOp o xs _ => decide (o = if w then .And else .Or) && chkEs c es xs | _ => false)
  | .not a, e => (match e with | .UnaryOp .Not x _ => chkE c a x | _ => false)
  | .ife d a b, e => (match e with | .IfExp z x y _ => chkE c d z && chkE c a x && chkE c b y | _ => false)
  | .idx a b, e => (match e with | .Subscript x y _ => chkE c a x && chkE c b y | _ => false)
  | .slice _ a lo hi, e => (match e with | .Subscript x (.Slice l h none _) _ => chkE c a x && (match l with | none => isCnon lo | some l => !isCnon lo && chkE c lo l) && (match h with | none => isCnon hi | some h => !isCnon hi && chkE c hi h) | _ => false)
  | .lst _ es, e => (match e with | .List xs _ => chkEs c es xs | _ => false)
  | .tup es, e => (match e with | .Tuple xs _ _ => chkEs c es xs | _ => false)
  | .dict ks vs, e => (match e with | .Dict [] [] _ => chkEs c ks [] && chkEs c vs [] | .Dict [some k] [v] _ => chkEs c ks [k] && chkEs c vs [v] | _ => false)
  | .bif f _ es, e => (match e with | .Call (.Name x _) xs [] _ => gName c (bifName f) x && chkEs c es xs && !xs.isEmpty && !c.hot | _ => false)
  | .lrng _ a, e => (match e with | .Call (.Name l _) [.Call (.Name f _) [x] [] _] [] _ => gName c "list" l && gName c "range" f && chkE c a x && !c.hot | _ => false)
  | .isi ks a, e => (match e with | .Call (.Name x _) [y, z] [] _ => gName c "isinstance" x && chkE c a y && chkKs c ks z | _ => false)
  | .isx i h, e => (match e with | .Call (.Name f _) [.Name x _, .Name k _] [] _ => gName c "isinstance" f && decide (c.N[i]? = some x) && vis c.sc x && plainN x && decide (exName G h = some k) && glb c.sc k && plainN k && c.as && G.xs | _ => false)
  | .call f nd es, e => (match e with | .Call (.Name x _) xs [] _ => gFn G c f nd xs.length x && glb c.sc x && plainN x && chkEs c es xs && !c.hot | _ => false)
  | .meth f nd o es, e => (match e with | .Call (.Attribute y m apos) xs [] cpos => (apos.endLine == cpos.line) && decide (xs.length < 30) && gMt G c f nd xs.length m && chkE c o y && notSup y && chkEs c es xs && !c.hot | _ => false)
  | .make d es, e => (match e with | .Call (.Name x _) xs [] _ => gMk G c d xs.length x && glb c.sc x && plainN x && chkEs c es xs && !c.hot | _ => false)
  | .fld d i o, e => (match e with | .Attribute y f _ => chkE c o y && notSup y && decide ((G.flds d)[i]? = some f) | _ => false)
  | .lm m o es, e => (match e with | .Call (.Attribute y f apos) xs [] cpos => decide (f = lmName m) && (apos.endLine == cpos.line) && chkE c o y && notSup y && chkEs c es xs && decide (xs.length < 30) | _ => false)
  | .comp _ vs g k its cond elt, e => (match e with | .ListComp z [⟨tg, iter, ifs, 0⟩] scope _ => chkIt c k its iter tg && chkG { c with sc := scope } g tg && (match ifs with | [] => isCtrue cond | [d] => chkE { c with sc := scope } cond d | _ => false) && chkE { c with sc := scope } elt z && blkC c.N c.sc scope (ownNames c.N vs) && decide ((ownNames c.N vs).map (·.2) = vs) && tgIn vs g && !c.hot | _ => false)
  | .nset a, e => (match e with | .Call (.Name l _) [.Call (.Name f _) [x] [] _] [] _ => gName c "len" l && gName c "set" f && chkE c a x && !c.hot | _ => false)
  | .isx2 i h h', e => (match e with | .Call (.Name f _) [.Name x _, .Tuple [.Name k _, .Name k' _] _ _] [] _ => gName c "isinstance" f && decide (c.N[i]? = some x) && vis c.sc x && plainN x && decide (exName G h = some k) && glb c.sc k && plainN k && decide (exName G h' = some k') && glb c.sc k' && plainN k' && c.as && G.xs | _ => false)
  | .isc d a, e => (match e with | .Call (.Name f _) [y, .Name k _] [] _ => gName c "isinstance" f && chkE c a y && gCl G d k && glb c.sc k && plainN k && G.xc | _ => false)
  | .chain3 op op' op2 a b d f, e => (match e with | .Compare x [o, o', o2] [y, z, w] _ => decide (op = o) && decide (op' = o') && decide (op2 = o2) && chkE c a x && chkE c b y && chkE c d z && chkE c f w && notSet w | _ => false)
  | .lrev _ a, e => (match e with | .Call (.Name l _) [.Call (.Name f _) [x] [] _] [] _ => gName c "list" l && gName c "reversed" f && chkE c a x && !c.hot | _ => false)
def chkEs (c : SC) : List Ex → List Expr → Bool
  | [], xs => xs.isEmpty
  | e :: es, xs => (match xs with | [] => false | x :: xs => chkE c e x && chkEs c es xs)
def chkIt (c : SC) : ItK → List Ex → Expr → Expr → Bool
  | k, [a], e, tg => (match k, e with
    | .val, x => chkE c a x && notSet x
    | .tupl, x => chkE c a x && notSet x
    | .strg, x => chkE c a x && notSet x
    | .rng1, .Call (.Name f _) [x] [] _ => gName c "range" f && chkE c a x
    | .enum, .Call (.Name f _) [x] [] _ => gName c "enumerate" f && chkE c a x && isTupE tg
    | .rev, .Call (.Name f _) [x] [] _ => gName c "reversed" f && chkE c a x
    | _, _ => false)
  | k, [a, b], e, tg => (match k, e with
    | .rng2, .Call (.Name f _) [x, y] [] _ => gName c "range" f && chkE c a x && chkE c b y
    | .zip, .Call (.Name f _) [x, y] [] _ => gName c "zip" f && chkE c a x && chkE c b y && isTupE tg
    | _, _ => false)
  | _, _, _, _ => false
end
end
end Rh

namespace Rh
open PySem PySem.Spec PyProof.Rows L2

/-! ## 10. What is known of the whole text -/
def spOf (K : PySem.W.Frag) (L : Lay) (n : Nat) (S : TSp) : Sp := fun vs H Q E => vs.length = n ∧ ∃ Φ B μ ts R F, St K L Φ H B μ ∧ Trs K B vs ts ∧ S ts μ F R ∧ Post K L Φ B R Q ∧ PostX K L Φ B F E
def blNames : List Str := ["len", "sum", "max", "min", "list", "tuple", "sorted", "all", "any", "str", "int", "bool", "dict", "isinstance", "range", "enumerate", "zip", "reversed", "ValueError", "set"]
structure FnF (K : PySem.W.Frag) (mg : Str → Option Value) (L : Lay) (P : Program) (w : World) (base : Heap) (Γ : TSp) (i : FnI) (a : Addr) (fd : FuncData) (ps : List Str) : Prop where
  ok : FnOk P w K mg base (L2.CX P w) i.lvl a fd ps (spOf K L i.np Γ)
  kp : PySem.W.keepIn K (.ref a) = true
  bi : ∀ nd, nd ≤ i.dfl.length → ∃ ds, Binds K fd ps ds ∧ Vals ((i.rest nd).map V.int) ds
  mg_ : i.cls = none → mg i.name = some (.ref a)
  me : ∀ c, i.cls = some c → Meth K (L.addr c) i.name a
structure ExF (K : PySem.W.Frag) (mg : Str → Option Value) (n : Str) (a : Addr) : Prop where
  mg_ : mg n = some (.ref a)
  ex : PySem.W.excIn K a [.type "ValueError", .type "Exception", .type "BaseException", .type "object"] "ValueError.__new__" = true
  kp : PySem.W.keepIn K (.ref a) = true
  sb : PySem.W.subIn K (.ref a) (.type "BaseException") = some true
  ty : PySem.W.typeIn K (.ref a) = some (.type "type")
structure ClF (K : PySem.W.Frag) (mg : Str → Option Value) (G : Tab) (L : Lay) (c : Nat) (i : ClI) : Prop where
  mg_ : mg i.name = some (.ref (L.addr c))
  cl : Cls K (L.addr c)
  mks : PySem.W.makesIn K (L.addr c) = true
  kp : PySem.W.keepIn K (.ref (L.addr c)) = true
  no : ∀ f, f ∈ G.flds c → NoAttr K (L.addr c) f
  nd : (G.flds c).Nodup
  sz : (G.flds c).length < 1000
  ini : ∃ j, G.fn i.init = some j ∧ j.cls = some c ∧ j.name = "__init__" ∧ j.dfl = []
structure GOk (G : Tab) (Γ : Nat → TSp) (L : Lay) (m : Nat) (P : Program) (w : World) (K : PySem.W.Frag) (mg : Str → Option Value) (base : Heap) : Prop where
  fn : ∀ f i, f < m → G.fn f = some i → ∃ a fd ps, FnF K mg L P w base (Γ f) i a fd ps
  cl : ∀ c i, G.cl c = some i → ClF K mg G L c i
  ex : ∀ x n, G.ex x = some n → ExF K mg n (L.exc x)
  bl : ∀ n ∈ blNames, mg n = none
  con : ∀ k y, G.con k = some y → ∃ v u, mg y.1 = some u ∧ RelV v u ∧ ∀ B, Tr K B v y.2
  fl : L.flds = G.flds
  ki : G.xs = true → ∀ a n, G.ex a = some n → (∀ h m, G.ex h = some m → PySem.W.kitOne K (.ref (L.exc a)) (.ref (L.exc h)) = some (subX G a h)) ∧ PySem.W.kitOne K (.ref (L.exc a)) (.type "ValueError") = some true ∧ ExcC K (L.exc a)
  kc : G.xc = true → ∀ d i, G.cl d = some i → C8.InsC K (L.addr d)
  su : ∀ a h n m, G.ex a = some n → G.ex h = some m → PySem.W.exmOne K (.ref (L.exc a)) (.ref (L.exc h)) = some (subX G a h)
/-- what a suite knows of the exception that it has taken -/
def S_cur (G : Tab) (p : Addr) (a : Nat) : TSp := fun ts μ _ R => ∃ h, ts = [.own p, .int (h : Nat)] ∧ (exName G h).isSome = true ∧ R (.bl (subX G a h)) μ
structure Ctx (G : Tab) (Γ : Nat → TSp) (L : Lay) (c : SC) (X : Cx) (W : WX) : Prop where
  N : X.N = c.N
  nd : c.N.Nodup
  vi : ∀ x, vis c.sc x = true → Vis X.env.scope x
  st : ∀ x, loc c.sc x = true → Loc X.env.scope x ∧ (X.fn x = true ∨ X.env.scope.names.lookup x = some .local)
  gl : ∀ x, glb c.sc x = true → Gl X x
  fc : ∀ x, c.sc.names.lookup x = some .cell ∨ c.sc.names.lookup x = some .free → X.env.scope.names.lookup x = some .cell ∨ X.env.scope.names.lookup x = some .free
  room : c.hot = false → Room c.k X.A
  hu : X.A.units + 65 < cLine
  calm : c.hot = false → X.calm = true
  tk : Takes X W
  cu : c.as = true → c.hot = true ∧ ∃ (X0 : Cx) (p : Addr) (oe : Obj) (pn : List (Addr × Obj)) (a : Nat) (n : Str), X = X0.suite p ((p, oe) :: pn) ∧ G.ex a = some n ∧ Zc (.ref (L.exc a)) Option.none oe ∧ (∃ vs, oe.data = .fields vs) ∧ Γ 999999 = S_cur G p a
  g : GOk G Γ L c.m X.prog X.w X.K X.mg X.base

/-! ## 11. The meaning of a piece of the text, as one reading -/
def sE (X : Cx) (e : Expr) : TE := fun σ H Q => ∀ pins s, L2.Inv X pins σ H s → wpAny (model X.prog X.w) X.A (eval e X.env) (EP X pins σ Q) X.xe s
def sT (X : Cx) (e : Expr) : TT := fun σ H Q => ∀ pins s, L2.Inv X pins σ H s → wpAny (model X.prog X.w) X.A (isTrue e X.env (eval e X.env)) (TP X pins σ Q) X.xe s
def sA (X : Cx) (es : List Expr) : TA := fun σ H Q => ∀ pos pins s, L2.Inv X pins σ H s → wpAny (model X.prog X.w) X.A (spliced (backTo pos (starEach es X.env))) (AP X pins σ Q) X.xe s
def sG (X : Cx) (e : Expr) : TG := fun v σ H Q => ∀ pins s u, L2.Inv X pins σ H s → RelV v u → wpAny (model X.prog X.w) X.A (assign e X.env u) (fun _ s' => ∃ σ' H', L2.Inv X pins σ' H' s' ∧ Q σ' H') X.xe s
theorem pe_s {X : Cx} {e : Expr} : PE X e (sE X e) := ⟨fun pins s _ _ _ I h => h pins s I⟩
theorem pt_s {X : Cx} {e : Expr} : PT X e (sT X e) := ⟨fun pins s _ _ _ I h => h pins s I⟩
theorem pa_s {X : Cx} {es : List Expr} : PA X es (sA X es) := ⟨fun pos pins s _ _ _ I h => h pos pins s I⟩
theorem pg_s {X : Cx} {e : Expr} : PG X e (sG X e) := ⟨fun pins s _ _ _ u _ I r h => h pins s u I r⟩
theorem sE_of {X : Cx} {e : Expr} {t : TE} {σ : L2.St} {H : Hp} {Q : VK} (p : PE X e t) (h : t σ H Q) : sE X e σ H Q := fun pins s I => p.run pins s σ H Q I h
theorem sT_of {X : Cx} {e : Expr} {t : TT} {σ : L2.St} {H : Hp} {Q : Bool → Hp → Prop} (p : PT X e t) (h : t σ H Q) : sT X e σ H Q := fun pins s I => p.run pins s σ H Q I h
theorem sA_of {X : Cx} {e : List Expr} {t : TA} {σ : L2.St} {H : Hp} {Q : List V → Hp → Prop} (p : PA X e t) (h : t σ H Q) : sA X e σ H Q := fun pos pins s I => p.run pos pins s σ H Q I h
theorem sG_of {X : Cx} {e : Expr} {t : TG} {v : V} {σ : L2.St} {H : Hp} {Q : L2.St → Hp → Prop} (p : PG X e t) (h : t v σ H Q) : sG X e v σ H Q := fun pins s u I r => p.run pins s σ H v u Q I r h
theorem sE_mono {X : Cx} {e : Expr} {σ : L2.St} {H : Hp} {Q Q' : VK} (h : sE X e σ H Q) (k : ∀ v H', Q v H' → Q' v H') : sE X e σ H Q' := fun pins s I => thn (h pins s I) fun u s' ⟨v, H', I', r, q⟩ => ⟨v, H', I', r, k v H' q⟩

def PostA (K : PySem.W.Frag) (L : Lay) (Φ B : Hp) (n : Nat) (R : List T → Sto → Prop) (Q : List V → Hp → Prop) : Prop := ∀ vs ts H' B' μ', Le B B' → St K L Φ H' B' μ' → Trs K B' vs ts → ts.length = n → R ts μ' → Q vs H'
def VOk (X : Cx) (L : Lay) (W : WX) (e : Expr) (te : TEx) : Prop := ∀ Φ B μ H σ ρ F R Q, St X.K L Φ H B μ → Slots X.K B σ ρ → te ρ μ F R → PostX X.K L Φ B F (WE W σ) → Post X.K L Φ B R Q → sE X e σ H Q
def TOk (X : Cx) (L : Lay) (W : WX) (e : Expr) (tt : TTe) : Prop := ∀ Φ B μ H σ ρ F R Q, St X.K L Φ H B μ → Slots X.K B σ ρ → tt ρ μ F R → PostX X.K L Φ B F (WE W σ) → PostB X.K L Φ B R Q → sT X e σ H Q
def AOk (X : Cx) (L : Lay) (W : WX) (es : List Expr) (ps : List (TEx × TTe)) : Prop := ∀ Φ B μ H σ ρ F R Q, St X.K L Φ H B μ → Slots X.K B σ ρ → evs ps ρ μ F R → PostX X.K L Φ B F (WE W σ) → PostA X.K L Φ B es.length R Q → sA X es σ H Q
structure Stat (x : Expr) : Prop where
  star : ∀ (env : Env) (es : List Expr), starEach (x :: es) env = (false, eval x env) :: starEach es env
  ix : PlainIx x
  asg : ∀ (o : Expr) (p : Pos) (env : Env) (v : Value), assign (.Subscript o x p) env v = (do
    let ov ← holding [v] (eval o env)
    let iv ← holding [v, ov] (eval x env)
    standAt p
    holding [v, ov, iv] (setItem ov iv v)
    release [v, ov, iv] [])
  aug : ∀ (ov iv new : Value), augStore x ov iv new = (do holding [new, ov, iv] (setItem ov iv new); release [new, ov, iv] []; pure .next)
structure EOk (X : Cx) (L : Lay) (W : WX) (e : Expr) (p : TEx × TTe) : Prop where
  v : VOk X L W e p.1
  t : TOk X L W e p.2
section
variable {X : Cx} {L : Lay} {W : WX}
theorem EOk.plain {e : Expr} {te : TEx} (h : VOk X L W e te) (he : ∀ whole, isTrue e X.env whole = (do let v ← whole; standAt e.pos; holding [v] (truthy v))) : EOk X L W e (Rh.plain te) :=
  ⟨h, fun Φ B μ H σ ρ F R Q S sl q kx k => sT_of (pt_truth pe_s he) (h Φ B μ H σ ρ F _ _ S sl q kx fun v t H' B' μ' le S' r q' => by
    obtain ⟨b, h1, h2⟩ := tru_okT S' r q'
    exact ⟨b, h1, k b H' B' μ' le S' h2⟩)⟩
theorem Paired.map_len {α β : Type} {G : α → β → Prop} {l : List α} {m : List β} (h : Paired G l m) : l.length = m.length := Paired.length h
theorem AOk.of : ∀ {es : List Expr} {ps : List (TEx × TTe)}, Paired (fun e p => EOk X L W e p ∧ Stat e) es ps → AOk X L W es ps
  | _, _, .nil => fun Φ B μ H σ ρ F R Q S sl h kx k => sA_of pa_nil (k [] [] H B μ (Same.refl _) S rfl rfl h)
  | _, _, .cons (l₁ := es) ⟨h1, st⟩ hs => fun Φ B μ H σ ρ F R Q S sl h kx k => by
    refine sA_of (pa_cons pe_s pa_s (st.star _ _)) ?_
    refine h1.v Φ B μ H σ ρ F _ _ S sl h kx fun v t H1 B1 μ1 l1 S1 r1 q1 => ?_
    refine AOk.of hs Φ B1 μ1 H1 σ ρ F _ _ S1 (sl.mono l1) q1 (kx.mono l1) fun vs ts H2 B2 μ2 l2 S2 r2 n2 q2 => ?_
    exact k (v :: vs) (t :: ts) H2 B2 μ2 (l1.trans l2) S2 (Trs.cons (r1.mono l2) r2) (by simp [n2]) q2
theorem star_plain : ∀ {es : List Expr} {ps : List (TEx × TTe)}, Paired (fun e p => EOk X L W e p ∧ Stat e) es ps → ∀ (env : Env) (pos : Pos), (backTo pos (starEach es env)).any (·.1) = false
  | _, _, .nil, _, _ => rfl
  | _, _, .cons ⟨_, st⟩ hs, env, pos => by
    rw [st.star]
    show (false || (backTo pos (starEach _ env)).any (·.1)) = false
    rw [Bool.false_or]
    exact star_plain hs env pos
theorem notSup_base {o : Expr} {attr : Str} {env : Env} (h : notSup o = true) : attributeBase o attr env (eval o env) = eval o env := by
  unfold attributeBase
  split
  · rename_i id _ _
    have q : (id == ("super" : Str)) = false := by simpa [notSup] using h
    have q' : (id != ("super" : Str)) = true := by unfold bne; rw [q]; rfl
    have e : (id != ("super" : Str) || attr == ("__class__" : Str) || env.kindOf "super" != some .globalImplicit || env.kindOf "__class__" != some .free) = true := by rw [q']; rfl
    rw [if_pos e]
  · rfl
theorem marks {op : CmpOp} {y : Expr} (h : notSet y = true) : behindInMarks op y = false := by
  cases y <;> first | rfl | cases h
theorem folded {x : Expr} {env : Env} (h : notSet x = true) : ∀ v, foldedSetIterable x env v = pure v := fun v => by
  cases x <;> first | rfl | cases h
end
end Rh

namespace Rh
open PySem PySem.Spec PyProof.Rows L2

/-! ## 12. Targets -/
theorem wipe_at (σ : L2.St) (j : Nat) : ∀ vs : List Nat, (L2.wipe σ vs)[j]? = if j ∈ vs then (σ[j]?).map (fun _ => none) else σ[j]?
  | [] => by simp [L2.wipe]
  | v :: vs => by
    have ih := wipe_at σ j vs
    unfold L2.wipe
    by_cases e : v = j
    · subst e
      rw [if_pos List.mem_cons_self]
      by_cases hl : v < σ.length
      · rw [List.getElem?_set_self (by rw [wipe_length]; exact hl), List.getElem?_eq_getElem hl]
        rfl
      · rw [List.getElem?_eq_none (by rw [List.length_set, wipe_length]; omega), List.getElem?_eq_none (by omega)]
        rfl
    · rw [List.getElem?_set_ne e, ih]
      have : (j ∈ v :: vs) ↔ j ∈ vs := by
        simp only [List.mem_cons]
        exact ⟨fun h => h.resolve_left fun z => e z.symm, .inr⟩
      simp only [this]
theorem wipe_set {σ : L2.St} {i : Nat} {x : Option V} {vs : List Nat} (h : i ∈ vs) : L2.wipe (σ.set i x) vs = L2.wipe σ vs := by
  refine List.ext_getElem? fun j => ?_
  rw [wipe_at, wipe_at]
  by_cases hj : j ∈ vs
  · rw [if_pos hj, if_pos hj]
    by_cases e : i = j
    · subst e
      by_cases hl : i < σ.length
      · rw [List.getElem?_set_self hl, List.getElem?_eq_getElem hl]
        rfl
      · rw [List.getElem?_eq_none (by rw [List.length_set]; omega), List.getElem?_eq_none (by omega)]
    · rw [List.getElem?_set_ne e]
  · rw [if_neg hj, if_neg hj, List.getElem?_set_ne (fun z : i = j => hj (by rw [← z]; exact h))]
theorem wipe_wipe {σ : L2.St} {vs : List Nat} : L2.wipe (L2.wipe σ vs) vs = L2.wipe σ vs := by
  refine List.ext_getElem? fun j => ?_
  rw [wipe_at, wipe_at]
  split
  · cases σ[j]? <;> rfl
  · rfl
section
variable {X : Cx} {L : Lay} {W : WX} {G : Tab} {Γ : Nat → TSp} {c : SC}
theorem unp_ok {K : PySem.W.Frag} {Φ H B : Hp} {μ : Sto} {t : T} {ts : List T} {v : V} (S : St K L Φ H B μ) (r : Tr K B v t) (h : unp μ t = some ts) : ∃ a vs, v = .ref a ∧ (SqT K H a vs ∨ SqL K H a vs) ∧ Trs K B vs ts := by
  unfold unp at h
  split at h
  · cases h
    obtain ⟨a, vs, e, h1, h2⟩ := vtup_ok S r rfl
    exact ⟨a, vs, e, .inl h1, h2⟩
  · obtain ⟨a, vs, e, h1, h2⟩ := vlst_ok S r h
    exact ⟨a, vs, e, .inr h1, h2⟩
def sGs (X : Cx) (es : List Expr) : TGs := fun vs σ H Q => ∀ pins s us, L2.Inv X pins σ H s → Vals vs us → wpAny (model X.prog X.w) X.A (assignInOrder ((assignEach es X.env).map (·.2)) us) (fun _ s' => ∃ σ' H', L2.Inv X pins σ' H' s' ∧ Q σ' H') X.xe s
theorem pgs_s {X : Cx} {es : List Expr} : PGs X es (sGs X es) := ⟨fun pins s _ _ _ us _ I r h => h pins s us I r⟩
def GOk1 (X : Cx) (L : Lay) (g : Tg) (e : Expr) : Prop := ∀ Φ B μ H σ ρ v t k Q, St X.K L Φ H B μ → Slots X.K B σ ρ → Tr X.K B v t → bindT g t ρ μ k →
  (∀ σ' ρ', Slots X.K B σ' ρ' → (∀ vs, tgIn vs g = true → L2.wipe σ' vs = L2.wipe σ vs) → k ρ' → Q σ' H) → sG X e v σ H Q
def GOks (X : Cx) (L : Lay) (gs : List Tg) (es : List Expr) : Prop := ∀ Φ B μ H σ ρ vs ts k Q, St X.K L Φ H B μ → Slots X.K B σ ρ → Trs X.K B vs ts → bindTs gs ts ρ μ k →
  (∀ σ' ρ', Slots X.K B σ' ρ' → (∀ ws, tgsIn ws gs = true → L2.wipe σ' ws = L2.wipe σ ws) → k ρ' → Q σ' H) → sGs X es vs σ H Q
mutual
theorem tg_ok (C : Ctx G Γ L c X W) : ∀ (g : Tg) (e : Expr), chkG c g e = true → GOk1 X L g e
  | .nm i, .Name x pos, h => fun Φ B μ H σ ρ v t k Q S sl r q kk => by
    simp only [chkG, Bool.and_eq_true, decide_eq_true_eq] at h
    obtain ⟨h1, h2⟩ := C.st x h.2
    have hN : X.N[i]? = some x := by rw [C.N]; exact h.1
    refine sG_of (pg_name (by rw [C.N]; exact C.nd) hN h1 h2) ?_
    exact kk _ _ (sl.set i r) (fun vs hv => wipe_set (by simpa [tgIn] using hv)) q
  | .tup gs, .Tuple es kk2 pos, h => fun Φ B μ H σ ρ v t k Q S sl r q kk => by
    have h' : (chkGs c gs es && !c.hot) = true := h
    rw [Bool.and_eq_true, Bool.not_eq_true'] at h'
    obtain ⟨hs, hh⟩ := h'
    obtain ⟨q1, q2, q3⟩ := tgs_ok C gs es hs
    unfold bindT at q
    obtain ⟨ts, e1, e2, q⟩ := q
    obtain ⟨a, vs, rfl, hq, r2⟩ := unp_ok S r e1
    have fin := q1 Φ B μ H σ ρ vs ts k Q S sl r2 q fun σ' ρ' s' w' k' => kk σ' ρ' s' (fun vs hv => w' vs (by simpa [tgIn] using hv)) k'
    have hl : vs.length = gs.length := by rw [r2.length]; exact e2
    rcases hq with hq | hq
    · exact sG_of (pg_tup (n := gs.length) (C.calm hh) pgs_s q2 q3) ⟨a, vs, rfl, hq, hl, fin⟩
    · exact sG_of (pg_lst (n := gs.length) (C.calm hh) pgs_s q2 q3) ⟨a, vs, rfl, hq, hl, fin⟩
theorem tgs_ok (C : Ctx G Γ L c X W) : ∀ (gs : List Tg) (es : List Expr), chkGs c gs es = true → GOks X L gs es ∧ (assignEach es X.env).length = gs.length ∧ (assignEach es X.env).findIdx? (·.1) = none
  | [], [], _ => ⟨fun Φ B μ H σ ρ vs ts k Q S sl r q kk => by
      cases ts with
      | nil =>
        cases (show vs = [] from r)
        exact fun pins s us I rv => pgs_nil.run pins s σ H [] us Q I rv ⟨rfl, kk σ ρ sl (fun _ _ => rfl) q⟩
      | cons t ts =>
        obtain ⟨v, vr, rfl, r1, r2⟩ := r
        exact fun pins s us I rv => by
          cases rv
          exact assignInOrder_nil ⟨σ, H, I, kk σ ρ sl (fun _ _ => rfl) q⟩, rfl, rfl⟩
  | g :: gs, e :: es, h => by
    simp only [chkGs, Bool.and_eq_true] at h
    have i1 := tg_ok C g e h.1
    obtain ⟨i2, i3, i4⟩ := tgs_ok C gs es h.2
    have e0 : assignEach (e :: es) X.env = (false, assign e X.env) :: assignEach es X.env := by
      cases e <;> first | rfl | (cases g <;> simp [chkG] at h)
    refine ⟨fun Φ B μ H σ ρ vs ts k Q S sl r q kk => ?_, by rw [e0]; simp [i3], by rw [e0]; simp [List.findIdx?_cons, i4]⟩
    unfold bindTs at q
    obtain ⟨t, tr, rfl, q⟩ := q
    obtain ⟨v, vr, rfl, r1, r2⟩ := r
    intro pins s us I rv
    refine (pgs_cons (X := X) (t := sG X e) (u := sGs X es) pg_s pgs_s (by rw [e0]; rfl)).run pins s σ H (v :: vr) us Q I rv ⟨v, vr, rfl, ?_⟩
    refine i1 Φ B μ H σ ρ v t _ _ S sl r1 q fun σ1 ρ1 s1 w1 k1 => ?_
    refine i2 Φ B μ H σ1 ρ1 vr tr k Q S s1 r2 k1 fun σ2 ρ2 s2 w2 k2 => ?_
    refine kk σ2 ρ2 s2 (fun ws hw => ?_) k2
    simp only [tgsIn, Bool.and_eq_true] at hw
    rw [w2 ws hw.2, w1 ws hw.1]
end
end

/-! ## 13. What a loop walks -/
structure Sim (K : PySem.W.Frag) (L : Lay) (B0 : Hp) (J : It) (ts : List T) (gd : Sto → Prop) : Prop where
  go : ∀ Φ i H B μ, Le B0 B → St K L Φ H B μ → gd μ → i < ts.length → J.go i H ∧ ∀ x H', J.yld i H x H' → ∃ B' t, Le B B' ∧ St K L Φ H' B' μ ∧ ts[i]? = some t ∧ Tr K B' x t
  stop : ∀ Φ i H B μ, Le B0 B → St K L Φ H B μ → gd μ → ts.length ≤ i → J.stop i H
def LSrc (K : PySem.W.Frag) (L : Lay) (B0 : Hp) (a : Addr) (us : List T) (gd : Sto → Prop) : Prop := ∀ Φ H B μ, Le B0 B → St K L Φ H B μ → gd μ → ∃ vs, SqL K H a vs ∧ Trs K B vs us
section
variable {K : PySem.W.Frag} {L : Lay} {Φ B0 H : Hp} {μ : Sto} {a : Addr} {us : List T} {gd : Sto → Prop}
theorem onG_ok {t : T} {v : V} {k : List T → (Sto → Prop) → Prop} (S : St K L Φ H B0 μ) (r : Tr K B0 v t) (h : onG μ t k) : ∃ a us gd, v = .ref a ∧ LSrc K L B0 a us gd ∧ gd μ ∧ k us gd := by
  unfold onG at h
  split at h
  · obtain ⟨a, vs, e, h1, h2⟩ := r
    exact ⟨a, _, any, e, fun Φ H B μ le S' _ => ⟨vs, .of (S'.sub _ _ (le _ _ h1)), h2.mono le⟩, trivial, h⟩
  · obtain ⟨a, vs, e, h1, h2⟩ := r
    exact ⟨a, _, any, e, fun Φ H B μ le S' _ => ⟨vs, Same.seq S'.sub (Same.seq le h1), h2.mono le⟩, trivial, h⟩
  · obtain ⟨us, e, h⟩ := h
    refine ⟨_, us, _, r, fun Φ H B μ le S' g => ?_, e, h⟩
    obtain ⟨vs, h1, h2⟩ := S'.mem g
    exact ⟨vs, .of h1, h2⟩
  · exact h.elim
theorem sim_list (l : LSrc K L B0 a us gd) : Sim K L B0 (Itl K a) us gd where
  go := fun Φ i H B μ le S g hi => by
    obtain ⟨vs, h1, h2⟩ := l Φ H B μ le S g
    obtain ⟨v, e, r⟩ := h2.get (List.getElem?_eq_getElem hi)
    exact ⟨⟨vs, v, h1, e⟩, fun x H' ⟨e1, y⟩ => by
      subst e1
      have z := y vs h1
      rw [e] at z
      cases z
      exact ⟨B, _, Same.refl _, S, List.getElem?_eq_getElem hi, r⟩⟩
  stop := fun Φ i H B μ le S g hi => by
    obtain ⟨vs, h1, h2⟩ := l Φ H B μ le S g
    exact ⟨vs, h1, by rw [h2.length]; exact hi⟩
theorem sim_rev (l : LSrc K L B0 a us gd) {n : Nat} (hn : n = us.length) : Sim K L B0 (Itv K a n) us.reverse gd where
  go := fun Φ i H B μ le S g hi => by
    subst hn
    rw [List.length_reverse] at hi
    obtain ⟨vs, h1, h2⟩ := l Φ H B μ le S g
    have hj : us.length - 1 - i < us.length := by omega
    obtain ⟨v, e, r⟩ := h2.get (List.getElem?_eq_getElem hj)
    refine ⟨⟨hi, vs, v, h1, e⟩, fun x H' ⟨e1, y⟩ => ?_⟩
    subst e1
    have z := y vs h1
    rw [e] at z
    cases z
    exact ⟨B, _, Same.refl _, S, by rw [List.getElem?_reverse hi, List.getElem?_eq_getElem hj], r⟩
  stop := fun Φ i H B μ le S g hi => by
    subst hn
    rw [List.length_reverse] at hi
    exact hi
theorem sim_enum (l : LSrc K L B0 a us gd) : Sim K L B0 (Ite K a) (us.zipIdx.map fun p => .tup [.int (p.2 : Nat), p.1]) gd where
  go := fun Φ i H B μ le S g hi => by
    rw [List.length_map, List.length_zipIdx] at hi
    obtain ⟨vs, h1, h2⟩ := l Φ H B μ le S g
    obtain ⟨v, e, r⟩ := h2.get (List.getElem?_eq_getElem hi)
    refine ⟨⟨vs, v, h1, e⟩, fun x H' ⟨T', w, e1, e2, e3, y⟩ => ?_⟩
    subst e1 e3
    have z := y vs h1
    rw [e] at z
    cases z
    have lb := le_upd (o := HO.tup [.int (i : Nat), v]) (S.freshB e2)
    refine ⟨_, .tup [.int (i : Nat), us[i]], lb, S.laid e2, ?_, ⟨T', _, rfl, .of upd_same, Trs.cons (show Tr K _ (.int _) (.int (i : Nat)) from rfl) (Trs.cons (r.mono lb) Trs.nil)⟩⟩
    rw [List.getElem?_map, List.getElem?_zipIdx, List.getElem?_eq_getElem hi]
    simp
  stop := fun Φ i H B μ le S g hi => by
    rw [List.length_map, List.length_zipIdx] at hi
    obtain ⟨vs, h1, h2⟩ := l Φ H B μ le S g
    exact ⟨vs, h1, by rw [h2.length]; exact hi⟩
theorem sim_zip {b : Addr} {ws : List T} {g2 : Sto → Prop} (l : LSrc K L B0 a us gd) (l2 : LSrc K L B0 b ws g2) : Sim K L B0 (Itz K a b) ((us.zip ws).map fun p => .tup [p.1, p.2]) (fun μ' => gd μ' ∧ g2 μ') where
  go := fun Φ i H B μ le S g hi => by
    rw [List.length_map, List.length_zip] at hi
    have i1 : i < us.length := by omega
    have i2 : i < ws.length := by omega
    obtain ⟨vs, h1, h2⟩ := l Φ H B μ le S g.1
    obtain ⟨vs', h1', h2'⟩ := l2 Φ H B μ le S g.2
    obtain ⟨v, e, r⟩ := h2.get (List.getElem?_eq_getElem i1)
    obtain ⟨v', e', r'⟩ := h2'.get (List.getElem?_eq_getElem i2)
    refine ⟨⟨vs, vs', v, v', h1, h1', e, e'⟩, fun x H' ⟨T', w, w', e1, e2, e3, y, y'⟩ => ?_⟩
    subst e1 e3
    have z := y vs h1
    rw [e] at z
    cases z
    have z := y' vs' h1'
    rw [e'] at z
    cases z
    have lb := le_upd (o := HO.tup [v, v']) (S.freshB e2)
    refine ⟨_, .tup [us[i], ws[i]], lb, S.laid e2, ?_, ⟨T', _, rfl, .of upd_same, Trs.cons (r.mono lb) (Trs.cons (r'.mono lb) Trs.nil)⟩⟩
    have ez : (us.zip ws)[i]? = some (us[i], ws[i]) := List.getElem?_zip_eq_some.mpr ⟨List.getElem?_eq_getElem i1, List.getElem?_eq_getElem i2⟩
    rw [List.getElem?_map, ez]
    rfl
  stop := fun Φ i H B μ le S g hi => by
    rw [List.length_map, List.length_zip] at hi
    obtain ⟨vs, h1, h2⟩ := l Φ H B μ le S g.1
    obtain ⟨vs', h1', h2'⟩ := l2 Φ H B μ le S g.2
    exact ⟨vs, vs', h1, h1', by rw [h2.length, h2'.length]; omega⟩
theorem sim_tup {vs : List V} (h : SqT K H a vs) (S : St K L Φ H B0 μ) (hB : SqT K B0 a vs) (r : Trs K B0 vs us) : Sim K L B0 (Itt K a) us any where
  go := fun Φ i H B μ le S g hi => by
    have h1 := Le.seqT S.sub (Le.seqT le hB)
    obtain ⟨v, e, r1⟩ := (r.mono le).get (List.getElem?_eq_getElem hi)
    refine ⟨⟨vs, v, h1, e⟩, fun x H' ⟨e1, y⟩ => ?_⟩
    subst e1
    have z := y vs h1
    rw [e] at z
    cases z
    exact ⟨B, _, Same.refl _, S, List.getElem?_eq_getElem hi, r1⟩
  stop := fun Φ i H B μ le S g hi => ⟨vs, Le.seqT S.sub (Le.seqT le hB), by rw [r.length]; exact hi⟩
theorem sim_str {z : Str} : Sim K L B0 (Its z) (signs z) any where
  go := fun Φ i H B μ le S g hi => by
    unfold signs at hi ⊢
    rw [List.length_map, Array.length_toList] at hi
    refine ⟨hi, fun x H' ⟨e1, c, e2, e3⟩ => ?_⟩
    subst e1 e3
    refine ⟨B, .str ⟨#[c]⟩, Same.refl _, S, ?_, (rfl : V.str _ = V.str ⟨#[c]⟩)⟩
    rw [List.getElem?_map, Array.getElem?_toList, e2]
    rfl
  stop := fun Φ i H B μ le S g hi => by
    unfold signs at hi
    rw [List.length_map, Array.length_toList] at hi
    exact hi
theorem sim_rng {lo : Int} {n : Nat} : Sim K L B0 (Itr lo n) ((List.range n).map fun i => .int (lo + (i : Nat))) any where
  go := fun Φ i H B μ le S g hi => by
    rw [List.length_map, List.length_range] at hi
    refine ⟨hi, fun x H' ⟨e1, e2⟩ => ?_⟩
    subst e1 e2
    refine ⟨B, .int (lo + (i : Nat)), Same.refl _, S, ?_, (rfl : V.int _ = V.int (lo + (i : Nat)))⟩
    rw [List.getElem?_map, List.getElem?_range hi]
    rfl
  stop := fun Φ i H B μ le S g hi => by
    rw [List.length_map, List.length_range] at hi
    exact hi
end
end Rh

namespace Rh
open PySem PySem.Spec PyProof.Rows L2

/-! ## 14. Each form of the core does what it says -/
section
variable {X : Cx} {L : Lay} {W : WX} {G : Tab} {Γ : Nat → TSp} {c : SC} {pos : Pos}
theorem plainN_ok {x : Str} (h : plainN x = true) : (x == ("__debug__" : Str)) = false ∧ (x == ("__classdict__" : Str)) = false ∧ x ≠ "__name__" := by
  simp only [plainN, Bool.and_eq_true, Bool.not_eq_true'] at h
  exact ⟨h.1.1, h.1.2, beq_eq_false_iff_ne.mp h.2⟩
theorem stat_of {x : Expr} (h1 : ∀ (env : Env) (es : List Expr), starEach (x :: es) env = (false, eval x env) :: starEach es env := by intro _ _; rfl) (h2 : PlainIx x := by intro _ _; rfl)
    (h3 : ∀ (o : Expr) (p : Pos) (env : Env) (v : Value), assign (.Subscript o x p) env v = (do
      let ov ← holding [v] (eval o env)
      let iv ← holding [v, ov] (eval x env)
      standAt p
      holding [v, ov, iv] (setItem ov iv v)
      release [v, ov, iv] []) := by intro _ _ _ _; rfl)
    (h4 : ∀ (ov iv new : Value), augStore x ov iv new = (do holding [new, ov, iv] (setItem ov iv new); release [new, ov, iv] []; pure .next) := by intro _ _ _; rfl) : Stat x := ⟨h1, h2, h3, h4⟩
theorem k_var (C : Ctx G Γ L c X W) {i : Nat} {x : Str} (hN : c.N[i]? = some x) (hv : vis c.sc x = true) (hp : plainN x = true) : EOk X L W (.Name x pos) (den G Γ (.var i)) :=
  EOk.plain (fun Φ B μ H σ ρ F R Q S sl q kx k => by
    obtain ⟨t, e, q⟩ := q
    obtain ⟨v, e2, r⟩ := sl.2 i t e
    exact sE_of (pe_var (by rw [C.N]; exact hN) (C.vi x hv) (plainN_ok hp).1 (plainN_ok hp).2.1) ⟨v, e2, k.here S r q⟩) fun _ => rfl
theorem k_const {e : Expr} {v : V} {t : T} (p : PE X e (tC v)) (hr : ∀ B, Tr X.K B v t) (he : ∀ whole, isTrue e X.env whole = (do let v ← whole; standAt e.pos; holding [v] (truthy v))) : EOk X L W e (plain fun _ μ _ R => R t μ) :=
  EOk.plain (fun Φ B μ H σ ρ F R Q S sl q kx k => sE_of p (k.here S (hr B) q)) he
theorem k_glob (C : Ctx G Γ L c X W) {k : Nat} {x : Str} {y : Str × T} (hc : G.con k = some y) (hx : y.1 = x) (hg : glb c.sc x = true) (hp : plainN x = true) : EOk X L W (.Name x pos) (den G Γ (.glob k)) :=
  EOk.plain (fun Φ B μ H σ ρ F R Q S sl q kx kk => by
    obtain ⟨z, e, q⟩ := q
    rw [hc] at e
    cases e
    obtain ⟨v, u, h1, h2, h3⟩ := C.g.con k y hc
    rw [hx] at h1
    exact sE_of (pe_glob (C.gl x hg) h1 h2 (plainN_ok hp).1) (kk.here S (h3 B) q)) fun _ => rfl
theorem k_bin {op : Operator} {own : Bool} {a b : Ex} {x y : Expr} (ha : EOk X L W x (den G Γ a)) (hb : EOk X L W y (den G Γ b)) : EOk X L W (.BinOp x op y pos) (den G Γ (.bin op own a b)) :=
  EOk.plain (fun Φ B μ H σ ρ F R Q S sl q kx k => by
    refine sE_of (pe_op (bin_ok (L := L) op own) pe_s pe_s) ?_
    refine ha.v Φ B μ H σ ρ F _ _ S sl q kx fun v t H1 B1 μ1 l1 S1 r1 q1 => ?_
    refine hb.v Φ B1 μ1 H1 σ ρ F _ _ S1 (sl.mono l1) q1 (kx.mono l1) fun w u H2 B2 μ2 l2 S2 r2 q2 => ?_
    exact ⟨Φ, B2, μ2, t, u, R, S2, r1.mono l2, r2, q2, k.mono (l1.trans l2)⟩) fun _ => rfl
theorem k_cpow {a b v : Int} {k1 k2 : Nat} {p1 p2 : Pos} (h : 0 ≤ b ∧ b ≤ 1000 ∧ a.natAbs < 2 ^ 64) (hv : a ^ b.toNat = v) : EOk X L W (.BinOp (.Constant (.int a) k1 p1) .Pow (.Constant (.int b) k2 p2) pos) (den G Γ (.cpow a b v)) :=
  EOk.plain (fun Φ B μ H σ ρ F R Q S sl q kx k => by
    refine sE_of (pe_op op_pow pe_int pe_int) ⟨a, b, rfl, rfl, ⟨h.1, by omega, h.2.2⟩, ?_⟩
    show Q (V.int (a ^ b.toNat)) H
    rw [hv]
    exact k.here S (show Tr X.K B (.int v) (.int v) from rfl) q) fun _ => rfl
theorem k_neg {a : Ex} {x : Expr} (ha : EOk X L W x (den G Γ a)) : EOk X L W (.UnaryOp .USub x pos) (den G Γ (.neg a)) :=
  EOk.plain (fun Φ B μ H σ ρ F R Q S sl q kx k => by
    refine sE_of (pe_un un_neg pe_s) ?_
    refine ha.v Φ B μ H σ ρ F _ _ S sl q kx fun v t H1 B1 μ1 l1 S1 r1 q1 => ?_
    obtain ⟨i, rfl, q1⟩ := q1
    obtain rfl := r1
    exact ⟨i, rfl, k _ _ _ _ _ l1 S1 (show Tr X.K B1 (.int _) (.int _) from rfl) q1⟩) fun _ => rfl
theorem bl_of {K : PySem.W.Frag} {B : Hp} {v : V} {b : Bool} (r : Tr K B v (.bl b)) : v = .bl b := r
theorem k_cmp (C : Ctx G Γ L c X W) {op : CmpOp} {a b : Ex} {x y : Expr} (hn : notSet y = true) (ha : EOk X L W x (den G Γ a)) (hb : EOk X L W y (den G Γ b)) : EOk X L W (.Compare x [op] [y] pos) (den G Γ (.cmp op a b)) := by
  have V : ∀ Φ B μ H σ ρ F R Q, St X.K L Φ H B μ → Slots X.K B σ ρ → (den G Γ (.cmp op a b)).1 ρ μ F R → PostX X.K L Φ B F (WE W σ) → Post X.K L Φ B R Q → tOp (Op2 X.K L (tCmp op)) (sE X x) (sE X y) σ H Q := fun Φ B μ H σ ρ F R Q S sl q kx k => by
    refine ha.v Φ B μ H σ ρ F _ _ S sl q kx fun v t H1 B1 μ1 l1 S1 r1 q1 => ?_
    refine hb.v Φ B1 μ1 H1 σ ρ F _ _ S1 (sl.mono l1) q1 (kx.mono l1) fun w u H2 B2 μ2 l2 S2 r2 q2 => ?_
    exact ⟨Φ, B2, μ2, t, u, R, S2, r1.mono l2, r2, q2, k.mono (l1.trans l2)⟩
  refine ⟨fun Φ B μ H σ ρ F R Q S sl q kx k => sE_of (pe_cmpR (cmp_ok (L := L) C.hu op) pe_s pe_s (marks hn)) (V Φ B μ H σ ρ F R Q S sl q kx k), fun Φ B μ H σ ρ F R Q S sl q kx k => sT_of (pt_cmpR (cmp_ok (L := L) C.hu op) pe_s pe_s (marks hn)) (V Φ B μ H σ ρ F _ _ S sl q kx fun v t H' B' μ' le S' r q => ?_)⟩
  obtain ⟨b, rfl, q⟩ := q
  exact ⟨b, bl_of r, k b H' B' μ' le S' q⟩
theorem k_chain (C : Ctx G Γ L c X W) {op op' : CmpOp} {a b d : Ex} {x y z : Expr} (hn : notSet z = true) (ha : EOk X L W x (den G Γ a)) (hb : EOk X L W y (den G Γ b)) (hd : EOk X L W z (den G Γ d)) :
    EOk X L W (.Compare x [op, op'] [y, z] pos) (den G Γ (.chain op op' a b d)) := by
  have V : ∀ Φ B μ H σ ρ F R Q, St X.K L Φ H B μ → Slots X.K B σ ρ → (den G Γ (.chain op op' a b d)).1 ρ μ F R → PostX X.K L Φ B F (WE W σ) → Post X.K L Φ B R Q → tChain (Op2 X.K L (tCmp op)) (Op2 X.K L (tCmp op')) (sE X x) (sE X y) (sE X z) σ H Q := fun Φ B μ H σ ρ F R Q S sl q kx k => by
    refine ha.v Φ B μ H σ ρ F _ _ S sl q kx fun v t H1 B1 μ1 l1 S1 r1 q1 => ?_
    refine hb.v Φ B1 μ1 H1 σ ρ F _ _ S1 (sl.mono l1) q1 (kx.mono l1) fun w u H2 B2 μ2 l2 S2 r2 q2 => ?_
    refine ⟨Φ, B2, μ2, t, u, _, S2, r1.mono l2, r2, q2, fun v3 t3 H3 B3 μ3 l3 S3 r3 q3 => ?_⟩
    obtain ⟨kk, rfl, q3⟩ := q3
    refine ⟨kk, bl_of r3, ?_⟩
    have l13 := (l1.trans l2).trans l3
    cases kk with
    | false =>
      rw [if_neg Bool.false_ne_true] at q3 ⊢
      exact k _ _ H3 B3 μ3 l13 S3 (show Tr X.K B3 (.bl _) (.bl _) from rfl) q3
    | true =>
      rw [if_pos rfl] at q3 ⊢
      refine hd.v Φ B3 μ3 H3 σ ρ F _ _ S3 (sl.mono l13) q3 (kx.mono l13) fun w4 u4 H4 B4 μ4 l4 S4 r4 q4 => ?_
      exact ⟨Φ, B4, μ4, u, u4, R, S4, r2.mono (l3.trans l4), r4, q4, k.mono (l13.trans l4)⟩
  have hm : lastMarks [op, op'] [y, z] = false := by
    show behindInMarks op' z = false
    exact marks hn
  refine ⟨fun Φ B μ H σ ρ F R Q S sl q kx k => sE_of (pe_chain (cmp_ok (L := L) C.hu op) (cmp_ok (L := L) C.hu op') pe_s pe_s pe_s hm) (V Φ B μ H σ ρ F R Q S sl q kx k), fun Φ B μ H σ ρ F R Q S sl q kx k => sT_of (pt_chain (cmp_ok (L := L) C.hu op) (cmp_ok (L := L) C.hu op') pe_s pe_s pe_s hm) (V Φ B μ H σ ρ F _ _ S sl q kx fun v t H' B' μ' le S' r q => ?_)⟩
  obtain ⟨b, rfl, q⟩ := q
  exact ⟨b, bl_of r, k b H' B' μ' le S' q⟩
/-- three comparisons in a row -/
def tChain3 (r r' r2 : R2) (ta tb tc td : TE) : TE := fun σ H Q => ta σ H fun x H1 => tb σ H1 fun y H2 => r x y H2 fun z H3 => ∃ k, z = .bl k ∧
  (if k = true then tc σ H3 fun w' H4 => r' y w' H4 fun z' H5 => ∃ k', z' = .bl k' ∧ (if k' = true then td σ H5 fun v' H6 => r2 w' v' H6 Q else Q (.bl false) H5) else Q (.bl false) H3)
theorem pe_chain3 {X : Cx} {a b c d : Expr} {ta tb tc td : TE} {pos : Pos} {op op' op2 : CmpOp} {r r' r2 : R2} (ho : OpR X (compareOp op) r) (ho' : OpR X (compareOp op') r') (ho2 : OpR X (compareOp op2) r2) (ha : PE X a ta) (hb : PE X b tb) (hc : PE X c tc) (hd : PE X d td)
    (hm : lastMarks [op, op', op2] [b, c, d] = false) : PE X (.Compare a [op, op', op2] [b, c, d] pos) (tChain3 r r' r2 ta tb tc td) := by
  refine ⟨fun pins s σ H Q I h => ?_⟩
  refine PyProof.Rows.Compare_chain (thn (ha.run pins s σ H _ I h) fun v s1 ⟨x, H1, I1, r1, q1⟩ => PyProof.Rows.chain_link (thn (hb.run pins s1 σ H1 _ I1 q1) fun u s2 ⟨y, H2, I2, r2', q2⟩ =>
    thn (ho pins s2 σ H2 x y v u _ I2 r1 r2' q2) fun d' s3 ⟨z, H3, I3, r3, k, e, q3⟩ => ?_)) hm
  subst e
  cases r3
  refine wpAny_truthy_bool ?_
  cases k with
  | false => exact ite_ff ⟨.bl false, H3, I3, rfl, q3⟩
  | true =>
    refine ite_tt (PyProof.Rows.chain_link (thn (hc.run pins s3 σ H3 _ I3 q3) fun w' s4 ⟨y', H4, I4, r4, q4⟩ => thn (ho' pins s4 σ H4 y y' u w' _ I4 r2' r4 q4) fun d' s5 ⟨z', H5, I5, r5, k', e', q5⟩ => ?_))
    subst e'
    cases r5
    refine wpAny_truthy_bool ?_
    cases k' with
    | false => exact ite_ff ⟨.bl false, H5, I5, rfl, q5⟩
    | true => exact ite_tt (PyProof.Rows.chain_last (thn (hd.run pins s5 σ H5 _ I5 q5) fun w2 s6 ⟨z2, H6, I6, r6, q6⟩ => ho2 pins s6 σ H6 y' z2 w' w2 Q I6 r4 r6 q6))
theorem pt_chain3 {X : Cx} {a b c d : Expr} {ta tb tc td : TE} {pos : Pos} {op op' op2 : CmpOp} {r r' r2 : R2} (ho : OpR X (compareOp op) r) (ho' : OpR X (compareOp op') r') (ho2 : OpR X (compareOp op2) r2) (ha : PE X a ta) (hb : PE X b tb) (hc : PE X c tc) (hd : PE X d td)
    (hm : lastMarks [op, op', op2] [b, c, d] = false) : PT X (.Compare a [op, op', op2] [b, c, d] pos) (tTest (tChain3 r r' r2 ta tb tc td)) := by
  refine ⟨fun pins s σ H Q I h => ?_⟩
  refine PyProof.Rows.isTrue_chain (thn (ha.run pins s σ H _ I h) fun v s1 ⟨x, H1, I1, r1, q1⟩ => PyProof.Rows.test_link (thn (hb.run pins s1 σ H1 _ I1 q1) fun u s2 ⟨y, H2, I2, r2', q2⟩ =>
    thn (ho pins s2 σ H2 x y v u _ I2 r1 r2' q2) fun d' s3 ⟨z, H3, I3, r3, k, e, q3⟩ => ?_)) hm
  subst e
  cases r3
  refine wpAny_truthy_bool ?_
  cases k with
  | false =>
    obtain ⟨k', e', q'⟩ := q3
    cases e'
    exact ite_ff ⟨H3, I3, q'⟩
  | true =>
    refine ite_tt (PyProof.Rows.test_link (thn (hc.run pins s3 σ H3 _ I3 q3) fun w' s4 ⟨y', H4, I4, r4, q4⟩ => thn (ho' pins s4 σ H4 y y' u w' _ I4 r2' r4 q4) fun d' s5 ⟨z', H5, I5, r5, k', e', q5⟩ => ?_))
    subst e'
    cases r5
    refine wpAny_truthy_bool ?_
    cases k' with
    | false =>
      obtain ⟨k', e', q'⟩ := q5
      cases e'
      exact ite_ff ⟨H5, I5, q'⟩
    | true =>
      refine ite_tt (PyProof.Rows.test_last (thn (hd.run pins s5 σ H5 _ I5 q5) fun w2 s6 ⟨z2, H6, I6, r6, q6⟩ => thn (ho2 pins s6 σ H6 y' z2 w' w2 _ I6 r4 r6 q6) fun d' s7 ⟨z3, H7, I7, r7, k2, e2, q7⟩ => ?_))
      subst e2
      cases r7
      exact wpAny_truthy_bool ⟨H7, I7, q7⟩
theorem k_chain3 (C : Ctx G Γ L c X W) {op op' op2 : CmpOp} {a b d f : Ex} {x y z w : Expr} (hn : notSet w = true) (ha : EOk X L W x (den G Γ a)) (hb : EOk X L W y (den G Γ b)) (hd : EOk X L W z (den G Γ d)) (hf : EOk X L W w (den G Γ f)) :
    EOk X L W (.Compare x [op, op', op2] [y, z, w] pos) (den G Γ (.chain3 op op' op2 a b d f)) := by
  have V : ∀ Φ B μ H σ ρ F R Q, St X.K L Φ H B μ → Slots X.K B σ ρ → (den G Γ (.chain3 op op' op2 a b d f)).1 ρ μ F R → PostX X.K L Φ B F (WE W σ) → Post X.K L Φ B R Q → tChain3 (Op2 X.K L (tCmp op)) (Op2 X.K L (tCmp op')) (Op2 X.K L (tCmp op2)) (sE X x) (sE X y) (sE X z) (sE X w) σ H Q := fun Φ B μ H σ ρ F R Q S sl q kx k => by
    refine ha.v Φ B μ H σ ρ F _ _ S sl q kx fun v t H1 B1 μ1 l1 S1 r1 q1 => ?_
    refine hb.v Φ B1 μ1 H1 σ ρ F _ _ S1 (sl.mono l1) q1 (kx.mono l1) fun w u H2 B2 μ2 l2 S2 r2 q2 => ?_
    refine ⟨Φ, B2, μ2, t, u, _, S2, r1.mono l2, r2, q2, fun v3 t3 H3 B3 μ3 l3 S3 r3 q3 => ?_⟩
    obtain ⟨kk, rfl, q3⟩ := q3
    refine ⟨kk, bl_of r3, ?_⟩
    have l13 := (l1.trans l2).trans l3
    cases kk with
    | false =>
      rw [if_neg Bool.false_ne_true] at q3 ⊢
      exact k _ _ H3 B3 μ3 l13 S3 (show Tr X.K B3 (.bl _) (.bl _) from rfl) q3
    | true =>
      rw [if_pos rfl] at q3 ⊢
      refine hd.v Φ B3 μ3 H3 σ ρ F _ _ S3 (sl.mono l13) q3 (kx.mono l13) fun w4 u4 H4 B4 μ4 l4 S4 r4 q4 => ?_
      refine ⟨Φ, B4, μ4, u, u4, _, S4, r2.mono (l3.trans l4), r4, q4, fun v5 t5 H5 B5 μ5 l5 S5 r5 q5 => ?_⟩
      obtain ⟨kk, rfl, q5⟩ := q5
      refine ⟨kk, bl_of r5, ?_⟩
      have l15 := (l13.trans l4).trans l5
      cases kk with
      | false =>
        rw [if_neg Bool.false_ne_true] at q5 ⊢
        exact k _ _ H5 B5 μ5 l15 S5 (show Tr X.K B5 (.bl _) (.bl _) from rfl) q5
      | true =>
        rw [if_pos rfl] at q5 ⊢
        refine hf.v Φ B5 μ5 H5 σ ρ F _ _ S5 (sl.mono l15) q5 (kx.mono l15) fun w6 u6 H6 B6 μ6 l6 S6 r6 q6 => ?_
        exact ⟨Φ, B6, μ6, u4, u6, R, S6, r4.mono (l5.trans l6), r6, q6, k.mono (l15.trans l6)⟩
  have hm : lastMarks [op, op', op2] [y, z, w] = false := by
    show behindInMarks op2 w = false
    exact marks hn
  refine ⟨fun Φ B μ H σ ρ F R Q S sl q kx k => sE_of (pe_chain3 (cmp_ok (L := L) C.hu op) (cmp_ok (L := L) C.hu op') (cmp_ok (L := L) C.hu op2) pe_s pe_s pe_s pe_s hm) (V Φ B μ H σ ρ F R Q S sl q kx k), fun Φ B μ H σ ρ F R Q S sl q kx k => sT_of (pt_chain3 (cmp_ok (L := L) C.hu op) (cmp_ok (L := L) C.hu op') (cmp_ok (L := L) C.hu op2) pe_s pe_s pe_s pe_s hm) (V Φ B μ H σ ρ F _ _ S sl q kx fun v t H' B' μ' le S' r q => ?_)⟩
  obtain ⟨b, rfl, q⟩ := q
  exact ⟨b, bl_of r, k b H' B' μ' le S' q⟩
theorem k_not {a : Ex} {x : Expr} (ha : EOk X L W x (den G Γ a)) : EOk X L W (.UnaryOp .Not x pos) (den G Γ (.not a)) := by
  refine ⟨fun Φ B μ H σ ρ F R Q S sl q kx k => sE_of (pe_notT pe_s) ?_, fun Φ B μ H σ ρ F R Q S sl q kx k => sT_of (pt_not pt_s) ?_⟩
  · refine ha.v Φ B μ H σ ρ F _ _ S sl q kx fun v t H1 B1 μ1 l1 S1 r1 q1 => ?_
    obtain ⟨b, h1, h2⟩ := tru_okT S1 r1 q1
    exact ⟨b, h1, k _ _ _ _ _ l1 S1 (show Tr X.K B1 (.bl _) (.bl _) from rfl) h2⟩
  · exact ha.t Φ B μ H σ ρ F _ _ S sl q kx fun b H1 B1 μ1 l1 S1 q1 => k _ _ _ _ l1 S1 q1
theorem k_ife {d a b : Ex} {z x y : Expr} (hd : EOk X L W z (den G Γ d)) (ha : EOk X L W x (den G Γ a)) (hb : EOk X L W y (den G Γ b)) : EOk X L W (.IfExp z x y pos) (den G Γ (.ife d a b)) := by
  refine ⟨fun Φ B μ H σ ρ F R Q S sl q kx k => sE_of (pe_ifExp pt_s pe_s pe_s) ?_, fun Φ B μ H σ ρ F R Q S sl q kx k => False.elim q⟩
  refine hd.t Φ B μ H σ ρ F _ _ S sl q kx fun kk H1 B1 μ1 l1 S1 q1 => ?_
  cases kk with
  | true =>
    rw [if_pos rfl] at q1 ⊢
    exact ha.v Φ B1 μ1 H1 σ ρ F _ _ S1 (sl.mono l1) q1 (kx.mono l1) (k.mono l1)
  | false =>
    rw [if_neg Bool.false_ne_true] at q1 ⊢
    exact hb.v Φ B1 μ1 H1 σ ρ F _ _ S1 (sl.mono l1) q1 (kx.mono l1) (k.mono l1)
theorem boV_ok {w : Bool} : ∀ {xs : List Expr} {ps : List (TEx × TTe)}, Paired (fun e p => EOk X L W e p ∧ Stat e) xs ps → VOk X L W (.BoolOp (if w then .And else .Or) xs pos) (boV w ps)
  | _, _, .nil => fun Φ B μ H σ ρ F R Q S sl q kx k => False.elim q
  | _, _, .cons ⟨h, _⟩ .nil => fun Φ B μ H σ ρ F R Q S sl q kx k => sE_of (pe_one pe_s) (h.v Φ B μ H σ ρ F R Q S sl q kx k)
  | _, _, .cons ⟨h, _⟩ (.cons (a := e2) (b := p2) h2 hs) => fun Φ B μ H σ ρ F R Q S sl q kx k => by
    have ih : VOk X L W (.BoolOp (if w then .And else .Or) (e2 :: _) pos) (boV w (p2 :: _)) := boV_ok (.cons h2 hs)
    cases w with
    | true =>
      refine sE_of (pe_andT pe_s (pe_s (e := .BoolOp .And (e2 :: _) pos))) ?_
      refine h.v Φ B μ H σ ρ F _ _ S sl q kx fun v t H1 B1 μ1 l1 S1 r1 q1 => ?_
      obtain ⟨b, h1, q1⟩ := tru_okT S1 r1 q1
      refine ⟨b, h1, ?_⟩
      cases b with
      | true =>
        rw [if_pos rfl] at q1 ⊢
        exact ih Φ B1 μ1 H1 σ ρ F _ _ S1 (sl.mono l1) q1 (kx.mono l1) (k.mono l1)
      | false =>
        rw [if_neg Bool.false_ne_true] at q1 ⊢
        exact k v t H1 B1 μ1 l1 S1 r1 q1
    | false =>
      refine sE_of (pe_orT pe_s (pe_s (e := .BoolOp .Or (e2 :: _) pos))) ?_
      refine h.v Φ B μ H σ ρ F _ _ S sl q kx fun v t H1 B1 μ1 l1 S1 r1 q1 => ?_
      obtain ⟨b, h1, q1⟩ := tru_okT S1 r1 q1
      refine ⟨b, h1, ?_⟩
      cases b with
      | true =>
        rw [if_neg (by decide : ¬ (true = false))] at q1
        rw [if_pos rfl]
        exact k v t H1 B1 μ1 l1 S1 r1 q1
      | false =>
        rw [if_pos rfl] at q1
        rw [if_neg Bool.false_ne_true]
        exact ih Φ B1 μ1 H1 σ ρ F _ _ S1 (sl.mono l1) q1 (kx.mono l1) (k.mono l1)
def sW (X : Cx) (e : Expr) : TT := fun σ H Q => ∀ whole pins s, L2.Inv X pins σ H s → wpAny (model X.prog X.w) X.A (isTrue e X.env whole) (TP X pins σ Q) X.xe s
theorem pw_s {e : Expr} : PW X e (sW X e) := ⟨fun whole pins s _ _ _ I h => h whole pins s I⟩
theorem sW_of {e : Expr} {t : TT} {σ : L2.St} {H : Hp} {Q : Bool → Hp → Prop} (p : PW X e t) (h : t σ H Q) : sW X e σ H Q := fun wh pins s I => p.run wh pins s σ H Q I h
def WOk (X : Cx) (L : Lay) (W : WX) (e : Expr) (tt : TTe) : Prop := ∀ Φ B μ H σ ρ F R Q, St X.K L Φ H B μ → Slots X.K B σ ρ → tt ρ μ F R → PostX X.K L Φ B F (WE W σ) → PostB X.K L Φ B R Q → sW X e σ H Q
theorem boT_ok {w : Bool} : ∀ {xs : List Expr} {ps : List (TEx × TTe)}, Paired (fun e p => EOk X L W e p ∧ Stat e) xs ps → WOk X L W (.BoolOp (if w then .And else .Or) xs pos) (boT w ps)
  | _, _, .nil => fun Φ B μ H σ ρ F R Q S sl q kx k => False.elim q
  | _, _, .cons ⟨h, _⟩ .nil => fun Φ B μ H σ ρ F R Q S sl q kx k => by
    cases w with
    | true => exact sW_of (pw_and1 pt_s) (h.t Φ B μ H σ ρ F R Q S sl q kx k)
    | false => exact sW_of (pw_or1 pt_s) (h.t Φ B μ H σ ρ F R Q S sl q kx k)
  | _, _, .cons ⟨h, _⟩ (.cons (a := e2) (b := p2) h2 hs) => fun Φ B μ H σ ρ F R Q S sl q kx k => by
    have ih : WOk X L W (.BoolOp (if w then .And else .Or) (e2 :: _) pos) (boT w (p2 :: _)) := boT_ok (.cons h2 hs)
    cases w with
    | true =>
      refine sW_of (pw_and pt_s (pw_s (e := .BoolOp .And (e2 :: _) pos))) ?_
      refine h.t Φ B μ H σ ρ F _ _ S sl q kx fun b H1 B1 μ1 l1 S1 q1 => ?_
      cases b with
      | true =>
        rw [if_pos rfl] at q1 ⊢
        exact ih Φ B1 μ1 H1 σ ρ F _ _ S1 (sl.mono l1) q1 (kx.mono l1) fun b' H' B' μ' l' => k b' H' B' μ' (l1.trans l')
      | false =>
        rw [if_neg Bool.false_ne_true] at q1 ⊢
        exact k _ H1 B1 μ1 l1 S1 q1
    | false =>
      refine sW_of (pw_or pt_s (pw_s (e := .BoolOp .Or (e2 :: _) pos))) ?_
      refine h.t Φ B μ H σ ρ F _ _ S sl q kx fun b H1 B1 μ1 l1 S1 q1 => ?_
      cases b with
      | true =>
        rw [if_neg (by decide : ¬ (true = false))] at q1
        rw [if_pos rfl]
        exact k _ H1 B1 μ1 l1 S1 q1
      | false =>
        rw [if_pos rfl] at q1
        rw [if_neg Bool.false_ne_true]
        exact ih Φ B1 μ1 H1 σ ρ F _ _ S1 (sl.mono l1) q1 (kx.mono l1) fun b' H' B' μ' l' => k b' H' B' μ' (l1.trans l')
theorem k_andor {w : Bool} {es : List Ex} {xs : List Expr} (h : Paired (fun e p => EOk X L W e p ∧ Stat e) xs (dens G Γ es)) : EOk X L W (.BoolOp (if w then .And else .Or) xs pos) (den G Γ (.andor w es)) :=
  ⟨boV_ok h, fun Φ B μ H σ ρ F R Q S sl q kx k => sT_of pw_s.pt (boT_ok h Φ B μ H σ ρ F R Q S sl q kx k)⟩
theorem k_idx (C : Ctx G Γ L c X W) {a b : Ex} {x y : Expr} (sy : Stat y) (ha : EOk X L W x (den G Γ a)) (hb : EOk X L W y (den G Γ b)) : EOk X L W (.Subscript x y pos) (den G Γ (.idx a b)) :=
  EOk.plain (fun Φ B μ H σ ρ F R Q S sl q kx k => by
    refine sE_of (pe_ix (idx_ok (L := L) C.hu) pe_s pe_s sy.ix) ?_
    refine ha.v Φ B μ H σ ρ F _ _ S sl q kx fun v t H1 B1 μ1 l1 S1 r1 q1 => ?_
    refine hb.v Φ B1 μ1 H1 σ ρ F _ _ S1 (sl.mono l1) q1 (kx.mono l1) fun w u H2 B2 μ2 l2 S2 r2 q2 => ?_
    exact ⟨Φ, B2, μ2, t, u, R, S2, r1.mono l2, r2, q2, k.mono (l1.trans l2)⟩) fun _ => rfl
/-- a part of a slice -/
def OOk (X : Cx) (L : Lay) (W : WX) (o : Option Expr) (lo : Ex) (te : TEx) : Prop := ∃ to, PO X o to ∧ ∀ Φ B μ H σ ρ F (R : Option Int → Sto → Prop) (Q : Option Int → Hp → Prop), St X.K L Φ H B μ → Slots X.K B σ ρ → te ρ μ F (fun t μ1 => ∃ l, optI lo t = some l ∧ R l μ1) → PostX X.K L Φ B F (WE W σ) →
  (∀ l H' B' μ', Le B B' → St X.K L Φ H' B' μ' → R l μ' → Q l H') → to σ H Q
theorem o_none : OOk X L W none .cnon (den G Γ .cnon).1 := ⟨_, po_none, fun Φ B μ H σ ρ F R Q S sl q kx k => by
  obtain ⟨l, e, q⟩ := q
  cases e
  exact k none H B μ (Same.refl _) S q⟩
theorem o_some {a : Ex} {x : Expr} (hn : a ≠ .cnon) (ha : EOk X L W x (den G Γ a)) : OOk X L W (some x) a (den G Γ a).1 := ⟨_, po_some pe_s, fun Φ B μ H σ ρ F R Q S sl q kx k => by
  refine ha.v Φ B μ H σ ρ F _ _ S sl q kx fun v t H1 B1 μ1 l1 S1 r1 q1 => ?_
  obtain ⟨l, e, q1⟩ := q1
  unfold optI at e
  split at e
  · exact absurd rfl hn
  · cases e
    exact ⟨_, r1, k _ H1 B1 μ1 l1 S1 q1⟩
  · cases e⟩
theorem k_slice {own : Bool} {a lo hi : Ex} {x : Expr} {l h : Option Expr} {p2 : Pos} (ha : EOk X L W x (den G Γ a)) (hl : OOk X L W l lo (den G Γ lo).1) (hh : OOk X L W h hi (den G Γ hi).1) :
    EOk X L W (.Subscript x (.Slice l h none p2) pos) (den G Γ (.slice own a lo hi)) := by
  obtain ⟨tl, pl, hl⟩ := hl
  obtain ⟨th, ph, hh⟩ := hh
  refine EOk.plain (fun Φ B μ H σ ρ F R Q S sl q kx k => ?_) fun _ => rfl
  refine sE_of (pe_slice (slice_ok (L := L) own) pe_s pl ph) ?_
  refine ha.v Φ B μ H σ ρ F _ _ S sl q kx fun v t H1 B1 μ1 l1 S1 r1 q1 => ?_
  refine hl Φ B1 μ1 H1 σ ρ F _ _ S1 (sl.mono l1) q1 (kx.mono l1) fun l' H2 B2 μ2 l2 S2 q2 => ?_
  refine hh Φ B2 μ2 H2 σ ρ F _ _ S2 (sl.mono (l1.trans l2)) q2 (kx.mono (l1.trans l2)) fun h' H3 B3 μ3 l3 S3 q3 => ?_
  exact ⟨Φ, B3, μ3, t, R, S3, r1.mono (l2.trans l3), q3, k.mono ((l1.trans l2).trans l3)⟩
theorem k_lst {own : Bool} {es : List Ex} {xs : List Expr} (h : Paired (fun e p => EOk X L W e p ∧ Stat e) xs (dens G Γ es)) : EOk X L W (.List xs pos) (den G Γ (.lst own es)) :=
  EOk.plain (fun Φ B μ H σ ρ F R Q S sl q kx k => by
    refine sE_of (pe_lst pa_s) ?_
    refine AOk.of h Φ B μ H σ ρ F _ _ S sl q kx fun vs ts H1 B1 μ1 l1 S1 r1 n1 q1 => ?_
    exact ⟨by rw [r1.length]; exact q1.1, fun p hp => newL_ok S1 r1 q1.2 (k.mono l1) hp⟩) fun _ => rfl
theorem k_tup {es : List Ex} {xs : List Expr} {kk : Nat} (h : Paired (fun e p => EOk X L W e p ∧ Stat e) xs (dens G Γ es)) : EOk X L W (.Tuple xs kk pos) (den G Γ (.tup es)) :=
  EOk.plain (fun Φ B μ H σ ρ F R Q S sl q kx k => by
    refine sE_of (pe_tup pa_s) ?_
    refine AOk.of h Φ B μ H σ ρ F _ _ S sl q kx fun vs ts H1 B1 μ1 l1 S1 r1 n1 q1 => ?_
    exact ⟨by rw [r1.length]; exact q1.1, fun p hp => newT_ok S1 r1 q1.2 (k.mono l1) hp⟩) fun _ => rfl
theorem newD_ok {K : PySem.W.Frag} {Φ H B : Hp} {μ : Sto} {R : RP} {Q : VK} {ks : List (Key × V)} {kvs : List (Key × T)} {p : Addr} (S : St K L Φ H B μ) (hp : H p = none) (r : KTs K B ks kvs) (k : Post K L Φ B R Q) (h : R (.own p) (μ.set p (.dict kvs))) : Q (.ref p) (upd H p (.dK ks)) :=
  k _ (.own p) _ B _ (Same.refl _) (S.put (S.freshB hp) (S.freshF hp) (show ObOk K L (upd H p (.dK ks)) B p (.dict kvs) from ⟨ks, upd_same, r⟩)) rfl h
theorem k_dict0 : EOk X L W (.Dict [] [] pos) (den G Γ (.dict [] [])) :=
  EOk.plain (fun Φ B μ H σ ρ F R Q S sl q kx k => by
    refine sE_of pe_dnewK fun p hp => ?_
    have q : ∀ p, μ p = none → R (.own p) (μ.set p (.dict [])) := q
    exact newD_ok S hp .nil k (q p (S.fresh hp))) fun _ => rfl
/-- a thing of ours that only the frame knows -/
theorem St.frame {K : PySem.W.Frag} {Φ H B : Hp} {μ : Sto} {p : Addr} {o : HO} (S : St K L Φ H B μ) (hp : H p = none) : St K L (upd Φ p o) (upd H p o) B μ := by
  have S' := S.aside (o := o) hp
  refine ⟨S'.sub, S'.sto, fun q u e => ?_⟩
  by_cases h : q = p
  · subst h
    rw [upd_same] at e
    cases e
    exact ⟨upd_same, S.freshB hp, S.fresh hp⟩
  · rw [upd_ne h] at e
    exact S'.frm q u e
theorem St.reframe {K : PySem.W.Frag} {Φ H B : Hp} {μ : Sto} {p : Addr} {o o' : HO} (S : St K L (upd Φ p o) H B μ) : St K L (upd Φ p o') (upd H p o') B μ := by
  obtain ⟨_, hB, hμ⟩ := S.frm p o upd_same
  refine ⟨fun b u e => ?_, fun q ob e => ?_, fun q u e => ?_⟩
  · rw [upd_ne (ne_of_none e hB)]
    exact S.sub _ _ e
  · have hq : q ≠ p := fun z => by
      rw [z, hμ] at e
      cases e
    obtain ⟨h1, h2⟩ := S.sto q ob e
    exact ⟨h1, h2.mono (Same.refl _) (upd_ne hq)⟩
  · by_cases h : q = p
    · subst h
      rw [upd_same] at e
      cases e
      exact ⟨upd_same, hB, hμ⟩
    · rw [upd_ne h] at e
      obtain ⟨a, b, d⟩ := S.frm q u (by rw [upd_ne h]; exact e)
      exact ⟨by rw [upd_ne h]; exact a, b, d⟩
/-- it is ours again -/
theorem St.unframe {K : PySem.W.Frag} {Φ H B : Hp} {μ : Sto} {p : Addr} {o : HO} (S : St K L (upd Φ p o) H B μ) (hF : Φ p = none) : St K L Φ H B μ ∧ H p = some o ∧ B p = none ∧ μ p = none := by
  obtain ⟨hH, hB, hμ⟩ := S.frm p o upd_same
  exact ⟨⟨S.sub, S.sto, fun q u e => S.frm q u (by rw [upd_ne (ne_of_none e hF)]; exact e)⟩, hH, hB, hμ⟩
theorem St.give {K : PySem.W.Frag} {Φ H B : Hp} {μ : Sto} {p : Addr} {o : HO} {ob : Ob} (S : St K L Φ H B μ) (hH : H p = some o) (hB : B p = none) (hF : Φ p = none) (h : ObOk K L H B p ob) : St K L Φ H B (μ.set p ob) := by
  have e : upd H p o = H := by
    funext q
    by_cases z : q = p
    · subst z
      rw [upd_same, hH]
    · exact upd_ne z
  have := S.put (p := p) (o := o) (ob := ob) hB hF (by rw [e]; exact h)
  rwa [e] at this
theorem St.still {K : PySem.W.Frag} {Φ H B : Hp} {μ : Sto} {p : Addr} {o : HO} (S : St K L Φ H B μ) (hH : H p = some o) (hB : B p = none) (hF : Φ p = none) (hμ : μ p = none) : Le B (upd B p o) ∧ St K L Φ H (upd B p o) μ := by
  refine ⟨le_upd hB, fun b u e => ?_, fun q ob e => ?_, fun q u e => ?_⟩
  · by_cases h : b = p
    · subst h
      rw [upd_same] at e
      cases e
      exact hH
    · rw [upd_ne h] at e
      exact S.sub _ _ e
  · have hq : q ≠ p := fun z => by
      rw [z, hμ] at e
      cases e
    obtain ⟨h1, h2⟩ := S.sto q ob e
    exact ⟨by rw [upd_ne hq]; exact h1, h2.mono (le_upd hB) rfl⟩
  · obtain ⟨a, b, d⟩ := S.frm q u e
    have hq : q ≠ p := fun z => by
      rw [z, hF] at e
      cases e
    exact ⟨a, by rw [upd_ne hq]; exact b, d⟩
theorem claimL {K : PySem.W.Frag} {Φ H B : Hp} {μ : Sto} {R : RP} {Q : VK} {own : Bool} {p : Addr} {vs : List V} {ts : List T} (S : St K L (upd Φ p (.lst vs)) H B μ) (hF : Φ p = none) (r : Trs K B vs ts) (h : newL own ts μ R) (k : Post K L Φ B R Q) : Q (.ref p) H := by
  obtain ⟨S1, hH, hB, hμ⟩ := S.unframe hF
  cases own with
  | true =>
    have h : ∀ p, μ p = none → R (.own p) (μ.set p (.lst ts)) := h
    exact k _ (.own p) H B _ (Same.refl _) (S1.give hH hB hF (show ObOk K L H B p (.lst ts) from ⟨vs, hH, r⟩)) rfl (h p hμ)
  | false =>
    have h : R (.lst ts) μ := h
    obtain ⟨le, S2⟩ := S1.still hH hB hF hμ
    exact k _ (.lst ts) H _ _ le S2 ⟨p, vs, rfl, upd_same, r.mono le⟩ h
theorem k_dict1 {a b : Ex} {x y : Expr} (ha : EOk X L W x (den G Γ a)) (hb : EOk X L W y (den G Γ b)) : EOk X L W (.Dict [some x] [y] pos) (den G Γ (.dict [a] [b])) :=
  EOk.plain (fun Φ B μ H σ ρ F R Q S sl q kx k => by
    refine sE_of (pe_disp (pps_cons pe_s pe_s pps_nil) (by rfl) (by rfl) (fun z => by cases z) (show 1 ≤ 15 by omega)) fun p hp => ?_
    have kx' : PostX X.K L (upd Φ p (.dK [])) B F (WE W σ) := fun c' H' B' μ' l S' f => kx c' H' B' μ' l (S'.unframe (S.freshF hp)).1 f
    refine ha.v _ B μ _ σ ρ F _ _ (S.frame hp) sl q kx' fun v t H1 B1 μ1 l1 S1 r1 q1 => ?_
    refine hb.v _ B1 μ1 H1 σ ρ F _ _ S1 (sl.mono l1) q1 (kx'.mono l1) fun w u H2 B2 μ2 l2 S2 r2 q2 => ?_
    obtain ⟨k', e, q2⟩ := q2
    obtain ⟨S3, hH, hB, hμ⟩ := S2.unframe (S.freshF hp)
    have ek := keyT_ok (r1.mono l2) e
    subst ek
    refine ⟨hH, [(k', w)], rfl, by simp, ?_⟩
    have rr : KTs X.K B2 [(k', w)] [(k', u)] := .cons ⟨rfl, r2⟩ .nil
    exact k _ (.own p) _ B2 _ (l1.trans l2) (S3.put hB (S.freshF hp) (show ObOk X.K L (upd H2 p (.dK [(k', w)])) B2 p (.dict [(k', u)]) from ⟨_, upd_same, rr⟩)) rfl (q2 p hμ)) fun _ => rfl
end
end Rh

namespace Rh
open PySem PySem.Spec PyProof.Rows L2
/-! ## 14b. list(reversed(a list)) -/
section
variable {prog : Program} {w : World} {A : Around} {E : Value → Shared → Prop} {s : Shared}
theorem ext_rev {it l S : Addr} {items : Array Value} {R : Result → Shared → Prop} (hh : A.handled = none) (hit : s.heap.IsRevIter it l ((items.size : Int) - 1)) (hl : s.heap.IsList l items) (hne : l ≠ it) (hn : items.size ≤ sizeLine)
    (hSi : S ≠ it) (hSl : S ≠ l) (res : Value) (c₀ : Nat) (hS : s.heap.get? S = some { cls := .type "list", data := .seq #[] c₀ })
    (hR : ∀ h' tk acc' c', (∀ b o, b ≠ S → b ≠ it → s.heap.get? b = some o → h'.get? b = some o) → h'.get? S = some { cls := .type "list", dict := none, data := .seq acc' c', slots := #[] } → ItemsOf (fun i v => items[items.size - 1 - i]? = some v) acc' items.size → R (.ok (.ret res)) { s with heap := h', toks := tk }) :
    wpAny (model prog w) A.in1 (Builtin.List.listExtendWith (.ref S) (.ref it) res)
      (fun fin s' => match fin with | .done f => R (.ok f) s' | .again c' => c'.quiet = true ∧ codeAny (model prog w) A c' R s') (fun e s' => R (.error e) s') s := by
  have hh1 : A.in1.handled = none := hh
  have W := (Walks.listRev (prog := prog) (w := w) (A := A.in1) hh1 it l hne items).toS
  have hSf : S ∉ [it, l] := by simp only [List.mem_cons, List.not_mem_nil, or_false, not_or]; exact ⟨hSi, hSl⟩
  have hT : s.TypeIs (.ref it) "list_reverseiterator" := hit.typeIs
  have h1 : Builtin.List.listSameRef (.ref S) (.ref it) = false := by simp [Builtin.List.listSameRef, hSi]
  unfold Builtin.List.listExtendWith
  refine wpAny_bind (wpAny_typeOf hT ?_)
  rw [if_neg (by rw [h1]; decide)]
  refine wpAny_bind (wpAny_pyIter_revIter hit ?_)
  refine wpAny_bind (wpAny_holding ?_)
  unfold Builtin.List.listLengthHint
  refine wpAny_bind (wpAny_specialOf hT RT.nolen_lri ?_)
  show wpAny _ A.in1 (specialOf (Value.ref it) (Str.ofString "__length_hint__") >>= _) _ _ _
  refine wpAny_bind (wpAny_specialOf hT RT.hint_lri ?_)
  generalize hid : ("list_reverseiterator.__length_hint__" : String) = id0
  wp_delta
  rw [show splitId id0 = some ("list_reverseiterator", "__length_hint__") from by subst hid; decide +kernel]
  subst hid
  refine wpAny_bind (wpAny_isInstance (b := true) hT (by rw [isSubtype_type]; kernel_rfl) ?_)
  refine wpAny_pure ?_
  rw [if_neg (by decide)]
  have e0 : ((items.size : Nat) : Int) - 1 - ((0 : Nat) : Int) = (items.size : Int) - 1 := by omega
  refine wpAny_pure ⟨plainId_quiet F.plain_extend_loop _, codeAny_extend_loopS W hn _ hSf _ items.size 0 _ _ _ rfl (Nat.zero_le _) ⟨Nat.zero_le _, by rw [e0]; exact hit, hl⟩ hS (ItemsOf.nil _) fun s' acc' c' hm hS' hacc => ?_⟩
  rw [Moved.eq_with hm]
  refine hR s'.heap s'.toks acc' c' (fun b o hb hb2 e => hm.heap b o (fun hmem => ?_) e) hS' hacc
  rcases List.mem_cons.mp hmem with e' | hmem
  · exact hb e'
  · exact hb2 (List.mem_singleton.mp hmem)
theorem init_rev {it l S : Addr} {items : Array Value} {R : Result → Shared → Prop} (hh : A.handled = none) (hit : s.heap.IsRevIter it l ((items.size : Int) - 1)) (hl : s.heap.IsList l items) (hne : l ≠ it) (hn : items.size ≤ sizeLine)
    (hSi : S ≠ it) (hSl : S ≠ l) (hS : s.heap.get? S = some { cls := .type "list", data := .seq #[] })
    (hR : ∀ h' tk acc' c', (∀ b o, b ≠ S → b ≠ it → s.heap.get? b = some o → h'.get? b = some o) → h'.get? S = some { cls := .type "list", dict := none, data := .seq acc' c', slots := #[] } → ItemsOf (fun i v => items[items.size - 1 - i]? = some v) acc' items.size → R (.ok (.ret .none)) { s with heap := h', toks := tk }) :
    wpAny (model prog w) A.in1 (Builtin.«list.__init__» ⟨[.ref S, .ref it], []⟩)
      (fun fin s' => match fin with | .done f => R (.ok f) s' | .again c' => c'.quiet = true ∧ codeAny (model prog w) A c' R s') (fun e s' => R (.error e) s') s := by
  show wpAny _ _ (do let old ← Builtin.List.listItems (.ref S); Builtin.List.listUpdate (.ref S) (fun _ => #[]); letGo old.toList.reverse; Builtin.List.listExtendWith (.ref S) (.ref it) .none) _ _ s
  refine wpAny_bind ?_
  unfold Builtin.List.listItems
  refine wpAny_bind (wpAny_seqItems hS rfl (wpAny_pure ?_))
  show wpAny _ _ (updateSeq S (fun _ => #[]) >>= fun _ => letGo (#[] : Array Value).toList.reverse >>= fun _ => Builtin.List.listExtendWith (.ref S) (.ref it) .none) _ _ s
  refine wpAny_bind (wpAny_updateSeq hS rfl ?_)
  have hS₂ := Heap.get?_update_self (Obj.mapSeq (fun _ => (#[] : Array Value))) hS rfl
  have oth : ∀ b o, b ≠ S → s.heap.get? b = some o → (s.heap.update S (Obj.mapSeq (fun _ => (#[] : Array Value)))).get? b = some o :=
    fun b o hb e => (Heap.get?_update_other _ _ (Ne.symm hb)).trans e
  refine wpAny_bind (wpAny_letGo ?_)
  have hl2 : (s.heap.update S (Obj.mapSeq (fun _ => (#[] : Array Value)))).IsList l items := by
    obtain ⟨ol, e, r⟩ := hl
    exact ⟨ol, oth _ _ hSl.symm e, r⟩
  refine ext_rev hh (hit.at fun o e => oth _ _ hSi.symm e) hl2 hne hn hSi hSl .none _ hS₂ (fun h' tk acc' c' hk hS' hacc => ?_)
  exact hR h' tk acc' c' (fun b o hb hb2 e => hk b o hb hb2 (oth b o hb e)) hS' hacc
theorem call_list_rev {it l : Addr} {items : Array Value} {Q : Value → Shared → Prop} (hh : A.handled = none) (hit : s.heap.IsRevIter it l ((items.size : Int) - 1)) (hl : s.heap.IsList l items) (hne : l ≠ it) (hn : items.size ≤ sizeLine)
    (hQ : ∀ h' tk acc' c', (∀ b o, b ≠ it → s.heap.get? b = some o → h'.get? b = some o) → h'.get? s.heap.objs.size = some { cls := .type "list", dict := none, data := .seq acc' c', slots := #[] } → ItemsOf (fun i v => items[items.size - 1 - i]? = some v) acc' items.size → Q (.ref s.heap.objs.size) { s with heap := h', toks := tk }) :
    wpAny (model prog w) A (call (.type "list") [.ref it]) Q E s := by
  refine callType_codes (Q₁ := fun obj s₁ => obj = .ref s.heap.objs.size ∧ s₁ = { s with heap := s.heap.push { cls := .type "list", data := .seq #[] } }) PySem.F.called_list (PySem.F.typeCall_list_1 _) PySem.F.entry_list_init
    (code_list_new _ ⟨rfl, rfl⟩) fun obj s₁ h₁ => ?_
  obtain ⟨rfl, rfl⟩ := h₁
  have hS : (s.heap.push { cls := .type "list", data := .seq #[] }).get? s.heap.objs.size = some { cls := .type "list", data := .seq #[] } := Heap.get?_push_size _ rfl
  obtain ⟨oi, hoi, _⟩ := id hit
  obtain ⟨ol, hol, _⟩ := id hl
  refine ⟨⟨_, hS, rfl⟩, PySem.F.args_list_init_2 _ _, init_rev (A := A.in1) hh (hit.at fun o e => Heap.get?_push_of_some _ e) (hl.push _) hne hn (Nat.ne_of_gt (Heap.lt_size hoi)) (Nat.ne_of_gt (Heap.lt_size hol)) hS (fun h' tk acc' c' hk hS' hacc => ?_)⟩
  exact ⟨rfl, hQ h' tk acc' c' (fun b o hb e => hk b o (Nat.ne_of_lt (Heap.lt_size e)) hb (Heap.get?_push_of_some _ e)) hS' hacc⟩
end
/-- list(reversed(x)), x a list: a new list -/
def tListRev (K : PySem.W.Frag) (te : TE) : TE := fun σ H Q => te σ H fun v H1 => ∃ (a : Addr) (xs : List V), v = .ref a ∧ SqL K H1 a xs ∧ ∀ q, H1 q = none → Q (.ref q) (upd H1 q (.lst xs.reverse))
theorem pe_listRev {X : Cx} {e : Expr} {te : TE} {p p2 pos pos2 : Pos} (hc : X.calm = true) (hg : Gl X "list") (hm : X.mg "list" = none) (hg2 : Gl X "reversed") (hm2 : X.mg "reversed" = none) (he : PE X e te)
    (hs : starEach [e] X.env = (false, eval e X.env) :: starEach [] X.env := by rfl)
    (hs2 : starEach [.Call (.Name "reversed" p2) [e] [] pos2] X.env = (false, eval (.Call (.Name "reversed" p2) [e] [] pos2) X.env) :: starEach [] X.env := by rfl) :
    PE X (.Call (.Name "list" p) [.Call (.Name "reversed" p2) [e] [] pos2] [] pos) (tListRev X.K te) := by
  refine ⟨fun pins s σ H Q I h => ?_⟩
  refine Call_ (ld_blt I hg hm boot_list (PyProof.Rows.callWith_type1 (args_cons (Call_ (ld_blt I hg2 hm2 PyProof.Rows.boot_reversed (PyProof.Rows.callWith_type1 (args_cons (thn (he.run pins s σ H _ I h) fun u s1 ⟨v, H1, I1, r1, q1⟩ => args_nil ?_) hs) hs rfl))) hs2) hs2 rfl))
  obtain ⟨a, xs, ev, hq, q⟩ := q1
  subst ev
  obtain rfl : u = Value.ref a := r1
  obtain ⟨its, rv, p', hz⟩ := I1.list hq
  refine call_reversed_list p'.isList (args_nil ?_)
  have hl := p'.isList
  obtain ⟨ol, hol, _⟩ := id hl
  have hne : a ≠ s1.heap.objs.size := Nat.ne_of_lt (Heap.lt_size hol)
  have hn : its.toArray.size ≤ sizeLine := by rw [List.size_toArray, ← rv.length]; exact hz
  refine call_list_rev (s := { s1 with heap := s1.heap.push (revObj a ((its.toArray.size : Int) - 1)) }) (I1.ok.hd hc) ⟨_, Heap.get?_push_size _ rfl, rfl, rfl⟩ (hl.push _) hne hn fun h' tk acc c' hk hS hi => ?_
  have hk' : ∀ b o, s1.heap.get? b = some o → h'.get? b = some o := fun b o e => hk b o (Nat.ne_of_lt (Heap.lt_size e)) (Heap.get?_push_of_some _ e)
  have hle : s1.heap.objs.size ≤ (s1.heap.push (revObj a ((its.toArray.size : Int) - 1))).objs.size := by rw [Heap.size_push]; exact Nat.le_succ _
  refine ⟨.ref _, upd H1 (s1.heap.push (revObj a ((its.toArray.size : Int) - 1))).objs.size (.lst xs.reverse), I1.laid (t' := tk) hk' hle (show ObjOk X.prog X.w _ _ _ (.lst xs.reverse) from ⟨by rw [List.length_reverse]; exact hz, acc.toList, c', RT.vals_rev rv hi, ?_⟩), rfl, q _ (I1.hok.fresh hle)⟩
  rw [Array.toArray_toList]
  exact hS
section
variable {X : Cx} {L : Lay} {W : WX} {G : Tab} {Γ : Nat → TSp} {c : SC} {pos : Pos}
/-! ## 15. Calls -/
theorem gName_ok {n x : Str} (h : gName c n x = true) : x = n ∧ glb c.sc x = true := by
  simp only [gName, Bool.and_eq_true, decide_eq_true_eq] at h
  exact h
theorem bif_bl (f : Bif) : bifName f ∈ blNames ∧ bootBuiltins (bifName f) = some (bifVal f) ∧ (bifName f == ("__debug__" : Str)) = false ∧ bifName f ≠ "__name__" := by
  cases f <;> exact ⟨by decide +kernel, by decide +kernel, by decide +kernel, by decide +kernel⟩
theorem callB {x : Str} {u : Value} {p : Pos} {xs : List Expr} {ps : List (TEx × TTe)} {tb : List T → Sto → RP → Prop} (C : Ctx G Γ L c X W) (hs : Paired (fun e p => EOk X L W e p ∧ Stat e) xs ps) (hne : xs ≠ [])
    (hg : glb c.sc x = true) (hb : x ∈ blNames) (hv : bootBuiltins x = some u) (hd : (x == ("__debug__" : Str)) = false) (hn : x ≠ "__name__") (hu : (∃ id, u = .builtin id) ∨ ∃ T', u = .type T') (hc : CallR X u (OpN X.K L tb)) :
    VOk X L W (.Call (.Name x p) xs [] pos) (fun ρ μ F R => evs ps ρ μ F fun ts μ1 => tb ts μ1 R) := fun Φ B μ H σ ρ F R Q S sl q kx k => by
  have A := AOk.of hs Φ B μ H σ ρ F _ (fun vs H1 => OpN X.K L tb vs H1 Q) S sl q kx fun vs ts H1 B1 μ1 l1 S1 r1 n1 q1 => ⟨Φ, B1, μ1, ts, R, S1, r1, q1, k.mono l1⟩
  have pl := star_plain hs X.env pos
  cases hs with
  | nil => exact absurd rfl hne
  | cons h1 hs' =>
    have st := h1.2.star X.env
    have pl' := star_plain hs' X.env pos
    rcases hu with ⟨id, rfl⟩ | ⟨T', rfl⟩
    · exact sE_of (pe_callB hc (C.gl x hg) (C.g.bl x hb) hv pa_s hn hd (st _) pl') A
    · exact sE_of (pe_callTy hc (C.gl x hg) (C.g.bl x hb) hv pa_s hn hd (st _) pl') A
theorem k_bif (C : Ctx G Γ L c X W) (hh : c.hot = false) {f : Bif} {own : Bool} {es : List Ex} {x : Str} {p : Pos} {xs : List Expr} (hx : gName c (bifName f) x = true) (hne : xs.isEmpty = false) (hs : Paired (fun e p => EOk X L W e p ∧ Stat e) xs (dens G Γ es)) :
    EOk X L W (.Call (.Name x p) xs [] pos) (den G Γ (.bif f own es)) := by
  obtain ⟨rfl, hg⟩ := gName_ok hx
  obtain ⟨h1, h2, h3, h4⟩ := bif_bl f
  refine EOk.plain (callB C hs (by intro z; rw [z] at hne; cases hne) hg h1 h2 h3 h4 ?_ (bif_ok (C.calm hh) own f)) fun _ => rfl
  cases f <;> first | exact .inl ⟨_, rfl⟩ | exact .inr ⟨_, rfl⟩
theorem k_lrng (C : Ctx G Γ L c X W) (hh : c.hot = false) {own : Bool} {a : Ex} {l f : Str} {p p2 p3 : Pos} {x : Expr} (h1 : gName c "list" l = true) (h2 : gName c "range" f = true) (h : EOk X L W x (den G Γ a)) (st : Stat x) :
    EOk X L W (.Call (.Name l p) [.Call (.Name f p2) [x] [] p3] [] pos) (den G Γ (.lrng own a)) := by
  obtain ⟨rfl, g1⟩ := gName_ok h1
  obtain ⟨rfl, g2⟩ := gName_ok h2
  refine EOk.plain (fun Φ B μ H σ ρ F R Q S sl q kx k => ?_) fun _ => rfl
  refine sE_of (pe_listRg (C.calm hh) (C.gl _ g1) (C.g.bl _ (by decide +kernel)) (prg_1 (C.gl _ g2) (C.g.bl _ (by decide +kernel)) pe_s (st.star _ _))) ?_
  refine h.v Φ B μ H σ ρ F _ _ S sl q kx fun v t H1 B1 μ1 l1 S1 r1 q1 => ?_
  obtain ⟨n, rfl, b1, b2, q1⟩ := q1
  obtain rfl := r1
  have e : rgV 0 n = ((List.range n.toNat).map fun i : Nat => (i : Int)).map V.int := by
    unfold rgV
    rw [List.map_map]
    simp [Function.comp_def]
  have e2 : ((List.range n.toNat).map fun i : Nat => T.int (i : Nat)) = ((List.range n.toNat).map fun i : Nat => (i : Int)).map T.int := by
    rw [List.map_map]
    rfl
  refine ⟨n, rfl, ⟨by decide, by decide, b1, by omega, by omega⟩, fun q hq => ?_⟩
  rw [e]
  rw [e2] at q1
  exact newL_ok S1 (Trs.of_ints _) q1 (k.mono l1) hq
theorem k_lrev (C : Ctx G Γ L c X W) (hh : c.hot = false) {own : Bool} {a : Ex} {l f : Str} {p p2 p3 : Pos} {x : Expr} (h1 : gName c "list" l = true) (h2 : gName c "reversed" f = true) (h : EOk X L W x (den G Γ a)) (st : Stat x) :
    EOk X L W (.Call (.Name l p) [.Call (.Name f p2) [x] [] p3] [] pos) (den G Γ (.lrev own a)) := by
  obtain ⟨rfl, g1⟩ := gName_ok h1
  obtain ⟨rfl, g2⟩ := gName_ok h2
  refine EOk.plain (fun Φ B μ H σ ρ F R Q S sl q kx k => ?_) fun _ => rfl
  refine sE_of (pe_listRev (C.calm hh) (C.gl _ g1) (C.g.bl _ (by decide +kernel)) (C.gl _ g2) (C.g.bl _ (by decide +kernel)) pe_s (st.star _ _)) ?_
  refine h.v Φ B μ H σ ρ F _ _ S sl q kx fun v t H1 B1 μ1 l1 S1 r1 q1 => ?_
  obtain ⟨us, e, q1⟩ := q1
  obtain ⟨a', vs, rfl, hq, r2⟩ := vlst_ok S1 r1 e
  exact ⟨a', vs, rfl, hq, fun q hq' => newL_ok S1 r2.reverse q1 (k.mono l1) hq'⟩
theorem ty_ok {K : PySem.W.Frag} {Φ H B : Hp} {μ : Sto} {t : T} {v : V} {n : String} (S : St K L Φ H B μ) (r : Tr K B v t) (h : isStr μ t = some n) : TyX K H v (.type n) ∧ n ∈ ["NoneType", "bool", "int", "str", "tuple", "list", "dict"] := by
  unfold isStr at h
  split at h
  · cases h; obtain rfl := r; exact ⟨.base .non, by decide⟩
  · cases h; obtain rfl := r; exact ⟨.base (.bl _), by decide⟩
  · cases h; obtain rfl := r; exact ⟨.base (.int _), by decide⟩
  · cases h; obtain rfl := r; exact ⟨.base (.str _), by decide⟩
  · cases h
    obtain ⟨a, vs, rfl, h1, _⟩ := vtup_ok S r rfl
    refine ⟨?_, by decide⟩
    rcases h1 with (h1 | ⟨o, h1⟩) | ⟨o, its, m, h1, h2, _⟩
    · exact .base (.tup h1)
    · exact .fTuple h1
    · exact .kTuple h1 h2
  · cases h
    obtain ⟨a, vs, rfl, h1, _⟩ := r
    exact ⟨.base (.lst (S.sub _ _ h1)), by decide⟩
  · cases h
  · split at h
    · rename_i e
      cases h
      obtain rfl := r
      obtain ⟨vs, h1, _⟩ := S.mem e
      exact ⟨.base (.lst h1), by decide⟩
    · rename_i e
      cases h
      obtain rfl := r
      obtain ⟨ks, h1, _⟩ := S.memD e
      exact ⟨.base (.dK h1), by decide⟩
    · cases h
theorem kit_all : ∀ n ∈ ["NoneType", "bool", "int", "str", "tuple", "list", "dict"], ∀ k ∈ ["int", "bool", "str", "list", "tuple", "dict"], kitB n k = some (isT n k) := by decide +kernel
theorem bool_all : ∀ k ∈ ["int", "bool", "str", "list", "tuple", "dict"], Str.ofString k ∈ blNames ∧ bootBuiltins (Str.ofString k) = some (.type k) ∧ (Str.ofString k == ("__debug__" : Str)) = false ∧ Str.ofString k ≠ "__name__" := by decide +kernel
theorem isi_nm : ("isinstance" : Str) ∈ blNames ∧ bootBuiltins "isinstance" = some (.builtin "isinstance") ∧ (("isinstance" : Str) == ("__debug__" : Str)) = false ∧ ("isinstance" : Str) ≠ "__name__" := ⟨by decide +kernel, by decide +kernel, by decide +kernel, by decide +kernel⟩
theorem k_isi (C : Ctx G Γ L c X W) {ks : List String} {a : Ex} {x : Str} {p : Pos} {y z : Expr} (hx : gName c "isinstance" x = true) (hk : chkKs c ks z = true) (sy : Stat y) (ha : EOk X L W y (den G Γ a)) :
    EOk X L W (.Call (.Name x p) [y, z] [] pos) (den G Γ (.isi ks a)) := by
  obtain ⟨rfl, hg⟩ := gName_ok hx
  obtain ⟨h1, h2, h3, h4⟩ := isi_nm
  unfold chkKs at hk
  split at hk
  · rename_i k n pz
    simp only [Bool.and_eq_true, decide_eq_true_eq] at hk
    obtain ⟨⟨rfl, hg2⟩, hm⟩ := hk
    obtain ⟨g1, g2, g3, g4⟩ := bool_all k hm
    refine EOk.plain (fun Φ B μ H σ ρ F R Q S sl q kx kk => ?_) fun _ => rfl
    refine sE_of (pe_callB call_isi (C.gl _ hg) (C.g.bl _ h1) h2 (pa_cons pe_s (pa_cons (pe_bltn (v := .ty k) (C.gl _ hg2) (C.g.bl _ g1) g2 rfl g4 g3) pa_nil) (sy.star _ _)) h4 h3 (sy.star _ _) rfl) ?_
    refine ha.v Φ B μ H σ ρ F _ _ S sl q kx fun v t H1 B1 μ1 l1 S1 r1 q1 => ?_
    obtain ⟨n, e, q1⟩ := q1
    obtain ⟨ty, hn⟩ := ty_ok S1 r1 e
    refine ⟨v, .ty k, .type n, .type k, isT n k, rfl, .ty k, ty, kit_ty (kit_all n hn k hm), ?_⟩
    have e3 : [k].any (isT n) = isT n k := by simp
    rw [e3] at q1
    exact kk _ _ H1 B1 μ1 l1 S1 (show Tr X.K B1 (.bl _) (.bl _) from rfl) q1
  · cases hk
theorem ve_nm : ("ValueError" : Str) ∈ blNames ∧ bootBuiltins "ValueError" = some (.type "ValueError") := ⟨by decide +kernel, by decide +kernel⟩
theorem k_isx (C : Ctx G Γ L c X W) {i h : Nat} {x f k : Str} {p p2 p3 : Pos} (hf : gName c "isinstance" f = true) (hN : c.N[i]? = some x) (hv : vis c.sc x = true) (hp : plainN x = true) (hk : exName G h = some k) (hg : glb c.sc k = true) (hpk : plainN k = true) (has : c.as = true) (hxs : G.xs = true) :
    EOk X L W (.Call (.Name f p) [.Name x p2, .Name k p3] [] pos) (den G Γ (.isx i h)) := by
  obtain ⟨rfl, gf⟩ := gName_ok hf
  obtain ⟨h1, h2, h3, h4⟩ := isi_nm
  obtain ⟨_, X0, pe, oe, pn, a, n, rfl, ea, hz, hfd, hcu⟩ := C.cu has
  obtain ⟨k1, k2, k3⟩ := C.g.ki hxs a n ea
  have hcl : ∃ cv : V, PE (X0.suite pe ((pe, oe) :: pn)) (.Name k p3) (fun σ H Q => Q cv H) ∧ ∃ w, (∀ u, RelV cv u → u = w) ∧ PySem.W.kitOne (X0.suite pe ((pe, oe) :: pn)).K (.ref (L.exc a)) w = some (subX G a h) := by
    unfold exName at hk
    by_cases e : h = 999
    · rw [if_pos e] at hk
      cases hk
      refine ⟨.ty "ValueError", pe_bltn (v := .ty "ValueError") (C.gl _ hg) (C.g.bl _ ve_nm.1) ve_nm.2 rfl (plainN_ok hpk).2.2 (plainN_ok hpk).1, .type "ValueError", fun u r => r, ?_⟩
      have : subX G a h = true := by
        unfold subX
        simp [e]
      rw [this]
      exact k2
    · rw [if_neg e] at hk
      exact ⟨.ref (L.exc h), pe_glob (C.gl _ hg) (C.g.ex h k hk).mg_ rfl (plainN_ok hpk).1, .ref (L.exc h), fun u r => r, k1 h k hk⟩
  obtain ⟨cv, pe1, w, hw, hkit⟩ := hcl
  refine EOk.plain (fun Φ B μ H σ ρ F R Q S sl q kx kk => ?_) fun _ => rfl
  obtain ⟨t, et, q⟩ := q
  rw [hcu] at q
  obtain ⟨h', e1, _, q⟩ := q
  simp only [List.cons.injEq, T.int.injEq, and_true] at e1
  obtain ⟨rfl, e2⟩ := e1
  have e2 : h = h' := by omega
  subst e2
  obtain ⟨v, e3, r⟩ := sl.2 i _ et
  obtain rfl := r
  refine sE_of (pe_callB (call_isE k3 hz hfd) (C.gl _ gf) (C.g.bl _ h1) h2 (pa_cons (pe_var (by rw [C.N]; exact hN) (C.vi x hv) (plainN_ok hp).1 (plainN_ok hp).2.1) (pa_cons pe1 pa_nil rfl) rfl) h4 h3 rfl rfl) ?_
  exact ⟨_, e3, cv, w, subX G a h, rfl, hw, hkit, kk.here S (show Tr _ B (.bl _) (.bl _) from rfl) q⟩
theorem ints_v {K : PySem.W.Frag} {B : Hp} (l : List Int) : Trs K B (l.map V.int) (l.map T.int) := Trs.of_ints l
theorem sp_ok {K : PySem.W.Frag} {Φ H B : Hp} {μ : Sto} {n : Nat} {S' : TSp} {vs : List V} {ts : List T} {F : XP} {R : RP} {Q : VK} {E : XK} (hl : vs.length = n) (S : St K L Φ H B μ) (r : Trs K B vs ts) (q : S' ts μ F R) (k : Post K L Φ B R Q) (kx : PostX K L Φ B F E) : spOf K L n S' vs H Q E :=
  ⟨hl, Φ, B, μ, ts, R, F, S, r, q, k, kx⟩
theorem k_call (C : Ctx G Γ L c X W) (hh : c.hot = false) {f nd : Nat} {i : FnI} {es : List Ex} {x : Str} {p : Pos} {xs : List Expr} (hi : G.fn f = some i) (hn : i.name = x) (hcl : i.cls = none) (hlv : i.lvl ≤ c.k) (hnd : nd ≤ i.dfl.length) (hnp : xs.length + nd = i.np) (hf : f < c.m)
    (hg : glb c.sc x = true) (hp : plainN x = true) (hs : Paired (fun e p => EOk X L W e p ∧ Stat e) xs (dens G Γ es)) : EOk X L W (.Call (.Name x p) xs [] pos) (den G Γ (.call f nd es)) := by
  show EOk X L W _ (plain fun ρ μ F R => evs (dens G Γ es) ρ μ F fun ts μ1 => ∃ i, G.fn f = some i ∧ Γ f (ts ++ (i.rest nd).map T.int) μ1 F R)
  generalize dens G Γ es = pes at hs
  refine EOk.plain (fun Φ B μ H σ ρ F R Q S sl q kx k => ?_) fun _ => rfl
  obtain ⟨a, fd, ps, FF⟩ := C.g.fn f i hf hi
  obtain ⟨ds, hb, hd⟩ := FF.bi nd hnd
  have hm := FF.mg_ hcl
  rw [hn] at hm
  have key : ∀ (vs : List V) (ts : List T) (H1 B1 : Hp) (μ1 : Sto), Le B B1 → St X.K L Φ H1 B1 μ1 → Trs X.K B1 vs ts → ts.length = xs.length → (∃ i, G.fn f = some i ∧ Γ f (ts ++ (i.rest nd).map T.int) μ1 F R) → spOf X.K L i.np (Γ f) (vs ++ (i.rest nd).map V.int) H1 Q (WE W σ) := fun vs ts H1 B1 μ1 l1 S1 r1 n1 q1 => by
    obtain ⟨j, e, q1⟩ := q1
    rw [hi] at e
    cases e
    refine sp_ok ?_ S1 (r1.append (ints_v _)) q1 (k.mono l1) (kx.mono l1)
    rw [List.length_append, List.length_map, r1.length, n1, ← hnp]
    unfold FnI.rest
    rw [List.length_drop]
    omega
  intro pins s I
  refine wpAny_Call_Name_kw (ld_glob I (C.gl x hg) hm ?_ (plainN_ok hp).1)
  cases hs with
  | nil => exact PySem.W.callWith_K0 I.kIn FF.kp (run_fnSD (us := []) (vs := []) FF.ok ((C.room hh).mono hlv) hb hd (passAt C.tk σ) I .nil (key [] [] H B μ (Same.refl _) S rfl rfl q))
  | cons h1 hs' =>
    have A := AOk.of (.cons h1 hs') Φ B μ H σ ρ F _ (fun vs H1 => spOf X.K L i.np (Γ f) (vs ++ (i.rest nd).map V.int) H1 Q (WE W σ)) S sl q kx key
    refine PySem.W.callWith_K (h₀ := X.base) I.ok.mod.kin FF.kp (thn (A pos pins s I) fun us s1 ⟨vs, H1, I1, r, q1⟩ => ⟨I1.kIn, ?_⟩) (h1.2.star X.env _) (star_plain hs' X.env pos)
    exact run_fnSD FF.ok ((C.room hh).mono hlv) hb hd (passAt C.tk σ) I1 r q1
theorem zip_look {c0 : List Str} (nd : c0.Nodup) : ∀ {vs : List V} {i : Nat} {f : Str} {v : V}, c0[i]? = some f → vs[i]? = some v → (c0.zip vs).lookup f = some v := by
  induction c0 with
  | nil => intro vs i f v h; simp at h
  | cons g r ih =>
    intro vs i f v h h2
    rw [List.nodup_cons] at nd
    cases vs with
    | nil => simp at h2
    | cons w ws =>
      cases i with
      | zero =>
        simp at h h2
        subst h h2
        show List.lookup g ((g, w) :: r.zip ws) = some w
        rw [List.lookup_cons_self]
      | succ i =>
        have h' : r[i]? = some f := by simpa using h
        have ne : (f == g) = false := beq_eq_false_iff_ne.mpr fun z => nd.1 (by rw [← z]; exact List.mem_of_getElem? h')
        show List.lookup f ((g, w) :: r.zip ws) = some v
        rw [List.lookup_cons, ne]
        exact ih nd.2 h' (by simpa using h2)
theorem zip_none {c0 : List Str} {m : Str} (h : m ∉ c0) : ∀ (vs : List V), (c0.zip vs).lookup m = none := by
  induction c0 with
  | nil => intro vs; rfl
  | cons g r ih =>
    intro vs
    cases vs with
    | nil => rfl
    | cons w ws =>
      have ne : (m == g) = false := beq_eq_false_iff_ne.mpr fun z => h (by rw [z]; exact List.mem_cons_self)
      show List.lookup m ((g, w) :: r.zip ws) = none
      rw [List.lookup_cons, ne]
      exact ih (fun z => h (List.mem_cons_of_mem _ z)) ws
theorem meth_form {y : Expr} {m : Str} {apos : Pos} {xs : List Expr} {env : Env} (hsup : notSup y = true) (hline : (apos.endLine == pos.line) = true) (h30 : xs.length < 30) (hst : (backTo pos (starEach xs env)).any (·.1) = false) :
    eval (.Call (.Attribute y m apos) xs [] pos) env = (do
      let ov ← eval y env
      standAt apos.atName
      let (f, first) ← holding [ov] (getMethod ov m (do return (← importBound y env).getD true))
      callWith pos f first (backTo pos (starEach xs env)) (backToKw pos (keywordEach [] env))) := by
  have e0 : eval (.Call (.Attribute y m apos) xs [] pos) env = (do
      let ov ← attributeBase y m env (eval y env)
      standAt apos.atName
      methodCall y m apos pos env ov (xs.length + 0) (backTo pos (starEach xs env)) (backToKw pos (keywordEach [] env))) := rfl
  have hform : methodCallForm (xs.length + 0) (backTo pos (starEach xs env)) (backToKw pos (keywordEach [] env)) = true := by
    unfold methodCallForm
    have h1 : (backTo pos (starEach xs env)).all (!·.1) = true := by
      rw [List.all_eq_true]
      intro z hz
      have := List.any_eq_false.mp hst z hz
      simpa using this
    rw [h1]
    show (true && true && decide (xs.length + 0 + 0 < 30)) = true
    simp
    omega
  rw [e0, notSup_base hsup]
  unfold methodCall calleeOf methodCallPos
  rw [hform, hline]
  rfl
theorem k_meth (C : Ctx G Γ L c X W) (hh : c.hot = false) {f nd : Nat} {i : FnI} {d : Nat} {o : Ex} {es : List Ex} {y : Expr} {m : Str} {apos : Pos} {xs : List Expr} (hline : (apos.endLine == pos.line) = true) (h30 : xs.length < 30) (hi : G.fn f = some i) (hn : i.name = m) (hcl : i.cls = some d) (hm : m ∉ G.flds d)
    (hlv : i.lvl ≤ c.k) (hnd : nd ≤ i.dfl.length) (hnp : xs.length + nd + 1 = i.np) (hf : f < c.m) (hcd : ∃ ci, G.cl d = some ci) (hsup : notSup y = true) (ho : EOk X L W y (den G Γ o)) (hs : Paired (fun e p => EOk X L W e p ∧ Stat e) xs (dens G Γ es)) :
    EOk X L W (.Call (.Attribute y m apos) xs [] pos) (den G Γ (.meth f nd o es)) := by
  show EOk X L W _ (plain fun ρ μ F R => (den G Γ o).1 ρ μ F fun x μ1 => ∃ i c p us, G.fn f = some i ∧ i.cls = some c ∧ x = .own p ∧ μ1 p = some (.obj c us) ∧
      evs (dens G Γ es) ρ μ1 F fun ts μ2 => Γ f (x :: (ts ++ (i.rest nd).map T.int)) μ2 F R)
  generalize dens G Γ es = pes at hs
  refine EOk.plain (fun Φ B μ H σ ρ F R Q S sl q kx k => ?_) fun _ => rfl
  obtain ⟨a, fd, ps, FF⟩ := C.g.fn f i hf hi
  obtain ⟨ds, hb, hd⟩ := FF.bi nd hnd
  obtain ⟨ci, hci⟩ := hcd
  have CF := C.g.cl d ci hci
  have hme := FF.me d hcl
  rw [hn] at hme
  have key : ∀ (p : Addr) (vs : List V) (ts : List T) (H2 B2 : Hp) (μ2 : Sto), Le B B2 → St X.K L Φ H2 B2 μ2 → Trs X.K B2 vs ts → ts.length = xs.length → Γ f (.own p :: (ts ++ (i.rest nd).map T.int)) μ2 F R → spOf X.K L i.np (Γ f) (.ref p :: (vs ++ (i.rest nd).map V.int)) H2 Q (WE W σ) := fun p vs ts H2 B2 μ2 l2 S2 r2 n2 q2 => by
    refine sp_ok ?_ S2 (Trs.cons (show Tr X.K B2 (.ref p) (.own p) from rfl) (r2.append (ints_v _))) q2 (k.mono l2) (kx.mono l2)
    rw [List.length_cons, List.length_append, List.length_map, r2.length, n2, ← hnp]
    unfold FnI.rest
    rw [List.length_drop]
    omega
  have form := meth_form (pos := pos) (m := m) hsup hline h30 (star_plain hs X.env pos)
  cases hs with
  | nil =>
    have step : sE X y σ H fun v H1 => ∃ (p dx : Addr) (us : List V), v = .ref p ∧ H1 p = some (.ins (L.addr d) dx ((L.flds d).zip us)) ∧ spOf X.K L i.np (Γ f) (.ref p :: ([] ++ (i.rest nd).map V.int)) H1 Q (WE W σ) := by
      refine ho.v Φ B μ H σ ρ F _ _ S sl q kx fun v t H1 B1 μ1 l1 S1 r1 q1 => ?_
      obtain ⟨j, d', p, us, e1, e2, rfl, e3, q1⟩ := q1
      rw [hi] at e1
      cases e1
      rw [hcl] at e2
      cases e2
      obtain rfl := r1
      obtain ⟨dx, vs, h1, h2, h3⟩ := S1.memO e3
      exact ⟨p, dx, vs, rfl, h1, key p [] [] H1 B1 μ1 l1 S1 rfl rfl q1⟩
    intro pins s I
    refine PySem.W.methodCall_KW (pl := do return (← importBound y X.env).getD true) (thn (step pins s I) fun u s1 ⟨x, H1, I1, rx, p, dx, us, e1, e2, q1⟩ => ?_) form
    subst e1
    obtain rfl : u = Value.ref p := rx
    refine getmeth_ok I1 e2 CF.cl hme (by rw [C.g.fl]; exact zip_none hm us) ?_
    exact PySem.W.callWith_K0 (first := [.ref p]) I1.kIn hme.kp (run_fnSD (us := [.ref p]) (vs := [.ref p]) FF.ok ((C.room hh).mono hlv) hb hd (passAt C.tk σ) I1 (.cons rfl .nil) q1)
  | cons h1 hs' =>
    rename_i e0 p0 es0 ps0
    have step : sE X y σ H fun v H1 => ∃ (p dx : Addr) (us : List V), v = .ref p ∧ H1 p = some (.ins (L.addr d) dx ((L.flds d).zip us)) ∧ sA X (e0 :: es0) σ H1 (fun vs H2 => spOf X.K L i.np (Γ f) (.ref p :: (vs ++ (i.rest nd).map V.int)) H2 Q (WE W σ)) := by
      refine ho.v Φ B μ H σ ρ F _ _ S sl q kx fun v t H1 B1 μ1 l1 S1 r1 q1 => ?_
      obtain ⟨j, d', p, us, e1, e2, rfl, e3, q1⟩ := q1
      rw [hi] at e1
      cases e1
      rw [hcl] at e2
      cases e2
      obtain rfl := r1
      obtain ⟨dx, vs, h11, h2, h3⟩ := S1.memO e3
      refine ⟨p, dx, vs, rfl, h11, ?_⟩
      exact AOk.of (.cons h1 hs') Φ B1 μ1 H1 σ ρ F _ _ S1 (sl.mono l1) q1 (kx.mono l1) fun vs ts H2 B2 μ2 l2 S2 r2 n2 q2 => key p vs ts H2 B2 μ2 (l1.trans l2) S2 r2 n2 q2
    intro pins s I
    refine PySem.W.methodCall_KW (pl := do return (← importBound y X.env).getD true) (thn (step pins s I) fun u s1 ⟨x, H1, I1, rx, p, dx, us, e1, e2, q1⟩ => ?_) form
    subst e1
    obtain rfl : u = Value.ref p := rx
    refine getmeth_ok I1 e2 CF.cl hme (by rw [C.g.fl]; exact zip_none hm us) ?_
    refine PySem.W.callWith_K (first := [.ref p]) (h₀ := X.base) I.ok.mod.kin hme.kp (thn (q1 pos pins s1 I1) fun us s2 ⟨vs, H2, I2, r, q2⟩ => ⟨I2.kIn, ?_⟩) (h1.2.star X.env _) (star_plain hs' X.env pos)
    exact run_fnSD (us := .ref p :: us) (vs := .ref p :: vs) FF.ok ((C.room hh).mono hlv) hb hd (passAt C.tk σ) I2 (.cons rfl r) q2
/-! len(set(xs)) of ints, isinstance of an own class, isinstance of a caught exception by two classes -/
theorem firstMet_le (f : Nat → Int) : ∀ n, (PyProof.Rows.firstMet f n).length ≤ n
  | 0 => Nat.le_refl _
  | n + 1 => by
    have ih := firstMet_le f n
    rw [PyProof.Rows.firstMet_succ]
    unfold step_dedup
    split
    · omega
    · rw [List.length_append]; simp; omega
def tLenSetF (K : PySem.W.Frag) (ta : TE) : TE := fun σ H Q => ta σ H fun x H1 => ∃ (l : Addr) (ns : List Int), x = .ref l ∧ SqL K H1 l (ns.map V.int) ∧ ns.length ≤ 4000 ∧ Q (.int ((PyProof.Rows.firstMet (fun i => ns.getD i 0) ns.length).length : Nat)) H1
theorem pe_lenSetF {X : Cx} {a : Expr} {ta : TE} {p p2 q pos : Pos} (hg : Gl X "len") (hm : X.mg "len" = none) (hg2 : Gl X "set") (hm2 : X.mg "set" = none) (ha : PE X a ta) (hc : X.calm = true)
    (na : starEach [a] X.env = (false, eval a X.env) :: starEach [] X.env) : PE X (.Call (.Name "len" p) [.Call (.Name "set" p2) [a] [] q] [] pos) (tLenSetF X.K ta) := by
  refine ⟨fun pins s σ H Q I h => ?_⟩
  refine Call_ (ld_blt I hg hm boot_len ?_)
  refine PyProof.Rows.callWith_builtin1 (PyProof.Rows.args_cons ?_ rfl) rfl rfl
  refine Call_ (ld_blt I hg2 hm2 boot_set ?_)
  refine PyProof.Rows.callWith_type1 (PyProof.Rows.args_cons (thn (ha.run pins s σ H _ I h) fun v s1 ⟨x, H1, I1, r1, q1⟩ => PyProof.Rows.args_nil ?_) na) na rfl
  obtain ⟨l, ns, rfl, hq, hl, q1⟩ := q1
  cases r1
  obtain ⟨its, r, pl, hz⟩ := I1.list hq
  have hlen : its.toArray.size = ns.length := by rw [List.size_toArray, ← r.length, List.length_map]
  refine call_set_list (I1.ok.hd hc) pl.isList (by simpa using RZ.intsAre_vals r) (by rw [hlen]; unfold scanBound; omega) fun h' tk hS hk => ?_
  refine PyProof.Rows.args_nil ?_
  rw [hlen] at hS
  have hle := firstMet_le (fun i => ns.getD i 0) ns.length
  obtain ⟨o, es, ep, t, ho, hex, hd, _, _, _, hf, hn⟩ := hS
  have I2 : Inv X pins σ H1 { s1 with heap := h', toks := tk } := I1.kept fun b o e => hk b o (Heap.lt_size e) e
  exact call_len_set ho hex hd hf (by rw [hn] <;> omega) ⟨.int _, H1, I2.tok _, ⟨_, by rw [hn]⟩, q1⟩
theorem k_nset (C : Ctx G Γ L c X W) (hh : c.hot = false) {a : Ex} {l f : Str} {p p2 p3 : Pos} {x : Expr} (h1 : gName c "len" l = true) (h2 : gName c "set" f = true) (h : EOk X L W x (den G Γ a)) (st : Stat x) :
    EOk X L W (.Call (.Name l p) [.Call (.Name f p2) [x] [] p3] [] pos) (den G Γ (.nset a)) := by
  obtain ⟨rfl, g1⟩ := gName_ok h1
  obtain ⟨rfl, g2⟩ := gName_ok h2
  refine EOk.plain (fun Φ B μ H σ ρ F R Q S sl q kx k => ?_) fun _ => rfl
  refine sE_of (pe_lenSetF (C.gl _ g1) (C.g.bl _ (by decide +kernel)) (C.gl _ g2) (C.g.bl _ (by decide +kernel)) pe_s (C.calm hh) (st.star _ _)) ?_
  refine h.v Φ B μ H σ ρ F _ _ S sl q kx fun v t H1 B1 μ1 l1 S1 r1 q1 => ?_
  obtain ⟨ns, e, hl, q1⟩ := q1
  obtain ⟨ad, vs, rfl, hq, r2⟩ := vlst_ok S1 r1 e
  obtain rfl := r2.ints
  exact ⟨ad, ns, rfl, hq, hl, k _ _ H1 B1 μ1 l1 S1 (show Tr X.K B1 (.int _) (.int _) from rfl) q1⟩
theorem k_isc (C : Ctx G Γ L c X W) {d : Nat} {a : Ex} {f k : Str} {p p2 : Pos} {y : Expr} {i : ClI} (hf : gName c "isinstance" f = true) (hi : G.cl d = some i) (hn : i.name = k) (hg : glb c.sc k = true) (hp : plainN k = true) (hxc : G.xc = true) (sy : Stat y) (ha : EOk X L W y (den G Γ a)) :
    EOk X L W (.Call (.Name f p) [y, .Name k p2] [] pos) (den G Γ (.isc d a)) := by
  obtain ⟨rfl, gf⟩ := gName_ok hf
  obtain ⟨h1, h2, h3, h4⟩ := isi_nm
  have hm := (C.g.cl d i hi).mg_
  rw [hn] at hm
  refine EOk.plain (fun Φ B μ H σ ρ F R Q S sl q kx kk => ?_) fun _ => rfl
  refine sE_of (pe_callB (C8.call_isC (C.g.kc hxc d i hi)) (C.gl _ gf) (C.g.bl _ h1) h2 (pa_cons pe_s (pa_cons (show PE X (.Name k p2) (fun σ H Q => Q (.ref (L.addr d)) H) from pe_glob (C.gl _ hg) hm rfl (plainN_ok hp).1) pa_nil) (sy.star _ _)) h4 h3 (sy.star _ _) rfl) ?_
  refine ha.v Φ B μ H σ ρ F _ _ S sl q kx fun v t H1 B1 μ1 l1 S1 r1 q1 => ?_
  obtain ⟨pp, us, rfl, e, q1⟩ := q1
  obtain rfl := r1
  obtain ⟨dx, vs, h5, _, _⟩ := S1.memO e
  exact ⟨pp, dx, _, rfl, h5, kk _ _ H1 B1 μ1 l1 S1 (show Tr X.K B1 (.bl _) (.bl _) from rfl) q1⟩
theorem call_isE2 {X : Cx} {a D : Addr} {oe : Obj} {pn : List (Addr × Obj)} (C : ExcC X.K D) (hz : Zc (.ref D) Option.none oe) (hf : ∃ vs, oe.data = .fields vs) : CallR (X.suite a ((a, oe) :: pn)) (.builtin "isinstance") (fun xs H Q => ∃ (tp : Addr) (cs : List V) (us : List Value) (b : Bool), xs = [.ref a, .ref tp] ∧ H tp = some (.tup cs) ∧ Paired ClsV cs us ∧ PySem.W.kitAny X.K (.ref D) us = some b ∧ Q (.bl b) H) := by
  intro pins s σ H xs us Q I r h
  obtain ⟨tp, cs, ws, b, rfl, hT, k, e, q⟩ := h
  obtain ⟨u1, u2, rfl, r1, r2⟩ := vals2 r
  cases (show u2 = Value.ref tp from r2)
  cases (show u1 = Value.ref a from r1)
  obtain ⟨hget, _⟩ := I.pin (a, oe) (List.mem_append.mpr (.inl List.mem_cons_self))
  obtain ⟨vs, hv⟩ := hf
  have J : PySem.W.InstAt s.heap a oe D Option.none := by
    obtain ⟨oc, od, oda, osl⟩ := oe
    obtain ⟨h1, h2⟩ := hz
    dsimp only at h1 h2 hv
    subst h1 h2 hv
    exact ⟨hget, rfl, rfl, trivial⟩
  obtain ⟨_, its, rv, o, h1, h2, n, h3⟩ := (show ObjOk _ _ H s.heap tp (.tup cs) from I.hok tp _ hT)
  have e3 := ClsV.all k rv
  subst e3
  obtain ⟨oc, od, dt, sl⟩ := o
  simp only at h2 h3
  subst h2 h3
  exact PySem.W.kia_tup (PySem.W.handS_kitx_exc C.hg C.hk C.hs C.hd C.ha C.hn C.ht C.hm) I.kIn J h1 e (fun z => nomatch z) fun tk => ⟨.bl b, H, I.kept (t' := tk) fun _ _ z => z, rfl, q⟩
theorem cls_ex (C : Ctx G Γ L c X W) {a h : Nat} {n k : Str} {p3 : Pos} (hk : exName G h = some k) (hg : glb c.sc k = true) (hpk : plainN k = true) (ea : G.ex a = some n) (hxs : G.xs = true) :
    ∃ (cv : V) (w : Value), PE X (.Name k p3) (fun σ H Q => Q cv H) ∧ ClsV cv w ∧ PySem.W.kitOne X.K (.ref (L.exc a)) w = some (subX G a h) := by
  obtain ⟨k1, k2, k3⟩ := C.g.ki hxs a n ea
  unfold exName at hk
  by_cases e : h = 999
  · rw [if_pos e] at hk
    cases hk
    refine ⟨.ty "ValueError", .type "ValueError", pe_bltn (v := .ty "ValueError") (C.gl _ hg) (C.g.bl _ ve_nm.1) ve_nm.2 rfl (plainN_ok hpk).2.2 (plainN_ok hpk).1, .ty _, ?_⟩
    have : subX G a h = true := by
      unfold subX
      simp [e]
    rw [this]
    exact k2
  · rw [if_neg e] at hk
    exact ⟨.ref (L.exc h), .ref (L.exc h), pe_glob (C.gl _ hg) (C.g.ex h k hk).mg_ rfl (plainN_ok hpk).1, .own _, k1 h k hk⟩
theorem kitAny2 {K : PySem.W.Frag} {t c1 c2 : Value} {b b' : Bool} (h1 : PySem.W.kitOne K t c1 = some b) (h2 : PySem.W.kitOne K t c2 = some b') : PySem.W.kitAny K t [c1, c2] = some (b || b') := by
  cases b with
  | true => exact kitAny_cons h1 (fun z => by cases z) (fun _ => rfl)
  | false =>
    refine kitAny_cons h1 (fun _ => ?_) (fun z => by cases z)
    cases b' with
    | true => exact kitAny_cons h2 (fun z => by cases z) (fun _ => rfl)
    | false => exact kitAny_cons h2 (fun _ => kitAny_nil) (fun z => by cases z)
theorem k_isx2 (C : Ctx G Γ L c X W) {i h h' : Nat} {x f k k' : Str} {p p2 p3 p4 p5 : Pos} {kt : Nat} (hf : gName c "isinstance" f = true) (hN : c.N[i]? = some x) (hv : vis c.sc x = true) (hp : plainN x = true) (hk : exName G h = some k) (hg : glb c.sc k = true) (hpk : plainN k = true)
    (hk' : exName G h' = some k') (hg' : glb c.sc k' = true) (hpk' : plainN k' = true) (has : c.as = true) (hxs : G.xs = true) :
    EOk X L W (.Call (.Name f p) [.Name x p2, .Tuple [.Name k p3, .Name k' p4] kt p5] [] pos) (den G Γ (.isx2 i h h')) := by
  obtain ⟨rfl, gf⟩ := gName_ok hf
  obtain ⟨h1, h2, h3, h4⟩ := isi_nm
  obtain ⟨_, X0, pe, oe, pn, a, n, rfl, ea, hz, hfd, hcu⟩ := C.cu has
  obtain ⟨_, _, k3⟩ := C.g.ki hxs a n ea
  obtain ⟨cv, w, pe1, w1, kit1⟩ := cls_ex (p3 := p3) C hk hg hpk ea hxs
  obtain ⟨cv', w', pe2, w2, kit2⟩ := cls_ex (p3 := p4) C hk' hg' hpk' ea hxs
  refine EOk.plain (fun Φ B μ H σ ρ F R Q S sl q kx kk => ?_) fun _ => rfl
  obtain ⟨t, et, q⟩ := q
  rw [hcu] at q
  obtain ⟨g, e1, _, b, eb, q⟩ := q
  obtain ⟨g', e1', _, b', eb', q⟩ := q
  simp only [List.cons.injEq, T.int.injEq, and_true] at e1 e1'
  obtain ⟨rfl, e2⟩ := e1
  have e2 : h = g := by omega
  have e2' : h' = g' := by omega
  subst e2 e2'
  cases eb
  cases eb'
  obtain ⟨v, e3, r⟩ := sl.2 i _ et
  obtain rfl := r
  refine sE_of (pe_callB (call_isE2 k3 hz hfd) (C.gl _ gf) (C.g.bl _ h1) h2 (pa_cons (pe_var (by rw [C.N]; exact hN) (C.vi x hv) (plainN_ok hp).1 (plainN_ok hp).2.1) (pa_cons (pe_tup (pa_cons pe1 (pa_cons pe2 pa_nil rfl) rfl)) pa_nil rfl) rfl) h4 h3 rfl rfl) ?_
  refine ⟨_, e3, (show (2 : Nat) ≤ 16777216 by decide), fun tp htp => ?_⟩
  refine ⟨tp, [cv, cv'], [w, w'], _, rfl, upd_same, .cons w1 (.cons w2 .nil), kitAny2 kit1 kit2, ?_⟩
  exact kk _ _ _ B μ (Same.refl _) (S.aside htp) (show Tr _ B (.bl _) (.bl _) from rfl) q
end
end Rh

namespace Rh
open PySem PySem.Spec PyProof.Rows L2
section
variable {X : Cx} {L : Lay} {W : WX} {G : Tab} {Γ : Nat → TSp} {c : SC} {pos : Pos}
/-! ## 16. Objects made, fields, methods of lists -/
theorem make_at {pins : List (Addr × Obj)} {σ : L2.St} {H : Hp} {s : Shared} {Q : VK} {us : List Value} {vs : List V} {D f : Addr} {k : Nat} {fd : FuncData} {ps : List Str} {sp : Sp} {E : L2.St → XK} (M : Mk X.K D f) (FF : FnOk X.prog X.w X.K X.mg X.base (L2.CX X.prog X.w) k f fd ps sp)
    (hr : Room (k + 1) X.A) (hb : Binds X.K fd ps []) (hx : PassesAt (L2.CX X.prog X.w) X σ (E σ)) (I : L2.Inv X pins σ H s) (r : Vals vs us)
    (h : ∀ x dx, H x = none → H dx = none → dx ≠ x → sp (.ref x :: vs) (upd (upd H dx (.own x)) x (.ins D dx [])) (fun v H2 => v = .non ∧ Q (.ref x) H2) (E σ)) :
    wpAny (model X.prog X.w) X.A (call (.ref D) us) (EP X pins σ Q) X.xe s := by
  have q0 := h (s.heap.objs.size + 1) s.heap.objs.size (I.hok.fresh (Nat.le_succ _)) (I.hok.fresh (Nat.le_refl _)) (Nat.ne_of_lt (Nat.lt_succ_self _))
  have J := Inv.made (C := D) I
  have rr : Vals (V.ref (s.heap.objs.size + 1) :: vs) (Value.ref (s.heap.objs.size + 1) :: us) := .cons rfl r
  have hl : (Value.ref (s.heap.objs.size + 1) :: us ++ []).length = ps.length := by
    rw [List.append_nil, ← rr.length]
    exact FF.len _ _ _ _ q0
  have b0 := hb _ (Value.ref (s.heap.objs.size + 1) :: us) J.kIn hl
  rw [List.append_nil] at b0
  refine wpAny_call (make_map (f := f) I.kIn M.makes M.init (beq_iff_eq.mp M.fn) (codeAny_mono (FF.run _ X.stack _ _ ⟨Value.ref (s.heap.objs.size + 1) :: us, []⟩ _ _ _ (E σ) (hr.make D us []) (J.env0.make D us []) b0 rr q0) fun res s' hq => ?_))
  match res, hq with
  | .error e, hq => exact hx pins _ _ e s' J hq
  | .ok (.ret u), hq =>
    obtain ⟨v, H', J3, rv, ev, q3⟩ := J.after hq
    subst ev
    exact ⟨rv, .ref (s.heap.objs.size + 1), H', J3, rfl, q3⟩
theorem k_make (C : Ctx G Γ L c X W) (hh : c.hot = false) {d : Nat} {ci : ClI} {j : FnI} {es : List Ex} {x : Str} {p : Pos} {xs : List Expr} (hci : G.cl d = some ci) (hn : ci.name = x) (hf : ci.init < c.m) (hj : G.fn ci.init = some j) (hlv : j.lvl < c.k) (hnp : xs.length + 1 = j.np)
    (hg : glb c.sc x = true) (hp : plainN x = true) (hs : Paired (fun e p => EOk X L W e p ∧ Stat e) xs (dens G Γ es)) : EOk X L W (.Call (.Name x p) xs [] pos) (den G Γ (.make d es)) := by
  show EOk X L W _ (plain fun ρ μ F R => evs (dens G Γ es) ρ μ F fun ts μ1 => ∃ i, G.cl d = some i ∧ ∀ p, μ1 p = none → Γ i.init (.own p :: ts) (μ1.set p (.obj d [])) F fun v μ2 => v = .non ∧ R (.own p) μ2)
  generalize dens G Γ es = pes at hs
  refine EOk.plain (fun Φ B μ H σ ρ F R Q S sl q kx k => ?_) fun _ => rfl
  have CF := C.g.cl d ci hci
  obtain ⟨a, fd, ps, FF⟩ := C.g.fn ci.init j hf hj
  obtain ⟨j', e1, e2, e3, e4⟩ := CF.ini
  rw [hj] at e1
  cases e1
  obtain ⟨ds, hb, hd⟩ := FF.bi 0 (Nat.zero_le _)
  have hds : ds = [] := by
    have z : (j.rest 0).map V.int = [] := by unfold FnI.rest; rw [e4]; rfl
    rw [z] at hd
    cases hd
    rfl
  subst hds
  have hme := FF.me d e2
  rw [e3] at hme
  have M : Mk X.K (L.addr d) a := ⟨CF.mks, hme.at_, hme.fn, CF.kp⟩
  have hm := CF.mg_
  rw [hn] at hm
  have key : ∀ (vs : List V) (ts : List T) (H1 B1 : Hp) (μ1 : Sto), Le B B1 → St X.K L Φ H1 B1 μ1 → Trs X.K B1 vs ts → ts.length = xs.length → (∃ i, G.cl d = some i ∧ ∀ p, μ1 p = none → Γ i.init (.own p :: ts) (μ1.set p (.obj d [])) F fun v μ2 => v = .non ∧ R (.own p) μ2) →
      ∀ x dx, H1 x = none → H1 dx = none → dx ≠ x → spOf X.K L j.np (Γ ci.init) (.ref x :: vs) (upd (upd H1 dx (.own x)) x (.ins (L.addr d) dx [])) (fun v H2 => v = .non ∧ Q (.ref x) H2) (WE W σ) := fun vs ts H1 B1 μ1 l1 S1 r1 n1 q1 x dx hx hdx ne => by
    obtain ⟨i, e, q1⟩ := q1
    rw [hci] at e
    cases e
    have S2 := S1.aside (o := .own x) hdx
    have hx2 : (upd H1 dx (.own x)) x = none := by rw [upd_ne ne.symm]; exact hx
    have S3 := S2.put (p := x) (o := .ins (L.addr d) dx []) (ob := .obj d []) (S2.freshB hx2) (S2.freshF hx2) (show ObOk X.K L _ B1 x (.obj d []) from ⟨dx, [], by rw [upd_same, List.zip_nil_right], rfl, Nat.zero_le _⟩)
    refine sp_ok ?_ S3 (Trs.cons (show Tr X.K B1 (.ref x) (.own x) from rfl) r1) (q1 x (S1.fresh hx)) (fun v t H' B' μ' l' S' r' q' => ?_) (kx.mono l1)
    · rw [List.length_cons, r1.length, n1, ← hnp]
    · obtain ⟨rfl, q'⟩ := q'
      exact ⟨r', k _ (.own x) H' B' μ' (l1.trans l') S' rfl q'⟩
  intro pins s I
  refine wpAny_Call_Name_kw (ld_glob I (C.gl x hg) hm ?_ (plainN_ok hp).1)
  cases hs with
  | nil => exact PySem.W.callWith_K0 I.kIn CF.kp (make_at (us := []) (vs := []) M FF.ok ((C.room hh).mono hlv) hb (passAt C.tk σ) I .nil (key [] [] H B μ (Same.refl _) S rfl rfl q))
  | cons h1 hs' =>
    have A := AOk.of (.cons h1 hs') Φ B μ H σ ρ F _ (fun vs H1 => ∀ x dx, H1 x = none → H1 dx = none → dx ≠ x → spOf X.K L j.np (Γ ci.init) (.ref x :: vs) (upd (upd H1 dx (.own x)) x (.ins (L.addr d) dx [])) (fun v H2 => v = .non ∧ Q (.ref x) H2) (WE W σ)) S sl q kx key
    refine PySem.W.callWith_K (h₀ := X.base) I.ok.mod.kin CF.kp (thn (A pos pins s I) fun us s1 ⟨vs, H1, I1, r, q1⟩ => ⟨I1.kIn, ?_⟩) (h1.2.star X.env _) (star_plain hs' X.env pos)
    exact make_at M FF.ok ((C.room hh).mono hlv) hb (passAt C.tk σ) I1 r q1
theorem k_fld (C : Ctx G Γ L c X W) {d i : Nat} {o : Ex} {y : Expr} {f : Str} (hsup : notSup y = true) (hi : (G.flds d)[i]? = some f) (hcd : ∃ ci, G.cl d = some ci) (ho : EOk X L W y (den G Γ o)) : EOk X L W (.Attribute y f pos) (den G Γ (.fld d i o)) := by
  refine EOk.plain (fun Φ B μ H σ ρ F R Q S sl q kx k => ?_) fun _ => rfl
  obtain ⟨ci, hci⟩ := hcd
  have CF := C.g.cl d ci hci
  refine sE_of (pe_fld pe_s (notSup_base hsup)) ?_
  refine ho.v Φ B μ H σ ρ F _ _ S sl q kx fun v t H1 B1 μ1 l1 S1 r1 q1 => ?_
  obtain ⟨p, us, t, rfl, e, et, q1⟩ := q1
  obtain rfl := r1
  obtain ⟨dx, vs, h1, h2, h3⟩ := S1.memO e
  obtain ⟨w, ew, rw'⟩ := h2.get et
  refine ⟨p, L.addr d, dx, _, w, rfl, h1, CF.cl, CF.no f (List.mem_of_getElem? hi), ?_, k w t H1 B1 μ1 l1 S1 rw' q1⟩
  rw [C.g.fl]
  exact zip_look CF.nd hi ew
theorem rcv_ty {K : PySem.W.Frag} {Φ H B : Hp} {μ : Sto} {m : Lm} {x : T} {v : V} (S : St K L Φ H B μ) (r : Tr K B v x) (h : rcv m μ x) : tyV K (lmTy m) v H := by
  have lst : (∃ us, vlst μ x = some us) → tyV K "list" v H := fun ⟨us, e⟩ => by
    obtain ⟨a, vs, rfl, h1, h2⟩ := vlst_ok S r e
    exact .inl ⟨rfl, vs, h1⟩
  have str : (∃ z, x = .str z) → tyV K "str" v H := fun ⟨z, e⟩ => by
    subst e
    obtain rfl := r
    exact (rfl : "str" = "str")
  cases m <;> first | exact lst h | exact str h
theorem lm_at (m : Lm) : PlainAttrs (lmTy m) := by
  cases m <;> first | exact PySem.F.plainAttrs_list | exact PySem.F.plainAttrs_str
theorem lm_pa (m : Lm) : Slot (lmTy m) (lmName m) (lmId m) ∧ typeOf (.builtin (lmId m)) = pure (.type "method_descriptor") := by
  cases m with
  | append => exact ⟨PySem.F.slot_list_append, PySem.F.type_list_append⟩
  | pop => exact ⟨PySem.F.slot_list_pop, PySem.F.type_list_pop⟩
  | popAt => exact ⟨PySem.F.slot_list_pop, PySem.F.type_list_pop⟩
  | extend => exact ⟨PySem.F.slot_list_extend, PySem.F.type_list_extend⟩
  | index => exact ⟨PySem.F.slot_list_index, PySem.F.type_list_index⟩
  | insert => exact ⟨PySem.F.slot_list_insert, PySem.F.type_list_insert⟩
  | remove => exact ⟨PySem.F.slot_list_remove, PySem.F.type_list_remove⟩
  | count => exact ⟨PySem.F.slot_list_count, PySem.F.type_list_count⟩
  | join => exact ⟨PySem.F.slot_str_join, PySem.F.type_str_join⟩
  | split => exact ⟨PySem.F.slot_str_split, PySem.F.type_str_split⟩
  | partition => exact ⟨PySem.F.slot_str_partition, PySem.F.type_str_partition⟩
  | startswith => exact ⟨PySem.F.slot_str_startswith, PySem.F.type_str_startswith⟩
theorem k_lm (C : Ctx G Γ L c X W) {m : Lm} {o : Ex} {es : List Ex} {y : Expr} {f : Str} {apos : Pos} {xs : List Expr} (hf : f = lmName m) (hline : (apos.endLine == pos.line) = true) (hsup : notSup y = true) (h30 : xs.length < 30) (ho : EOk X L W y (den G Γ o))
    (hs : Paired (fun e p => EOk X L W e p ∧ Stat e) xs (dens G Γ es)) : EOk X L W (.Call (.Attribute y f apos) xs [] pos) (den G Γ (.lm m o es)) := by
  subst hf
  show EOk X L W _ (plain fun ρ μ F R => (den G Γ o).1 ρ μ F fun x μ1 => rcv m μ1 x ∧ evs (dens G Γ es) ρ μ1 F fun ts μ2 => tLm m x ts μ2 R)
  generalize dens G Γ es = pes at hs
  refine EOk.plain (fun Φ B μ H σ ρ F R Q S sl q kx k => ?_) fun _ => rfl
  obtain ⟨p1, p2⟩ := lm_pa m
  have pl := star_plain hs X.env pos
  cases hs with
  | nil =>
    refine sE_of (pe_bm0 (lm_at m) p1 p2 (lm_ok (L := L) m) pe_s (notSup_base hsup) hline) ?_
    refine ho.v Φ B μ H σ ρ F _ _ S sl q kx fun v t H1 B1 μ1 l1 S1 r1 q1 => ?_
    obtain ⟨e, q1⟩ := q1
    exact ⟨rcv_ty S1 r1 e, Φ, B1, μ1, t, [], R, S1, r1, rfl, q1, k.mono l1⟩
  | cons h1 hs' =>
    rename_i e0 p0 es0 ps0
    have hfew : ((backTo pos (starEach (e0 :: es0) X.env)).all (fun x => !x.1) && (backToKw pos (keywordEach [] X.env)).all (fun x => x.1.isSome) && decide ((e0 :: es0).length + ([] : List Keyword).length + (if ([] : List Keyword).isEmpty then 0 else 1) < 30)) = true := by
      have z : (backTo pos (starEach (e0 :: es0) X.env)).all (fun x => !x.1) = true := by
        rw [List.all_eq_true]
        intro w hw
        have := List.any_eq_false.mp pl w hw
        simpa using this
      rw [z]
      show (true && true && decide ((e0 :: es0).length + 0 + 0 < 30)) = true
      simp only [Bool.true_and, decide_eq_true_eq]
      omega
    refine sE_of (pe_bm (lm_at m) p1 p2 (lm_ok (L := L) m) pe_s pa_s (notSup_base hsup) hfew hline (h1.2.star X.env _) (star_plain hs' X.env pos)) ?_
    refine ho.v Φ B μ H σ ρ F _ _ S sl q kx fun v t H1 B1 μ1 l1 S1 r1 q1 => ?_
    obtain ⟨e, q1⟩ := q1
    refine ⟨rcv_ty S1 r1 e, ?_⟩
    refine AOk.of (.cons h1 hs') Φ B1 μ1 H1 σ ρ F _ _ S1 (sl.mono l1) q1 (kx.mono l1) fun ws ts H2 B2 μ2 l2 S2 r2 n2 q2 => ?_
    exact ⟨Φ, B2, μ2, t, ts, R, S2, r1.mono l2, r2, q2, k.mono (l1.trans l2)⟩

/-! ## 17. What a loop walks, from the text -/
def ItOk (X : Cx) (L : Lay) (W : WX) (k : ItK) (tg iter : Expr) (ps : List (TEx × TTe)) : Prop := notSet iter = true ∧ ∃ wi, PI X tg iter wi ∧ ∀ Φ B μ H σ ρ F (K : List T → (Sto → Prop) → Sto → Prop) (R : It → Hp → Prop), St X.K L Φ H B μ → Slots X.K B σ ρ →
  evs ps ρ μ F (fun ts μ1 => itT k ts μ1 fun us gd => K us gd μ1) → PostX X.K L Φ B F (WE W σ) →
  (∀ J H1 B1 μ1 us gd, Le B B1 → St X.K L Φ H1 B1 μ1 → Sim X.K L B1 J us gd → K us gd μ1 → R J H1) → wi σ H R
theorem it_names : (("range" : Str) ∈ blNames) ∧ (("enumerate" : Str) ∈ blNames) ∧ (("zip" : Str) ∈ blNames) ∧ (("reversed" : Str) ∈ blNames) := ⟨by decide +kernel, by decide +kernel, by decide +kernel, by decide +kernel⟩
theorem i_val {e : Expr} {tg : Expr} {p : TEx × TTe} (hn : notSet e = true) (h : EOk X L W e p) : ItOk X L W .val tg e [p] := by
  refine ⟨hn, _, pi_list pe_s, fun Φ B μ H σ ρ F K R S sl q kx k => ?_⟩
  refine h.v Φ B μ H σ ρ F _ _ S sl q kx fun v t H1 B1 μ1 l1 S1 r1 q1 => ?_
  obtain ⟨a, us, gd, rfl, ls, g0, q1⟩ := onG_ok S1 r1 (show onG μ1 t fun us gd => K us gd μ1 from q1)
  obtain ⟨vs, h1, h2⟩ := ls Φ H1 B1 μ1 (Same.refl _) S1 g0
  exact ⟨a, rfl, ⟨vs, h1⟩, k _ H1 B1 μ1 us gd l1 S1 (sim_list ls) q1⟩
theorem i_tupl {e : Expr} {tg : Expr} {p : TEx × TTe} (hn : notSet e = true) (h : EOk X L W e p) : ItOk X L W .tupl tg e [p] := by
  refine ⟨hn, _, pi_tup pe_s, fun Φ B μ H σ ρ F K R S sl q kx k => ?_⟩
  refine h.v Φ B μ H σ ρ F _ _ S sl q kx fun v t H1 B1 μ1 l1 S1 r1 q1 => ?_
  obtain ⟨us, rfl, q1⟩ := q1
  obtain ⟨a, vs, rfl, h1, h2⟩ := r1
  exact ⟨a, rfl, ⟨vs, Le.seqT S1.sub h1⟩, k _ H1 B1 μ1 us any l1 S1 (sim_tup (Le.seqT S1.sub h1) S1 h1 h2) q1⟩
theorem i_strg {e : Expr} {tg : Expr} {p : TEx × TTe} (hn : notSet e = true) (h : EOk X L W e p) : ItOk X L W .strg tg e [p] := by
  refine ⟨hn, _, pi_str pe_s, fun Φ B μ H σ ρ F K R S sl q kx k => ?_⟩
  refine h.v Φ B μ H σ ρ F _ _ S sl q kx fun v t H1 B1 μ1 l1 S1 r1 q1 => ?_
  obtain ⟨z, rfl, q1⟩ := q1
  obtain rfl := r1
  exact ⟨z, rfl, k _ H1 B1 μ1 _ any l1 S1 sim_str q1⟩
theorem range_zero (n : Int) : ((List.range n.toNat).map fun i => T.int (i : Nat)) = (List.range n.toNat).map fun i => T.int (0 + (i : Nat)) := by
  refine List.map_congr_left fun i _ => ?_
  rw [Int.zero_add]
theorem i_rng1 (C : Ctx G Γ L c X W) {f : Str} {fp : Pos} {e : Expr} {tg : Expr} {p : TEx × TTe} (hx : gName c "range" f = true) (h : EOk X L W e p) (st : Stat e) : ItOk X L W .rng1 tg (.Call (.Name f fp) [e] [] pos) [p] := by
  obtain ⟨rfl, hg⟩ := gName_ok hx
  refine ⟨rfl, _, pi_range1 (C.gl _ hg) (C.g.bl _ it_names.1) (pa_cons pe_s pa_nil (st.star _ _)) (st.star _ _), fun Φ B μ H σ ρ F K R S sl q kx k => ?_⟩
  refine h.v Φ B μ H σ ρ F _ _ S sl q kx fun v t H1 B1 μ1 l1 S1 r1 q1 => ?_
  obtain ⟨n, rfl, ⟨b1, b2⟩, q1⟩ := q1
  obtain rfl := r1
  rw [range_zero] at q1
  exact ⟨n, rfl, b1, b2, k _ H1 B1 μ1 _ any l1 S1 sim_rng q1⟩
theorem i_rng2 (C : Ctx G Γ L c X W) {f : Str} {fp : Pos} {e e2 : Expr} {tg : Expr} {p p2 : TEx × TTe} (hx : gName c "range" f = true) (h : EOk X L W e p) (st : Stat e) (h2 : EOk X L W e2 p2) (st2 : Stat e2) : ItOk X L W .rng2 tg (.Call (.Name f fp) [e, e2] [] pos) [p, p2] := by
  obtain ⟨rfl, hg⟩ := gName_ok hx
  refine ⟨rfl, _, pi_range2 (C.gl _ hg) (C.g.bl _ it_names.1) (pa_cons pe_s (pa_cons pe_s pa_nil (st2.star _ _)) (st.star _ _)) (by rw [st.star, st2.star]; rfl) (st2.star _ _), fun Φ B μ H σ ρ F K R S sl q kx k => ?_⟩
  refine h.v Φ B μ H σ ρ F _ _ S sl q kx fun v t H1 B1 μ1 l1 S1 r1 q1 => ?_
  refine h2.v Φ B1 μ1 H1 σ ρ F _ _ S1 (sl.mono l1) q1 (kx.mono l1) fun w u H2 B2 μ2 l2 S2 r2 q2 => ?_
  obtain ⟨a, b, rfl, rfl, hb, q2⟩ := q2
  obtain rfl := r1
  obtain rfl := r2
  exact ⟨a, b, rfl, hb, k _ H2 B2 μ2 _ any (l1.trans l2) S2 sim_rng q2⟩
theorem i_enum (C : Ctx G Γ L c X W) {f : Str} {fp : Pos} {e : Expr} {tg : Expr} {p : TEx × TTe} (ht : isTupE tg = true) (hx : gName c "enumerate" f = true) (h : EOk X L W e p) (st : Stat e) : ItOk X L W .enum tg (.Call (.Name f fp) [e] [] pos) [p] := by
  obtain ⟨rfl, hg⟩ := gName_ok hx
  cases tg <;> first | cases ht | skip
  refine ⟨rfl, _, pi_enum (C.gl _ hg) (C.g.bl _ it_names.2.1) (pa_cons pe_s pa_nil (st.star _ _)) (st.star _ _), fun Φ B μ H σ ρ F K R S sl q kx k => ?_⟩
  refine h.v Φ B μ H σ ρ F _ _ S sl q kx fun v t H1 B1 μ1 l1 S1 r1 q1 => ?_
  obtain ⟨a, us, gd, rfl, ls, g0, q1⟩ := onG_ok S1 r1 (show onG μ1 t fun us gd => K (us.zipIdx.map fun p => .tup [.int (p.2 : Nat), p.1]) gd μ1 from q1)
  obtain ⟨vs, h1, h2⟩ := ls Φ H1 B1 μ1 (Same.refl _) S1 g0
  exact ⟨a, vs, rfl, h1, k _ H1 B1 μ1 _ gd l1 S1 (sim_enum ls) q1⟩
theorem i_rev (C : Ctx G Γ L c X W) {f : Str} {fp : Pos} {e : Expr} {tg : Expr} {p : TEx × TTe} (hx : gName c "reversed" f = true) (h : EOk X L W e p) (st : Stat e) : ItOk X L W .rev tg (.Call (.Name f fp) [e] [] pos) [p] := by
  obtain ⟨rfl, hg⟩ := gName_ok hx
  refine ⟨rfl, _, pi_reversed (C.gl _ hg) (C.g.bl _ it_names.2.2.2) (pa_cons pe_s pa_nil (st.star _ _)) (st.star _ _), fun Φ B μ H σ ρ F K R S sl q kx k => ?_⟩
  refine h.v Φ B μ H σ ρ F _ _ S sl q kx fun v t H1 B1 μ1 l1 S1 r1 q1 => ?_
  obtain ⟨a, us, gd, rfl, ls, g0, q1⟩ := onG_ok S1 r1 (show onG μ1 t fun us gd => K us.reverse gd μ1 from q1)
  obtain ⟨vs, h1, h2⟩ := ls Φ H1 B1 μ1 (Same.refl _) S1 g0
  exact ⟨a, vs, rfl, h1, k _ H1 B1 μ1 _ gd l1 S1 (sim_rev ls h2.length) q1⟩
theorem i_zip (C : Ctx G Γ L c X W) {f : Str} {fp : Pos} {e e2 : Expr} {tg : Expr} {p p2 : TEx × TTe} (ht : isTupE tg = true) (hx : gName c "zip" f = true) (h : EOk X L W e p) (st : Stat e) (h2 : EOk X L W e2 p2) (st2 : Stat e2) : ItOk X L W .zip tg (.Call (.Name f fp) [e, e2] [] pos) [p, p2] := by
  obtain ⟨rfl, hg⟩ := gName_ok hx
  cases tg <;> first | cases ht | skip
  have pl : (backTo pos (starEach [e2] X.env)).any (·.1) = false := by rw [st2.star]; rfl
  refine ⟨rfl, _, L2.pi_zip (C.gl _ hg) (C.g.bl _ it_names.2.2.1) (pa_cons pe_s (pa_cons pe_s pa_nil (st2.star _ _)) (st.star _ _)) (st.star _ _) pl, fun Φ B μ H σ ρ F K R S sl q kx k => ?_⟩
  refine h.v Φ B μ H σ ρ F _ _ S sl q kx fun v t H1 B1 μ1 l1 S1 r1 q1 => ?_
  refine h2.v Φ B1 μ1 H1 σ ρ F _ _ S1 (sl.mono l1) q1 (kx.mono l1) fun w u H2 B2 μ2 l2 S2 r2 q2 => ?_
  obtain ⟨a, us, gd, rfl, ls, g0, q2⟩ := onG_ok S2 (r1.mono l2) (show onG μ2 t fun us g1 => onG μ2 u fun ws g2 => K ((us.zip ws).map fun p => .tup [p.1, p.2]) (fun μ' => g1 μ' ∧ g2 μ') μ2 from q2)
  obtain ⟨b, ws, gd2, rfl, ls2, g02, q2⟩ := onG_ok S2 r2 q2
  obtain ⟨vs, h1', h2'⟩ := ls Φ H2 B2 μ2 (Same.refl _) S2 g0
  obtain ⟨vs2, h3', h4'⟩ := ls2 Φ H2 B2 μ2 (Same.refl _) S2 g02
  exact ⟨a, b, vs, vs2, rfl, h1', h3', k _ H2 B2 μ2 _ _ (l1.trans l2) S2 (sim_zip ls ls2) q2⟩
end
end Rh

namespace Rh
open PySem PySem.Spec PyProof.Rows L2

/-! ## 18. Lists made item by item -/
section
variable {X : Cx} {L : Lay} {W : WX} {G : Tab} {Γ : Nat → TSp} {c : SC} {pos : Pos}
theorem relabel_look {env : Env} {x : Str} : ∀ {names : List (Str × NameKind)}, ∃ b : Bool,
    (names.map fun (n, k) => if (k == NameKind.free && env.scope.kind == .function && env.kindOf n == some .cell) then (n, NameKind.cell) else (n, k)).lookup x = match names.lookup x with
      | some .free => if b then some .cell else some .free
      | o => o
  | [] => ⟨true, rfl⟩
  | (n, k) :: r => by
    obtain ⟨b, ih⟩ := relabel_look (env := env) (x := x) (names := r)
    rw [List.map_cons]
    by_cases hc : (k == NameKind.free && env.scope.kind == .function && env.kindOf n == some .cell) = true
    · have hk : k = .free := by
        simp only [Bool.and_eq_true, beq_iff_eq] at hc
        exact hc.1.1
      subst hk
      cases hx : x == n with
      | true =>
        refine ⟨true, ?_⟩
        dsimp only
        rw [if_pos hc, List.lookup_cons, List.lookup_cons, hx]
        rfl
      | false =>
        refine ⟨b, ?_⟩
        dsimp only
        rw [if_pos hc, List.lookup_cons, List.lookup_cons, hx]
        exact ih
    · cases hx : x == n with
      | true =>
        refine ⟨false, ?_⟩
        dsimp only
        rw [if_neg hc, List.lookup_cons, List.lookup_cons, hx]
        cases k <;> rfl
      | false =>
        refine ⟨b, ?_⟩
        dsimp only
        rw [if_neg hc, List.lookup_cons, List.lookup_cons, hx]
        exact ih
theorem Ctx.blk (C : Ctx G Γ L c X W) (hh : c.hot = false) (scope : Scope) (s : Shared) (H : Hp) (D : Addr) (cl : List (Str × Addr)) (fp : List Addr) :
    Ctx G Γ L { c with sc := scope } (X.blk s H scope (compEnvC scope cl D X.env) fp) (fun _ _ _ _ => False) where
  N := C.N
  nd := C.nd
  vi := fun x h => by
    obtain ⟨b, e⟩ := relabel_look (env := X.env) (x := x) (names := scope.names)
    have h' : vis scope x = true := h
    unfold vis at h'
    show Vis (relabel scope X.env) x
    unfold Vis relabel
    rw [e]
    revert h'
    cases scope.names.lookup x with
    | none => intro h'; cases h'
    | some k =>
      cases k with
      | «local» => intro _; exact .inl rfl
      | cell => intro _; exact .inr (.inl rfl)
      | free =>
        intro _
        cases b with
        | true => exact .inr (.inl rfl)
        | false => exact .inr (.inr rfl)
      | globalExplicit => intro h'; cases h'
      | globalImplicit => intro h'; cases h'
  st := fun x h => by
    obtain ⟨b, e⟩ := relabel_look (env := X.env) (x := x) (names := scope.names)
    have h' : loc scope x = true := h
    unfold loc at h'
    show L2.Loc (relabel scope X.env) x ∧ ((scope.names.lookup x == some .cell) = true ∨ (relabel scope X.env).names.lookup x = some .local)
    unfold L2.Loc relabel
    rw [e]
    revert h'
    cases scope.names.lookup x with
    | none => intro h'; cases h'
    | some k =>
      cases k with
      | «local» => intro _; exact ⟨.inl rfl, .inr rfl⟩
      | cell => intro _; exact ⟨.inr rfl, .inl rfl⟩
      | free => intro h'; cases h'
      | globalExplicit => intro h'; cases h'
      | globalImplicit => intro h'; cases h'
  gl := fun x h => by
    obtain ⟨b, e⟩ := relabel_look (env := X.env) (x := x) (names := scope.names)
    have h' : glb scope x = true := h
    unfold glb at h'
    show (relabel scope X.env).names.lookup x = some .globalImplicit
    unfold relabel
    rw [e]
    revert h'
    cases scope.names.lookup x with
    | none => intro h'; cases h'
    | some k => cases k <;> first | (intro _; rfl) | (intro h'; cases h')
  fc := fun x h => by
    obtain ⟨b, e⟩ := relabel_look (env := X.env) (x := x) (names := scope.names)
    have h' : scope.names.lookup x = some .cell ∨ scope.names.lookup x = some .free := h
    show (relabel scope X.env).names.lookup x = some .cell ∨ (relabel scope X.env).names.lookup x = some .free
    unfold relabel
    rw [e]
    rcases h' with h' | h'
    · rw [h']
      exact .inl rfl
    · rw [h']
      cases b with
      | true => exact .inl rfl
      | false => exact .inr rfl
  room := C.room
  hu := C.hu
  calm := C.calm
  tk := takes0
  cu := fun h => absurd (C.cu h).1 (by rw [hh]; exact Bool.false_ne_true)
  g := C.g
theorem noPX {K : PySem.W.Frag} {Φ B : Hp} {E : XK} : PostX K L Φ B noX E := fun _ _ _ _ _ _ h => h.elim
/-- what the parts of a list made item by item are known for -/
structure CompOk (X : Cx) (L : Lay) (scope : Scope) (vs : List Nat) (g : Tg) (tg : Expr) (ifs : List Expr) (z : Expr) (pc pe : TEx × TTe) : Prop where
  g_ : ∀ s H D cl fp, GOk1 (X.blk s H scope (compEnvC scope cl D X.env) fp) L g tg
  vs_ : tgIn vs g = true
  if_ : (ifs = [] ∧ pc = den (⟨fun _ => none, fun _ => none, fun _ => none, fun _ => none, fun _ => [], false, false⟩) (fun _ _ _ _ _ => False) (.cbl true)) ∨ ∃ d, ifs = [d] ∧ ∀ s H D cl fp, EOk (X.blk s H scope (compEnvC scope cl D X.env) fp) L (fun _ _ _ _ => False) d pc
  e_ : ∀ s H D cl fp, EOk (X.blk s H scope (compEnvC scope cl D X.env) fp) L (fun _ _ _ _ => False) z pe
theorem comp_lc {scope : Scope} {vs : List Nat} {own : List (Str × Nat)} {g : Tg} {tg iter z : Expr} {ifs : List Expr} {pc pe : TEx × TTe} {kk : ItK} {ps : List (TEx × TTe)} {ow : Bool} (hv : own.map (·.2) = vs) (it : ItOk X L W kk tg iter ps) (Q0 : CompOk X L scope vs g tg ifs z pc pe) :
    ∃ wi gg tt te, PI X tg iter wi ∧ (∀ s H D cl fp, PG (X.blk s H scope (compEnvC scope cl D X.env) fp) tg gg) ∧ (∀ s H D cl fp, PTs (X.blk s H scope (compEnvC scope cl D X.env) fp) ifs tt) ∧ (∀ s H D cl fp, PE (X.blk s H scope (compEnvC scope cl D X.env) fp) z te) ∧
    ∀ Φ B μ H σ ρ F R Q, St X.K L Φ H B μ → Slots X.K B σ ρ → (evs ps ρ μ F fun ts μ1 => itT kk ts μ1 fun us gd => compD ow vs g pc pe ρ R us gd μ1) → PostX X.K L Φ B F (WE W σ) → Post X.K L Φ B R Q → tLc wi gg tt te (own.map (·.2)) σ H Q := by
  obtain ⟨hn, wi, hwi, hit⟩ := it
  have tests : ∃ tt : TT, (∀ s H D cl fp, PTs (X.blk s H scope (compEnvC scope cl D X.env) fp) ifs tt) ∧ ∀ Φ B μ H σ ρ R Q, St X.K L Φ H B μ → Slots X.K B σ ρ → pc.2 ρ μ noX R → PostB X.K L Φ B R Q → tt σ H Q := by
    rcases Q0.if_ with ⟨rfl, rfl⟩ | ⟨d, rfl, hd⟩
    · exact ⟨tYes, fun _ _ _ _ _ => pts_nil, fun Φ B μ H σ ρ R Q S sl q k => k true H B μ (Same.refl _) S q⟩
    · refine ⟨fun σ H Q => ∀ s H0 D cl fp, sT (X.blk s H0 scope (compEnvC scope cl D X.env) fp) d σ H Q, fun s H0 D cl fp => pts_one ⟨fun pins s1 σ H Q I h => h s H0 D cl fp pins s1 I⟩, fun Φ B μ H σ ρ R Q S sl q k s H0 D cl fp => ?_⟩
      exact (hd s H0 D cl fp).t Φ B μ H σ ρ noX R Q S sl q noPX k
  obtain ⟨tt, htt, htt2⟩ := tests
  refine ⟨wi, fun v σ H Q => ∀ s H0 D cl fp, sG (X.blk s H0 scope (compEnvC scope cl D X.env) fp) tg v σ H Q, tt, fun σ H Q => ∀ s H0 D cl fp, sE (X.blk s H0 scope (compEnvC scope cl D X.env) fp) z σ H Q, hwi,
    fun s H0 D cl fp => ⟨fun pins s1 σ H v u Q I r h => h s H0 D cl fp pins s1 u I r⟩, htt, fun s H0 D cl fp => ⟨fun pins s1 σ H Q I h => h s H0 D cl fp pins s1 I⟩, fun Φ B μ H σ ρ F R Q S sl q kx k => ?_⟩
  refine hit Φ B μ H σ ρ F (fun us gd μ1 => compD ow vs g pc pe ρ R us gd μ1) _ S sl q kx fun J H1 B1 μ1 us gd l1 S1 sim q1 D hD => ?_
  obtain ⟨I, i0, iend, istep⟩ := q1
  have hF : Φ D = none := S1.freshF hD
  refine ⟨fun i m H2 => ∃ B2 μ2 acc r va, Le B1 B2 ∧ St X.K L (upd Φ D (.lst va)) H2 B2 μ2 ∧ Trs X.K B2 va acc ∧ us.drop i = r ∧ i ≤ us.length ∧ m = r.length ∧ I acc r μ2, ⟨us.length, B1, μ1, [], us, [], Same.refl _, S1.frame hD, rfl, rfl, Nat.zero_le _, rfl, i0⟩, ?_⟩
  rintro i m H2 ⟨B2, μ2, acc, r, va, l2, S2, ra, er, hi, em, hI⟩
  cases r with
  | nil =>
    obtain ⟨g2, fin⟩ := iend acc μ2 hI
    have hlen : us.length ≤ i := by
      have := congrArg List.length er
      rw [List.length_drop] at this
      simp at this
      omega
    exact .inl ⟨sim.stop _ i H2 B2 μ2 l2 S2 g2 hlen, claimL S2 hF ra fin (k.mono (l1.trans l2))⟩
  | cons t r =>
    obtain ⟨g2, hb⟩ := istep acc t r μ2 hI
    have hlt : i < us.length := by
      have := congrArg List.length er
      rw [List.length_drop] at this
      simp at this
      omega
    have et : us[i]? = some t := by
      have := congrArg (fun l => l[0]?) er
      simpa [List.getElem?_drop] using this
    have er' : us.drop (i + 1) = r := by
      have := congrArg List.tail er
      simpa [List.tail_drop] using this
    obtain ⟨hgo, hy⟩ := sim.go _ i H2 B2 μ2 l2 S2 g2 hlt
    refine .inr ⟨hgo, fun H3 => ∃ B3 μ3 acc va, Le B1 B3 ∧ St X.K L (upd Φ D (.lst va)) H3 B3 μ3 ∧ Trs X.K B3 va acc ∧ I acc r μ3, fun H3 ⟨B3, μ3, acc3, va3, l3, S3, r3, h3⟩ => ⟨r.length, by rw [em]; simp, B3, μ3, acc3, r, va3, l3, S3, r3, er', hlt, rfl, h3⟩, fun x H3 y => ?_⟩
    obtain ⟨B3, t', l3, S3, et', rt⟩ := hy x H3 y
    rw [et] at et'
    cases et'
    have sl3 : Slots X.K B3 (L2.wipe σ vs) (wipeT ρ vs) := (sl.mono ((l1.trans l2).trans l3)).wipe vs
    rw [hv]
    intro s H0 D0 cl fp
    refine Q0.g_ s H0 D0 cl fp _ B3 μ2 H3 _ _ x t _ _ S3 sl3 rt hb fun σ4 ρ4 sl4 w4 q4 => ⟨?_, ?_⟩
    · rw [w4 vs Q0.vs_]
      exact wipe_wipe
    · refine htt2 _ B3 μ2 H3 σ4 ρ4 _ _ S3 sl4 q4 fun b H5 B5 μ5 l5 S5 q5 => ?_
      cases b with
      | false =>
        rw [if_neg Bool.false_ne_true] at q5 ⊢
        exact ⟨B5, μ5, acc, va, (l2.trans l3).trans l5, S5, ra.mono (l3.trans l5), q5⟩
      | true =>
        rw [if_pos rfl] at q5 ⊢
        intro s' H0' D0' cl' fp'
        refine (Q0.e_ s' H0' D0' cl' fp').v _ B5 μ5 H5 σ4 ρ4 noX _ _ S5 (sl4.mono l5) q5 noPX fun v6 t6 H6 B6 μ6 l6 S6 r6 q6 => ?_
        obtain ⟨hz, y', μ7, wk, q7⟩ := q6
        obtain ⟨_, hH, _⟩ := S6.unframe hF
        obtain ⟨B7, l7, S7, r7⟩ := wk.ok S6 r6
        have ra7 := ra.mono (((l3.trans l5).trans l6).trans l7)
        refine ⟨va, hH, by rw [ra.length]; exact hz, B7, μ7, acc ++ [y'], va ++ [v6], ((((l2.trans l3).trans l5).trans l6).trans l7), S7.reframe, ra7.append (Trs.cons r7 Trs.nil), q7⟩
theorem own_ix {N : List Str} {vs : List Nat} : ∀ p ∈ ownNames N vs, N[p.2]? = some p.1 := fun p hp => by
  unfold ownNames at hp
  obtain ⟨i, _, e⟩ := List.mem_filterMap.mp hp
  rw [Option.map_eq_some_iff] at e
  obtain ⟨x, h1, rfl⟩ := e
  exact h1
theorem blk_ok (C : Ctx G Γ L c X W) {scope : Scope} {own : List (Str × Nat)} (h : blkC c.N c.sc scope own = true) : BlkOk X.N X.env.scope scope own := by
  have b := blkOk_by h
  rw [C.N]
  exact ⟨b.kind, b.uniq, b.ix, fun y hy e => C.fc _ (b.free y hy e), b.own⟩
theorem k_comp (C : Ctx G Γ L c X W) (hh : c.hot = false) {own : Bool} {vs : List Nat} {g : Tg} {kk : ItK} {its : List Ex} {cond elt : Ex} {z tg iter : Expr} {ifs : List Expr} {scope : Scope} (hb : blkC c.N c.sc scope (ownNames c.N vs) = true) (hv : (ownNames c.N vs).map (·.2) = vs)
    (it : ItOk X L W kk tg iter (dens G Γ its)) (Q0 : CompOk X L scope vs g tg ifs z (den G Γ cond) (den G Γ elt)) : EOk X L W (.ListComp z [⟨tg, iter, ifs, 0⟩] scope pos) (den G Γ (.comp own vs g kk its cond elt)) := by
  obtain ⟨wi, gg, tt, te, h1, h2, h3, h4, h5⟩ := comp_lc (ow := own) hv it Q0
  exact EOk.plain (fun Φ B μ H σ ρ F R Q S sl q kx k => sE_of (pe_lc (C.calm hh) (by rw [C.N]; exact C.nd) h1 (blk_ok C hb) h2 h3 h4 (folded it.1)) (h5 Φ B μ H σ ρ F R Q S sl q kx k)) fun _ => rfl

/-! ## 19. The text against the core: all expressions -/
def cbl_t : TEx × TTe := den (⟨fun _ => none, fun _ => none, fun _ => none, fun _ => none, fun _ => [], false, false⟩) (fun _ _ _ _ _ => False) (.cbl true)
theorem comp_parts (C : Ctx G Γ L c X W) (hh : c.hot = false) {vs : List Nat} {g : Tg} {cond elt : Ex} {z tg : Expr} {ifs : List Expr} {scope : Scope} (hg : chkG { c with sc := scope } g tg = true) (hvg : tgIn vs g = true)
    (hif : (ifs = [] ∧ cond = .cbl true) ∨ ∃ d, ifs = [d] ∧ ∀ (X : Cx) (W : WX), Ctx G Γ L { c with sc := scope } X W → EOk X L W d (den G Γ cond))
    (he : ∀ (X : Cx) (W : WX), Ctx G Γ L { c with sc := scope } X W → EOk X L W z (den G Γ elt)) : CompOk X L scope vs g tg ifs z (den G Γ cond) (den G Γ elt) where
  g_ := fun s H D cl fp => tg_ok (C.blk hh scope s H D cl fp) g tg hg
  vs_ := hvg
  if_ := by
    rcases hif with ⟨rfl, rfl⟩ | ⟨d, rfl, hd⟩
    · exact .inl ⟨rfl, rfl⟩
    · exact .inr ⟨d, rfl, fun s H D cl fp => hd _ _ (C.blk hh scope s H D cl fp)⟩
  e_ := fun s H D cl fp => he _ _ (C.blk hh scope s H D cl fp)
end
end Rh

namespace Rh
open PySem PySem.Spec PyProof.Rows L2
section
variable {L : Lay} {G : Tab} {Γ : Nat → TSp}
def M1 (L : Lay) (G : Tab) (Γ : Nat → TSp) (c : SC) (ex : Ex) (e : Expr) : Prop := chkE G c ex e = true → ∀ (X : Cx) (W : WX), Ctx G Γ L c X W → EOk X L W e (den G Γ ex) ∧ Stat e
def M2 (L : Lay) (G : Tab) (Γ : Nat → TSp) (c : SC) (k : ItK) (its : List Ex) (iter tg : Expr) : Prop := chkIt G c k its iter tg = true → ∀ (X : Cx) (W : WX), Ctx G Γ L c X W → ItOk X L W k tg iter (dens G Γ its)
def M3 (L : Lay) (G : Tab) (Γ : Nat → TSp) (c : SC) (es : List Ex) (xs : List Expr) : Prop := chkEs G c es xs = true → ∀ (X : Cx) (W : WX), Ctx G Γ L c X W → Paired (fun e p => EOk X L W e p ∧ Stat e) xs (dens G Γ es)
def Hcl (G : Tab) : Prop := ∀ f i d, G.fn f = some i → i.cls = some d → ∃ ci, G.cl d = some ci
def Hfl (G : Tab) : Prop := ∀ d f, f ∈ G.flds d → ∃ ci, G.cl d = some ci
abbrev A1 (L : Lay) (G : Tab) (Γ : Nat → TSp) (ex : Ex) : Prop := ∀ c e, M1 L G Γ c ex e
abbrev A3 (L : Lay) (G : Tab) (Γ : Nat → TSp) (es : List Ex) : Prop := (∀ c xs, M3 L G Γ c es xs) ∧ ∀ a ∈ es, A1 L G Γ a
variable {a b d f : Ex} {es fs : List Ex}
theorem o_chk {lo : Ex} {l : Option Expr} {c : SC} (i1 : A1 L G Γ lo) (h : (match l with | none => isCnon lo | some l => !isCnon lo && chkE G c lo l) = true) (X : Cx) (W : WX) (C : Ctx G Γ L c X W) : OOk X L W l lo (den G Γ lo).1 := by
  cases l with
  | none =>
    have h : isCnon lo = true := h
    cases lo <;> first | (cases h; done) | exact o_none
  | some l =>
    have h : (!isCnon lo && chkE G c lo l) = true := h
    rw [Bool.and_eq_true, Bool.not_eq_true'] at h
    exact o_some (fun z => by rw [z] at h; cases h.1) (i1 _ _ h.2 X W C).1
theorem if_chk {cond : Ex} {ifs : List Expr} {c : SC} (i1 : A1 L G Γ cond) (h : (match ifs with | [] => isCtrue cond | [d] => chkE G c cond d | _ => false) = true) : (ifs = [] ∧ cond = .cbl true) ∨ ∃ d, ifs = [d] ∧ ∀ (X : Cx) (W : WX), Ctx G Γ L c X W → EOk X L W d (den G Γ cond) := by
  split at h
  · cases cond <;> first | (cases h; done) | skip
    rename_i b
    have h : b = true := h
    subst h
    exact .inl ⟨rfl, rfl⟩
  · exact .inr ⟨_, rfl, fun X W C => (i1 _ _ h X W C).1⟩
  · cases h
theorem it_chk {k : ItK} {es : List Ex} {iter tg : Expr} {c : SC} (i1 : A3 L G Γ es) (h : chkIt G c k es iter tg = true) (X : Cx) (W : WX) (C : Ctx G Γ L c X W) : ItOk X L W k tg iter (dens G Γ es) := by
  match es, i1, h with
  | [], _, h => unfold chkIt at h <;> first | (cases h; done) | (intros; contradiction)
  | [a], i1, h =>
    have ia := i1.2 a List.mem_cons_self
    unfold chkIt at h
    split at h <;> first | (cases h; done) | (simp only [Bool.and_eq_true] at h)
    · exact i_val h.2 (ia _ _ h.1 X W C).1
    · exact i_tupl h.2 (ia _ _ h.1 X W C).1
    · exact i_strg h.2 (ia _ _ h.1 X W C).1
    · exact i_rng1 C h.1 (ia _ _ h.2 X W C).1 (ia _ _ h.2 X W C).2
    · exact i_enum C h.2 h.1.1 (ia _ _ h.1.2 X W C).1 (ia _ _ h.1.2 X W C).2
    · exact i_rev C h.1 (ia _ _ h.2 X W C).1 (ia _ _ h.2 X W C).2
  | [a, b], i1, h =>
    have ia := i1.2 a List.mem_cons_self
    have ib := i1.2 b (List.mem_cons_of_mem _ List.mem_cons_self)
    unfold chkIt at h
    split at h <;> first | (cases h; done) | (simp only [Bool.and_eq_true] at h)
    · exact i_rng2 C h.1.1 (ia _ _ h.1.2 X W C).1 (ia _ _ h.1.2 X W C).2 (ib _ _ h.2 X W C).1 (ib _ _ h.2 X W C).2
    · exact i_zip C h.2 h.1.1.1 (ia _ _ h.1.1.2 X W C).1 (ia _ _ h.1.1.2 X W C).2 (ib _ _ h.1.2 X W C).1 (ib _ _ h.1.2 X W C).2
  | _ :: _ :: _ :: _, _, h => unfold chkIt at h <;> first | (cases h; done) | (intros; contradiction)
theorem z_var {i : Nat} : A1 L G Γ (.var i) := by
  intro c e h X W C
  unfold chkE at h
  split at h
  · simp only [Bool.and_eq_true, decide_eq_true_eq, Bool.not_eq_true'] at h
    exact ⟨k_var C h.1.1 h.1.2 h.2, stat_of⟩
  · cases h
theorem z_cint {i : Int} : A1 L G Γ (.cint i) := by
  intro c e h X W C
  unfold chkE at h
  split at h
  · simp only [Bool.and_eq_true, decide_eq_true_eq, Bool.not_eq_true'] at h
    subst h
    exact ⟨k_const pe_int (fun _ => rfl) fun _ => rfl, stat_of⟩
  · cases h
theorem z_cstr {i : Str} : A1 L G Γ (.cstr i) := by
  intro c e h X W C
  unfold chkE at h
  split at h
  · simp only [Bool.and_eq_true, decide_eq_true_eq, Bool.not_eq_true'] at h
    subst h
    exact ⟨k_const pe_str (fun _ => rfl) fun _ => rfl, stat_of⟩
  · cases h
theorem z_cbl {i : Bool} : A1 L G Γ (.cbl i) := by
  intro c e h X W C
  unfold chkE at h
  split at h
  · simp only [Bool.and_eq_true, decide_eq_true_eq, Bool.not_eq_true'] at h
    subst h
    exact ⟨k_const pe_bl (fun _ => rfl) fun _ => rfl, stat_of⟩
  · cases h
theorem z_cnon  : A1 L G Γ (.cnon) := by
  intro c e h X W C
  unfold chkE at h
  split at h
  · exact ⟨k_const pe_non (fun _ => rfl) fun _ => rfl, stat_of⟩
  · cases h
theorem z_glob {k : Nat} : A1 L G Γ (.glob k) := by
  intro c e h X W C
  unfold chkE at h
  split at h
  · simp only [Bool.and_eq_true, decide_eq_true_eq, Bool.not_eq_true'] at h
    obtain ⟨⟨h1, h2⟩, h3⟩ := h
    unfold gCon at h1
    cases e : G.con k with
    | none => rw [e] at h1; cases h1
    | some y =>
      rw [e] at h1
      exact ⟨k_glob C e (of_decide_eq_true h1) h2 h3, stat_of⟩
  · cases h
theorem z_bin {op : Operator} {own : Bool} (i1 : A1 L G Γ a) (i2 : A1 L G Γ b) : A1 L G Γ (.bin op own a b) := by
  intro c e h X W C
  unfold chkE at h
  split at h
  · simp only [Bool.and_eq_true, decide_eq_true_eq, Bool.not_eq_true'] at h
    obtain ⟨⟨rfl, h1⟩, h2⟩ := h
    exact ⟨k_bin (i1 _ _ h1 X W C).1 (i2 _ _ h2 X W C).1, stat_of⟩
  · cases h
theorem z_cpow {i j v : Int} : A1 L G Γ (.cpow i j v) := by
  intro c e h X W C
  unfold chkE at h
  split at h
  · simp only [Bool.and_eq_true, decide_eq_true_eq, Bool.not_eq_true'] at h
    obtain ⟨⟨⟨rfl, rfl⟩, h1⟩, h2⟩ := h
    exact ⟨k_cpow h1 h2, stat_of⟩
  · cases h
theorem z_neg (i1 : A1 L G Γ a) : A1 L G Γ (.neg a) := by
  intro c e h X W C
  unfold chkE at h
  split at h
  · exact ⟨k_neg (i1 _ _ h X W C).1, stat_of⟩
  · cases h
theorem z_cmp {op : CmpOp} (i1 : A1 L G Γ a) (i2 : A1 L G Γ b) : A1 L G Γ (.cmp op a b) := by
  intro c e h X W C
  unfold chkE at h
  split at h
  · simp only [Bool.and_eq_true, decide_eq_true_eq, Bool.not_eq_true'] at h
    obtain ⟨⟨⟨rfl, h1⟩, h2⟩, h3⟩ := h
    exact ⟨k_cmp C h3 (i1 _ _ h1 X W C).1 (i2 _ _ h2 X W C).1, stat_of⟩
  · cases h
theorem z_chain {op op' : CmpOp} (i1 : A1 L G Γ a) (i2 : A1 L G Γ b) (i3 : A1 L G Γ d) : A1 L G Γ (.chain op op' a b d) := by
  intro c e h X W C
  unfold chkE at h
  split at h
  · simp only [Bool.and_eq_true, decide_eq_true_eq, Bool.not_eq_true'] at h
    obtain ⟨⟨⟨⟨⟨rfl, rfl⟩, h1⟩, h2⟩, h3⟩, h4⟩ := h
    exact ⟨k_chain C h4 (i1 _ _ h1 X W C).1 (i2 _ _ h2 X W C).1 (i3 _ _ h3 X W C).1, stat_of⟩
  · cases h
theorem z_andor {w : Bool} (i1 : A3 L G Γ es) : A1 L G Γ (.andor w es) := by
  intro c e h X W C
  unfold chkE at h
  split at h
  · simp only [Bool.and_eq_true, decide_eq_true_eq, Bool.not_eq_true'] at h
    obtain ⟨rfl, h1⟩ := h
    exact ⟨k_andor (i1.1 _ _ h1 X W C), stat_of⟩
  · cases h
theorem z_not (i1 : A1 L G Γ a) : A1 L G Γ (.not a) := by
  intro c e h X W C
  unfold chkE at h
  split at h
  · exact ⟨k_not (i1 _ _ h X W C).1, stat_of⟩
  · cases h
theorem z_ife (i1 : A1 L G Γ d) (i2 : A1 L G Γ a) (i3 : A1 L G Γ b) : A1 L G Γ (.ife d a b) := by
  intro c e h X W C
  unfold chkE at h
  split at h
  · simp only [Bool.and_eq_true, decide_eq_true_eq, Bool.not_eq_true'] at h
    exact ⟨k_ife (i1 _ _ h.1.1 X W C).1 (i2 _ _ h.1.2 X W C).1 (i3 _ _ h.2 X W C).1, stat_of⟩
  · cases h
theorem z_idx (i1 : A1 L G Γ a) (i2 : A1 L G Γ b) : A1 L G Γ (.idx a b) := by
  intro c e h X W C
  unfold chkE at h
  split at h
  · simp only [Bool.and_eq_true, decide_eq_true_eq, Bool.not_eq_true'] at h
    exact ⟨k_idx C (i2 _ _ h.2 X W C).2 (i1 _ _ h.1 X W C).1 (i2 _ _ h.2 X W C).1, stat_of⟩
  · cases h
theorem z_slice {own : Bool} (i1 : A1 L G Γ a) (i2 : A1 L G Γ b) (i3 : A1 L G Γ d) : A1 L G Γ (.slice own a b d) := by
  intro c e h X W C
  unfold chkE at h
  split at h
  · rw [Bool.and_eq_true, Bool.and_eq_true] at h
    exact ⟨k_slice (i1 _ _ h.1.1 X W C).1 (o_chk i2 h.1.2 X W C) (o_chk i3 h.2 X W C), stat_of⟩
  · cases h
theorem z_lst {own : Bool} (i1 : A3 L G Γ es) : A1 L G Γ (.lst own es) := by
  intro c e h X W C
  unfold chkE at h
  split at h
  · exact ⟨k_lst (i1.1 _ _ h X W C), stat_of⟩
  · cases h
theorem z_tup (i1 : A3 L G Γ es) : A1 L G Γ (.tup es) := by
  intro c e h X W C
  unfold chkE at h
  split at h
  · exact ⟨k_tup (i1.1 _ _ h X W C), stat_of⟩
  · cases h
theorem z_bif {f : Bif} {own : Bool} (i1 : A3 L G Γ es) : A1 L G Γ (.bif f own es) := by
  intro c e h X W C
  unfold chkE at h
  split at h
  · simp only [Bool.and_eq_true, decide_eq_true_eq, Bool.not_eq_true'] at h
    exact ⟨k_bif C h.2 h.1.1.1 (by simp [h.1.2]) (i1.1 _ _ h.1.1.2 X W C), stat_of⟩
  · cases h
theorem z_lrng {own : Bool} (i1 : A1 L G Γ a) : A1 L G Γ (.lrng own a) := by
  intro c e h X W C
  unfold chkE at h
  split at h
  · simp only [Bool.and_eq_true, decide_eq_true_eq, Bool.not_eq_true'] at h
    exact ⟨k_lrng C h.2 h.1.1.1 h.1.1.2 (i1 _ _ h.1.2 X W C).1 (i1 _ _ h.1.2 X W C).2, stat_of⟩
  · cases h
theorem z_isi {ks : List String} (i1 : A1 L G Γ a) : A1 L G Γ (.isi ks a) := by
  intro c e h X W C
  unfold chkE at h
  split at h
  · simp only [Bool.and_eq_true, decide_eq_true_eq, Bool.not_eq_true'] at h
    exact ⟨k_isi C h.1.1 h.2 (i1 _ _ h.1.2 X W C).2 (i1 _ _ h.1.2 X W C).1, stat_of⟩
  · cases h
theorem z_isx {i j : Nat} : A1 L G Γ (.isx i j) := by
  intro c e h X W C
  unfold chkE at h
  split at h
  · simp only [Bool.and_eq_true, decide_eq_true_eq, Bool.not_eq_true'] at h
    obtain ⟨⟨⟨⟨⟨⟨⟨⟨h1, h2⟩, h3⟩, h4⟩, h5⟩, h6⟩, h7⟩, h8⟩, h9⟩ := h
    exact ⟨k_isx C h1 h2 h3 h4 h5 h6 h7 h8 h9, stat_of⟩
  · cases h
theorem z_call {f nd : Nat} (i1 : A3 L G Γ es) : A1 L G Γ (.call f nd es) := by
  intro c e h X W C
  unfold chkE at h
  split at h
  · simp only [Bool.and_eq_true, decide_eq_true_eq, Bool.not_eq_true'] at h
    obtain ⟨⟨⟨⟨h1, h3⟩, h4⟩, h5⟩, hh⟩ := h
    unfold gFn at h1
    rw [Bool.and_eq_true] at h1
    obtain ⟨h1, h2⟩ := h1
    cases e : G.fn f with
    | none => rw [e] at h1; cases h1
    | some i =>
      rw [e] at h1
      simp only [Bool.and_eq_true, decide_eq_true_eq] at h1 h2
      obtain ⟨⟨⟨⟨g1, g2⟩, g3⟩, g4⟩, g5⟩ := h1
      exact ⟨k_call C hh e g1 g2 g3 g4 g5 h2 h3 h4 (i1.1 _ _ h5 X W C), stat_of⟩
  · cases h
theorem z_meth (hcl : Hcl G) {f nd : Nat} (i1 : A1 L G Γ a) (i2 : A3 L G Γ es) : A1 L G Γ (.meth f nd a es) := by
  intro c e h X W C
  unfold chkE at h
  split at h
  · simp only [Bool.and_eq_true, decide_eq_true_eq, Bool.not_eq_true'] at h
    obtain ⟨⟨⟨⟨⟨⟨hl, h30⟩, h1⟩, h3⟩, h4⟩, h5⟩, hh⟩ := h
    unfold gMt at h1
    rw [Bool.and_eq_true] at h1
    obtain ⟨h1, h2⟩ := h1
    cases e : G.fn f with
    | none => rw [e] at h1; cases h1
    | some i =>
      rw [e] at h1
      simp only [Bool.and_eq_true, decide_eq_true_eq] at h1 h2
      obtain ⟨⟨⟨⟨g1, g2⟩, g3⟩, g4⟩, g5⟩ := h1
      cases e2 : i.cls with
      | none => rw [e2] at g2; cases g2
      | some d =>
        rw [e2] at g2
        exact ⟨k_meth C hh hl h30 e g1 e2 (of_decide_eq_true g2) g3 g4 g5 h2 (hcl f i d e e2) h4 (i1 _ _ h3 X W C).1 (i2.1 _ _ h5 X W C), stat_of⟩
  · cases h
theorem z_make {d : Nat} (i1 : A3 L G Γ es) : A1 L G Γ (.make d es) := by
  intro c e h X W C
  unfold chkE at h
  split at h
  · simp only [Bool.and_eq_true, decide_eq_true_eq, Bool.not_eq_true'] at h
    obtain ⟨⟨⟨⟨h1, h2⟩, h3⟩, h4⟩, hh⟩ := h
    unfold gMk at h1
    cases e : G.cl d with
    | none => rw [e] at h1; cases h1
    | some i =>
      rw [e] at h1
      simp only [Bool.and_eq_true, decide_eq_true_eq] at h1
      obtain ⟨⟨g1, g2⟩, g3⟩ := h1
      cases e2 : G.fn i.init with
      | none => rw [e2] at g3; cases g3
      | some j =>
        rw [e2] at g3
        simp only [Bool.and_eq_true, decide_eq_true_eq] at g3
        exact ⟨k_make C hh e g1 g2 e2 g3.1 g3.2 h2 h3 (i1.1 _ _ h4 X W C), stat_of⟩
  · cases h
theorem z_fld (hfl : Hfl G) {d i : Nat} (i1 : A1 L G Γ a) : A1 L G Γ (.fld d i a) := by
  intro c e h X W C
  unfold chkE at h
  split at h
  · simp only [Bool.and_eq_true, decide_eq_true_eq, Bool.not_eq_true'] at h
    obtain ⟨⟨h1, h2⟩, h3⟩ := h
    exact ⟨k_fld C h2 h3 (hfl d _ (List.mem_of_getElem? h3)) (i1 _ _ h1 X W C).1, stat_of⟩
  · cases h
theorem z_lm {m : Lm} (i1 : A1 L G Γ a) (i2 : A3 L G Γ es) : A1 L G Γ (.lm m a es) := by
  intro c e h X W C
  unfold chkE at h
  split at h
  · simp only [Bool.and_eq_true, decide_eq_true_eq, Bool.not_eq_true'] at h
    obtain ⟨⟨⟨⟨⟨h1, h2⟩, h3⟩, h4⟩, h5⟩, h6⟩ := h
    exact ⟨k_lm C h1 h2 h4 h6 (i1 _ _ h3 X W C).1 (i2.1 _ _ h5 X W C), stat_of⟩
  · cases h
theorem z_comp {own : Bool} {vs : List Nat} {g : Tg} {k : ItK} (i1 : A3 L G Γ es) (i2 : A1 L G Γ a) (i3 : A1 L G Γ b) : A1 L G Γ (.comp own vs g k es a b) := by
  intro c e h X W C
  unfold chkE at h
  split at h
  · simp only [Bool.and_eq_true, decide_eq_true_eq, Bool.not_eq_true'] at h
    obtain ⟨⟨⟨⟨⟨⟨⟨h1, h2⟩, h3⟩, h4⟩, h5⟩, h6⟩, h7⟩, h8⟩ := h
    refine ⟨k_comp C h8 h5 h6 (it_chk i1 h1 X W C) (comp_parts C h8 h2 h7 ?_ fun X W C => (i3 _ _ h4 X W C).1), stat_of⟩
    exact if_chk i2 h3
  · cases h
theorem z_nset (i1 : A1 L G Γ a) : A1 L G Γ (.nset a) := by
  intro c e h X W C
  unfold chkE at h
  split at h
  · simp only [Bool.and_eq_true, decide_eq_true_eq, Bool.not_eq_true'] at h
    exact ⟨k_nset C h.2 h.1.1.1 h.1.1.2 (i1 _ _ h.1.2 X W C).1 (i1 _ _ h.1.2 X W C).2, stat_of⟩
  · cases h
theorem z_isx2 {i j j' : Nat} : A1 L G Γ (.isx2 i j j') := by
  intro c e h X W C
  unfold chkE at h
  split at h
  · simp only [Bool.and_eq_true, decide_eq_true_eq, Bool.not_eq_true'] at h
    obtain ⟨⟨⟨⟨⟨⟨⟨⟨⟨⟨⟨h1, h2⟩, h3⟩, h4⟩, h5⟩, h6⟩, h7⟩, h8⟩, h9⟩, h10⟩, h11⟩, h12⟩ := h
    exact ⟨k_isx2 C h1 h2 h3 h4 h5 h6 h7 h8 h9 h10 h11 h12, stat_of⟩
  · cases h
theorem z_isc {d : Nat} (i1 : A1 L G Γ a) : A1 L G Γ (.isc d a) := by
  intro c e h X W C
  unfold chkE at h
  split at h
  · simp only [Bool.and_eq_true, decide_eq_true_eq, Bool.not_eq_true'] at h
    obtain ⟨⟨⟨⟨⟨h1, h2⟩, h3⟩, h4⟩, h5⟩, h6⟩ := h
    unfold gCl at h3
    cases e : G.cl d with
    | none => rw [e] at h3; cases h3
    | some i =>
      rw [e] at h3
      exact ⟨k_isc C h1 e (of_decide_eq_true h3) h4 h5 h6 (i1 _ _ h2 X W C).2 (i1 _ _ h2 X W C).1, stat_of⟩
  · cases h
theorem z_chain3 {op op' op2 : CmpOp} (i1 : A1 L G Γ a) (i2 : A1 L G Γ b) (i3 : A1 L G Γ d) (i4 : A1 L G Γ f) : A1 L G Γ (.chain3 op op' op2 a b d f) := by
  intro c e h X W C
  unfold chkE at h
  split at h
  · simp only [Bool.and_eq_true, decide_eq_true_eq, Bool.not_eq_true'] at h
    obtain ⟨⟨⟨⟨⟨⟨⟨rfl, rfl⟩, rfl⟩, h1⟩, h2⟩, h3⟩, h4⟩, h5⟩ := h
    exact ⟨k_chain3 C h5 (i1 _ _ h1 X W C).1 (i2 _ _ h2 X W C).1 (i3 _ _ h3 X W C).1 (i4 _ _ h4 X W C).1, stat_of⟩
  · cases h
theorem z_lrev {own : Bool} (i1 : A1 L G Γ a) : A1 L G Γ (.lrev own a) := by
  intro c e h X W C
  unfold chkE at h
  split at h
  · simp only [Bool.and_eq_true, decide_eq_true_eq, Bool.not_eq_true'] at h
    exact ⟨k_lrev C h.2 h.1.1.1 h.1.1.2 (i1 _ _ h.1.2 X W C).1 (i1 _ _ h.1.2 X W C).2, stat_of⟩
  · cases h
theorem z_dict (i1 : A3 L G Γ es) (i2 : A3 L G Γ fs) : A1 L G Γ (.dict es fs) := by
  intro c e h X W C
  unfold chkE at h
  split at h
  · rw [Bool.and_eq_true] at h
    have e1 : es = [] := by
      cases es with
      | nil => rfl
      | cons y ys => have z := h.1; unfold chkEs at z; cases z
    have e2 : fs = [] := by
      cases fs with
      | nil => rfl
      | cons y ys => have z := h.2; unfold chkEs at z; cases z
    subst e1 e2
    exact ⟨k_dict0, stat_of⟩
  · rw [Bool.and_eq_true] at h
    obtain ⟨h1, h2⟩ := h
    have one : ∀ {es : List Ex} {x : Expr}, chkEs G c es [x] = true → ∃ a, es = [a] ∧ chkE G c a x = true := fun {es x} z => by
      match es, z with
      | [], z => unfold chkEs at z; cases z
      | [a], z => unfold chkEs at z; rw [Bool.and_eq_true] at z; exact ⟨a, rfl, z.1⟩
      | a :: b :: r, z => unfold chkEs at z; rw [Bool.and_eq_true] at z; have z2 := z.2; unfold chkEs at z2; cases z2
    obtain ⟨a, rfl, g1⟩ := one h1
    obtain ⟨b, rfl, g2⟩ := one h2
    exact ⟨k_dict1 (i1.2 a List.mem_cons_self _ _ g1 X W C).1 (i2.2 b List.mem_cons_self _ _ g2 X W C).1, stat_of⟩
  · cases h
theorem z_nil : A3 L G Γ [] := by
  refine ⟨fun c xs h X W C => ?_, fun a h => nomatch h⟩
  unfold chkEs at h
  cases xs with
  | nil => exact .nil
  | cons y ys => exact Bool.noConfusion h
theorem z_cons (i1 : A1 L G Γ a) (i2 : A3 L G Γ es) : A3 L G Γ (a :: es) := by
  refine ⟨fun c xs h X W C => ?_, fun x h => ?_⟩
  · unfold chkEs at h
    split at h
    · cases h
    · rw [Bool.and_eq_true] at h
      exact .cons (i1 _ _ h.1 X W C) (i2.1 _ _ h.2 X W C)
  · rcases List.mem_cons.mp h with rfl | h
    · exact i1
    · exact i2.2 x h
theorem snd_E (hcl : Hcl G) (hfl : Hfl G) (ex : Ex) : A1 L G Γ ex :=
  Ex.rec (motive_1 := A1 L G Γ) (motive_2 := A3 L G Γ) (fun _ => z_var) (fun _ => z_cint) (fun _ => z_cstr) (fun _ => z_cbl) z_cnon (fun _ => z_glob) (fun _ _ _ _ => z_bin) (fun _ _ _ => z_cpow) (fun _ => z_neg) (fun _ _ _ => z_cmp) (fun _ _ _ _ _ => z_chain) (fun _ _ => z_andor) (fun _ => z_not) (fun _ _ _ => z_ife)
    (fun _ _ => z_idx) (fun _ _ _ _ => z_slice) (fun _ _ => z_lst) (fun _ => z_tup) (fun _ _ => z_dict) (fun _ _ _ => z_bif) (fun _ _ => z_isi) (fun _ _ _ => z_call) (fun _ _ _ _ => z_meth hcl) (fun _ _ => z_make) (fun _ _ _ => z_fld hfl) (fun _ _ _ => z_lm) (fun _ _ _ _ _ _ _ => z_comp) (fun _ _ => z_lrng) (fun _ _ => z_isx)
    (fun _ => z_nset) (fun _ _ _ => z_isx2) (fun _ _ => z_isc) (fun _ _ _ _ _ _ _ => z_chain3) (fun _ _ => z_lrev) z_nil (fun _ _ => z_cons) ex
theorem snd_A3 (hcl : Hcl G) (hfl : Hfl G) : ∀ es : List Ex, A3 L G Γ es
  | [] => z_nil
  | a :: es => z_cons (snd_E hcl hfl a) (snd_A3 hcl hfl es)
theorem snd_all (hcl : Hcl G) (hfl : Hfl G) : (∀ c ex e, M1 L G Γ c ex e) ∧ (∀ c k its iter tg, M2 L G Γ c k its iter tg) ∧ (∀ c es xs, M3 L G Γ c es xs) :=
  ⟨fun c ex e => snd_E hcl hfl ex c e, fun _ _ its _ _ h X W C => it_chk (snd_A3 hcl hfl its) h X W C, fun c es xs => (snd_A3 hcl hfl es).1 c xs⟩
end
end Rh

namespace Rh
open PySem PySem.Spec PyProof.Rows L2

/-! ## 20. Statements -/
inductive Sx where
  | asg (g : Tg) (e : Ex) | par (i j : Nat) (a b : Ex)
  | asgF (c i : Nat) (o e : Ex) | asgI (o i e : Ex)
  | aug (i : Nat) (op : Operator) (e : Ex) | augI (op : Operator) (o i e : Ex)
  | ret (e : Ex) | retN | expr (e : Ex) | ife (c : Ex) (a b : List Sx)
  | for_ (g : Tg) (k : ItK) (its : List Ex) (body : List Sx) | while_ (c : Ex) (body : List Sx)
  | try1 (body : List Sx) (h : Nat) (suite : List Sx)
  | tryA (body : List Sx) (h i : Nat) (suite : List Sx)
  | try2 (body : List Sx) (h : Nat) (suite : List Sx) (h2 : Nat) (suite2 : List Sx)
  | raise (x : Nat) | pass | brk | cont | wk
structure SEnds where
  nx : Ro → Sto → Prop
  rt : RP
  bk : Ro → Sto → Prop
  ct : Ro → Sto → Prop
  ex : Nat → Ro → Sto → Prop
def setF (us : List T) (i : Nat) (y : T) : List T := if i < us.length then us.set i y else us ++ [y]
def tSet (x k y : T) (μ : Sto) (K : Sto → Prop) : Prop :=
  match isDict μ x with
  | true => onK μ x fun kvs p => ∃ kk, keyT k = some kk ∧ kvs.length < sizeLine ∧ K (μ.set p (.dict (putT kvs kk y)))
  | false => onM μ x fun ts p => ∃ i j, k = .int i ∧ ixN ts.length i = some j ∧ K (μ.set p (.lst (ts.set j y)))
def tAugO (op : Operator) (x y : T) (μ : Sto) (R : RP) : Prop :=
  match op, x, y with
  | .Add, .int i, .int j => R (.int (i + j)) μ
  | .Sub, .int i, .int j => R (.int (i - j)) μ
  | .Add, .str a, .str b => a.length + b.length ≤ sizeLine ∧ R (.str (a ++ b)) μ
  | _, _, _ => False
def SEnds.xp (D : SEnds) (ρ : Ro) : XP := fun c μ => D.ex c ρ μ
def forD (g : Tg) (body : SEnds → Ro → Sto → Prop) (us : List T) (gd : Sto → Prop) (D : SEnds) (ρ : Ro) (μ : Sto) : Prop :=
  ∃ I : List T → Ro → Sto → Prop, I us ρ μ ∧ (∀ ρ μ, I [] ρ μ → gd μ ∧ D.nx ρ μ) ∧ ∀ t r ρ μ, I (t :: r) ρ μ → gd μ ∧ bindT g t ρ μ fun ρ' =>
    body { D with nx := fun ρ2 μ2 => ∃ ρ3 μ3, Wk ρ2 μ2 ρ3 μ3 ∧ I r ρ3 μ3, ct := fun ρ2 μ2 => ∃ ρ3 μ3, Wk ρ2 μ2 ρ3 μ3 ∧ I r ρ3 μ3, bk := D.nx } ρ' μ
def whileD (c : TTe) (body : SEnds → Ro → Sto → Prop) (D : SEnds) (ρ : Ro) (μ : Sto) : Prop :=
  ∃ I : Nat → Ro → Sto → Prop, (∃ m, I m ρ μ) ∧ ∀ m ρ μ, I m ρ μ → c ρ μ (D.xp ρ) fun k μ1 => if k = true then
    body { D with nx := fun ρ2 μ2 => ∃ ρ3 μ3 m', Wk ρ2 μ2 ρ3 μ3 ∧ m' < m ∧ I m' ρ3 μ3, ct := fun ρ2 μ2 => ∃ ρ3 μ3 m', Wk ρ2 μ2 ρ3 μ3 ∧ m' < m ∧ I m' ρ3 μ3, bk := D.nx } ρ μ1 else D.nx ρ μ1
/-- what is known in a suite beside what is known anyhow -/
def curG (G : Tab) (Γ : Nat → TSp) (p : Addr) (a : Nat) : Nat → TSp := fun n => if n = 999999 then S_cur G p a else Γ n
section
variable (G : Tab)
mutual
def denS (Γ : Nat → TSp) : Sx → SEnds → Ro → Sto → Prop
  | .asg g e, D, ρ, μ => (den G Γ e).1 ρ μ (D.xp ρ) fun t μ1 => bindT g t ρ μ1 fun ρ' => D.nx ρ' μ1
  | .par i j a b, D, ρ, μ => (den G Γ a).1 ρ μ (D.xp ρ) fun x μ1 => (den G Γ b).1 ρ μ1 (D.xp ρ) fun y μ2 => D.nx ((ρ.set i (some x)).set j (some y)) μ2
  | .asgF c i o e, D, ρ, μ => (den G Γ e).1 ρ μ (D.xp ρ) fun y μ1 => (den G Γ o).1 ρ μ1 (D.xp ρ) fun x μ2 => ∃ p us, x = .own p ∧ μ2 p = some (.obj c us) ∧ i ≤ us.length ∧ D.nx ρ (μ2.set p (.obj c (setF us i y)))
  | .asgI o i e, D, ρ, μ => (den G Γ e).1 ρ μ (D.xp ρ) fun y μ1 => (den G Γ o).1 ρ μ1 (D.xp ρ) fun x μ2 => (den G Γ i).1 ρ μ2 (D.xp ρ) fun k μ3 => tSet x k y μ3 fun μ4 => D.nx ρ μ4
  | .aug i op e, D, ρ, μ => ∃ t, ρ[i]? = some (some t) ∧ (den G Γ e).1 ρ μ (D.xp ρ) fun y μ1 => tAugO op t y μ1 fun z μ2 => D.nx (ρ.set i (some z)) μ2
  | .augI op o i e, D, ρ, μ => (den G Γ o).1 ρ μ (D.xp ρ) fun x μ1 => (den G Γ i).1 ρ μ1 (D.xp ρ) fun k μ2 => isDict μ2 x = false ∧ (∃ us, vlst μ2 x = some us) ∧ tIdx x k μ2 fun t μ3 => (den G Γ e).1 ρ μ3 (D.xp ρ) fun y μ4 => tAugO op t y μ4 fun z μ5 => tSet x k z μ5 fun μ6 => D.nx ρ μ6
  | .ret e, D, ρ, μ => (den G Γ e).1 ρ μ (D.xp ρ) D.rt
  | .retN, D, _, μ => D.rt .non μ
  | .expr e, D, ρ, μ => (den G Γ e).1 ρ μ (D.xp ρ) fun _ μ1 => D.nx ρ μ1
  | .ife c a b, D, ρ, μ => ∃ J : Ro → Sto → Prop, (∀ ρ' μ', J ρ' μ' → ∃ ρ3 μ3, Wk ρ' μ' ρ3 μ3 ∧ D.nx ρ3 μ3) ∧ (den G Γ c).2 ρ μ (D.xp ρ) fun k μ1 => if k = true then denSs Γ a { D with nx := J } ρ μ1 else denSs Γ b { D with nx := J } ρ μ1
  | .for_ g k its body, D, ρ, μ => evs (dens G Γ its) ρ μ (D.xp ρ) fun ts μ1 => itT k ts μ1 fun us gd => forD g (denSs Γ body) us gd D ρ μ1
  | .while_ c body, D, ρ, μ => whileD (den G Γ c).2 (denSs Γ body) D ρ μ
  | .try1 b h s, D, ρ, μ => denSs Γ b { D with ex := fun a ρ' μ' => (∃ n m, G.ex a = some n ∧ G.ex h = some m) ∧ if subX G a h = true then denSs Γ s { D with ex := fun _ _ _ => False } ρ' μ' else D.ex a ρ' μ' } ρ μ
  | .tryA b h i s, D, ρ, μ => denSs Γ b { D with ex := fun a ρ' μ' => (∃ n m, G.ex a = some n ∧ G.ex h = some m) ∧ if subX G a h = true then ∀ p, μ' p = none → denSs (curG G Γ p a) s { nx := fun ρ μ => D.nx (ρ.set i none) μ, rt := D.rt, bk := fun ρ μ => D.bk (ρ.set i none) μ, ct := fun ρ μ => D.ct (ρ.set i none) μ, ex := fun _ _ _ => False } (ρ'.set i (some (.own p))) μ' else D.ex a ρ' μ' } ρ μ
  | .try2 b h s h2 s2, D, ρ, μ => denSs Γ b { D with ex := fun a ρ' μ' => (∃ n m m2, G.ex a = some n ∧ G.ex h = some m ∧ G.ex h2 = some m2) ∧ if subX G a h = true then denSs Γ s { D with ex := fun _ _ _ => False } ρ' μ' else if subX G a h2 = true then denSs Γ s2 { D with ex := fun _ _ _ => False } ρ' μ' else D.ex a ρ' μ' } ρ μ
  | .raise x, D, ρ, μ => D.ex x ρ μ
  | .pass, D, ρ, μ => D.nx ρ μ
  | .brk, D, ρ, μ => D.bk ρ μ
  | .cont, D, ρ, μ => D.ct ρ μ
  | .wk, D, ρ, μ => ∃ ρ' μ', Wk ρ μ ρ' μ' ∧ D.nx ρ' μ'
def denSs (Γ : Nat → TSp) : List Sx → SEnds → Ro → Sto → Prop
  | [], D, ρ, μ => D.nx ρ μ
  | s :: r, D, ρ, μ => denS Γ s { D with nx := fun ρ' μ' => denSs Γ r D ρ' μ' } ρ μ
end
end
def isLoc (sc : Scope) (x : Str) : Bool := decide (sc.names.lookup x = some .local)
def isStarE : Expr → Bool
  | .Starred .. => true
  | _ => false
/-- the two names of a swap -/
def swapB (c : SC) (x y : Str) (px py : Pos) (a b : Expr) : Bool :=
  isLoc c.sc x && isLoc c.sc y && (py.line == px.line) && !decide (x = y) && !([a, b].all (foldedForSure 8)) && !([a, b].all (constantsAlone 8)) && !isStarE a && !isStarE b
def isTupV : Expr → Bool
  | .Tuple .. => true
  | _ => false
def isCompV : Expr → Bool
  | .ListComp .. => true | .SetComp .. => true | .DictComp .. => true
  | _ => false
section
variable (G : Tab)
def gEx (h : Nat) (x : Str) : Bool := match G.ex h with | some m => decide (m = x) | none => false
mutual
def chkS (c : SC) : Sx → Stmt → Bool
  | .asg g e, s => (match s with | .Assign [tg] v _ => chkG c g tg && chkE G c e v && (!isTupE tg || !isTupV v) | _ => false)
  | .par i j a b, s => (match s with | .Assign [.Tuple [.Name x px, .Name y py] _ _] (.Tuple [v, w] _ _) _ => decide (c.N[i]? = some x) && decide (c.N[j]? = some y) && swapB c x y px py v w && chkE G c a v && chkE G c b w && !c.hot | _ => false)
  | .asgF d i o e, s => (match s with | .Assign [.Attribute y f _] v _ => chkE G c o y && chkE G c e v && notSup y && decide ((G.flds d)[i]? = some f) | _ => false)
  | .asgI o i e, s => (match s with | .Assign [.Subscript y k _] v _ => chkE G c o y && chkE G c i k && chkE G c e v | _ => false)
  | .aug i op e, s => (match s with | .AugAssign (.Name x _) o v _ => decide (c.N[i]? = some x) && loc c.sc x && decide (op = o) && chkE G c e v | _ => false)
  | .augI op o i e, s => (match s with | .AugAssign (.Subscript y k _) o' v _ => decide (op = o') && chkE G c o y && chkE G c i k && chkE G c e v | _ => false)
  | .ret e, s => (match s with | .Return (some v) _ => chkE G c e v | _ => false)
  | .retN, s => (match s with | .Return none _ => true | _ => false)
  | .expr e, s => (match s with | .Expr v _ => chkE G c e v && !isCompV v | _ => false)
  | .ife d a b, s => (match s with | .If z x y _ => chkE G c d z && chkSs c a x && chkSs c b y | _ => false)
  | .for_ g k its body, s => (match s with | .For tg iter b [] _ => chkIt G c k its iter tg && chkG c g tg && chkSs c body b && !c.hot | _ => false)
  | .while_ d body, s => (match s with | .While z b [] _ => chkE G c d z && chkSs c body b && !c.hot | _ => false)
  | .try1 body h suite, s => (match s with | .Try b [.ExceptHandler (some (.Name x _)) none (s0 :: ss) _] [] [] _ => gEx G h x && glb c.sc x && plainN x && chkSs c body b && chkSs { c with hot := true, as := false } suite (s0 :: ss) && !c.hot | _ => false)
  | .tryA body h i suite, s => (match s with | .Try b [.ExceptHandler (some (.Name x _)) (some n) (s0 :: ss) _] [] [] _ => gEx G h x && glb c.sc x && plainN x && chkSs c body b && chkSs { c with hot := true, as := true } suite (s0 :: ss) && decide (c.N[i]? = some n) && isLoc c.sc n && decide (c.m ≤ 999999) && !c.hot | _ => false)
  | .try2 body h suite h2 suite2, s => (match s with | .Try b [.ExceptHandler (some (.Name x _)) none (s0 :: ss) _, .ExceptHandler (some (.Name x2 _)) none (t0 :: tt) _] [] [] _ => gEx G h x && glb c.sc x && plainN x && gEx G h2 x2 && glb c.sc x2 && plainN x2 && chkSs c body b && chkSs { c with hot := true, as := false } suite (s0 :: ss) && chkSs { c with hot := true, as := false } suite2 (t0 :: tt) && !c.hot | _ => false)
  | .raise x, s => (match s with | .Raise (some (.Call (.Name n _) [.Constant (.str _) _ _] [] _)) none _ => gEx G x n && glb c.sc n && plainN n | _ => false)
  | .pass, s => (match s with | .Pass _ => true | _ => false)
  | .brk, s => (match s with | .Break _ => true | _ => false)
  | .cont, s => (match s with | .Continue _ => true | _ => false)
  | .wk, _ => false
def chkSs (c : SC) : List Sx → List Stmt → Bool
  | [], l => l.isEmpty
  | s :: ss, l => (match s with | .wk => chkSs c ss l | _ => match l with | [] => false | l :: ls => chkS c s l && chkSs c ss ls)
end
end

/-! ## 21. Each statement does what it says -/
structure SCtx (G : Tab) (Γ : Nat → TSp) (L : Lay) (c : SC) (X : Cx) (W : WX) : Prop where
  e : Ctx G Γ L c X W
  pa : c.hot = false → PassesOwn (model X.prog X.w) X.A X.env X.xe
  stk : X.stack = X.env :: X.outer
  fr : X.env.frame = some X.env.locals
  se : X.env.scope = c.sc
  kd : c.sc.kind = .function
  nv : c.hot = true → ∀ cls d σ H, ¬ W cls d σ H
def sS (X : Cx) (st : Stmt) : TS := fun D σ H => ∀ pins s, L2.Inv X pins σ H s → wpAny (model X.prog X.w) X.A (exec st X.env) (SP X pins D) X.xe s
def sSs (X : Cx) (st : List Stmt) : TS := fun D σ H => ∀ pins s, L2.Inv X pins σ H s → wpAny (model X.prog X.w) X.A (execs st X.env) (SP X pins D) X.xe s
theorem ps_s {X : Cx} {st : Stmt} : PS X st (sS X st) := ⟨fun pins s _ _ _ I h => h pins s I⟩
theorem pss_s {X : Cx} {st : List Stmt} : PSs X st (sSs X st) := ⟨fun pins s _ _ _ I h => h pins s I⟩
theorem sS_of {X : Cx} {st : Stmt} {t : TS} {D : Ends} {σ : L2.St} {H : Hp} (p : PS X st t) (h : t D σ H) : sS X st D σ H := fun pins s I => p.run pins s σ H D I h
theorem sSs_of {X : Cx} {st : List Stmt} {t : TS} {D : Ends} {σ : L2.St} {H : Hp} (p : PSs X st t) (h : t D σ H) : sSs X st D σ H := fun pins s I => p.run pins s σ H D I h
def PostN (K : PySem.W.Frag) (L : Lay) (Φ B : Hp) (R : Ro → Sto → Prop) (Q : L2.St → Hp → Prop) : Prop := ∀ ρ' μ' σ' H' B', Le B B' → St K L Φ H' B' μ' → Slots K B' σ' ρ' → R ρ' μ' → Q σ' H'
structure EndOk (X : Cx) (L : Lay) (W : WX) (Φ B : Hp) (D : SEnds) (D' : Ends) : Prop where
  nx : PostN X.K L Φ B D.nx D'.nx
  rt : Post X.K L Φ B D.rt D'.rt
  bk : PostN X.K L Φ B D.bk D'.bk
  ct : PostN X.K L Φ B D.ct D'.ct
  ex : ∀ c, PostN X.K L Φ B (D.ex c) (fun σ' H' => W (.ref (L.exc c)) none σ' H')
section
variable {X : Cx} {L : Lay} {W : WX} {G : Tab} {Γ : Nat → TSp} {c : SC} {pos : Pos} {Φ B B' : Hp} {D : SEnds} {D' : Ends}
theorem PostN.mono {K : PySem.W.Frag} {R : Ro → Sto → Prop} {Q : L2.St → Hp → Prop} (h : PostN K L Φ B R Q) (e : Le B B') : PostN K L Φ B' R Q := fun ρ' μ' σ' H' B2 l => h ρ' μ' σ' H' B2 (e.trans l)
theorem EndOk.mono (h : EndOk X L W Φ B D D') (e : Le B B') : EndOk X L W Φ B' D D' := ⟨h.nx.mono e, h.rt.mono e, h.bk.mono e, h.ct.mono e, fun c => (h.ex c).mono e⟩
theorem EndOk.xp (h : EndOk X L W Φ B D D') {σ : L2.St} {ρ : Ro} (sl : Slots X.K B σ ρ) : PostX X.K L Φ B (D.xp ρ) (WE W σ) := fun c H' B' μ' l S q => h.ex c ρ μ' σ H' B' l S (sl.mono l) q
def SOk (X : Cx) (L : Lay) (W : WX) (st : Stmt) (d : SEnds → Ro → Sto → Prop) : Prop := ∀ Φ B μ H σ ρ D D', St X.K L Φ H B μ → Slots X.K B σ ρ → d D ρ μ → EndOk X L W Φ B D D' → sS X st D' σ H
def SsOk (X : Cx) (L : Lay) (W : WX) (st : List Stmt) (d : SEnds → Ro → Sto → Prop) : Prop := ∀ Φ B μ H σ ρ D D', St X.K L Φ H B μ → Slots X.K B σ ρ → d D ρ μ → EndOk X L W Φ B D D' → sSs X st D' σ H
theorem sw_none {v : Expr} {t : Option Expr} {l : Nat} {env : Env} (h : isCompV v = false) : swapsWith v t l env = pure false := by
  cases v <;> first | rfl | cases h
theorem sw_attr {v o : Expr} {f : Str} {p : Pos} {l : Nat} {env : Env} : swapsWith v (some (.Attribute o f p)) l env = pure false := by
  cases v <;> rfl
theorem sw_sub {v o i : Expr} {p : Pos} {l : Nat} {env : Env} : swapsWith v (some (.Subscript o i p)) l env = pure false := by
  cases v <;> rfl
theorem sw_tup {v : Expr} {es : List Expr} {k : Nat} {p : Pos} {l : Nat} {env : Env} : swapsWithSole [.Tuple es k p] v l env = pure false := by
  cases v <;> rfl
theorem st_asgN (C : SCtx G Γ L c X W) {i : Nat} {x : Str} {px : Pos} {e : Ex} {v : Expr} (hN : c.N[i]? = some x) (hl : loc c.sc x = true) (he : EOk X L W v (den G Γ e)) (hs : swapsWith v (some (.Name x px)) pos.line X.env = pure false) :
    SOk X L W (.Assign [.Name x px] v pos) (denS G Γ (.asg (.nm i) e)) := fun Φ B μ H σ ρ D D' S sl q k => by
  obtain ⟨h1, h2⟩ := C.e.st x hl
  refine sS_of (ps_set (by rw [C.e.N]; exact C.e.nd) (by rw [C.e.N]; exact hN) h1 pe_s hs h2) ?_
  exact he.v Φ B μ H σ ρ _ _ _ S sl q (k.xp sl) fun w t H1 B1 μ1 l1 S1 r1 q1 => k.nx _ μ1 _ H1 B1 l1 S1 ((sl.mono l1).set i r1) q1
theorem st_asgT (C : SCtx G Γ L c X W) {gs : List Tg} {es : List Expr} {kk : Nat} {px : Pos} {e : Ex} {v : Expr} (hg : chkG c (.tup gs) (.Tuple es kk px) = true) (hv : isTupV v = false) (he : EOk X L W v (den G Γ e)) :
    SOk X L W (.Assign [.Tuple es kk px] v pos) (denS G Γ (.asg (.tup gs) e)) := fun Φ B μ H σ ρ D D' S sl q k => by
  have hw : swappedStores [.Tuple es kk px] v X.env = pure none := by cases v <;> first | rfl | cases hv
  refine sS_of (ps_asg pe_s (pg_s (e := .Tuple es kk px)) sw_tup hw rfl) ?_
  refine he.v Φ B μ H σ ρ _ _ _ S sl q (k.xp sl) fun w t H1 B1 μ1 l1 S1 r1 q1 => ?_
  exact tg_ok C.e (.tup gs) _ hg Φ B1 μ1 H1 σ ρ w t _ _ S1 (sl.mono l1) r1 q1 fun σ' ρ' s' _ q' => k.nx ρ' μ1 σ' H1 B1 l1 S1 s' q'
theorem st_par (C : SCtx G Γ L c X W) (hh : c.hot = false) {i j : Nat} {x y : Str} {px py pt p2 : Pos} {k1 k2 : Nat} {a b : Ex} {v w : Expr} (hi : c.N[i]? = some x) (hj : c.N[j]? = some y) (hs : swapB c x y px py v w = true) (ha : EOk X L W v (den G Γ a)) (sa : Stat v) (hb : EOk X L W w (den G Γ b)) (sb : Stat w) :
    SOk X L W (.Assign [.Tuple [.Name x px, .Name y py] k1 pt] (.Tuple [v, w] k2 p2) pos) (denS G Γ (.par i j a b)) := fun Φ B μ H σ ρ D D' S sl q k => by
  simp only [swapB, isLoc, Bool.and_eq_true, decide_eq_true_eq, Bool.not_eq_true', decide_eq_false_iff_not] at hs
  obtain ⟨⟨⟨⟨⟨⟨⟨lx, ly⟩, hline⟩, hne⟩, hf⟩, hc⟩, nsv⟩, nsw⟩ := hs
  have lx' : X.env.scope.names.lookup x = some .local := by rw [C.se]; exact lx
  have ly' : X.env.scope.names.lookup y = some .local := by rw [C.se]; exact ly
  have hij : i ≠ j := fun z => hne (Option.some.inj (hi.symm.trans (z ▸ hj)))
  have hb' : X.env.blockKind = .function := by
    unfold Env.blockKind
    rw [C.se, C.kd]
    rfl
  have kx : X.env.kindOf x = some .local := lx'
  have ky : X.env.kindOf y = some .local := ly'
  have hw : swappedStores [.Tuple [.Name x px, .Name y py] k1 pt] (.Tuple [v, w] k2 p2) X.env = pure (some [x, y]) := by
    have hany : ∀ f : Expr → Bool, (∀ u, isStarE u = false → f u = false) → [v, w].any f = false := fun f hf' => by
      simp [hf' v nsv, hf' w nsw]
    have hbe : (y == x) = false := beq_eq_false_iff_ne.mpr fun z => hne z.symm
    have ed : [x, y].eraseDups = [x, y] := by
      simp [List.eraseDups_cons, hbe]
    have e1 : (some NameKind.local == some NameKind.local) = true := rfl
    unfold swappedStores
    dsimp only
    rw [hb', hany _ (fun u hu => by cases u <;> first | rfl | cases hu)]
    simp only [hf, hc, kx, ky, hline, List.filterMap_cons, List.filterMap_nil, List.head?_cons, Option.map_some, Option.getD_some, e1, Bool.and_self, Expr.pos, beq_self_eq_true, List.length_cons, List.length_nil, if_true, ed]
    rfl
  refine sS_of (ps_par (C.e.calm hh) (by rw [C.e.N]; exact C.e.nd) (by rw [C.e.N]; exact hi) (by rw [C.e.N]; exact hj) hij lx' ly' (pa_cons pe_s (pa_cons pe_s pa_nil (sb.star _ _)) (sa.star _ _)) hw sw_tup) ?_
  refine ha.v Φ B μ H σ ρ _ _ _ S sl q (k.xp sl) fun v1 t1 H1 B1 μ1 l1 S1 r1 q1 => ?_
  refine hb.v Φ B1 μ1 H1 σ ρ _ _ _ S1 (sl.mono l1) q1 ((k.xp sl).mono l1) fun v2 t2 H2 B2 μ2 l2 S2 r2 q2 => ?_
  exact ⟨v1, v2, rfl, k.nx _ μ2 _ H2 B2 (l1.trans l2) S2 (((sl.mono (l1.trans l2)).set i (r1.mono l2)).set j r2) q2⟩
end
end Rh

namespace Rh
open PySem PySem.Spec PyProof.Rows L2
section
variable {X : Cx} {L : Lay} {W : WX} {G : Tab} {Γ : Nat → TSp} {c : SC} {pos : Pos}
/-- name = [..], both ways in which the list comes to the name -/
theorem st_comp (C : SCtx G Γ L c X W) (hh : c.hot = false) {i : Nat} {x : Str} {px pc : Pos} {own : Bool} {vs : List Nat} {g : Tg} {kk : ItK} {its : List Ex} {cond elt : Ex} {z tg iter : Expr} {ifs : List Expr} {scope : Scope} (hN : c.N[i]? = some x) (hl : loc c.sc x = true)
    (hb : blkC c.N c.sc scope (ownNames c.N vs) = true) (hv : (ownNames c.N vs).map (·.2) = vs) (it : ItOk X L W kk tg iter (dens G Γ its)) (Q0 : CompOk X L scope vs g tg ifs z (den G Γ cond) (den G Γ elt)) :
    SOk X L W (.Assign [.Name x px] (.ListComp z [⟨tg, iter, ifs, 0⟩] scope pc) pos) (denS G Γ (.asg (.nm i) (.comp own vs g kk its cond elt))) := by
  have he := k_comp C.e hh (pos := pc) (own := own) hb hv it Q0
  obtain ⟨b, hsw⟩ : ∃ b, swapsWith (.ListComp z [⟨tg, iter, ifs, 0⟩] scope pc) (some (.Name x px)) pos.line X.env = pure b := ⟨_, rfl⟩
  cases b with
  | false => exact st_asgN C hN hl he hsw
  | true =>
    have hloc : X.env.scope.names.lookup x = some .local := by
      have e : (X.env.blockKind == .function && X.env.kindOf x == some .local && px.line == pc.line && !(scope.names.any fun (n, k) => n == x && (k == .local || k == .cell))) = true := by
        have h1 : swapsWith (.ListComp z [⟨tg, iter, ifs, 0⟩] scope pc) (some (.Name x px)) pos.line X.env = pure (X.env.blockKind == .function && X.env.kindOf x == some .local && px.line == pc.line && !(scope.names.any fun (n, k) => n == x && (k == .local || k == .cell))) := rfl
        have h2 := h1.symm.trans hsw
        cases e : (X.env.blockKind == .function && X.env.kindOf x == some .local && px.line == pc.line && !(scope.names.any fun (n, k) => n == x && (k == .local || k == .cell))) with
        | true => rfl
        | false =>
          rw [e] at h2
          exact absurd h2 (by intro q; injection q; contradiction)
      simp only [Bool.and_eq_true, beq_iff_eq] at e
      exact e.1.1.2
    obtain ⟨wi, gg, tt, te, h1, h2, h3, h4, h5⟩ := comp_lc (ow := own) hv it Q0
    intro Φ B μ H σ ρ D D' S sl q k
    refine sS_of (ps_setLc (C.e.calm hh) (by rw [C.e.N]; exact C.e.nd) (by rw [C.e.N]; exact hN) hloc hsw h1 (blk_ok C.e hb) h2 h3 h4 (folded it.1)) ?_
    refine h5 Φ B μ H σ ρ _ _ _ S sl q (k.xp sl) fun w t H1 B1 μ1 l1 S1 r1 q1 => ?_
    exact k.nx _ μ1 _ H1 B1 l1 S1 ((sl.mono l1).set i r1) q1
theorem putF_set {c0 : List Str} (nd : c0.Nodup) : ∀ {vs : List V} {i : Nat} {f : Str} {v : V}, c0[i]? = some f → i < vs.length → putF f v (c0.zip vs) = c0.zip (vs.set i v) := by
  induction c0 with
  | nil => intro vs i f v h; simp at h
  | cons g r ih =>
    intro vs i f v h hl
    rw [List.nodup_cons] at nd
    cases vs with
    | nil => simp at hl
    | cons w ws =>
      cases i with
      | zero =>
        simp at h
        subst h
        show (if g = g then (g, v) :: r.zip ws else _) = (g, v) :: r.zip ws
        rw [if_pos rfl]
      | succ i =>
        have h' : r[i]? = some f := by simpa using h
        have ne : ¬ g = f := fun z => nd.1 (by rw [z]; exact List.mem_of_getElem? h')
        show (if g = f then _ else (g, w) :: putF f v (r.zip ws)) = (g, w) :: r.zip (ws.set i v)
        rw [if_neg ne, ih nd.2 h' (by simpa using hl)]
theorem putF_new {c0 : List Str} (nd : c0.Nodup) : ∀ {vs : List V} {f : Str} {v : V}, c0[vs.length]? = some f → putF f v (c0.zip vs) = c0.zip (vs ++ [v]) := by
  induction c0 with
  | nil => intro vs f v h; simp at h
  | cons g r ih =>
    intro vs f v h
    rw [List.nodup_cons] at nd
    cases vs with
    | nil =>
      simp at h
      subst h
      show putF g v [] = (g, v) :: r.zip []
      rw [List.zip_nil_right]
      rfl
    | cons w ws =>
      have h' : r[ws.length]? = some f := by simpa using h
      have ne : ¬ g = f := fun z => nd.1 (by rw [z]; exact List.mem_of_getElem? h')
      show (if g = f then _ else (g, w) :: putF f v (r.zip ws)) = (g, w) :: r.zip (ws ++ [v])
      rw [if_neg ne, ih nd.2 h']
theorem st_asgF (C : SCtx G Γ L c X W) {d i : Nat} {o e : Ex} {y v : Expr} {f : Str} {p : Pos} (hsup : notSup y = true) (hi : (G.flds d)[i]? = some f) (hcd : ∃ ci, G.cl d = some ci) (ho : EOk X L W y (den G Γ o)) (he : EOk X L W v (den G Γ e)) :
    SOk X L W (.Assign [.Attribute y f p] v pos) (denS G Γ (.asgF d i o e)) := fun Φ B μ H σ ρ D D' S sl q k => by
  obtain ⟨ci, hci⟩ := hcd
  have CF := C.e.g.cl d ci hci
  refine sS_of (ps_fld pe_s pe_s sw_attr) ?_
  refine he.v Φ B μ H σ ρ _ _ _ S sl q (k.xp sl) fun w t H1 B1 μ1 l1 S1 r1 q1 => ?_
  refine ho.v Φ B1 μ1 H1 σ ρ _ _ _ S1 (sl.mono l1) q1 ((k.xp sl).mono l1) fun w2 t2 H2 B2 μ2 l2 S2 r2 q2 => ?_
  obtain ⟨a, us, rfl, e1, hle, q2⟩ := q2
  obtain rfl := r2
  obtain ⟨dx, vs, h1, h2, h3⟩ := S2.memO e1
  have hil : i < (G.flds d).length := (List.getElem?_eq_some_iff.mp hi).1
  have hlen := h2.length
  rw [C.e.g.fl] at h1 h3
  have hsz := CF.sz
  refine ⟨a, L.addr d, dx, _, rfl, h1, CF.cl, CF.no f (List.mem_of_getElem? hi), by rw [List.length_zip]; omega, ?_⟩
  have hB : B2 a = none := (S2.sto a _ e1).1
  have hF := S2.noF e1
  have fin : ∀ vs', putF f w ((G.flds d).zip vs) = (G.flds d).zip vs' → Trs X.K B2 vs' (setF us i t) → vs'.length ≤ (G.flds d).length → D'.nx σ (upd H2 a (.ins (L.addr d) dx (putF f w ((G.flds d).zip vs)))) := fun vs' ev r' hl' => by
    refine k.nx ρ _ σ _ B2 (l1.trans l2) (S2.put (p := a) (ob := .obj d (setF us i t)) hB hF ?_) (sl.mono (l1.trans l2)) q2
    exact ⟨dx, vs', by rw [upd_same, ev, C.e.g.fl], r', by rw [C.e.g.fl]; exact hl'⟩
  by_cases hlt : i < us.length
  · refine fin (vs.set i w) (putF_set CF.nd hi (by omega)) ?_ (by rw [List.length_set]; exact h3)
    unfold setF
    rw [if_pos hlt]
    exact h2.set i (r1.mono l2)
  · have hi' : i = vs.length := by omega
    refine fin (vs ++ [w]) (putF_new CF.nd (by rw [← hi']; exact hi)) ?_ (by rw [List.length_append, List.length_singleton]; omega)
    unfold setF
    rw [if_neg hlt]
    exact h2.append (Trs.cons (r1.mono l2) Trs.nil)
def OpSet (K : PySem.W.Frag) (L : Lay) : V → V → V → Hp → (Hp → Prop) → Prop := fun o i v H Q => ∃ Φ B μ tx tk ty R, St K L Φ H B μ ∧ Tr K B o tx ∧ Tr K B i tk ∧ Tr K B v ty ∧ tSet tx tk ty μ R ∧ ∀ H' μ', St K L Φ H' B μ' → R μ' → Q H'
theorem set_ok (hu : X.A.units + 65 < cLine) : PSet X (OpSet X.K L) := by
  intro pins s σ H o i v ov iv u Q I ro ri rv ⟨Φ, B, μ, tx, tk, ty, R, S, r1, r2, r3, h, k⟩
  unfold tSet at h
  split at h
  · obtain ⟨p, kvs, rfl, e, kk, ek, hz, h⟩ := h
    obtain ⟨ks, g1, g2⟩ := S.memD e
    obtain rfl := r1
    have ey := keyT_ok r2 ek
    subst ey
    cases (show ov = Value.ref p from ro)
    refine d_setItem (by omega) I (DPut.k (k := kk) g1 (by rw [g2.length]; exact hz)) ri rv fun s' I' => ⟨_, I', ?_⟩
    exact k _ _ (S.put (S.sto p _ e).1 (S.noF e) (show ObOk X.K L (upd H p (.dK (putK ks kk v))) B p (.dict (putT kvs kk ty)) from ⟨_, upd_same, g2.put kk r3⟩)) h
  · obtain ⟨p, vs, ts, rfl, h1, h2, ⟨n, j, rfl, hj, h⟩, hB, hF⟩ := onM_ok S r1 h
    obtain rfl := r2
    refine set_list pins s σ H _ _ v ov iv u Q I ro ri rv ⟨p, vs, n, j, rfl, rfl, h1, by rw [h2.length]; exact hj, ?_⟩
    exact k _ _ (S.put hB hF (show ObOk X.K L (upd H p (.lst (vs.set j v))) B p (.lst (ts.set j ty)) from ⟨_, upd_same, h2.set j r3⟩)) h
theorem st_asgI (C : SCtx G Γ L c X W) {o i e : Ex} {y kx v : Expr} {p : Pos} (ho : EOk X L W y (den G Γ o)) (hi : EOk X L W kx (den G Γ i)) (si : Stat kx) (he : EOk X L W v (den G Γ e)) :
    SOk X L W (.Assign [.Subscript y kx p] v pos) (denS G Γ (.asgI o i e)) := fun Φ B μ H σ ρ D D' S sl q k => by
  have hw : swappedStores [.Subscript y kx p] v X.env = pure none := by cases v <;> rfl
  have hsole : swapsWithSole [.Subscript y kx p] v pos.line X.env = pure false := by cases v <;> rfl
  refine sS_of (ps_asg pe_s (pg_sub pe_s pe_s (set_ok (L := L) C.e.hu) (si.asg y p X.env)) hsole hw rfl) ?_
  refine he.v Φ B μ H σ ρ _ _ _ S sl q (k.xp sl) fun w t H1 B1 μ1 l1 S1 r1 q1 => ?_
  refine ho.v Φ B1 μ1 H1 σ ρ _ _ _ S1 (sl.mono l1) q1 ((k.xp sl).mono l1) fun w2 t2 H2 B2 μ2 l2 S2 r2 q2 => ?_
  refine hi.v Φ B2 μ2 H2 σ ρ _ _ _ S2 (sl.mono (l1.trans l2)) q2 ((k.xp sl).mono (l1.trans l2)) fun w3 t3 H3 B3 μ3 l3 S3 r3 q3 => ?_
  exact ⟨Φ, B3, μ3, t2, t3, t, _, S3, r2.mono l3, r3, r1.mono (l2.trans l3), q3, fun H' μ' S' h' => k.nx ρ μ' σ H' B3 ((l1.trans l2).trans l3) S' (sl.mono ((l1.trans l2).trans l3)) h'⟩
theorem aug_ok (op : Operator) : PIp X op (Op2 X.K L (tAugO op)) := by
  intro pins s σ H x y v u Q I rx ry ⟨Φ, B, μ, tx, ty, R, S, r1, r2, h, k⟩
  unfold tAugO at h
  split at h
  · obtain rfl := r1
    obtain rfl := r2
    exact ip_add pins s σ H _ _ v u Q I rx ry ⟨_, _, rfl, rfl, k.here S (show Tr X.K B (.int _) (.int _) from rfl) h⟩
  · obtain rfl := r1
    obtain rfl := r2
    exact ip_sub pins s σ H _ _ v u Q I rx ry ⟨_, _, rfl, rfl, k.here S (show Tr X.K B (.int _) (.int _) from rfl) h⟩
  · obtain rfl := r1
    obtain rfl := r2
    exact iop_add_str pins s σ H _ _ v u Q I rx ry ⟨_, _, rfl, rfl, h.1, k.here S (show Tr X.K B (.str _) (.str _) from rfl) h.2⟩
  · exact h.elim
theorem st_aug (C : SCtx G Γ L c X W) {i : Nat} {x : Str} {px : Pos} {op : Operator} {e : Ex} {v : Expr} (hN : c.N[i]? = some x) (hl : loc c.sc x = true) (he : EOk X L W v (den G Γ e)) :
    SOk X L W (.AugAssign (.Name x px) op v pos) (denS G Γ (.aug i op e)) := fun Φ B μ H σ ρ D D' S sl q k => by
  obtain ⟨h1, h2⟩ := C.e.st x hl
  refine sS_of (ps_aug (by rw [C.e.N]; exact C.e.nd) (by rw [C.e.N]; exact hN) h1 pe_s (aug_ok (L := L) op) h2) ?_
  obtain ⟨t, e1, q⟩ := q
  obtain ⟨w, e2, r⟩ := sl.2 i t e1
  refine ⟨w, e2, ?_⟩
  refine he.v Φ B μ H σ ρ _ _ _ S sl q (k.xp sl) fun w1 t1 H1 B1 μ1 l1 S1 r1 q1 => ?_
  exact ⟨Φ, B1, μ1, t, t1, _, S1, r.mono l1, r1, q1, fun w2 t2 H2 B2 μ2 l2 S2 r2 q2 => k.nx _ μ2 _ H2 B2 (l1.trans l2) S2 ((sl.mono (l1.trans l2)).set i r2) q2⟩
theorem get_ok : PGet X (fun x y H Q => ∃ Φ B μ tx ty R, St X.K L Φ H B μ ∧ Tr X.K B x tx ∧ Tr X.K B y ty ∧ (isDict μ tx = false ∧ tIdx tx ty μ R) ∧ Post X.K L Φ B R Q ∧ ∃ us, vlst μ tx = some us) := by
  intro pins s σ H x y v u Q I rx ry ⟨Φ, B, μ, tx, ty, R, S, r1, r2, ⟨hd, h⟩, k, us, hus⟩
  have h' : onL μ tx fun ts => ∃ i t, ty = .int i ∧ atI ts i = some t ∧ R t μ := by
    unfold tIdx at h
    cases tx with
    | tup ts => cases hus
    | str z => cases hus
    | lst ts => simpa [isDict] using h
    | scr ts => simpa [isDict] using h
    | own p => simp only [hd] at h; exact h
    | _ => cases hus
  obtain ⟨a, vs, ts, rfl, h1, h2, i, t, rfl, e, h'⟩ := onL_ok S r1 h'
  obtain rfl := r2
  obtain ⟨w, ew, rw'⟩ := h2.atI e
  cases (show v = Value.ref a from rx)
  obtain ⟨tk, rfl⟩ : ∃ tk, u = Value.int i tk := ry
  obtain ⟨its, rv, pl, hz⟩ := I.list h1
  obtain ⟨j, g1, g2, g3, g4, g5⟩ := atI_get ew
  obtain ⟨w', ew', rw2⟩ := rv.get g2
  have hlen := rv.length
  have hn := line63
  have fin : EP X pins σ Q w' s := ⟨w, H, I, rw2, k.here S rw' h'⟩
  by_cases h0 : 0 ≤ i
  · have hj : i.toNat = j := by
      rw [seqIndex_of h0 g5] at g1
      exact Option.some.inj g1
    exact wpAny_getItem_list pl.isList h0 (by omega) (by rw [hj]; simpa using ew') fin
  · have hj : (i + (its.toArray.size : Int)).toNat = j := by
      rw [seqIndex_neg (by omega) g4] at g1
      rw [List.size_toArray, ← hlen]
      exact Option.some.inj g1
    exact wpAny_getItem_list_neg pl.isList (by omega) (by rw [List.size_toArray] <;> omega) (by omega) (by rw [hj]; simpa using ew') fin
theorem st_augI (C : SCtx G Γ L c X W) {op : Operator} {o i e : Ex} {y kx v : Expr} {p : Pos} (ho : EOk X L W y (den G Γ o)) (hi : EOk X L W kx (den G Γ i)) (si : Stat kx) (he : EOk X L W v (den G Γ e)) :
    SOk X L W (.AugAssign (.Subscript y kx p) op v pos) (denS G Γ (.augI op o i e)) := fun Φ B μ H σ ρ D D' S sl q k => by
  refine sS_of (ps_augS pe_s pe_s (get_ok (L := L)) pe_s (aug_ok (L := L) op) (set_ok (L := L) C.e.hu) si.aug) ?_
  refine ho.v Φ B μ H σ ρ _ _ _ S sl q (k.xp sl) fun w1 t1 H1 B1 μ1 l1 S1 r1 q1 => ?_
  refine hi.v Φ B1 μ1 H1 σ ρ _ _ _ S1 (sl.mono l1) q1 ((k.xp sl).mono l1) fun w2 t2 H2 B2 μ2 l2 S2 r2 q2 => ?_
  obtain ⟨hd, ⟨us, hus⟩, q2⟩ := q2
  refine ⟨Φ, B2, μ2, t1, t2, _, S2, r1.mono l2, r2, ⟨hd, q2⟩, fun w3 t3 H3 B3 μ3 l3 S3 r3 q3 => ?_, us, hus⟩
  have l13 := (l1.trans l2).trans l3
  refine he.v Φ B3 μ3 H3 σ ρ _ _ _ S3 (sl.mono l13) q3 ((k.xp sl).mono l13) fun w4 t4 H4 B4 μ4 l4 S4 r4 q4 => ?_
  refine ⟨Φ, B4, μ4, t3, t4, _, S4, r3.mono l4, r4, q4, fun w5 t5 H5 B5 μ5 l5 S5 r5 q5 => ?_⟩
  exact ⟨Φ, B5, μ5, t1, t2, t5, _, S5, r1.mono (((l2.trans l3).trans l4).trans l5), r2.mono ((l3.trans l4).trans l5), r5, q5, fun H' μ' S' h' => k.nx ρ μ' σ H' B5 ((l13.trans l4).trans l5) S' (sl.mono ((l13.trans l4).trans l5)) h'⟩
theorem st_ret {e : Ex} {v : Expr} (he : EOk X L W v (den G Γ e)) : SOk X L W (.Return (some v) pos) (denS G Γ (.ret e)) := fun Φ B μ H σ ρ D D' S sl q k =>
  sS_of (ps_ret pe_s) (he.v Φ B μ H σ ρ _ _ _ S sl q (k.xp sl) k.rt)
theorem st_expr {e : Ex} {v : Expr} (hc : isCompV v = false) (he : EOk X L W v (den G Γ e)) : SOk X L W (.Expr v pos) (denS G Γ (.expr e)) := fun Φ B μ H σ ρ D D' S sl q k =>
  sS_of (ps_expr pe_s (sw_none hc)) (he.v Φ B μ H σ ρ _ _ _ S sl q (k.xp sl) fun w t H1 B1 μ1 l1 S1 r1 q1 => k.nx ρ μ1 σ H1 B1 l1 S1 (sl.mono l1) q1)
theorem st_ife {d : Ex} {a b : List Sx} {z : Expr} {x y : List Stmt} (hd : EOk X L W z (den G Γ d)) (ha : SsOk X L W x (denSs G Γ a)) (hb : SsOk X L W y (denSs G Γ b)) : SOk X L W (.If z x y pos) (denS G Γ (.ife d a b)) := fun Φ B μ H σ ρ D D' S sl q k => by
  refine sS_of (ps_if pt_s pss_s pss_s) ?_
  obtain ⟨J, hJ, q⟩ := q
  have k2 : EndOk X L W Φ B { D with nx := J } D' := ⟨fun ρ' μ' σ' H' B' l S' sl' h => by
    obtain ⟨ρ3, μ3, wk, h3⟩ := hJ ρ' μ' h
    obtain ⟨B2, l2, S2, sl2⟩ := wk.ok S' sl'
    exact k.nx ρ3 μ3 σ' H' B2 (l.trans l2) S2 sl2 h3, k.rt, k.bk, k.ct, k.ex⟩
  refine hd.t Φ B μ H σ ρ _ _ _ S sl q (k.xp sl) fun b1 H1 B1 μ1 l1 S1 q1 => ?_
  cases b1 with
  | true =>
    rw [if_pos rfl] at q1 ⊢
    exact ha Φ B1 μ1 H1 σ ρ _ D' S1 (sl.mono l1) q1 (k2.mono l1)
  | false =>
    rw [if_neg Bool.false_ne_true] at q1 ⊢
    exact hb Φ B1 μ1 H1 σ ρ _ D' S1 (sl.mono l1) q1 (k2.mono l1)
theorem st_for (C : SCtx G Γ L c X W) (hh : c.hot = false) {g : Tg} {kk : ItK} {its : List Ex} {body : List Sx} {tg iter : Expr} {b : List Stmt} (hg : chkG c g tg = true) (it : ItOk X L W kk tg iter (dens G Γ its)) (hb : SsOk X L W b (denSs G Γ body)) :
    SOk X L W (.For tg iter b [] pos) (denS G Γ (.for_ g kk its body)) := fun Φ B μ H σ ρ D D' S sl q k => by
  obtain ⟨hn, wi, hwi, hit⟩ := it
  refine sS_of (ps_for (C.pa hh) (C.e.calm hh) hwi (pg_s (e := tg)) (pss_s (st := b)) (folded hn)) ?_
  refine hit Φ B μ H σ ρ (D.xp ρ) (fun us gd μ1 => forD g (denSs G Γ body) us gd D ρ μ1) _ S sl q (k.xp sl) fun J H1 B1 μ1 us gd l1 S1 sim q1 => ?_
  obtain ⟨I, i0, iend, istep⟩ := q1
  refine ⟨fun i m σ2 H2 => ∃ B2 μ2 ρ2 r, Le B1 B2 ∧ St X.K L Φ H2 B2 μ2 ∧ Slots X.K B2 σ2 ρ2 ∧ us.drop i = r ∧ i ≤ us.length ∧ m = r.length ∧ I r ρ2 μ2, ⟨us.length, B1, μ1, ρ, us, Same.refl _, S1, sl.mono l1, rfl, Nat.zero_le _, rfl, i0⟩, ?_⟩
  rintro i m σ2 H2 ⟨B2, μ2, ρ2, r, l2, S2, sl2, er, hi, em, hI⟩
  cases r with
  | nil =>
    obtain ⟨g2, fin⟩ := iend ρ2 μ2 hI
    have hlen : us.length ≤ i := by
      have := congrArg List.length er
      rw [List.length_drop] at this
      simp at this
      omega
    exact .inl ⟨sim.stop _ i H2 B2 μ2 l2 S2 g2 hlen, k.nx ρ2 μ2 σ2 H2 B2 (l1.trans l2) S2 sl2 fin⟩
  | cons t r =>
    obtain ⟨g2, hbd⟩ := istep t r ρ2 μ2 hI
    have hlt : i < us.length := by
      have := congrArg List.length er
      rw [List.length_drop] at this
      simp at this
      omega
    have et : us[i]? = some t := by
      have := congrArg (fun l => l[0]?) er
      simpa [List.getElem?_drop] using this
    have er' : us.drop (i + 1) = r := by
      have := congrArg List.tail er
      simpa [List.tail_drop] using this
    obtain ⟨hgo, hy⟩ := sim.go _ i H2 B2 μ2 l2 S2 g2 hlt
    refine .inr ⟨hgo, fun σ3 H3 => ∃ B3 μ3 ρ3, Le B1 B3 ∧ St X.K L Φ H3 B3 μ3 ∧ Slots X.K B3 σ3 ρ3 ∧ I r ρ3 μ3, fun σ3 H3 ⟨B3, μ3, ρ3, l3, S3, sl3, h3⟩ => ⟨r.length, by rw [em]; simp, B3, μ3, ρ3, r, l3, S3, sl3, er', hlt, rfl, h3⟩, fun x H3 y => ?_⟩
    obtain ⟨B3, t', l3, S3, et', rt⟩ := hy x H3 y
    rw [et] at et'
    cases et'
    refine tg_ok C.e g tg hg Φ B3 μ2 H3 σ2 ρ2 x t _ _ S3 (sl2.mono l3) rt hbd fun σ4 ρ4 sl4 _ q4 => ?_
    have l03 := (l1.trans l2).trans l3
    have again : PostN X.K L Φ B3 (fun ρ5 μ5 => ∃ ρ6 μ6, Wk ρ5 μ5 ρ6 μ6 ∧ I r ρ6 μ6) (fun σ3 H3 => ∃ B3 μ3 ρ3, Le B1 B3 ∧ St X.K L Φ H3 B3 μ3 ∧ Slots X.K B3 σ3 ρ3 ∧ I r ρ3 μ3) := fun ρ5 μ5 σ5 H5 B5 l5 S5 sl5 ⟨ρ6, μ6, wk, h6⟩ => by
      obtain ⟨B6, l6, S6, sl6⟩ := wk.ok S5 sl5
      exact ⟨B6, μ6, ρ6, ((l2.trans l3).trans l5).trans l6, S6, sl6, h6⟩
    exact hb Φ B3 μ2 H3 σ4 ρ4 _ _ S3 sl4 q4 ⟨again, k.rt.mono l03, k.nx.mono l03, again, fun c' => (k.ex c').mono l03⟩
theorem st_while (C : SCtx G Γ L c X W) (hh : c.hot = false) {d : Ex} {body : List Sx} {z : Expr} {b : List Stmt} (hd : EOk X L W z (den G Γ d)) (hb : SsOk X L W b (denSs G Γ body)) : SOk X L W (.While z b [] pos) (denS G Γ (.while_ d body)) := fun Φ B μ H σ ρ D D' S sl q k => by
  refine sS_of (ps_while (C.pa hh) (pt_s (e := z)) (pss_s (st := b))) ?_
  obtain ⟨I, ⟨m0, i0⟩, step⟩ := q
  refine ⟨fun m σ2 H2 => ∃ B2 μ2 ρ2, Le B B2 ∧ St X.K L Φ H2 B2 μ2 ∧ Slots X.K B2 σ2 ρ2 ∧ I m ρ2 μ2, ⟨m0, B, μ, ρ, Same.refl _, S, sl, i0⟩, ?_⟩
  rintro m σ2 H2 ⟨B2, μ2, ρ2, l2, S2, sl2, hI⟩
  refine hd.t Φ B2 μ2 H2 σ2 ρ2 _ _ _ S2 sl2 (step m ρ2 μ2 hI) ((k.mono l2).xp sl2) fun b1 H3 B3 μ3 l3 S3 q3 => ?_
  cases b1 with
  | false =>
    rw [if_neg Bool.false_ne_true] at q3 ⊢
    exact k.nx ρ2 μ3 σ2 H3 B3 (l2.trans l3) S3 (sl2.mono l3) q3
  | true =>
    rw [if_pos rfl] at q3 ⊢
    have l03 := l2.trans l3
    have again : PostN X.K L Φ B3 (fun ρ5 μ5 => ∃ ρ6 μ6 m', Wk ρ5 μ5 ρ6 μ6 ∧ m' < m ∧ I m' ρ6 μ6) (fun σ3 H3 => ∃ m', m' < m ∧ ∃ B3 μ3 ρ3, Le B B3 ∧ St X.K L Φ H3 B3 μ3 ∧ Slots X.K B3 σ3 ρ3 ∧ I m' ρ3 μ3) := fun ρ5 μ5 σ5 H5 B5 l5 S5 sl5 ⟨ρ6, μ6, m', wk, hm, h6⟩ => by
      obtain ⟨B6, l6, S6, sl6⟩ := wk.ok S5 sl5
      exact ⟨m', hm, B6, μ6, ρ6, (l03.trans l5).trans l6, S6, sl6, h6⟩
    exact ⟨_, fun σ' H' h => h, hb Φ B3 μ3 H3 σ2 ρ2 _ _ S3 (sl2.mono l3) q3 ⟨again, k.rt.mono l03, k.nx.mono l03, again, fun c' => (k.ex c').mono l03⟩⟩
theorem st_raise (C : SCtx G Γ L c X W) {x : Nat} {n : Str} {p p2 cp : Pos} {m : Str} {j : Nat} (hx : G.ex x = some n) (hg : glb c.sc n = true) (hp : plainN n = true) : SOk X L W (.Raise (some (.Call (.Name n p) [.Constant (.str m) j p2] [] cp)) none pos) (denS G Γ (.raise x)) := fun Φ B μ H σ ρ D D' S sl q k => by
  have E := C.e.g.ex x n hx
  cases hh : c.hot with
  | true => exact (C.nv hh _ _ _ _ (k.ex x ρ μ σ H B (Same.refl _) S sl q)).elim
  | false =>
    refine sS_of (ps_raise (C.e.calm hh) C.e.tk (pmk_own PySem.F.excBase_ValueError E.ex E.mg_ E.kp (raises_own E.sb E.ty) (C.e.gl n hg) (plainN_ok hp).1)) ?_
    exact k.ex x ρ μ σ H B (Same.refl _) S sl q
theorem st_try1 (C : SCtx G Γ L c X W) (hh : c.hot = false) {body suite : List Sx} {h : Nat} {x : Str} {np pos' : Pos} {b ss : List Stmt} {s0 : Stmt} (hx : G.ex h = some x) (hg : glb c.sc x = true) (hp : plainN x = true)
    (hb : ∀ X W, SCtx G Γ L c X W → SsOk X L W b (denSs G Γ body)) (hs : ∀ X W, SCtx G Γ L { c with hot := true, as := false } X W → SsOk X L W (s0 :: ss) (denSs G Γ suite)) :
    SOk X L W (.Try b [.ExceptHandler (some (.Name x np)) none (s0 :: ss) pos'] [] [] pos) (denS G Γ (.try1 body h suite)) := fun Φ B μ H σ ρ D D' S sl q k => by
  have E := C.e.g.ex h x hx
  have nm : Names X x (.ref (L.exc h)) := ⟨C.e.gl x hg, (plainN_ok hp).1, .inl E.mg_⟩
  refine sS_of (ps_try_only (tb := fun W' D σ H => ∀ pn xe, Takes (X.tr pn xe) W' → PassesOwn (model X.prog X.w) X.A X.env xe → sSs (X.tr pn xe) b D σ H)
    (ts := fun a cls d D σ H => ∀ oe pn, Zc cls d oe → (∃ vs, oe.data = .fields vs) → sSs (X.suite a ((a, oe) :: pn)) (s0 :: ss) D σ H) C.stk C.fr nm C.e.tk
    (fun W' pn xe tk pa => ⟨fun pins s σ H D I hh => hh pn xe tk pa pins s I⟩) (fun a oe cls d pn hz hf => ⟨fun pins s σ H D I hh => hh oe pn hz hf pins s I⟩)) ?_
  intro pn xe tk pa
  refine hb (X.tr pn xe) _ ⟨⟨C.e.N, C.e.nd, C.e.vi, C.e.st, C.e.gl, C.e.fc, C.e.room, C.e.hu, C.e.calm, tk, fun z => absurd (C.e.cu z).1 (by rw [hh]; exact Bool.false_ne_true), C.e.g⟩, fun _ => pa, C.stk, C.fr, C.se, C.kd, fun z => absurd (hh.symm.trans z) Bool.false_ne_true⟩ Φ B μ H σ ρ _ D' S sl q ⟨k.nx, k.rt, k.bk, k.ct, fun a ρ' μ' σ' H' B' l S' sl' hq => ?_⟩
  obtain ⟨⟨n, m, e1, e2⟩, hq⟩ := hq
  refine ⟨subX G a h, C.e.g.su a h n m e1 e2, fun hc a' na oe pn2 hz hf => ?_, fun hc => ?_⟩
  · rw [if_pos hc] at hq
    exact hs (X.suite a' ((a', oe) :: pn2)) (fun _ _ _ _ => False) ⟨⟨C.e.N, C.e.nd, C.e.vi, C.e.st, C.e.gl, C.e.fc, fun z => Bool.noConfusion z, C.e.hu, fun z => Bool.noConfusion z, fun _ _ z => by
        obtain ⟨_, _, _, _, _, _, _, _, z⟩ := z
        exact z.2.2.2.2.2.2.2.2, fun z => Bool.noConfusion z, C.e.g⟩, fun z => Bool.noConfusion z, C.stk, C.fr, C.se, C.kd, fun _ _ _ _ _ z => z⟩ Φ B' μ' H' σ' ρ' _ D' S' sl' hq ⟨k.nx.mono l, k.rt.mono l, k.bk.mono l, k.ct.mono l, fun _ _ _ _ _ _ _ _ _ z => z.elim⟩
  · rw [if_neg (by rw [hc]; exact Bool.false_ne_true)] at hq
    exact k.ex a ρ' μ' σ' H' B' l S' sl' hq
theorem GOk.cur {m : Nat} {P : Program} {w : World} {K : PySem.W.Frag} {mg : Str → Option Value} {base : Heap} (g : GOk G Γ L m P w K mg base) (hm : m ≤ 999999) (p : Addr) (a : Nat) : GOk G (curG G Γ p a) L m P w K mg base :=
  ⟨fun f j hf e => by
    obtain ⟨a', fd, ps, FF⟩ := g.fn f j hf e
    have : curG G Γ p a f = Γ f := if_neg (by omega)
    exact ⟨a', fd, ps, by rw [this]; exact FF⟩, g.cl, g.ex, g.bl, g.con, g.fl, g.ki, g.kc, g.su⟩
theorem st_tryA (C : SCtx G Γ L c X W) (hh : c.hot = false) {body suite : List Sx} {h i : Nat} {x n : Str} {np pos' : Pos} {b ss : List Stmt} {s0 : Stmt} (hx : G.ex h = some x) (hg : glb c.sc x = true) (hp : plainN x = true)
    (hN : c.N[i]? = some n) (hl : isLoc c.sc n = true) (hm : c.m ≤ 999999)
    (hb : ∀ X W, SCtx G Γ L c X W → SsOk X L W b (denSs G Γ body)) (hs : ∀ Γ X W, SCtx G Γ L { c with hot := true, as := true } X W → SsOk X L W (s0 :: ss) (denSs G Γ suite)) :
    SOk X L W (.Try b [.ExceptHandler (some (.Name x np)) (some n) (s0 :: ss) pos'] [] [] pos) (denS G Γ (.tryA body h i suite)) := fun Φ B μ H σ ρ D D' S sl q k => by
  have E := C.e.g.ex h x hx
  have nm : Names X x (.ref (L.exc h)) := ⟨C.e.gl x hg, (plainN_ok hp).1, .inl E.mg_⟩
  have lx : X.env.kindOf n = some .local := by
    show X.env.scope.names.lookup n = some .local
    rw [C.se]
    unfold isLoc at hl
    exact of_decide_eq_true hl
  refine sS_of (ps_try_as (i := i) (n := n) (tb := fun W' D σ H => ∀ pn xe, Takes (X.tr pn xe) W' → PassesOwn (model X.prog X.w) X.A X.env xe → sSs (X.tr pn xe) b D σ H)
    (ts := fun a cls d D σ H => ∀ oe pn, Zc cls d oe → (∃ vs, oe.data = .fields vs) → sSs (X.suite a ((a, oe) :: pn)) (s0 :: ss) D σ H) C.stk C.fr (by rw [C.e.N]; exact C.e.nd) (by rw [C.e.N]; exact hN) lx nm C.e.tk
    (fun W' pn xe tk pa => ⟨fun pins s σ H D I hh => hh pn xe tk pa pins s I⟩) (fun a oe cls d pn hz hf => ⟨fun pins s σ H D I hh => hh oe pn hz hf pins s I⟩)) ?_
  intro pn xe tk pa
  refine hb (X.tr pn xe) _ ⟨⟨C.e.N, C.e.nd, C.e.vi, C.e.st, C.e.gl, C.e.fc, C.e.room, C.e.hu, C.e.calm, tk, fun z => absurd (C.e.cu z).1 (by rw [hh]; exact Bool.false_ne_true), C.e.g⟩, fun _ => pa, C.stk, C.fr, C.se, C.kd, fun z => absurd (hh.symm.trans z) Bool.false_ne_true⟩ Φ B μ H σ ρ _ D' S sl q ⟨k.nx, k.rt, k.bk, k.ct, fun a ρ' μ' σ' H' B' l S' sl' hq => ?_⟩
  obtain ⟨⟨n1, m1, e1, e2⟩, hq⟩ := hq
  refine ⟨subX G a h, C.e.g.su a h n1 m1 e1 e2, fun hc a' na oe pn2 hz hf => ?_, fun hc => ?_⟩
  · rw [if_pos hc] at hq
    refine hs (curG G Γ a' a) (X.suite a' ((a', oe) :: pn2)) (fun _ _ _ _ => False) ⟨⟨C.e.N, C.e.nd, C.e.vi, C.e.st, C.e.gl, C.e.fc, fun z => Bool.noConfusion z, C.e.hu, fun z => Bool.noConfusion z, fun _ _ z => by
        obtain ⟨_, _, _, _, _, _, _, _, z⟩ := z
        exact z.2.2.2.2.2.2.2.2, fun _ => ⟨rfl, X, a', oe, pn2, a, n1, rfl, e1, hz, hf, if_pos rfl⟩, C.e.g.cur hm a' a⟩, fun z => Bool.noConfusion z, C.stk, C.fr, C.se, C.kd, fun _ _ _ _ _ z => z⟩ Φ B' μ' H' _ _ _ _ S' (sl'.set i (show Tr X.K B' (.ref a') (.own a') from rfl)) (hq a' (S'.fresh na)) ⟨?_, k.rt.mono l, ?_, ?_, fun _ _ _ _ _ _ _ _ _ z => z.elim⟩
    · exact fun ρ2 μ2 σ2 H2 B2 l2 S2 sl2 q2 => k.nx _ μ2 _ H2 B2 (l.trans l2) S2 (sl2.wipe1 i) q2
    · exact fun ρ2 μ2 σ2 H2 B2 l2 S2 sl2 q2 => k.bk _ μ2 _ H2 B2 (l.trans l2) S2 (sl2.wipe1 i) q2
    · exact fun ρ2 μ2 σ2 H2 B2 l2 S2 sl2 q2 => k.ct _ μ2 _ H2 B2 (l.trans l2) S2 (sl2.wipe1 i) q2
  · rw [if_neg (by rw [hc]; exact Bool.false_ne_true)] at hq
    exact k.ex a ρ' μ' σ' H' B' l S' sl' hq
theorem st_try2 (C : SCtx G Γ L c X W) (hh : c.hot = false) {body suite suite2 : List Sx} {h h2 : Nat} {x x2 : Str} {np pos' np2 pos2 : Pos} {b ss tt : List Stmt} {s0 t0 : Stmt} (hx : G.ex h = some x) (hg : glb c.sc x = true) (hp : plainN x = true) (hx2 : G.ex h2 = some x2) (hg2 : glb c.sc x2 = true) (hp2 : plainN x2 = true)
    (hb : ∀ X W, SCtx G Γ L c X W → SsOk X L W b (denSs G Γ body)) (hs : ∀ X W, SCtx G Γ L { c with hot := true, as := false } X W → SsOk X L W (s0 :: ss) (denSs G Γ suite)) (hs2 : ∀ X W, SCtx G Γ L { c with hot := true, as := false } X W → SsOk X L W (t0 :: tt) (denSs G Γ suite2)) :
    SOk X L W (.Try b [.ExceptHandler (some (.Name x np)) none (s0 :: ss) pos', .ExceptHandler (some (.Name x2 np2)) none (t0 :: tt) pos2] [] [] pos) (denS G Γ (.try2 body h suite h2 suite2)) := fun Φ B μ H σ ρ D D' S sl q k => by
  have E := C.e.g.ex h x hx
  have E2 := C.e.g.ex h2 x2 hx2
  have nm : Names X x (.ref (L.exc h)) := ⟨C.e.gl x hg, (plainN_ok hp).1, .inl E.mg_⟩
  have nm2 : Names X x2 (.ref (L.exc h2)) := ⟨C.e.gl x2 hg2, (plainN_ok hp2).1, .inl E2.mg_⟩
  refine sS_of (ps_try_many (tb := fun W' D σ H => ∀ pn xe, Takes (X.tr pn xe) W' → PassesOwn (model X.prog X.w) X.A X.env xe → sSs (X.tr pn xe) b D σ H)
    C.stk C.fr C.e.tk
    (fun W' pn xe tk pa => ⟨fun pins s σ H D I hh => hh pn xe tk pa pins s I⟩)
    (.cons (ts := fun a cls d D σ H => ∀ oe pn, Zc cls d oe → (∃ vs, oe.data = .fields vs) → sSs (X.suite a ((a, oe) :: pn)) (s0 :: ss) D σ H) nm (fun a oe cls d pn hz hf => ⟨fun pins s σ H D I hh => hh oe pn hz hf pins s I⟩)
      (.cons (ts := fun a cls d D σ H => ∀ oe pn, Zc cls d oe → (∃ vs, oe.data = .fields vs) → sSs (X.suite a ((a, oe) :: pn)) (t0 :: tt) D σ H) nm2 (fun a oe cls d pn hz hf => ⟨fun pins s σ H D I hh => hh oe pn hz hf pins s I⟩) .nil))) ?_
  intro pn xe tk pa
  refine hb (X.tr pn xe) _ ⟨⟨C.e.N, C.e.nd, C.e.vi, C.e.st, C.e.gl, C.e.fc, C.e.room, C.e.hu, C.e.calm, tk, fun z => absurd (C.e.cu z).1 (by rw [hh]; exact Bool.false_ne_true), C.e.g⟩, fun _ => pa, C.stk, C.fr, C.se, C.kd, fun z => absurd (hh.symm.trans z) Bool.false_ne_true⟩ Φ B μ H σ ρ _ D' S sl q ⟨k.nx, k.rt, k.bk, k.ct, fun a ρ' μ' σ' H' B' l S' sl' hq => ?_⟩
  obtain ⟨⟨n, m, m2, e1, e2, e3⟩, hq⟩ := hq
  have sctx : ∀ (a' : Addr) (oe : Obj) (pn2 : List (Addr × Obj)), SCtx G Γ L { c with hot := true, as := false } (X.suite a' ((a', oe) :: pn2)) (fun _ _ _ _ => False) := fun a' oe pn2 =>
    ⟨⟨C.e.N, C.e.nd, C.e.vi, C.e.st, C.e.gl, C.e.fc, fun z => Bool.noConfusion z, C.e.hu, fun z => Bool.noConfusion z, fun _ _ z => by
        obtain ⟨_, _, _, _, _, _, _, _, z⟩ := z
        exact z.2.2.2.2.2.2.2.2, fun z => Bool.noConfusion z, C.e.g⟩, fun z => Bool.noConfusion z, C.stk, C.fr, C.se, C.kd, fun _ _ _ _ _ z => z⟩
  refine ⟨subX G a h, C.e.g.su a h n m e1 e2, fun hc a' na oe pn2 hz hf => ?_, fun hc => ?_⟩
  · rw [if_pos hc] at hq
    exact hs _ _ (sctx a' oe pn2) Φ B' μ' H' σ' ρ' _ D' S' sl' hq ⟨k.nx.mono l, k.rt.mono l, k.bk.mono l, k.ct.mono l, fun _ _ _ _ _ _ _ _ _ z => z.elim⟩
  rw [if_neg (by rw [hc]; exact Bool.false_ne_true)] at hq
  refine ⟨subX G a h2, C.e.g.su a h2 n m2 e1 e3, fun hc a' na oe pn2 hz hf => ?_, fun hc => ?_⟩
  · rw [if_pos hc] at hq
    exact hs2 _ _ (sctx a' oe pn2) Φ B' μ' H' σ' ρ' _ D' S' sl' hq ⟨k.nx.mono l, k.rt.mono l, k.bk.mono l, k.ct.mono l, fun _ _ _ _ _ _ _ _ _ z => z.elim⟩
  · rw [if_neg (by rw [hc]; exact Bool.false_ne_true)] at hq
    exact k.ex a ρ' μ' σ' H' B' l S' sl' hq
theorem ss_nil : SsOk X L W [] (denSs G Γ []) := fun Φ B μ H σ ρ D D' S sl q k => sSs_of pss_nil (k.nx ρ μ σ H B (Same.refl _) S sl q)
theorem ss_cons {s : Sx} {ss : List Sx} {st : Stmt} {sts : List Stmt} (h : SOk X L W st (denS G Γ s)) (hs : SsOk X L W sts (denSs G Γ ss)) : SsOk X L W (st :: sts) (denSs G Γ (s :: ss)) := fun Φ B μ H σ ρ D D' S sl q k => by
  refine sSs_of (pss_cons ps_s pss_s) ?_
  exact h Φ B μ H σ ρ { D with nx := fun ρ' μ' => denSs G Γ ss D ρ' μ' } { D' with nx := sSs X sts D' } S sl q ⟨fun ρ' μ' σ' H' B' l S' sl' q' => hs Φ B' μ' H' σ' ρ' D D' S' sl' q' (k.mono l), k.rt, k.bk, k.ct, k.ex⟩
theorem ss_wk {ss : List Sx} {sts : List Stmt} (hs : SsOk X L W sts (denSs G Γ ss)) : SsOk X L W sts (denSs G Γ (.wk :: ss)) := fun Φ B μ H σ ρ D D' S sl q k => by
  obtain ⟨ρ', μ', wk, q⟩ := q
  obtain ⟨B', l, S', sl'⟩ := wk.ok S sl
  exact hs Φ B' μ' H σ ρ' D D' S' sl' q (k.mono l)
end
end Rh

namespace Rh
open PySem PySem.Spec PyProof.Rows L2
section
variable {L : Lay} {G : Tab} {Γ : Nat → TSp}
/-! ## 22. All statements -/
def M4 (L : Lay) (G : Tab) (c : SC) (s : Sx) (st : Stmt) : Prop := chkS G c s st = true → ∀ (Γ : Nat → TSp) (X : Cx) (W : WX), SCtx G Γ L c X W → SOk X L W st (denS G Γ s)
def M5 (L : Lay) (G : Tab) (c : SC) (s : List Sx) (st : List Stmt) : Prop := chkSs G c s st = true → ∀ (Γ : Nat → TSp) (X : Cx) (W : WX), SCtx G Γ L c X W → SsOk X L W st (denSs G Γ s)
abbrev A4 (L : Lay) (G : Tab) (s : Sx) : Prop := ∀ c st, M4 L G c s st
abbrev A5 (L : Lay) (G : Tab) (s : List Sx) : Prop := ∀ c st, M5 L G c s st
theorem gEx_ok {h : Nat} {x : Str} (e : gEx G h x = true) : G.ex h = some x := by
  unfold gEx at e
  cases q : G.ex h with
  | none => rw [q] at e; cases e
  | some m =>
    rw [q] at e
    exact congrArg some (of_decide_eq_true e)
/-- what is made item by item is one word alone -/
theorem isC_no {c : SC} {e : Ex} {v : Expr} (h : chkE G c e v = true) (hv : isCompV v = true) (hn : (match e with | .comp .. => false | _ => true) = true := by rfl) : False := by
  cases v <;> first | (cases hv; done) | skip
  all_goals (cases e <;> first | (cases hn; done) | (unfold chkE at h; first | (cases h; done) | (split at h <;> first | (cases h; done) | contradiction)))
theorem y_asg (hcl : Hcl G) (hfl : Hfl G) {g : Tg} {e : Ex} : A4 L G (.asg g e) := by
  intro c st h Γ X W C
  unfold chkS at h
  split at h
  · rename_i tg v pos
    rw [Bool.and_eq_true, Bool.and_eq_true] at h
    obtain ⟨⟨h1, h2⟩, h3⟩ := h
    have he := (snd_E (L := L) (Γ := Γ) hcl hfl e c v h2 X W C.e).1
    cases g with
    | tup gs =>
      cases tg <;> first | cases h1 | skip
      have hv : isTupV v = false := by simpa [isTupE] using h3
      exact st_asgT C h1 hv he
    | nm i =>
      cases tg <;> first | cases h1 | skip
      rename_i x px
      simp only [chkG, Bool.and_eq_true, decide_eq_true_eq] at h1
      cases hcv : isCompV v with
      | false => exact st_asgN C h1.1 h1.2 he (sw_none hcv)
      | true =>
        cases e with
        | comp own vs g kk its cond elt =>
          unfold chkE at h2
          split at h2
          · simp only [Bool.and_eq_true, decide_eq_true_eq, Bool.not_eq_true'] at h2
            obtain ⟨⟨⟨⟨⟨⟨⟨g1, g2⟩, g3⟩, g4⟩, g5⟩, g6⟩, g7⟩, g8⟩ := h2
            exact st_comp C g8 h1.1 h1.2 g5 g6 (it_chk (snd_A3 hcl hfl its) g1 X W C.e) (comp_parts C.e g8 g2 g7 (if_chk (snd_E hcl hfl cond) g3) fun X W C => (snd_E hcl hfl elt _ _ g4 X W C).1)
          · cases h2
        | _ => exact (isC_no h2 hcv).elim
  · cases h
section
variable (hcl : Hcl G) (hfl : Hfl G)
include hcl hfl
theorem y_par {i j : Nat} {a b : Ex} : A4 L G (.par i j a b) := by
  intro c st h Γ X W C
  have s1 := fun c e v => snd_E (L := L) (Γ := Γ) hcl hfl e c v
  have s2 := (snd_all (L := L) (Γ := Γ) hcl hfl).2.1
  unfold chkS at h
  split at h
  · simp only [Bool.and_eq_true, decide_eq_true_eq, Bool.not_eq_true'] at h
    obtain ⟨⟨⟨⟨⟨h1, h2⟩, h3⟩, h4⟩, h5⟩, hh⟩ := h
    have ha := s1 c a _ h4 X W C.e
    have hb := s1 c b _ h5 X W C.e
    exact st_par C hh h1 h2 h3 ha.1 ha.2 hb.1 hb.2
  · cases h
theorem y_asgF {d i : Nat} {o e : Ex} : A4 L G (.asgF d i o e) := by
  intro c st h Γ X W C
  have s1 := fun c e v => snd_E (L := L) (Γ := Γ) hcl hfl e c v
  have s2 := (snd_all (L := L) (Γ := Γ) hcl hfl).2.1
  unfold chkS at h
  split at h
  · simp only [Bool.and_eq_true, decide_eq_true_eq, Bool.not_eq_true'] at h
    obtain ⟨⟨⟨h1, h2⟩, h3⟩, h4⟩ := h
    exact st_asgF C h3 h4 (hfl d _ (List.mem_of_getElem? h4)) (s1 c o _ h1 X W C.e).1 (s1 c e _ h2 X W C.e).1
  · cases h
theorem y_asgI {o i e : Ex} : A4 L G (.asgI o i e) := by
  intro c st h Γ X W C
  have s1 := fun c e v => snd_E (L := L) (Γ := Γ) hcl hfl e c v
  have s2 := (snd_all (L := L) (Γ := Γ) hcl hfl).2.1
  unfold chkS at h
  split at h
  · simp only [Bool.and_eq_true, decide_eq_true_eq, Bool.not_eq_true'] at h
    exact st_asgI C (s1 c o _ h.1.1 X W C.e).1 (s1 c i _ h.1.2 X W C.e).1 (s1 c i _ h.1.2 X W C.e).2 (s1 c e _ h.2 X W C.e).1
  · cases h
theorem y_aug {i : Nat} {op : Operator} {e : Ex} : A4 L G (.aug i op e) := by
  intro c st h Γ X W C
  have s1 := fun c e v => snd_E (L := L) (Γ := Γ) hcl hfl e c v
  have s2 := (snd_all (L := L) (Γ := Γ) hcl hfl).2.1
  unfold chkS at h
  split at h
  · simp only [Bool.and_eq_true, decide_eq_true_eq, Bool.not_eq_true'] at h
    obtain ⟨⟨⟨h1, h2⟩, rfl⟩, h4⟩ := h
    exact st_aug C h1 h2 (s1 c e _ h4 X W C.e).1
  · cases h
theorem y_augI {op : Operator} {o i e : Ex} : A4 L G (.augI op o i e) := by
  intro c st h Γ X W C
  have s1 := fun c e v => snd_E (L := L) (Γ := Γ) hcl hfl e c v
  have s2 := (snd_all (L := L) (Γ := Γ) hcl hfl).2.1
  unfold chkS at h
  split at h
  · simp only [Bool.and_eq_true, decide_eq_true_eq, Bool.not_eq_true'] at h
    obtain ⟨⟨⟨rfl, h1⟩, h2⟩, h3⟩ := h
    exact st_augI C (s1 c o _ h1 X W C.e).1 (s1 c i _ h2 X W C.e).1 (s1 c i _ h2 X W C.e).2 (s1 c e _ h3 X W C.e).1
  · cases h
theorem y_ret {e : Ex} : A4 L G (.ret e) := by
  intro c st h Γ X W C
  have s1 := fun c e v => snd_E (L := L) (Γ := Γ) hcl hfl e c v
  have s2 := (snd_all (L := L) (Γ := Γ) hcl hfl).2.1
  unfold chkS at h
  split at h
  · exact st_ret (s1 c e _ h X W C.e).1
  · cases h
theorem y_retN  : A4 L G (.retN) := by
  intro c st h Γ X W C
  have s1 := fun c e v => snd_E (L := L) (Γ := Γ) hcl hfl e c v
  have s2 := (snd_all (L := L) (Γ := Γ) hcl hfl).2.1
  unfold chkS at h
  split at h
  · exact fun Φ B μ H σ ρ D D' S sl q k => sS_of ps_retN (k.rt.here S (show Tr X.K B .non .non from rfl) q)
  · cases h
theorem y_expr {e : Ex} : A4 L G (.expr e) := by
  intro c st h Γ X W C
  have s1 := fun c e v => snd_E (L := L) (Γ := Γ) hcl hfl e c v
  have s2 := (snd_all (L := L) (Γ := Γ) hcl hfl).2.1
  unfold chkS at h
  split at h
  · simp only [Bool.and_eq_true, decide_eq_true_eq, Bool.not_eq_true'] at h
    exact st_expr h.2 (s1 c e _ h.1 X W C.e).1
  · cases h
theorem y_ife {d : Ex} {a b : List Sx} (i1 : A5 L G a) (i2 : A5 L G b) : A4 L G (.ife d a b) := by
  intro c st h Γ X W C
  have s1 := fun c e v => snd_E (L := L) (Γ := Γ) hcl hfl e c v
  have s2 := (snd_all (L := L) (Γ := Γ) hcl hfl).2.1
  unfold chkS at h
  split at h
  · simp only [Bool.and_eq_true, decide_eq_true_eq, Bool.not_eq_true'] at h
    exact st_ife (s1 c d _ h.1.1 X W C.e).1 (i1 _ _ h.1.2 Γ X W C) (i2 _ _ h.2 Γ X W C)
  · cases h
theorem y_for {g : Tg} {k : ItK} {its : List Ex} {a : List Sx} (i1 : A5 L G a) : A4 L G (.for_ g k its a) := by
  intro c st h Γ X W C
  have s1 := fun c e v => snd_E (L := L) (Γ := Γ) hcl hfl e c v
  have s2 := (snd_all (L := L) (Γ := Γ) hcl hfl).2.1
  unfold chkS at h
  split at h
  · simp only [Bool.and_eq_true, decide_eq_true_eq, Bool.not_eq_true'] at h
    exact st_for C h.2 h.1.1.2 (s2 c k its _ _ h.1.1.1 X W C.e) (i1 _ _ h.1.2 Γ X W C)
  · cases h
theorem y_while {d : Ex} {a : List Sx} (i1 : A5 L G a) : A4 L G (.while_ d a) := by
  intro c st h Γ X W C
  have s1 := fun c e v => snd_E (L := L) (Γ := Γ) hcl hfl e c v
  have s2 := (snd_all (L := L) (Γ := Γ) hcl hfl).2.1
  unfold chkS at h
  split at h
  · simp only [Bool.and_eq_true, decide_eq_true_eq, Bool.not_eq_true'] at h
    exact st_while C h.2 (s1 c d _ h.1.1 X W C.e).1 (i1 _ _ h.1.2 Γ X W C)
  · cases h
theorem y_try1 {m : Nat} {a b : List Sx} (i1 : A5 L G a) (i2 : A5 L G b) : A4 L G (.try1 a m b) := by
  intro c st h Γ X W C
  have s1 := fun c e v => snd_E (L := L) (Γ := Γ) hcl hfl e c v
  have s2 := (snd_all (L := L) (Γ := Γ) hcl hfl).2.1
  unfold chkS at h
  split at h
  · simp only [Bool.and_eq_true, decide_eq_true_eq, Bool.not_eq_true'] at h
    obtain ⟨⟨⟨⟨⟨h1, h2⟩, h3⟩, h4⟩, h5⟩, hh⟩ := h
    exact st_try1 C hh (gEx_ok h1) h2 h3 (fun X W C => i1 _ _ h4 Γ X W C) (fun X W C => i2 _ _ h5 Γ X W C)
  · cases h
theorem y_tryA {m i : Nat} {a b : List Sx} (i1 : A5 L G a) (i2 : A5 L G b) : A4 L G (.tryA a m i b) := by
  intro c st h Γ X W C
  have s1 := fun c e v => snd_E (L := L) (Γ := Γ) hcl hfl e c v
  have s2 := (snd_all (L := L) (Γ := Γ) hcl hfl).2.1
  unfold chkS at h
  split at h
  · simp only [Bool.and_eq_true, decide_eq_true_eq, Bool.not_eq_true'] at h
    obtain ⟨⟨⟨⟨⟨⟨⟨⟨h1, h2⟩, h3⟩, h4⟩, h5⟩, h6⟩, h7⟩, h8⟩, hh⟩ := h
    exact st_tryA C hh (gEx_ok h1) h2 h3 h6 h7 h8 (fun X W C => i1 _ _ h4 Γ X W C) (fun Γ X W C => i2 _ _ h5 Γ X W C)
  · cases h
theorem y_try2 {m m2 : Nat} {a b b2 : List Sx} (i1 : A5 L G a) (i2 : A5 L G b) (i3 : A5 L G b2) : A4 L G (.try2 a m b m2 b2) := by
  intro c st h Γ X W C
  have s1 := fun c e v => snd_E (L := L) (Γ := Γ) hcl hfl e c v
  unfold chkS at h
  split at h
  · simp only [Bool.and_eq_true, decide_eq_true_eq, Bool.not_eq_true'] at h
    obtain ⟨⟨⟨⟨⟨⟨⟨⟨⟨h1, h2⟩, h3⟩, h4⟩, h5⟩, h6⟩, h7⟩, h8⟩, h9⟩, hh⟩ := h
    exact st_try2 C hh (gEx_ok h1) h2 h3 (gEx_ok h4) h5 h6 (fun X W C => i1 _ _ h7 Γ X W C) (fun X W C => i2 _ _ h8 Γ X W C) (fun X W C => i3 _ _ h9 Γ X W C)
  · cases h
theorem y_raise {x : Nat} : A4 L G (.raise x) := by
  intro c st h Γ X W C
  have s1 := fun c e v => snd_E (L := L) (Γ := Γ) hcl hfl e c v
  have s2 := (snd_all (L := L) (Γ := Γ) hcl hfl).2.1
  unfold chkS at h
  split at h
  · simp only [Bool.and_eq_true, decide_eq_true_eq, Bool.not_eq_true'] at h
    obtain ⟨⟨h1, h2⟩, h3⟩ := h
    exact st_raise C (gEx_ok h1) h2 h3
  · cases h
theorem y_pass  : A4 L G (.pass) := by
  intro c st h Γ X W C
  have s1 := fun c e v => snd_E (L := L) (Γ := Γ) hcl hfl e c v
  have s2 := (snd_all (L := L) (Γ := Γ) hcl hfl).2.1
  unfold chkS at h
  split at h
  · exact fun Φ B μ H σ ρ D D' S sl q k => sS_of ps_pass (k.nx ρ μ σ H B (Same.refl _) S sl q)
  · cases h
theorem y_brk  : A4 L G (.brk) := by
  intro c st h Γ X W C
  have s1 := fun c e v => snd_E (L := L) (Γ := Γ) hcl hfl e c v
  have s2 := (snd_all (L := L) (Γ := Γ) hcl hfl).2.1
  unfold chkS at h
  split at h
  · exact fun Φ B μ H σ ρ D D' S sl q k => sS_of ps_break (k.bk ρ μ σ H B (Same.refl _) S sl q)
  · cases h
theorem y_cont  : A4 L G (.cont) := by
  intro c st h Γ X W C
  have s1 := fun c e v => snd_E (L := L) (Γ := Γ) hcl hfl e c v
  have s2 := (snd_all (L := L) (Γ := Γ) hcl hfl).2.1
  unfold chkS at h
  split at h
  · exact fun Φ B μ H σ ρ D D' S sl q k => sS_of ps_continue (k.ct ρ μ σ H B (Same.refl _) S sl q)
  · cases h
omit hcl hfl in
theorem y_wk : A4 L G .wk := by
  intro c st h
  unfold chkS at h
  cases h
omit hcl hfl in
theorem y_nil : A5 L G [] := by
  intro c st h Γ X W C
  unfold chkSs at h
  cases st with
  | nil => exact ss_nil
  | cons y ys => cases h
omit hcl hfl in
theorem y_cons {s : Sx} {ss : List Sx} (i1 : A4 L G s) (i2 : A5 L G ss) : A5 L G (s :: ss) := by
  intro c l h Γ X W C
  unfold chkSs at h
  split at h
  · exact ss_wk (i2 _ _ h Γ X W C)
  · split at h
    · cases h
    · rw [Bool.and_eq_true] at h
      exact ss_cons (i1 _ _ h.1 Γ X W C) (i2 _ _ h.2 Γ X W C)
theorem snd_S (s : Sx) : A4 L G s :=
  Sx.rec (motive_1 := A4 L G) (motive_2 := A5 L G) (fun _ _ => y_asg hcl hfl) (fun _ _ _ _ => y_par hcl hfl) (fun _ _ _ _ => y_asgF hcl hfl) (fun _ _ _ => y_asgI hcl hfl) (fun _ _ _ => y_aug hcl hfl) (fun _ _ _ _ => y_augI hcl hfl) (fun _ => y_ret hcl hfl) (y_retN hcl hfl) (fun _ => y_expr hcl hfl) (fun _ _ _ => y_ife hcl hfl)
    (fun _ _ _ _ => y_for hcl hfl) (fun _ _ => y_while hcl hfl) (fun _ _ _ => y_try1 hcl hfl) (fun _ _ _ _ => y_tryA hcl hfl) (fun _ _ _ _ _ => y_try2 hcl hfl) (fun _ => y_raise hcl hfl) (y_pass hcl hfl) (y_brk hcl hfl) (y_cont hcl hfl) y_wk y_nil (fun _ _ => y_cons) s
theorem snd_Ss : ∀ s : List Sx, A5 L G s
  | [] => y_nil
  | s :: ss => y_cons (snd_S hcl hfl s) (snd_Ss ss)
theorem snd_st : (∀ c s st, M4 L G c s st) ∧ (∀ c s st, M5 L G c s st) := ⟨fun c s st => snd_S hcl hfl s c st, fun c s st => snd_Ss hcl hfl s c st⟩
end

/-! ## 23. A def keeps its promise -/
def startT (n : Nat) (ts : List T) : Ro := ts.map some ++ List.replicate (n - ts.length) none
def fin_ (R : RP) : RP := fun t μ => ∃ t' μ', WkV t μ t' μ' ∧ R t' μ'
def bodyD (R : RP) (F : XP) : SEnds := { nx := fun _ μ => fin_ R .non μ, rt := fin_ R, bk := fun _ _ => False, ct := fun _ _ => False, ex := fun c _ μ => F c μ }
theorem start_ok {K : PySem.W.Frag} {B : Hp} {N : List Str} {vs : List V} {ts : List T} (r : Trs K B vs ts) : Slots K B (L2.start N vs) (startT N.length ts) := by
  have hl := r.length
  refine ⟨by simp [L2.start, startT, hl], fun i t e => ?_⟩
  unfold startT at e
  unfold L2.start
  by_cases hi : i < ts.length
  · rw [List.getElem?_append_left (by simpa using hi), List.getElem?_map] at e
    rw [List.getElem?_append_left (by rw [List.length_map]; omega), List.getElem?_map]
    cases q : ts[i]? with
    | none => rw [q] at e; cases e
    | some u =>
      rw [q] at e
      cases e
      obtain ⟨v, h1, h2⟩ := r.get q
      exact ⟨v, by rw [h1]; rfl, h2⟩
  · rw [List.getElem?_append_right (by simpa using hi), List.getElem?_replicate] at e
    split at e <;> cases e
theorem fn_okD {P : Program} {w : World} {K : PySem.W.Frag} {mg : Str → Option Value} {base : Heap} {x qual : Str} {st : Stmt} {f : Addr} {N ps : List Str} {k m np : Nat} {S' : TSp} {core : List Sx} {oc dV kV doc pm cdv ct : Value} {od an : Option Addr} {osl : Array (Option Value)}
    (hcl : ∀ f i d, G.fn f = some i → i.cls = some d → ∃ ci, G.cl d = some ci) (hfl : ∀ d f, f ∈ G.flds d → ∃ ci, G.cl d = some ci)
    (lk : K.lookup f = some ⟨oc, od, .func (PySem.W.fnOf x qual (defArgs st) (defBody st) (defScope st) dV kV doc pm an cdv ct), osl⟩) (hcd : PySem.W.codeIn K cdv qual = true) (S : FnScope N ps (defScope st)) (hnp : ps.length = np) (hc : chkSs G ⟨N, defScope st, k, m, false, false⟩ core (defBody st) = true) (g : GOk G Γ L m P w K mg base)
    (body : ∀ ts μ F R, S' ts μ F R → denSs G Γ core (bodyD R F) (startT N.length ts) μ) : FnOk P w K mg base (L2.CX P w) (k + 1) f (PySem.W.fnOf x qual (defArgs st) (defBody st) (defScope st) dV kV doc pm an cdv ct) ps (spOf K L np S') := by
  refine fn_of lk hcd S (fun vs H Q E h => h.1.trans hnp.symm) fun A outer s H vs Q E hr h => ?_
  obtain ⟨hl, Φ, B, μ, ts, R, F, S0, r, q, kk, kx⟩ := h
  refine ⟨_, pss_s, ?_⟩
  have tk := takes_of (X := cxOf (L2.CX P w) P w K mg base N qual (defScope st) f cdv A outer s H E) (E := E) rfl rfl rfl rfl
  have C : SCtx G Γ L ⟨N, defScope st, k, m, false, false⟩ (cxOf (L2.CX P w) P w K mg base N qual (defScope st) f cdv A outer s H E) (fun cls d _ H => E cls d H) :=
    ⟨⟨rfl, S.nd, fun y hy => by
        have hy' : vis (defScope st) y = true := hy
        unfold vis at hy'
        show Vis (defScope st) y
        unfold Vis
        revert hy'
        cases (defScope st).names.lookup y with
        | none => intro z; cases z
        | some kd => cases kd <;> first | (intro _; exact .inl rfl) | (intro _; exact .inr (.inl rfl)) | (intro _; exact .inr (.inr rfl)) | (intro z; cases z),
      fun y hy => by
        have hy' : loc (defScope st) y = true := hy
        unfold loc at hy'
        refine ⟨?_, .inl rfl⟩
        show L2.Loc (defScope st) y
        unfold L2.Loc
        revert hy'
        cases (defScope st).names.lookup y with
        | none => intro z; cases z
        | some kd => cases kd <;> first | (intro _; exact .inl rfl) | (intro _; exact .inr rfl) | (intro z; cases z),
      fun y hy => by
        have hy' : glb (defScope st) y = true := hy
        unfold glb at hy'
        show (defScope st).names.lookup y = some .globalImplicit
        revert hy'
        cases (defScope st).names.lookup y with
        | none => intro z; cases z
        | some kd => cases kd <;> first | (intro _; rfl) | (intro z; cases z),
      fun y hy => hy, fun _ => hr, by have h := hr.un; exact Nat.lt_of_le_of_lt (Nat.add_le_add_left (by omega : 65 ≤ 16 * k + 200) _) (by rw [← Nat.add_assoc]; exact h), fun _ => rfl, tk, fun z => Bool.noConfusion z, g⟩, fun _ => passes_of rfl, rfl, rfl, rfl, S.kind, fun z => Bool.noConfusion z⟩
  refine (snd_st (L := L) hcl hfl).2 _ core _ hc Γ _ _ C Φ B μ H _ _ (bodyD R F) _ S0 (start_ok r) (body ts μ F R q) ⟨fun ρ' μ' σ' H' B' l S' _ h => ?_, fun v t H' B' μ' l S' r' h => ?_, fun _ _ _ _ _ _ _ _ h => h.elim, fun _ _ _ _ _ _ _ _ h => h.elim, fun cc ρ' μ' σ' H' B' l S' _ h => kx cc H' B' μ' l S' h⟩
  · obtain ⟨t', μ2, wk, h⟩ := h
    obtain ⟨B2, l2, S2, r2⟩ := wk.ok (v := .non) S' rfl
    exact kk _ t' H' B2 μ2 (l.trans l2) S2 r2 h
  · obtain ⟨t', μ2, wk, h⟩ := h
    obtain ⟨B2, l2, S2, r2⟩ := wk.ok S' r'
    exact kk _ t' H' B2 μ2 (l.trans l2) S2 r2 h
/-- the law's own promise -/
def sLawT : TSp := fun ts _ _ R => ∃ ns : List Int, ts = [.scr (ns.map T.int)] ∧ ns.length ≤ 63 ∧ (∀ k ∈ ns, Builtin.Int.intBits k ≤ 1048576) ∧ ∀ μ', R (.bl true) μ'
def spLawT (K : PySem.W.Frag) : Sp := fun vs H Q _ => ∃ (a : Addr) (ns : List Int), vs = [.ref a] ∧ SqL K H a (ns.map V.int) ∧ ns.length ≤ 63 ∧ (∀ k ∈ ns, Builtin.Int.intBits k ≤ 1048576) ∧ ∀ H', Q (.bl true) H'
theorem law_sp {K : PySem.W.Frag} {vs : List V} {H : Hp} {Q : VK} {E : XK} (h : spLawT K vs H Q E) : spOf K L 1 sLawT vs H Q E := by
  obtain ⟨a, ns, rfl, hs, hl, hb, k⟩ := h
  refine ⟨rfl, fun _ => none, H, fun _ => none, [.scr (ns.map T.int)], fun t _ => t = .bl true, fun _ _ => False, ⟨Same.refl _, fun _ _ h => (nomatch h), fun _ _ h => (nomatch h)⟩, Trs.cons ⟨a, _, rfl, hs, Trs.of_ints ns⟩ Trs.nil, ⟨ns, rfl, hl, hb, fun _ => rfl⟩, fun v t H' B' μ' _ _ r e => ?_, fun _ _ _ _ _ _ h => h.elim⟩
  subst e
  obtain rfl := r
  exact k H'
end
end Rh

namespace Rh
open PySem PySem.Spec PyProof.Rows L2
/-! ## 24. From what the top has written to all defs -/
/-- a def as it stands, with what it binds -/
structure DefF (K : PySem.W.Frag) (i : FnI) (qual : Str) (st : Stmt) (f : Addr) (fd : FuncData) (ps : List Str) : Prop where
  ex : ∃ (oc : Value) (od : Option Addr) (dV kV doc pm : Value) (an : Option Addr) (cdv ct : Value) (osl : Array (Option Value)),
    fd = PySem.W.fnOf i.name qual (defArgs st) (defBody st) (defScope st) dV kV doc pm an cdv ct ∧ K.lookup f = some ⟨oc, od, .func fd, osl⟩ ∧ PySem.W.codeIn K cdv qual = true
  kp : PySem.W.keepIn K (.ref f) = true
  bi : ∀ nd, nd ≤ i.dfl.length → ∃ ds, Binds K fd ps ds ∧ Vals ((i.rest nd).map V.int) ds
section
variable {K : PySem.W.Frag} {i : FnI} {qual : Str} {st : Stmt} {f : Addr} {ps : List Str}
theorem def0 {oc : Value} {od an : Option Addr} {osl : Array (Option Value)} {kV doc pm cdv ct : Value} (hd : i.dfl = []) (l : K.lookup f = some ⟨oc, od, .func (PySem.W.fnOf i.name qual (defArgs st) (defBody st) (defScope st) .none kV doc pm an cdv ct), osl⟩)
    (c : PySem.W.codeIn K cdv qual = true) (k : PySem.W.keepIn K (.ref f) = true)
    (h : ∀ (kV doc pm : Value) (an : Option Addr) (cdv ct : Value) (us : List Value), us.length = ps.length → bindArgs (PySem.W.fnOf i.name qual (defArgs st) (defBody st) (defScope st) .none kV doc pm an cdv ct) ⟨us, []⟩ = pure (ps.zip us)) :
    DefF K i qual st f (PySem.W.fnOf i.name qual (defArgs st) (defBody st) (defScope st) .none kV doc pm an cdv ct) ps :=
  ⟨⟨oc, od, .none, kV, doc, pm, an, cdv, ct, osl, rfl, l, c⟩, k, fun nd hn => ⟨[], .all (h kV doc pm an cdv ct), by
    unfold FnI.rest
    rw [hd, List.drop_nil]
    exact .nil⟩⟩
theorem def1 {oc oc2 : Value} {od an od2 : Option Addr} {osl osl2 : Array (Option Value)} {kV doc pm cdv ct : Value} {Td : Addr} {d : Int} {n : Nat} {tk : Tok} (hd : i.dfl = [d]) (l : K.lookup f = some ⟨oc, od, .func (PySem.W.fnOf i.name qual (defArgs st) (defBody st) (defScope st) (.ref Td) kV doc pm an cdv ct), osl⟩)
    (c : PySem.W.codeIn K cdv qual = true) (k : PySem.W.keepIn K (.ref f) = true) (lt : K.lookup Td = some ⟨oc2, od2, .seq [Value.int d tk].toArray n, osl2⟩)
    (h0 : ∀ (T : Addr) (kV doc pm : Value) (an : Option Addr) (cdv ct : Value) (us its : List Value), us.length = ps.length → its.length = 1 → ∃ k, bindArgs (PySem.W.fnOf i.name qual (defArgs st) (defBody st) (defScope st) (.ref T) kV doc pm an cdv ct) ⟨us, []⟩ = seqItems? (.ref T) >>= k ∧ k (some its.toArray) = pure (ps.zip (us ++ [])))
    (h1 : ∀ (T : Addr) (kV doc pm : Value) (an : Option Addr) (cdv ct : Value) (us its : List Value), us.length + 1 = ps.length → its.length = 1 → ∃ k, bindArgs (PySem.W.fnOf i.name qual (defArgs st) (defBody st) (defScope st) (.ref T) kV doc pm an cdv ct) ⟨us, []⟩ = seqItems? (.ref T) >>= k ∧ k (some its.toArray) = pure (ps.zip (us ++ its))) :
    DefF K i qual st f (PySem.W.fnOf i.name qual (defArgs st) (defBody st) (defScope st) (.ref Td) kV doc pm an cdv ct) ps :=
  ⟨⟨oc, od, .ref Td, kV, doc, pm, an, cdv, ct, osl, rfl, l, c⟩, k, fun nd hn => by
    unfold FnI.rest
    rw [hd] at hn ⊢
    rcases Nat.le_one_iff_eq_zero_or_eq_one.mp hn with rfl | rfl
    · refine ⟨[], fun s us X hl => BindsTo.of_looks fun M => ?_, .nil⟩
      rw [List.append_nil] at hl
      obtain ⟨kk, e1, e2⟩ := h0 Td kV doc pm an cdv ct us [Value.int d tk] hl rfl
      rw [e1]
      exact looks_items X lt rfl (.of_pure e2)
    · refine ⟨[Value.int d tk], fun s us X hl => BindsTo.of_looks fun M => ?_, .cons ⟨tk, rfl⟩ .nil⟩
      rw [List.length_append] at hl
      obtain ⟨kk, e1, e2⟩ := h1 Td kV doc pm an cdv ct us [Value.int d tk] hl rfl
      rw [e1]
      exact looks_items X lt rfl (.of_pure e2)⟩
end
section
variable {G : Tab} {Γ : Nat → TSp} {L : Lay} {P : Program} {w : World} {K : PySem.W.Frag} {mg : Str → Option Value} {base : Heap}
/-- the text of the table is in order -/
structure TabOk (G : Tab) : Prop where
  hcl : ∀ f i d, G.fn f = some i → i.cls = some d → ∃ ci, G.cl d = some ci
  hfl : ∀ d f, f ∈ G.flds d → ∃ ci, G.cl d = some ci
/-- what the text's check says of a def -/
structure ChkF (G : Tab) (m : Nat) (i : FnI) (st : Stmt) (N ps : List Str) (core : List Sx) : Prop where
  S : FnScope N ps (defScope st)
  np : ps.length = i.np
  lv : 0 < i.lvl
  ck : chkSs G ⟨N, defScope st, i.lvl - 1, m, false, false⟩ core (defBody st) = true
theorem step (T : TabOk G) {m : Nat} {i : FnI} {st : Stmt} {N ps : List Str} {core : List Sx} {qual : Str} {f : Addr} {fd : FuncData} (g : GOk G Γ L m P w K mg base) (hi : G.fn m = some i) (C : ChkF G m i st N ps core) (D : DefF K i qual st f fd ps)
    (body : ∀ ts μ F R, Γ m ts μ F R → denSs G Γ core (bodyD R F) (startT N.length ts) μ) (hg : i.cls = none → mg i.name = some (.ref f)) (hm : ∀ c, i.cls = some c → Meth K (L.addr c) i.name f) : GOk G Γ L (m + 1) P w K mg base :=
  ⟨fun n j hn e => by
      rcases Nat.lt_or_eq_of_le (Nat.le_of_lt_succ hn) with h | rfl
      · exact g.fn n j h e
      · rw [hi] at e
        cases e
        obtain ⟨oc, od, dV, kV, doc, pm, an, cdv, ct, osl, rfl, lk, hcd⟩ := D.ex
        refine ⟨f, _, ps, ?_, D.kp, D.bi, hg, hm⟩
        have := fn_okD T.hcl T.hfl lk hcd C.S C.np C.ck g body
        rwa [Nat.sub_add_cancel C.lv] at this, g.cl, g.ex, g.bl, g.con, g.fl, g.ki, g.kc, g.su⟩
theorem skip {m : Nat} (g : GOk G Γ L m P w K mg base) {n : Nat} (h : ∀ k, m ≤ k → k < n → G.fn k = none) : GOk G Γ L n P w K mg base :=
  ⟨fun k j hn e => (by
      rcases Nat.lt_or_ge k m with q | q
      · exact g.fn k j q e
      · rw [h k q hn] at e
        cases e), g.cl, g.ex, g.bl, g.con, g.fl, g.ki, g.kc, g.su⟩
end
theorem walkT {l : PySem.W.OpenLaw} {k : Nat} {q : Program} {loose : List Str} {XP : (Str → Option Value) → Heap → Prop} {YP : World → Heap → Prop} {d : DefRec} {K : Params → PySem.W.Frag} {x : Str} (hn : l.most = some 63) (hdf : d.params.defaults = []) (hr : Room k callerA)
    (hY : ∀ (w : World) (h : Heap), YP w h → (K w.params).In h)
    (F : ∀ (w : World) (mg : Str → Option Value) (fa : Addr) (h : Heap), (K w.params).In h → h.Ns mainGlobals mg → mg d.name = some (.ref fa) →
      ∃ fd : FuncData, (∀ (s : Shared) (u : Value), BindsTo s fd ⟨[u], []⟩ [(x, u)]) ∧ ∀ base : Heap, (K w.params).In base → base.Ns mainGlobals mg → ∃ L, FnOk l.prog w (K w.params) mg base (L2.CX l.prog w) k fa fd [x] (spOf (K w.params) L 1 sLawT)) :
    PySem.W.WalkO q loose XP YP l.row.toRowW d [] (fun f vs => PySem.call f vs) :=
  L2.walk_ofB (n := 63) (x := x) (CX := fun w => L2.CX l.prog w) (sp := fun w => spLawT (K w.params)) hn (by decide) hdf hr hY (fun w mg fa h KX Gn hm => by
    obtain ⟨fd, hb, hF⟩ := F w mg fa h KX Gn hm
    exact ⟨fd, hb, fun base hK hN => by
      obtain ⟨L, hL⟩ := hF base hK hN
      exact hL.imp fun vs H Q E h => law_sp h⟩) (fun _ _ a ns hl hb _ hS => ⟨a, ns, rfl, hS, hl, hb, fun _ => rfl⟩) fun _ _ _ _ _ ⟨_, _, _, _, _, _, _, _, _, _, _, _, z⟩ => z
theorem kit_of {K : PySem.W.Frag} {A B : Addr} {b : Bool} (h1 : PySem.W.subIn K (.ref A) (.ref B) = some b) (h2 : PySem.W.subIn K (.ref A) (.ref A) = some true) (h3 : PySem.W.hasDictIn K B = true) (h4 : PySem.W.typeIn K (.ref B) = some (.type "type")) : PySem.W.kitOne K (.ref A) (.ref B) = some b := by
  unfold PySem.W.kitOne
  by_cases e : A = B
  · subst e
    rw [if_pos (by simp), ← h2, h1]
  · rw [if_neg (fun z => e (by simpa using z))]
    obtain ⟨cd, hc, _⟩ := PySem.W.any_some h3
    have e2 : ((PySem.W.clsIn K B).isSome && PySem.W.typeIn K (.ref B) == some (.type "type")) = true := by rw [hc, h4] <;> rfl
    show (if _ = true then PySem.W.subIn K (.ref A) (.ref B) else none) = _
    rw [if_pos e2]
    exact h1
theorem kit_ve {K : PySem.W.Frag} {A : Addr} (h1 : PySem.W.subIn K (.ref A) (.type "ValueError") = some true) : PySem.W.kitOne K (.ref A) (.type "ValueError") = some true := by
  unfold PySem.W.kitOne
  rw [if_neg (by intro z; cases z)]
  show (if PySem.W.kitMeta "ValueError" = true then PySem.W.subIn K (.ref A) (.type "ValueError") else none) = some true
  rw [if_pos (show PySem.W.kitMeta "ValueError" = true by decide +kernel)]
  exact h1
end Rh

namespace Rh
open PySem PySem.Spec PyProof.Rows L2
/-! ## 25. Tools for what a body means -/
section
variable {G : Tab} {Γ : Nat → TSp} {s : Sx} {r : List Sx} {D : SEnds} {ρ : Ro} {μ : Sto}
theorem e_cons (h : denS G Γ s { D with nx := fun ρ' μ' => denSs G Γ r D ρ' μ' } ρ μ) : denSs G Γ (s :: r) D ρ μ := h
theorem nil_den : denSs G Γ [] D ρ μ = D.nx ρ μ := rfl
theorem e_nil (h : D.nx ρ μ) : denSs G Γ [] D ρ μ := h
theorem xp_mk {n : Ro → Sto → Prop} {r : RP} {b c : Ro → Sto → Prop} {e : Nat → Ro → Sto → Prop} {ρ : Ro} : SEnds.xp ⟨n, r, b, c, e⟩ ρ = fun x μ => e x ρ μ := rfl
theorem fin_id {R : RP} {t : T} (h : R t μ) : fin_ R t μ := ⟨t, μ, .refl _ _, h⟩
theorem fin_sub {R : RP} {t : T} (μ' : Sto) (s : Sub μ' μ) (h : R t μ') : fin_ R t μ := ⟨t, μ', .drop s, h⟩
theorem Sub.set_none {p : Addr} {o : Ob} (h : μ p = Option.none) : Sub μ (μ.set p o) := fun q o' e => by
  unfold Sto.set
  split
  · rename_i z
    subst z
    rw [h] at e
    cases e
  · exact e
theorem e_ife {c : Ex} {a b : List Sx} (h : (den G Γ c).2 ρ μ (D.xp ρ) fun k μ1 => if k = true then denSs G Γ a D ρ μ1 else denSs G Γ b D ρ μ1) : denS G Γ (.ife c a b) D ρ μ := by
  rw [denS]
  exact ⟨D.nx, fun ρ' μ' h => ⟨ρ', μ', .refl _ _, h⟩, h⟩
theorem e_join {c : Ex} {a b : List Sx} (J : Ro → Sto → Prop) (hJ : ∀ ρ' μ', J ρ' μ' → D.nx ρ' μ') (h : (den G Γ c).2 ρ μ (D.xp ρ) fun k μ1 => if k = true then denSs G Γ a { D with nx := J } ρ μ1 else denSs G Γ b { D with nx := J } ρ μ1) : denS G Γ (.ife c a b) D ρ μ := by
  rw [denS]
  exact ⟨J, fun ρ' μ' h => ⟨ρ', μ', .refl _ _, hJ ρ' μ' h⟩, h⟩
theorem e_while {c : Ex} {body : List Sx} (I : Nat → Ro → Sto → Prop) (m : Nat) (h0 : I m ρ μ) (h : ∀ m ρ μ, I m ρ μ → (den G Γ c).2 ρ μ (D.xp ρ) fun k μ1 => if k = true then
    denSs G Γ body { D with nx := fun ρ2 μ2 => ∃ ρ3 μ3 m', Wk ρ2 μ2 ρ3 μ3 ∧ m' < m ∧ I m' ρ3 μ3, ct := fun ρ2 μ2 => ∃ ρ3 μ3 m', Wk ρ2 μ2 ρ3 μ3 ∧ m' < m ∧ I m' ρ3 μ3, bk := D.nx } ρ μ1 else D.nx ρ μ1) : denS G Γ (.while_ c body) D ρ μ := by
  rw [denS]
  exact ⟨I, ⟨m, h0⟩, h⟩
theorem set_self {p : Addr} {o : Ob} : (μ.set p o) p = some o := by unfold Sto.set; simp
theorem set_ne {p q : Addr} {o : Ob} (h : q ≠ p) : (μ.set p o) q = μ q := by unfold Sto.set; simp [h]
theorem set_set {p : Addr} {o o' : Ob} : (μ.set p o).set p o' = μ.set p o' := by
  funext q
  unfold Sto.set
  split <;> rfl
theorem set_same {p : Addr} {o : Ob} (h : μ p = some o) : μ.set p o = μ := by
  funext q
  unfold Sto.set
  split
  · rename_i z; subst z; exact h.symm
  · rfl
theorem set_comm {p q : Addr} {o o' : Ob} (h : p ≠ q) : (μ.set p o).set q o' = (μ.set q o').set p o := by
  funext x
  unfold Sto.set
  by_cases h1 : x = q <;> by_cases h2 : x = p <;> simp [h1, h2]
  · subst h1; subst h2; exact absurd rfl h
  · subst h1; intro z; exact absurd z h2
  · subst h2; intro z; exact absurd z h1
theorem nofr {p q : Addr} {o : Ob} (h : μ p = some o) (h2 : μ q = Option.none) : p ≠ q := fun z => by subst z; rw [h] at h2; cases h2
end
theorem iK_int_NoneType : (["int"] : List String).any (isT "NoneType") = false := by decide
theorem iK_int_bool : (["int"] : List String).any (isT "bool") = true := by decide
theorem iK_int_int : (["int"] : List String).any (isT "int") = true := by decide
theorem iK_int_str : (["int"] : List String).any (isT "str") = false := by decide
theorem iK_int_tuple : (["int"] : List String).any (isT "tuple") = false := by decide
theorem iK_int_list : (["int"] : List String).any (isT "list") = false := by decide
theorem iK_int_dict : (["int"] : List String).any (isT "dict") = false := by decide
theorem iK_bool_NoneType : (["bool"] : List String).any (isT "NoneType") = false := by decide
theorem iK_bool_bool : (["bool"] : List String).any (isT "bool") = true := by decide
theorem iK_bool_int : (["bool"] : List String).any (isT "int") = false := by decide
theorem iK_bool_str : (["bool"] : List String).any (isT "str") = false := by decide
theorem iK_bool_tuple : (["bool"] : List String).any (isT "tuple") = false := by decide
theorem iK_bool_list : (["bool"] : List String).any (isT "list") = false := by decide
theorem iK_bool_dict : (["bool"] : List String).any (isT "dict") = false := by decide
theorem iK_str_NoneType : (["str"] : List String).any (isT "NoneType") = false := by decide
theorem iK_str_bool : (["str"] : List String).any (isT "bool") = false := by decide
theorem iK_str_int : (["str"] : List String).any (isT "int") = false := by decide
theorem iK_str_str : (["str"] : List String).any (isT "str") = true := by decide
theorem iK_str_tuple : (["str"] : List String).any (isT "tuple") = false := by decide
theorem iK_str_list : (["str"] : List String).any (isT "list") = false := by decide
theorem iK_str_dict : (["str"] : List String).any (isT "dict") = false := by decide
theorem iK_list_NoneType : (["list"] : List String).any (isT "NoneType") = false := by decide
theorem iK_list_bool : (["list"] : List String).any (isT "bool") = false := by decide
theorem iK_list_int : (["list"] : List String).any (isT "int") = false := by decide
theorem iK_list_str : (["list"] : List String).any (isT "str") = false := by decide
theorem iK_list_tuple : (["list"] : List String).any (isT "tuple") = false := by decide
theorem iK_list_list : (["list"] : List String).any (isT "list") = true := by decide
theorem iK_list_dict : (["list"] : List String).any (isT "dict") = false := by decide
theorem iK_tuple_NoneType : (["tuple"] : List String).any (isT "NoneType") = false := by decide
theorem iK_tuple_bool : (["tuple"] : List String).any (isT "bool") = false := by decide
theorem iK_tuple_int : (["tuple"] : List String).any (isT "int") = false := by decide
theorem iK_tuple_str : (["tuple"] : List String).any (isT "str") = false := by decide
theorem iK_tuple_tuple : (["tuple"] : List String).any (isT "tuple") = true := by decide
theorem iK_tuple_list : (["tuple"] : List String).any (isT "list") = false := by decide
theorem iK_tuple_dict : (["tuple"] : List String).any (isT "dict") = false := by decide
theorem iK_dict_NoneType : (["dict"] : List String).any (isT "NoneType") = false := by decide
theorem iK_dict_bool : (["dict"] : List String).any (isT "bool") = false := by decide
theorem iK_dict_int : (["dict"] : List String).any (isT "int") = false := by decide
theorem iK_dict_str : (["dict"] : List String).any (isT "str") = false := by decide
theorem iK_dict_tuple : (["dict"] : List String).any (isT "tuple") = false := by decide
theorem iK_dict_list : (["dict"] : List String).any (isT "list") = false := by decide
theorem iK_dict_dict : (["dict"] : List String).any (isT "dict") = true := by decide
theorem is_non {μ : Sto} : isStr μ .non = some "NoneType" := rfl
theorem is_bl {μ : Sto} {b : Bool} : isStr μ (.bl b) = some "bool" := rfl
theorem is_int {μ : Sto} {i : Int} : isStr μ (.int i) = some "int" := rfl
theorem is_str {μ : Sto} {i : Str} : isStr μ (.str i) = some "str" := rfl
theorem is_tup {μ : Sto} {i : List T} : isStr μ (.tup i) = some "tuple" := rfl
theorem is_lst {μ : Sto} {i : List T} : isStr μ (.lst i) = some "list" := rfl
theorem is_own {μ : Sto} {p : Addr} : isStr μ (.own p) = match μ p with | some (.lst _) => some "list" | some (.dict _) => some "dict" | _ => Option.none := rfl
theorem at_nn {α : Type} {xs : List α} {i : Int} (h : 0 ≤ i) : atI xs i = xs[i.toNat]? := by
  unfold atI ixN
  rw [if_pos h]
  split
  · rfl
  · rename_i z
    rw [List.getElem?_eq_none (by omega)]
    rfl
theorem at_0 {α : Type} {xs : List α} : atI xs 0 = xs[0]? := at_nn (by decide)
theorem at_1 {α : Type} {xs : List α} : atI xs 1 = xs[1]? := at_nn (by decide)
theorem at_2 {α : Type} {xs : List α} : atI xs 2 = xs[2]? := at_nn (by decide)
theorem at_3 {α : Type} {xs : List α} : atI xs 3 = xs[3]? := at_nn (by decide)
theorem at_4 {α : Type} {xs : List α} : atI xs 4 = xs[4]? := at_nn (by decide)
theorem at_nat {α : Type} {xs : List α} {n : Nat} : atI xs (n : Int) = xs[n]? := at_nn (by omega)
theorem at_last {α : Type} {xs : List α} {y : α} : atI (xs ++ [y]) (-1) = some y := atI_last xs y
theorem at_map {α : Type} {xs : List α} {f : α → T} {i : Int} {v : α} (h : 0 ≤ i) (e : xs[i.toNat]? = some v) : atI (xs.map f) i = some (f v) := by
  rw [at_nn h, List.getElem?_map, e]
  rfl
theorem scr_inj {ns ms : List Int} : (T.scr (ns.map T.int) = T.scr (ms.map T.int)) = (ns = ms) := by
  apply propext
  constructor
  · intro h
    injection h with h
    exact (List.map_inj_right (fun _ _ e => by injection e)).mp h
  · intro h
    rw [h]
theorem cdiv_lit {i j : Int} (h : 0 < j) (h2 : j < 10000000000000000000000000000000000000000) : CDivW i j = True := eq_true ⟨h, Nat.lt_of_le_of_lt (m := 140) (by
  have : j.natAbs < 2 ^ 140 := Nat.lt_of_lt_of_le (by omega : j.natAbs < 10000000000000000000000000000000000000000) (by decide)
  exact Nat.le_of_lt ((Nat.log2_lt (by omega)).mpr this)) (by decide)⟩
theorem mul_litR {i j : Int} (h : 0 ≤ j) (h2 : j < 18446744073709551616) : MulOk i j = True := eq_true (.inl (.inr ⟨by omega, h2⟩))
theorem mul_litL {i j : Int} (h : 0 ≤ i) (h2 : i < 18446744073709551616) : MulOk i j = True := eq_true (.inl (.inl ⟨by omega, h2⟩))
end Rh

namespace Rh
open PySem PySem.Spec PyProof.Rows L2
/-! ## 26. How long numbers are -/
def Bt (n : Nat) (a : Int) : Prop := a.natAbs < 2 ^ n
theorem Bt.mono {m n : Nat} {a : Int} (h : Bt m a) (e : m ≤ n) : Bt n a := Nat.lt_of_lt_of_le h (Nat.pow_le_pow_right (by decide) e)
theorem Bt.mul {m n : Nat} {a b : Int} (h : Bt m a) (k : Bt n b) : Bt (m + n) (a * b) := by
  unfold Bt at *
  rw [Int.natAbs_mul, Nat.pow_add]
  exact Nat.mul_lt_mul'' h k
theorem Bt.add {n : Nat} {a b : Int} (h : Bt n a) (k : Bt n b) : Bt (n + 1) (a + b) := by
  unfold Bt at *
  have := Int.natAbs_add_le a b
  rw [Nat.pow_succ]
  omega
theorem Bt.neg {n : Nat} {a : Int} (h : Bt n a) : Bt n (-a) := by
  unfold Bt at *
  rwa [Int.natAbs_neg]
theorem Bt.sub {n : Nat} {a b : Int} (h : Bt n a) (k : Bt n b) : Bt (n + 1) (a - b) := by
  rw [Int.sub_eq_add_neg]
  exact h.add k.neg
theorem Bt.le {n : Nat} {a b : Int} (h : Bt n b) (h0 : 0 ≤ a) (h1 : a ≤ b) : Bt n a := by
  unfold Bt at *
  omega
theorem Bt.of_lt {n : Nat} {a b : Int} (h : Bt n b) (h0 : 0 ≤ a) (h1 : a < b) : Bt n a := h.le h0 (by omega)
theorem Bt.mod {n : Nat} {a b : Int} (h : Bt n b) (h0 : 0 < b) : Bt n (a % b) := h.of_lt (Int.emod_nonneg _ (by omega)) (Int.emod_lt_of_pos _ h0)
theorem Bt.div {n : Nat} {a b : Int} (h : Bt n a) (h0 : 0 ≤ a) (h1 : 0 ≤ b) : Bt n (a / b) := h.le (Int.ediv_nonneg h0 h1) (Int.ediv_le_self _ h0)
theorem Bt.log {n : Nat} {a : Int} (h : Bt n a) : a.natAbs.log2 ≤ n := by
  by_cases h0 : a.natAbs = 0
  · rw [h0]
    exact Nat.zero_le _
  · exact Nat.le_of_lt ((Nat.log2_lt h0).mpr h)
theorem Bt.log' {n : Nat} {a : Int} (h : Bt n a) (h0 : 0 < a) : a.natAbs.log2 < n := (Nat.log2_lt (by omega)).mpr h
theorem Bt.mulOk {m n : Nat} {a b : Int} (h : Bt m a) (k : Bt n b) (e : m + n < 1000000) : MulOk a b := .inr (by
  have := h.log
  have := k.log
  unfold CMulW
  omega)
theorem Bt.divOk {n : Nat} {b : Int} (k : Bt n b) (h0 : 0 < b) (e : n ≤ 9000) (a : Int) : CDivW a b := ⟨h0, Nat.lt_of_lt_of_le (k.log' h0) e⟩
theorem divLit {a b : Int} (h : (0 < b ∧ b.natAbs.log2 < 9000) := by decide) : CDivW a b := h
theorem Bt.gcd {n : Nat} {a b : Int} (h : Bt n a) (h2 : Bt n b) : Bt n (Int.gcd a b) := by
  unfold Bt at *
  have e : ((Int.gcd a b : Nat) : Int).natAbs = Nat.gcd a.natAbs b.natAbs := rfl
  rw [e]
  rcases Nat.eq_zero_or_pos a.natAbs with z | z
  · rw [z, Nat.gcd_zero_left]; exact h2
  · exact Nat.lt_of_le_of_lt (Nat.gcd_le_left _ z) h
theorem gcd_step {a b : Int} (ha : 0 ≤ a) (hb : 0 ≤ b) : Int.gcd b (a % b) = Int.gcd a b := by
  obtain ⟨x, rfl⟩ := Int.eq_ofNat_of_zero_le ha
  obtain ⟨y, rfl⟩ := Int.eq_ofNat_of_zero_le hb
  rw [← Int.natCast_emod]
  show Nat.gcd y (x % y) = Nat.gcd x y
  rw [Nat.gcd_comm, ← Nat.gcd_rec, Nat.gcd_comm]
theorem gcd_pos {a b : Int} (h : a ≠ 0 ∨ b ≠ 0) : 0 < (Int.gcd a b : Int) := by
  have : Int.gcd a b ≠ 0 := fun z => by
    rw [Int.gcd_eq_zero_iff] at z
    rcases h with h | h
    · exact h z.1
    · exact h z.2
  omega
/-- the cell of a script -/
def cel (ns : List Int) (k : Int) : Int := (ns[k.toNat]?).getD 0
/-! ## 27. Loops by places -/
section
variable {g : Tg} {body : SEnds → Ro → Sto → Prop} {us : List T} {gd : Sto → Prop} {D : SEnds} {ρ : Ro} {μ : Sto}
theorem for_idx (I : Nat → Ro → Sto → Prop) (h0 : I 0 ρ μ) (h1 : ∀ ρ μ, I us.length ρ μ → gd μ ∧ D.nx ρ μ) (h2 : ∀ k t ρ μ, us[k]? = some t → I k ρ μ → gd μ ∧ bindT g t ρ μ fun ρ' =>
    body { D with nx := fun ρ2 μ2 => ∃ ρ3 μ3, Wk ρ2 μ2 ρ3 μ3 ∧ I (k + 1) ρ3 μ3, ct := fun ρ2 μ2 => ∃ ρ3 μ3, Wk ρ2 μ2 ρ3 μ3 ∧ I (k + 1) ρ3 μ3, bk := D.nx } ρ' μ) : forD g body us gd D ρ μ := by
  refine ⟨fun r ρ μ => (r.length ≤ us.length ∧ r = us.drop (us.length - r.length)) ∧ I (us.length - r.length) ρ μ, ⟨⟨Nat.le_refl _, by simp⟩, by simpa using h0⟩, fun ρ μ h => h1 ρ μ (by simpa using h.2), fun t r ρ μ h => ?_⟩
  obtain ⟨⟨hl, hd⟩, hI⟩ := h
  simp only [List.length_cons] at hl hd hI
  have e1 : us[us.length - (r.length + 1)]? = some t := by
    have := congrArg (fun l : List T => l[0]?) hd
    simpa [List.getElem?_drop] using this.symm
  have e2 : us.length - r.length = us.length - (r.length + 1) + 1 := by omega
  have e3 : r = us.drop (us.length - r.length) := by
    have := congrArg List.tail hd
    simp only [List.tail_cons, List.tail_drop] at this
    rwa [e2]
  have e4 : (fun (ρ2 : Ro) (μ2 : Sto) => ∃ ρ3 μ3, Wk ρ2 μ2 ρ3 μ3 ∧ (r.length ≤ us.length ∧ r = us.drop (us.length - r.length)) ∧ I (us.length - r.length) ρ3 μ3) = fun ρ2 μ2 => ∃ ρ3 μ3, Wk ρ2 μ2 ρ3 μ3 ∧ I (us.length - (r.length + 1) + 1) ρ3 μ3 := by
    funext ρ2 μ2
    have : (r.length ≤ us.length ∧ r = us.drop (us.length - r.length)) = True := eq_true ⟨by omega, e3⟩
    rw [this, e2]
    simp only [true_and]
  rw [e4]
  exact h2 _ t ρ μ e1 hI
theorem for_map {α : Type} {xs : List α} {f : α → T} (I : Nat → Ro → Sto → Prop) (h0 : I 0 ρ μ) (h1 : ∀ ρ μ, I xs.length ρ μ → gd μ ∧ D.nx ρ μ) (h2 : ∀ k x ρ μ, xs[k]? = some x → I k ρ μ → gd μ ∧ bindT g (f x) ρ μ fun ρ' =>
    body { D with nx := fun ρ2 μ2 => ∃ ρ3 μ3, Wk ρ2 μ2 ρ3 μ3 ∧ I (k + 1) ρ3 μ3, ct := fun ρ2 μ2 => ∃ ρ3 μ3, Wk ρ2 μ2 ρ3 μ3 ∧ I (k + 1) ρ3 μ3, bk := D.nx } ρ' μ) : forD g body (xs.map f) gd D ρ μ :=
  for_idx I h0 (fun ρ μ h => h1 ρ μ (by simpa using h)) fun k t ρ μ e h => by
    rw [List.getElem?_map] at e
    cases q : xs[k]? with
    | none => rw [q] at e; cases e
    | some x =>
      rw [q] at e
      cases e
      exact h2 k x ρ μ q h
theorem for_rng {n : Nat} {f : Nat → T} (I : Nat → Ro → Sto → Prop) (h0 : I 0 ρ μ) (h1 : ∀ ρ μ, I n ρ μ → gd μ ∧ D.nx ρ μ) (h2 : ∀ k ρ μ, k < n → I k ρ μ → gd μ ∧ bindT g (f k) ρ μ fun ρ' =>
    body { D with nx := fun ρ2 μ2 => ∃ ρ3 μ3, Wk ρ2 μ2 ρ3 μ3 ∧ I (k + 1) ρ3 μ3, ct := fun ρ2 μ2 => ∃ ρ3 μ3, Wk ρ2 μ2 ρ3 μ3 ∧ I (k + 1) ρ3 μ3, bk := D.nx } ρ' μ) : forD g body ((List.range n).map f) gd D ρ μ :=
  for_map I h0 (fun ρ μ h => h1 ρ μ (by simpa using h)) fun k x ρ μ e h => by
    have hk : k < n := by
      have := (List.getElem?_eq_some_iff.mp e).1
      simpa using this
    rw [List.getElem?_range hk] at e
    cases e
    exact h2 k ρ μ hk h
theorem comp_pure {own : Bool} {vs : List Nat} {cond elt : TEx × TTe} {R : RP} {ts : List T} (c : T → Bool) (f : T → T) (hg : gd μ) (hl : ts.length ≤ sizeLine)
    (h : ∀ t ∈ ts, ∀ (Y : T → Sto → Prop) (N : Sto → Prop), (c t = true → Y (f t) μ) → (c t = false → N μ) → bindT g t (wipeT ρ vs) μ fun ρ' => cond.2 ρ' μ noX fun b μ3 => if b = true then elt.1 ρ' μ3 noX fun y μ4 => Y y μ4 else N μ3)
    (hR : newL own ((ts.filter c).map f) μ R) : compD own vs g cond elt ρ R ts gd μ := by
  refine ⟨fun acc r μ2 => μ2 = μ ∧ ∃ k, r = ts.drop k ∧ acc = ((ts.take k).filter c).map f ∧ acc.length ≤ k, ⟨rfl, 0, rfl, rfl, Nat.le_refl _⟩, ?_, ?_⟩
  · rintro acc μ2 ⟨rfl, k, e1, rfl, _⟩
    refine ⟨hg, ?_⟩
    have : ts.take k = ts := List.take_of_length_le (List.drop_eq_nil_iff.mp e1.symm)
    rwa [this]
  · rintro acc t r μ2 ⟨rfl, k, e1, rfl, hk⟩
    refine ⟨hg, ?_⟩
    have hk2 : k < ts.length := by
      have := congrArg List.length e1
      simp at this
      omega
    have e2 : ts[k]? = some t := by
      have := congrArg (fun l : List T => l[0]?) e1
      simpa [List.getElem?_drop] using this.symm
    have e3 : r = ts.drop (k + 1) := by
      have := congrArg List.tail e1
      simpa [List.tail_drop] using this
    have e4 : ts.take (k + 1) = ts.take k ++ [t] := by
      rw [List.take_add_one, e2]
      rfl
    refine h t (List.mem_of_getElem? e2) _ _ (fun hc => ⟨by omega, f t, _, .refl _ _, rfl, k + 1, e3, ?_, ?_⟩) fun hc => ⟨rfl, k + 1, e3, ?_, by omega⟩
    · rw [e4, List.filter_append, List.map_append]
      simp [hc]
    · simp only [List.length_append, List.length_cons, List.length_nil]
      omega
    · rw [e4, List.filter_append, List.map_append]
      simp [hc]
end
end Rh

namespace Rh
open PySem PySem.Spec PyProof.Rows L2
/-! ## 28. Things compared -/
class Tt (α : Type) [DecidableEq α] where
  tt : α → T
  dd : α → PyData
  ok : α → Prop
  lv : Nat
  dat : ∀ (μ : Sto) n x, lv < n → dat μ n (tt x) = some (dd x)
  eqv : ∀ x y, PyData.eqv (dd x) (dd y) = decide (x = y)
  lay : ∀ x, ok x → (dd x).canLay0 = true
  dep : ∀ x, (dd x).depth ≤ lv
theorem beqd {α : Type} [BEq α] [LawfulBEq α] [DecidableEq α] (a b : α) : (a == b) = decide (a = b) := by
  rw [Bool.eq_iff_iff, beq_iff_eq, decide_eq_true_eq]
instance : Tt Int where
  tt := .int
  dd := .int
  ok _ := True
  lv := 0
  dat μ n x h := by cases n with | zero => cases h | succ n => rfl
  eqv a b := by simp only [PyData.eqv]; exact beqd a b
  lay _ _ := rfl
  dep _ := Nat.le_refl _
instance : Tt Bool where
  tt := .bl
  dd := .bool
  ok _ := True
  lv := 0
  dat μ n x h := by cases n with | zero => cases h | succ n => rfl
  eqv a b := by simp only [PyData.eqv]; exact beqd a b
  lay _ _ := rfl
  dep _ := Nat.le_refl _
def sOk (s : Str) : Prop := s.cps.all (· < 0x110000) = true
instance : Tt Str where
  tt := .str
  dd := .str
  ok := sOk
  lv := 0
  dat μ n x h := by cases n with | zero => cases h | succ n => rfl
  eqv a b := by simp only [PyData.eqv]; exact beqd a b
  lay _ h := h
  dep _ := Nat.le_refl _
section
variable {α β : Type} [DecidableEq α] [Tt α] [DecidableEq β] [Tt β]
theorem dat_all {μ : Sto} {n : Nat} : ∀ xs : List α, Tt.lv α < n → (xs.map Tt.tt).mapM (dat μ n) = some (xs.map Tt.dd)
  | [], _ => rfl
  | x :: xs, h => by
    rw [List.map_cons, List.mapM_cons, Tt.dat μ n x h, dat_all xs h]
    rfl
theorem eqv_all : ∀ xs ys : List α, PyData.eqvAll (xs.map Tt.dd) (ys.map Tt.dd) = decide (xs = ys)
  | [], [] => by simp only [List.map_nil, PyData.eqvAll, decide_true]
  | [], _ :: _ => by simp [PyData.eqvAll]
  | _ :: _, [] => by simp [PyData.eqvAll]
  | x :: xs, y :: ys => by
    rw [List.map_cons, List.map_cons, PyData.eqvAll, Tt.eqv x y, eqv_all xs ys, ← Bool.decide_and]
    exact decide_eq_decide.mpr (by rw [List.cons.injEq])
theorem lay_all : ∀ xs : List α, (∀ x ∈ xs, Tt.ok x) → PyData.canLayAll0 (xs.map Tt.dd) = true
  | [], _ => rfl
  | x :: xs, h => by
    rw [List.map_cons, PyData.canLayAll0, Tt.lay x (h x List.mem_cons_self), lay_all xs fun y hy => h y (List.mem_cons_of_mem _ hy)]
    rfl
theorem dep_all : ∀ xs : List α, PyData.depthAll (xs.map Tt.dd) ≤ Tt.lv α
  | [] => Nat.zero_le _
  | x :: xs => by
    rw [List.map_cons, PyData.depthAll]
    exact Nat.max_le.mpr ⟨Tt.dep x, dep_all xs⟩
instance : Tt (List α) where
  tt xs := .lst (xs.map Tt.tt)
  dd xs := .list (xs.map Tt.dd)
  ok xs := ∀ x ∈ xs, Tt.ok x
  lv := Tt.lv α + 1
  dat μ n xs h := by
    cases n with
    | zero => cases h
    | succ n =>
      rw [Rh.dat, dat_all xs (by omega)]
      rfl
  eqv xs ys := by simp only [PyData.eqv]; exact eqv_all xs ys
  lay xs h := by simp only [PyData.canLay0]; exact lay_all xs h
  dep xs := by simp only [PyData.depth]; exact Nat.succ_le_succ (dep_all xs)
/-- a tuple of things of one type -/
structure Tp (α : Type) where
  items : List α
  deriving DecidableEq
instance : Tt (Tp α) where
  tt t := .tup (t.items.map Tt.tt)
  dd t := .tuple (t.items.map Tt.dd)
  ok t := ∀ x ∈ t.items, Tt.ok x
  lv := Tt.lv α + 1
  dat μ n t h := by
    cases n with
    | zero => cases h
    | succ n =>
      rw [Rh.dat, dat_all t.items (by omega)]
      rfl
  eqv t u := by
    simp only [PyData.eqv]
    rw [eqv_all]
    exact decide_eq_decide.mpr ⟨fun e => by cases t; cases u; exact congrArg Tp.mk e, fun e => by rw [e]⟩
  lay t h := by simp only [PyData.canLay0]; exact lay_all t.items h
  dep t := by simp only [PyData.depth]; exact Nat.succ_le_succ (dep_all t.items)
instance : Tt (α × β) where
  tt p := .tup [Tt.tt p.1, Tt.tt p.2]
  dd p := .tuple [Tt.dd p.1, Tt.dd p.2]
  ok p := Tt.ok p.1 ∧ Tt.ok p.2
  lv := max (Tt.lv α) (Tt.lv β) + 1
  dat μ n p h := by
    cases n with
    | zero => cases h
    | succ n =>
      have h1 := Nat.le_max_left (Tt.lv α) (Tt.lv β)
      have h2 := Nat.le_max_right (Tt.lv α) (Tt.lv β)
      rw [Rh.dat, List.mapM_cons, List.mapM_cons, Tt.dat μ n p.1 (by omega), Tt.dat μ n p.2 (by omega)]
      rfl
  eqv p q := by
    simp only [PyData.eqv, PyData.eqvAll]
    rw [Tt.eqv, Tt.eqv, Bool.and_true, ← Bool.decide_and]
    exact decide_eq_decide.mpr ⟨fun e => Prod.ext e.1 e.2, fun e => by rw [e]; exact ⟨rfl, rfl⟩⟩
  lay p h := by simp only [PyData.canLay0, PyData.canLayAll0, Tt.lay p.1 h.1, Tt.lay p.2 h.2, Bool.and_self]
  dep p := by
    simp only [PyData.depth, PyData.depthAll]
    exact Nat.succ_le_succ (Nat.max_le.mpr ⟨Nat.le_trans (Tt.dep p.1) (Nat.le_max_left _ _), Nat.max_le.mpr ⟨Nat.le_trans (Tt.dep p.2) (Nat.le_max_right _ _), Nat.zero_le _⟩⟩)
/-- a thing that is told by a tree, wherever it lies -/
def Has (μ : Sto) (t : T) (x : α) : Prop := dat μ 6 t = some (Tt.dd x) ∧ Tt.ok x ∧ Tt.lv α ≤ 5
theorem Has.of {μ : Sto} {x : α} (h : Tt.ok x) (hl : Tt.lv α ≤ 5 := by decide) : Has μ (Tt.tt x) x := ⟨Tt.dat μ 6 x (by omega), h, hl⟩
theorem Has.own {μ : Sto} {p : Addr} {xs : List α} {ts : List T} (e : μ p = some (.lst ts)) (et : ts = xs.map Tt.tt) (h : ∀ x ∈ xs, Tt.ok x) (hl : Tt.lv α ≤ 4 := by decide) : Has μ (.own p) xs := by
  refine ⟨?_, h, Nat.succ_le_succ hl⟩
  rw [dat, e, et]
  dsimp only
  rw [dat_all xs (by omega)]
  rfl
theorem Has.shaped {μ : Sto} {t : T} {x : α} (h : Has μ t x) : SeqAt.shaped (Tt.dd x) = true := by
  unfold SeqAt.shaped
  rw [Tt.lay x h.2.1, Bool.true_and, decide_eq_true_eq]
  exact Nat.le_trans (Tt.dep x) (by have := h.2.2; omega)
theorem eq_has {μ : Sto} {t u : T} {x y : α} (neg : Bool) (R : RP) (h1 : Has μ t x) (h2 : Has μ u y) (hs : scalT t u = none) (h : R (.bl (if neg then !decide (x = y) else decide (x = y))) μ) : tEq neg t u μ R := by
  unfold tEq
  rw [hs]
  refine ⟨_, h1.1, h1.shaped, _, h2.1, h2.shaped, ?_⟩
  show R (.bl (if neg = true then !(PyData.eqv (Tt.dd x) (Tt.dd y)) else PyData.eqv (Tt.dd x) (Tt.dd y))) μ
  rw [Tt.eqv]
  exact h
theorem eq_hasE {μ : Sto} {t u : T} {x y : α} {neg : Bool} {R : RP} (h1 : Has μ t x) (h2 : Has μ u y) (hs : scalT t u = none) : tEq neg t u μ R = R (.bl (if neg = true then !decide (x = y) else decide (x = y))) μ := by
  apply propext
  constructor
  · intro h
    unfold tEq at h
    rw [hs] at h
    obtain ⟨d, e1, _, e, e2, _, h⟩ := h
    rw [h1.1] at e1
    rw [h2.1] at e2
    cases e1
    cases e2
    rw [Tt.eqv] at h
    exact h
  · exact eq_has neg R h1 h2 hs
theorem any_eqv : ∀ (xs : List α) (x : α), ((xs.map Tt.dd).any fun z => PyData.eqv z (Tt.dd x)) = decide (x ∈ xs)
  | [], x => by simp
  | y :: ys, x => by
    rw [List.map_cons, List.any_cons, Tt.eqv, any_eqv ys x, ← Bool.decide_or]
    exact decide_eq_decide.mpr (by rw [List.mem_cons]; exact ⟨fun h => h.imp Eq.symm id, fun h => h.imp Eq.symm id⟩)
theorem in_has {μ : Sto} {t u : T} {x : α} {xs : List α} (neg : Bool) (R : RP) (hd : isDict μ u = false) (hu : ∃ us, slst μ u = some us ∨ vlst μ u = some us) (h1 : Has μ t x) (h2 : Has μ u xs) (h : R (.bl (if neg then !decide (x ∈ xs) else decide (x ∈ xs))) μ) : tIn neg t u μ R := by
  have key : onD μ t fun d => ∃ ds, dat μ 6 u = some (.list ds) ∧ SeqAt.shaped (.list ds) = true ∧ R (.bl (if neg then !(ds.any fun z => PyData.eqv z d) else ds.any fun z => PyData.eqv z d)) μ := by
    refine ⟨_, h1.1, h1.shaped, xs.map Tt.dd, h2.1, h2.shaped, ?_⟩
    rw [any_eqv]
    exact h
  obtain ⟨us, hu⟩ := hu
  unfold tIn
  cases u with
  | str s => rcases hu with h | h <;> cases h
  | tup s => rcases hu with h | h <;> cases h
  | _ => simp only [hd]; exact key
end
theorem eq_int {neg : Bool} {a b : Int} {μ : Sto} {R : RP} : tEq neg (.int a) (.int b) μ R = R (.bl (if neg = true then !decide (a = b) else decide (a = b))) μ := rfl
theorem eq_str {neg : Bool} {a b : Str} {μ : Sto} {R : RP} : tEq neg (.str a) (.str b) μ R = R (.bl (if neg = true then !decide (a = b) else decide (a = b))) μ := rfl
theorem eq_bl {neg : Bool} {a b : Bool} {μ : Sto} {R : RP} : tEq neg (.bl a) (.bl b) μ R = R (.bl (if neg = true then !decide (a = b) else decide (a = b))) μ := rfl
theorem eq_in {neg : Bool} {a : Int} {μ : Sto} {R : RP} : tEq neg (.int a) .non μ R = R (.bl (if neg = true then true else false)) μ := by cases neg <;> rfl
theorem eq_tup2 {neg : Bool} {a b c d : Int} {μ : Sto} {R : RP} : tEq neg (.tup [.int a, .int b]) (.tup [.int c, .int d]) μ R = R (.bl (if neg = true then !decide (a = c ∧ b = d) else decide (a = c ∧ b = d))) μ := by
  have := @eq_hasE (Int × Int) _ _ μ (.tup [.int a, .int b]) (.tup [.int c, .int d]) (a, b) (c, d) neg R (Has.of (x := ((a, b) : Int × Int)) ⟨trivial, trivial⟩) (Has.of (x := ((c, d) : Int × Int)) ⟨trivial, trivial⟩) rfl
  rw [this]
  simp only [Prod.mk.injEq]
theorem in_str {neg : Bool} {a b : Str} {μ : Sto} {R : RP} : tIn neg (.str a) (.str b) μ R = R (.bl (if neg = true then !strIn a b else strIn a b)) μ := by
  simp [tIn]
theorem emod_nn {a b : Int} (h : 0 < b) : (0 ≤ a % b) = True := eq_true (Int.emod_nonneg _ (by omega))
theorem emod_lt {a b : Int} (h : 0 < b) : (a % b < b) = True := eq_true (Int.emod_lt_of_pos _ h)
theorem nat_nn {n : Nat} : (0 ≤ (n : Int)) = True := eq_true (by omega)
theorem sz : sizeLine = 16777216 := rfl
/-! ## 29. A fresh list given back: one's own, or at rest -/
def retL (us : List T) (μ : Sto) (R : RP) : Prop := (∀ p, μ p = none → R (.own p) (μ.set p (.lst us))) ∨ R (.lst us) μ
theorem fin_retL {us : List T} {μ : Sto} {R : RP} {p : Addr} (h : retL us μ R) (hp : μ p = none) : fin_ R (.own p) (μ.set p (.lst us)) := by
  rcases h with h | h
  · exact fin_id (h p hp)
  · exact ⟨.lst us, μ, ⟨[p], .own set_self (List.mem_singleton.mpr rfl) (.refl _), Sub.set_none hp, fun q hq => by cases List.mem_singleton.mp hq; exact hp⟩, h⟩
theorem own_dict {μ : Sto} {p : Addr} {ts : List T} (h : μ p = some (.lst ts)) : isDict μ (.own p) = false := by
  unfold isDict
  simp only [h]
theorem own_slst {μ : Sto} {p : Addr} {ts : List T} (h : μ p = some (.lst ts)) : slst μ (.own p) = some ts := by
  unfold slst
  simp only [h]
theorem in_own {α : Type} [DecidableEq α] [Tt α] {μ : Sto} {p : Addr} {t : T} {x : α} {xs : List α} {neg : Bool} {R : RP} {ts : List T} (e : μ p = some (.lst ts)) (et : ts = xs.map Tt.tt) (hx : Has μ t x) (h : ∀ x ∈ xs, Tt.ok x) (k : R (.bl (if neg then !decide (x ∈ xs) else decide (x ∈ xs))) μ) (hl : Tt.lv α ≤ 4 := by decide) : tIn neg t (.own p) μ R :=
  in_has neg R (own_dict e) ⟨_, .inl (own_slst e)⟩ hx (Has.own e et h hl) k
theorem eq_ints {neg : Bool} {xs ys : List Int} {μ : Sto} {R : RP} : tEq neg (.lst (xs.map T.int)) (.lst (ys.map T.int)) μ R = R (.bl (if neg = true then !decide (xs = ys) else decide (xs = ys))) μ :=
  @eq_hasE (List Int) _ _ μ (.lst (xs.map T.int)) (.lst (ys.map T.int)) xs ys neg R (Has.of (x := (xs : List Int)) fun _ _ => trivial) (Has.of (x := (ys : List Int)) fun _ _ => trivial) rfl
/-- a list, wherever it lies -/
def LstAt (μ : Sto) (t : T) (us : List T) : Prop := t = .lst us ∨ ∃ p, t = .own p ∧ μ p = some (.lst us)
theorem LstAt.lst {μ : Sto} {us : List T} : LstAt μ (.lst us) us := .inl rfl
theorem LstAt.own {μ : Sto} {us : List T} {p : Addr} (h : μ p = some (.lst us)) : LstAt μ (.own p) us := .inr ⟨p, rfl, h⟩
theorem LstAt.set {μ : Sto} {t : T} {us : List T} {p : Addr} {o : Ob} (h : LstAt μ t us) (hp : μ p = Option.none) : LstAt (μ.set p o) t us := by
  rcases h with rfl | ⟨q, rfl, e⟩
  · exact .lst
  · exact .own (by rw [set_ne (nofr e hp)]; exact e)
theorem idx_at {μ : Sto} {t y : T} {us : List T} {R : RP} (h : LstAt μ t us) : tIdx t y μ R = ∃ i x, y = .int i ∧ atI us i = some x ∧ R x μ := by
  rcases h with rfl | ⟨p, rfl, e⟩
  · simp only [tIdx, isDict, onL, vlst, Option.some.injEq, exists_eq_left']
  · simp only [tIdx, isDict, onL, vlst, e, Option.some.injEq, exists_eq_left']
theorem len_at {μ : Sto} {t : T} {us : List T} {R : RP} (h : LstAt μ t us) : tLen t μ R = R (.int us.length) μ := by
  rcases h with rfl | ⟨p, rfl, e⟩
  · simp only [tLen, onL, vlst, Option.some.injEq, exists_eq_left']
  · simp only [tLen, onL, vlst, e, Option.some.injEq, exists_eq_left']
theorem is_at {μ : Sto} {t : T} {us : List T} (h : LstAt μ t us) : isStr μ t = some "list" := by
  rcases h with rfl | ⟨p, rfl, e⟩
  · rfl
  · rw [is_own]
    simp only [e]
def cnt (cs : List Int) (i : Int) : Int := (cs[i.toNat]?).getD 0
theorem at_cnt {cs : List Int} {i : Int} (h : 0 ≤ i) (h2 : i < cs.length) : atI (cs.map T.int) i = some (.int (cnt cs i)) := by
  refine at_map h ?_
  unfold cnt
  rw [List.getElem?_eq_getElem (by omega)]
  rfl
/-! ## 30. The shapes one by one -/
section
variable {μ : Sto} {R : RP} {y : T} {ts us : List T} {p : Addr} {z w : Str} {i j : Int}
theorem ix_tup : tIdx (.tup ts) y μ R = ∃ i t, y = .int i ∧ atI ts i = some t ∧ R t μ := rfl
theorem ix_lst : tIdx (.lst ts) y μ R = ∃ i t, y = .int i ∧ atI ts i = some t ∧ R t μ := idx_at .lst
theorem ix_scr : tIdx (.scr ts) y μ R = ∃ i t, y = .int i ∧ atI ts i = some t ∧ R t μ := by simp only [tIdx, isDict, onL, vlst, Option.some.injEq, exists_eq_left']
theorem ix_str : tIdx (.str z) y μ R = ∃ i c, y = .int i ∧ z.length ≤ sizeLine ∧ atI z.cps.toList i = some c ∧ R (.str ⟨#[c]⟩) μ := rfl
theorem ix_own : tIdx (.own p) y μ R = match isDict μ (.own p) with | true => onK μ (.own p) fun kvs _ => ∃ k t, keyT y = some k ∧ valT kvs k = some t ∧ R t μ | false => onL μ (.own p) fun ts => ∃ i t, y = .int i ∧ atI ts i = some t ∧ R t μ := rfl
theorem ln_str : tLen (.str z) μ R = (z.length ≤ sizeLine ∧ R (.int z.length) μ) := rfl
theorem ln_tup : tLen (.tup ts) μ R = R (.int ts.length) μ := rfl
theorem ln_lst : tLen (.lst ts) μ R = R (.int ts.length) μ := len_at .lst
theorem ln_scr : tLen (.scr ts) μ R = R (.int ts.length) μ := by simp only [tLen, onL, vlst, Option.some.injEq, exists_eq_left']
theorem ln_own : tLen (.own p) μ R = onL μ (.own p) fun ts => R (.int ts.length) μ := rfl
theorem dc_own : isDict μ (.own p) = match μ p with | some (.dict _) => true | _ => false := rfl
theorem dc_lst : isDict μ (.lst ts) = false := rfl
theorem dc_scr : isDict μ (.scr ts) = false := rfl
theorem vl_lst : vlst μ (.lst ts) = some ts := rfl
theorem vl_scr : vlst μ (.scr ts) = some ts := rfl
theorem vl_own : vlst μ (.own p) = match μ p with | some (.lst ts) => some ts | _ => Option.none := rfl
theorem sl_lst : slst μ (.lst ts) = some ts := rfl
theorem sl_own : slst μ (.own p) = match μ p with | some (.lst ts) => some ts | _ => Option.none := rfl
theorem ad_int {o : Bool} : tAdd o (.int i) (.int j) μ R = R (.int (i + j)) μ := rfl
theorem ad_str {o : Bool} : tAdd o (.str z) (.str w) μ R = (z.length + w.length ≤ sizeLine ∧ R (.str (z ++ w)) μ) := rfl
theorem ad_tup {o : Bool} : tAdd o (.tup ts) (.tup us) μ R = (ts ≠ [] ∧ us ≠ [] ∧ ts.length + us.length ≤ sizeLine ∧ R (.tup (ts ++ us)) μ) := rfl
theorem ml_int {o : Bool} : tMulO o (.int i) (.int j) μ R = (MulOk i j ∧ R (.int (i * j)) μ) := rfl
theorem slc_lst {o : Bool} {lo hi : Option Int} : tSlice o (.lst us) lo hi μ R = newL o (cutT us lo hi) μ R := by simp only [tSlice, onL, vlst, Option.some.injEq, exists_eq_left']
theorem slc_scr {o : Bool} {lo hi : Option Int} : tSlice o (.scr us) lo hi μ R = newL o (cutT us lo hi) μ R := by simp only [tSlice, onL, vlst, Option.some.injEq, exists_eq_left']
theorem ml_str {o : Bool} : tMulO o (.str z) (.int i) μ R = (0 ≤ i ∧ i < 16777216 ∧ z.length * i.toNat ≤ sizeLine ∧ R (.str (Txt.mul z i)) μ) := rfl
theorem ml_lst {o : Bool} {xs : List T} : tMulO o (.lst xs) (.int i) μ R = (i < 2 ^ 62 ∧ -(2 ^ 62) ≤ i ∧ xs.length * i.toNat ≤ sizeLine ∧ newL o (List.replicate i.toNat xs).flatten μ R) := by
  simp only [tMulO, onS, slst, Option.some.injEq, exists_eq_left']
theorem tr_non {k : Bool → Prop} : truT μ .non k = k false := rfl
theorem tr_bl {k : Bool → Prop} {b : Bool} : truT μ (.bl b) k = k b := rfl
theorem tr_int {k : Bool → Prop} : truT μ (.int i) k = k (i != 0) := rfl
theorem tr_str {k : Bool → Prop} : truT μ (.str z) k = (z.length ≤ sizeLine ∧ k ((z.length : Int) != 0)) := rfl
theorem tr_tup {k : Bool → Prop} : truT μ (.tup ts) k = k (!ts.isEmpty) := rfl
theorem tr_lst {k : Bool → Prop} : truT μ (.lst ts) k = k (!ts.isEmpty) := by simp only [truT, isDict, onL, vlst, Option.some.injEq, exists_eq_left']
theorem tr_own {k : Bool → Prop} : truT μ (.own p) k = match isDict μ (.own p) with | true => onK μ (.own p) fun kvs _ => k (!kvs.isEmpty) | false => onL μ (.own p) fun ts => k (!ts.isEmpty) := rfl
theorem ag_add : tAugO .Add (.int i) (.int j) μ R = R (.int (i + j)) μ := rfl
theorem ag_sub : tAugO .Sub (.int i) (.int j) μ R = R (.int (i - j)) μ := rfl
theorem up_tup : unp μ (.tup ts) = some ts := rfl
theorem up_lst : unp μ (.lst ts) = some ts := rfl
theorem up_own : unp μ (.own p) = vlst μ (.own p) := rfl
theorem bt_nm {k : Ro → Prop} {n : Nat} {t : T} {ρ : Ro} : bindT (.nm n) t ρ μ k = k (ρ.set n (some t)) := rfl
theorem bt_tup {k : Ro → Prop} {gs : List Tg} {t : T} {ρ : Ro} : bindT (.tup gs) t ρ μ k = ∃ ts, unp μ t = some ts ∧ ts.length = gs.length ∧ bindTs gs ts ρ μ k := rfl
end
theorem rc_join {μ : Sto} {x : T} : rcv .join μ x = ∃ z, x = .str z := rfl
theorem rc_split {μ : Sto} {x : T} : rcv .split μ x = ∃ z, x = .str z := rfl
theorem rc_part {μ : Sto} {x : T} : rcv .partition μ x = ∃ z, x = .str z := rfl
theorem rc_starts {μ : Sto} {x : T} : rcv .startswith μ x = ∃ z, x = .str z := rfl
theorem rc_append {μ : Sto} {x : T} : rcv .append μ x = ∃ us, vlst μ x = some us := rfl
theorem rc_pop {μ : Sto} {x : T} : rcv .pop μ x = ∃ us, vlst μ x = some us := rfl
theorem rc_popAt {μ : Sto} {x : T} : rcv .popAt μ x = ∃ us, vlst μ x = some us := rfl
theorem rc_extend {μ : Sto} {x : T} : rcv .extend μ x = ∃ us, vlst μ x = some us := rfl
theorem rc_index {μ : Sto} {x : T} : rcv .index μ x = ∃ us, vlst μ x = some us := rfl
theorem rc_insert {μ : Sto} {x : T} : rcv .insert μ x = ∃ us, vlst μ x = some us := rfl
theorem rc_remove {μ : Sto} {x : T} : rcv .remove μ x = ∃ us, vlst μ x = some us := rfl
theorem rc_count {μ : Sto} {x : T} : rcv .count μ x = ∃ us, vlst μ x = some us := rfl
theorem onG_at {μ : Sto} {t : T} {us : List T} {k : List T → (Sto → Prop) → Prop} (h : LstAt μ t us) (hk : ∀ gd : Sto → Prop, (∀ μ', LstAt μ' t us → gd μ') → k us gd) : onG μ t k := by
  rcases h with rfl | ⟨p, rfl, e⟩
  · exact hk _ fun _ _ => trivial
  · refine ⟨us, e, hk _ fun μ' h => ?_⟩
    rcases h with h | ⟨q, h, e'⟩
    · cases h
    · cases h
      exact e'
theorem vl_at {μ : Sto} {t : T} {us : List T} (h : LstAt μ t us) : vlst μ t = some us := by
  rcases h with rfl | ⟨p, rfl, e⟩
  · rfl
  · rw [vl_own, e]
theorem sl_at {μ : Sto} {t : T} {us : List T} (h : LstAt μ t us) : slst μ t = some us := by
  rcases h with rfl | ⟨p, rfl, e⟩
  · rfl
  · rw [sl_own, e]
theorem dc_at {μ : Sto} {t : T} {us : List T} (h : LstAt μ t us) : isDict μ t = false := by
  rcases h with rfl | ⟨p, rfl, e⟩
  · rfl
  · rw [dc_own, e]
theorem slc_at {μ : Sto} {t : T} {us : List T} {own : Bool} {lo hi : Option Int} {R : RP} (h : LstAt μ t us) : tSlice own t lo hi μ R = newL own (cutT us lo hi) μ R := by
  rcases h with rfl | ⟨p, rfl, e⟩
  · simp only [tSlice, onL, vlst, Option.some.injEq, exists_eq_left']
  · simp only [tSlice, onL, vlst, e, Option.some.injEq, exists_eq_left']
theorem ad_lst {o : Bool} {ts us : List T} {μ : Sto} {R : RP} : tAdd o (.lst ts) (.lst us) μ R = (ts.length + us.length ≤ sizeLine ∧ newL o (ts ++ us) μ R) := by
  simp only [tAdd, onS, slst, Option.some.injEq, exists_eq_left']
theorem lst_at {μ : Sto} {t : T} {us : List T} {R : RP} {own : Bool} (h : LstAt μ t us) : tBif .list own [t] μ R = newL own us μ R := by
  rcases h with rfl | ⟨p, rfl, e⟩
  · simp only [tBif, onL, vlst, Option.some.injEq, exists_eq_left']
  · simp only [tBif, onL, vlst, e, Option.some.injEq, exists_eq_left']
theorem cut_to {us : List T} {i : Int} (h0 : 0 ≤ i) (h : i.toNat ≤ us.length) : cutT us none (some i) = us.take i.toNat := by
  obtain ⟨n, rfl⟩ := Int.eq_ofNat_of_zero_le h0
  rw [Int.toNat_natCast] at h ⊢
  unfold cutT
  rw [HT.sIx_none, HT.sIx_nat, List.drop_zero, Nat.sub_zero, Nat.min_eq_left h]
theorem cut_from {us : List T} {i : Int} (h0 : 0 ≤ i) (h : i.toNat ≤ us.length) : cutT us (some i) none = us.drop i.toNat := by
  obtain ⟨n, rfl⟩ := Int.eq_ofNat_of_zero_le h0
  rw [Int.toNat_natCast] at h ⊢
  unfold cutT
  rw [HT.sIx_none, HT.sIx_nat, Nat.min_eq_left h]
  exact List.take_of_length_le (by rw [List.length_drop]; omega)
theorem set_parts {α : Type} {us : List α} {n : Nat} {x : α} (h : n < us.length) : us.take n ++ [x] ++ us.drop (n + 1) = us.set n x := by
  rw [List.set_eq_take_append_cons_drop, if_pos h, List.append_assoc]
  rfl
theorem Has.lat {α : Type} [DecidableEq α] [Tt α] {μ : Sto} {t : T} {xs : List α} {ts : List T} (h : LstAt μ t ts) (et : ts = xs.map Tt.tt) (ok : ∀ x ∈ xs, Tt.ok x) (hl : Tt.lv α ≤ 4 := by decide) : Has μ t xs := by
  rcases h with rfl | ⟨p, rfl, e⟩
  · subst et
    exact ⟨Tt.dat μ 6 xs (Nat.lt_of_le_of_lt (Nat.succ_le_succ hl) (by decide)), ok, Nat.succ_le_succ hl⟩
  · exact Has.own e et ok hl
theorem scal_at {μ : Sto} {t u : T} {ts us : List T} (h : LstAt μ t ts) (k : LstAt μ u us) : scalT t u = none := by
  rcases h with rfl | ⟨p, rfl, e⟩ <;> rcases k with rfl | ⟨q, rfl, e2⟩ <;> rfl
theorem eq_at {α : Type} [DecidableEq α] [Tt α] {μ : Sto} {t u : T} {ts us : List T} {neg : Bool} {R : RP} (xs ys : List α) (h : LstAt μ t ts) (k : LstAt μ u us) (e1 : ts = xs.map Tt.tt) (e2 : us = ys.map Tt.tt) (o1 : ∀ x ∈ xs, Tt.ok x) (o2 : ∀ x ∈ ys, Tt.ok x) (hl : Tt.lv α ≤ 4 := by decide) :
    tEq neg t u μ R = R (.bl (if neg = true then !decide (xs = ys) else decide (xs = ys))) μ := eq_hasE (Has.lat h e1 o1 hl) (Has.lat k e2 o2 hl) (scal_at h k)
theorem eq_atI {μ : Sto} {t u : T} {neg : Bool} {R : RP} {xs ys : List Int} (h : LstAt μ t (xs.map T.int)) (k : LstAt μ u (ys.map T.int)) : tEq neg t u μ R = R (.bl (if neg = true then !decide (xs = ys) else decide (xs = ys))) μ :=
  eq_at xs ys h k rfl rfl (fun _ _ => trivial) (fun _ _ => trivial)
theorem fin_retG {us : List T} {μ μ' : Sto} {R : RP} {q : Addr} (h : retL us μ R) (hq : μ q = Option.none) (e : μ' q = some (.lst us)) (s : Sub (μ.set q (.lst us)) μ') : fin_ R (.own q) μ' := by
  rcases h with h | h
  · exact fin_sub _ s (h q hq)
  · refine ⟨.lst us, μ, ⟨[q], .own e (List.mem_singleton.mpr rfl) (.refl _), fun a o z => ?_, fun a ha => by cases List.mem_singleton.mp ha; exact hq⟩, h⟩
    exact s a o (by rw [set_ne (fun y => by subst y; rw [hq] at z; cases z)]; exact z)
theorem Sub.under {μ : Sto} {p q : Addr} {o o' : Ob} (hp : μ p = Option.none) (hne : p ≠ q) : Sub (μ.set q o) ((μ.set p o').set q o) := fun a ob e => by
  by_cases h : a = q
  · subst h
    rw [set_self] at e ⊢
    exact e
  · rw [set_ne h] at e ⊢
    rw [set_ne (fun y => by subst y; rw [hp] at e; cases e)]
    exact e
theorem set4 {μ : Sto} {p q : Addr} {a b a' b' : Ob} (h : p ≠ q) : (((μ.set p a).set q b).set p a').set q b' = (μ.set p a').set q b' := by
  rw [set_comm (p := q) (q := p) h.symm, set_set, set_set]
theorem ixN_nn {n : Nat} {i : Int} (h : 0 ≤ i) (h2 : i < n) : ixN n i = some i.toNat := by
  unfold ixN
  rw [if_pos h, if_pos h2]
theorem e_wk {G : Tab} {Γ : Nat → TSp} {r : List Sx} {D : SEnds} {ρ ρ' : Ro} {μ μ' : Sto} (w : Wk ρ μ ρ' μ') (h : denSs G Γ r D ρ' μ') : denSs G Γ (.wk :: r) D ρ μ := ⟨ρ', μ', w, h⟩
theorem Left.one {μ : Sto} {p : Addr} {o : Ob} (h : μ p = Option.none) : Left (μ.set p o) [p] μ := ⟨Sub.set_none h, fun a ha => by cases List.mem_singleton.mp ha; exact h⟩
theorem View.one {μ : Sto} {p : Addr} {us : List T} : View (μ.set p (.lst us)) [p] (.own p) (.lst us) := .own set_self (List.mem_singleton.mpr rfl) (.refl _)
theorem map_erase {α β : Type} (f : α → β) (l : List α) (n : Nat) : (l.map f).eraseIdx n = (l.eraseIdx n).map f := by
  induction l generalizing n with
  | nil => rfl
  | cons a r ih =>
    cases n with
    | zero => rfl
    | succ n => simp [ih]
section
variable {μ : Sto} {R : RP} {x y z : T} {ts us : List T} {p : Addr} {w b : Str} {i j : Int} {o : Bool}
theorem bf_len : tBif .len o [x] μ R = tLen x μ R := rfl
theorem bf_sum : tBif .sum o [x] μ R = onL μ x fun us => ∃ ns : List Int, us = ns.map T.int ∧ R (.int ns.sum) μ := rfl
theorem bf_max2 : tBif .max2 o [x, y] μ R = ∃ i j, x = .int i ∧ y = .int j ∧ R (.int (if j > i then j else i)) μ := rfl
theorem bf_min2 : tBif .min2 o [x, y] μ R = ∃ i j, x = .int i ∧ y = .int j ∧ R (.int (if j < i then j else i)) μ := rfl
theorem bf_max3 : tBif .max3 o [x, y, z] μ R = ∃ i j k, x = .int i ∧ y = .int j ∧ z = .int k ∧ R (.int (max3 i j k)) μ := rfl
theorem bf_max1 : tBif .max1 o [x] μ R = onL μ x fun us => ∃ ns : List Int, us = ns.map T.int ∧ 0 < ns.length ∧ ∀ m, m ∈ ns → (∀ y, y ∈ ns → y ≤ m) → R (.int m) μ := rfl
theorem bf_min1 : tBif .min1 o [x] μ R = onL μ x fun us => ∃ ns : List Int, us = ns.map T.int ∧ 0 < ns.length ∧ ∀ m, m ∈ ns → (∀ y, y ∈ ns → m ≤ y) → R (.int m) μ := rfl
theorem bf_min3 : tBif .min3 o [x, y, z] μ R = ∃ i j k, x = .int i ∧ y = .int j ∧ z = .int k ∧ R (.int (min3 i j k)) μ := rfl
theorem bf_list_tup : tBif .list o [.tup us] μ R = newL o us μ R := rfl
theorem bf_list_lst : tBif .list o [.lst us] μ R = newL o us μ R := lst_at .lst
theorem bf_list_scr : tBif .list o [.scr us] μ R = newL o us μ R := by simp only [tBif, onL, vlst, Option.some.injEq, exists_eq_left']
theorem bf_list_own : tBif .list o [.own p] μ R = onL μ (.own p) fun us => newL o us μ R := rfl
theorem bf_tuple_tup : tBif .tuple o [.tup us] μ R = R (.tup us) μ := rfl
theorem bf_tuple_lst : tBif .tuple o [.lst us] μ R = onL μ (.lst us) fun us => R (.tup us) μ := rfl
theorem bf_tuple_own : tBif .tuple o [.own p] μ R = onL μ (.own p) fun us => R (.tup us) μ := rfl
theorem bf_sorted : tBif .sorted o [x] μ R = match isDict μ x with
    | true => onK μ x fun kvs _ => ∃ ks : List Int, kvs.map (·.1) = ks.map Sum.inl ∧ ks.length < 64 ∧ ∀ ys : List Int, ys.Perm ks → ys.Pairwise (· ≤ ·) → newL o (ys.map T.int) μ R
    | false => onL μ x fun us => ∃ ns : List Int, us = ns.map T.int ∧ ∀ ys : List Int, ys.Perm ns → ys.Pairwise (· ≤ ·) → newL o (ys.map T.int) μ R := rfl
theorem bf_all : tBif .all o [x] μ R = onL μ x fun us => ∃ bs : List Bool, us = bs.map T.bl ∧ R (.bl (bs.all id)) μ := rfl
theorem bf_any : tBif .any o [x] μ R = onL μ x fun us => ∃ bs : List Bool, us = bs.map T.bl ∧ R (.bl (bs.any id)) μ := rfl
theorem bf_str : tBif .str o [.int i] μ R = (i.natAbs.log2 < 1920 ∧ R (.str (toString i)) μ) := rfl
theorem bf_int : tBif .int o [.int i] μ R = R (.int i) μ := rfl
theorem bf_intb {c : Bool} : tBif .int o [.bl c] μ R = R (.int (if c then 1 else 0)) μ := rfl
theorem lm_append : tLm .append x [y] μ R = onM μ x fun ts p => ts.length < sizeLine ∧ R .non (μ.set p (.lst (ts ++ [y]))) := rfl
theorem lm_pop : tLm .pop x [] μ R = onM μ x fun ts p => ∃ y, ts[ts.length - 1]? = some y ∧ R y (μ.set p (.lst ts.dropLast)) := rfl
theorem lm_popAt : tLm .popAt x [.int i] μ R = onM μ x fun ts p => ∃ k y, -(2 ^ 63) ≤ i ∧ i < 2 ^ 63 ∧ seqIndex? i ts.length = some k ∧ ts[k]? = some y ∧ R y (μ.set p (.lst (ts.eraseIdx k))) := rfl
theorem lm_extend : tLm .extend x [y] μ R = onM μ x fun ts p => onS μ y fun us => ts.length + us.length ≤ sizeLine ∧ R .non (μ.set p (.lst (ts ++ us))) := rfl
theorem lm_index : tLm .index x [y] μ R = onL μ x fun ts => ∃ j z, flatT y = true ∧ ts.all flatT = true ∧ ts[j]? = some z ∧ eqT z y = true ∧ (∀ (n : Nat) (z' : T), n < j → ts[n]? = some z' → eqT z' y = false) ∧ R (.int (j : Nat)) μ := rfl
theorem lm_insert : tLm .insert x [.int i, y] μ R = onM μ x fun ts p => ts.length < sizeLine ∧ 0 ≤ i ∧ i < 2 ^ 63 ∧ R .non (μ.set p (.lst (ts.take i.toNat ++ [y] ++ ts.drop i.toNat))) := rfl
theorem lm_join : tLm .join x [y] μ R = ∃ a, ∃ ys : List Str, x = .str a ∧ (vlst μ y = some (ys.map T.str) ∨ y = .tup (ys.map T.str)) ∧ (ys.map (·.length)).sum + ys.length * a.length ≤ 16777216 ∧ R (.str (Txt.join a ys)) μ := rfl
theorem lm_split : tLm .split x [.str b] μ R = ∃ a, x = .str a ∧ (b.length == 0) = false ∧ a.length + 2 ≤ sizeLine ∧ R (.lst ((Txt.split a b).map T.str)) μ := rfl
theorem lm_part : tLm .partition x [.str b] μ R = ∃ a, x = .str a ∧ (b.length == 0) = false ∧ a.length ≤ sizeLine ∧ R (.tup [.str (Txt.partition a b).1, .str (Txt.partition a b).2.1, .str (Txt.partition a b).2.2]) μ := rfl
theorem lm_starts : tLm .startswith x [.str b] μ R = ∃ a, x = .str a ∧ R (.bl (Txt.startswith a b)) μ := rfl
theorem lm_count : tLm .count x [.int i] μ R = onL μ x fun ts => ∃ ns : List Int, ts = ns.map T.int ∧ R (.int (ns.count i : Nat)) μ := rfl
theorem lm_remove : tLm .remove x [.int i] μ R = onM μ x fun ts p => ∃ (ns : List Int) (j : Nat), ts = ns.map T.int ∧ ns[j]? = some i ∧ (∀ m : Nat, m < j → ns[m]? ≠ some i) ∧ R .non (μ.set p (.lst ((ns.eraseIdx j).map T.int))) := rfl
end
/-! ## 31. Texts by their signs -/
def sgs (s : Str) : List Nat := s.cps.toList
theorem sgs_len {s : Str} : s.length = (sgs s).length := (Array.length_toList).symm
theorem sgs_app {s t : Str} : sgs (s ++ t) = sgs s ++ sgs t := TL.tl_append s t
theorem sgs_one {c : Nat} : sgs ⟨#[c]⟩ = [c] := rfl
theorem sgs_to {s : Str} {i : Int} (h0 : 0 ≤ i) (h : i.toNat ≤ s.length) : sgs (cutS s none (some i)) = (sgs s).take i.toNat := by
  obtain ⟨n, rfl⟩ := Int.eq_ofNat_of_zero_le h0
  rw [Int.toNat_natCast] at h ⊢
  unfold cutS sgs
  rw [HT.sIx_none, HT.sIx_nat, List.drop_zero, Nat.sub_zero, Nat.min_eq_left h]
theorem sgs_from {s : Str} {i : Int} (h0 : 0 ≤ i) (h : i.toNat ≤ s.length) : sgs (cutS s (some i) none) = (sgs s).drop i.toNat := by
  obtain ⟨n, rfl⟩ := Int.eq_ofNat_of_zero_le h0
  rw [Int.toNat_natCast] at h ⊢
  unfold cutS sgs
  rw [HT.sIx_none, HT.sIx_nat, Nat.min_eq_left h]
  exact List.take_of_length_le (by rw [List.length_drop, Array.length_toList]; exact Nat.le_refl _)
theorem sgs_join : ∀ ys : List Str, sgs (Txt.join "" ys) = (ys.map sgs).flatten := fun ys => by
  rw [TL.join_eq]
  show TL.tl (Str.join "" ys) = _
  rw [TL.tl_join]
  have e : TL.tl ("" : Str) = [] := by decide
  rw [e]
  have key : ∀ l : List (List Nat), TL.joinL [] l = l.flatten := fun l => by
    induction l with
    | nil => rfl
    | cons p r ih =>
      cases r with
      | nil => simp [TL.joinL]
      | cons q r => rw [TL.joinL, ih]; simp
  exact key _
theorem sn_Empty : ("Empty" : Str) = ("RateError" : Str) ↔ False := iff_of_false (by decide) id
theorem sn_NoBelt : ("NoBelt" : Str) = ("RateError" : Str) ↔ False := iff_of_false (by decide) id
theorem sn_NoFit : ("NoFit" : Str) = ("RateError" : Str) ↔ False := iff_of_false (by decide) id
theorem sn_NoForm : ("NoForm" : Str) = ("RateError" : Str) ↔ False := iff_of_false (by decide) id
theorem sn_NoLine : ("NoLine" : Str) = ("RateError" : Str) ↔ False := iff_of_false (by decide) id
theorem sn_NoName : ("NoName" : Str) = ("RateError" : Str) ↔ False := iff_of_false (by decide) id
theorem sn_NoPieces : ("NoPieces" : Str) = ("RateError" : Str) ↔ False := iff_of_false (by decide) id
theorem sn_NoRate : ("NoRate" : Str) = ("RateError" : Str) ↔ False := iff_of_false (by decide) id
theorem sn_NoRoom : ("NoRoom" : Str) = ("RateError" : Str) ↔ False := iff_of_false (by decide) id
theorem sn_NoText : ("NoText" : Str) = ("RateError" : Str) ↔ False := iff_of_false (by decide) id
theorem sn_NoWork : ("NoWork" : Str) = ("RateError" : Str) ↔ False := iff_of_false (by decide) id
theorem sn_NotBalanced : ("NotBalanced" : Str) = ("RateError" : Str) ↔ False := iff_of_false (by decide) id
theorem sn_Stuck : ("Stuck" : Str) = ("RateError" : Str) ↔ False := iff_of_false (by decide) id
theorem sn_TooLong : ("TooLong" : Str) = ("RateError" : Str) ↔ False := iff_of_false (by decide) id
theorem sn_TooMuch : ("TooMuch" : Str) = ("RateError" : Str) ↔ False := iff_of_false (by decide) id
theorem sn_Twice : ("Twice" : Str) = ("RateError" : Str) ↔ False := iff_of_false (by decide) id
theorem cur_at {G : Tab} {Γ : Nat → TSp} {p : Addr} {a : Nat} : curG G Γ p a 999999 = S_cur G p a := if_pos rfl
theorem isx_at {G : Tab} {p : Addr} {a : Nat} {k : Int} {μ : Sto} {F : XP} {R : RP} (h : 0 ≤ k) : S_cur G p a [.own p, .int k] μ F R = ((exName G k.toNat).isSome = true ∧ R (.bl (subX G a k.toNat)) μ) := by
  apply propext
  constructor
  · rintro ⟨h', e, h1, h2⟩
    simp only [List.cons.injEq, T.int.injEq, and_true, true_and] at e
    have : k.toNat = h' := by omega
    rw [this]
    exact ⟨h1, h2⟩
  · rintro ⟨h1, h2⟩
    exact ⟨k.toNat, by rw [Int.toNat_of_nonneg h], h1, h2⟩
theorem cut_map {us : List Int} {lo hi : Option Int} : ∃ vs : List Int, cutT (us.map T.int) lo hi = vs.map T.int ∧ vs = (us.drop (HT.sIx us.length 0 lo)).take (HT.sIx us.length us.length hi - HT.sIx us.length 0 lo) := by
  refine ⟨_, ?_, rfl⟩
  unfold cutT
  rw [List.length_map, List.map_take, List.map_drop]
/-! ## 32. Dicts used as sets; loops over numbered things -/
def setD (ks : List Int) : List (Key × T) := ks.map fun k => (.inl k, .bl true)
def addK (ks : List Int) (k : Int) : List Int := if k ∈ ks then ks else ks ++ [k]
theorem mem_addK {ks : List Int} {k x : Int} : x ∈ addK ks k ↔ x ∈ ks ∨ x = k := by
  unfold addK
  split
  · rename_i h
    exact ⟨.inl, fun z => z.elim id fun e => e ▸ h⟩
  · rw [List.mem_append, List.mem_singleton]
theorem nodup_addK {ks : List Int} {k : Int} (h : ks.Nodup) : (addK ks k).Nodup := by
  unfold addK
  split
  · exact h
  · rename_i hk
    refine List.nodup_append.mpr ⟨h, List.pairwise_singleton _ _, fun a ha b hb => ?_⟩
    cases List.mem_singleton.mp hb
    exact fun e => hk (e ▸ ha)
theorem addK_len {ks : List Int} {k : Int} : ks.length ≤ (addK ks k).length := by
  unfold addK
  split
  · exact Nat.le_refl _
  · rw [List.length_append]
    omega
theorem nodup_le : ∀ (n : Nat) (ks : List Int), ks.Nodup → (∀ k ∈ ks, 0 ≤ k ∧ k < n) → ks.length ≤ n
  | 0, [], _, _ => Nat.le_refl _
  | 0, k :: _, _, h => by
    have := h k List.mem_cons_self
    omega
  | n + 1, ks, hn, h => by
    have := nodup_le n (ks.erase (n : Int)) (hn.erase _) fun k hk => by
      obtain ⟨h1, h2⟩ := hn.mem_erase_iff.mp hk
      have := h k h2
      omega
    rw [List.length_erase] at this
    split at this <;> omega
theorem any_setD {ks : List Int} {k : Int} : ((setD ks).any fun kv => decide (kv.1 = (.inl k : Key))) = decide (k ∈ ks) := by
  unfold setD
  rw [List.any_map, Bool.eq_iff_iff, List.any_eq_true, decide_eq_true_eq]
  constructor
  · rintro ⟨x, hx, e⟩
    have e := of_decide_eq_true e
    injection e with e
    exact e ▸ hx
  · intro h
    exact ⟨k, h, decide_eq_true rfl⟩
theorem put_setD {ks : List Int} {k : Int} : putT (setD ks) (.inl k) (.bl true) = setD (addK ks k) := by
  unfold putT
  rw [any_setD]
  unfold addK
  by_cases h : k ∈ ks
  · rw [if_pos (decide_eq_true h), if_pos h]
    unfold setD
    rw [List.map_map]
    refine List.map_congr_left fun x _ => ?_
    show (if (Sum.inl x : Key) = Sum.inl k then ((Sum.inl x : Key), T.bl true) else ((Sum.inl x : Key), T.bl true)) = _
    split <;> rfl
  · rw [if_neg (by rw [decide_eq_true_eq]; exact h), if_neg h]
    unfold setD
    rw [List.map_append]
    rfl
theorem val_setD {ks : List Int} {k : Int} : (valT (setD ks) (.inl k)).isSome = decide (k ∈ ks) := by
  unfold valT
  rw [Option.isSome_map, ← any_setD, Bool.eq_iff_iff, List.find?_isSome, List.any_eq_true]
theorem in_setD {μ : Sto} {p : Addr} {ks : List Int} {i : Int} {neg : Bool} {R : RP} (h : μ p = some (.dict (setD ks))) : tIn neg (.int i) (.own p) μ R = R (.bl (if neg = true then !decide (i ∈ ks) else decide (i ∈ ks))) μ := by
  simp only [tIn, isDict, h, onK, T.own.injEq, Option.some.injEq, Ob.dict.injEq, keyT, exists_eq_left', exists_and_left, val_setD]
theorem set_setD {μ : Sto} {p : Addr} {ks : List Int} {i : Int} {K : Sto → Prop} (h : μ p = some (.dict (setD ks))) : tSet (.own p) (.int i) (.bl true) μ K = (ks.length < sizeLine ∧ K (μ.set p (.dict (setD (addK ks i))))) := by
  have : (setD ks).length = ks.length := List.length_map _
  simp only [tSet, isDict, h, onK, T.own.injEq, Option.some.injEq, Ob.dict.injEq, keyT, exists_eq_left', exists_and_left, put_setD, this]
theorem for_enum {α : Type} {xs : List α} {f : α → T} {g : Tg} {body : SEnds → Ro → Sto → Prop} {gd : Sto → Prop} {D : SEnds} {ρ : Ro} {μ : Sto} (I : Nat → Ro → Sto → Prop) (h0 : I 0 ρ μ) (h1 : ∀ ρ μ, I xs.length ρ μ → gd μ ∧ D.nx ρ μ) (h2 : ∀ k x ρ μ, xs[k]? = some x → I k ρ μ → gd μ ∧ bindT g (.tup [.int (k : Nat), f x]) ρ μ fun ρ' =>
    body { D with nx := fun ρ2 μ2 => ∃ ρ3 μ3, Wk ρ2 μ2 ρ3 μ3 ∧ I (k + 1) ρ3 μ3, ct := fun ρ2 μ2 => ∃ ρ3 μ3, Wk ρ2 μ2 ρ3 μ3 ∧ I (k + 1) ρ3 μ3, bk := D.nx } ρ' μ) : forD g body ((xs.map f).zipIdx.map fun p => .tup [.int (p.2 : Nat), p.1]) gd D ρ μ := by
  have e : ((xs.map f).zipIdx.map fun p => T.tup [.int (p.2 : Nat), p.1]) = xs.zipIdx.map (fun p => T.tup [.int (p.2 : Nat), f p.1]) := by
    rw [List.zipIdx_map, List.map_map]
    rfl
  rw [e]
  refine for_map (xs := xs.zipIdx) I h0 (fun ρ μ h => h1 ρ μ (by rwa [List.length_zipIdx] at h)) fun k p ρ μ hk hI => ?_
  rw [List.getElem?_zipIdx, Option.map_eq_some_iff] at hk
  obtain ⟨x, hx, rfl⟩ := hk
  rw [show (0 + k : Nat) = k from Nat.zero_add k]
  exact h2 k x ρ μ hx hI
end Rh

namespace Lw
open PySem PySem.Spec PyProof.Rows L2 Rh
local macro_rules | `(tactic| simp_arith [$ls,*]) => `(tactic| simp only [Rh.cur_at, Rh.isx_at, Rh.exName, Option.isSome_some, Int.reduceToNat, Rh.subX, Nat.reduceEqDiff, Bool.or_true, Bool.true_or, Bool.or_false, Bool.false_or, Rh.sn_Empty, Rh.sn_NoBelt, Rh.sn_NoFit, Rh.sn_NoForm, Rh.sn_NoLine, Rh.sn_NoName, Rh.sn_NoPieces, Rh.sn_NoRate, Rh.sn_NoRoom, Rh.sn_NoText, Rh.sn_NoWork, Rh.sn_NotBalanced, Rh.sn_Stuck, Rh.sn_TooLong, Rh.sn_TooMuch, Rh.sn_Twice, decide_not, Int.toNat_natCast, Rh.bf_len, Rh.bf_sum, Rh.bf_max2, Rh.bf_min2, Rh.bf_max3, Rh.bf_min3, Rh.bf_max1, Rh.bf_min1, Rh.bf_list_tup, Rh.bf_list_lst, Rh.bf_list_scr, Rh.bf_list_own, Rh.bf_tuple_tup, Rh.bf_tuple_lst, Rh.bf_tuple_own, Rh.bf_sorted, Rh.bf_all, Rh.bf_any, Rh.bf_str, Rh.bf_int, Rh.bf_intb, Rh.lm_append, Rh.lm_pop, Rh.lm_popAt, Rh.lm_extend, Rh.lm_index, Rh.lm_insert, Rh.lm_join, Rh.lm_split, Rh.lm_part, Rh.lm_starts, Rh.lm_count, Rh.lm_remove, Rh.ad_lst, Rh.rc_join, Rh.rc_split, Rh.rc_part, Rh.rc_starts, Rh.rc_append, Rh.rc_pop, Rh.rc_popAt, Rh.rc_extend, Rh.rc_index, Rh.rc_insert, Rh.rc_remove, Rh.rc_count, Nat.reduceSub, List.drop_succ_cons, Rh.set_self, Rh.ix_tup, Rh.ix_lst, Rh.ix_scr, Rh.ix_str, Rh.ix_own, Rh.ln_str, Rh.ln_tup, Rh.ln_lst, Rh.ln_scr, Rh.ln_own, Rh.dc_own, Rh.dc_lst, Rh.dc_scr, Rh.vl_lst, Rh.vl_scr, Rh.vl_own, Rh.sl_lst, Rh.sl_own, Rh.ad_int, Rh.ad_str, Rh.ad_tup, Rh.ml_int, Rh.ml_lst, Rh.slc_lst, Rh.slc_scr, Rh.ml_str, Rh.tr_non, Rh.tr_bl, Rh.tr_int, Rh.tr_str, Rh.tr_tup, Rh.tr_lst, Rh.tr_own, Rh.ag_add, Rh.ag_sub, Rh.up_tup, Rh.up_lst, Rh.up_own, Rh.eq_ints, Rh.T.str.injEq, Rh.eq_tup2, Rh.Ob.lst.injEq, Rh.Ob.dict.injEq, Rh.Ob.obj.injEq, List.length_map, List.length_append, List.length_range, Rh.den, Rh.dens, Rh.plain, Rh.cmpd, Rh.evs, Rh.boV, Rh.boT, Rh.bindT, Rh.bindTs, Rh.tCmp, Rh.eq_int, Rh.eq_str, Rh.eq_bl, Rh.tBin, Rh.in_str, Rh.FnI.rest, Rh.onL, Rh.onS, Rh.is_non, Rh.is_bl, Rh.is_int, Rh.is_str, Rh.is_tup, Rh.is_lst, Rh.is_own, Rh.iK_int_NoneType, Rh.iK_int_bool, Rh.iK_int_int, Rh.iK_int_str, Rh.iK_int_tuple, Rh.iK_int_list, Rh.iK_int_dict, Rh.iK_bool_NoneType, Rh.iK_bool_bool, Rh.iK_bool_int, Rh.iK_bool_str, Rh.iK_bool_tuple, Rh.iK_bool_list, Rh.iK_bool_dict, Rh.iK_str_NoneType, Rh.iK_str_bool, Rh.iK_str_int, Rh.iK_str_str, Rh.iK_str_tuple, Rh.iK_str_list, Rh.iK_str_dict, Rh.iK_list_NoneType, Rh.iK_list_bool, Rh.iK_list_int, Rh.iK_list_str, Rh.iK_list_tuple, Rh.iK_list_list, Rh.iK_list_dict, Rh.iK_tuple_NoneType, Rh.iK_tuple_bool, Rh.iK_tuple_int, Rh.iK_tuple_str, Rh.iK_tuple_tuple, Rh.iK_tuple_list, Rh.iK_tuple_dict, Rh.iK_dict_NoneType, Rh.iK_dict_bool, Rh.iK_dict_int, Rh.iK_dict_str, Rh.iK_dict_tuple, Rh.iK_dict_list, Rh.iK_dict_dict, Rh.at_0, Rh.at_1, Rh.at_2, Rh.at_3, Rh.at_4, Rh.at_last, Rh.scr_inj, Rh.cdiv_lit, Rh.mul_litR, Rh.mul_litL, Int.reduceLT, Int.reduceLE, Int.le_refl, and_assoc, exists_eq, exists_eq', Bool.not_eq_false', Bool.not_eq_true', Bool.not_eq_true, Bool.not_eq_false, decide_eq_true_eq, decide_eq_false_iff_not, Decidable.not_not, Rh.nil_den, Bool.not_true, Bool.not_false, decide_true, decide_false, if_false, Rh.optI, Rh.isNon, Rh.itT, Rh.onM, Rh.newL, Rh.tSet, List.cons_append, List.nil_append, List.append_nil, List.length_cons, List.length_nil, List.getElem?_cons_zero, List.getElem?_cons_succ, List.map_cons, List.map_nil, List.drop_nil, List.drop_zero, List.set_cons_zero, List.set_cons_succ, List.replicate, List.cons.injEq, Option.some.injEq, Rh.T.int.injEq, Rh.T.bl.injEq, Rh.T.own.injEq, Rh.T.tup.injEq, Rh.T.lst.injEq, exists_eq_left, exists_eq_left', exists_eq_right, exists_and_left, and_true, true_and, Rh.xp_mk, Rh.bodyD, if_true, reduceIte, Bool.false_eq_true, not_false_eq_true, not_true_eq_false, Int.natCast_one, Int.natCast_zero, Int.cast_ofNat_Int, Nat.reduceAdd, Nat.reduceLeDiff, Rh.sz, Int.reduceEq, ne_eq, Int.toNat_zero, Rh.emod_nn, Rh.emod_lt, Rh.nat_nn, $ls,*])
theorem gcd_parts {a b : Int} (ha : 0 < a) (hb : 0 < b) : ∃ g x y : Int, (Int.gcd a b : Int) = g ∧ 0 < g ∧ 0 < x ∧ 0 < y ∧ a = g * x ∧ b = g * y ∧ Int.gcd x y = 1 := by
  have hg : 0 < Int.gcd a b := Int.gcd_pos_of_ne_zero_left _ (by omega)
  have hg' : (0:Int) < (Int.gcd a b : Int) := by omega
  obtain ⟨x, hx⟩ := Int.gcd_dvd_left (a := a) (b := b)
  obtain ⟨y, hy⟩ := Int.gcd_dvd_right (a := a) (b := b)
  refine ⟨_, x, y, rfl, hg', ?_, ?_, hx, hy, ?_⟩
  · exact Int.pos_of_mul_pos_right (hx ▸ ha) (by omega)
  · exact Int.pos_of_mul_pos_right (hy ▸ hb) (by omega)
  · have h := Int.gcd_mul_left (Int.gcd a b) x y
    rw [← hx, ← hy] at h
    simp only [Int.natAbs_natCast] at h
    exact Nat.eq_of_mul_eq_mul_left hg (by rw [Nat.mul_one]; exact h.symm)
theorem gcd_last {t a c : Int} (ht : 0 < t) : (Int.gcd (t * a) (t * (a * c + 1)) : Int) = t := by
  rw [Int.gcd_mul_left]
  have : Int.gcd a (a * c + 1) = 1 := by
    have h1 := Int.gcd_dvd_left (a := a) (b := a * c + 1)
    have h2 := Int.gcd_dvd_right (a := a) (b := a * c + 1)
    have h3 : (Int.gcd a (a * c + 1) : Int) ∣ 1 := by
      have := Int.dvd_sub h2 (Int.dvd_mul_of_dvd_left (c := c) h1)
      rwa [show a * c + 1 - a * c = 1 by omega] at this
    exact Int.natCast_dvd_natCast.mp h3 |> Nat.dvd_one.mp
  rw [this]
  omega
def rat (a b : Int) : Int × Int := (a / (Int.gcd a b : Int), b / (Int.gcd a b : Int))
theorem rat_spec {a b : Int} (ha : 0 < a) (hb : 0 < b) : 0 < (rat a b).1 ∧ 0 < (rat a b).2 ∧ Int.gcd (rat a b).1 (rat a b).2 = 1 ∧ (rat a b).1 * b = (rat a b).2 * a ∧ (rat a b).1 ≤ a ∧ (rat a b).2 ≤ b := by
  obtain ⟨g, x, y, e, hg, hx, hy, ea, eb, h1⟩ := gcd_parts ha hb
  unfold rat
  rw [e]
  subst ea eb
  simp only [Int.mul_ediv_cancel_left _ (show g ≠ 0 by omega)]
  refine ⟨hx, hy, h1, by rw [← Int.mul_assoc, ← Int.mul_assoc, Int.mul_comm x g, Int.mul_comm y g, Int.mul_assoc, Int.mul_assoc, Int.mul_comm x y], ?_, ?_⟩
  · exact Int.le_of_dvd (by assumption) ⟨g, Int.mul_comm _ _⟩
  · exact Int.le_of_dvd (by assumption) ⟨g, Int.mul_comm _ _⟩
theorem rat_mul {a b e : Int} (he : 0 < e) : rat (a * e) (b * e) = rat a b := by
  unfold rat
  rw [Int.gcd_mul_right]
  have : ((Int.gcd a b * e.natAbs : Nat) : Int) = (Int.gcd a b : Int) * e := by
    rw [Int.natCast_mul]
    congr 1
    omega
  rw [this]
  rw [Int.mul_ediv_mul_of_pos_left _ _ he, Int.mul_ediv_mul_of_pos_left _ _ he]
theorem rat_inv {x y : Int} (hx : 0 < x) (hy : 0 < y) : rat (x * y) (y * x) = (1, 1) := by
  unfold rat
  rw [Int.mul_comm y x]
  have h : 0 < x * y := Int.mul_pos hx hy
  have e : (Int.gcd (x * y) (x * y) : Int) = x * y := by
    rw [Int.gcd_self]
    omega
  rw [e, Int.ediv_self (by omega)]
theorem times_is {a b c d x y z w : Int} (hx : 0 < x) (hy : 0 < y) (hz : 0 < z) (hw : 0 < w) (h1 : x * b = y * a) (h2 : z * d = w * c) : (rat (x * z) (y * w)).1 * (b * d) = (rat (x * z) (y * w)).2 * (a * c) := by
  obtain ⟨p, q, _, e, _⟩ := rat_spec (Int.mul_pos hx hz) (Int.mul_pos hy hw)
  -- r1 * (y w) = r2 * (x z)
  generalize (rat (x * z) (y * w)).1 = r at *
  generalize (rat (x * z) (y * w)).2 = s at *
  have hyw : y * w ≠ 0 := Int.ne_of_gt (Int.mul_pos hy hw)
  apply Int.eq_of_mul_eq_mul_left hyw
  calc (y * w) * (r * (b * d)) = (r * (y * w)) * (b * d) := by ac_rfl
    _ = (s * (x * z)) * (b * d) := by rw [e]
    _ = s * ((x * b) * (z * d)) := by ac_rfl
    _ = s * ((y * a) * (w * c)) := by rw [h1, h2]
    _ = (y * w) * (s * (a * c)) := by ac_rfl
structure Ln where
  g : Int
  t : Int
  gi : Int
  ta : Int
  st : Int
  deriving DecidableEq
def Ln.tr (l : Ln) : T := .tup [.int l.g, .int l.t, .int l.gi, .int l.ta, .int l.st]
instance : Tt Ln where
  tt := Ln.tr
  dd l := .tuple [.int l.g, .int l.t, .int l.gi, .int l.ta, .int l.st]
  ok _ := True
  lv := 1
  dat μ n l h := by
    match n, h with
    | n + 2, _ => rfl
  eqv a b := by
    simp only [PyData.eqv, PyData.eqvAll, beqd, Bool.and_true, ← Bool.decide_and]
    exact decide_eq_decide.mpr ⟨fun ⟨h1, h2, h3, h4, h5⟩ => by cases a; cases b; simp_all, fun e => by rw [e]; simp⟩
  lay _ _ := rfl
  dep _ := Nat.le_refl _
/-- a hall in the store -/
structure HallAt (μ : Sto) (h l1 l2 : Addr) (ns : List Str) (ls : List Ln) : Prop where
  o : μ h = some (.obj 3 [.own l1, .own l2])
  w : μ l1 = some (.lst (ns.map T.str))
  b : μ l2 = some (.lst (ls.map Ln.tr))
  ne : l1 ≠ l2
theorem HallAt.h1 {μ : Sto} {h l1 l2 : Addr} {ns : List Str} {ls : List Ln} (H : HallAt μ h l1 l2 ns ls) : h ≠ l1 := fun e => by
  have := H.w
  rw [← e, H.o] at this
  cases this
theorem HallAt.h2 {μ : Sto} {h l1 l2 : Addr} {ns : List Str} {ls : List Ln} (H : HallAt μ h l1 l2 ns ls) : h ≠ l2 := fun e => by
  have := H.b
  rw [← e, H.o] at this
  cases this
theorem HallAt.put {μ : Sto} {h l1 l2 p : Addr} {ns : List Str} {ls : List Ln} {ob : Ob} (H : HallAt μ h l1 l2 ns ls) (a : h ≠ p) (b : l1 ≠ p) (c : l2 ≠ p) : HallAt (μ.set p ob) h l1 l2 ns ls :=
  ⟨by rw [set_ne a]; exact H.o, by rw [set_ne b]; exact H.w, by rw [set_ne c]; exact H.b, H.ne⟩
theorem HallAt.fresh {μ : Sto} {h l1 l2 p : Addr} {ns : List Str} {ls : List Ln} {ob : Ob} (H : HallAt μ h l1 l2 ns ls) (hp : μ p = none) : HallAt (μ.set p ob) h l1 l2 ns ls :=
  H.put (nofr H.o hp) (nofr H.w hp) (nofr H.b hp)
theorem HallAt.addW {μ : Sto} {h l1 l2 : Addr} {ns : List Str} {ls : List Ln} (H : HallAt μ h l1 l2 ns ls) (n : Str) : HallAt (μ.set l1 (.lst (ns.map T.str ++ [.str n]))) h l1 l2 (ns ++ [n]) ls :=
  ⟨by rw [set_ne H.h1]; exact H.o, by rw [set_self, List.map_append]; rfl, by rw [set_ne H.ne.symm]; exact H.b, H.ne⟩
theorem HallAt.addB {μ : Sto} {h l1 l2 : Addr} {ns : List Str} {ls : List Ln} (H : HallAt μ h l1 l2 ns ls) (l : Ln) : HallAt (μ.set l2 (.lst (ls.map Ln.tr ++ [l.tr]))) h l1 l2 ns (ls ++ [l]) :=
  ⟨by rw [set_ne H.h2]; exact H.o, by rw [set_ne H.ne]; exact H.w, by rw [set_self, List.map_append]; rfl, H.ne⟩
theorem HallAt.init {μ : Sto} {h l1 l2 : Addr} (e1 : (μ.set h (.obj 3 [])) l1 = none) (e2 : (μ.set h (.obj 3 [])) l2 = none) (ne : ¬ l1 = l2) : HallAt ((((μ.set h (.obj 3 [])).set l1 (.lst [])).set l2 (.lst [])).set h (.obj 3 [.own l1, .own l2])) h l1 l2 [] [] := by
  have n1 : l1 ≠ h := fun e => by
    rw [e, set_self] at e1
    cases e1
  have n2 : l2 ≠ h := fun e => by
    rw [e, set_self] at e2
    cases e2
  exact ⟨set_self, by rw [set_ne n1, set_ne ne, set_self]; rfl, by rw [set_ne n2, set_self]; rfl, ne⟩
def abc : Str := "abcdefghijklmnopqrstuvwxyz"
def isName (s : Str) : Bool := decide (1 ≤ s.length) && decide (s.length ≤ 8) && s.cps.toList.all fun c => decide (c ∈ abc.cps.toList)
def isNameT : T → Bool
  | .str s => isName s
  | _ => false
theorem isName_iff {s : Str} : isName s = true ↔ 1 ≤ s.cps.toList.length ∧ s.cps.toList.length ≤ 8 ∧ ∀ c ∈ s.cps.toList, c ∈ abc.cps.toList := by
  unfold isName
  simp only [Bool.and_eq_true, decide_eq_true_eq, List.all_eq_true, Array.length_toList]
  exact ⟨fun ⟨⟨a, b⟩, c⟩ => ⟨a, b, c⟩, fun ⟨a, b, c⟩ => ⟨⟨a, b⟩, c⟩⟩
theorem abc_ok : ∀ c ∈ abc.cps.toList, c < 0x110000 := by decide +kernel
theorem isName_ok {s : Str} (h : isName s = true) : sOk s ∧ s.length ≤ 8 := by
  obtain ⟨a, b, c⟩ := isName_iff.mp h
  refine ⟨?_, by rw [Array.length_toList] at b; exact b⟩
  unfold sOk
  rw [← Array.all_toList, List.all_eq_true]
  intro x hx
  exact decide_eq_true (abc_ok x (c x hx))
theorem HallAt.setB {μ : Sto} {h l1 l2 : Addr} {ns : List Str} {ls : List Ln} (H : HallAt μ h l1 l2 ns ls) (i : Nat) (l : Ln) : HallAt (μ.set l2 (.lst ((ls.map Ln.tr).set i l.tr))) h l1 l2 ns (ls.set i l) :=
  ⟨by rw [set_ne H.h2]; exact H.o, by rw [set_ne H.ne]; exact H.w, by rw [set_self, List.map_set], H.ne⟩
/-- the places at which something holds, rising -/
def spots (p : Ln → Bool) (ls : List Ln) : List Int := ((List.range ls.length).filter fun i => (ls[i]?).any p).map fun i : Nat => (i : Int)
theorem zip_spots {α : Type} (p : α → Bool) : ∀ (ls : List α) (k : Nat), ((ls.zipIdx k).filter fun x => p x.1).map (·.2) = ((List.range ls.length).filter fun i => (ls[i]?).any p).map (· + k)
  | [], _ => rfl
  | a :: r, k => by
    rw [List.zipIdx_cons, List.length_cons, List.range_succ_eq_map, List.filter_cons, List.filter_cons, List.filter_map]
    have e : ((fun i => ((a :: r)[i]?).any p) ∘ Nat.succ) = fun i => (r[i]?).any p := rfl
    have ih := zip_spots p r (k + 1)
    rw [e]
    show (if p a = true then (a, k) :: ((r.zipIdx (k + 1)).filter fun x => p x.1) else (r.zipIdx (k + 1)).filter fun x => p x.1).map (·.2) = (if p a = true then 0 :: (((List.range r.length).filter fun i => (r[i]?).any p).map Nat.succ) else ((List.range r.length).filter fun i => (r[i]?).any p).map Nat.succ).map (· + k)
    have e2 : (((List.range r.length).filter fun i => (r[i]?).any p).map Nat.succ).map (· + k) = ((List.range r.length).filter fun i => (r[i]?).any p).map (· + (k + 1)) := by
      rw [List.map_map]
      refine List.map_congr_left fun i _ => ?_
      show i + 1 + k = i + (k + 1)
      omega
    split
    · rw [List.map_cons, List.map_cons, ih, e2, Nat.zero_add]
    · rw [ih, e2]
def chg (cs : List Int) (l : Ln) : Int := l.gi * cnt cs l.g - l.ta * cnt cs l.t
def higher (cs : List Int) (l : Ln) : Int := l.st + l.gi * (Rh.cnt cs l.g + 1) - l.ta * Rh.cnt cs l.t
def raise1 (ls : List Ln) (rooms cs : List Int) (n : Int) : Option (List Int) := if 0 ≤ n - ls.length then (ls[(n - ls.length).toNat]?).map fun l => rooms.set (n - ls.length).toNat (higher cs l) else none
def lin (xs : List Int) : T := .lst (xs.map T.int)
structure RaiseOk (ls : List Ln) (rooms cs ring : List Int) : Prop where
  len : rooms.length = ls.length
  r : ∀ n ∈ ring, 0 ≤ n ∧ n < 2 * ls.length
  c : ∀ l ∈ ls, 0 ≤ Ln.g l ∧ l.g < cs.length ∧ 0 ≤ l.t ∧ l.t < cs.length ∧ MulOk l.gi (Rh.cnt cs l.g + 1) ∧ MulOk l.ta (Rh.cnt cs l.t)
  sz : ls.length ≤ 1000
  rl : ring.length ≤ 1000
def rdy (ls : List Ln) (hs : List Int) (w : Int) : Bool := (ls.zip hs).all fun p => !(decide (p.1.t = w) && decide (p.2 < p.1.ta))
def shf (l : Ln) (h w : Int) : Int := (if l.g = w then (if l.t = w then h - l.ta else h) + l.gi else (if l.t = w then h - l.ta else h))
def shiftL (ls : List Ln) (hs : List Int) (w : Int) : List Int := (ls.zip hs).map fun p => shf p.1 p.2 w
def flr (ls : List Ln) (many : Int) (hs : List Int) : Ob := .obj 2 [.lst (ls.map Ln.tr), .int many, .lst (hs.map T.int)]
def goR (ls : List Ln) (many : Int) : List Int → List Int → Except Nat (List Int)
  | [], hs => .ok hs
  | w :: r, hs => if 0 ≤ w ∧ w < many then (if rdy ls hs w = true then goR ls many r (shiftL ls hs w) else .error 0) else .error 10
theorem shiftL_len {ls : List Ln} {hs : List Int} {w : Int} (h : hs.length = ls.length) : (shiftL ls hs w).length = ls.length := by
  unfold shiftL
  rw [List.length_map, List.length_zip, h, Nat.min_self]
theorem goR_err {ls : List Ln} {m : Int} : ∀ {row hs : List Int} {e : Nat}, goR ls m row hs = .error e → e = 10 ∨ e = 0
  | [], _, _, h => by cases h
  | w :: r, hs, e, h => by
    rw [goR] at h
    split at h
    · split at h
      · exact goR_err h
      · cases h
        exact .inr rfl
    · cases h
      exact .inl rfl
theorem goR_app {ls : List Ln} {m : Int} : ∀ {a b hs hs' : List Int}, goR ls m a hs = .ok hs' → goR ls m (a ++ b) hs = goR ls m b hs'
  | [], _, _, _, h => by cases h; rfl
  | w :: r, b, hs, hs', h => by
    rw [goR] at h
    rw [List.cons_append, goR]
    split at h
    · rename_i h0
      rw [if_pos h0]
      split at h
      · rename_i h1
        rw [if_pos h1]
        exact goR_app h
      · cases h
    · cases h
theorem goR_len {ls : List Ln} {m : Int} : ∀ {row hs hs' : List Int}, hs.length = ls.length → goR ls m row hs = .ok hs' → hs'.length = ls.length
  | [], _, _, e, h => by cases h; exact e
  | w :: r, hs, hs', e, h => by
    rw [goR] at h
    split at h
    · split at h
      · exact goR_len (shiftL_len e) h
      · cases h
    · cases h
theorem zip_tr (ls : List Ln) (hs : List Int) : ((ls.map Ln.tr).zip (hs.map T.int)).map (fun p : T × T => T.tup [p.1, p.2]) = (ls.zip hs).map fun p => T.tup [p.1.tr, .int p.2] := by
  rw [List.zip_map, List.map_map]
  rfl
def bmax (a b : Int) : Int := if b > a then b else a
def pk1 (ls : List Ln) (hs ms : List Int) (w : Int) : List Int := ((ls.zip hs).zip ms).map fun p => if p.1.1.g = w then bmax p.2 (p.1.2 + p.1.1.gi) else p.2
def pkL (ls : List Ln) : List Int → List Int → List Int → List Int
  | [], _, ms => ms
  | w :: r, hs, ms => pkL ls r (shiftL ls hs w) (pk1 ls hs ms w)
theorem pk1_len {ls : List Ln} {hs ms : List Int} {w : Int} (h : hs.length = ls.length) (k : ms.length = ls.length) : (pk1 ls hs ms w).length = ls.length := by
  unfold pk1
  rw [List.length_map, List.length_zip, List.length_zip, h, k, Nat.min_self, Nat.min_self]
theorem pk1_at {ls : List Ln} {hs ms : List Int} {w : Int} {i : Nat} {l : Ln} {h m : Int} (el : ls[i]? = some l) (eh : hs[i]? = some h) (em : ms[i]? = some m) : (pk1 ls hs ms w)[i]? = some (if l.g = w then bmax m (h + l.gi) else m) := by
  unfold pk1
  rw [List.getElem?_map, (List.getElem?_zip_eq_some (z := ((l, h), m))).mpr ⟨(List.getElem?_zip_eq_some (z := (l, h))).mpr ⟨el, eh⟩, em⟩]
  rfl
theorem goR_work {ls : List Ln} {m : Int} : ∀ {row hs : List Int} {hs' : List Int}, goR ls m row hs = .ok hs' → ∀ w ∈ row, 0 ≤ w ∧ w < m
  | [], _, _, _, w, hw => by cases hw
  | v :: r, hs, hs', h, w, hw => by
    rw [goR] at h
    split at h
    · rename_i h0
      split at h
      · rcases List.mem_cons.mp hw with rfl | hw
        · exact h0
        · exact goR_work h w hw
      · cases h
    · cases h
theorem spots_mem {p : Ln → Bool} {ls : List Ln} {x : Int} : x ∈ spots p ls ↔ ∃ i : Nat, x = (i : Int) ∧ ∃ l, ls[i]? = some l ∧ p l = true := by
  unfold spots
  rw [List.mem_map]
  constructor
  · rintro ⟨i, hi, rfl⟩
    obtain ⟨h1, h2⟩ := List.mem_filter.mp hi
    have h3 := List.mem_range.mp h1
    rw [List.getElem?_eq_getElem h3] at h2
    exact ⟨i, rfl, _, List.getElem?_eq_getElem h3, h2⟩
  · rintro ⟨i, rfl, l, e, h⟩
    refine ⟨i, List.mem_filter.mpr ⟨List.mem_range.mpr (List.getElem?_eq_some_iff.mp e).1, ?_⟩, rfl⟩
    rw [e]
    exact h
theorem spots_nodup {p : Ln → Bool} {ls : List Ln} : (spots p ls).Nodup := by
  unfold spots
  refine List.Pairwise.map _ (fun a b (h : a ≠ b) => ?_) (List.Pairwise.filter _ List.nodup_range)
  intro z
  exact h (by omega)
theorem nodup_at {xs : List Int} (h : xs.Nodup) {k : Nat} {x : Int} (e : xs[k]? = some x) : x ∉ xs.take k := by
  intro hm
  obtain ⟨j, hj, e2⟩ := List.mem_iff_getElem.mp hm
  rw [List.length_take] at hj
  rw [List.getElem_take] at e2
  obtain ⟨hk, e3⟩ := List.getElem?_eq_some_iff.mp e
  have := (List.getElem_inj (h₀ := by omega) (h₁ := hk) h).mp (e2.trans e3.symm)
  omega
/-- two works joined by an edge -/
def Adj (es : List (Int × Int)) (a b : Int) : Prop := (a, b) ∈ es ∨ (b, a) ∈ es
inductive Con (es : List (Int × Int)) (a : Int) : Int → Prop
  | refl : Con es a a
  | step {b c : Int} : Con es a b → Adj es b c → Con es a c
theorem Adj.symm {es : List (Int × Int)} {a b : Int} (h : Adj es a b) : Adj es b a := Or.symm h
theorem Con.trans {es : List (Int × Int)} {a b c : Int} (h : Con es a b) (k : Con es b c) : Con es a c := by
  induction k with
  | refl => exact h
  | step _ e ih => exact ih.step e
theorem Con.one {es : List (Int × Int)} {a b : Int} (h : Adj es a b) : Con es a b := Con.refl.step h
theorem Con.symm {es : List (Int × Int)} {a b : Int} (h : Con es a b) : Con es b a := by
  induction h with
  | refl => exact .refl
  | step _ e ih => exact (Con.one e.symm).trans ih
/-- an edge's ends lie in their range -/
def Inr (es : List (Int × Int)) (n : Nat) : Prop := ∀ e ∈ es, (0 ≤ e.1 ∧ e.1 < n) ∧ (0 ≤ e.2 ∧ e.2 < n)
theorem Adj.inr {es : List (Int × Int)} {n : Nat} {a b : Int} (hi : Inr es n) (h : Adj es a b) : (0 ≤ a ∧ a < n) ∧ (0 ≤ b ∧ b < n) := by
  rcases h with h | h
  · exact hi _ h
  · exact (hi _ h).symm
theorem Con.inr {es : List (Int × Int)} {n : Nat} {a b : Int} (hi : Inr es n) (h : Con es a b) (ha : 0 ≤ a ∧ a < n) : 0 ≤ b ∧ b < n := by
  cases h with
  | refl => exact ha
  | step _ e => exact (e.inr hi).2
open Classical in
/-- a work's piece, rising -/
noncomputable def compL (es : List (Int × Int)) (n : Nat) (a : Int) : List Int := ((List.range n).map fun i : Nat => (i : Int)).filter fun b => decide (Con es a b)
/-- the first work of its piece -/
def Fst (es : List (Int × Int)) (a : Int) : Prop := ∀ u, Con es a u → a ≤ u
open Classical in
noncomputable def firsts (es : List (Int × Int)) (n : Nat) : List Int := ((List.range n).map fun i : Nat => (i : Int)).filter fun a => decide (Fst es a)
noncomputable def piecesOf (es : List (Int × Int)) (n : Nat) : List (List Int) := (firsts es n).map (compL es n)
theorem rngI_mem {n : Nat} {x : Int} : x ∈ ((List.range n).map fun i : Nat => (i : Int)) ↔ 0 ≤ x ∧ x < n := by
  rw [List.mem_map]
  constructor
  · rintro ⟨i, hi, rfl⟩
    have := List.mem_range.mp hi
    omega
  · intro h
    exact ⟨x.toNat, List.mem_range.mpr (by omega), by omega⟩
theorem rngI_lt {n : Nat} : ((List.range n).map fun i : Nat => (i : Int)).Pairwise (· < ·) := List.Pairwise.map _ (fun a b (h : a < b) => by omega) List.pairwise_lt_range
open Classical in
theorem compL_mem {es : List (Int × Int)} {n : Nat} {a b : Int} (hi : Inr es n) (ha : 0 ≤ a ∧ a < n) : b ∈ compL es n a ↔ Con es a b := by
  unfold compL
  rw [List.mem_filter, rngI_mem, decide_eq_true_eq]
  exact ⟨fun h => h.2, fun h => ⟨h.inr hi ha, h⟩⟩
theorem compL_lt {es : List (Int × Int)} {n : Nat} {a : Int} : (compL es n a).Pairwise (· < ·) := List.Pairwise.filter _ rngI_lt
theorem nodup_of_lt {xs : List Int} (h : xs.Pairwise (· < ·)) : xs.Nodup := h.imp fun h => by omega
theorem rise_eq {xs ys : List Int} (h1 : xs.Nodup) (h2 : xs.Pairwise (· ≤ ·)) (h3 : ys.Pairwise (· < ·)) (h : ∀ a, a ∈ xs ↔ a ∈ ys) : xs = ys :=
  List.Perm.eq_of_pairwise (le := (· ≤ ·)) (fun a b _ _ h1 h2 => Int.le_antisymm h1 h2) h2 (h3.imp fun h => Int.le_of_lt h) ((List.perm_ext_iff_of_nodup h1 (nodup_of_lt h3)).mpr h)
/-- what the search knows -/
structure RInv (es : List (Int × Int)) (n : Nat) (first : Int) (P : Int → Prop) (ks td : List Int) : Prop where
  nd : ks.Nodup
  con : ∀ x ∈ ks, Con es first x
  bd : ∀ x ∈ ks, 0 ≤ x ∧ x < n
  sub : ∀ x ∈ td, x ∈ ks
  f : first ∈ ks
  cl : ∀ x ∈ ks, x ∉ td → ¬ P x → ∀ y, Adj es x y → y ∈ ks
theorem RInv.add {es : List (Int × Int)} {n : Nat} {first w x : Int} {P : Int → Prop} {ks td : List Int} (h : RInv es n first P ks td) (hi : Inr es n) (hx : x ∉ ks) (hw : w ∈ ks) (ha : Adj es w x) : RInv es n first P (ks ++ [x]) (td ++ [x]) where
  nd := by
    have := nodup_addK (k := x) h.nd
    rwa [addK, if_neg hx] at this
  con y hy := by
    rcases List.mem_append.mp hy with hy | hy
    · exact h.con y hy
    · cases List.mem_singleton.mp hy
      exact (h.con w hw).step ha
  bd y hy := by
    rcases List.mem_append.mp hy with hy | hy
    · exact h.bd y hy
    · cases List.mem_singleton.mp hy
      exact (ha.inr hi).2
  sub y hy := by
    rcases List.mem_append.mp hy with hy | hy
    · exact List.mem_append.mpr (.inl (h.sub y hy))
    · exact List.mem_append.mpr (.inr hy)
  f := List.mem_append.mpr (.inl h.f)
  cl y hy hn hp z hz := by
    rcases List.mem_append.mp hy with hy | hy
    · exact List.mem_append.mpr (.inl (h.cl y hy (fun z => hn (List.mem_append.mpr (.inl z))) hp z hz))
    · exact absurd (List.mem_append.mpr (.inr hy)) hn
theorem RInv.end_ {es : List (Int × Int)} {n : Nat} {first : Int} {ks ys : List Int} (h : RInv es n first (fun _ => False) ks []) (hi : Inr es n) (hp : ys.Perm ks) (hs : ys.Pairwise (· ≤ ·)) : ys = compL es n first := by
  refine rise_eq (hp.nodup_iff.mpr h.nd) hs compL_lt fun a => ?_
  rw [hp.mem_iff, compL_mem hi (h.bd _ h.f)]
  refine ⟨h.con a, fun hc => ?_⟩
  induction hc with
  | refl => exact h.f
  | step _ e ih => exact h.cl _ ih List.not_mem_nil id _ e
/-! labels -/
def low (xs : List Int) (e : Int × Int) : Int := if cnt xs e.2 < cnt xs e.1 then cnt xs e.2 else cnt xs e.1
def rlx (xs : List Int) (e : Int × Int) : List Int := (xs.set e.1.toNat (low xs e)).set e.2.toNat (low xs e)
theorem cnt_set {xs : List Int} {i j v : Int} (h0 : 0 ≤ i) (h1 : i < xs.length) (h2 : 0 ≤ j) : cnt (xs.set i.toNat v) j = if i = j then v else cnt xs j := by
  unfold Rh.cnt
  rw [List.getElem?_set]
  by_cases e : i = j
  · subst e
    rw [if_pos rfl, if_pos (by omega), if_pos rfl]
    rfl
  · rw [if_neg (by omega), if_neg e]
structure Lab (es : List (Int × Int)) (n : Nat) (xs : List Int) : Prop where
  len : xs.length = n
  con : ∀ i : Int, 0 ≤ i → i < n → Con es i (cnt xs i)
theorem rlx_len {xs : List Int} {e : Int × Int} : (rlx xs e).length = xs.length := by
  unfold rlx
  rw [List.length_set, List.length_set]
theorem rlx_at {xs : List Int} {e : Int × Int} {n : Nat} (hl : xs.length = n) (he : (0 ≤ e.1 ∧ e.1 < n) ∧ (0 ≤ e.2 ∧ e.2 < n)) {j : Int} (hj : 0 ≤ j) : cnt (rlx xs e) j = if j = e.1 ∨ j = e.2 then (low xs e) else cnt xs j := by
  unfold rlx
  rw [cnt_set he.2.1 (by rw [List.length_set]; omega) hj, cnt_set he.1.1 (by omega) hj]
  by_cases h1 : e.2 = j
  · rw [if_pos h1, if_pos (.inr h1.symm)]
  · rw [if_neg h1]
    by_cases h2 : e.1 = j
    · rw [if_pos h2, if_pos (.inl h2.symm)]
    · rw [if_neg h2, if_neg (fun z => z.elim (fun z => h2 z.symm) (fun z => h1 z.symm))]
theorem Lab.rlx {es : List (Int × Int)} {n : Nat} {xs : List Int} {e : Int × Int} (h : Lab es n xs) (hi : Inr es n) (he : e ∈ es) : Lab es n (rlx xs e) where
  len := rlx_len.trans h.len
  con i h0 h1 := by
    have hr := hi e he
    rw [rlx_at h.len hr h0]
    have e1 : Con es e.1 e.2 := .one (.inl he)
    have c1 := h.con _ hr.1.1 hr.1.2
    have c2 := h.con _ hr.2.1 hr.2.2
    have lo : Con es e.1 (low xs e) := by
      unfold low
      split
      · exact e1.trans c2
      · exact c1
    split
    · rename_i z
      rcases z with rfl | rfl
      · exact lo
      · exact e1.symm.trans lo
    · exact h.con i h0 h1
theorem rlx_keep {es : List (Int × Int)} {n : Nat} {xs : List Int} {e : Int × Int} {m i : Int} (h : Lab es n xs) (hi : Inr es n) (he : e ∈ es) (hm : Fst es m) (h0 : 0 ≤ i) (h1 : i < n) (hx : cnt xs i = m) : cnt (Lw.rlx xs e) i = m := by
  have hl := (h.rlx hi he).con i h0 h1
  have hr := hi e he
  have hc := h.con i h0 h1
  rw [hx] at hc
  have ge := hm _ (hc.symm.trans hl)
  have : cnt (Lw.rlx xs e) i ≤ cnt xs i := by
    rw [rlx_at h.len hr h0]
    split
    · rename_i z
      unfold low
      rcases z with rfl | rfl
      · split <;> omega
      · split <;> omega
    · exact Int.le_refl _
  omega
theorem rlx_both {es : List (Int × Int)} {n : Nat} {xs : List Int} {e : Int × Int} {m : Int} (h : Lab es n xs) (hi : Inr es n) (he : e ∈ es) (hm : Fst es m) (hx : cnt xs e.1 = m ∨ cnt xs e.2 = m) : cnt (Lw.rlx xs e) e.1 = m ∧ cnt (Lw.rlx xs e) e.2 = m := by
  have hr := hi e he
  have e1 := rlx_at (e := e) h.len hr hr.1.1
  have e2 := rlx_at (e := e) h.len hr hr.2.1
  rw [if_pos (.inl rfl)] at e1
  rw [if_pos (.inr rfl)] at e2
  rcases hx with hx | hx
  · have := rlx_keep h hi he hm hr.1.1 hr.1.2 hx
    rw [e2, ← e1]
    exact ⟨this, this⟩
  · have := rlx_keep h hi he hm hr.2.1 hr.2.2 hx
    rw [e1, ← e2]
    exact ⟨this, this⟩
theorem lap_lab {es : List (Int × Int)} {n : Nat} (hi : Inr es n) : ∀ (fs : List (Int × Int)) {xs : List Int}, (∀ e ∈ fs, e ∈ es) → Lab es n xs → Lab es n (fs.foldl rlx xs)
  | [], _, _, h => h
  | e :: fs, _, hs, h => lap_lab hi fs (fun x hx => hs x (List.mem_cons_of_mem _ hx)) (h.rlx hi (hs e List.mem_cons_self))
theorem lap_keep {es : List (Int × Int)} {n : Nat} {m i : Int} (hi : Inr es n) (hm : Fst es m) (h0 : 0 ≤ i) (h1 : i < n) : ∀ (fs : List (Int × Int)) {xs : List Int}, (∀ e ∈ fs, e ∈ es) → Lab es n xs → cnt xs i = m → cnt (fs.foldl rlx xs) i = m
  | [], _, _, _, h => h
  | e :: fs, _, hs, h, hx => lap_keep hi hm h0 h1 fs (fun x hx => hs x (List.mem_cons_of_mem _ hx)) (h.rlx hi (hs e List.mem_cons_self)) (rlx_keep h hi (hs e List.mem_cons_self) hm h0 h1 hx)
theorem lap_both {es : List (Int × Int)} {n : Nat} {m : Int} (hi : Inr es n) (hm : Fst es m) : ∀ (fs : List (Int × Int)) {xs : List Int}, (∀ e ∈ fs, e ∈ es) → Lab es n xs → ∀ e ∈ fs, (cnt xs e.1 = m ∨ cnt xs e.2 = m) → cnt (fs.foldl rlx xs) e.1 = m ∧ cnt (fs.foldl rlx xs) e.2 = m
  | [], _, _, _, _, he, _ => by cases he
  | f :: fs, xs, hs, h, e, he, hx => by
    have hf := hs f List.mem_cons_self
    have hs' : ∀ x ∈ fs, x ∈ es := fun x hx => hs x (List.mem_cons_of_mem _ hx)
    have hr := hi e (hs e he)
    rcases List.mem_cons.mp he with rfl | he'
    · obtain ⟨a, b⟩ := rlx_both h hi hf hm hx
      exact ⟨lap_keep hi hm hr.1.1 hr.1.2 fs hs' (h.rlx hi hf) a, lap_keep hi hm hr.2.1 hr.2.2 fs hs' (h.rlx hi hf) b⟩
    · exact lap_both hi hm fs hs' (h.rlx hi hf) e he' (hx.imp (rlx_keep h hi hf hm hr.1.1 hr.1.2) (rlx_keep h hi hf hm hr.2.1 hr.2.2))
def laps (es : List (Int × Int)) : Nat → List Int → List Int
  | 0, xs => xs
  | k + 1, xs => es.foldl rlx (laps es k xs)
theorem laps_lab {es : List (Int × Int)} {n : Nat} {xs : List Int} (hi : Inr es n) (h : Lab es n xs) : ∀ k, Lab es n (laps es k xs)
  | 0 => h
  | k + 1 => lap_lab hi es (fun _ h => h) (laps_lab hi h k)
theorem laps_grow {es : List (Int × Int)} {n : Nat} {xs : List Int} {m : Int} (hi : Inr es n) (h : Lab es n xs) (hm : Fst es m) (h0 : 0 ≤ m) (h1 : m < n) (hx : cnt xs m = m) : ∀ k, (∀ v, Con es m v → cnt (laps es k xs) v = m) ∨ ∃ L : List Int, L.Nodup ∧ L.length = k + 1 ∧ ∀ x : Int, x ∈ L → (0 ≤ x ∧ x < n) ∧ cnt (laps es k xs) x = m
  | 0 => .inr ⟨[m], List.pairwise_singleton _ _, rfl, fun x hx' => by cases List.mem_singleton.mp hx'; exact ⟨⟨h0, h1⟩, hx⟩⟩
  | k + 1 => by
    have hl := laps_lab hi h k
    rcases laps_grow hi h hm h0 h1 hx k with ih | ⟨L, nd, ln, hL⟩
    · left
      intro v hv
      have := hv.inr hi ⟨h0, h1⟩
      exact lap_keep hi hm this.1 this.2 es (fun _ h => h) hl (ih v hv)
    · by_cases hc : ∃ e ∈ es, (cnt (laps es k xs) e.1 = m ∨ cnt (laps es k xs) e.2 = m) ∧ ¬ (cnt (laps es k xs) e.1 = m ∧ cnt (laps es k xs) e.2 = m)
      · right
        obtain ⟨e, he, h3, h4⟩ := hc
        have hr := hi e he
        obtain ⟨b1, b2⟩ := lap_both hi hm es (fun _ h => h) hl e he h3
        have key : ∃ x : Int, (0 ≤ x ∧ x < n) ∧ x ∉ L ∧ cnt (laps es (k + 1) xs) x = m := by
          by_cases h5 : cnt (laps es k xs) e.1 = m
          · exact ⟨e.2, hr.2, fun z => h4 ⟨h5, (hL _ z).2⟩, b2⟩
          · exact ⟨e.1, hr.1, fun z => h5 (hL _ z).2, b1⟩
        obtain ⟨x, hx1, hx2, hx3⟩ := key
        refine ⟨x :: L, List.nodup_cons.mpr ⟨hx2, nd⟩, by rw [List.length_cons, ln], fun y hy => ?_⟩
        rcases List.mem_cons.mp hy with rfl | hy
        · exact ⟨hx1, hx3⟩
        · obtain ⟨h5, h6⟩ := hL y hy
          exact ⟨h5, lap_keep hi hm h5.1 h5.2 es (fun _ h => h) hl h6⟩
      · left
        have hall : ∀ v, Con es m v → cnt (laps es k xs) v = m := by
          obtain ⟨y, hy⟩ : ∃ y, y ∈ L := by
            cases L with
            | nil => cases ln
            | cons y _ => exact ⟨y, List.mem_cons_self⟩
          have cy := (laps_lab hi h k).con y (hL y hy).1.1 (hL y hy).1.2
          rw [(hL y hy).2] at cy
          intro v hv
          have hv2 := cy.trans hv
          induction hv2 with
          | refl => exact (hL y hy).2
          | step h' e ih =>
            have ih := ih (cy.symm.trans h')
            refine Classical.byContradiction fun hn => hc ?_
            rcases e with e | e
            · exact ⟨_, e, .inl ih, fun z => hn z.2⟩
            · exact ⟨_, e, .inr ih, fun z => hn z.1⟩
        intro v hv
        have := hv.inr hi ⟨h0, h1⟩
        exact lap_keep hi hm this.1 this.2 es (fun _ h => h) hl (hall v hv)
theorem laps_end {es : List (Int × Int)} {n : Nat} {xs : List Int} {m : Int} (hi : Inr es n) (h : Lab es n xs) (hm : Fst es m) (h0 : 0 ≤ m) (h1 : m < n) (hx : cnt xs m = m) (v : Int) (hv : Con es m v) : cnt (laps es n xs) v = m := by
  rcases laps_grow hi h hm h0 h1 hx n with h2 | ⟨L, nd, ln, hL⟩
  · exact h2 v hv
  · have := nodup_le n L nd fun x hx => (hL x hx).1
    omega
theorem fst_ex {es : List (Int × Int)} {n : Nat} (hi : Inr es n) : ∀ (k : Nat) (a : Int), 0 ≤ a → a < n → a ≤ k → ∃ m, Con es a m ∧ Fst es m
  | 0, a, h0, h1, h2 => ⟨a, .refl, fun u hu => by have := hu.inr hi ⟨h0, h1⟩; omega⟩
  | k + 1, a, h0, h1, h2 => by
    by_cases h : Fst es a
    · exact ⟨a, .refl, h⟩
    · obtain ⟨u, hu⟩ := Classical.not_forall.mp h
      obtain ⟨hu, hlt⟩ := Classical.not_imp.mp hu
      have hr := hu.inr hi ⟨h0, h1⟩
      obtain ⟨m, hm, hf⟩ := fst_ex hi k u hr.1 hr.2 (by omega)
      exact ⟨m, hu.trans hm, hf⟩
theorem fst_eq {es : List (Int × Int)} {a b : Int} (ha : Fst es a) (hb : Fst es b) (h : Con es a b) : a = b := Int.le_antisymm (ha _ h) (hb _ h.symm)
/-- the label at the end is the first of the piece -/
theorem laps_lbl {es : List (Int × Int)} {n : Nat} {xs : List Int} (hi : Inr es n) (h : Lab es n xs) (hx : ∀ i : Int, 0 ≤ i → i < n → cnt xs i = i) {v : Int} (h0 : 0 ≤ v) (h1 : v < n) : Fst es (cnt (laps es n xs) v) ∧ Con es v (cnt (laps es n xs) v) := by
  obtain ⟨m, hm, hf⟩ := fst_ex hi v.toNat v h0 h1 (by omega)
  have hr := hm.inr hi ⟨h0, h1⟩
  rw [laps_end hi h hf hr.1 hr.2 (hx m hr.1 hr.2) v hm.symm]
  exact ⟨hf, hm⟩
def ends (ls : List Ln) : List (Int × Int) := ls.map fun l => (l.g, l.t)
theorem ends_mem {ls : List Ln} {l : Ln} (h : l ∈ ls) : (l.g, l.t) ∈ ends ls := List.mem_map.mpr ⟨l, h, rfl⟩
def RS (μ : Sto) (pf pt : Addr) (es : List (Int × Int)) (n : Nat) (first w : Int) (m : Nat) (Q : List Int → Prop) (μ' : Sto) : Prop := ∃ ks td, μ' = (μ.set pf (.dict (setD ks))).set pt (.lst (td.map T.int)) ∧ RInv es n first (· = w) ks td ∧ w ∈ ks ∧ 2 * n + td.length < m + 2 * ks.length ∧ Q ks
def Seen (ls : List Ln) (w : Int) (k : Nat) (ks : List Int) : Prop := ∀ l ∈ ls.take k, (l.g = w → l.t ∈ ks) ∧ (l.t = w → l.g ∈ ks)
theorem Seen.app {ls : List Ln} {w x : Int} {k : Nat} {ks : List Int} (h : Seen ls w k ks) : Seen ls w k (ks ++ [x]) := fun l hl => ⟨fun e => List.mem_append.mpr (.inl ((h l hl).1 e)), fun e => List.mem_append.mpr (.inl ((h l hl).2 e))⟩
theorem Sub.both {μ μ' : Sto} {q : Addr} {o : Ob} (h : Sub μ μ') : Sub (μ.set q o) (μ'.set q o) := fun a x e => by
  by_cases ea : a = q
  · subst ea
    rw [set_self] at e ⊢
    exact e
  · rw [set_ne ea] at e ⊢
    exact h a x e
def Vis (w a b : Int) (ks : List Int) : Prop := a = w → b ∈ ks
theorem RS.mono {μ : Sto} {pf pt : Addr} {es : List (Int × Int)} {n : Nat} {first w : Int} {m : Nat} {Q Q' : List Int → Prop} {μ' : Sto} (h : RS μ pf pt es n first w m Q μ') (k : ∀ ks, Q ks → Q' ks) : RS μ pf pt es n first w m Q' μ' := by
  obtain ⟨ks, td, a, b, c, d, e⟩ := h
  exact ⟨ks, td, a, b, c, d, k _ e⟩
theorem setD_len {ks : List Int} : (setD ks).length = ks.length := List.length_map _
/-- a list of one's own that holds lists of one's own, all made since -/
structure Nest (μ μ' : Sto) (p : Addr) (qs : List Addr) (ps : List (List Int)) : Prop where
  sub : Rh.Sub μ μ'
  fp : μ p = none
  at_ : μ' p = some (.lst (qs.map T.own))
  len : qs.length = ps.length
  it : ∀ (i : Nat) (q : Addr) (x : List Int), qs[i]? = some q → ps[i]? = some x → μ' q = some (.lst (x.map T.int))
  fr : ∀ q ∈ qs, μ q = none
  np : ∀ q ∈ qs, q ≠ p
  nd : qs.Nodup
def lsT (ps : List (List Int)) : T := .lst (ps.map fun x => .lst (x.map T.int))
def nestR (ps : List (List Int)) (μ : Sto) (R : RP) : Prop := (∀ p qs μ', Nest μ μ' p qs ps → R (.own p) μ') ∨ R (lsT ps) μ
theorem Nest.views {μ' : Sto} {fz : List Addr} : ∀ {qs : List Addr} {ps : List (List Int)}, qs.length = ps.length → (∀ (i : Nat) (q : Addr) (x : List Int), qs[i]? = some q → ps[i]? = some x → μ' q = some (.lst (x.map T.int))) → (∀ q ∈ qs, q ∈ fz) → Rh.Views μ' fz (qs.map T.own) (ps.map fun x => .lst (x.map T.int))
  | [], [], _, _, _ => .nil
  | [], _ :: _, h, _, _ => by cases h
  | _ :: _, [], h, _, _ => by cases h
  | q :: qs, x :: ps, h, it, hz => .cons (.own (it 0 q x rfl rfl) (hz q List.mem_cons_self) (.refl _)) (Nest.views (by simpa using h) (fun i q x h1 h2 => it (i + 1) q x h1 h2) fun q hq => hz q (List.mem_cons_of_mem _ hq))
theorem fin_nest {ps : List (List Int)} {μ μ' : Sto} {R : RP} {p : Addr} {qs : List Addr} (h : nestR ps μ R) (N : Nest μ μ' p qs ps) : fin_ R (.own p) μ' := by
  rcases h with h | h
  · exact fin_id (h _ _ _ N)
  · refine ⟨lsT ps, μ, ⟨p :: qs, .own N.at_ List.mem_cons_self (Nest.views N.len N.it fun q hq => List.mem_cons_of_mem _ hq), N.sub, fun a ha => ?_⟩, h⟩
    rcases List.mem_cons.mp ha with rfl | ha
    · exact N.fp
    · exact N.fr a ha
theorem Nest.add {μ μ' : Sto} {p q sd : Addr} {qs : List Addr} {ps : List (List Int)} {x : List Int} {o1 o2 : Ob} (N : Nest μ μ' p qs ps) (hq : μ' q = none) (h1 : μ' sd = some o1) (h2 : μ sd = none) (h3 : sd ≠ p) (h4 : sd ∉ qs) : Nest μ (((μ'.set q (.lst (x.map T.int))).set sd o2).set p (.lst (qs.map T.own ++ [.own q]))) p (qs ++ [q]) (ps ++ [x]) ∧ sd ∉ qs ++ [q] := by
  have nqp : q ≠ p := (nofr N.at_ hq).symm
  have nqs : q ≠ sd := (nofr h1 hq).symm
  have hfq : μ q = none := by
    cases e : μ q with
    | none => rfl
    | some o => rw [N.sub _ _ e] at hq; cases hq
  have nq : q ∉ qs := fun z => by
    obtain ⟨i, hi, e⟩ := List.mem_iff_getElem.mp z
    have := N.it i q _ (by rw [List.getElem?_eq_getElem hi, e]) (List.getElem?_eq_getElem (by rw [← N.len]; exact hi))
    rw [hq] at this
    cases this
  refine ⟨⟨fun a o e => ?_, N.fp, by rw [set_self, List.map_append]; rfl, by rw [List.length_append, List.length_append, N.len]; rfl, fun i a y ha hy => ?_, fun a ha => ?_, fun a ha => ?_, List.nodup_append.mpr ⟨N.nd, List.pairwise_singleton _ _, fun a ha b hb => by cases List.mem_singleton.mp hb; exact fun e => nq (e ▸ ha)⟩⟩, fun z => ?_⟩
  · rw [set_ne (fun z => by subst z; rw [N.fp] at e; cases e), set_ne (fun z => by subst z; rw [h2] at e; cases e), set_ne (fun z => by subst z; rw [hfq] at e; cases e)]
    exact N.sub _ _ e
  · by_cases hi : i < qs.length
    · rw [List.getElem?_append_left hi] at ha
      rw [List.getElem?_append_left (by rw [← N.len]; exact hi)] at hy
      have hm := List.mem_of_getElem? ha
      rw [set_ne (N.np a hm), set_ne (fun z : a = sd => h4 (z ▸ hm)), set_ne (fun z : a = q => nq (z ▸ hm))]
      exact N.it i a y ha hy
    · rw [List.getElem?_append_right (by omega)] at ha
      rw [List.getElem?_append_right (by rw [← N.len]; omega), ← N.len] at hy
      obtain ⟨e1, e2⟩ := List.getElem?_eq_some_iff.mp ha
      obtain ⟨e3, e4⟩ := List.getElem?_eq_some_iff.mp hy
      rw [List.getElem_singleton] at e2 e4
      subst e2 e4
      rw [set_ne nqp, set_ne nqs, set_self]
  · rcases List.mem_append.mp ha with ha | ha
    · exact N.fr a ha
    · cases List.mem_singleton.mp ha
      exact hfq
  · rcases List.mem_append.mp ha with ha | ha
    · exact N.np a ha
    · cases List.mem_singleton.mp ha
      exact nqp
  · rcases List.mem_append.mp z with z | z
    · exact h4 z
    · cases List.mem_singleton.mp z
      exact nqs rfl
theorem HallAt.sub {μ μ' : Sto} {h l1 l2 : Addr} {ns : List Str} {ls : List Ln} (H : HallAt μ h l1 l2 ns ls) (s : Rh.Sub μ μ') : HallAt μ' h l1 l2 ns ls := ⟨s _ _ H.o, s _ _ H.w, s _ _ H.b, H.ne⟩
theorem piecesOf_succ {es : List (Int × Int)} {n k : Nat} : (firsts es (k + 1)).map (compL es n) = (firsts es k).map (compL es n) ++ (open Classical in if Fst es (k : Int) then [compL es n k] else []) := by
  classical
  unfold firsts
  rw [List.range_succ, List.map_append, List.filter_append, List.map_append]
  congr 1
  by_cases h : Fst es (k : Int)
  · simp [h]
  · simp [h]
theorem cop_dvd {x y k : Int} (h : Int.gcd x y = 1) (d : x ∣ y * k) : x ∣ k := by
  have h' : Nat.Coprime x.natAbs y.natAbs := h
  have d' := Int.natAbs_dvd_natAbs.mpr d
  rw [Int.natAbs_mul, Nat.mul_comm] at d'
  exact Int.natAbs_dvd_natAbs.mp (h'.dvd_of_dvd_mul_right d')
/-- reduced ratios that are the same -/
theorem red_eq {x y u v : Int} (hx : 0 < x) (hy : 0 < y) (hu : 0 < u) (hv : 0 < v) (h1 : Int.gcd x y = 1) (h2 : Int.gcd u v = 1) (h : x * v = y * u) : x = u ∧ y = v := by
  have a1 : x ∣ u := cop_dvd h1 ⟨v, h.symm⟩
  have a2 : u ∣ x := cop_dvd h2 ⟨y, by rw [Int.mul_comm v x, h, Int.mul_comm]⟩
  have e : x = u := Int.dvd_antisymm (by omega) (by omega) a1 a2
  subst e
  refine ⟨rfl, ?_⟩
  have : x * v = x * y := by rw [h, Int.mul_comm]
  exact (Int.eq_of_mul_eq_mul_left (by omega) this).symm
/-! ways along belts -/
abbrev Pace := Int × Bool
def Path (ls : List Ln) : Int → List Pace → Int → Prop
  | a, [], c => a = c
  | a, (b, d) :: r, c => ∃ l, 0 ≤ b ∧ ls[b.toNat]? = some l ∧ (if d = true then l.g = a ∧ Path ls l.t r c else l.t = a ∧ Path ls l.g r c)
def fac (ls : List Ln) (b : Int) (d : Bool) : Int := match ls[b.toNat]? with
  | some l => if d = true then l.gi else l.ta
  | none => 1
def topP (ls : List Ln) : List Pace → Int
  | [] => 1
  | (b, d) :: r => fac ls b d * topP ls r
def botP (ls : List Ln) : List Pace → Int
  | [] => 1
  | (b, d) :: r => fac ls b (!d) * botP ls r
theorem topP_app {ls : List Ln} : ∀ {p q : List Pace}, topP ls (p ++ q) = topP ls p * topP ls q
  | [], q => (Int.one_mul _).symm
  | (b, d) :: r, q => by rw [List.cons_append, topP, topP, topP_app, Int.mul_assoc]
theorem botP_app {ls : List Ln} : ∀ {p q : List Pace}, botP ls (p ++ q) = botP ls p * botP ls q
  | [], q => (Int.one_mul _).symm
  | (b, d) :: r, q => by rw [List.cons_append, botP, botP, botP_app, Int.mul_assoc]
def inv (p : List Pace) : List Pace := p.reverse.map fun x => (x.1, !x.2)
theorem inv_cons {b : Int} {d : Bool} {r : List Pace} : inv ((b, d) :: r) = inv r ++ [(b, !d)] := by
  unfold inv
  rw [List.reverse_cons, List.map_append]
  rfl
theorem topP_inv {ls : List Ln} : ∀ {p : List Pace}, topP ls (inv p) = botP ls p
  | [] => rfl
  | (b, d) :: r => by rw [inv_cons, topP_app, topP_inv, botP, topP, topP, Int.mul_one, Int.mul_comm]
theorem botP_inv {ls : List Ln} : ∀ {p : List Pace}, botP ls (inv p) = topP ls p
  | [] => rfl
  | (b, d) :: r => by rw [inv_cons, botP_app, botP_inv, topP, botP, botP, Int.mul_one, Bool.not_not, Int.mul_comm]
theorem Path.app {ls : List Ln} {c e : Int} {q : List Pace} : ∀ {p : List Pace} {a : Int}, Path ls a p c → Path ls c q e → Path ls a (p ++ q) e
  | [], a, h, k => by cases h; exact k
  | (b, d) :: r, a, ⟨l, h0, h1, h2⟩, k => by
    refine ⟨l, h0, h1, ?_⟩
    cases d
    · exact ⟨h2.1, Path.app h2.2 k⟩
    · exact ⟨h2.1, Path.app h2.2 k⟩
theorem Path.split {ls : List Ln} {e : Int} {q : List Pace} : ∀ {p : List Pace} {a : Int}, Path ls a (p ++ q) e → ∃ c, Path ls a p c ∧ Path ls c q e
  | [], a, h => ⟨a, rfl, h⟩
  | (b, d) :: r, a, ⟨l, h0, h1, h2⟩ => by
    cases d
    · obtain ⟨c, k1, k2⟩ := Path.split h2.2
      exact ⟨c, ⟨l, h0, h1, h2.1, k1⟩, k2⟩
    · obtain ⟨c, k1, k2⟩ := Path.split h2.2
      exact ⟨c, ⟨l, h0, h1, h2.1, k1⟩, k2⟩
theorem Path.fn {ls : List Ln} {c e : Int} : ∀ {p : List Pace} {a : Int}, Path ls a p c → Path ls a p e → c = e
  | [], a, h, k => h.symm.trans k
  | (b, d) :: r, a, ⟨l, h0, h1, h2⟩, ⟨l', k0, k1, k2⟩ => by
    rw [h1] at k1
    cases k1
    cases d
    · exact Path.fn h2.2 k2.2
    · exact Path.fn h2.2 k2.2
theorem Path.inv {ls : List Ln} {c : Int} : ∀ {p : List Pace} {a : Int}, Path ls a p c → Path ls c (inv p) a
  | [], a, h => h.symm
  | (b, d) :: r, a, ⟨l, h0, h1, h2⟩ => by
    rw [inv_cons]
    cases d
    · exact (Path.inv h2.2).app ⟨l, h0, h1, rfl, h2.1⟩
    · exact (Path.inv h2.2).app ⟨l, h0, h1, rfl, h2.1⟩
theorem Path.con {ls : List Ln} {c : Int} : ∀ {p : List Pace} {a : Int}, Path ls a p c → Con (ends ls) a c
  | [], a, h => h ▸ .refl
  | (b, d) :: r, a, ⟨l, h0, h1, h2⟩ => by
    have hl := List.mem_of_getElem? h1
    cases d
    · obtain ⟨rfl, h3⟩ := h2
      exact (Con.one (Or.inr (ends_mem hl))).trans h3.con
    · obtain ⟨rfl, h3⟩ := h2
      exact (Con.one (Or.inl (ends_mem hl))).trans h3.con
def PosL (ls : List Ln) : Prop := ∀ l ∈ ls, 1 ≤ Ln.gi l ∧ 1 ≤ l.ta
theorem fac_pos {ls : List Ln} (h : PosL ls) {b : Int} {d : Bool} : 0 < fac ls b d := by
  unfold fac
  split
  · rename_i l e
    have := h l (List.mem_of_getElem? e)
    split <;> omega
  · decide
theorem topP_pos {ls : List Ln} (h : PosL ls) : ∀ {p : List Pace}, 0 < topP ls p
  | [] => show (0 : Int) < 1 by decide
  | (b, d) :: r => Int.mul_pos (fac_pos h) (topP_pos h)
theorem botP_pos {ls : List Ln} (h : PosL ls) : ∀ {p : List Pace}, 0 < botP ls p
  | [] => show (0 : Int) < 1 by decide
  | (b, d) :: r => Int.mul_pos (fac_pos h) (botP_pos h)
/-- rates that keep every belt as it is -/
structure Sol (ls : List Ln) (n : Nat) (rs : List Int) : Prop where
  len : rs.length = n
  pos : ∀ w : Int, 0 ≤ w → w < n → 0 < cnt rs w
  bal : ∀ l ∈ ls, Ln.gi l * cnt rs l.g = l.ta * cnt rs l.t
structure Bal (ls : List Ln) (n : Nat) (rs : List Int) : Prop extends Sol ls n rs where
  one : ∀ a : Int, 0 ≤ a → a < n → ∀ d : Int, 0 ≤ d → (∀ w, Con (ends ls) a w → d ∣ cnt rs w) → d = 1
theorem Sol.path {ls : List Ln} {n : Nat} {rs : List Int} (S : Sol ls n rs) {c : Int} : ∀ {p : List Pace} {a : Int}, Path ls a p c → cnt rs a * topP ls p = cnt rs c * botP ls p
  | [], a, h => by cases h; rfl
  | (b, d) :: r, a, ⟨l, h0, h1, h2⟩ => by
    have hl := S.bal l (List.mem_of_getElem? h1)
    have ih : ∀ x, Path ls x r c → cnt rs x * topP ls r = cnt rs c * botP ls r := fun x h => S.path h
    rw [topP, botP]
    cases d
    · have h3 := ih _ h2.2
      obtain ⟨rfl, _⟩ := h2
      simp only [fac, h1, Bool.not_false, if_true, Bool.false_eq_true, if_false]
      calc cnt rs l.t * (l.ta * topP ls r) = (l.ta * cnt rs l.t) * topP ls r := by ac_rfl
        _ = l.gi * (cnt rs l.g * topP ls r) := by rw [← hl]; ac_rfl
        _ = cnt rs c * (l.gi * botP ls r) := by rw [h3]; ac_rfl
    · have h3 := ih _ h2.2
      obtain ⟨rfl, _⟩ := h2
      simp only [fac, h1, Bool.not_true, if_true, Bool.false_eq_true, if_false]
      calc cnt rs l.g * (l.gi * topP ls r) = (l.gi * cnt rs l.g) * topP ls r := by ac_rfl
        _ = l.ta * (cnt rs l.t * topP ls r) := by rw [hl]; ac_rfl
        _ = cnt rs c * (l.ta * botP ls r) := by rw [h3]; ac_rfl
/-- a ring that shows that there are no rates -/
structure OddRing (ls : List Ln) (ring : List Pace) : Prop where
  ne : ring ≠ []
  path : ∃ a, Path ls a ring a
  nd : (ring.map (·.1)).Nodup
  odd : topP ls ring ≠ botP ls ring
theorem OddRing.no {ls : List Ln} {n : Nat} {ring : List Pace} (O : OddRing ls ring) {rs : List Int} (S : Sol ls n rs) (hi : Inr (ends ls) n) : False := by
  obtain ⟨a, hp⟩ := O.path
  have h := S.path hp
  have ha : 0 ≤ a ∧ a < n := by
    cases hr : ring with
    | nil => exact absurd hr O.ne
    | cons x r =>
      obtain ⟨b, d⟩ := x
      rw [hr] at hp
      obtain ⟨l, _, h1, h2⟩ := hp
      have := hi _ (ends_mem (List.mem_of_getElem? h1))
      cases d
      · obtain ⟨rfl, _⟩ := h2
        exact this.2
      · obtain ⟨rfl, _⟩ := h2
        exact this.1
  exact O.odd (Int.eq_of_mul_eq_mul_left (Int.ne_of_gt (S.pos a ha.1 ha.2)) h)
theorem con_path {ls : List Ln} {a c : Int} (h : Con (ends ls) a c) : ∃ p, Path ls a p c := by
  induction h with
  | refl => exact ⟨[], rfl⟩
  | step _ e ih =>
    obtain ⟨p, hp⟩ := ih
    rcases e with e | e
    · obtain ⟨l, hl, e⟩ := List.mem_map.mp e
      obtain ⟨i, hi, e2⟩ := List.mem_iff_getElem.mp hl
      cases e
      refine ⟨p ++ [((i : Int), true)], hp.app ⟨l, Int.natCast_nonneg i, ?_, rfl, rfl⟩⟩
      rw [Int.toNat_natCast, List.getElem?_eq_getElem hi, e2]
    · obtain ⟨l, hl, e⟩ := List.mem_map.mp e
      obtain ⟨i, hi, e2⟩ := List.mem_iff_getElem.mp hl
      cases e
      refine ⟨p ++ [((i : Int), false)], hp.app ⟨l, Int.natCast_nonneg i, ?_, rfl, rfl⟩⟩
      rw [Int.toNat_natCast, List.getElem?_eq_getElem hi, e2]
theorem sol_prop {ls : List Ln} {n : Nat} {rs qs : List Int} (hp : PosL ls) (S : Sol ls n rs) (Q : Sol ls n qs) {a c : Int} (h : Con (ends ls) a c) : cnt rs a * cnt qs c = cnt rs c * cnt qs a := by
  obtain ⟨p, h⟩ := con_path h
  have h1 := S.path h
  have h2 := Q.path h
  have ht := topP_pos hp (p := p)
  have hb := botP_pos hp (p := p)
  apply Int.eq_of_mul_eq_mul_left (Int.ne_of_gt (Int.mul_pos ht hb))
  calc topP ls p * botP ls p * (cnt rs a * cnt qs c) = (cnt rs a * topP ls p) * (cnt qs c * botP ls p) := by ac_rfl
    _ = (cnt rs c * botP ls p) * (cnt qs a * topP ls p) := by rw [h1, h2]
    _ = topP ls p * botP ls p * (cnt rs c * cnt qs a) := by ac_rfl
theorem bal_uniq {ls : List Ln} {n : Nat} {rs qs : List Int} (hp : PosL ls) (hi : Inr (ends ls) n) (S : Bal ls n rs) (Q : Bal ls n qs) : rs = qs := by
  have key : ∀ a : Int, 0 ≤ a → a < n → cnt rs a = cnt qs a := fun a h0 h1 => by
    obtain ⟨g, x, y, e, hg, hx, hy, e1, e2, h3⟩ := gcd_parts (S.pos a h0 h1) (Q.pos a h0 h1)
    have hx1 : x = 1 := S.one a h0 h1 x (by omega) fun w hw => by
      have h := sol_prop hp S.toSol Q.toSol hw
      rw [e1, e2] at h
      have h : x * cnt qs w = y * cnt rs w := by
        apply Int.eq_of_mul_eq_mul_left (Int.ne_of_gt hg)
        rw [← Int.mul_assoc, h]
        ac_rfl
      exact cop_dvd h3 ⟨_, h.symm⟩
    have hy1 : y = 1 := Q.one a h0 h1 y (by omega) fun w hw => by
      have h := sol_prop hp S.toSol Q.toSol hw
      rw [e1, e2] at h
      have h : x * cnt qs w = y * cnt rs w := by
        apply Int.eq_of_mul_eq_mul_left (Int.ne_of_gt hg)
        rw [← Int.mul_assoc, h]
        ac_rfl
      exact cop_dvd (by rw [Int.gcd_comm]; exact h3) ⟨_, h⟩
    rw [e1, e2, hx1, hy1]
  refine List.ext_getElem (S.len.trans Q.len.symm) fun i h1 h2 => ?_
  have := key i (by omega) (by rw [← S.len]; omega)
  unfold Rh.cnt at this
  rw [Int.toNat_natCast, List.getElem?_eq_getElem h1, List.getElem?_eq_getElem h2] at this
  exact this
structure Ent where
  v : Int
  p : Int
  q : Int
  w : List Pace
  r : Int
def paceT (x : Pace) : T := .tup [.int x.1, .bl x.2]
def entD (f : Ent → T) (es : List Ent) : List (Key × T) := es.map fun e => (.inl e.v, f e)
def ratT (e : Ent) : T := .tup [.int e.p, .int e.q]
def wayT (e : Ent) : T := .lst (e.w.map paceT)
def keysE (es : List Ent) : List Int := es.map Ent.v
theorem ent_same {es : List Ent} (nd : (keysE es).Nodup) {e f : Ent} (he : e ∈ es) (hf : f ∈ es) (h : e.v = f.v) : e = f := by
  obtain ⟨i, hi, rfl⟩ := List.mem_iff_getElem.mp he
  obtain ⟨j, hj, rfl⟩ := List.mem_iff_getElem.mp hf
  have := (List.getElem_inj (xs := keysE es) (i := i) (j := j) (h₀ := by unfold keysE; rw [List.length_map]; exact hi) (h₁ := by unfold keysE; rw [List.length_map]; exact hj) nd).mp (by unfold keysE; rw [List.getElem_map, List.getElem_map]; exact h)
  subst this
  rfl
theorem val_ent {f : Ent → T} {es : List Ent} {e : Ent} (nd : (keysE es).Nodup) (h : e ∈ es) : valT (entD f es) (.inl e.v) = some (f e) := by
  unfold valT entD
  rw [List.find?_map, Option.map_map]
  cases q : es.find? ((fun kv : Key × T => decide (kv.1 = (.inl e.v : Key))) ∘ fun e => ((.inl e.v : Key), f e)) with
  | none =>
    have := List.find?_eq_none.mp q e h
    simp at this
  | some e' =>
    have h1 := List.find?_some q
    have h2 := List.mem_of_find?_eq_some q
    have h1 := of_decide_eq_true h1
    injection h1 with h1
    rw [ent_same nd h2 h h1]
    rfl
theorem any_ent {f : Ent → T} {es : List Ent} {k : Int} : ((entD f es).any fun kv => decide (kv.1 = (.inl k : Key))) = decide (k ∈ keysE es) := by
  unfold entD
  rw [List.any_map, Bool.eq_iff_iff, List.any_eq_true, decide_eq_true_eq]
  constructor
  · rintro ⟨x, hx, e⟩
    have e := of_decide_eq_true e
    injection e with e
    exact e ▸ List.mem_map.mpr ⟨x, hx, rfl⟩
  · intro h
    obtain ⟨x, hx, rfl⟩ := List.mem_map.mp h
    exact ⟨x, hx, decide_eq_true rfl⟩
theorem put_ent {f : Ent → T} {es : List Ent} {e : Ent} (h : e.v ∉ keysE es) : putT (entD f es) (.inl e.v) (f e) = entD f (es ++ [e]) := by
  unfold putT
  rw [any_ent, if_neg (by rw [decide_eq_true_eq]; exact h)]
  unfold entD
  rw [List.map_append]
  rfl
theorem in_ent {f : Ent → T} {μ : Sto} {p : Addr} {es : List Ent} {i : Int} {neg : Bool} {R : RP} (h : μ p = some (.dict (entD f es))) : tIn neg (.int i) (.own p) μ R = R (.bl (if neg = true then !decide (i ∈ keysE es) else decide (i ∈ keysE es))) μ := by
  have : (valT (entD f es) (.inl i)).isSome = decide (i ∈ keysE es) := by
    unfold valT
    rw [Option.isSome_map, ← any_ent (f := f), Bool.eq_iff_iff, List.find?_isSome, List.any_eq_true]
  simp only [tIn, isDict, h, onK, T.own.injEq, Option.some.injEq, Ob.dict.injEq, keyT, exists_eq_left', exists_and_left, this]
theorem ix_ent {f : Ent → T} {μ : Sto} {p : Addr} {es : List Ent} {e : Ent} {R : RP} (h : μ p = some (.dict (entD f es))) (nd : (keysE es).Nodup) (he : e ∈ es) : tIdx (.own p) (.int e.v) μ R = R (f e) μ := by
  simp only [tIdx, isDict, h, onK, T.own.injEq, Option.some.injEq, Ob.dict.injEq, keyT, exists_eq_left', exists_and_left, val_ent nd he]
theorem entD_len {f : Ent → T} {es : List Ent} : (entD f es).length = es.length := List.length_map _
theorem keysE_add {es : List Ent} {e : Ent} : keysE (es ++ [e]) = keysE es ++ [e.v] := by
  unfold keysE
  rw [List.map_append]
  rfl
/-- what is known of the ways found -/
structure TI (ls : List Ln) (n : Nat) (es : List Ent) : Prop where
  nd : (keysE es).Nodup
  bd : ∀ e ∈ es, 0 ≤ e.v ∧ e.v < n
  pos : ∀ e ∈ es, 0 < e.p ∧ 0 < e.q ∧ Int.gcd e.p e.q = 1
  bt : ∀ e ∈ es, Bt (128 * e.w.length + 1) e.p ∧ Bt (128 * e.w.length + 1) e.q
  wl : ∀ e ∈ es, e.w.length < es.length
  path : ∀ e ∈ es, Path ls e.r e.w e.v ∧ Fst (ends ls) e.r
  val : ∀ e ∈ es, e.p * botP ls e.w = e.q * topP ls e.w
  pre : ∀ e ∈ es, ∀ P, P <+: e.w → ∃ g ∈ es, g.w = P ∧ g.r = e.r
  uni : ∀ e ∈ es, ∀ f ∈ es, ∀ P Q b d d', e.w = P ++ [(b, d)] → f.w = Q ++ [(b, d')] → P ++ [(b, d)] = Q ++ [(b, d')]
theorem TI.nil {ls : List Ln} {n : Nat} : TI ls n [] := by
  constructor <;> first | exact List.nodup_nil | (intro e he; cases he)
theorem TI.len {ls : List Ln} {n : Nat} {es : List Ent} (h : TI ls n es) : es.length ≤ n := by
  have := nodup_le n (keysE es) h.nd fun k hk => by
    obtain ⟨e, he, rfl⟩ := List.mem_map.mp hk
    exact h.bd e he
  unfold keysE at this
  rwa [List.length_map] at this
theorem TI.root {ls : List Ln} {n : Nat} {es : List Ent} (h : TI ls n es) {a : Int} (ha : a ∉ keysE es) (hb : 0 ≤ a ∧ a < n) (hf : Fst (ends ls) a) : TI ls n (es ++ [⟨a, 1, 1, [], a⟩]) := by
  have key : ∀ {Q : Ent → Prop}, (∀ e ∈ es, Q e) → Q ⟨a, 1, 1, [], a⟩ → ∀ e ∈ es ++ [⟨a, 1, 1, [], a⟩], Q e := fun h1 h2 e he => by
    rcases List.mem_append.mp he with he | he
    · exact h1 e he
    · cases List.mem_singleton.mp he
      exact h2
  refine ⟨?_, key h.bd hb, key h.pos ⟨show (0 : Int) < 1 by decide, show (0 : Int) < 1 by decide, show Int.gcd 1 1 = 1 by decide⟩, key h.bt ⟨show Bt 1 1 by unfold Bt; decide, show Bt 1 1 by unfold Bt; decide⟩, key (fun e he => ?_) ?_, key h.path ⟨rfl, hf⟩, key h.val rfl, key (fun e he P hP => ?_) fun P hP => ?_, ?_⟩
  · rw [keysE_add]
    exact List.nodup_append.mpr ⟨h.nd, List.pairwise_singleton _ _, fun x hx y hy => by cases List.mem_singleton.mp hy; exact fun z : x = a => ha (z ▸ hx)⟩
  · have := h.wl e he
    rw [List.length_append, List.length_singleton]
    omega
  · rw [List.length_append, List.length_singleton]
    exact Nat.succ_pos _
  · obtain ⟨g, hg, h1⟩ := h.pre e he P hP
    exact ⟨g, List.mem_append.mpr (.inl hg), h1⟩
  · have : P = [] := List.prefix_nil.mp hP
    subst this
    exact ⟨_, List.mem_append.mpr (.inr List.mem_cons_self), rfl, rfl⟩
  · intro e he f hf' P Q b d d' e1 e2
    rcases List.mem_append.mp he with he | he
    · rcases List.mem_append.mp hf' with hf' | hf'
      · exact h.uni e he f hf' P Q b d d' e1 e2
      · cases List.mem_singleton.mp hf'
        cases Q <;> cases e2
    · cases List.mem_singleton.mp he
      cases P <;> cases e1
/-- a belt's two ends stand for a pace -/
def Leads (ls : List Ln) (b : Int) (d : Bool) (u x : Int) : Prop := ∃ l, 0 ≤ b ∧ ls[b.toNat]? = some l ∧ (if d = true then l.g = u ∧ l.t = x else l.t = u ∧ l.g = x)
theorem Leads.path {ls : List Ln} {b u x : Int} {d : Bool} (h : Leads ls b d u x) : Path ls u [(b, d)] x := by
  obtain ⟨l, h0, h1, h2⟩ := h
  refine ⟨l, h0, h1, ?_⟩
  cases d
  · exact h2
  · exact h2
theorem Path.leads {ls : List Ln} {b u x : Int} {d : Bool} (h : Path ls u [(b, d)] x) : Leads ls b d u x := by
  obtain ⟨l, h0, h1, h2⟩ := h
  refine ⟨l, h0, h1, ?_⟩
  cases d
  · exact h2
  · exact h2
theorem Leads.both {ls : List Ln} {b u x u' x' : Int} {d d' : Bool} (h : Leads ls b d u x) (k : Leads ls b d' u' x') : (x = x' ∨ x = u') ∧ (u = u' ∨ u = x') := by
  obtain ⟨l, _, h1, h2⟩ := h
  obtain ⟨l', _, k1, k2⟩ := k
  rw [h1] at k1
  cases k1
  cases d <;> cases d' <;> simp only [if_true, Bool.false_eq_true, if_false] at h2 k2
  · exact ⟨.inl (h2.2.symm.trans k2.2), .inl (h2.1.symm.trans k2.1)⟩
  · exact ⟨.inr (h2.2.symm.trans k2.1), .inr (h2.1.symm.trans k2.2)⟩
  · exact ⟨.inr (h2.2.symm.trans k2.1), .inr (h2.1.symm.trans k2.2)⟩
  · exact ⟨.inl (h2.2.symm.trans k2.2), .inl (h2.1.symm.trans k2.1)⟩
theorem Leads.fac {ls : List Ln} {b u x : Int} {d : Bool} (h : Leads ls b d u x) {l : Ln} (e : ls[b.toNat]? = some l) : Lw.fac ls b d = (if d = true then l.gi else l.ta) := by
  unfold Lw.fac
  rw [e]
/-- both ends of a way's last belt are there -/
theorem TI.ends_in {ls : List Ln} {n : Nat} {es : List Ent} (h : TI ls n es) {f : Ent} (hf : f ∈ es) {Q : List Pace} {b : Int} {d : Bool} (e : f.w = Q ++ [(b, d)]) : ∃ g ∈ es, g.w = Q ∧ g.r = f.r ∧ Leads ls b d g.v f.v := by
  obtain ⟨g, hg, h1, h2⟩ := h.pre f hf Q (by rw [e]; exact List.prefix_append _ _)
  refine ⟨g, hg, h1, h2, ?_⟩
  have p1 := (h.path f hf).1
  rw [e] at p1
  obtain ⟨c, p2, p3⟩ := p1.split
  have p4 := (h.path g hg).1
  rw [h1, h2] at p4
  rw [p2.fn p4] at p3
  exact p3.leads
def goE (ls : List Ln) (e : Ent) (b : Int) (d : Bool) (x : Int) : Ent :=
  ⟨x, (rat (e.p * (rat (fac ls b d) (fac ls b (!d))).1) (e.q * (rat (fac ls b d) (fac ls b (!d))).2)).1, (rat (e.p * (rat (fac ls b d) (fac ls b (!d))).1) (e.q * (rat (fac ls b d) (fac ls b (!d))).2)).2, e.w ++ [(b, d)], e.r⟩
theorem TI.step {ls : List Ln} {n : Nat} {es : List Ent} (h : TI ls n es) (hp : PosL ls) (hz : ∀ l ∈ ls, Bt 128 (Ln.gi l) ∧ Bt 128 l.ta) (hi : Inr (ends ls) n) {e : Ent} (he : e ∈ es) {b x : Int} {d : Bool} (hl : Leads ls b d e.v x) (hx : x ∉ keysE es) : TI ls n (es ++ [goE ls e b d x]) := by
  have key : ∀ {Q : Ent → Prop}, (∀ e ∈ es, Q e) → Q (goE ls e b d x) → ∀ f ∈ es ++ [goE ls e b d x], Q f := fun h1 h2 f hf => by
    rcases List.mem_append.mp hf with hf | hf
    · exact h1 f hf
    · cases List.mem_singleton.mp hf
      exact h2
  have f1 : 0 < fac ls b d := fac_pos hp
  have f2 : 0 < fac ls b (!d) := fac_pos hp
  have fz : ∀ d, Bt 128 (fac ls b d) := fun d => by
    unfold fac
    split
    · rename_i l e
      have := hz l (List.mem_of_getElem? e)
      split
      · exact this.1
      · exact this.2
    · unfold Bt; decide
  obtain ⟨a1, a2, a3, a4, a5, a6⟩ := rat_spec f1 f2
  obtain ⟨q1, q2, q3⟩ := h.pos e he
  obtain ⟨t1, t2⟩ := h.bt e he
  have za := (fz d).le (Int.le_of_lt a1) a5
  have zb := (fz (!d)).le (Int.le_of_lt a2) a6
  have hval := times_is q1 q2 a1 a2 (h.val e he) a4
  unfold goE at *
  generalize (rat (fac ls b d) (fac ls b (!d))).1 = A at *
  generalize (rat (fac ls b d) (fac ls b (!d))).2 = C at *
  obtain ⟨r1, r2, r3, r4, r5, r6⟩ := rat_spec (Int.mul_pos q1 a1) (Int.mul_pos q2 a2)
  obtain ⟨p1, p2⟩ := h.path e he
  have hxb : 0 ≤ x ∧ x < n := (p1.app hl.path).con.inr hi (p1.inv.con.inr hi (h.bd e he))
  refine ⟨?_, key h.bd hxb, key h.pos ⟨r1, r2, r3⟩, key h.bt ?_, key (fun f hf => ?_) ?_, key h.path ⟨p1.app hl.path, p2⟩, key h.val ?_, key (fun f hf P hP => ?_) fun P hP => ?_, ?_⟩
  · rw [keysE_add]
    exact List.nodup_append.mpr ⟨h.nd, List.pairwise_singleton _ _, fun y hy z hz' => by cases List.mem_singleton.mp hz'; exact fun z : y = x => hx (z ▸ hy)⟩
  · have b1 : Bt (128 * (e.w ++ [(b, d)]).length + 1) (e.p * A) := (t1.mul za).mono (by rw [List.length_append, List.length_singleton]; omega)
    have b2 : Bt (128 * (e.w ++ [(b, d)]).length + 1) (e.q * C) := (t2.mul zb).mono (by rw [List.length_append, List.length_singleton]; omega)
    exact ⟨b1.le (Int.le_of_lt r1) r5, b2.le (Int.le_of_lt r2) r6⟩
  · have := h.wl f hf
    rw [List.length_append, List.length_singleton]
    omega
  · have := h.wl e he
    rw [List.length_append, List.length_append, List.length_singleton, List.length_singleton]
    omega
  · show _ * botP ls (e.w ++ [(b, d)]) = _ * topP ls (e.w ++ [(b, d)])
    rw [botP_app, topP_app, botP, topP, botP, topP, Int.mul_one, Int.mul_one]
    exact hval
  · obtain ⟨g, hg, h1⟩ := h.pre f hf P hP
    exact ⟨g, List.mem_append.mpr (.inl hg), h1⟩
  · rcases List.prefix_concat_iff.mp hP with rfl | hP
    · exact ⟨_, List.mem_append.mpr (.inr List.mem_cons_self), rfl, rfl⟩
    · obtain ⟨g, hg, h1⟩ := h.pre e he P hP
      exact ⟨g, List.mem_append.mpr (.inl hg), h1⟩
  · have old : ∀ f ∈ es, ∀ Q d', f.w = Q ++ [(b, d')] → False := fun f hf Q d' e2 => by
      obtain ⟨g, hg, _, _, h3⟩ := h.ends_in hf e2
      rcases (hl.both h3).1 with z | z
      · exact hx (z ▸ List.mem_map.mpr ⟨f, hf, rfl⟩)
      · exact hx (z ▸ List.mem_map.mpr ⟨g, hg, rfl⟩)
    intro f hf g hg P Q b' d1 d2 e1 e2
    rcases List.mem_append.mp hf with hf | hf <;> rcases List.mem_append.mp hg with hg | hg
    · exact h.uni f hf g hg P Q b' d1 d2 e1 e2
    · cases List.mem_singleton.mp hg
      obtain ⟨_, z⟩ := List.append_inj' e2 rfl
      cases z
      exact absurd e1 (fun z => old f hf _ _ z)
    · cases List.mem_singleton.mp hf
      obtain ⟨_, z⟩ := List.append_inj' e1 rfl
      cases z
      exact absurd e2 (fun z => old g hg _ _ z)
    · cases List.mem_singleton.mp hf
      cases List.mem_singleton.mp hg
      exact e1.symm.trans e2
theorem rev_ind {α : Type} {M : List α → Prop} (nil : M []) (snoc : ∀ P x, M P → M (P ++ [x])) (l : List α) : M l := by
  have : ∀ l : List α, M l.reverse := fun l => by
    induction l with
    | nil => exact nil
    | cons x l ih =>
      rw [List.reverse_cons]
      exact snoc _ _ ih
  have h := this l.reverse
  rwa [List.reverse_reverse] at h
theorem TI.way_nd {ls : List Ln} {n : Nat} {es : List Ent} (h : TI ls n es) {e : Ent} (he : e ∈ es) : ∀ P, P <+: e.w → (P.map (·.1)).Nodup := by
  intro P
  induction P using rev_ind with
  | nil => intro _; exact List.nodup_nil
  | snoc P x ih =>
    intro hP
    obtain ⟨b, d⟩ := x
    have hP' : P <+: e.w := (List.prefix_append P [(b, d)]).trans hP
    obtain ⟨g, hg, g1, _⟩ := h.pre e he _ hP
    rw [List.map_append]
    refine List.nodup_append.mpr ⟨ih hP', List.pairwise_singleton _ _, fun y hy z hz e1 => ?_⟩
    cases List.mem_singleton.mp hz
    obtain ⟨⟨b', d'⟩, hm, rfl⟩ := List.mem_map.mp hy
    obtain ⟨A, B, rfl⟩ := List.append_of_mem hm
    have e1 : b' = b := e1
    subst e1
    have hA : A ++ [(b', d')] <+: e.w := List.IsPrefix.trans ⟨B, by simp⟩ hP'
    obtain ⟨f, hf, f1, _⟩ := h.pre e he _ hA
    have := congrArg List.length (h.uni f hf g hg _ _ _ _ _ f1 g1)
    simp at this
theorem mem_split {α : Type} {x : α} {l : List α} (h : x ∈ l) : ∃ A, A ++ [x] <+: l := by
  obtain ⟨A, B, rfl⟩ := List.append_of_mem h
  exact ⟨A, B, by simp⟩
/-- the ring that an odd belt closes -/
theorem TI.ring {ls : List Ln} {n : Nat} {es : List Ent} (h : TI ls n es) (hp : PosL ls) {i : Int} {l : Ln} {eg et : Ent} (h0 : 0 ≤ i) (el : ls[i.toNat]? = some l) (hg : eg ∈ es) (ht : et ∈ es) (vg : eg.v = l.g) (vt : et.v = l.t) (odd : eg.p * l.gi * et.q ≠ eg.q * l.ta * et.p)
    {c th he : List Pace} (wt : et.w = c ++ th) (wg : eg.w = c ++ he) (stop : ∀ x P Q, th = x :: P → he = x :: Q → False) : OddRing ls ((i, true) :: (inv th ++ he)) := by
  obtain ⟨pg1, pg2⟩ := h.path eg hg
  obtain ⟨pt1, pt2⟩ := h.path et ht
  have hlm := List.mem_of_getElem? el
  have hr : et.r = eg.r := fst_eq pt2 pg2 (pt1.con.trans (by rw [vt]; exact (Con.one (Or.inr (ends_mem hlm))).trans (by rw [← vg]; exact pg1.con.symm)))
  rw [wt] at pt1
  rw [wg] at pg1
  obtain ⟨u, a1, a2⟩ := pt1.split
  obtain ⟨u', a3, a4⟩ := pg1.split
  rw [hr] at a1
  have := a1.fn a3
  subst this
  have hpath : Path ls l.g ((i, true) :: (inv th ++ he)) l.g := ⟨l, h0, el, rfl, by rw [← vt, ← vg]; exact a2.inv.app a4⟩
  -- the odd belt is on no way
  have noi : ∀ e ∈ es, ∀ d, (i, d) ∉ e.w := fun e he' d hm => by
    obtain ⟨A, hA⟩ := mem_split hm
    obtain ⟨x, hx, x1, _⟩ := h.pre e he' _ hA
    obtain ⟨f, hf, f1, _, f3⟩ := h.ends_in hx x1
    have v1 := h.val x hx
    have v2 := h.val f hf
    rw [x1, botP_app, topP_app, botP, topP, botP, topP, Int.mul_one, Int.mul_one] at v1
    rw [f1] at v2
    have k1 := f3.fac el
    have k2 : fac ls i (!d) = (if d = true then l.ta else l.gi) := by
      unfold fac
      rw [el]
      cases d <;> rfl
    rw [k1, k2] at v1
    obtain ⟨l', _, q1, q2⟩ := f3
    rw [el] at q1
    cases q1
    have B := botP_pos hp (p := A)
    have T := topP_pos hp (p := A)
    have BT : botP ls A * topP ls A ≠ 0 := Int.ne_of_gt (Int.mul_pos B T)
    cases d
    · simp only [Bool.false_eq_true, if_false] at q2 v1
      have e1 : f = et := ent_same h.nd hf ht (q2.1.symm.trans vt.symm)
      have e2 : x = eg := ent_same h.nd hx hg (q2.2.symm.trans vg.symm)
      subst e1 e2
      apply odd
      apply Int.eq_of_mul_eq_mul_left BT
      calc botP ls A * topP ls A * (x.p * l.gi * f.q) = (x.p * (botP ls A * l.gi)) * (f.q * topP ls A) := by ac_rfl
        _ = (x.q * (topP ls A * l.ta)) * (f.p * botP ls A) := by rw [v1, v2]
        _ = botP ls A * topP ls A * (x.q * l.ta * f.p) := by ac_rfl
    · simp only [if_true] at q2 v1
      have e1 : f = eg := ent_same h.nd hf hg (q2.1.symm.trans vg.symm)
      have e2 : x = et := ent_same h.nd hx ht (q2.2.symm.trans vt.symm)
      subst e1 e2
      apply odd
      apply Int.eq_of_mul_eq_mul_left BT
      calc botP ls A * topP ls A * (f.p * l.gi * x.q) = (f.p * botP ls A) * (x.q * (topP ls A * l.gi)) := by ac_rfl
        _ = (f.q * topP ls A) * (x.p * (botP ls A * l.ta)) := by rw [← v1, v2]
        _ = botP ls A * topP ls A * (f.q * l.ta * x.p) := by ac_rfl
  have ndt := h.way_nd ht _ (List.prefix_refl _)
  have ndg := h.way_nd hg _ (List.prefix_refl _)
  rw [wt, List.map_append] at ndt
  rw [wg, List.map_append] at ndg
  have ndt := (List.nodup_append.mp ndt).2.1
  have ndg := (List.nodup_append.mp ndg).2.1
  have einv : (inv th).map (·.1) = (th.map (·.1)).reverse := by
    unfold inv
    rw [List.map_map, ← List.map_reverse]
    rfl
  refine ⟨List.cons_ne_nil _ _, ⟨_, hpath⟩, ?_, ?_⟩
  · rw [List.map_cons, List.map_append, einv]
    refine List.nodup_cons.mpr ⟨fun hm => ?_, List.nodup_append.mpr ⟨List.pairwise_reverse.mpr (ndt.imp fun z => Ne.symm z), ndg, fun y hy z hz e1 => ?_⟩⟩
    · rcases List.mem_append.mp hm with hm | hm
      · obtain ⟨⟨b, d⟩, hm2, e⟩ := List.mem_map.mp (List.mem_reverse.mp hm)
        have e : b = i := e
        subst e
        exact noi et ht d (by rw [wt]; exact List.mem_append.mpr (.inr hm2))
      · obtain ⟨⟨b, d⟩, hm2, e⟩ := List.mem_map.mp hm
        have e : b = i := e
        subst e
        exact noi eg hg d (by rw [wg]; exact List.mem_append.mpr (.inr hm2))
    · subst e1
      obtain ⟨⟨b, d⟩, hm1, e⟩ := List.mem_map.mp (List.mem_reverse.mp hy)
      obtain ⟨⟨b', d'⟩, hm2, e'⟩ := List.mem_map.mp hz
      have e : b = y := e
      have e' : b' = y := e'
      subst e e'
      obtain ⟨A, hA⟩ := mem_split hm1
      obtain ⟨B, hB⟩ := mem_split hm2
      obtain ⟨x, hx, x1, _⟩ := h.pre et ht (c ++ (A ++ [(b', d)])) (by rw [wt]; exact (List.prefix_append_right_inj c).mpr hA)
      obtain ⟨f, hf, f1, _⟩ := h.pre eg hg (c ++ (B ++ [(b', d')])) (by rw [wg]; exact (List.prefix_append_right_inj c).mpr hB)
      rw [← List.append_assoc] at x1 f1
      have e3 := h.uni x hx f hf _ _ _ _ _ x1 f1
      rw [List.append_assoc, List.append_assoc] at e3
      have e3 := List.append_cancel_left e3
      obtain ⟨A', hA'⟩ := hA
      obtain ⟨B', hB'⟩ := hB
      rw [← e3] at hB'
      cases hq : A ++ [(b', d)] with
      | nil => simp at hq
      | cons z r =>
        rw [hq] at hA' hB'
        exact stop z (r ++ A') (r ++ B') hA'.symm hB'.symm
  · intro e
    apply odd
    rw [topP, botP, topP_app, botP_app, topP_inv, botP_inv] at e
    have k1 : fac ls i true = l.gi := by unfold fac; rw [el]; rfl
    have k2 : fac ls i (!true) = l.ta := by unfold fac; rw [el]; rfl
    rw [k1, k2] at e
    have v1 := h.val eg hg
    have v2 := h.val et ht
    rw [wg, botP_app, topP_app] at v1
    rw [wt, botP_app, topP_app] at v2
    have p1 := botP_pos hp (p := c)
    have p2 := topP_pos hp (p := c)
    have p3 := botP_pos hp (p := he)
    have p4 := topP_pos hp (p := th)
    generalize botP ls c = B at *
    generalize topP ls c = T at *
    generalize botP ls he = bh at *
    generalize topP ls he = th' at *
    generalize botP ls th = bt at *
    generalize topP ls th = tt at *
    apply Int.eq_of_mul_eq_mul_left (Int.ne_of_gt (Int.mul_pos (Int.mul_pos p1 p3) (Int.mul_pos p2 p4)))
    calc B * bh * (T * tt) * (eg.p * l.gi * et.q) = (eg.p * (B * bh)) * l.gi * (et.q * (T * tt)) := by ac_rfl
      _ = (eg.q * (T * th')) * l.gi * (et.p * (B * bt)) := by rw [v1, v2]
      _ = eg.q * et.p * T * B * (l.gi * (bt * th')) := by ac_rfl
      _ = eg.q * et.p * T * B * (l.ta * (tt * bh)) := by rw [e]
      _ = B * bh * (T * tt) * (eg.q * l.ta * et.p) := by ac_rfl
def lcm1 (a b : Int) : Int := a / (Int.gcd a b : Int) * b
theorem lcm1_spec {a b : Int} (ha : 0 < a) (hb : 0 < b) : 0 < lcm1 a b ∧ a ∣ lcm1 a b ∧ b ∣ lcm1 a b ∧ (∀ x, a ∣ x → b ∣ x → lcm1 a b ∣ x) ∧ lcm1 a b ≤ a * b := by
  obtain ⟨g, x, y, e, hg, hx, hy, e1, e2, h3⟩ := gcd_parts ha hb
  unfold lcm1
  rw [e]
  subst e1 e2
  rw [Int.mul_ediv_cancel_left _ (Int.ne_of_gt hg)]
  refine ⟨Int.mul_pos hx hb, ⟨y, by ac_rfl⟩, ⟨x, by ac_rfl⟩, fun z hz1 hz2 => ?_, ?_⟩
  · obtain ⟨k, rfl⟩ := hz1
    obtain ⟨m, hm⟩ := hz2
    have : x * k = y * m := by
      apply Int.eq_of_mul_eq_mul_left (Int.ne_of_gt hg)
      rw [← Int.mul_assoc, hm, Int.mul_assoc]
    obtain ⟨j, rfl⟩ := cop_dvd (by rw [Int.gcd_comm]; exact h3) ⟨m, this⟩
    exact ⟨j, by ac_rfl⟩
  · have : x ≤ g * x := by
      have := Int.mul_le_mul_of_nonneg_right (show 1 ≤ g by omega) (show 0 ≤ x by omega)
      rwa [Int.one_mul] at this
    exact Int.mul_le_mul_of_nonneg_right this (Int.le_of_lt hb)
theorem lcmF_spec : ∀ (qs : List Int) {c : Int}, 0 < c → (∀ q ∈ qs, 0 < q) → 0 < qs.foldl lcm1 c ∧ c ∣ qs.foldl lcm1 c ∧ (∀ q ∈ qs, q ∣ qs.foldl lcm1 c) ∧ (∀ x, c ∣ x → (∀ q ∈ qs, q ∣ x) → qs.foldl lcm1 c ∣ x)
  | [], c, hc, _ => ⟨hc, Int.dvd_refl _, (fun q hq => by cases hq), fun x h _ => h⟩
  | q :: qs, c, hc, hq => by
    obtain ⟨a1, a2, a3, a4, _⟩ := lcm1_spec hc (hq q List.mem_cons_self)
    obtain ⟨b1, b2, b3, b4⟩ := lcmF_spec qs a1 fun x hx => hq x (List.mem_cons_of_mem _ hx)
    refine ⟨b1, Int.dvd_trans a2 b2, fun x hx => ?_, fun x h1 h2 => b4 x (a4 x h1 (h2 q List.mem_cons_self)) fun y hy => h2 y (List.mem_cons_of_mem _ hy)⟩
    rcases List.mem_cons.mp hx with rfl | hx
    · exact Int.dvd_trans a3 b2
    · exact b3 x hx
theorem lcmF_bt {k : Nat} : ∀ (qs : List Int) {c : Int} {m : Nat}, 0 < c → Bt m c → (∀ q ∈ qs, 0 < q ∧ Bt k q) → Bt (m + k * qs.length) (qs.foldl lcm1 c)
  | [], c, m, _, h, _ => h.mono (by simp)
  | q :: qs, c, m, hc, h, hq => by
    obtain ⟨q1, q2⟩ := hq q List.mem_cons_self
    obtain ⟨a1, _, _, _, a5⟩ := lcm1_spec hc q1
    have := lcmF_bt qs a1 ((h.mul q2).le (Int.le_of_lt a1) a5) fun x hx => hq x (List.mem_cons_of_mem _ hx)
    refine this.mono ?_
    rw [List.length_cons, Nat.mul_succ]
    omega
def gcdF (ns : List Int) : Int := ns.foldl (fun a b => (Int.gcd a b : Int)) 0
theorem gcdF_dvd : ∀ (ns : List Int) (c : Int), ns.foldl (fun a b => (Int.gcd a b : Int)) c ∣ c ∧ ∀ x ∈ ns, ns.foldl (fun a b => (Int.gcd a b : Int)) c ∣ x
  | [], c => ⟨Int.dvd_refl _, fun x hx => by cases hx⟩
  | y :: ns, c => by
    obtain ⟨h1, h2⟩ := gcdF_dvd ns (Int.gcd c y : Int)
    refine ⟨Int.dvd_trans h1 (Int.gcd_dvd_left _ _), fun x hx => ?_⟩
    rcases List.mem_cons.mp hx with rfl | hx
    · exact Int.dvd_trans h1 (Int.gcd_dvd_right _ _)
    · exact h2 x hx
theorem gcdF_nn : ∀ (ns : List Int) (c : Int), 0 ≤ c → 0 ≤ ns.foldl (fun a b => (Int.gcd a b : Int)) c
  | [], _, h => h
  | y :: ns, _, _ => gcdF_nn ns _ (Int.natCast_nonneg _)
def lcmE (pe : List Ent) : Int := (pe.map Ent.q).foldl lcm1 1
def rateE (pe : List Ent) (e : Ent) : Int := e.p * (lcmE pe / e.q)
structure PE (pe : List Ent) : Prop where
  pos : ∀ e ∈ pe, 0 < e.p ∧ 0 < e.q ∧ Int.gcd e.p e.q = 1
  bt : ∀ e ∈ pe, Bt 4500 e.p ∧ Bt 4500 e.q
  len : pe.length ≤ 40
  root : ∃ e ∈ pe, e.p = 1 ∧ e.q = 1
theorem PE.spec {pe : List Ent} (h : PE pe) : 0 < lcmE pe ∧ (∀ e ∈ pe, e.q ∣ lcmE pe) ∧ (∀ x, (∀ e ∈ pe, e.q ∣ x) → lcmE pe ∣ x) := by
  obtain ⟨a, _, b, c⟩ := lcmF_spec (pe.map Ent.q) (c := 1) (by decide) fun q hq => by
    obtain ⟨e, he, rfl⟩ := List.mem_map.mp hq
    exact (h.pos e he).2.1
  exact ⟨a, fun e he => b _ (List.mem_map.mpr ⟨e, he, rfl⟩), fun x hx => c x (Int.one_dvd _) fun q hq => by
    obtain ⟨e, he, rfl⟩ := List.mem_map.mp hq
    exact hx e he⟩
theorem PE.rate_pos {pe : List Ent} (h : PE pe) {e : Ent} (he : e ∈ pe) : 0 < rateE pe e := by
  obtain ⟨a, b, _⟩ := h.spec
  obtain ⟨m, hm⟩ := b e he
  obtain ⟨p1, p2, _⟩ := h.pos e he
  unfold rateE
  rw [hm, Int.mul_ediv_cancel_left _ (Int.ne_of_gt p2)]
  refine Int.mul_pos p1 ?_
  rw [hm] at a
  exact Int.pos_of_mul_pos_right a p2
theorem PE.one {pe : List Ent} (h : PE pe) {d : Int} (hd : 0 ≤ d) (hk : ∀ e ∈ pe, d ∣ rateE pe e) : d = 1 := by
  obtain ⟨a, b, c⟩ := h.spec
  obtain ⟨r, hr, r1, r2⟩ := h.root
  have hC : d ∣ lcmE pe := by
    have := hk r hr
    unfold rateE at this
    rwa [r1, r2, Int.ediv_one, Int.one_mul] at this
  generalize hl : lcmE pe = C at *
  obtain ⟨C', rfl⟩ := hC
  have hd0 : d ≠ 0 := fun z => by
    rw [z, Int.zero_mul] at a
    exact absurd a (by decide)
  have hd1 : 0 < d := by omega
  have key : d * C' ∣ C' := c C' fun e he => by
    obtain ⟨m, hm⟩ := b e he
    obtain ⟨p1, p2, p3⟩ := h.pos e he
    obtain ⟨k, hk⟩ := hk e he
    unfold rateE at hk
    rw [hl, hm, Int.mul_ediv_cancel_left _ (Int.ne_of_gt p2)] at hk
    refine cop_dvd (by rw [Int.gcd_comm]; exact p3) ⟨k, ?_⟩
    apply Int.eq_of_mul_eq_mul_left (Int.ne_of_gt hd1)
    calc d * (e.p * C') = e.p * (d * C') := by ac_rfl
      _ = e.q * (e.p * m) := by rw [hm]; ac_rfl
      _ = d * (e.q * k) := by rw [hk]; ac_rfl
  have hC' : 0 < C' := Int.pos_of_mul_pos_right a hd1
  obtain ⟨j, hj⟩ := key
  have : C' * (d * j) = C' * 1 := by
    rw [Int.mul_one]
    calc C' * (d * j) = d * C' * j := by ac_rfl
      _ = C' := hj.symm
  have := Int.eq_of_mul_eq_mul_left (Int.ne_of_gt hC') this
  exact Int.eq_one_of_dvd_one hd ⟨j, this.symm⟩
def wholeL (pe : List Ent) : List Int := pe.map (rateE pe)
theorem PE.gcd {pe : List Ent} (h : PE pe) : gcdF (wholeL pe) = 1 := h.one (gcdF_nn _ _ (by decide)) fun e he => (gcdF_dvd _ _).2 _ (List.mem_map.mpr ⟨e, he, rfl⟩)
theorem PE.lcm_bt {pe : List Ent} (h : PE pe) : Bt 180001 (lcmE pe) := by
  have := lcmF_bt (k := 4500) (pe.map Ent.q) (c := 1) (m := 1) (by decide) (by unfold Bt; decide) fun q hq => by
    obtain ⟨e, he, rfl⟩ := List.mem_map.mp hq
    exact ⟨(h.pos e he).2.1, (h.bt e he).2⟩
  refine this.mono ?_
  have := h.len
  rw [List.length_map]
  omega
def entOf (es : List Ent) (v : Int) : Ent := (es.find? fun e => decide (e.v = v)).getD ⟨0, 1, 1, [], 0⟩
theorem entOf_mem {es : List Ent} {v : Int} (h : v ∈ keysE es) : entOf es v ∈ es ∧ (entOf es v).v = v := by
  unfold entOf
  cases q : es.find? fun e => decide (e.v = v) with
  | none =>
    obtain ⟨e, he, rfl⟩ := List.mem_map.mp h
    have := List.find?_eq_none.mp q e he
    simp at this
  | some e =>
    have h1 := List.find?_some q
    exact ⟨List.mem_of_find?_eq_some q, of_decide_eq_true h1⟩
noncomputable def peOf (ls : List Ln) (n : Nat) (es : List Ent) (a : Int) : List Ent := (compL (ends ls) n a).map (entOf es)
theorem peOf_keys {ls : List Ln} {n : Nat} {es : List Ent} {a : Int} (hi : Inr (ends ls) n) (ha : 0 ≤ a ∧ a < n) (hk : ∀ v, Con (ends ls) a v → v ∈ keysE es) : keysE (peOf ls n es a) = compL (ends ls) n a := by
  unfold keysE peOf
  rw [List.map_map]
  refine (List.map_congr_left fun v hv => ?_).trans (List.map_id _)
  exact (entOf_mem (hk v ((compL_mem hi ha).mp hv))).2
theorem peOf_mem {ls : List Ln} {n : Nat} {es : List Ent} {a : Int} (hi : Inr (ends ls) n) (ha : 0 ≤ a ∧ a < n) (hk : ∀ v, Con (ends ls) a v → v ∈ keysE es) (nd : (keysE es).Nodup) {f : Ent} : f ∈ peOf ls n es a ↔ f ∈ es ∧ Con (ends ls) a f.v := by
  unfold peOf
  rw [List.mem_map]
  constructor
  · rintro ⟨v, hv, rfl⟩
    have hc := (compL_mem hi ha).mp hv
    obtain ⟨h1, h2⟩ := entOf_mem (hk v hc)
    exact ⟨h1, by rw [h2]; exact hc⟩
  · rintro ⟨hf, hc⟩
    obtain ⟨h1, h2⟩ := entOf_mem (hk _ hc)
    exact ⟨f.v, (compL_mem hi ha).mpr hc, ent_same nd h1 hf h2⟩
theorem TI.pe {ls : List Ln} {n : Nat} {es : List Ent} {a : Int} (h : TI ls n es) (hn : n ≤ 31) (hi : Inr (ends ls) n) (ha : 0 ≤ a ∧ a < n) (hk : ∀ v, Con (ends ls) a v → v ∈ keysE es) : PE (peOf ls n es a) := by
  have hm := fun f => peOf_mem (f := f) hi ha hk h.nd
  have hl := h.len
  refine ⟨fun e he => h.pos e ((hm e).mp he).1, fun e he => ?_, ?_, ?_⟩
  · have he := ((hm e).mp he).1
    have := h.wl e he
    obtain ⟨b1, b2⟩ := h.bt e he
    exact ⟨b1.mono (by omega), b2.mono (by omega)⟩
  · unfold peOf
    rw [List.length_map]
    have : (compL (ends ls) n a).length ≤ n := by
      classical
      unfold compL
      refine Nat.le_trans (List.length_filter_le _ _) ?_
      rw [List.length_map, List.length_range]
      exact Nat.le_refl _
    omega
  · obtain ⟨h1, h2⟩ := entOf_mem (hk a .refl)
    generalize entOf es a = e at h1 h2
    obtain ⟨g, hg, g1, g2⟩ := h.pre e h1 [] (List.nil_prefix)
    have v := h.val g hg
    rw [g1, botP, topP, Int.mul_one, Int.mul_one] at v
    obtain ⟨p1, p2, p3⟩ := h.pos g hg
    obtain ⟨g3, _⟩ := h.path g hg
    rw [g1] at g3
    have g3 : g.r = g.v := g3
    refine ⟨g, (hm g).mpr ⟨hg, ?_⟩, ?_⟩
    · rw [← g3, g2, ← h2]
      exact (h.path e h1).1.con.symm
    · rw [v, Int.gcd_self] at p3
      omega
/-- rates told by the ratios keep the belts, and nothing divides them -/
theorem TI.bal {ls : List Ln} {n : Nat} {es : List Ent} (h : TI ls n es) (hn : n ≤ 31) (hi : Inr (ends ls) n) (hp : PosL ls) (hk : ∀ v : Int, 0 ≤ v → v < n → v ∈ keysE es) (ag : ∀ l ∈ ls, ∀ eg ∈ es, ∀ et ∈ es, eg.v = l.g → et.v = l.t → eg.p * l.gi * et.q = eg.q * l.ta * et.p) {rs : List Int} (hl : rs.length = n)
    (hr : ∀ a : Int, 0 ≤ a → a < n → Fst (ends ls) a → ∀ e ∈ peOf ls n es a, cnt rs e.v = rateE (peOf ls n es a) e) : Bal ls n rs := by
  have hk' : ∀ a : Int, 0 ≤ a ∧ a < n → ∀ v, Con (ends ls) a v → v ∈ keysE es := fun a ha v hv => by
    have := hv.inr hi ha
    exact hk v this.1 this.2
  have hm := fun a (ha : 0 ≤ a ∧ a < (n : Int)) f => peOf_mem (f := f) hi ha (hk' a ha) h.nd
  have hpe := fun a (ha : 0 ≤ a ∧ a < (n : Int)) => h.pe hn hi ha (hk' a ha)
  have fex : ∀ a : Int, 0 ≤ a ∧ a < n → ∃ m, Con (ends ls) a m ∧ Fst (ends ls) m ∧ 0 ≤ m ∧ m < n := fun a ha => by
    obtain ⟨m, h1, h2⟩ := fst_ex hi a.toNat a ha.1 ha.2 (by omega)
    have := h1.inr hi ha
    exact ⟨m, h1, h2, this⟩
  refine ⟨⟨hl, fun w h0 h1 => ?_, fun l hl' => ?_⟩, fun a h0 h1 d hd hw => ?_⟩
  · obtain ⟨m, c1, c2, c3⟩ := fex w ⟨h0, h1⟩
    obtain ⟨e1, e2⟩ := entOf_mem (hk w h0 h1)
    have hmem := (hm m c3 (entOf es w)).mpr ⟨e1, by rw [e2]; exact c1.symm⟩
    have := hr m c3.1 c3.2 c2 _ hmem
    rw [e2] at this
    rw [this]
    exact (hpe m c3).rate_pos hmem
  · obtain ⟨r1, r2⟩ := hi _ (ends_mem hl')
    obtain ⟨m, c1, c2, c3⟩ := fex l.g r1
    obtain ⟨e1, e2⟩ := entOf_mem (hk l.g r1.1 r1.2)
    obtain ⟨f1, f2⟩ := entOf_mem (hk l.t r2.1 r2.2)
    have m1 := (hm m c3 (entOf es l.g)).mpr ⟨e1, by rw [e2]; exact c1.symm⟩
    have m2 := (hm m c3 (entOf es l.t)).mpr ⟨f1, by rw [f2]; exact c1.symm.trans (Con.one (Or.inl (ends_mem hl')))⟩
    have v1 := hr m c3.1 c3.2 c2 _ m1
    have v2 := hr m c3.1 c3.2 c2 _ m2
    have a := ag l hl' _ e1 _ f1 e2 f2
    rw [e2] at v1
    rw [f2] at v2
    rw [v1, v2]
    obtain ⟨s1, s2, _⟩ := (hpe m c3).spec
    obtain ⟨x, hx⟩ := s2 _ m1
    obtain ⟨y, hy⟩ := s2 _ m2
    have q1 := ((hpe m c3).pos _ m1).2.1
    have q2 := ((hpe m c3).pos _ m2).2.1
    have d1 : lcmE (peOf ls n es m) / (entOf es l.g).q = x := by rw [hx, Int.mul_ediv_cancel_left _ (Int.ne_of_gt q1)]
    have d2 : lcmE (peOf ls n es m) / (entOf es l.t).q = y := by rw [hy, Int.mul_ediv_cancel_left _ (Int.ne_of_gt q2)]
    unfold rateE
    rw [d1, d2]
    generalize lcmE (peOf ls n es m) = C at *
    generalize entOf es l.g = eg at *
    generalize entOf es l.t = et at *
    apply Int.eq_of_mul_eq_mul_left (Int.ne_of_gt (Int.mul_pos q1 q2))
    calc eg.q * et.q * (l.gi * (eg.p * x)) = (eg.p * l.gi * et.q) * (eg.q * x) := by ac_rfl
      _ = (eg.q * l.ta * et.p) * (et.q * y) := by rw [a, ← hx, ← hy]
      _ = eg.q * et.q * (l.ta * (et.p * y)) := by ac_rfl
  · obtain ⟨m, c1, c2, c3⟩ := fex a ⟨h0, h1⟩
    refine (hpe m c3).one hd fun e he => ?_
    rw [← hr m c3.1 c3.2 c2 e he]
    exact hw _ (c1.trans ((hm m c3 e).mp he).2)
/-- a search in the store -/
structure SpAt (μ : Sto) (s rd wd : Addr) (ls : List Ln) (es : List Ent) : Prop where
  o : μ s = some (.obj 6 [.lst (ls.map Ln.tr), .own rd, .own wd])
  r : μ rd = some (.dict (entD ratT es))
  w : μ wd = some (.dict (entD wayT es))
  ne : rd ≠ wd
theorem SpAt.n1 {μ : Sto} {s rd wd : Addr} {ls : List Ln} {es : List Ent} (S : SpAt μ s rd wd ls es) : s ≠ rd := fun e => by
  have := S.r
  rw [← e, S.o] at this
  cases this
theorem SpAt.n2 {μ : Sto} {s rd wd : Addr} {ls : List Ln} {es : List Ent} (S : SpAt μ s rd wd ls es) : s ≠ wd := fun e => by
  have := S.w
  rw [← e, S.o] at this
  cases this
theorem SpAt.upd {μ : Sto} {s rd wd : Addr} {ls : List Ln} {es fs : List Ent} (S : SpAt μ s rd wd ls es) : SpAt ((μ.set rd (.dict (entD ratT fs))).set wd (.dict (entD wayT fs))) s rd wd ls fs :=
  ⟨by rw [set_ne S.n2, set_ne S.n1]; exact S.o, by rw [set_ne S.ne, set_self], set_self, S.ne⟩
theorem SpAt.put {μ : Sto} {s rd wd p : Addr} {ls : List Ln} {es : List Ent} {ob : Ob} (S : SpAt μ s rd wd ls es) (a : s ≠ p) (b : rd ≠ p) (c : wd ≠ p) : SpAt (μ.set p ob) s rd wd ls es :=
  ⟨by rw [set_ne a]; exact S.o, by rw [set_ne b]; exact S.r, by rw [set_ne c]; exact S.w, S.ne⟩
theorem SpAt.fresh {μ : Sto} {s rd wd p : Addr} {ls : List Ln} {es : List Ent} {ob : Ob} (S : SpAt μ s rd wd ls es) (h : μ p = none) : SpAt (μ.set p ob) s rd wd ls es := S.put (nofr S.o h) (nofr S.r h) (nofr S.w h)
/-- what a walk from a piece's first work brings -/
structure Walked (ls : List Ln) (n : Nat) (es : List Ent) (a : Int) (fs : List Ent) : Prop where
  ti : TI ls n fs
  keys : ∀ v, v ∈ keysE fs ↔ v ∈ keysE es ∨ Con (ends ls) a v
/-- what is known on the way -/
structure WInv (ls : List Ln) (n : Nat) (es : List Ent) (a : Int) (P : Int → Prop) (fs : List Ent) (td : List Int) : Prop where
  ti : TI ls n fs
  old : ∀ v ∈ keysE es, v ∈ keysE fs
  new : ∀ v ∈ keysE fs, v ∈ keysE es ∨ Con (ends ls) a v
  sub : ∀ x ∈ td, x ∈ keysE fs ∧ Con (ends ls) a x
  f : a ∈ keysE fs
  cl : ∀ x ∈ keysE fs, x ∉ keysE es → x ∉ td → ¬ P x → ∀ y, Adj (ends ls) x y → y ∈ keysE fs
theorem WInv.add {ls : List Ln} {n : Nat} {es : List Ent} {a : Int} {P : Int → Prop} {fs : List Ent} {td : List Int} (h : WInv ls n es a P fs td) (hp : PosL ls) (hz : ∀ l ∈ ls, Bt 128 (Ln.gi l) ∧ Bt 128 l.ta) (hi : Inr (ends ls) n) {e : Ent} (he : e ∈ fs) (hw : Con (ends ls) a e.v) {b x : Int} {d : Bool} (hl : Leads ls b d e.v x) (hx : x ∉ keysE fs) : WInv ls n es a P (fs ++ [goE ls e b d x]) (td ++ [x]) := by
  have ek : keysE (fs ++ [goE ls e b d x]) = keysE fs ++ [x] := keysE_add
  have hc : Con (ends ls) a x := hw.trans hl.path.con
  refine ⟨h.ti.step hp hz hi he hl hx, ?_, ?_, ?_, ?_, ?_⟩ <;> rw [ek]
  · exact fun v hv => List.mem_append.mpr (.inl (h.old v hv))
  · intro v hv
    rcases List.mem_append.mp hv with hv | hv
    · exact h.new v hv
    · cases List.mem_singleton.mp hv
      exact .inr hc
  · intro y hy
    rcases List.mem_append.mp hy with hy | hy
    · exact ⟨List.mem_append.mpr (.inl (h.sub y hy).1), (h.sub y hy).2⟩
    · cases List.mem_singleton.mp hy
      exact ⟨List.mem_append.mpr (.inr hy), hc⟩
  · exact List.mem_append.mpr (.inl h.f)
  · intro y hy hn ht hP z hz'
    rcases List.mem_append.mp hy with hy | hy
    · exact List.mem_append.mpr (.inl (h.cl y hy hn (fun q => ht (List.mem_append.mpr (.inl q))) hP z hz'))
    · exact absurd (List.mem_append.mpr (.inr hy)) ht
theorem WInv.end_ {ls : List Ln} {n : Nat} {es : List Ent} {a : Int} {fs : List Ent} (h : WInv ls n es a (fun _ => False) fs []) (hes : ∀ v ∈ keysE es, ¬ Con (ends ls) a v) : Walked ls n es a fs := by
  refine ⟨h.ti, fun v => ⟨h.new v, fun z => ?_⟩⟩
  rcases z with z | z
  · exact h.old v z
  · have : ∀ u, Con (ends ls) a u → u ∈ keysE fs := fun u hu => by
      induction hu with
      | refl => exact h.f
      | step h' e ih => exact h.cl _ ih (fun q => hes _ q h') List.not_mem_nil id _ e
    exact this v z
/-- the store on the way -/
def WS (μ : Sto) (rd wd pt : Addr) (ls : List Ln) (n : Nat) (es : List Ent) (a w : Int) (m : Nat) (Q : List Ent → Prop) (μ' : Sto) : Prop := ∃ fs td, μ' = (((μ.set rd (.dict (entD ratT fs))).set wd (.dict (entD wayT fs))).set pt (.lst (td.map T.int))) ∧ WInv ls n es a (· = w) fs td ∧ (w ∈ keysE fs ∧ Con (ends ls) a w) ∧ 2 * n + td.length < m + 2 * fs.length ∧ Q fs
theorem set3 {μ : Sto} {p q t : Addr} {a b c a' b' c' : Ob} : (((((μ.set p a).set q b).set t c).set p a').set q b').set t c' = ((μ.set p a').set q b').set t c' := by
  funext x
  unfold Sto.set
  by_cases h1 : x = t
  · simp [h1]
  · by_cases h2 : x = q
    · simp [h1, h2]
    · by_cases h3 : x = p
      · simp [h1, h2, h3]
      · simp [h1, h2, h3]
def SeenE (ls : List Ln) (w : Int) (k : Nat) (fs : List Ent) : Prop := ∀ l ∈ ls.take k, (l.g = w → l.t ∈ keysE fs) ∧ (l.t = w → l.g ∈ keysE fs)
def VisE (w a b : Int) (fs : List Ent) : Prop := a = w → b ∈ keysE fs
theorem SeenE.app {ls : List Ln} {w : Int} {k : Nat} {fs : List Ent} {e : Ent} (h : SeenE ls w k fs) : SeenE ls w k (fs ++ [e]) := fun l hl => by
  rw [keysE_add]
  exact ⟨fun e => List.mem_append.mpr (.inl ((h l hl).1 e)), fun e => List.mem_append.mpr (.inl ((h l hl).2 e))⟩
theorem WS.mono {μ : Sto} {rd wd pt : Addr} {ls : List Ln} {n : Nat} {es : List Ent} {a w : Int} {m : Nat} {Q Q' : List Ent → Prop} {μ' : Sto} (h : WS μ rd wd pt ls n es a w m Q μ') (k : ∀ fs, Q fs → Q' fs) : WS μ rd wd pt ls n es a w m Q' μ' := by
  obtain ⟨fs, td, h1, h2, h3, h4, h5⟩ := h
  exact ⟨fs, td, h1, h2, h3, h4, k _ h5⟩
theorem ad_own {o : Bool} {ts us : List T} {p : Addr} {μ : Sto} {R : RP} (h : μ p = some (.lst us)) : tAdd o (.lst ts) (.own p) μ R = (ts.length + us.length ≤ sizeLine ∧ newL o (ts ++ us) μ R) := by
  simp only [Rh.tAdd, Rh.onS, Rh.slst, h, Option.some.injEq, exists_eq_left']
theorem sq0 {n : Nat} : seqIndex? 0 (n + 1) = some 0 := by
  unfold seqIndex?
  simp
def Agr (es : List Ent) (l : Ln) : Prop := ∀ eg ∈ es, ∀ et ∈ es, eg.v = l.g → et.v = l.t → eg.p * l.gi * et.q = eg.q * l.ta * et.p
theorem agr_iff {p q gi ta u v : Int} (hp : 0 < p) (hq : 0 < q) (hg : 0 < gi) (ht : 0 < ta) (hu : 0 < u) (hv : 0 < v) (h1 : Int.gcd u v = 1) : ((rat (p * (rat gi ta).1) (q * (rat gi ta).2)).1 = u ∧ (rat (p * (rat gi ta).1) (q * (rat gi ta).2)).2 = v) ↔ p * gi * v = q * ta * u := by
  obtain ⟨a1, a2, a3, a4, a5, a6⟩ := rat_spec hg ht
  have e := times_is hp hq a1 a2 (Int.mul_comm p q) a4
  obtain ⟨r1, r2, r3, _⟩ := rat_spec (Int.mul_pos hp a1) (Int.mul_pos hq a2)
  generalize (rat (p * (rat gi ta).1) (q * (rat gi ta).2)).1 = r at *
  generalize (rat (p * (rat gi ta).1) (q * (rat gi ta).2)).2 = s at *
  constructor
  · rintro ⟨rfl, rfl⟩
    calc p * gi * s = s * (p * gi) := Int.mul_comm _ _
      _ = r * (q * ta) := e.symm
      _ = q * ta * r := Int.mul_comm _ _
  · intro h
    refine red_eq r1 r2 hu hv r3 h1 ?_
    apply Int.eq_of_mul_eq_mul_left (Int.ne_of_gt (Int.mul_pos hq ht))
    calc q * ta * (r * v) = (r * (q * ta)) * v := by ac_rfl
      _ = s * (p * gi * v) := by rw [e]; ac_rfl
      _ = q * ta * (s * u) := by rw [h]; ac_rfl
/-- all that a search through all pieces has brought -/
structure Full (ls : List Ln) (n : Nat) (es : List Ent) : Prop where
  ti : TI ls n es
  pos : PosL ls
  bt : ∀ l ∈ ls, Bt 128 (Ln.gi l) ∧ Bt 128 l.ta
  inr : Inr (ends ls) n
  n31 : n ≤ 31
  all : ∀ v : Int, 0 ≤ v → v < n → v ∈ keysE es
theorem Full.ent {ls : List Ln} {n : Nat} {es : List Ent} (h : Full ls n es) {v : Int} (h0 : 0 ≤ v) (h1 : v < n) : ∃ e ∈ es, e.v = v ∧ 0 < e.p ∧ 0 < e.q ∧ Int.gcd e.p e.q = 1 ∧ Bt 4500 e.p ∧ Bt 4500 e.q ∧ e.w.length ≤ 31 := by
  obtain ⟨e, he, rfl⟩ := List.mem_map.mp (h.all v h0 h1)
  have a := h.ti.pos e he
  have b := h.ti.bt e he
  have c := h.ti.wl e he
  have d := h.ti.len
  have := h.n31
  exact ⟨e, he, rfl, a.1, a.2.1, a.2.2, b.1.mono (by omega), b.2.mono (by omega), by omega⟩
theorem eq_pace {neg : Bool} {x y : Pace} {μ : Sto} {R : RP} : tEq neg (paceT x) (paceT y) μ R = R (.bl (if neg = true then !decide (x = y) else decide (x = y))) μ :=
  @eq_hasE (Int × Bool) _ _ μ (paceT x) (paceT y) x y neg R (Has.of (x := (x : Int × Bool)) ⟨trivial, trivial⟩) (Has.of (x := (y : Int × Bool)) ⟨trivial, trivial⟩) rfl
/-- rates told, one's own or at rest -/
def ratR (rs : List Int) (μ : Sto) (R : RP) : Prop := (∀ p, μ p = none → R (.tup [.own p, .non]) (μ.set p (.lst (rs.map T.int)))) ∨ R (.tup [.lst (rs.map T.int), .non]) μ
theorem fin_ratR {rs : List Int} {μ μ' : Sto} {R : RP} {q : Addr} (h : ratR rs μ R) (hq : μ q = Option.none) (e : μ' q = some (.lst (rs.map T.int))) (s : Rh.Sub (μ.set q (.lst (rs.map T.int))) μ') : fin_ R (.tup [.own q, .non]) μ' := by
  rcases h with h | h
  · exact fin_sub _ s (h q hq)
  · refine ⟨.tup [.lst (rs.map T.int), .non], μ, ⟨[q], .tup (.cons (.own e (List.mem_singleton.mpr rfl) (.refl _)) (.cons (.refl _) .nil)), fun a o z => ?_, fun a ha => by cases List.mem_singleton.mp ha; exact hq⟩, h⟩
    exact s a o (by rw [set_ne (fun y => by subst y; rw [hq] at z; cases z)]; exact z)
theorem compL_head {es : List (Int × Int)} {n : Nat} {a : Int} (hi : Inr es n) (h0 : 0 ≤ a) (h1 : a < n) (hf : Fst es a) : (compL es n a)[0]? = some a := by
  have hm := (compL_mem (b := a) hi ⟨h0, h1⟩).mpr .refl
  have hlt := compL_lt (es := es) (n := n) (a := a)
  have hc := fun b => (compL_mem (b := b) hi ⟨h0, h1⟩).mp
  cases e : compL es n a with
  | nil => rw [e] at hm; cases hm
  | cons y r =>
    rw [e] at hm hlt hc
    have h2 := hf y (hc y List.mem_cons_self)
    rcases List.mem_cons.mp hm with rfl | hm
    · rfl
    · have := (List.pairwise_cons.mp hlt).1 a hm
      omega
theorem firsts_mem {es : List (Int × Int)} {n : Nat} {a : Int} : a ∈ firsts es n ↔ (0 ≤ a ∧ a < n) ∧ Fst es a := by
  classical
  unfold firsts
  rw [List.mem_filter, rngI_mem, decide_eq_true_eq]
theorem firsts_nd {es : List (Int × Int)} {n : Nat} : (firsts es n).Nodup := by
  classical
  unfold firsts
  exact nodup_of_lt (List.Pairwise.filter _ rngI_lt)
theorem Sub.none' {μ μ' : Sto} (h : Rh.Sub μ μ') {p : Addr} (e : μ' p = none) : μ p = none := by
  cases q : μ p with
  | none => rfl
  | some o => rw [h _ _ q] at e; cases e
theorem Sub.put' {μ μ' : Sto} {q : Addr} {o : Ob} (sb : Rh.Sub μ μ') (hq : μ q = none) : Rh.Sub μ (μ'.set q o) := fun a ob e => by
  rw [set_ne (fun y => by subst y; rw [hq] at e; cases e)]
  exact sb a ob e
def cL (n : Nat) (row : List Int) : List Int := ((List.range n).map fun i : Nat => (i : Int)).map fun w => (row.count w : Int)
theorem cL_len {n : Nat} {row : List Int} : (cL n row).length = n := by
  unfold cL
  rw [List.length_map, List.length_map, List.length_range]
theorem cL_at {n : Nat} {row : List Int} {w : Int} (h0 : 0 ≤ w) (h1 : w < n) : cnt (cL n row) w = row.count w := by
  unfold Rh.cnt cL
  rw [List.getElem?_map, List.getElem?_map, List.getElem?_range (by omega)]
  show ((row.count ((w.toNat : Nat) : Int) : Nat) : Int) = _
  rw [Int.toNat_of_nonneg h0]
theorem cnt_ext {xs ys : List Int} {n : Nat} (h1 : xs.length = n) (h2 : ys.length = n) (h : ∀ w : Int, 0 ≤ w → w < n → cnt xs w = cnt ys w) : xs = ys := by
  refine List.ext_getElem (h1.trans h2.symm) fun i a b => ?_
  have := h i (by omega) (by omega)
  unfold Rh.cnt at this
  rw [Int.toNat_natCast, List.getElem?_eq_getElem a, List.getElem?_eq_getElem b] at this
  exact this
theorem count_app {row : List Int} {w x : Int} : (row ++ [w]).count x = row.count x + if w = x then 1 else 0 := by
  rw [List.count_append, List.count_singleton]
  by_cases h : w = x
  · simp [h]
  · have h' : ¬ x = w := fun z => h z.symm
    simp [h, h']
theorem cL_app {n : Nat} {row : List Int} {w : Int} (h0 : 0 ≤ w) (h1 : w < n) : cL n (row ++ [w]) = (cL n row).set w.toNat (cnt (cL n row) w + 1) := by
  refine cnt_ext cL_len (by rw [List.length_set]; exact cL_len) fun x x0 x1 => ?_
  rw [cnt_set h0 (by rw [cL_len]; exact h1) x0, cL_at x0 x1, count_app, cL_at h0 h1]
  by_cases e : w = x
  · subst e
    rw [if_pos rfl, if_pos rfl]
    omega
  · rw [if_neg e, if_neg e, cL_at x0 x1]
    omega
theorem cL_nil {n : Nat} : cL n [] = List.replicate n 0 := by
  refine cnt_ext cL_len List.length_replicate fun x x0 x1 => ?_
  rw [cL_at x0 x1]
  unfold Rh.cnt
  rw [List.getElem?_replicate, if_pos (by omega)]
  rfl
def hpOf (row : List Int) (l : Ln) : Int := l.st + l.gi * row.count l.g - l.ta * row.count l.t
def hps (ls : List Ln) (row : List Int) : List Int := ls.map (hpOf row)
theorem hps_nil {ls : List Ln} : hps ls [] = ls.map Ln.st := by
  unfold hps
  refine List.map_congr_left fun l _ => ?_
  unfold hpOf
  rw [List.count_nil, List.count_nil]
  simp
theorem shf_hp {l : Ln} {row : List Int} {w : Int} : shf l (hpOf row l) w = hpOf (row ++ [w]) l := by
  unfold shf hpOf
  rw [count_app, count_app, Int.natCast_add, Int.natCast_add, Int.mul_add, Int.mul_add]
  by_cases a : l.g = w <;> by_cases b : l.t = w
  · rw [if_pos a, if_pos b, if_pos a.symm, if_pos b.symm]
    simp
    omega
  · rw [if_pos a, if_neg b, if_pos a.symm, if_neg (fun z => b z.symm)]
    simp
    omega
  · rw [if_neg a, if_pos b, if_neg (fun z => a z.symm), if_pos b.symm]
    simp
    omega
  · rw [if_neg a, if_neg b, if_neg (fun z => a z.symm), if_neg (fun z => b z.symm)]
    simp
theorem zip_self_map {α β : Type} (f : α → β) : ∀ ls : List α, ls.zip (ls.map f) = ls.map fun l => (l, f l)
  | [] => rfl
  | a :: r => by rw [List.map_cons, List.zip_cons_cons, zip_self_map f r, List.map_cons]
theorem shift_hps {ls : List Ln} {row : List Int} {w : Int} : shiftL ls (hps ls row) w = hps ls (row ++ [w]) := by
  unfold shiftL hps
  rw [zip_self_map, List.map_map]
  refine List.map_congr_left fun l _ => shf_hp
theorem rdy_hps {ls : List Ln} {row : List Int} {w : Int} : rdy ls (hps ls row) w = true ↔ ∀ l ∈ ls, l.t = w → l.ta ≤ hpOf row l := by
  unfold rdy hps
  rw [zip_self_map, List.all_map, List.all_eq_true]
  constructor
  · intro h l hl e
    have := h l hl
    simp only [Function.comp, e, decide_true, Bool.true_and, Bool.not_eq_true', decide_eq_false_iff_not] at this
    omega
  · intro h l hl
    simp only [Function.comp, Bool.not_eq_true', Bool.and_eq_false_iff, decide_eq_false_iff_not]
    by_cases e : l.t = w
    · right
      have := h l hl e
      omega
    · exact .inl e
def Can (ls : List Ln) (gl row : List Int) (w : Int) : Prop := (row.count w : Int) < cnt gl w ∧ rdy ls (hps ls row) w = true
def Turns (ls : List Ln) (gl : List Int) (n : Nat) (row : List Int) : Prop := ∀ (k : Nat) w, row[k]? = some w → (0 ≤ w ∧ w < n) ∧ Can ls gl (row.take k) w
def Least (ls : List Ln) (gl row : List Int) : Prop := ∀ (k : Nat) w, row[k]? = some w → ∀ v : Int, 0 ≤ v → v < w → ¬ Can ls gl (row.take k) v
def Stuck (ls : List Ln) (gl : List Int) (n : Nat) (row : List Int) : Prop := ∀ w : Int, 0 ≤ w → w < n → ¬ Can ls gl row w
theorem Turns.nil {ls : List Ln} {gl : List Int} {n : Nat} : Turns ls gl n [] := fun k w h => by simp at h
theorem Least.nil {ls : List Ln} {gl : List Int} : Least ls gl [] := fun k w h => by simp at h
theorem get_app {row : List Int} {w x : Int} {k : Nat} (h : (row ++ [w])[k]? = some x) : (row[k]? = some x ∧ (row ++ [w]).take k = row.take k) ∨ (x = w ∧ (row ++ [w]).take k = row) := by
  by_cases hk : k < row.length
  · rw [List.getElem?_append_left hk] at h
    exact .inl ⟨h, List.take_append_of_le_length (by omega)⟩
  · rw [List.getElem?_append_right (by omega)] at h
    obtain ⟨h1, h2⟩ := List.getElem?_eq_some_iff.mp h
    rw [List.length_singleton] at h1
    have : k = row.length := by omega
    subst this
    refine .inr ⟨?_, by simp⟩
    simpa using h2.symm
theorem Turns.app {ls : List Ln} {gl : List Int} {n : Nat} {row : List Int} {w : Int} (h : Turns ls gl n row) (h0 : 0 ≤ w ∧ w < n) (hc : Can ls gl row w) : Turns ls gl n (row ++ [w]) := fun k x e => by
  rcases get_app e with ⟨e1, e2⟩ | ⟨rfl, e2⟩
  · rw [e2]
    exact h k x e1
  · rw [e2]
    exact ⟨h0, hc⟩
theorem Least.app {ls : List Ln} {gl : List Int} {row : List Int} {w : Int} (h : Least ls gl row) (hc : ∀ v : Int, 0 ≤ v → v < w → ¬ Can ls gl row v) : Least ls gl (row ++ [w]) := fun k x e => by
  rcases get_app e with ⟨e1, e2⟩ | ⟨rfl, e2⟩
  · rw [e2]
    exact h k x e1
  · rw [e2]
    exact hc
theorem Turns.take {ls : List Ln} {gl : List Int} {n : Nat} {row : List Int} (h : Turns ls gl n row) (j : Nat) : Turns ls gl n (row.take j) := fun k w e => by
  rw [List.getElem?_take] at e
  split at e
  · have := h k w e
    rwa [List.take_take, Nat.min_eq_left (by omega)]
  · cases e
theorem Turns.mem {ls : List Ln} {gl : List Int} {n : Nat} {row : List Int} (h : Turns ls gl n row) : ∀ w ∈ row, 0 ≤ w ∧ w < n := fun w hw => by
  obtain ⟨k, hk, e⟩ := List.mem_iff_getElem.mp hw
  exact (h k w (by rw [← e]; exact List.getElem?_eq_getElem hk)).1
theorem Turns.le {ls : List Ln} {gl : List Int} {n : Nat} {row : List Int} (h : Turns ls gl n row) (hg : ∀ w : Int, 0 ≤ w → w < n → 0 ≤ cnt gl w) : ∀ (k : Nat) (w : Int), 0 ≤ w → w < n → ((row.take k).count w : Int) ≤ cnt gl w
  | 0, w, h0, h1 => by
    rw [List.take_zero, List.count_nil]
    exact hg w h0 h1
  | k + 1, w, h0, h1 => by
    have ih := Turns.le h hg k w h0 h1
    rw [List.take_add_one]
    cases e : row[k]? with
    | none => simpa using ih
    | some x =>
      have hc := (h k x e).2.1
      show ((row.take k ++ [x]).count w : Int) ≤ _
      rw [count_app]
      by_cases ex : x = w
      · subst ex
        rw [if_pos rfl]
        omega
      · rw [if_neg ex]
        exact ih
theorem Turns.le' {ls : List Ln} {gl : List Int} {n : Nat} {row : List Int} (h : Turns ls gl n row) (hg : ∀ w : Int, 0 ≤ w → w < n → 0 ≤ cnt gl w) {w : Int} (h0 : 0 ≤ w) (h1 : w < n) : (row.count w : Int) ≤ cnt gl w := by
  have := h.le hg row.length w h0 h1
  rwa [List.take_length] at this
/-- nobody turns oftener than in a row that sticks -/
theorem dom {ls : List Ln} {gl : List Int} {n : Nat} {r1 r2 : List Int} (hp : PosL ls) (s : Stuck ls gl n r1) (h : Turns ls gl n r2) : ∀ (k : Nat) (w : Int), (r2.take k).count w ≤ r1.count w
  | 0, w => by
    rw [List.take_zero, List.count_nil]
    exact Nat.zero_le _
  | k + 1, w => by
    have ih := fun w => dom hp s h k w
    rw [List.take_add_one]
    cases e : r2[k]? with
    | none => simpa using ih w
    | some x =>
      obtain ⟨⟨x0, x1⟩, hc, hr⟩ := h k x e
      show ((r2.take k ++ [x]).count w) ≤ _
      rw [count_app]
      by_cases ex : x = w
      · subst ex
        rw [if_pos rfl]
        refine Nat.lt_of_le_of_ne (ih x) fun q => s x x0 x1 ⟨by rw [← q]; exact hc, rdy_hps.mpr fun l hl et => ?_⟩
        have h1 := rdy_hps.mp hr l hl et
        have h2 := Int.mul_le_mul_of_nonneg_left (show ((r2.take k).count l.g : Int) ≤ (r1.count l.g : Int) by have := ih l.g; omega) (show 0 ≤ l.gi by have := (hp l hl).1; omega)
        unfold hpOf at h1 ⊢
        rw [et] at h1 ⊢
        rw [← q]
        omega
      · rw [if_neg ex]
        exact ih w
theorem dom' {ls : List Ln} {gl : List Int} {n : Nat} {r1 r2 : List Int} (hp : PosL ls) (s : Stuck ls gl n r1) (h : Turns ls gl n r2) (w : Int) : r2.count w ≤ r1.count w := by
  have := dom hp s h r2.length w
  rwa [List.take_length] at this
/-- all rows that stick have the same counts -/
theorem stuck_same {ls : List Ln} {gl : List Int} {n : Nat} {r1 r2 : List Int} (hp : PosL ls) (s1 : Stuck ls gl n r1) (h1 : Turns ls gl n r1) (s2 : Stuck ls gl n r2) (h2 : Turns ls gl n r2) : cL n r1 = cL n r2 := by
  refine cnt_ext cL_len cL_len fun w a b => ?_
  rw [cL_at a b, cL_at a b]
  have := dom' hp s1 h2 w
  have := dom' hp s2 h1 w
  omega
theorem sum_set {xs : List Int} : ∀ {i : Nat} {v : Int}, i < xs.length → (xs.set i v).sum = xs.sum - (xs[i]?).getD 0 + v := by
  induction xs with
  | nil => intro i v h; simp at h
  | cons a r ih =>
    intro i v h
    cases i with
    | zero =>
      simp only [List.set_cons_zero, List.sum_cons, List.getElem?_cons_zero, Option.getD_some]
      omega
    | succ i =>
      simp only [List.set_cons_succ, List.sum_cons, List.getElem?_cons_succ]
      rw [ih (by simpa using h)]
      omega
theorem sum_repl {n : Nat} : (List.replicate n (0 : Int)).sum = 0 := by
  induction n with
  | zero => rfl
  | succ n ih => rw [List.replicate_succ, List.sum_cons, ih]; rfl
theorem len_sum {n : Nat} : ∀ row : List Int, (∀ w ∈ row, 0 ≤ w ∧ w < n) → (row.length : Int) = (cL n row).sum := fun row => by
  induction row using rev_ind with
  | nil =>
    intro _
    rw [cL_nil, sum_repl]
    rfl
  | snoc row w ih =>
    intro h
    have hw := h w (by simp)
    have ih := ih fun x hx => h x (by simp [hx])
    rw [cL_app hw.1 hw.2, sum_set (by rw [cL_len]; omega), ← ih, List.length_append, List.length_singleton]
    unfold Rh.cnt
    omega
theorem sum_le {xs : List Int} : ∀ {ys : List Int}, xs.length = ys.length → (∀ i : Nat, (xs[i]?).getD 0 ≤ (ys[i]?).getD 0) → xs.sum ≤ ys.sum := by
  induction xs with
  | nil => intro ys h _; have : ys = [] := List.eq_nil_of_length_eq_zero h.symm; rw [this]; exact Int.le_refl _
  | cons a r ih =>
    intro ys h k
    cases ys with
    | nil => cases h
    | cons b s =>
      have h0 := k 0
      have := ih (ys := s) (by simpa using h) fun i => k (i + 1)
      simp only [List.sum_cons]
      simp at h0
      omega
theorem Turns.len {ls : List Ln} {gl : List Int} {n : Nat} {row : List Int} (h : Turns ls gl n row) (hl : gl.length = n) (hg : ∀ w : Int, 0 ≤ w → w < n → 0 ≤ cnt gl w) : (row.length : Int) ≤ gl.sum := by
  rw [len_sum row h.mem]
  refine sum_le (cL_len.trans hl.symm) fun i => ?_
  by_cases hi : i < n
  · have := h.le' hg (w := i) (by omega) (by omega)
    rw [← cL_at (n := n) (row := row) (by omega) (by omega)] at this
    unfold Rh.cnt at this
    rwa [Int.toNat_natCast] at this
  · rw [List.getElem?_eq_none (by rw [cL_len]; omega), List.getElem?_eq_none (by omega)]
    exact Int.le_refl _
/-- a belt that is short for a work with turns left has a giver with turns left -/
theorem short_giver {ls : List Ln} {gl : List Int} {n : Nat} {row : List Int} (S : Sol ls n gl) (hi : Inr (ends ls) n) (hp : PosL ls) (h : Turns ls gl n row) {l : Ln} (hl : l ∈ ls) (h0 : 0 ≤ l.st) (hc : (row.count l.t : Int) < cnt gl l.t) (hs : hpOf row l < l.ta) : (row.count l.g : Int) < cnt gl l.g := by
  obtain ⟨⟨g0, g1⟩, t0, t1⟩ := hi _ (ends_mem hl)
  have le := h.le' (fun w a b => Int.le_of_lt (S.pos w a b)) g0 g1
  refine Int.lt_iff_le_and_ne.mpr ⟨le, fun e => ?_⟩
  have e : (row.count l.g : Int) = cnt gl l.g := e
  unfold hpOf at hs
  rw [e, S.bal l hl] at hs
  have ht := (hp l hl).2
  have : l.ta * (row.count l.t : Int) + l.ta ≤ l.ta * cnt gl l.t := by
    have := Int.mul_le_mul_of_nonneg_left (show (row.count l.t : Int) + 1 ≤ cnt gl l.t by omega) (show 0 ≤ l.ta by omega)
    rwa [Int.mul_add, Int.mul_one] at this
  omega
/-- a ring of short belts -/
structure StopR (ls : List Ln) (gl row ring : List Int) : Prop where
  ne : ring ≠ []
  nd : ring.Nodup
  at_ : ∀ i ∈ ring, ∃ l, 0 ≤ i ∧ ls[i.toNat]? = some l ∧ (row.count l.t : Int) < cnt gl l.t ∧ hpOf row l < l.ta
  ch : ∀ (k : Nat) i j l l', ring[k]? = some i → ring[k + 1]? = some j → ls[i.toNat]? = some l → ls[j.toNat]? = some l' → l.g = l'.t
  cl : ∀ i j l l', ring[ring.length - 1]? = some i → ring[0]? = some j → ls[i.toNat]? = some l → ls[j.toNat]? = some l' → l.g = l'.t
theorem LstAt.put' {μ : Sto} {t : T} {us : List T} {p : Addr} {o : Ob} (h : LstAt μ t us) (hn : t ≠ .own p) : LstAt (μ.set p o) t us := by
  rcases h with rfl | ⟨q, rfl, e⟩
  · exact .lst
  · exact .own (by rw [set_ne (fun z => hn (by rw [z]))]; exact e)
/-- an attempt in the store -/
structure AtSt (μ : Sto) (a p3 p4 : Addr) (th : T) (ls : List Ln) (gl : List Int) (n : Nat) (row : List Int) : Prop where
  o : μ a = some (.obj 0 [.lst (ls.map Ln.tr), .lst (gl.map T.int), th, .own p3, .own p4])
  h : LstAt μ th ((hps ls row).map T.int)
  c : μ p3 = some (.lst ((cL n row).map T.int))
  r : μ p4 = some (.lst (row.map T.int))
  hn : th ≠ .own a ∧ th ≠ .own p3 ∧ th ≠ .own p4
  gl : gl.length = n
  n1 : p3 ≠ p4
theorem AtSt.n3 {μ : Sto} {a p3 p4 : Addr} {th : T} {ls : List Ln} {gl : List Int} {n : Nat} {row : List Int} (S : AtSt μ a p3 p4 th ls gl n row) : a ≠ p3 := fun e => by
  have := S.c
  rw [← e, S.o] at this
  cases this
theorem AtSt.n4 {μ : Sto} {a p3 p4 : Addr} {th : T} {ls : List Ln} {gl : List Int} {n : Nat} {row : List Int} (S : AtSt μ a p3 p4 th ls gl n row) : a ≠ p4 := fun e => by
  have := S.r
  rw [← e, S.o] at this
  cases this
/-- the belts back, with the room that is left -/
def bk (p : Ln × Int) : Ln := ⟨p.1.t, p.1.g, p.1.ta, p.1.gi, p.2 - p.1.st⟩
def bkL (ls : List Ln) (rm : List Int) : List Ln := (ls.zip rm).map bk
structure NmL (ns : List Str) : Prop where
  nm : ∀ n ∈ ns, isName n = true
  nd : ns.Nodup
  le : ns.length ≤ 30
theorem NmL.at_ {nl : List Str} (h : NmL nl) {k : Nat} {x : Str} (e : nl[k]? = some x) : isName x = true ∧ x.length ≤ sizeLine ∧ sOk x ∧ x ∉ nl.take k := by
  have hm := List.mem_of_getElem? e
  obtain ⟨c, d⟩ := isName_ok (h.nm x hm)
  refine ⟨h.nm x hm, Nat.le_trans d (by decide), c, fun z => ?_⟩
  have hd := h.nd
  rw [← List.take_append_drop k nl] at hd
  refine (List.nodup_append.mp hd).2.2 _ z _ ?_ rfl
  rw [List.drop_eq_getElem_cons (List.getElem?_eq_some_iff.mp e).1]
  rw [(List.getElem?_eq_some_iff.mp e).2]
  exact List.mem_cons_self
theorem NmL.ok {nl : List Str} (h : NmL nl) : ∀ x ∈ nl, sOk x := fun x hx => (isName_ok (h.nm x hx)).1
theorem LstAt.sb {μ μ' : Sto} {t : T} {us : List T} (h : LstAt μ t us) (s : Rh.Sub μ μ') : LstAt μ' t us := by
  rcases h with rfl | ⟨q, rfl, e⟩
  · exact .lst
  · exact .own (s _ _ e)
theorem zip_lr {ls : List Ln} {rm : List Int} : ((ls.map Ln.tr).zip (rm.map T.int)).map (fun p => T.tup [p.1, p.2]) = (ls.zip rm).map fun p => T.tup [p.1.tr, .int p.2] := by
  rw [List.zip_map, List.map_map]
  rfl
/-! what a backed hall is -/
theorem bk_hp {row : List Int} {l : Ln} {r : Int} : hpOf row (bk (l, r)) = r - hpOf row l := by
  unfold hpOf bk
  dsimp only
  omega
theorem zip_fst {ls : List Ln} {rm : List Int} (h : rm.length = ls.length) {l : Ln} (hl : l ∈ ls) : ∃ r, (l, r) ∈ ls.zip rm := by
  obtain ⟨i, hi, e⟩ := List.mem_iff_getElem.mp hl
  refine ⟨rm[i]'(by omega), ?_⟩
  rw [← e, ← List.getElem_zip (h := by rw [List.length_zip]; omega)]
  exact List.getElem_mem _
theorem bkL_len {ls : List Ln} {rm : List Int} (h : rm.length = ls.length) : (bkL ls rm).length = ls.length := by
  unfold bkL
  rw [List.length_map, List.length_zip, h, Nat.min_self]
theorem bkL_mem {ls : List Ln} {rm : List Int} {x : Ln} : x ∈ bkL ls rm ↔ ∃ l r, (l, r) ∈ ls.zip rm ∧ x = bk (l, r) := by
  unfold bkL
  rw [List.mem_map]
  constructor
  · rintro ⟨⟨l, r⟩, h, e⟩
    exact ⟨l, r, h, e.symm⟩
  · rintro ⟨l, r, h, e⟩
    exact ⟨(l, r), h, e.symm⟩
theorem mem_zipL {ls : List Ln} {rm : List Int} {l : Ln} {r : Int} (h : (l, r) ∈ ls.zip rm) : l ∈ ls := (List.of_mem_zip h).1
theorem back_inr {ls : List Ln} {rm : List Int} {n : Nat} (h : Inr (ends ls) n) : Inr (ends (ls ++ bkL ls rm)) n := fun e he => by
  obtain ⟨x, hx, rfl⟩ := List.mem_map.mp he
  rcases List.mem_append.mp hx with hx | hx
  · exact h _ (ends_mem hx)
  · obtain ⟨l, r, hl, rfl⟩ := bkL_mem.mp hx
    have := h _ (ends_mem (mem_zipL hl))
    exact ⟨this.2, this.1⟩
theorem back_pos {ls : List Ln} {rm : List Int} (h : PosL ls) : PosL (ls ++ bkL ls rm) := fun x hx => by
  rcases List.mem_append.mp hx with hx | hx
  · exact h x hx
  · obtain ⟨l, r, hl, rfl⟩ := bkL_mem.mp hx
    have := h l (mem_zipL hl)
    exact ⟨this.2, this.1⟩
theorem back_bt {ls : List Ln} {rm : List Int} {k : Nat} (h : ∀ l ∈ ls, Bt k (Ln.gi l) ∧ Bt k l.ta) : ∀ l ∈ ls ++ bkL ls rm, Bt k (Ln.gi l) ∧ Bt k l.ta := fun x hx => by
  rcases List.mem_append.mp hx with hx | hx
  · exact h x hx
  · obtain ⟨l, r, hl, rfl⟩ := bkL_mem.mp hx
    have := h l (mem_zipL hl)
    exact ⟨this.2, this.1⟩
theorem back_st {ls : List Ln} {rm : List Int} (h : ∀ l ∈ ls, 0 ≤ Ln.st l) (hr : ∀ p ∈ ls.zip rm, Ln.st p.1 ≤ p.2) : ∀ l ∈ ls ++ bkL ls rm, 0 ≤ Ln.st l := fun x hx => by
  rcases List.mem_append.mp hx with hx | hx
  · exact h x hx
  · obtain ⟨l, r, hl, rfl⟩ := bkL_mem.mp hx
    have := hr _ hl
    show 0 ≤ r - l.st
    dsimp only at this
    omega
theorem back_con {ls : List Ln} {rm : List Int} {a b : Int} : Con (ends (ls ++ bkL ls rm)) a b ↔ Con (ends ls) a b := by
  have key : ∀ u v : Int, ((u, v) ∈ ends (ls ++ bkL ls rm) ∨ (v, u) ∈ ends (ls ++ bkL ls rm)) ↔ ((u, v) ∈ ends ls ∨ (v, u) ∈ ends ls) := fun u v => by
    have one : ∀ u v : Int, (u, v) ∈ ends (ls ++ bkL ls rm) → ((u, v) ∈ ends ls ∨ (v, u) ∈ ends ls) := fun u v h => by
      obtain ⟨x, hx, e⟩ := List.mem_map.mp h
      rcases List.mem_append.mp hx with hx | hx
      · exact .inl (e ▸ ends_mem hx)
      · obtain ⟨l, r, hl, rfl⟩ := bkL_mem.mp hx
        have := ends_mem (mem_zipL hl)
        cases e
        exact .inr this
    have two : ∀ u v : Int, (u, v) ∈ ends ls → (u, v) ∈ ends (ls ++ bkL ls rm) := fun u v h => by
      obtain ⟨x, hx, e⟩ := List.mem_map.mp h
      exact e ▸ ends_mem (List.mem_append_left _ hx)
    constructor
    · rintro (h | h)
      · exact one u v h
      · exact (one v u h).symm
    · exact fun h => h.imp (two u v) (two v u)
  exact ⟨fun c => by
    induction c with
    | refl => exact .refl
    | step _ h ih => exact ih.step ((key _ _).mp h), fun c => by
    induction c with
    | refl => exact .refl
    | step _ h ih => exact ih.step ((key _ _).mpr h)⟩
theorem back_sol {ls : List Ln} {rm rs : List Int} {n : Nat} : Sol (ls ++ bkL ls rm) n rs ↔ Sol ls n rs := by
  constructor
  · exact fun S => ⟨S.len, S.pos, fun l hl => S.bal l (List.mem_append_left _ hl)⟩
  · refine fun S => ⟨S.len, S.pos, fun x hx => ?_⟩
    rcases List.mem_append.mp hx with hx | hx
    · exact S.bal x hx
    · obtain ⟨l, r, hl, rfl⟩ := bkL_mem.mp hx
      exact (S.bal l (mem_zipL hl)).symm
theorem back_bal {ls : List Ln} {rm rs : List Int} {n : Nat} : Bal (ls ++ bkL ls rm) n rs ↔ Bal ls n rs := by
  constructor
  · exact fun S => ⟨back_sol.mp S.toSol, fun a h0 h1 d hd h => S.one a h0 h1 d hd fun w c => h w (back_con.mp c)⟩
  · exact fun S => ⟨back_sol.mpr S.toSol, fun a h0 h1 d hd h => S.one a h0 h1 d hd fun w c => h w (back_con.mpr c)⟩
/-- how often each member turns, as a dict -/
def tD (ms rs : List Int) (c : Int) : List (Key × T) := ms.map fun m => (Sum.inl m, T.int (cnt rs m / c))
structure JoAt (μ : Sto) (j pt : Addr) (row : List Int) (fst : Int) (kept : List Int) (called : List Str) (tied : List Ln) : Prop where
  o : μ j = some (.obj 4 [.lst (row.map T.int), .int fst, .lst (kept.map T.int), .lst (called.map T.str), .own pt])
  t : μ pt = some (.lst (tied.map Ln.tr))
def gM (ms rs : List Int) : Int := (ms.map (cnt rs)).foldl (fun a b => (Int.gcd a b : Int)) 0
/-! rooms that cannot be less -/
def wR (ls : List Ln) (rm : List Int) : List Ln := ls ++ bkL ls rm
def HasR (ls : List Ln) (rs : List Int) (n : Nat) (rm : List Int) : Prop := ∃ row, Turns (wR ls rm) rs n row ∧ cL n row = rs
theorem stuck_of_done {ls : List Ln} {gl : List Int} {n : Nat} {row : List Int} (h : cL n row = gl) : Stuck ls gl n row := fun w a b hc => by
  have := hc.1
  rw [← h, cL_at a b] at this
  omega
theorem HasR.done {ls : List Ln} {rs rm : List Int} {n : Nat} (hp : PosL ls) (h : HasR ls rs n rm) {row : List Int} (hT : Turns (wR ls rm) rs n row) (hS : Stuck (wR ls rm) rs n row) : cL n row = rs := by
  obtain ⟨r0, t0, d0⟩ := h
  rw [← d0]
  exact stuck_same (back_pos hp) hS hT (stuck_of_done d0) t0
theorem can_back {ls : List Ln} {rm rs row : List Int} {w : Int} (hl : rm.length = ls.length) : Can (wR ls rm) rs row w ↔ (row.count w : Int) < cnt rs w ∧ (∀ l ∈ ls, l.t = w → l.ta ≤ hpOf row l) ∧ ∀ (i : Nat) l, ls[i]? = some l → l.g = w → hpOf row l + l.gi ≤ cnt rm i := by
  unfold Can wR
  rw [rdy_hps]
  have hz : ∀ (i : Nat) l, ls[i]? = some l → (l, cnt rm i) ∈ ls.zip rm := fun i l e => by
    have hi := (List.getElem?_eq_some_iff.mp e).1
    have e2 := (List.getElem?_eq_some_iff.mp e).2
    have e3 : cnt rm (i : Nat) = rm[i]'(by omega) := by
      unfold Rh.cnt
      rw [Int.toNat_natCast, List.getElem?_eq_getElem (by omega)]
      rfl
    rw [e3, ← e2, ← List.getElem_zip (h := by rw [List.length_zip]; omega)]
    exact List.getElem_mem _
  constructor
  · rintro ⟨h1, h2⟩
    refine ⟨h1, fun l h e => h2 l (List.mem_append_left _ h) e, fun i l e eg => ?_⟩
    have := h2 (bk (l, cnt rm i)) (List.mem_append_right _ (bkL_mem.mpr ⟨_, _, hz i l e, rfl⟩)) eg
    rw [bk_hp] at this
    have : l.gi ≤ cnt rm i - hpOf row l := this
    omega
  · rintro ⟨h1, h2, h3⟩
    refine ⟨h1, fun x hx e => ?_⟩
    rcases List.mem_append.mp hx with hx | hx
    · exact h2 x hx e
    · obtain ⟨l, r, hlr, rfl⟩ := bkL_mem.mp hx
      obtain ⟨i, hi, e9⟩ := List.mem_iff_getElem.mp hlr
      rw [List.length_zip] at hi
      rw [List.getElem_zip, Prod.mk.injEq] at e9
      obtain ⟨e7, e8⟩ := e9
      have := h3 i l (by rw [List.getElem?_eq_getElem (by omega), e7]) e
      have e3 : cnt rm (i : Nat) = r := by
        unfold Rh.cnt
        rw [Int.toNat_natCast, List.getElem?_eq_getElem (by omega), e8]
        rfl
      rw [e3] at this
      rw [bk_hp]
      show l.gi ≤ r - hpOf row l
      omega
theorem turns_up {ls : List Ln} {rm rm' rs : List Int} {n : Nat} {row : List Int} (hl : rm.length = ls.length) (hl' : rm'.length = ls.length) (hle : ∀ i : Nat, i < ls.length → cnt rm i ≤ cnt rm' i) (h : Turns (wR ls rm) rs n row) : Turns (wR ls rm') rs n row := fun k w e => by
  obtain ⟨h1, h2⟩ := h k w e
  obtain ⟨a, b, c⟩ := (can_back hl).mp h2
  exact ⟨h1, (can_back hl').mpr ⟨a, b, fun i l e eg => Int.le_trans (c i l e eg) (hle i (List.getElem?_eq_some_iff.mp e).1)⟩⟩
theorem HasR.up {ls : List Ln} {rm rm' rs : List Int} {n : Nat} (hl : rm.length = ls.length) (hl' : rm'.length = ls.length) (hle : ∀ i : Nat, i < ls.length → cnt rm i ≤ cnt rm' i) (h : HasR ls rs n rm) : HasR ls rs n rm' := by
  obtain ⟨row, t, d⟩ := h
  exact ⟨row, turns_up hl hl' hle t, d⟩
theorem cnt_setR {xs : List Int} {b i : Nat} {v : Int} (hb : b < xs.length) : cnt (xs.set b v) (i : Int) = if i = b then v else cnt xs (i : Int) := by
  unfold Rh.cnt
  rw [Int.toNat_natCast]
  by_cases e : i = b
  · subst e
    rw [if_pos rfl, List.getElem?_set_self hb]
    rfl
  · rw [if_neg e, List.getElem?_set_ne (fun z => e z.symm)]
/-- where a row sticks, the room must be raised at least so far -/
theorem raise_one {ls : List Ln} {rm rs : List Int} {n b : Nat} {l : Ln} {r R' : Int} {row : List Int} (hp : PosL ls) (hl : rm.length = ls.length) (hb : ls[b]? = some l) (hT : Turns (wR ls (rm.set b r)) rs n row) (hS : Stuck (wR ls (rm.set b r)) rs n row) (hne : cL n row ≠ rs) (hR : HasR ls rs n (rm.set b R')) (hle : r ≤ R') : r < hpOf row l + l.gi ∧ hpOf row l + l.gi ≤ R' := by
  have hbl := (List.getElem?_eq_some_iff.mp hb).1
  have l1 : (rm.set b r).length = ls.length := by rw [List.length_set]; exact hl
  have l2 : (rm.set b R').length = ls.length := by rw [List.length_set]; exact hl
  have hle' : ∀ i : Nat, i < ls.length → cnt (rm.set b r) i ≤ cnt (rm.set b R') i := fun i hi => by
    rw [cnt_setR (by omega), cnt_setR (by omega)]
    split
    · exact hle
    · exact Int.le_refl _
  have hT2 := turns_up l1 l2 hle' hT
  have hns : ¬ Stuck (wR ls (rm.set b R')) rs n row := fun z => hne (hR.done hp hT2 z)
  have : ∃ w : Int, 0 ≤ w ∧ w < n ∧ Can (wR ls (rm.set b R')) rs row w := by
    apply Classical.byContradiction
    intro h
    exact hns fun w a b c => h ⟨w, a, b, c⟩
  obtain ⟨w, w0, w1, hc⟩ := this
  have hnc := hS w w0 w1
  obtain ⟨c1, c2, c3⟩ := (can_back l2).mp hc
  have h4 : l.g = w := by
    apply Classical.byContradiction
    intro hg
    refine hnc ((can_back l1).mpr ⟨c1, c2, fun i x e eg => ?_⟩)
    have hib : i ≠ b := fun z => by
      subst z
      rw [hb] at e
      cases e
      exact hg eg
    have := c3 i x e eg
    rw [cnt_setR (by omega), if_neg hib] at this ⊢
    exact this
  have h5 := c3 b l hb h4
  rw [cnt_setR (by omega), if_pos rfl] at h5
  refine ⟨?_, h5⟩
  apply Classical.byContradiction
  intro h6
  refine hnc ((can_back l1).mpr ⟨c1, c2, fun i x e eg => ?_⟩)
  rw [cnt_setR (by omega)]
  by_cases hib : i = b
  · subst hib
    rw [hb] at e
    cases e
    rw [if_pos rfl]
    omega
  · have := c3 i x e eg
    rw [cnt_setR (by omega), if_neg hib] at this
    rw [if_neg hib]
    exact this
theorem zip_st {ls : List Ln} {rm : List Int} (hl : rm.length = ls.length) (h : ∀ (i : Nat) l, ls[i]? = some l → Ln.st l ≤ cnt rm i) : ∀ p ∈ ls.zip rm, Ln.st p.1 ≤ p.2 := fun p hp => by
  obtain ⟨i, hi, rfl⟩ := List.mem_iff_getElem.mp hp
  rw [List.length_zip] at hi
  rw [List.getElem_zip]
  have := h i _ (List.getElem?_eq_getElem (by omega))
  unfold Rh.cnt at this
  rw [Int.toNat_natCast, List.getElem?_eq_getElem (by omega)] at this
  exact this
theorem cut_mid {us : List T} {b : Nat} (hb : b < us.length) : cutT us (some ((b : Int) + 1)) none = us.drop (b + 1) := by
  have := cut_from (us := us) (i := ((b + 1 : Nat) : Int)) (by omega) (by rw [Int.toNat_natCast]; omega)
  rw [Int.toNat_natCast] at this
  exact this
/-! the peaks are rooms enough -/
theorem cnt_get {xs : List Int} {i : Nat} {x : Int} (e : xs[i]? = some x) : cnt xs (i : Int) = x := by
  unfold Rh.cnt
  rw [Int.toNat_natCast, e]
  rfl
theorem cnt_hps {ls : List Ln} {row : List Int} {i : Nat} {l : Ln} (e : ls[i]? = some l) : cnt (hps ls row) (i : Int) = hpOf row l := by
  refine cnt_get ?_
  unfold hps
  rw [List.getElem?_map, e]
  rfl
theorem cnt_sts {ls : List Ln} {i : Nat} {l : Ln} (e : ls[i]? = some l) : cnt (ls.map Ln.st) (i : Int) = l.st := by
  refine cnt_get ?_
  rw [List.getElem?_map, e]
  rfl
theorem some_cnt {xs : List Int} {i : Nat} (h : i < xs.length) : xs[i]? = some (cnt xs (i : Int)) := by
  unfold Rh.cnt
  rw [Int.toNat_natCast, List.getElem?_eq_getElem h]
  rfl
theorem pk1_c {ls : List Ln} {hs ms : List Int} {w : Int} {i : Nat} {l : Ln} (h1 : hs.length = ls.length) (h2 : ms.length = ls.length) (el : ls[i]? = some l) : cnt (pk1 ls hs ms w) (i : Int) = if l.g = w then bmax (cnt ms (i : Int)) (cnt hs (i : Int) + l.gi) else cnt ms (i : Int) := by
  have hi := (List.getElem?_eq_some_iff.mp el).1
  exact cnt_get (pk1_at el (some_cnt (by omega)) (some_cnt (by omega)))
theorem pkc_len {ls : List Ln} : ∀ {row hs ms : List Int}, hs.length = ls.length → ms.length = ls.length → (pkL ls row hs ms).length = ls.length
  | [], _, _, _, h => h
  | w :: r, _, _, h1, h2 => pkc_len (row := r) (shiftL_len (w := w) h1) (pk1_len (w := w) h1 h2)
theorem pkc_ge {ls : List Ln} {i : Nat} (hi : i < ls.length) : ∀ {row hs ms : List Int}, hs.length = ls.length → ms.length = ls.length → cnt ms (i : Int) ≤ cnt (pkL ls row hs ms) (i : Int)
  | [], _, _, _, _ => Int.le_refl _
  | w :: row, hs, ms, h1, h2 => by
    have h3 := pkc_ge hi (row := row) (shiftL_len (w := w) h1) (pk1_len (w := w) h1 h2)
    refine Int.le_trans ?_ h3
    rw [pk1_c h1 h2 (List.getElem?_eq_getElem hi)]
    split
    · unfold bmax
      split <;> omega
    · exact Int.le_refl _
theorem pkc_fit {ls : List Ln} {i : Nat} {l : Ln} (el : ls[i]? = some l) : ∀ (row pre ms : List Int) (k : Nat) (w : Int), ms.length = ls.length → row[k]? = some w → l.g = w → hpOf (pre ++ row.take k) l + l.gi ≤ cnt (pkL ls row (hps ls pre) ms) (i : Int)
  | [], _, _, _, _, _, h, _ => by simp at h
  | v :: row, pre, ms, 0, w, hm, h, hg => by
    have hv : v = w := by simpa using h
    subst hv
    have hl : (hps ls pre).length = ls.length := List.length_map _
    have h3 := pkc_ge (List.getElem?_eq_some_iff.mp el).1 (row := row) (shiftL_len (w := v) hl) (pk1_len (w := v) hl hm)
    refine Int.le_trans ?_ h3
    rw [pk1_c hl hm el, if_pos hg, cnt_hps el, List.take_zero, List.append_nil]
    unfold bmax
    split <;> omega
  | v :: row, pre, ms, k + 1, w, hm, h, hg => by
    have hl : (hps ls pre).length = ls.length := List.length_map _
    have := pkc_fit el row (pre ++ [v]) (pk1 ls (hps ls pre) ms v) k w (pk1_len hl hm) (by simpa using h) hg
    rw [pkL, shift_hps, List.take_succ_cons]
    rw [List.append_assoc] at this
    exact this
theorem goR_turns {ls : List Ln} {rs : List Int} {n : Nat} {row : List Int} (h : Turns ls rs n row) : ∀ (post pre : List Int), pre ++ post = row → goR ls n post (hps ls pre) = .ok (hps ls row)
  | [], pre, e => by
    rw [List.append_nil] at e
    rw [e]
    rfl
  | w :: post, pre, e => by
    have e1 : row[pre.length]? = some w := by
      rw [← e, List.getElem?_append_right (Nat.le_refl _), Nat.sub_self]
      rfl
    have e2 : row.take pre.length = pre := by rw [← e, List.take_left]
    obtain ⟨h1, h2⟩ := h _ _ e1
    rw [e2] at h2
    rw [goR, if_pos h1, if_pos h2.2, shift_hps]
    exact goR_turns h post (pre ++ [w]) (by rw [List.append_assoc]; exact e)
theorem has_peaks {ls : List Ln} {rs : List Int} {n : Nat} {row : List Int} (h : Turns ls rs n row) (d : cL n row = rs) : HasR ls rs n (pkL ls row (ls.map Ln.st) (ls.map Ln.st)) := by
  have hst : (ls.map Ln.st).length = ls.length := List.length_map _
  refine ⟨row, fun k w e => ?_, d⟩
  obtain ⟨h1, h2⟩ := h k w e
  refine ⟨h1, (can_back (pkc_len hst hst)).mpr ⟨h2.1, (rdy_hps.mp h2.2), fun i l el hg => ?_⟩⟩
  have := pkc_fit el row [] (ls.map Ln.st) k w hst e hg
  rw [hps_nil, List.nil_append] at this
  exact this
def StpR (ls : List Ln) (rs : List Int) (n : Nat) (rm : List Int) (i : Nat) (l : Ln) (s : T) : Prop := if cnt rm (i : Int) = Ln.st l then s = .non else ∃ row ring : List Int, s = .tup [.lst ((cL n row).map T.int), .lst (ring.map T.int)] ∧ Turns (wR ls (rm.set i (cnt rm (i : Int) - 1))) rs n row ∧ Least (wR ls (rm.set i (cnt rm (i : Int) - 1))) rs row ∧ Stuck (wR ls (rm.set i (cnt rm (i : Int) - 1))) rs n row ∧ cL n row ≠ rs ∧ StopR (wR ls (rm.set i (cnt rm (i : Int) - 1))) rs row ring ∧ ring.length ≤ 31
theorem fin_tl {us : List T} {μ μ' : Sto} {R : RP} {q : Addr} {t : T} (e : μ' q = some (.lst us)) (hq : μ q = Option.none) (s : Rh.Sub μ μ') (h : R (.tup [t, .lst us]) μ) : fin_ R (.tup [t, .own q]) μ' :=
  ⟨.tup [t, .lst us], μ, ⟨[q], .tup (.cons (.refl _) (.cons (.own e (List.mem_singleton.mpr rfl) (.refl _)) .nil)), s, fun a ha => by cases List.mem_singleton.mp ha; exact hq⟩, h⟩
structure LeanR (ls : List Ln) (rs : List Int) (n : Nat) (most rm : List Int) (sts : List T) : Prop where
  len : rm.length = ls.length
  lo : ∀ (i : Nat) l, ls[i]? = some l → Ln.st l ≤ cnt rm (i : Int)
  has : HasR ls rs n rm
  min : ∀ (i : Nat) l, ls[i]? = some l → cnt rm (i : Int) ≠ Ln.st l → ¬ HasR ls rs n (rm.take i ++ [cnt rm (i : Int) - 1] ++ most.drop (i + 1))
  slen : sts.length = ls.length
  stp : ∀ (i : Nat) l s, ls[i]? = some l → sts[i]? = some s → StpR ls rs n rm i l s
/-! the mill: belts with numbers on them -/
abbrev Frm := Int × List (Int × Int)
def tmT (p : Int × Int) : T := .tup [.int p.1, .int p.2]
def frT (f : Frm) : T := .tup [.int f.1, .tup (f.2.map tmT)]
def fsT (fs : List Frm) : T := .tup (fs.map frT)
def fval (f : Frm) (xs : List Int) : Int := f.2.foldl (fun a p => a + p.2 * cnt xs p.1) f.1
def needW (ls : List Ln) (w : Int) : Int := ((ls.filter fun l => decide (Ln.t l = w)).map Ln.ta).sum
def giveW (ls : List Ln) (w : Int) : Int := ((ls.filter fun l => decide (Ln.g l = w)).map Ln.gi).sum
def WfOk (ls : List Ln) (w : Int) (fs : List Frm) : Prop := (fs.length : Int) = giveW ls w ∧ ∀ f ∈ fs, ∀ p ∈ f.2, 0 ≤ p.1 ∧ p.1 < needW ls w
theorem spots_map {p : Ln → Bool} {ls : List Ln} {f : Ln → Int} : (spots p ls).map (fun i => ((ls[i.toNat]?).map f).getD 0) = (ls.filter p).map f := by
  have e : ls = (List.range ls.length).map fun i => (ls[i]?).getD ⟨0, 0, 0, 0, 0⟩ := by
    refine List.ext_getElem? fun i => ?_
    rw [List.getElem?_map]
    by_cases h : i < ls.length
    · rw [List.getElem?_range h]
      show ls[i]? = some ((ls[i]?).getD _)
      rw [List.getElem?_eq_getElem h]
      rfl
    · rw [List.getElem?_eq_none (by omega), List.getElem?_eq_none (by rw [List.length_range]; omega)]
      rfl
  unfold spots
  rw [List.map_map]
  conv => rhs; rw [e, List.filter_map, List.map_map]
  have e2 : (List.range ls.length).filter (fun i => (ls[i]?).any p) = (List.range ls.length).filter (p ∘ fun i => (ls[i]?).getD ⟨0, 0, 0, 0, 0⟩) := List.filter_congr fun i hi => by
    have hi := List.mem_range.mp hi
    show (ls[i]?).any p = p ((ls[i]?).getD _)
    rw [List.getElem?_eq_getElem hi]
    rfl
  rw [e2]
  refine List.map_congr_left fun i hi => ?_
  have hi := List.mem_range.mp (List.mem_filter.mp hi).1
  show ((ls[((i : Nat) : Int).toNat]?).map f).getD 0 = f ((ls[i]?).getD _)
  rw [Int.toNat_natCast, List.getElem?_eq_getElem hi]
  rfl
theorem spots_at {p : Ln → Bool} {ls : List Ln} {i : Int} (h : i ∈ spots p ls) : ∃ l, 0 ≤ i ∧ ls[i.toNat]? = some l ∧ p l = true := by
  unfold spots at h
  obtain ⟨k, hk, rfl⟩ := List.mem_map.mp h
  obtain ⟨h1, h2⟩ := List.mem_filter.mp hk
  have h1 := List.mem_range.mp h1
  rw [List.getElem?_eq_getElem h1] at h2
  exact ⟨ls[k], by omega, by rw [Int.toNat_natCast]; exact List.getElem?_eq_getElem h1, h2⟩
theorem spots_len {p : Ln → Bool} {ls : List Ln} : (spots p ls).length ≤ ls.length := by
  unfold spots
  rw [List.length_map]
  exact Nat.le_trans (List.length_filter_le _ _) (by rw [List.length_range]; exact Nat.le_refl _)
/-- pieces for each belt, each list at rest or one's own -/
def PcsAt (μ : Sto) (t : T) (Ld : List (List Int)) : Prop := ∃ us : List T, LstAt μ t us ∧ us.length = Ld.length ∧ ∀ (i : Nat) u x, us[i]? = some u → Ld[i]? = some x → LstAt μ u (x.map T.int)
abbrev n_Hall_init : Nat := 7
def i_Hall_init : FnI := ⟨"__init__", (some 3), 1, 1, []⟩
def N_Hall_init : List Str := ["self"]
def c_Hall_init : List Sx := [.asgF 3 0 (.var 0) (.lst true []),
 .asgF 3 1 (.var 0) (.lst true [])]
abbrev n_Hall_names : Nat := 9
def i_Hall_names : FnI := ⟨"names", (some 3), 1, 1, []⟩
def N_Hall_names : List Str := ["self"]
def c_Hall_names : List Sx := [.ret (.bif .list true [(.fld 3 0 (.var 0))])]
abbrev n_Hall_belts : Nat := 10
def i_Hall_belts : FnI := ⟨"belts", (some 3), 1, 1, []⟩
def N_Hall_belts : List Str := ["self"]
def c_Hall_belts : List Sx := [.ret (.bif .list true [(.fld 3 1 (.var 0))])]
abbrev n_Hall_lay : Nat := 29
def i_Hall_lay : FnI := ⟨"lay", (some 3), 1, 6, []⟩
def N_Hall_lay : List Str := ["self", "giver", "taker", "give", "take", "start"]
def c_Hall_lay : List Sx := [.expr (.lm .append (.fld 3 1 (.var 0)) [(.tup [(.var 1), (.var 2), (.var 3), (.var 4), (.var 5)])]),
 .ret (.bin .Sub true (.bif .len false [(.fld 3 1 (.var 0))]) (.cint 1))]
abbrev n_is_name : Nat := 30
def i_is_name : FnI := ⟨"is_name", none, 1, 1, []⟩
def N_is_name : List Str := ["thing", "sign"]
def c_is_name : List Sx := [.ife (.andor false [(.not (.isi ["str"] (.var 0))), (.cmp .Lt (.bif .len false [(.var 0)]) (.cint 1)), (.cmp .Gt (.bif .len false [(.var 0)]) (.cint 8))]) [.ret (.cbl false)] [],
 .ret (.bif .all true [(.comp false [1] (.nm 1) .strg [(.var 0)] (.cbl true) (.cmp .In (.var 1) (.glob 2)))])]
abbrev n_Hall_work : Nat := 31
def i_Hall_work : FnI := ⟨"work", (some 3), 2, 2, []⟩
def N_Hall_work : List Str := ["self", "name"]
def c_Hall_work : List Sx := [.ife (.not (.call n_is_name 0 [(.var 1)])) [.raise 5] [],
 .ife (.cmp .In (.var 1) (.fld 3 0 (.var 0))) [.raise 16] [],
 .ife (.cmp .GtE (.bif .len false [(.fld 3 0 (.var 0))]) (.glob 7)) [.raise 15] [],
 .expr (.lm .append (.fld 3 0 (.var 0)) [(.var 1)]),
 .ret (.bin .Sub true (.bif .len false [(.fld 3 0 (.var 0))]) (.cint 1))]
abbrev n_Hall_need : Nat := 43
def i_Hall_need : FnI := ⟨"need", (some 3), 1, 2, []⟩
def N_Hall_need : List Str := ["self", "work"]
def c_Hall_need : List Sx := [.ife (.not (.chain .LtE .Lt (.cint 0) (.var 1) (.bif .len false [(.fld 3 0 (.var 0))]))) [.raise 10] []]
abbrev n_Hall_leaving : Nat := 44
def i_Hall_leaving : FnI := ⟨"leaving", (some 3), 2, 2, []⟩
def N_Hall_leaving : List Str := ["self", "work", "number", "line"]
def c_Hall_leaving : List Sx := [.expr (.meth n_Hall_need 0 (.var 0) [(.var 1)]),
 .ret (.comp true [2, 3] (.tup [(.nm 2), (.nm 3)]) .enum [(.fld 3 1 (.var 0))] (.cmp .Eq (.idx (.var 3) (.cint 0)) (.var 1)) (.var 2))]
abbrev n_Hall_belt : Nat := 56
def i_Hall_belt : FnI := ⟨"belt", (some 3), 2, 6, [0]⟩
def N_Hall_belt : List Str := ["self", "giver", "taker", "give", "take", "start"]
def c_Hall_belt : List Sx := [.expr (.meth n_Hall_need 0 (.var 0) [(.var 1)]),
 .expr (.meth n_Hall_need 0 (.var 0) [(.var 2)]),
 .ife (.andor false [(.cmp .Lt (.var 3) (.cint 1)), (.cmp .Lt (.var 4) (.cint 1)), (.cmp .Lt (.var 5) (.cint 0))]) [.raise 7] [],
 .ife (.cmp .GtE (.bif .len false [(.fld 3 1 (.var 0))]) (.glob 3)) [.raise 15] [],
 .ret (.meth n_Hall_lay 0 (.var 0) [(.var 1), (.var 2), (.var 3), (.var 4), (.var 5)])]
abbrev n_Hall_entering : Nat := 66
def i_Hall_entering : FnI := ⟨"entering", (some 3), 2, 2, []⟩
def N_Hall_entering : List Str := ["self", "work", "number", "line"]
def c_Hall_entering : List Sx := [.expr (.meth n_Hall_need 0 (.var 0) [(.var 1)]),
 .ret (.comp true [2, 3] (.tup [(.nm 2), (.nm 3)]) .enum [(.fld 3 1 (.var 0))] (.cmp .Eq (.idx (.var 3) (.cint 1)) (.var 1)) (.var 2))]
abbrev n_need_work_forms : Nat := 67
def i_need_work_forms : FnI := ⟨"need_work_forms", none, 3, 3, []⟩
def N_need_work_forms : List Str := ["hall", "work", "some", "belts", "given", "belt", "slots", "constant", "terms", "slot", "factor"]
def c_need_work_forms : List Sx := [.asg (.nm 3) (.meth n_Hall_belts 0 (.var 0) []),
 .asg (.nm 4) (.bif .sum false [(.comp false [5] (.nm 5) .val [(.meth n_Hall_leaving 0 (.var 0) [(.var 1)])] (.cbl true) (.idx (.idx (.var 3) (.var 5)) (.cint 2)))]),
 .asg (.nm 6) (.bif .sum false [(.comp false [5] (.nm 5) .val [(.meth n_Hall_entering 0 (.var 0) [(.var 1)])] (.cbl true) (.idx (.idx (.var 3) (.var 5)) (.cint 3)))]),
 .ife (.cmp .NotEq (.bif .len false [(.var 2)]) (.var 4)) [.raise 3] [],
 .for_ (.tup [(.nm 7), (.nm 8)]) .tupl [(.var 2)] [.for_ (.tup [(.nm 9), (.nm 10)]) .tupl [(.var 8)] [.ife (.not (.chain .LtE .Lt (.cint 0) (.var 9) (.var 6))) [.raise 3] []]]]
abbrev n_need_forms : Nat := 77
def i_need_forms : FnI := ⟨"need_forms", none, 4, 2, []⟩
def N_need_forms : List Str := ["hall", "forms", "work", "some"]
def c_need_forms : List Sx := [.ife (.cmp .NotEq (.bif .len false [(.var 1)]) (.bif .len false [(.meth n_Hall_names 0 (.var 0) [])])) [.raise 3] [],
 .for_ (.tup [(.nm 2), (.nm 3)]) .enum [(.var 1)] [.expr (.call n_need_work_forms 0 [(.var 0), (.var 2), (.var 3)])]]
abbrev n_need_pieces : Nat := 83
def i_need_pieces : FnI := ⟨"need_pieces", none, 2, 2, []⟩
def N_need_pieces : List Str := ["hall", "pieces", "belts", "belt", "some"]
def c_need_pieces : List Sx := [.asg (.nm 2) (.meth n_Hall_belts 0 (.var 0) []),
 .ife (.cmp .NotEq (.bif .len false [(.var 1)]) (.bif .len false [(.var 2)])) [.raise 6] [],
 .for_ (.tup [(.nm 3), (.nm 4)]) .zip [(.var 2), (.var 1)] [.ife (.cmp .NotEq (.bif .len false [(.var 4)]) (.idx (.var 3) (.cint 4))) [.raise 6] []]]
abbrev n_Mill_init : Nat := 94
def i_Mill_init : FnI := ⟨"__init__", (some 5), 5, 4, []⟩
def N_Mill_init : List Str := ["self", "hall", "forms", "pieces", "work", "some"]
def c_Mill_init : List Sx := [.expr (.call n_need_forms 0 [(.var 1), (.var 2)]),
 .expr (.call n_need_pieces 0 [(.var 1), (.var 3)]),
 .asgF 5 0 (.var 0) (.bif .list false [(.var 2)]),
 .asgF 5 1 (.var 0) (.meth n_Hall_belts 0 (.var 1) []),
 .asgF 5 2 (.var 0) (.comp false [4] (.nm 4) .rng1 [(.bif .len false [(.var 2)])] (.cbl true) (.meth n_Hall_entering 0 (.var 1) [(.var 4)])),
 .asgF 5 3 (.var 0) (.comp false [4] (.nm 4) .rng1 [(.bif .len false [(.var 2)])] (.cbl true) (.meth n_Hall_leaving 0 (.var 1) [(.var 4)])),
 .asgF 5 4 (.var 0) (.comp true [5] (.nm 5) .val [(.var 3)] (.cbl true) (.bif .list true [(.var 5)]))]
abbrev n_form_value : Nat := 95
def i_form_value : FnI := ⟨"form_value", none, 1, 2, []⟩
def N_form_value : List Str := ["form", "pieces", "constant", "terms", "found", "slot", "factor"]
def c_form_value : List Sx := [.asg (.tup [(.nm 2), (.nm 3)]) (.var 0),
 .asg (.nm 4) (.var 2),
 .for_ (.tup [(.nm 5), (.nm 6)]) .tupl [(.var 3)] [.asg (.nm 4) (.bin .Add false (.var 4) (.bin .Mult false (.var 6) (.idx (.var 1) (.var 5))))],
 .ret (.var 4)]
abbrev n_Mill_turn : Nat := 96
def i_Mill_turn : FnI := ⟨"turn", (some 5), 2, 2, []⟩
def N_Mill_turn : List Str := ["self", "work", "belt", "slots", "take", "made", "form", "at", "give"]
def c_Mill_turn : List Sx := [.ife (.not (.chain .LtE .Lt (.cint 0) (.var 1) (.bif .len false [(.fld 5 0 (.var 0))]))) [.raise 10] [],
 .for_ (.nm 2) .val [(.idx (.fld 5 2 (.var 0)) (.var 1))] [.ife (.cmp .Lt (.bif .len false [(.idx (.fld 5 4 (.var 0)) (.var 2))]) (.idx (.idx (.fld 5 1 (.var 0)) (.var 2)) (.cint 3))) [.raise 0] []],
 .asg (.nm 3) (.lst true []),
 .for_ (.nm 2) .val [(.idx (.fld 5 2 (.var 0)) (.var 1))] [.asg (.nm 4) (.idx (.idx (.fld 5 1 (.var 0)) (.var 2)) (.cint 3)),
 .expr (.lm .extend (.var 3) [(.slice false (.idx (.fld 5 4 (.var 0)) (.var 2)) .cnon (.var 4))]),
 .asgI (.fld 5 4 (.var 0)) (.var 2) (.slice true (.idx (.fld 5 4 (.var 0)) (.var 2)) (.var 4) .cnon)],
 .asg (.nm 5) (.comp false [6] (.nm 6) .tupl [(.idx (.fld 5 0 (.var 0)) (.var 1))] (.cbl true) (.call n_form_value 0 [(.var 6), (.var 3)])),
 .asg (.nm 7) (.cint 0),
 .for_ (.nm 2) .val [(.idx (.fld 5 3 (.var 0)) (.var 1))] [.asg (.nm 8) (.idx (.idx (.fld 5 1 (.var 0)) (.var 2)) (.cint 2)),
 .expr (.lm .extend (.idx (.fld 5 4 (.var 0)) (.var 2)) [(.slice false (.var 5) (.var 7) (.bin .Add false (.var 7) (.var 8)))]),
 .aug 7 .Add (.var 8)]]
abbrev n_Mill_go : Nat := 97
def i_Mill_go : FnI := ⟨"go", (some 5), 3, 2, []⟩
def N_Mill_go : List Str := ["self", "row", "before", "some", "work"]
def c_Mill_go : List Sx := [.asg (.nm 2) (.comp false [3] (.nm 3) .val [(.fld 5 4 (.var 0))] (.cbl true) (.bif .list false [(.var 3)])),
 .try2 [.for_ (.nm 4) .val [(.var 1)] [.expr (.meth n_Mill_turn 0 (.var 0) [(.var 4)])]] 10 [.asgF 5 4 (.var 0) (.var 2),
 .raise 10] 0 [.asgF 5 4 (.var 0) (.var 2),
 .raise 0]]
abbrev n_Mill_lying : Nat := 98
def i_Mill_lying : FnI := ⟨"lying", (some 5), 1, 1, []⟩
def N_Mill_lying : List Str := ["self", "some"]
def c_Mill_lying : List Sx := [.ret (.comp true [1] (.nm 1) .val [(.fld 5 4 (.var 0))] (.cbl true) (.bif .list false [(.var 1)]))]
def S_Hall_init : TSp := fun ts μ F R => ∃ h, ts = [.own h] ∧ μ h = some (.obj 3 []) ∧ ∀ l1 l2, μ l1 = none → μ l2 = none → l1 ≠ l2 → R .non (((μ.set l1 (.lst [])).set l2 (.lst [])).set h (.obj 3 [.own l1, .own l2]))
structure A_Hall_init (G : Tab) (Γ : Nat → TSp) : Prop where
  triv : True
abbrev B_Hall_init (G : Tab) (Γ : Nat → TSp) : Prop := ∀ ts μ F R, S_Hall_init ts μ F R → denSs G Γ c_Hall_init (bodyD R F) (startT N_Hall_init.length ts) μ
theorem body_Hall_init {G : Tab} {Γ : Nat → TSp} (A : A_Hall_init G Γ) : B_Hall_init G Γ := by
  rintro ts μ F R ⟨h, rfl, ho, hR⟩
  unfold c_Hall_init
  simp only [Rh.startT, List.length_cons, List.length_nil, List.map_cons, List.map_nil, List.replicate, List.cons_append, List.nil_append, Nat.reduceAdd, Nat.reduceSub, N_Hall_init]
  apply e_cons; simp only [denS]; (try simp_arith []); repeat ((with_reducible refine And.intro ?_ ?_); omega)
  intro l1 e1
  have n1 : l1 ≠ h := fun e => by
    rw [e, ho] at e1
    cases e1
  refine ⟨[], by rw [set_ne n1.symm]; exact ho, by decide, ?_⟩
  apply e_cons; simp only [denS]; (try simp_arith []); repeat ((with_reducible refine And.intro ?_ ?_); omega)
  intro l2 e2
  have n2 : l2 ≠ h := fun e => by
    rw [e, set_self] at e2
    cases e2
  rw [set_ne n2] at e2
  have n3 : l1 ≠ l2 := fun e => by
    rw [← e, set_self] at e2
    cases e2
  rw [set_ne n3.symm] at e2
  refine ⟨[.own l1], by rw [set_ne n2.symm, set_self]; rfl, Nat.le_refl _, ?_⟩
  refine fin_id ?_
  have : ((((μ.set l1 (.lst [])).set h (.obj 3 (setF [] 0 (.own l1)))).set l2 (.lst [])).set h (.obj 3 (setF [.own l1] 1 (.own l2)))) = (((μ.set l1 (.lst [])).set l2 (.lst [])).set h (.obj 3 [.own l1, .own l2])) := by
    rw [set_comm (p := h) (q := l2) n2.symm, set_set]
    rfl
  rw [this]
  exact hR l1 l2 e1 e2 n3
def S_Hall_names : TSp := fun ts μ F R => ∃ h l1 l2 ns ls, ts = [.own h] ∧ HallAt μ h l1 l2 ns ls ∧ retL (ns.map T.str) μ R
structure A_Hall_names (G : Tab) (Γ : Nat → TSp) : Prop where
  triv : True
abbrev B_Hall_names (G : Tab) (Γ : Nat → TSp) : Prop := ∀ ts μ F R, S_Hall_names ts μ F R → denSs G Γ c_Hall_names (bodyD R F) (startT N_Hall_names.length ts) μ
theorem body_Hall_names {G : Tab} {Γ : Nat → TSp} (A : A_Hall_names G Γ) : B_Hall_names G Γ := by
  rintro ts μ F R ⟨h, l1, l2, ns, ls, rfl, H, hR⟩
  unfold c_Hall_names
  simp only [Rh.startT, List.length_cons, List.length_nil, List.map_cons, List.map_nil, List.replicate, List.cons_append, List.nil_append, Nat.reduceAdd, Nat.reduceSub, N_Hall_names]
  apply e_cons; simp only [denS]; (try simp_arith [H.o, H.w]); repeat ((with_reducible refine And.intro ?_ ?_); omega)
  intro p hp
  exact fin_retL hR hp
def S_Hall_belts : TSp := fun ts μ F R => ∃ h l1 l2 ns ls, ts = [.own h] ∧ HallAt μ h l1 l2 ns ls ∧ retL (ls.map Ln.tr) μ R
structure A_Hall_belts (G : Tab) (Γ : Nat → TSp) : Prop where
  triv : True
abbrev B_Hall_belts (G : Tab) (Γ : Nat → TSp) : Prop := ∀ ts μ F R, S_Hall_belts ts μ F R → denSs G Γ c_Hall_belts (bodyD R F) (startT N_Hall_belts.length ts) μ
theorem body_Hall_belts {G : Tab} {Γ : Nat → TSp} (A : A_Hall_belts G Γ) : B_Hall_belts G Γ := by
  rintro ts μ F R ⟨h, l1, l2, ns, ls, rfl, H, hR⟩
  unfold c_Hall_belts
  simp only [Rh.startT, List.length_cons, List.length_nil, List.map_cons, List.map_nil, List.replicate, List.cons_append, List.nil_append, Nat.reduceAdd, Nat.reduceSub, N_Hall_belts]
  apply e_cons; simp only [denS]; (try simp_arith [H.o, H.b]); repeat ((with_reducible refine And.intro ?_ ?_); omega)
  intro p hp
  exact fin_retL hR hp
def S_Hall_lay : TSp := fun ts μ F R => ∃ h l1 l2 ns ls l, ts = [.own h, .int (Ln.g l), .int l.t, .int l.gi, .int l.ta, .int l.st] ∧ HallAt μ h l1 l2 ns ls ∧ ls.length < sizeLine ∧ R (.int ls.length) (μ.set l2 (.lst (ls.map Ln.tr ++ [l.tr])))
structure A_Hall_lay (G : Tab) (Γ : Nat → TSp) : Prop where
  triv : True
abbrev B_Hall_lay (G : Tab) (Γ : Nat → TSp) : Prop := ∀ ts μ F R, S_Hall_lay ts μ F R → denSs G Γ c_Hall_lay (bodyD R F) (startT N_Hall_lay.length ts) μ
theorem body_Hall_lay {G : Tab} {Γ : Nat → TSp} (A : A_Hall_lay G Γ) : B_Hall_lay G Γ := by
  rintro ts μ F R ⟨h, l1, l2, ns, ls, l, rfl, H, hl, hR⟩
  unfold c_Hall_lay
  have hl : ls.length < 16777216 := hl
  simp only [Rh.startT, List.length_cons, List.length_nil, List.map_cons, List.map_nil, List.replicate, List.cons_append, List.nil_append, Nat.reduceAdd, Nat.reduceSub, N_Hall_lay]
  apply e_cons; simp only [denS]; (try simp_arith [H.o, H.b]); repeat ((with_reducible refine And.intro ?_ ?_); omega)
  have H' : HallAt (μ.set l2 (.lst (ls.map Ln.tr ++ [T.tup [.int l.g, .int l.t, .int l.gi, .int l.ta, .int l.st]]))) h l1 l2 ns (ls ++ [l]) := H.addB l
  apply e_cons; simp only [denS]; (try simp_arith [H'.o, H'.b, Int.natCast_add, Int.add_sub_cancel]); repeat ((with_reducible refine And.intro ?_ ?_); omega)
  exact fin_id hR
def S_is_name : TSp := fun ts μ F R => ∃ t, ts = [t] ∧ (∃ n, isStr μ t = some n) ∧ (∀ s, t = .str s → s.length ≤ sizeLine) ∧ R (.bl (isNameT t)) μ
structure A_is_name (G : Tab) (Γ : Nat → TSp) : Prop where
  k_LETTERS : G.con 2 = some (("LETTERS" : Str), T.str "abcdefghijklmnopqrstuvwxyz")
abbrev B_is_name (G : Tab) (Γ : Nat → TSp) : Prop := ∀ ts μ F R, S_is_name ts μ F R → denSs G Γ c_is_name (bodyD R F) (startT N_is_name.length ts) μ
theorem body_is_name {G : Tab} {Γ : Nat → TSp} (A : A_is_name G Γ) : B_is_name G Γ := by
  rintro ts μ F R ⟨t, rfl, ⟨n, hn⟩, hs, hR⟩
  unfold c_is_name
  simp only [Rh.startT, List.length_cons, List.length_nil, List.map_cons, List.map_nil, List.replicate, List.cons_append, List.nil_append, Nat.reduceAdd, Nat.reduceSub, N_is_name]
  cases t with
  | own p =>
    have hc : (∃ ts, μ p = some (.lst ts)) ∨ (∃ d, μ p = some (.dict d)) := by
      rw [is_own] at hn
      revert hn
      split <;> intro hn
      · exact .inl ⟨_, by assumption⟩
      · exact .inr ⟨_, by assumption⟩
      · cases hn
    rcases hc with ⟨us, e⟩ | ⟨us, e⟩
    · apply e_cons; apply e_ife; simp_arith [A.k_LETTERS, e]; repeat ((with_reducible refine And.intro ?_ ?_); omega)
      apply e_cons; simp only [denS]; (try simp_arith [A.k_LETTERS]); repeat ((with_reducible refine And.intro ?_ ?_); omega)
      exact fin_id hR
    · apply e_cons; apply e_ife; simp_arith [A.k_LETTERS, e]; repeat ((with_reducible refine And.intro ?_ ?_); omega)
      apply e_cons; simp only [denS]; (try simp_arith [A.k_LETTERS]); repeat ((with_reducible refine And.intro ?_ ?_); omega)
      exact fin_id hR
  | str s =>
    apply e_cons; apply e_ife; simp_arith [A.k_LETTERS]; repeat ((with_reducible refine And.intro ?_ ?_); omega)
    have hz : s.length ≤ 16777216 := hs s rfl
    refine ⟨hz, ?_⟩
    have hw : isNameT (.str s) = (decide (1 ≤ s.length) && decide (s.length ≤ 8) && s.cps.toList.all fun c => decide (c ∈ abc.cps.toList)) := rfl
    by_cases h1 : s.length < 1
    · have : isNameT (.str s) = false := by
        rw [hw, decide_eq_false (by omega : ¬ 1 ≤ s.length)]
        rfl
      rw [this] at hR
      simp only [show ((s.length : Nat) : Int) < 1 by omega, not_true_eq_false, if_true, if_false]
      apply e_cons; simp only [denS]; (try simp_arith [A.k_LETTERS]); repeat ((with_reducible refine And.intro ?_ ?_); omega)
      exact fin_id hR
    · simp only [show ¬ ((s.length : Nat) : Int) < 1 by omega, not_false_eq_true, if_true]
      refine ⟨hz, ?_⟩
      by_cases h8 : 8 < s.length
      · have : isNameT (.str s) = false := by
          rw [hw, decide_eq_false (by omega : ¬ s.length ≤ 8), Bool.and_false]
          rfl
        rw [this] at hR
        simp only [show (8 : Int) < (s.length : Nat) by omega, if_true]
        apply e_cons; simp only [denS]; (try simp_arith [A.k_LETTERS]); repeat ((with_reducible refine And.intro ?_ ?_); omega)
        exact fin_id hR
      · simp only [show ¬ (8 : Int) < (s.length : Nat) by omega, if_false]
        apply e_cons; simp only [denS]; (try simp_arith [A.k_LETTERS]); repeat ((with_reducible refine And.intro ?_ ?_); omega)
        refine comp_pure (fun _ => true) (fun t => match t with | .str a => .bl (strIn a abc) | t => t) ?_ ?_ ?_ ?_
        · trivial
        · show (s.cps.toList.map fun c => T.str ⟨#[c]⟩).length ≤ sizeLine
          rw [List.length_map]
          exact hs s rfl
        · intro t ht Y N hY _
          obtain ⟨c, hc, rfl⟩ := List.mem_map.mp ht
          simp_arith [A.k_LETTERS]
          simp only [wipeT]
          simp_arith [A.k_LETTERS]
          exact hY rfl
        · simp_arith [A.k_LETTERS]
          refine ⟨s.cps.toList.map fun c => decide (c ∈ abc.cps.toList), ?_, ?_⟩
          · rw [List.filter_eq_self.mpr (fun _ _ => rfl), Rh.signs, List.map_map, List.map_map]
            refine List.map_congr_left fun c _ => ?_
            show T.bl (strIn ⟨#[c]⟩ abc) = T.bl (decide (c ∈ abc.cps.toList))
            rw [strIn_sign]
          · rw [hw, decide_eq_true (by omega : 1 ≤ s.length), decide_eq_true (by omega : s.length ≤ 8)] at hR
            refine fin_id ?_
            rw [List.all_map]
            exact hR
  | scr ts => cases hn
  | _ => 
    apply e_cons; apply e_ife; simp_arith [A.k_LETTERS]; repeat ((with_reducible refine And.intro ?_ ?_); omega)
    apply e_cons; simp only [denS]; (try simp_arith [A.k_LETTERS]); repeat ((with_reducible refine And.intro ?_ ?_); omega)
    exact fin_id hR
def S_Hall_work : TSp := fun ts μ F R => ∃ h l1 l2 ns ls n, ts = [.own h, .str n] ∧ HallAt μ h l1 l2 ns ls ∧ n.length ≤ sizeLine ∧ sOk n ∧ (∀ x ∈ ns, sOk x) ∧
  if isName n = false then F 5 μ else if n ∈ ns then F 16 μ else if 30 ≤ ns.length then F 15 μ else R (.int ns.length) (μ.set l1 (.lst (ns.map T.str ++ [.str n])))
structure A_Hall_work (G : Tab) (Γ : Nat → TSp) : Prop where
  f_is_name : G.fn n_is_name = some i_is_name
  g_is_name : Γ n_is_name = S_is_name
  k_MOST_WORKS : G.con 7 = some (("MOST_WORKS" : Str), T.int 30)
abbrev B_Hall_work (G : Tab) (Γ : Nat → TSp) : Prop := ∀ ts μ F R, S_Hall_work ts μ F R → denSs G Γ c_Hall_work (bodyD R F) (startT N_Hall_work.length ts) μ
theorem body_Hall_work {G : Tab} {Γ : Nat → TSp} (A : A_Hall_work G Γ) : B_Hall_work G Γ := by
  rintro ts μ F R ⟨h, l1, l2, ns, ls, n, rfl, H, hz, hk, hks, hR⟩
  unfold c_Hall_work
  simp only [Rh.startT, List.length_cons, List.length_nil, List.map_cons, List.map_nil, List.replicate, List.cons_append, List.nil_append, Nat.reduceAdd, Nat.reduceSub, N_Hall_work]
  apply e_cons; apply e_ife; simp_arith [A.f_is_name, A.g_is_name, S_is_name, i_is_name, A.k_MOST_WORKS, isNameT]; repeat ((with_reducible refine And.intro ?_ ?_); omega)
  refine ⟨fun s e => by cases e; exact hz, ?_⟩
  by_cases hn : isName n = false
  · simp only [hn, if_true] at hR ⊢
    apply e_cons; simp only [denS]; (try simp_arith [A.f_is_name, A.g_is_name, S_is_name, i_is_name, A.k_MOST_WORKS]); repeat ((with_reducible refine And.intro ?_ ?_); omega)
    exact hR
  simp only [hn, if_false] at hR ⊢
  apply e_cons; apply e_ife; simp_arith [A.f_is_name, A.g_is_name, S_is_name, i_is_name, A.k_MOST_WORKS, H.o]; repeat ((with_reducible refine And.intro ?_ ?_); omega)
  refine in_own (xs := ns) H.w rfl (Has.of (x := n) hk) hks ?_
  simp_arith []
  by_cases hm : n ∈ ns
  · simp only [hm, if_true] at hR ⊢
    apply e_cons; simp only [denS]; (try simp_arith [A.f_is_name, A.g_is_name, S_is_name, i_is_name, A.k_MOST_WORKS]); repeat ((with_reducible refine And.intro ?_ ?_); omega)
    exact hR
  simp only [hm, if_false] at hR ⊢
  apply e_cons; apply e_ife; simp_arith [A.f_is_name, A.g_is_name, S_is_name, i_is_name, A.k_MOST_WORKS, H.o, H.w]; repeat ((with_reducible refine And.intro ?_ ?_); omega)
  by_cases hl : 30 ≤ ns.length
  · simp only [hl, show (30 : Int) ≤ (ns.length : Nat) by omega, if_true] at hR ⊢
    apply e_cons; simp only [denS]; (try simp_arith [A.f_is_name, A.g_is_name, S_is_name, i_is_name, A.k_MOST_WORKS]); repeat ((with_reducible refine And.intro ?_ ?_); omega)
    exact hR
  simp only [hl, show ¬ (30 : Int) ≤ (ns.length : Nat) by omega, if_false] at hR ⊢
  apply e_cons; simp only [denS]; (try simp_arith [A.f_is_name, A.g_is_name, S_is_name, i_is_name, A.k_MOST_WORKS, H.o, H.w]); repeat ((with_reducible refine And.intro ?_ ?_); omega)
  have H' := H.addW n
  apply e_cons; simp only [denS]; (try simp_arith [A.f_is_name, A.g_is_name, S_is_name, i_is_name, A.k_MOST_WORKS, H'.o, H'.w, Int.natCast_add, Int.add_sub_cancel]); repeat ((with_reducible refine And.intro ?_ ?_); omega)
  exact fin_id hR
def S_Hall_need : TSp := fun ts μ F R => ∃ h l1 l2 ns ls w, ts = [.own h, .int w] ∧ HallAt μ h l1 l2 ns ls ∧ if 0 ≤ w ∧ w < ns.length then R .non μ else F 10 μ
structure A_Hall_need (G : Tab) (Γ : Nat → TSp) : Prop where
  triv : True
abbrev B_Hall_need (G : Tab) (Γ : Nat → TSp) : Prop := ∀ ts μ F R, S_Hall_need ts μ F R → denSs G Γ c_Hall_need (bodyD R F) (startT N_Hall_need.length ts) μ
theorem body_Hall_need {G : Tab} {Γ : Nat → TSp} (A : A_Hall_need G Γ) : B_Hall_need G Γ := by
  rintro ts μ F R ⟨h, l1, l2, ns, ls, w, rfl, H, hR⟩
  unfold c_Hall_need
  simp only [Rh.startT, List.length_cons, List.length_nil, List.map_cons, List.map_nil, List.replicate, List.cons_append, List.nil_append, Nat.reduceAdd, Nat.reduceSub, N_Hall_need]
  apply e_cons; apply e_ife; simp_arith [H.o, H.w]; repeat ((with_reducible refine And.intro ?_ ?_); omega)
  by_cases h0 : 0 ≤ w
  · by_cases h1 : w < ns.length
    · simp only [h0, h1, and_self, if_true, not_true_eq_false, if_false] at hR ⊢
      exact fin_id hR
    · simp only [h0, h1, and_false, if_true, not_false_eq_true, if_false] at hR ⊢
      apply e_cons; simp only [denS]; (try simp_arith []); repeat ((with_reducible refine And.intro ?_ ?_); omega)
      exact hR
  · simp only [h0, false_and, if_false] at hR ⊢
    apply e_cons; simp only [denS]; (try simp_arith []); repeat ((with_reducible refine And.intro ?_ ?_); omega)
    exact hR
def S_Hall_leaving : TSp := fun ts μ F R => ∃ h l1 l2 ns ls w, ts = [.own h, .int w] ∧ HallAt μ h l1 l2 ns ls ∧ ls.length ≤ sizeLine ∧ ((0 ≤ w ∧ w < ns.length ∧ retL ((spots (fun l => decide (Ln.g l = w)) ls).map T.int) μ R) ∨ (¬ (0 ≤ w ∧ w < ns.length) ∧ F 10 μ))
structure A_Hall_leaving (G : Tab) (Γ : Nat → TSp) : Prop where
  f_Hall_need : G.fn n_Hall_need = some i_Hall_need
  g_Hall_need : Γ n_Hall_need = S_Hall_need
abbrev B_Hall_leaving (G : Tab) (Γ : Nat → TSp) : Prop := ∀ ts μ F R, S_Hall_leaving ts μ F R → denSs G Γ c_Hall_leaving (bodyD R F) (startT N_Hall_leaving.length ts) μ
theorem body_Hall_leaving {G : Tab} {Γ : Nat → TSp} (A : A_Hall_leaving G Γ) : B_Hall_leaving G Γ := by
  rintro ts μ F R ⟨h, l1, l2, ns, ls, w, rfl, H, hz, hR⟩
  unfold c_Hall_leaving
  simp only [Rh.startT, List.length_cons, List.length_nil, List.map_cons, List.map_nil, List.replicate, List.cons_append, List.nil_append, Nat.reduceAdd, Nat.reduceSub, N_Hall_leaving]
  apply e_cons; simp only [denS]; (try simp_arith [A.f_Hall_need, A.g_Hall_need, S_Hall_need, i_Hall_need, H.o]); repeat ((with_reducible refine And.intro ?_ ?_); omega)
  refine ⟨l1, l2, ns, ls, H, ?_⟩
  rcases hR with ⟨h0, h1, hR⟩ | ⟨hn, hR⟩
  case inr => rw [if_neg hn]; exact hR
  rw [if_pos ⟨h0, h1⟩]
  apply e_cons; simp only [denS]; (try simp_arith [A.f_Hall_need, A.g_Hall_need, S_Hall_need, i_Hall_need, H.o]); repeat ((with_reducible refine And.intro ?_ ?_); omega)
  refine onG_at (.own H.b) fun gd hgd => ?_
  rw [List.zipIdx_map, List.map_map]
  refine comp_pure (fun t => match t with | .tup [_, .tup [.int g, .int t, .int gi, .int ta, .int s5]] => decide (g = w) | _ => false) (fun t => match t with | .tup [i, _] => i | t => t) (hgd _ (.own H.b)) ?_ ?_ ?_
  · rw [List.length_map, List.length_zipIdx]
    exact hz
  · intro u hu Y N hY hN
    obtain ⟨⟨l, i⟩, hm, rfl⟩ := List.mem_map.mp hu
    simp only [wipeT, Function.comp] at hY hN ⊢
    simp_arith [A.f_Hall_need, A.g_Hall_need, S_Hall_need, i_Hall_need, Ln.tr, Prod.map]
    by_cases e : l.g = w
    · simp only [e, if_true]
      exact hY (decide_eq_true e)
    · simp only [e, if_false]
      exact hN (decide_eq_false e)
  · intro p hp
    have e : (List.map ((fun p : T × Nat => T.tup [.int (p.2 : Nat), p.1]) ∘ Prod.map Ln.tr id) ls.zipIdx).filter (fun t => match t with | .tup [_, .tup [.int g, .int t, .int gi, .int ta, .int s5]] => decide (g = w) | _ => false) = (ls.zipIdx.filter fun x => decide (x.1.g = w)).map ((fun p : T × Nat => T.tup [.int (p.2 : Nat), p.1]) ∘ Prod.map Ln.tr id) := by
      rw [List.filter_map]
      rfl
    rw [e, List.map_map]
    have e2 : ((fun t : T => match t with | .tup [i, _] => i | t => t) ∘ (fun p : T × Nat => T.tup [.int (p.2 : Nat), p.1]) ∘ Prod.map Ln.tr id) = (fun i : Nat => T.int (i : Int)) ∘ (fun x : Ln × Nat => x.2) := rfl
    rw [e2, ← List.map_map, zip_spots (fun l : Ln => decide (l.g = w))]
    have e3 : (spots (fun l => decide (Ln.g l = w)) ls).map T.int = List.map (fun i : Nat => T.int (i : Int)) (List.map (· + 0) ((List.range ls.length).filter fun i => (ls[i]?).any fun l : Ln => decide (l.g = w))) := by
      unfold spots
      simp [List.map_map, Function.comp_def]
    rw [← e3]
    exact fin_retL hR hp
def S_Hall_belt : TSp := fun ts μ F R => ∃ h l1 l2 ns ls l, ts = [.own h, .int (Ln.g l), .int l.t, .int l.gi, .int l.ta, .int l.st] ∧ HallAt μ h l1 l2 ns ls ∧
  if ¬ (0 ≤ l.g ∧ l.g < ns.length) then F 10 μ else if ¬ (0 ≤ l.t ∧ l.t < ns.length) then F 10 μ else if l.gi < 1 ∨ l.ta < 1 ∨ l.st < 0 then F 7 μ else if 60 ≤ ls.length then F 15 μ else
    R (.int ls.length) (μ.set l2 (.lst (ls.map Ln.tr ++ [l.tr])))
structure A_Hall_belt (G : Tab) (Γ : Nat → TSp) : Prop where
  f_Hall_need : G.fn n_Hall_need = some i_Hall_need
  g_Hall_need : Γ n_Hall_need = S_Hall_need
  k_MOST_BELTS : G.con 3 = some (("MOST_BELTS" : Str), T.int 60)
  f_Hall_lay : G.fn n_Hall_lay = some i_Hall_lay
  g_Hall_lay : Γ n_Hall_lay = S_Hall_lay
abbrev B_Hall_belt (G : Tab) (Γ : Nat → TSp) : Prop := ∀ ts μ F R, S_Hall_belt ts μ F R → denSs G Γ c_Hall_belt (bodyD R F) (startT N_Hall_belt.length ts) μ
theorem body_Hall_belt {G : Tab} {Γ : Nat → TSp} (A : A_Hall_belt G Γ) : B_Hall_belt G Γ := by
  rintro ts μ F R ⟨h, l1, l2, ns, ls, l, rfl, H, hR⟩
  unfold c_Hall_belt
  simp only [Rh.startT, List.length_cons, List.length_nil, List.map_cons, List.map_nil, List.replicate, List.cons_append, List.nil_append, Nat.reduceAdd, Nat.reduceSub, N_Hall_belt]
  apply e_cons; simp only [denS]; (try simp_arith [A.f_Hall_need, A.g_Hall_need, S_Hall_need, i_Hall_need, A.k_MOST_BELTS, A.f_Hall_lay, A.g_Hall_lay, S_Hall_lay, i_Hall_lay, H.o]); repeat ((with_reducible refine And.intro ?_ ?_); omega)
  refine ⟨l1, l2, ns, ls, H, ?_⟩
  by_cases h1 : 0 ≤ l.g ∧ l.g < ns.length
  case neg =>
    simp only [h1, not_false_eq_true, if_true, if_false] at hR ⊢
    exact hR
  simp only [h1, and_self, not_true_eq_false, if_true, if_false] at hR ⊢
  apply e_cons; simp only [denS]; (try simp_arith [A.f_Hall_need, A.g_Hall_need, S_Hall_need, i_Hall_need, A.k_MOST_BELTS, A.f_Hall_lay, A.g_Hall_lay, S_Hall_lay, i_Hall_lay, H.o]); repeat ((with_reducible refine And.intro ?_ ?_); omega)
  refine ⟨l1, l2, ns, ls, H, ?_⟩
  by_cases h2 : 0 ≤ l.t ∧ l.t < ns.length
  case neg =>
    simp only [h2, not_false_eq_true, if_true, if_false] at hR ⊢
    exact hR
  simp only [h2, and_self, not_true_eq_false, if_true, if_false] at hR ⊢
  apply e_cons; apply e_ife; simp_arith [A.f_Hall_need, A.g_Hall_need, S_Hall_need, i_Hall_need, A.k_MOST_BELTS, A.f_Hall_lay, A.g_Hall_lay, S_Hall_lay, i_Hall_lay, H.o]; repeat ((with_reducible refine And.intro ?_ ?_); omega)
  by_cases h3 : l.gi < 1
  · simp only [h3, true_or, if_true, not_true_eq_false, if_false] at hR ⊢
    apply e_cons; simp only [denS]; (try simp_arith [A.f_Hall_need, A.g_Hall_need, S_Hall_need, i_Hall_need, A.k_MOST_BELTS, A.f_Hall_lay, A.g_Hall_lay, S_Hall_lay, i_Hall_lay]); repeat ((with_reducible refine And.intro ?_ ?_); omega)
    exact hR
  by_cases h4 : l.ta < 1
  · simp only [h3, h4, or_true, true_or, if_true, not_true_eq_false, not_false_eq_true, if_false] at hR ⊢
    apply e_cons; simp only [denS]; (try simp_arith [A.f_Hall_need, A.g_Hall_need, S_Hall_need, i_Hall_need, A.k_MOST_BELTS, A.f_Hall_lay, A.g_Hall_lay, S_Hall_lay, i_Hall_lay]); repeat ((with_reducible refine And.intro ?_ ?_); omega)
    exact hR
  by_cases h5 : l.st < 0
  · simp only [h3, h4, h5, or_true, if_true, not_true_eq_false, not_false_eq_true, if_false] at hR ⊢
    apply e_cons; simp only [denS]; (try simp_arith [A.f_Hall_need, A.g_Hall_need, S_Hall_need, i_Hall_need, A.k_MOST_BELTS, A.f_Hall_lay, A.g_Hall_lay, S_Hall_lay, i_Hall_lay]); repeat ((with_reducible refine And.intro ?_ ?_); omega)
    exact hR
  simp only [h3, h4, h5, or_false, if_true, not_false_eq_true, if_false] at hR ⊢
  apply e_cons; apply e_ife; simp_arith [A.f_Hall_need, A.g_Hall_need, S_Hall_need, i_Hall_need, A.k_MOST_BELTS, A.f_Hall_lay, A.g_Hall_lay, S_Hall_lay, i_Hall_lay, H.o, H.b]; repeat ((with_reducible refine And.intro ?_ ?_); omega)
  by_cases h6 : 60 ≤ ls.length
  · simp only [h6, show (60 : Int) ≤ (ls.length : Nat) by omega, if_true] at hR ⊢
    apply e_cons; simp only [denS]; (try simp_arith [A.f_Hall_need, A.g_Hall_need, S_Hall_need, i_Hall_need, A.k_MOST_BELTS, A.f_Hall_lay, A.g_Hall_lay, S_Hall_lay, i_Hall_lay]); repeat ((with_reducible refine And.intro ?_ ?_); omega)
    exact hR
  simp only [h6, show ¬ (60 : Int) ≤ (ls.length : Nat) by omega, if_false] at hR ⊢
  apply e_cons; simp only [denS]; (try simp_arith [A.f_Hall_need, A.g_Hall_need, S_Hall_need, i_Hall_need, A.k_MOST_BELTS, A.f_Hall_lay, A.g_Hall_lay, S_Hall_lay, i_Hall_lay, H.o]); repeat ((with_reducible refine And.intro ?_ ?_); omega)
  exact ⟨l1, l2, ns, ls, l, rfl, rfl, rfl, rfl, rfl, H, Nat.lt_of_lt_of_le (by omega : ls.length < 60) (by decide), fin_id hR⟩
def S_Hall_entering : TSp := fun ts μ F R => ∃ h l1 l2 ns ls w, ts = [.own h, .int w] ∧ HallAt μ h l1 l2 ns ls ∧ ls.length ≤ sizeLine ∧ ((0 ≤ w ∧ w < ns.length ∧ retL ((spots (fun l => decide (Ln.t l = w)) ls).map T.int) μ R) ∨ (¬ (0 ≤ w ∧ w < ns.length) ∧ F 10 μ))
structure A_Hall_entering (G : Tab) (Γ : Nat → TSp) : Prop where
  f_Hall_need : G.fn n_Hall_need = some i_Hall_need
  g_Hall_need : Γ n_Hall_need = S_Hall_need
abbrev B_Hall_entering (G : Tab) (Γ : Nat → TSp) : Prop := ∀ ts μ F R, S_Hall_entering ts μ F R → denSs G Γ c_Hall_entering (bodyD R F) (startT N_Hall_entering.length ts) μ
theorem body_Hall_entering {G : Tab} {Γ : Nat → TSp} (A : A_Hall_entering G Γ) : B_Hall_entering G Γ := by
  rintro ts μ F R ⟨h, l1, l2, ns, ls, w, rfl, H, hz, hR⟩
  unfold c_Hall_entering
  simp only [Rh.startT, List.length_cons, List.length_nil, List.map_cons, List.map_nil, List.replicate, List.cons_append, List.nil_append, Nat.reduceAdd, Nat.reduceSub, N_Hall_entering]
  apply e_cons; simp only [denS]; (try simp_arith [A.f_Hall_need, A.g_Hall_need, S_Hall_need, i_Hall_need, H.o]); repeat ((with_reducible refine And.intro ?_ ?_); omega)
  refine ⟨l1, l2, ns, ls, H, ?_⟩
  rcases hR with ⟨h0, h1, hR⟩ | ⟨hn, hR⟩
  case inr => rw [if_neg hn]; exact hR
  rw [if_pos ⟨h0, h1⟩]
  apply e_cons; simp only [denS]; (try simp_arith [A.f_Hall_need, A.g_Hall_need, S_Hall_need, i_Hall_need, H.o]); repeat ((with_reducible refine And.intro ?_ ?_); omega)
  refine onG_at (.own H.b) fun gd hgd => ?_
  rw [List.zipIdx_map, List.map_map]
  refine comp_pure (fun t => match t with | .tup [_, .tup [.int g, .int t, .int gi, .int ta, .int s5]] => decide (t = w) | _ => false) (fun t => match t with | .tup [i, _] => i | t => t) (hgd _ (.own H.b)) ?_ ?_ ?_
  · rw [List.length_map, List.length_zipIdx]
    exact hz
  · intro u hu Y N hY hN
    obtain ⟨⟨l, i⟩, hm, rfl⟩ := List.mem_map.mp hu
    simp only [wipeT, Function.comp] at hY hN ⊢
    simp_arith [A.f_Hall_need, A.g_Hall_need, S_Hall_need, i_Hall_need, Ln.tr, Prod.map]
    by_cases e : l.t = w
    · simp only [e, if_true]
      exact hY (decide_eq_true e)
    · simp only [e, if_false]
      exact hN (decide_eq_false e)
  · intro p hp
    have e : (List.map ((fun p : T × Nat => T.tup [.int (p.2 : Nat), p.1]) ∘ Prod.map Ln.tr id) ls.zipIdx).filter (fun t => match t with | .tup [_, .tup [.int g, .int t, .int gi, .int ta, .int s5]] => decide (t = w) | _ => false) = (ls.zipIdx.filter fun x => decide (x.1.t = w)).map ((fun p : T × Nat => T.tup [.int (p.2 : Nat), p.1]) ∘ Prod.map Ln.tr id) := by
      rw [List.filter_map]
      rfl
    rw [e, List.map_map]
    have e2 : ((fun t : T => match t with | .tup [i, _] => i | t => t) ∘ (fun p : T × Nat => T.tup [.int (p.2 : Nat), p.1]) ∘ Prod.map Ln.tr id) = (fun i : Nat => T.int (i : Int)) ∘ (fun x : Ln × Nat => x.2) := rfl
    rw [e2, ← List.map_map, zip_spots (fun l : Ln => decide (l.t = w))]
    have e3 : (spots (fun l => decide (Ln.t l = w)) ls).map T.int = List.map (fun i : Nat => T.int (i : Int)) (List.map (· + 0) ((List.range ls.length).filter fun i => (ls[i]?).any fun l : Ln => decide (l.t = w))) := by
      unfold spots
      simp [List.map_map, Function.comp_def]
    rw [← e3]
    exact fin_retL hR hp
def S_need_work_forms : TSp := fun ts μ F R => ∃ h l1 l2 ns ls w fs, ts = [.own h, .int w, fsT fs] ∧ HallAt μ h l1 l2 ns ls ∧ (0 ≤ w ∧ w < ns.length) ∧ ls.length ≤ 1000 ∧ fs.length ≤ 10000 ∧ (∀ f ∈ fs, f.2.length ≤ 1000) ∧ (WfOk ls w fs → R .non μ) ∧ (¬ WfOk ls w fs → F 3 μ)
structure A_need_work_forms (G : Tab) (Γ : Nat → TSp) : Prop where
  f_Hall_belts : G.fn n_Hall_belts = some i_Hall_belts
  g_Hall_belts : Γ n_Hall_belts = S_Hall_belts
  f_Hall_leaving : G.fn n_Hall_leaving = some i_Hall_leaving
  g_Hall_leaving : Γ n_Hall_leaving = S_Hall_leaving
  f_Hall_entering : G.fn n_Hall_entering = some i_Hall_entering
  g_Hall_entering : Γ n_Hall_entering = S_Hall_entering
abbrev B_need_work_forms (G : Tab) (Γ : Nat → TSp) : Prop := ∀ ts μ F R, S_need_work_forms ts μ F R → denSs G Γ c_need_work_forms (bodyD R F) (startT N_need_work_forms.length ts) μ
theorem body_need_work_forms {G : Tab} {Γ : Nat → TSp} (A : A_need_work_forms G Γ) : B_need_work_forms G Γ := by
  rintro ts μ F R ⟨h, l1, l2, ns, ls, w, fs, rfl, H, hw, hz, hfl, htl, hR, hF⟩
  unfold c_need_work_forms
  simp only [Rh.startT, List.length_cons, List.length_nil, List.map_cons, List.map_nil, List.replicate, List.cons_append, List.nil_append, Nat.reduceAdd, Nat.reduceSub, N_need_work_forms]
  apply e_cons; simp only [denS]; (try simp_arith [A.f_Hall_belts, A.g_Hall_belts, S_Hall_belts, i_Hall_belts, A.f_Hall_leaving, A.g_Hall_leaving, S_Hall_leaving, i_Hall_leaving, A.f_Hall_entering, A.g_Hall_entering, S_Hall_entering, i_Hall_entering, H.o]); repeat ((with_reducible refine And.intro ?_ ?_); omega)
  refine ⟨l1, l2, ns, ls, H, .inr ?_⟩
  dsimp only
  apply e_cons; simp only [denS]; (try simp_arith [A.f_Hall_belts, A.g_Hall_belts, S_Hall_belts, i_Hall_belts, A.f_Hall_leaving, A.g_Hall_leaving, S_Hall_leaving, i_Hall_leaving, A.f_Hall_entering, A.g_Hall_entering, S_Hall_entering, i_Hall_entering, H.o]); repeat ((with_reducible refine And.intro ?_ ?_); omega)
  refine ⟨l1, l2, ns, ls, H, by omega, .inl ⟨hw.1, hw.2, .inr ?_⟩⟩
  dsimp only
  have sp : ∀ (p : Ln → Bool) (f : Ln → Int) (j : Int), (∀ l : Ln, atI [T.int l.g, .int l.t, .int l.gi, .int l.ta, .int l.st] j = some (.int (f l))) → True := fun _ _ _ _ => trivial
  refine onG_at .lst fun gd hgd => ?_
  refine comp_pure (fun _ => true) (fun t => match t with | .int i => .int (((ls[i.toNat]?).map Ln.gi).getD 0) | t => t) (hgd _ .lst) (by rw [List.length_map, sz]; have := spots_len (p := fun l => decide (Ln.g l = w)) (ls := ls); omega) ?_ ?_
  · intro u hu Y N hY _
    obtain ⟨i, hi, rfl⟩ := List.mem_map.mp hu
    obtain ⟨l, i0, el, -⟩ := spots_at hi
    have b1 := at_map (f := Ln.tr) i0 el
    have hY := hY rfl
    dsimp only at hY
    rw [el] at hY
    have hY : Y (.int l.gi) μ := hY
    simp only [wipeT]
    simp_arith [A.f_Hall_belts, A.g_Hall_belts, S_Hall_belts, i_Hall_belts, A.f_Hall_leaving, A.g_Hall_leaving, S_Hall_leaving, i_Hall_leaving, A.f_Hall_entering, A.g_Hall_entering, S_Hall_entering, i_Hall_entering, b1, Ln.tr]
    exact hY
  have e1 : ∀ (p : Ln → Bool) (f : Ln → Int), ((((spots p ls).map T.int).filter (fun _ => true)).map (fun t => match t with | .int i => .int (((ls[i.toNat]?).map f).getD 0) | t => t)) = ((ls.filter p).map f).map T.int := fun p f => by
    rw [List.filter_eq_self.mpr (fun _ _ => rfl), List.map_map, ← spots_map, List.map_map]
    rfl
  rw [e1]
  simp only [newL]
  refine ⟨_, rfl, _, rfl, ?_⟩
  clear hgd gd
  apply e_cons; simp only [denS]; (try simp_arith [A.f_Hall_belts, A.g_Hall_belts, S_Hall_belts, i_Hall_belts, A.f_Hall_leaving, A.g_Hall_leaving, S_Hall_leaving, i_Hall_leaving, A.f_Hall_entering, A.g_Hall_entering, S_Hall_entering, i_Hall_entering, H.o]); repeat ((with_reducible refine And.intro ?_ ?_); omega)
  refine ⟨l1, l2, ns, ls, H, by omega, .inl ⟨hw.1, hw.2, .inr ?_⟩⟩
  dsimp only
  refine onG_at .lst fun gd hgd => ?_
  refine comp_pure (fun _ => true) (fun t => match t with | .int i => .int (((ls[i.toNat]?).map Ln.ta).getD 0) | t => t) (hgd _ .lst) (by rw [List.length_map, sz]; have := spots_len (p := fun l => decide (Ln.t l = w)) (ls := ls); omega) ?_ ?_
  · intro u hu Y N hY _
    obtain ⟨i, hi, rfl⟩ := List.mem_map.mp hu
    obtain ⟨l, i0, el, -⟩ := spots_at hi
    have b1 := at_map (f := Ln.tr) i0 el
    have hY := hY rfl
    dsimp only at hY
    rw [el] at hY
    have hY : Y (.int l.ta) μ := hY
    simp only [wipeT]
    simp_arith [A.f_Hall_belts, A.g_Hall_belts, S_Hall_belts, i_Hall_belts, A.f_Hall_leaving, A.g_Hall_leaving, S_Hall_leaving, i_Hall_leaving, A.f_Hall_entering, A.g_Hall_entering, S_Hall_entering, i_Hall_entering, b1, Ln.tr]
    exact hY
  rw [e1]
  simp only [newL]
  refine ⟨_, rfl, _, rfl, ?_⟩
  clear hgd gd e1 sp
  have eg : ((ls.filter fun l => decide (l.g = w)).map Ln.gi).sum = giveW ls w := rfl
  have et : ((ls.filter fun l => decide (l.t = w)).map Ln.ta).sum = needW ls w := rfl
  rw [eg, et]
  apply e_cons; apply e_ife; simp_arith [A.f_Hall_belts, A.g_Hall_belts, S_Hall_belts, i_Hall_belts, A.f_Hall_leaving, A.g_Hall_leaving, S_Hall_leaving, i_Hall_leaving, A.f_Hall_entering, A.g_Hall_entering, S_Hall_entering, i_Hall_entering, fsT]; repeat ((with_reducible refine And.intro ?_ ?_); omega)
  by_cases hlen : (fs.length : Int) = giveW ls w
  case neg =>
    rw [if_pos hlen]
    apply e_cons; simp only [denS]; (try simp_arith [A.f_Hall_belts, A.g_Hall_belts, S_Hall_belts, i_Hall_belts, A.f_Hall_leaving, A.g_Hall_leaving, S_Hall_leaving, i_Hall_leaving, A.f_Hall_entering, A.g_Hall_entering, S_Hall_entering, i_Hall_entering]); repeat ((with_reducible refine And.intro ?_ ?_); omega)
    exact hF fun z => hlen z.1
  rw [if_neg (fun z => z hlen)]
  apply e_cons; simp only [denS]; (try simp_arith [A.f_Hall_belts, A.g_Hall_belts, S_Hall_belts, i_Hall_belts, A.f_Hall_leaving, A.g_Hall_leaving, S_Hall_leaving, i_Hall_leaving, A.f_Hall_entering, A.g_Hall_entering, S_Hall_entering, i_Hall_entering]); repeat ((with_reducible refine And.intro ?_ ?_); omega)
  refine for_map (fun k ρ μ' => (∃ o7 o8 o9 o10, ρ = [some (.own h), some (.int w), some (.tup (fs.map frT)), some (.lst (ls.map Ln.tr)), some (.int (giveW ls w)), none, some (.int (needW ls w)), o7, o8, o9, o10]) ∧ μ' = μ ∧ ∀ f ∈ fs.take k, ∀ p ∈ f.2, 0 ≤ p.1 ∧ p.1 < needW ls w) ⟨⟨_, _, _, _, rfl⟩, rfl, fun f hf => by simp at hf⟩ ?_ ?_
  · rintro ρ μ' ⟨⟨o7, o8, o9, o10, rfl⟩, rfl, ha⟩
    refine ⟨trivial, ?_⟩
    rw [List.take_length] at ha
    exact fin_id (hR ⟨hlen, ha⟩)
  rintro k f ρ μ' hk ⟨⟨o7, o8, o9, o10, rfl⟩, rfl, ha⟩
  refine ⟨trivial, ?_⟩
  have hfm := List.mem_of_getElem? hk
  simp_arith [A.f_Hall_belts, A.g_Hall_belts, S_Hall_belts, i_Hall_belts, A.f_Hall_leaving, A.g_Hall_leaving, S_Hall_leaving, i_Hall_leaving, A.f_Hall_entering, A.g_Hall_entering, S_Hall_entering, i_Hall_entering, frT]
  apply e_cons; simp only [denS]; (try simp_arith [A.f_Hall_belts, A.g_Hall_belts, S_Hall_belts, i_Hall_belts, A.f_Hall_leaving, A.g_Hall_leaving, S_Hall_leaving, i_Hall_leaving, A.f_Hall_entering, A.g_Hall_entering, S_Hall_entering, i_Hall_entering]); repeat ((with_reducible refine And.intro ?_ ?_); omega)
  refine for_map (fun j ρ μ2 => (∃ o9 o10, ρ = [some (.own h), some (.int w), some (.tup (fs.map frT)), some (.lst (ls.map Ln.tr)), some (.int (giveW ls w)), none, some (.int (needW ls w)), some (.int f.1), some (.tup (f.2.map tmT)), o9, o10]) ∧ μ2 = μ' ∧ ∀ p ∈ f.2.take j, 0 ≤ p.1 ∧ p.1 < needW ls w) ⟨⟨_, _, rfl⟩, rfl, fun p hp => by simp at hp⟩ ?_ ?_
  · rintro ρ μ2 ⟨⟨o9, o10, rfl⟩, rfl, hb⟩
    refine ⟨trivial, ?_⟩
    rw [List.take_length] at hb
    refine ⟨_, _, .refl _ _, ⟨_, _, _, _, rfl⟩, rfl, fun g hg => ?_⟩
    rw [List.take_add_one, hk] at hg
    rcases List.mem_append.mp hg with z | z
    · exact ha g z
    · have : g = f := by simpa using z
      rw [this]
      exact hb
  rintro j p ρ μ2 hj ⟨⟨o9, o10, rfl⟩, rfl, hb⟩
  refine ⟨trivial, ?_⟩
  simp_arith [A.f_Hall_belts, A.g_Hall_belts, S_Hall_belts, i_Hall_belts, A.f_Hall_leaving, A.g_Hall_leaving, S_Hall_leaving, i_Hall_leaving, A.f_Hall_entering, A.g_Hall_entering, S_Hall_entering, i_Hall_entering, tmT]
  apply e_cons; apply e_ife; simp_arith [A.f_Hall_belts, A.g_Hall_belts, S_Hall_belts, i_Hall_belts, A.f_Hall_leaving, A.g_Hall_leaving, S_Hall_leaving, i_Hall_leaving, A.f_Hall_entering, A.g_Hall_entering, S_Hall_entering, i_Hall_entering]; repeat ((with_reducible refine And.intro ?_ ?_); omega)
  by_cases h1 : 0 ≤ p.1
  · rw [if_pos h1]
    by_cases h2 : p.1 < needW ls w
    · rw [if_neg (fun z => z h2)]
      refine ⟨_, _, .refl _ _, ⟨_, _, rfl⟩, rfl, fun q hq => ?_⟩
      rw [List.take_add_one, hj] at hq
      rcases List.mem_append.mp hq with z | z
      · exact hb q z
      · have : q = p := by simpa using z
        rw [this]
        exact ⟨h1, h2⟩
    · rw [if_pos h2]
      apply e_cons; simp only [denS]; (try simp_arith [A.f_Hall_belts, A.g_Hall_belts, S_Hall_belts, i_Hall_belts, A.f_Hall_leaving, A.g_Hall_leaving, S_Hall_leaving, i_Hall_leaving, A.f_Hall_entering, A.g_Hall_entering, S_Hall_entering, i_Hall_entering]); repeat ((with_reducible refine And.intro ?_ ?_); omega)
      exact hF fun z => h2 (z.2 f hfm p (List.mem_of_getElem? hj)).2
  · rw [if_neg h1]
    exact hF fun z => h1 (z.2 f hfm p (List.mem_of_getElem? hj)).1
def S_need_forms : TSp := fun ts μ F R => ∃ (h l1 l2 : Addr) (ns : List Str) (ls : List Ln) (t : T) (fs : List (List Frm)), ts = [.own h, t] ∧ LstAt μ t (fs.map fsT) ∧ HallAt μ h l1 l2 ns ls ∧ ls.length ≤ 1000 ∧ fs.length ≤ 1000 ∧ (∀ some ∈ fs, some.length ≤ 10000 ∧ ∀ f ∈ some, f.2.length ≤ 1000) ∧ (fs.length = ns.length ∧ (∀ (w : Nat) (some_ : List Frm), fs[w]? = some some_ → WfOk ls w some_) → R .non μ) ∧ (¬ (fs.length = ns.length ∧ ∀ (w : Nat) (some_ : List Frm), fs[w]? = some some_ → WfOk ls w some_) → F 3 μ)
structure A_need_forms (G : Tab) (Γ : Nat → TSp) : Prop where
  f_Hall_names : G.fn n_Hall_names = some i_Hall_names
  g_Hall_names : Γ n_Hall_names = S_Hall_names
  f_need_work_forms : G.fn n_need_work_forms = some i_need_work_forms
  g_need_work_forms : Γ n_need_work_forms = S_need_work_forms
abbrev B_need_forms (G : Tab) (Γ : Nat → TSp) : Prop := ∀ ts μ F R, S_need_forms ts μ F R → denSs G Γ c_need_forms (bodyD R F) (startT N_need_forms.length ts) μ
theorem body_need_forms {G : Tab} {Γ : Nat → TSp} (A : A_need_forms G Γ) : B_need_forms G Γ := by
  rintro ts μ F R ⟨h, l1, l2, ns, ls, t, fs, rfl, ht, H, hz, hfl, htl, hR, hF⟩
  unfold c_need_forms
  simp only [Rh.startT, List.length_cons, List.length_nil, List.map_cons, List.map_nil, List.replicate, List.cons_append, List.nil_append, Nat.reduceAdd, Nat.reduceSub, N_need_forms]
  apply e_cons; apply e_ife; simp_arith [A.f_Hall_names, A.g_Hall_names, S_Hall_names, i_Hall_names, A.f_need_work_forms, A.g_need_work_forms, S_need_work_forms, i_need_work_forms, H.o, len_at ht]; repeat ((with_reducible refine And.intro ?_ ?_); omega)
  refine ⟨l1, l2, ns, ls, H, .inr ?_⟩
  dsimp only
  simp_arith [A.f_Hall_names, A.g_Hall_names, S_Hall_names, i_Hall_names, A.f_need_work_forms, A.g_need_work_forms, S_need_work_forms, i_need_work_forms]
  by_cases hlen : fs.length = ns.length
  case neg =>
    have hlen' : ¬ (fs.length : Int) = (ns.length : Int) := by omega
    rw [if_pos hlen']
    apply e_cons; simp only [denS]; (try simp_arith [A.f_Hall_names, A.g_Hall_names, S_Hall_names, i_Hall_names, A.f_need_work_forms, A.g_need_work_forms, S_need_work_forms, i_need_work_forms]); repeat ((with_reducible refine And.intro ?_ ?_); omega)
    exact hF fun z => hlen z.1
  have hlen' : (fs.length : Int) = (ns.length : Int) := by omega
  rw [if_neg (fun z => z hlen')]
  apply e_cons; simp only [denS]; (try simp_arith [A.f_Hall_names, A.g_Hall_names, S_Hall_names, i_Hall_names, A.f_need_work_forms, A.g_need_work_forms, S_need_work_forms, i_need_work_forms]); repeat ((with_reducible refine And.intro ?_ ?_); omega)
  refine onG_at ht fun gd hgd => ?_
  refine for_enum (fun k ρ μ' => (∃ o2 o3, ρ = [some (.own h), some t, o2, o3]) ∧ μ' = μ ∧ ∀ (w : Nat) (x : List Frm), w < k → fs[w]? = some x → WfOk ls w x) ⟨⟨_, _, rfl⟩, rfl, fun w x z => absurd z (Nat.not_lt_zero w)⟩ ?_ ?_
  · rintro ρ μ' ⟨⟨o2, o3, rfl⟩, rfl, ha⟩
    refine ⟨hgd _ ht, ?_⟩
    exact fin_id (hR ⟨hlen, fun w x e => ha w x (List.getElem?_eq_some_iff.mp e).1 e⟩)
  rintro k x ρ μ' hk ⟨⟨o2, o3, rfl⟩, rfl, ha⟩
  refine ⟨hgd _ ht, ?_⟩
  have hkl := (List.getElem?_eq_some_iff.mp hk).1
  obtain ⟨x1, x2⟩ := htl x (List.mem_of_getElem? hk)
  simp_arith [A.f_Hall_names, A.g_Hall_names, S_Hall_names, i_Hall_names, A.f_need_work_forms, A.g_need_work_forms, S_need_work_forms, i_need_work_forms]
  apply e_cons; simp only [denS]; (try simp_arith [A.f_Hall_names, A.g_Hall_names, S_Hall_names, i_Hall_names, A.f_need_work_forms, A.g_need_work_forms, S_need_work_forms, i_need_work_forms]); repeat ((with_reducible refine And.intro ?_ ?_); omega)
  refine ⟨l1, l2, ns, ls, x, rfl, H, by omega, hz, x1, x2, fun ho => ?_, fun ho => ?_⟩
  · refine ⟨_, _, .refl _ _, ⟨_, _, rfl⟩, rfl, fun w y hw ey => ?_⟩
    by_cases e : w = k
    · subst e
      rw [hk] at ey
      cases ey
      exact ho
    · exact ha w y (by omega) ey
  · exact hF fun z => ho (z.2 k x hk)
def S_need_pieces : TSp := fun ts μ F R => ∃ (h l1 l2 : Addr) (ns : List Str) (ls : List Ln) (t : T) (Ld : List (List Int)), ts = [.own h, t] ∧ PcsAt μ t Ld ∧ HallAt μ h l1 l2 ns ls ∧ ls.length ≤ 1000 ∧ (Ld.length = ls.length ∧ (∀ (i : Nat) l x, ls[i]? = some l → Ld[i]? = some x → (x.length : Int) = l.st) → R .non μ) ∧ (¬ (Ld.length = ls.length ∧ ∀ (i : Nat) l x, ls[i]? = some l → Ld[i]? = some x → (x.length : Int) = l.st) → F 6 μ)
structure A_need_pieces (G : Tab) (Γ : Nat → TSp) : Prop where
  f_Hall_belts : G.fn n_Hall_belts = some i_Hall_belts
  g_Hall_belts : Γ n_Hall_belts = S_Hall_belts
abbrev B_need_pieces (G : Tab) (Γ : Nat → TSp) : Prop := ∀ ts μ F R, S_need_pieces ts μ F R → denSs G Γ c_need_pieces (bodyD R F) (startT N_need_pieces.length ts) μ
theorem body_need_pieces {G : Tab} {Γ : Nat → TSp} (A : A_need_pieces G Γ) : B_need_pieces G Γ := by
  rintro ts μ F R ⟨h, l1, l2, ns, ls, t, Ld, rfl, ht, H, hz, hR, hF⟩
  unfold c_need_pieces
  simp only [Rh.startT, List.length_cons, List.length_nil, List.map_cons, List.map_nil, List.replicate, List.cons_append, List.nil_append, Nat.reduceAdd, Nat.reduceSub, N_need_pieces]
  apply e_cons; simp only [denS]; (try simp_arith [A.f_Hall_belts, A.g_Hall_belts, S_Hall_belts, i_Hall_belts, H.o]); repeat ((with_reducible refine And.intro ?_ ?_); omega)
  refine ⟨l1, l2, ns, ls, H, .inr ?_⟩
  dsimp only
  obtain ⟨us, hu, hul, hui⟩ := ht
  apply e_cons; apply e_ife; simp_arith [A.f_Hall_belts, A.g_Hall_belts, S_Hall_belts, i_Hall_belts, len_at hu]; repeat ((with_reducible refine And.intro ?_ ?_); omega)
  by_cases hlen : Ld.length = ls.length
  case neg =>
    have hlen' : ¬ (us.length : Int) = (ls.length : Int) := by omega
    rw [if_pos hlen']
    apply e_cons; simp only [denS]; (try simp_arith [A.f_Hall_belts, A.g_Hall_belts, S_Hall_belts, i_Hall_belts]); repeat ((with_reducible refine And.intro ?_ ?_); omega)
    exact hF fun z => hlen z.1
  have hlen' : (us.length : Int) = (ls.length : Int) := by omega
  rw [if_neg (fun z => z hlen')]
  apply e_cons; simp only [denS]; (try simp_arith [A.f_Hall_belts, A.g_Hall_belts, S_Hall_belts, i_Hall_belts]); repeat ((with_reducible refine And.intro ?_ ?_); omega)
  refine onG_at .lst fun g1 hg1 => ?_
  refine onG_at hu fun gd hgd => ?_
  refine for_idx (fun k ρ μ' => (∃ o3 o4, ρ = [some (.own h), some t, some (.lst (ls.map Ln.tr)), o3, o4]) ∧ μ' = μ ∧ ∀ (i : Nat) l x, i < k → ls[i]? = some l → Ld[i]? = some x → (x.length : Int) = l.st) ⟨⟨_, _, rfl⟩, rfl, fun i l x z => absurd z (Nat.not_lt_zero i)⟩ ?_ ?_
  · rintro ρ μ' ⟨⟨o3, o4, rfl⟩, rfl, ha⟩
    refine ⟨⟨hg1 _ .lst, hgd _ hu⟩, ?_⟩
    rw [List.length_map, List.length_zip, List.length_map] at ha
    exact fin_id (hR ⟨hlen, fun i l x el ex => ha i l x (by have := (List.getElem?_eq_some_iff.mp el).1; omega) el ex⟩)
  rintro k y ρ μ' hk ⟨⟨o3, o4, rfl⟩, rfl, ha⟩
  refine ⟨⟨hg1 _ .lst, hgd _ hu⟩, ?_⟩
  have hkl := (List.getElem?_eq_some_iff.mp hk).1
  rw [List.length_map, List.length_zip, List.length_map] at hkl
  obtain ⟨l, el⟩ : ∃ l, ls[k]? = some l := ⟨_, List.getElem?_eq_getElem (by omega)⟩
  obtain ⟨u, eu⟩ : ∃ u, us[k]? = some u := ⟨_, List.getElem?_eq_getElem (by omega)⟩
  obtain ⟨x, ex⟩ : ∃ x, Ld[k]? = some x := ⟨_, List.getElem?_eq_getElem (by omega)⟩
  have ey : y = .tup [l.tr, u] := by
    rw [List.getElem?_map, (List.getElem?_zip_eq_some (z := (l.tr, u))).mpr ⟨by rw [List.getElem?_map, el]; rfl, eu⟩] at hk
    exact (Option.some.inj hk).symm
  subst ey
  have hx := hui k u x eu ex
  simp_arith [A.f_Hall_belts, A.g_Hall_belts, S_Hall_belts, i_Hall_belts, Ln.tr]
  apply e_cons; apply e_ife; simp_arith [A.f_Hall_belts, A.g_Hall_belts, S_Hall_belts, i_Hall_belts, len_at hx, Ln.tr]; repeat ((with_reducible refine And.intro ?_ ?_); omega)
  by_cases hc : (x.length : Int) = l.st
  · rw [if_neg (fun z => z hc)]
    refine ⟨_, _, .refl _ _, ⟨_, _, rfl⟩, rfl, fun i l' x' hi el' ex' => ?_⟩
    by_cases e : i = k
    · subst e
      rw [el] at el'
      cases el'
      rw [ex] at ex'
      cases ex'
      exact hc
    · exact ha i l' x' (by omega) el' ex'
  · rw [if_pos hc]
    apply e_cons; simp only [denS]; (try simp_arith [A.f_Hall_belts, A.g_Hall_belts, S_Hall_belts, i_Hall_belts]); repeat ((with_reducible refine And.intro ?_ ?_); omega)
    exact hF fun z => hc (z.2 k l x el ex)
def intoL (ls : List Ln) (n : Nat) : List T := (List.range n).map fun w : Nat => .lst ((spots (fun l => decide (Ln.t l = (w : Int))) ls).map T.int)
def outL (ls : List Ln) (n : Nat) : List T := (List.range n).map fun w : Nat => .lst ((spots (fun l => decide (Ln.g l = (w : Int))) ls).map T.int)
def ml (ls : List Ln) (fs : List (List Frm)) (n : Nat) (pl : Addr) : Ob := .obj 5 [.lst (fs.map fsT), .lst (ls.map Ln.tr), .lst (intoL ls n), .lst (outL ls n), .own pl]
structure Qs (μ : Sto) (qs : List Addr) (Ld : List (List Int)) : Prop where
  len : qs.length = Ld.length
  nd : qs.Nodup
  it : ∀ (i : Nat) (q : Addr) (x : List Int), qs[i]? = some q → Ld[i]? = some x → μ q = some (.lst (x.map T.int))
structure MillAt (μ : Sto) (m pl : Addr) (ls : List Ln) (fs : List (List Frm)) (n : Nat) (qs : List Addr) (Ld : List (List Int)) : Prop extends Qs μ qs Ld where
  o : μ m = some (ml ls fs n pl)
  l : μ pl = some (.lst (qs.map T.own))
  ll : Ld.length = ls.length
  np : pl ∉ qs
def FormsOk (ls : List Ln) (n : Nat) (fs : List (List Frm)) : Prop := fs.length = n ∧ ∀ (w : Nat) (x : List Frm), fs[w]? = some x → WfOk ls w x
def LoadsOk (ls : List Ln) (Ld : List (List Int)) : Prop := Ld.length = ls.length ∧ ∀ (i : Nat) l x, ls[i]? = some l → Ld[i]? = some x → (x.length : Int) = Ln.st l
def S_Mill_init : TSp := fun ts μ F R => ∃ (m h l1 l2 : Addr) (ns : List Str) (ls : List Ln) (t u : T) (fs : List (List Frm)) (Ld : List (List Int)), ts = [.own m, .own h, t, u] ∧ μ m = some (.obj 5 []) ∧ HallAt μ h l1 l2 ns ls ∧ LstAt μ t (fs.map fsT) ∧ PcsAt μ u Ld ∧ ls.length ≤ 1000 ∧ fs.length ≤ 1000 ∧ (∀ x ∈ fs, x.length ≤ 10000 ∧ ∀ f ∈ x, f.2.length ≤ 1000) ∧ FormsOk ls ns.length fs ∧ LoadsOk ls Ld ∧
  ∀ μ' pl qs, MillAt μ' m pl ls fs ns.length qs Ld → (∀ a o, a ≠ m → μ a = some o → μ' a = some o) → μ pl = none → (∀ q ∈ qs, μ q = none) → R .non μ'
theorem nem {a p : Addr} {qs : List Addr} (h : a ∈ qs) (k : p ∉ qs) : a ≠ p := fun e => k (e ▸ h)
theorem comp_nest {own : Bool} {vs : List Nat} {g : Tg} {cond elt : TEx × TTe} {ρ : Ro} {R : RP} {us : List T} {gd : Sto → Prop} {μ : Sto} {Ld : List (List Int)} (hl : us.length = Ld.length) (hz : us.length ≤ 1000) (hu : ∀ (i : Nat) u x, us[i]? = some u → Ld[i]? = some x → LstAt μ u (x.map T.int)) (hg : ∀ μ2, Rh.Sub μ μ2 → gd μ2)
    (h : ∀ (t : T) (Y : T → Sto → Prop) (N : Sto → Prop) (μ2 : Sto), tBif .list true [t] μ2 Y → bindT g t (wipeT ρ vs) μ2 fun ρ' => cond.2 ρ' μ2 noX fun b μ3 => if b = true then elt.1 ρ' μ3 noX fun y μ4 => Y y μ4 else N μ3)
    (hR : ∀ qs μ2, Qs μ2 qs Ld → Rh.Sub μ μ2 → (∀ q ∈ qs, μ q = none) → newL own (qs.map T.own) μ2 R) : compD own vs g cond elt ρ R us gd μ := by
  refine ⟨fun acc r μ2 => ∃ (k : Nat) (qs : List Addr), r = us.drop k ∧ k ≤ us.length ∧ acc = qs.map T.own ∧ qs.length = k ∧ Rh.Sub μ μ2 ∧ qs.Nodup ∧ (∀ q ∈ qs, μ q = none) ∧ (∀ q ∈ qs, μ2 q ≠ none) ∧ ∀ (i : Nat) (q : Addr) (x : List Int), qs[i]? = some q → Ld[i]? = some x → μ2 q = some (.lst (x.map T.int)), ⟨0, [], rfl, Nat.zero_le _, rfl, rfl, fun _ _ e => e, List.Pairwise.nil, fun _ z => (nomatch z), fun _ z => (nomatch z), fun i q x z => by simp at z⟩, ?_, ?_⟩
  · rintro acc μ2 ⟨k, qs, e1, e2, rfl, e3, sb, nd, fr, al, it⟩
    have e4 : k = us.length := by
      have := congrArg List.length e1
      rw [List.length_nil, List.length_drop] at this
      omega
    exact ⟨hg μ2 sb, hR qs μ2 ⟨by omega, nd, it⟩ sb fr⟩
  · rintro acc t r μ2 ⟨k, qs, e1, e2, rfl, e3, sb, nd, fr, al, it⟩
    have hk : k < us.length := by
      have := congrArg List.length e1
      rw [List.length_cons, List.length_drop] at this
      omega
    have et : us[k]? = some t := by
      have := congrArg (fun l : List T => l[0]?) e1
      simpa [List.getElem?_drop] using this.symm
    have er : r = us.drop (k + 1) := by
      have := congrArg List.tail e1
      simpa [List.tail_drop] using this
    obtain ⟨x, ex⟩ : ∃ x, Ld[k]? = some x := ⟨_, List.getElem?_eq_getElem (by omega)⟩
    have hux := Lw.LstAt.sb (hu k t x et ex) sb
    refine ⟨hg μ2 sb, h t _ _ μ2 ?_⟩
    rw [lst_at hux]
    intro p hp
    have hpq : p ∉ qs := fun z => al p z hp
    have hpμ : μ p = none := by
      cases e : μ p with
      | none => rfl
      | some o => rw [sb _ _ e] at hp; cases hp
    refine ⟨by rw [List.length_map, sz]; omega, .own p, _, WkV.refl _ _, k + 1, qs ++ [p], er, hk, by rw [List.map_append]; rfl, by rw [List.length_append, e3]; rfl, fun a o e => ?_, ?_, fun q hq => ?_, fun q hq => ?_, fun i q y eq ey => ?_⟩
    · rw [set_ne (nofr e hpμ)]
      exact sb _ _ e
    · refine List.nodup_append.mpr ⟨nd, List.pairwise_singleton _ _, fun a ha b hb e => ?_⟩
      cases List.mem_singleton.mp hb
      exact hpq (e ▸ ha)
    · rcases List.mem_append.mp hq with z | z
      · exact fr q z
      · cases List.mem_singleton.mp z
        exact hpμ
    · rcases List.mem_append.mp hq with z | z
      · rw [set_ne (nem z hpq)]
        exact al q z
      · cases List.mem_singleton.mp z
        rw [set_self]
        exact fun z => by cases z
    · by_cases hi : i < k
      · rw [List.getElem?_append_left (by omega)] at eq
        have hqm := List.mem_of_getElem? eq
        rw [set_ne (nem hqm hpq)]
        exact it i q y eq ey
      · have := (List.getElem?_eq_some_iff.mp eq).1
        rw [List.length_append, List.length_singleton] at this
        have e5 : i = k := by omega
        subst e5
        rw [List.getElem?_append_right (by omega), e3, Nat.sub_self] at eq
        cases eq
        rw [ex] at ey
        cases ey
        exact set_self
theorem lst_put {μ : Sto} {t : T} {us us2 : List T} {m : Addr} {c : Nat} {o : Ob} (h : LstAt μ t us) (hm : μ m = some (.obj c us2)) : LstAt (μ.set m o) t us := by
  rcases h with rfl | ⟨p, rfl, e⟩
  · exact .lst
  · exact .own (by rw [set_ne (fun z => by subst z; rw [hm] at e; cases e)]; exact e)
theorem pcs_put {μ : Sto} {t : T} {Ld : List (List Int)} {us2 : List T} {m : Addr} {c : Nat} {o : Ob} (h : PcsAt μ t Ld) (hm : μ m = some (.obj c us2)) : PcsAt (μ.set m o) t Ld := by
  obtain ⟨us, h1, h2, h3⟩ := h
  exact ⟨us, lst_put h1 hm, h2, fun i u x a b => lst_put (h3 i u x a b) hm⟩
structure A_Mill_init (G : Tab) (Γ : Nat → TSp) : Prop where
  f_need_forms : G.fn n_need_forms = some i_need_forms
  g_need_forms : Γ n_need_forms = S_need_forms
  f_need_pieces : G.fn n_need_pieces = some i_need_pieces
  g_need_pieces : Γ n_need_pieces = S_need_pieces
  f_Hall_belts : G.fn n_Hall_belts = some i_Hall_belts
  g_Hall_belts : Γ n_Hall_belts = S_Hall_belts
  f_Hall_entering : G.fn n_Hall_entering = some i_Hall_entering
  g_Hall_entering : Γ n_Hall_entering = S_Hall_entering
  f_Hall_leaving : G.fn n_Hall_leaving = some i_Hall_leaving
  g_Hall_leaving : Γ n_Hall_leaving = S_Hall_leaving
abbrev B_Mill_init (G : Tab) (Γ : Nat → TSp) : Prop := ∀ ts μ F R, S_Mill_init ts μ F R → denSs G Γ c_Mill_init (bodyD R F) (startT N_Mill_init.length ts) μ
theorem body_Mill_init {G : Tab} {Γ : Nat → TSp} (A : A_Mill_init G Γ) : B_Mill_init G Γ := by
  rintro ts μ F R ⟨m, h, l1, l2, ns, ls, t, u, fs, Ld, rfl, hm, H, ht, hu, hz, hfl, htl, hfo, hlo, hR⟩
  unfold c_Mill_init
  simp only [Rh.startT, List.length_cons, List.length_nil, List.map_cons, List.map_nil, List.replicate, List.cons_append, List.nil_append, Nat.reduceAdd, Nat.reduceSub, N_Mill_init]
  apply e_cons; simp only [denS]; (try simp_arith [A.f_need_forms, A.g_need_forms, S_need_forms, i_need_forms, A.f_need_pieces, A.g_need_pieces, S_need_pieces, i_need_pieces, A.f_Hall_belts, A.g_Hall_belts, S_Hall_belts, i_Hall_belts, A.f_Hall_entering, A.g_Hall_entering, S_Hall_entering, i_Hall_entering, A.f_Hall_leaving, A.g_Hall_leaving, S_Hall_leaving, i_Hall_leaving]); repeat ((with_reducible refine And.intro ?_ ?_); omega)
  refine ⟨l1, l2, ns, ls, fs, ht, H, hz, hfl, htl, fun _ => ?_, fun z => absurd hfo z⟩
  apply e_cons; simp only [denS]; (try simp_arith [A.f_need_forms, A.g_need_forms, S_need_forms, i_need_forms, A.f_need_pieces, A.g_need_pieces, S_need_pieces, i_need_pieces, A.f_Hall_belts, A.g_Hall_belts, S_Hall_belts, i_Hall_belts, A.f_Hall_entering, A.g_Hall_entering, S_Hall_entering, i_Hall_entering, A.f_Hall_leaving, A.g_Hall_leaving, S_Hall_leaving, i_Hall_leaving]); repeat ((with_reducible refine And.intro ?_ ?_); omega)
  refine ⟨l1, l2, ns, ls, Ld, hu, H, hz, fun _ => ?_, fun z => absurd hlo z⟩
  apply e_cons; simp only [denS]; (try simp_arith [A.f_need_forms, A.g_need_forms, S_need_forms, i_need_forms, A.f_need_pieces, A.g_need_pieces, S_need_pieces, i_need_pieces, A.f_Hall_belts, A.g_Hall_belts, S_Hall_belts, i_Hall_belts, A.f_Hall_entering, A.g_Hall_entering, S_Hall_entering, i_Hall_entering, A.f_Hall_leaving, A.g_Hall_leaving, S_Hall_leaving, i_Hall_leaving, lst_at ht, hm]); repeat ((with_reducible refine And.intro ?_ ?_); omega)
  have hfl2 := hfo.1
  have dm : h ≠ m ∧ l1 ≠ m ∧ l2 ≠ m := ⟨fun z => by subst z; have := H.o; rw [hm] at this; simp at this, fun z => by subst z; have := H.w; rw [hm] at this; simp at this, fun z => by subst z; have := H.b; rw [hm] at this; simp at this⟩
  have stp : ∀ (o : Ob) (c : Nat) (us : List T), o = .obj c us → HallAt (μ.set m o) h l1 l2 ns ls ∧ LstAt (μ.set m o) t (fs.map fsT) ∧ PcsAt (μ.set m o) u Ld ∧ (μ.set m o) m = some o := fun o c us e => ⟨H.put dm.1 dm.2.1 dm.2.2, lst_put ht hm, pcs_put hu hm, set_self⟩
  have e0 : setF [] 0 (T.lst (fs.map fsT)) = [.lst (fs.map fsT)] := rfl
  rw [e0]
  obtain ⟨H1, ht1, hu1, hm1⟩ := stp (.obj 5 [.lst (fs.map fsT)]) 5 _ rfl
  apply e_cons; simp only [denS]; (try simp_arith [A.f_need_forms, A.g_need_forms, S_need_forms, i_need_forms, A.f_need_pieces, A.g_need_pieces, S_need_pieces, i_need_pieces, A.f_Hall_belts, A.g_Hall_belts, S_Hall_belts, i_Hall_belts, A.f_Hall_entering, A.g_Hall_entering, S_Hall_entering, i_Hall_entering, A.f_Hall_leaving, A.g_Hall_leaving, S_Hall_leaving, i_Hall_leaving, H1.o]); repeat ((with_reducible refine And.intro ?_ ?_); omega)
  refine ⟨l1, l2, ns, ls, H1, .inr ?_⟩
  dsimp only
  refine ⟨_, hm1, by show 1 ≤ 1; decide, ?_⟩
  rw [set_set]
  have e1 : setF [.lst (fs.map fsT)] 1 (T.lst (ls.map Ln.tr)) = [.lst (fs.map fsT), .lst (ls.map Ln.tr)] := rfl
  rw [e1]
  obtain ⟨H2, ht2, hu2, hm2⟩ := stp (.obj 5 [.lst (fs.map fsT), .lst (ls.map Ln.tr)]) 5 _ rfl
  clear H1 ht1 hu1 hm1
  have hrl : ((List.range fs.length).map fun i => T.int (i : Nat)).length ≤ sizeLine := by rw [List.length_map, List.length_range, sz]; omega
  have hrg : ∀ v ∈ (List.range fs.length).map (fun i => T.int (i : Nat)), ∃ i : Nat, i < fs.length ∧ v = .int i := fun v hv => by
    obtain ⟨i, hi2, rfl⟩ := List.mem_map.mp hv
    exact ⟨i, List.mem_range.mp hi2, rfl⟩
  apply e_cons; simp only [denS]; (try simp_arith [A.f_need_forms, A.g_need_forms, S_need_forms, i_need_forms, A.f_need_pieces, A.g_need_pieces, S_need_pieces, i_need_pieces, A.f_Hall_belts, A.g_Hall_belts, S_Hall_belts, i_Hall_belts, A.f_Hall_entering, A.g_Hall_entering, S_Hall_entering, i_Hall_entering, A.f_Hall_leaving, A.g_Hall_leaving, S_Hall_leaving, i_Hall_leaving, H2.o, len_at ht2]); repeat ((with_reducible refine And.intro ?_ ?_); omega)
  refine comp_pure (fun _ => true) (fun t => match t with | .int w => .lst ((spots (fun l => decide (Ln.t l = w)) ls).map T.int) | t => t) trivial hrl ?_ ?_
  · intro v hv Y N hY _
    obtain ⟨i, hi2, rfl⟩ := hrg v hv
    have hY := hY rfl
    simp only [wipeT]
    simp_arith [A.f_need_forms, A.g_need_forms, S_need_forms, i_need_forms, A.f_need_pieces, A.g_need_pieces, S_need_pieces, i_need_pieces, A.f_Hall_belts, A.g_Hall_belts, S_Hall_belts, i_Hall_belts, A.f_Hall_entering, A.g_Hall_entering, S_Hall_entering, i_Hall_entering, A.f_Hall_leaving, A.g_Hall_leaving, S_Hall_leaving, i_Hall_leaving, H2.o]
    exact ⟨l1, l2, ns, ls, H2, by omega, .inl ⟨by omega, .inr hY⟩⟩
  rw [List.filter_eq_self.mpr (fun _ _ => rfl), List.map_map]
  have e2 : (List.range fs.length).map ((fun t => match t with | T.int w => T.lst ((spots (fun l => decide (Ln.t l = w)) ls).map T.int) | t => t) ∘ fun i : Nat => T.int (i : Nat)) = intoL ls ns.length := by
    rw [hfl2]
    rfl
  rw [e2]
  simp only [newL]
  refine ⟨_, hm2, by show 2 ≤ 2; decide, ?_⟩
  rw [set_set]
  have e3 : setF [.lst (fs.map fsT), .lst (ls.map Ln.tr)] 2 (T.lst (intoL ls ns.length)) = [.lst (fs.map fsT), .lst (ls.map Ln.tr), .lst (intoL ls ns.length)] := rfl
  rw [e3]
  obtain ⟨H3, ht3, hu3, hm3⟩ := stp (.obj 5 [.lst (fs.map fsT), .lst (ls.map Ln.tr), .lst (intoL ls ns.length)]) 5 _ rfl
  clear H2 ht2 hu2 hm2
  apply e_cons; simp only [denS]; (try simp_arith [A.f_need_forms, A.g_need_forms, S_need_forms, i_need_forms, A.f_need_pieces, A.g_need_pieces, S_need_pieces, i_need_pieces, A.f_Hall_belts, A.g_Hall_belts, S_Hall_belts, i_Hall_belts, A.f_Hall_entering, A.g_Hall_entering, S_Hall_entering, i_Hall_entering, A.f_Hall_leaving, A.g_Hall_leaving, S_Hall_leaving, i_Hall_leaving, H3.o, len_at ht3]); repeat ((with_reducible refine And.intro ?_ ?_); omega)
  refine comp_pure (fun _ => true) (fun t => match t with | .int w => .lst ((spots (fun l => decide (Ln.g l = w)) ls).map T.int) | t => t) trivial hrl ?_ ?_
  · intro v hv Y N hY _
    obtain ⟨i, hi2, rfl⟩ := hrg v hv
    have hY := hY rfl
    simp only [wipeT]
    simp_arith [A.f_need_forms, A.g_need_forms, S_need_forms, i_need_forms, A.f_need_pieces, A.g_need_pieces, S_need_pieces, i_need_pieces, A.f_Hall_belts, A.g_Hall_belts, S_Hall_belts, i_Hall_belts, A.f_Hall_entering, A.g_Hall_entering, S_Hall_entering, i_Hall_entering, A.f_Hall_leaving, A.g_Hall_leaving, S_Hall_leaving, i_Hall_leaving, H3.o]
    exact ⟨l1, l2, ns, ls, H3, by omega, .inl ⟨by omega, .inr hY⟩⟩
  rw [List.filter_eq_self.mpr (fun _ _ => rfl), List.map_map]
  have e4 : (List.range fs.length).map ((fun t => match t with | T.int w => T.lst ((spots (fun l => decide (Ln.g l = w)) ls).map T.int) | t => t) ∘ fun i : Nat => T.int (i : Nat)) = outL ls ns.length := by
    rw [hfl2]
    rfl
  rw [e4]
  simp only [newL]
  refine ⟨_, hm3, by show 3 ≤ 3; decide, ?_⟩
  rw [set_set]
  have e5 : setF [.lst (fs.map fsT), .lst (ls.map Ln.tr), .lst (intoL ls ns.length)] 3 (T.lst (outL ls ns.length)) = [.lst (fs.map fsT), .lst (ls.map Ln.tr), .lst (intoL ls ns.length), .lst (outL ls ns.length)] := rfl
  rw [e5]
  obtain ⟨H4, ht4, hu4, hm4⟩ := stp (.obj 5 [.lst (fs.map fsT), .lst (ls.map Ln.tr), .lst (intoL ls ns.length), .lst (outL ls ns.length)]) 5 _ rfl
  clear H3 ht3 hu3 hm3
  apply e_cons; simp only [denS]; (try simp_arith [A.f_need_forms, A.g_need_forms, S_need_forms, i_need_forms, A.f_need_pieces, A.g_need_pieces, S_need_pieces, i_need_pieces, A.f_Hall_belts, A.g_Hall_belts, S_Hall_belts, i_Hall_belts, A.f_Hall_entering, A.g_Hall_entering, S_Hall_entering, i_Hall_entering, A.f_Hall_leaving, A.g_Hall_leaving, S_Hall_leaving, i_Hall_leaving]); repeat ((with_reducible refine And.intro ?_ ?_); omega)
  obtain ⟨us, hu1, hu2, hu3⟩ := hu4
  refine onG_at hu1 fun gd hgd => ?_
  have hll := hlo.1
  refine comp_nest hu2 (by omega) hu3 (fun μ2 sb => hgd μ2 (Lw.LstAt.sb hu1 sb)) ?_ ?_
  · intro t Y N μ2 hY
    simp only [wipeT]
    simp_arith [A.f_need_forms, A.g_need_forms, S_need_forms, i_need_forms, A.f_need_pieces, A.g_need_pieces, S_need_pieces, i_need_pieces, A.f_Hall_belts, A.g_Hall_belts, S_Hall_belts, i_Hall_belts, A.f_Hall_entering, A.g_Hall_entering, S_Hall_entering, i_Hall_entering, A.f_Hall_leaving, A.g_Hall_leaving, S_Hall_leaving, i_Hall_leaving]
    exact hY
  intro qs μ2 Q sb fr p hp
  have e6 : (μ2.set p (.lst (qs.map T.own))) m = some (.obj 5 [.lst (fs.map fsT), .lst (ls.map Ln.tr), .lst (intoL ls ns.length), .lst (outL ls ns.length)]) := by rw [set_ne (nofr (sb _ _ hm4) hp)]; exact sb _ _ hm4
  refine ⟨_, e6, by show 4 ≤ 4; decide, ?_⟩
  have e7 : setF [.lst (fs.map fsT), .lst (ls.map Ln.tr), .lst (intoL ls ns.length), .lst (outL ls ns.length)] 4 (T.own p) = [.lst (fs.map fsT), .lst (ls.map Ln.tr), .lst (intoL ls ns.length), .lst (outL ls ns.length), .own p] := rfl
  rw [e7]
  have npm : p ≠ m := (nofr (sb _ _ hm4) hp).symm
  have hpμ : ∀ a : Addr, μ2 a = none → a ≠ m → μ a = none := fun a ha hne => by
    cases e : μ a with
    | none => rfl
    | some o =>
      have := sb a o (by rw [set_ne hne]; exact e)
      rw [this] at ha
      cases ha
  have hqm : m ∉ qs := fun z => by
    have := fr m z
    rw [hm4] at this
    cases this
  have hqp : p ∉ qs := fun z => by
    obtain ⟨i, hi, e⟩ := List.mem_iff_getElem.mp z
    have hql := Q.len
    have := Q.it i p Ld[i] (by rw [List.getElem?_eq_getElem hi, e]) (List.getElem?_eq_getElem (by omega))
    rw [hp] at this
    cases this
  refine fin_id (hR _ p qs ⟨⟨Q.len, Q.nd, fun i q x eq ex => ?_⟩, set_self, ?_, hll, hqp⟩ (fun a o hne e => ?_) (hpμ p hp npm) (fun q hq => ?_))
  · have hqi := List.mem_of_getElem? eq
    rw [set_ne (nem hqi hqm), set_ne (nem hqi hqp)]
    exact Q.it i q x eq ex
  · rw [set_ne npm, set_self]
  · have e8 := sb a o (by rw [set_ne hne]; exact e)
    rw [set_ne hne, set_ne (nofr e8 hp)]
    exact e8
  · have := fr q hq
    rwa [set_ne (nem hq hqm)] at this
def S_form_value : TSp := fun ts μ F R => ∃ (f : Frm) (t : T) (xs : List Int) (B : Nat), ts = [frT f, t] ∧ LstAt μ t (xs.map T.int) ∧ (∀ p ∈ f.2, (0 ≤ p.1 ∧ p.1 < xs.length) ∧ Bt 128 p.2) ∧ (∀ x ∈ xs, Bt B x) ∧ B ≤ 900000 ∧ f.2.length ≤ 1000 ∧ R (.int (fval f xs)) μ
structure A_form_value (G : Tab) (Γ : Nat → TSp) : Prop where
  triv : True
abbrev B_form_value (G : Tab) (Γ : Nat → TSp) : Prop := ∀ ts μ F R, S_form_value ts μ F R → denSs G Γ c_form_value (bodyD R F) (startT N_form_value.length ts) μ
theorem body_form_value {G : Tab} {Γ : Nat → TSp} (A : A_form_value G Γ) : B_form_value G Γ := by
  rintro ts μ F R ⟨f, t, xs, B, rfl, ht, hp, hB, hb, hl, hR⟩
  unfold c_form_value
  simp only [Rh.startT, List.length_cons, List.length_nil, List.map_cons, List.map_nil, List.replicate, List.cons_append, List.nil_append, Nat.reduceAdd, Nat.reduceSub, N_form_value]
  apply e_cons; simp only [denS]; (try simp_arith [frT]); repeat ((with_reducible refine And.intro ?_ ?_); omega)
  apply e_cons; simp only [denS]; (try simp_arith []); repeat ((with_reducible refine And.intro ?_ ?_); omega)
  apply e_cons; simp only [denS]; (try simp_arith []); repeat ((with_reducible refine And.intro ?_ ?_); omega)
  refine for_map (fun k ρ μ' => (∃ o5 o6, ρ = [some (.tup [.int f.1, .tup (f.2.map tmT)]), some t, some (.int f.1), some (.tup (f.2.map tmT)), some (.int ((f.2.take k).foldl (fun a p => a + p.2 * cnt xs p.1) f.1)), o5, o6]) ∧ μ' = μ) ⟨⟨_, _, rfl⟩, rfl⟩ ?_ ?_
  · rintro ρ μ' ⟨⟨o5, o6, rfl⟩, rfl⟩
    refine ⟨trivial, ?_⟩
    rw [List.take_length]
    apply e_cons; simp only [denS]; (try simp_arith []); repeat ((with_reducible refine And.intro ?_ ?_); omega)
    exact fin_id hR
  rintro k p ρ μ' hk ⟨⟨o5, o6, rfl⟩, rfl⟩
  refine ⟨trivial, ?_⟩
  obtain ⟨⟨p0, p1⟩, pB⟩ := hp p (List.mem_of_getElem? hk)
  have b1 := at_cnt (cs := xs) p0 p1
  have hx : Bt B (cnt xs p.1) := by
    refine hB _ ?_
    unfold Rh.cnt
    rw [List.getElem?_eq_getElem (by omega)]
    exact List.getElem_mem _
  have m1 : MulOk p.2 (cnt xs p.1) = True := eq_true (pB.mulOk hx (by omega))
  have et : (f.2.take (k + 1)).foldl (fun a p => a + p.2 * cnt xs p.1) f.1 = (f.2.take k).foldl (fun a p => a + p.2 * cnt xs p.1) f.1 + p.2 * cnt xs p.1 := by
    rw [List.take_add_one, hk, List.foldl_append]
    rfl
  simp_arith [tmT]
  apply e_cons; simp only [denS]; (try simp_arith [idx_at ht, b1, m1]); repeat ((with_reducible refine And.intro ?_ ?_); omega)
  exact ⟨_, _, .refl _ _, ⟨_, _, by rw [et]⟩, rfl⟩
def giveU (ls : List Ln) (w : Int) (i : Nat) : Int := giveW (ls.take i) w
def putAt (ls : List Ln) (w : Int) (made : List Int) (i : Nat) (x : List Int) : List Int := match ls[i]? with | some l => if l.g = w then x ++ (made.drop (giveU ls w i).toNat).take l.gi.toNat else x | none => x
def putM (ls : List Ln) (w : Int) (made : List Int) (Ld : List (List Int)) : List (List Int) := Ld.mapIdx (putAt ls w made)
def takeAt (ls : List Ln) (w : Int) (i : Nat) (x : List Int) : List Int := match ls[i]? with | some l => if l.t = w then x.drop l.ta.toNat else x | none => x
def takeM (ls : List Ln) (w : Int) (Ld : List (List Int)) : List (List Int) := Ld.mapIdx (takeAt ls w)
def slot1 (ls : List Ln) (Ld : List (List Int)) (b : Int) : List Int := ((Ld[b.toNat]?).getD []).take (((ls[b.toNat]?).map Ln.ta).getD 0).toNat
def slotsM (ls : List Ln) (w : Int) (Ld : List (List Int)) : List Int := (spots (fun l => decide (Ln.t l = w)) ls).flatMap (slot1 ls Ld)
def madeM (fs : List (List Frm)) (w : Int) (xs : List Int) : List Int := ((fs[w.toNat]?).getD []).map fun f => fval f xs
def turnM (ls : List Ln) (fs : List (List Frm)) (Ld : List (List Int)) (w : Int) : List (List Int) := putM ls w (madeM fs w (slotsM ls w Ld)) (takeM ls w Ld)
def MReady (ls : List Ln) (Ld : List (List Int)) (w : Int) : Prop := ∀ (i : Nat) l x, ls[i]? = some l → Ld[i]? = some x → l.t = w → l.ta ≤ (x.length : Int)
def goM (ls : List Ln) (fs : List (List Frm)) : List (List Int) → List Int → List (List Int)
  | Ld, [] => Ld
  | Ld, w :: r => goM ls fs (turnM ls fs Ld w) r
structure MB (ls : List Ln) (fs : List (List Frm)) (n : Nat) (Ld : List (List Int)) (B : Nat) : Prop where
  z : ls.length ≤ 1000
  p : PosL ls
  i : Inr (ends ls) n
  f : FormsOk ls n fs
  fl : ∀ x ∈ fs, x.length ≤ 10000 ∧ ∀ f ∈ x, f.2.length ≤ 1000 ∧ Bt 128 f.1 ∧ ∀ p ∈ f.2, Bt 128 p.2
  nw : ∀ w : Int, needW ls w ≤ 1000000
  gb : ∀ l ∈ ls, Ln.gi l ≤ 10000 ∧ l.ta ≤ 10000
  lx : ∀ x ∈ Ld, x.length ≤ 10000000 ∧ ∀ v ∈ x, Bt B v
  b : B ≤ 800000
theorem flat_len {α : Type} {c : Nat} {f : α → List Int} : ∀ (xs : List α), (∀ x ∈ xs, (f x).length ≤ c) → (xs.flatMap f).length ≤ c * xs.length
  | [], _ => by simp
  | x :: xs, h => by
    rw [List.flatMap_cons, List.length_append, List.length_cons, Nat.mul_succ]
    have h1 := h x List.mem_cons_self
    have h2 := flat_len xs fun y hy => h y (List.mem_cons_of_mem _ hy)
    omega
theorem flat_sum {f : Int → List Int} {g : Int → Int} : ∀ (xs : List Int), (∀ x ∈ xs, ((f x).length : Int) = g x) → ((xs.flatMap f).length : Int) = (xs.map g).sum
  | [], _ => by simp
  | x :: xs, h => by
    rw [List.flatMap_cons, List.length_append, List.map_cons, List.sum_cons]
    have h1 := h x List.mem_cons_self
    have h2 := flat_sum xs fun y hy => h y (List.mem_cons_of_mem _ hy)
    omega
theorem sum_nnI : ∀ (xs : List Int), (∀ x ∈ xs, 0 ≤ x) → 0 ≤ xs.sum
  | [], _ => by simp
  | x :: xs, h => by
    rw [List.sum_cons]
    have h1 := h x List.mem_cons_self
    have h2 := sum_nnI xs fun y hy => h y (List.mem_cons_of_mem _ hy)
    omega
theorem cut_btw {us : List T} {a c : Int} (h0 : 0 ≤ a) (h1 : 0 ≤ c) : cutT us (some a) (some (a + c)) = (us.drop a.toNat).take c.toNat := by
  obtain ⟨n, rfl⟩ := Int.eq_ofNat_of_zero_le h0
  obtain ⟨d, rfl⟩ := Int.eq_ofNat_of_zero_le h1
  have e : (n : Int) + (d : Int) = ((n + d : Nat) : Int) := by omega
  rw [e, Int.toNat_natCast, Int.toNat_natCast]
  unfold cutT
  rw [HT.sIx_nat, HT.sIx_nat]
  by_cases h : n ≤ us.length
  · rw [Nat.min_eq_left h]
    by_cases h2 : n + d ≤ us.length
    · rw [Nat.min_eq_left h2, Nat.add_sub_cancel_left]
    · rw [Nat.min_eq_right (by omega), List.take_of_length_le (by rw [List.length_drop]; omega), List.take_of_length_le (by rw [List.length_drop]; omega)]
  · rw [Nat.min_eq_right (show us.length ≤ n by omega), Nat.min_eq_right (show us.length ≤ n + d by omega), List.drop_length, List.drop_of_length_le (show us.length ≤ n by omega)]
    simp
/-- a form, read from its tree -/
def frOf : T → Frm
  | .tup [.int c, .tup ts] => (c, ts.map fun t => match t with | .tup [.int a, .int b] => (a, b) | _ => (0, 0))
  | _ => (0, [])
theorem frOf_T {f : Frm} : frOf (frT f) = f := by
  obtain ⟨c, ts⟩ := f
  show (c, (ts.map tmT).map _) = (c, ts)
  rw [List.map_map]
  congr 1
  conv => rhs; rw [← List.map_id ts]
  exact List.map_congr_left fun p _ => rfl
theorem spots_pre {p : Ln → Bool} {ls : List Ln} {j : Nat} {b : Int} (h : (spots p ls)[j]? = some b) : spots p (ls.take b.toNat) = (spots p ls).take j := by
  have hb := List.mem_of_getElem? h
  obtain ⟨l, b0, el, pl⟩ := spots_at hb
  obtain ⟨k, rfl⟩ := Int.eq_ofNat_of_zero_le b0
  rw [Int.toNat_natCast] at el ⊢
  have hk := (List.getElem?_eq_some_iff.mp el).1
  have hlt : (ls.take k).length = k := by rw [List.length_take]; omega
  have e1 : List.range ls.length = List.range k ++ (List.range (ls.length - k)).map (k + ·) := by
    rw [← List.range_add]
    congr 1
    omega
  have e2 : spots p ls = spots p (ls.take k) ++ (((List.range (ls.length - k)).map (k + ·)).filter fun i => (ls[i]?).any p).map fun i : Nat => (i : Int) := by
    unfold spots
    rw [e1, List.filter_append, List.map_append, hlt]
    congr 2
    refine List.filter_congr fun i hi => ?_
    have hi := List.mem_range.mp hi
    rw [List.getElem?_take_of_lt hi]
  have e3 : (((List.range (ls.length - k)).map (k + ·)).filter fun i => (ls[i]?).any p).map (fun i : Nat => (i : Int)) = (k : Int) :: ((((List.range (ls.length - k - 1)).map (k + 1 + ·)).filter fun i => (ls[i]?).any p).map fun i : Nat => (i : Int)) := by
    obtain ⟨d, hd⟩ : ∃ d, ls.length - k = d + 1 := ⟨ls.length - k - 1, by omega⟩
    rw [hd, List.range_succ_eq_map, List.map_cons, List.filter_cons, Nat.add_zero, el]
    rw [if_pos (show Option.any p (some l) = true from pl), List.map_cons, List.map_map]
    have e4 : (List.range d).map ((fun x => k + x) ∘ Nat.succ) = (List.range (d + 1 - 1)).map fun x => k + 1 + x := List.map_congr_left fun x _ => by
      show k + (x + 1) = k + 1 + x
      omega
    rw [e4]
  have nd := spots_nodup (p := p) (ls := ls)
  rw [e3] at e2
  have h2 : (spots p ls)[(spots p (ls.take k)).length]? = some (k : Int) := by
    rw [e2, List.getElem?_append_right (Nat.le_refl _), Nat.sub_self]
    rfl
  have h3 : j = (spots p (ls.take k)).length := by
    have a1 := List.getElem?_eq_some_iff.mp h
    have a2 := List.getElem?_eq_some_iff.mp h2
    exact (List.getElem_inj nd).mp (a1.2.trans a2.2.symm)
  rw [h3]
  conv => rhs; rw [e2]
  rw [List.take_left]
theorem giveU_at {ls : List Ln} {w : Int} {j : Nat} {b : Int} (h : (spots (fun l => decide (Ln.g l = w)) ls)[j]? = some b) : giveU ls w b.toNat = (((spots (fun l => decide (Ln.g l = w)) ls).take j).map fun i => ((ls[i.toNat]?).map Ln.gi).getD 0).sum := by
  unfold giveU giveW
  rw [← spots_map, spots_pre h]
  congr 1
  refine List.map_congr_left fun i hi => ?_
  rw [← spots_pre h] at hi
  obtain ⟨l, i0, el, _⟩ := spots_at hi
  have := (List.getElem?_eq_some_iff.mp el).1
  rw [List.length_take] at this
  rw [List.getElem?_take_of_lt (by omega)]
theorem MillAt.ml_ne {μ : Sto} {m pl : Addr} {ls : List Ln} {fs : List (List Frm)} {n : Nat} {qs : List Addr} {Ld : List (List Int)} (M : MillAt μ m pl ls fs n qs Ld) : m ≠ pl ∧ m ∉ qs := by
  refine ⟨fun z => ?_, fun z => ?_⟩
  · have := M.o
    rw [z, M.l] at this
    cases this
  · obtain ⟨i, hi, e⟩ := List.mem_iff_getElem.mp z
    have hl := M.len
    have := M.it i m Ld[i] (by rw [List.getElem?_eq_getElem hi, e]) (List.getElem?_eq_getElem (by omega))
    rw [M.o] at this
    cases this
theorem MillAt.has {μ : Sto} {m pl : Addr} {ls : List Ln} {fs : List (List Frm)} {n : Nat} {qs : List Addr} {Ld : List (List Int)} (M : MillAt μ m pl ls fs n qs Ld) {q : Addr} (hq : q ∈ qs) : μ q ≠ none := fun z => by
  obtain ⟨i, hi, e⟩ := List.mem_iff_getElem.mp hq
  have hl := M.len
  have := M.it i q Ld[i] (by rw [List.getElem?_eq_getElem hi, e]) (List.getElem?_eq_getElem (by omega))
  rw [z] at this
  cases this
theorem MillAt.other {μ : Sto} {m pl p : Addr} {ls : List Ln} {fs : List (List Frm)} {n : Nat} {qs : List Addr} {Ld : List (List Int)} {o : Ob} (M : MillAt μ m pl ls fs n qs Ld) (h1 : p ≠ m) (h2 : p ≠ pl) (h3 : p ∉ qs) : MillAt (μ.set p o) m pl ls fs n qs Ld :=
  ⟨⟨M.len, M.nd, fun i q x a b => by rw [set_ne (nem (List.mem_of_getElem? a) h3)]; exact M.it i q x a b⟩, by rw [set_ne h1.symm]; exact M.o, by rw [set_ne h2.symm]; exact M.l, M.ll, M.np⟩
theorem MillAt.ext {μ : Sto} {m pl : Addr} {ls : List Ln} {fs : List (List Frm)} {n : Nat} {qs : List Addr} {Ld : List (List Int)} (M : MillAt μ m pl ls fs n qs Ld) {i : Nat} {q : Addr} {y : List Int} (e : qs[i]? = some q) : MillAt (μ.set q (.lst (y.map T.int))) m pl ls fs n qs (Ld.set i y) := by
  have hqm := List.mem_of_getElem? e
  have hne := M.ml_ne
  have hl := M.len
  have hi := (List.getElem?_eq_some_iff.mp e).1
  refine ⟨⟨by rw [List.length_set]; exact M.len, M.nd, fun j r x a b => ?_⟩, by rw [set_ne (nem hqm hne.2).symm]; exact M.o, by rw [set_ne (nem hqm M.np).symm]; exact M.l, by rw [List.length_set]; exact M.ll, M.np⟩
  by_cases h : i = j
  · subst h
    rw [e] at a
    cases a
    rw [List.getElem?_set_self (by omega)] at b
    cases b
    exact set_self
  · rw [List.getElem?_set_ne h] at b
    have : r ≠ q := fun z => by
      subst z
      have h1 := (List.getElem?_eq_some_iff.mp a).1
      have e1 := (List.getElem?_eq_some_iff.mp a).2
      have e2 := (List.getElem?_eq_some_iff.mp e).2
      exact h ((List.getElem_inj M.nd).mp (e2.trans e1.symm))
    rw [set_ne this]
    exact M.it j r x a b
theorem MillAt.repl {μ : Sto} {m pl : Addr} {ls : List Ln} {fs : List (List Frm)} {n : Nat} {qs : List Addr} {Ld : List (List Int)} (M : MillAt μ m pl ls fs n qs Ld) {i : Nat} {q : Addr} {y : List Int} (hi : i < qs.length) (hq : μ q = none) : MillAt ((μ.set q (.lst (y.map T.int))).set pl (.lst ((qs.map T.own).set i (.own q)))) m pl ls fs n (qs.set i q) (Ld.set i y) := by
  have hne := M.ml_ne
  have hl := M.len
  have hqn : q ∉ qs := fun z => M.has z hq
  have hqm : q ≠ m := (nofr M.o hq).symm
  have hqp : q ≠ pl := (nofr M.l hq).symm
  have mem : ∀ {r : Addr} {j : Nat}, (qs.set i q)[j]? = some r → (j = i ∧ r = q) ∨ (j ≠ i ∧ qs[j]? = some r) := fun {r j} a => by
    by_cases h : i = j
    · subst h
      rw [List.getElem?_set_self hi] at a
      exact .inl ⟨rfl, (Option.some.inj a).symm⟩
    · rw [List.getElem?_set_ne h] at a
      exact .inr ⟨fun z => h z.symm, a⟩
  refine ⟨⟨by rw [List.length_set, List.length_set]; exact M.len, ?_, fun j r x a b => ?_⟩, by rw [set_ne hne.1, set_ne hqm.symm]; exact M.o, by rw [set_self, List.map_set], by rw [List.length_set]; exact M.ll, fun z => ?_⟩
  · refine List.pairwise_iff_getElem.mpr fun a b ha hb hab e => ?_
    rw [List.length_set] at ha hb
    rcases mem (List.getElem?_eq_getElem (by rw [List.length_set]; exact ha)) with ⟨e1, e2⟩ | ⟨e1, e2⟩ <;> rcases mem (List.getElem?_eq_getElem (by rw [List.length_set]; exact hb)) with ⟨e3, e4⟩ | ⟨e3, e4⟩
    · omega
    · rw [← e, e2] at e4
      exact hqn (List.mem_of_getElem? e4)
    · rw [e, e4] at e2
      exact hqn (List.mem_of_getElem? e2)
    · rw [e] at e2
      have h1 := (List.getElem?_eq_some_iff.mp e2).2
      have h2 := (List.getElem?_eq_some_iff.mp e4).2
      have := (List.getElem_inj M.nd).mp (h1.trans h2.symm)
      omega
  · rcases mem a with ⟨rfl, rfl⟩ | ⟨h1, h2⟩
    · rw [List.getElem?_set_self (by omega)] at b
      cases b
      rw [set_ne hqp, set_self]
    · rw [List.getElem?_set_ne (fun z => h1 z.symm)] at b
      have hr := List.mem_of_getElem? h2
      rw [set_ne (nem hr M.np), set_ne (nem hr hqn)]
      exact M.it j r x h2 b
  · obtain ⟨j, hj, e⟩ := List.mem_iff_getElem.mp z
    rcases mem (List.getElem?_eq_getElem hj) with ⟨_, e2⟩ | ⟨_, e2⟩
    · rw [e] at e2
      exact hqp e2.symm
    · rw [e] at e2
      exact M.np (List.mem_of_getElem? e2)
def S_Mill_turn : TSp := fun ts μ F R => ∃ (m pl : Addr) (ls : List Ln) (fs : List (List Frm)) (n : Nat) (qs : List Addr) (Ld : List (List Int)) (w : Int) (B : Nat), ts = [.own m, .int w] ∧ MillAt μ m pl ls fs n qs Ld ∧ MB ls fs n Ld B ∧
  (¬ (0 ≤ w ∧ w < n) → F 10 μ) ∧ (0 ≤ w ∧ w < n → ¬ MReady ls Ld w → F 0 μ) ∧ (0 ≤ w ∧ w < n → MReady ls Ld w → ∀ μ' qs', MillAt μ' m pl ls fs n qs' (turnM ls fs Ld w) → (∀ a o, a ≠ pl → a ∉ qs → μ a = some o → μ' a = some o) → (∀ q ∈ qs', q ∈ qs ∨ μ q = none) → R .non μ')
structure A_Mill_turn (G : Tab) (Γ : Nat → TSp) : Prop where
  f_form_value : G.fn n_form_value = some i_form_value
  g_form_value : Γ n_form_value = S_form_value
abbrev B_Mill_turn (G : Tab) (Γ : Nat → TSp) : Prop := ∀ ts μ F R, S_Mill_turn ts μ F R → denSs G Γ c_Mill_turn (bodyD R F) (startT N_Mill_turn.length ts) μ
theorem body_Mill_turn {G : Tab} {Γ : Nat → TSp} (A : A_Mill_turn G Γ) : B_Mill_turn G Γ := by
  rintro ts μ F R ⟨m, pl, ls, fs, n, qs, Ld, w, B, rfl, M, hB, hF1, hF2, hR⟩
  unfold c_Mill_turn
  simp only [Rh.startT, List.length_cons, List.length_nil, List.map_cons, List.map_nil, List.replicate, List.cons_append, List.nil_append, Nat.reduceAdd, Nat.reduceSub, N_Mill_turn]
  have ho := M.o
  unfold ml at ho
  have hfn := hB.f.1
  have hz := hB.z
  have hll := M.ll
  have hql := M.len
  apply e_cons; apply e_ife; simp_arith [A.f_form_value, A.g_form_value, S_form_value, i_form_value, ho]; repeat ((with_reducible refine And.intro ?_ ?_); omega)
  by_cases hw0 : 0 ≤ w
  case neg =>
    rw [if_neg hw0]
    exact hF1 fun z => hw0 z.1
  rw [if_pos hw0]
  by_cases hw1 : w < (fs.length : Int)
  case neg =>
    rw [if_pos hw1]
    apply e_cons; simp only [denS]; (try simp_arith [A.f_form_value, A.g_form_value, S_form_value, i_form_value]); repeat ((with_reducible refine And.intro ?_ ?_); omega)
    exact hF1 fun z => hw1 (by omega)
  rw [if_neg (fun z => z hw1)]
  obtain ⟨k, rfl⟩ := Int.eq_ofNat_of_zero_le hw0
  have hkn : k < n := by omega
  have hF2 := hF2 ⟨hw0, by omega⟩
  have hR := hR ⟨hw0, by omega⟩
  clear hF1
  have aI : atI (intoL ls n) (k : Int) = some (.lst ((spots (fun l => decide (Ln.t l = (k : Int))) ls).map T.int)) := at_map hw0 (List.getElem?_range hkn)
  have aO : atI (outL ls n) (k : Int) = some (.lst ((spots (fun l => decide (Ln.g l = (k : Int))) ls).map T.int)) := at_map hw0 (List.getElem?_range hkn)
  obtain ⟨some_, esm⟩ : ∃ s, fs[k]? = some s := ⟨_, List.getElem?_eq_getElem (by omega)⟩
  have aF : atI (fs.map fsT) (k : Int) = some (fsT some_) := at_map hw0 esm
  have spA : ∀ {p : Ln → Bool} {b : Int}, b ∈ spots p ls → ∃ (j : Nat) (l : Ln) (q : Addr) (x : List Int), b = j ∧ ls[j]? = some l ∧ p l = true ∧ qs[j]? = some q ∧ Ld[j]? = some x ∧ atI (ls.map Ln.tr) b = some l.tr := fun {p b} hb => by
    obtain ⟨l, b0, el, pl⟩ := spots_at hb
    obtain ⟨j, rfl⟩ := Int.eq_ofNat_of_zero_le b0
    rw [Int.toNat_natCast] at el
    have hj := (List.getElem?_eq_some_iff.mp el).1
    exact ⟨j, l, qs[j]'(by omega), Ld[j]'(by omega), rfl, el, pl, List.getElem?_eq_getElem (by omega), List.getElem?_eq_getElem (by omega), at_map b0 el⟩
  apply e_cons; simp only [denS]; (try simp_arith [A.f_form_value, A.g_form_value, S_form_value, i_form_value, ho, aI]); repeat ((with_reducible refine And.intro ?_ ?_); omega)
  refine onG_at .lst fun gd hgd => ?_
  refine for_map (fun j ρ μ' => (∃ o2, ρ = [some (.own m), some (.int k), o2, none, none, none, none, none, none]) ∧ μ' = μ ∧ ∀ b ∈ (spots (fun l => decide (Ln.t l = (k : Int))) ls).take j, ∀ l x, ls[b.toNat]? = some l → Ld[b.toNat]? = some x → Ln.ta l ≤ (x.length : Int)) ⟨⟨_, rfl⟩, rfl, fun b hb => by simp at hb⟩ ?_ ?_
  case refine_2 =>
    rintro j b ρ μ' hj ⟨⟨o2, rfl⟩, rfl, ha⟩
    refine ⟨hgd _ .lst, ?_⟩
    obtain ⟨i, l, q, x, rfl, el, pl2, eq, ex, b1⟩ := spA (List.mem_of_getElem? hj)
    have hlt : l.t = (k : Int) := of_decide_eq_true pl2
    have b2 := at_map (f := T.own) (show (0 : Int) ≤ (i : Int) by omega) eq
    have hq := M.it i q x eq ex
    have hl := M.l
    simp_arith [A.f_form_value, A.g_form_value, S_form_value, i_form_value]
    apply e_cons; apply e_ife; simp_arith [A.f_form_value, A.g_form_value, S_form_value, i_form_value, ho, hl, b1, b2, Ln.tr, hq]; repeat ((with_reducible refine And.intro ?_ ?_); omega)
    by_cases hc : (x.length : Int) < l.ta
    · rw [if_pos hc]
      apply e_cons; simp only [denS]; (try simp_arith [A.f_form_value, A.g_form_value, S_form_value, i_form_value]); repeat ((with_reducible refine And.intro ?_ ?_); omega)
      refine hF2 fun z => ?_
      have := z i l x el ex hlt
      omega
    · rw [if_neg hc]
      refine ⟨_, _, .refl _ _, ⟨_, rfl⟩, rfl, fun b hb l' x' el' ex' => ?_⟩
      rw [List.take_add_one, hj] at hb
      rcases List.mem_append.mp hb with z | z
      · exact ha b z l' x' el' ex'
      · have : b = (i : Int) := by simpa using z
        subst this
        rw [Int.toNat_natCast] at el' ex'
        rw [el] at el'
        cases el'
        rw [ex] at ex'
        cases ex'
        omega
  rintro ρ μ' ⟨⟨o2, rfl⟩, rfl, ha⟩
  refine ⟨hgd _ .lst, ?_⟩
  rw [List.take_length] at ha
  have hrd : MReady ls Ld k := fun i l x el ex hlt => by
    have := ha (i : Int) (spots_mem.mpr ⟨i, rfl, l, el, decide_eq_true hlt⟩) l x (by rw [Int.toNat_natCast]; exact el) (by rw [Int.toNat_natCast]; exact ex)
    exact this
  have hR := hR hrd
  clear hF2 ha hgd gd
  have sN := spots_nodup (p := fun l : Ln => decide (Ln.t l = (k : Int))) (ls := ls)
  have sL := spots_len (p := fun l : Ln => decide (Ln.t l = (k : Int))) (ls := ls)
  have sM := @spots_mem (fun l : Ln => decide (Ln.t l = (k : Int))) ls
  have hsl : slotsM ls k Ld = (spots (fun l : Ln => decide (Ln.t l = (k : Int))) ls).flatMap (slot1 ls Ld) := rfl
  have spT := fun {b : Int} (h : b ∈ spots (fun l : Ln => decide (Ln.t l = (k : Int))) ls) => spA h
  have hneed : needW ls k = ((spots (fun l : Ln => decide (Ln.t l = (k : Int))) ls).map fun i => ((ls[i.toNat]?).map Ln.ta).getD 0).sum := by
    rw [spots_map]
    rfl
  generalize spots (fun l : Ln => decide (Ln.t l = (k : Int))) ls = sp at sN sL sM hsl spT aI hneed
  apply e_cons; simp only [denS]; (try simp_arith [A.f_form_value, A.g_form_value, S_form_value, i_form_value]); repeat ((with_reducible refine And.intro ?_ ?_); omega)
  intro p hp
  have hpm : p ≠ m := (nofr M.o hp).symm
  have hpl : p ≠ pl := (nofr M.l hp).symm
  have hpq : p ∉ qs := fun z => M.has z hp
  have M0 := M.other (o := .lst []) hpm hpl hpq
  have ho1 := M0.o
  unfold ml at ho1
  apply e_cons; simp only [denS]; (try simp_arith [A.f_form_value, A.g_form_value, S_form_value, i_form_value, ho1, aI]); repeat ((with_reducible refine And.intro ?_ ?_); omega)
  refine onG_at .lst fun gd hgd => ?_
  refine for_map (fun j ρ μ2 => ∃ (qs2 : List Addr) (Ld2 : List (List Int)), (∃ o2 o4, ρ = [some (.own m), some (.int k), o2, some (.own p), o4, none, none, none, none]) ∧ MillAt μ2 m pl ls fs n qs2 Ld2 ∧ μ2 p = some (.lst (((sp.take j).flatMap (slot1 ls Ld)).map T.int)) ∧ p ∉ qs2 ∧ (∀ a o, a ≠ pl → a ∉ qs → μ' a = some o → μ2 a = some o) ∧ (∀ q ∈ qs2, q ∈ qs ∨ μ' q = none) ∧ ∀ i : Nat, Ld2[i]? = (Ld[i]?).map fun x => if (i : Int) ∈ sp.take j then takeAt ls k i x else x) ⟨qs, Ld, ⟨_, _, rfl⟩, M0, set_self, hpq, fun a o _ _ e => by rw [set_ne (nofr e hp)]; exact e, fun q hq => .inl hq, fun i => by cases Ld[i]? <;> simp⟩ ?_ ?_
  case refine_2 =>
    rintro j b ρ μ2 hj ⟨qs2, Ld2, ⟨o2, o4, rfl⟩, M2, hp2, hpq2, fr1, fr2, hLd⟩
    refine ⟨hgd _ .lst, ?_⟩
    have hbm := List.mem_of_getElem? hj
    have hnot := nodup_at sN hj
    obtain ⟨i, l, q0, x, rfl, el, pl2, eq0, ex, b1⟩ := spT hbm
    have hlt : l.t = (k : Int) := of_decide_eq_true pl2
    have hi := (List.getElem?_eq_some_iff.mp el).1
    have ex2 : Ld2[i]? = some x := by rw [hLd i, ex]; simp [hnot]
    have hql2 := M2.len
    have hll2 := M2.ll
    obtain ⟨q, eq⟩ : ∃ q, qs2[i]? = some q := ⟨_, List.getElem?_eq_getElem (by omega)⟩
    have b2 := at_map (f := T.own) (show (0 : Int) ≤ (i : Int) by omega) eq
    have hq := M2.it i q x eq ex2
    have hl := M2.l
    have ho2 := M2.o
    unfold ml at ho2
    have hrx := hrd i l x el ex hlt
    have hta := (hB.p l (List.mem_of_getElem? el)).2
    have hxl := (hB.lx x (List.mem_of_getElem? ex)).1
    simp_arith [A.f_form_value, A.g_form_value, S_form_value, i_form_value]
    apply e_cons; simp only [denS]; (try simp_arith [A.f_form_value, A.g_form_value, S_form_value, i_form_value, ho2, hl, b1, Ln.tr]); repeat ((with_reducible refine And.intro ?_ ?_); omega)
    have s1 : ∀ R : RP, tSlice false (.own q) none (some l.ta) μ2 R = R (.lst ((x.take l.ta.toNat).map T.int)) μ2 := fun R => by
      rw [slc_at (.own hq), cut_to (by omega) (by rw [List.length_map]; omega), List.map_take]
      rfl
    have hsl2 : ((sp.take j).flatMap (slot1 ls Ld)).length ≤ 10000 * (sp.take j).length := flat_len _ fun b hb => by
      obtain ⟨i2, l2, _, x2, rfl, el2, _, _, ex2, _⟩ := spT (List.mem_of_mem_take hb)
      have := (hB.gb l2 (List.mem_of_getElem? el2)).2
      unfold slot1
      rw [Int.toNat_natCast, el2, ex2]
      show (x2.take l2.ta.toNat).length ≤ 10000
      rw [List.length_take]
      omega
    have hjl := (List.getElem?_eq_some_iff.mp hj).1
    rw [List.length_take] at hsl2
    have hta2 := (hB.gb l (List.mem_of_getElem? el)).2
    apply e_cons; simp only [denS]; (try simp_arith [A.f_form_value, A.g_form_value, S_form_value, i_form_value, ho2, hl, b2, s1, hp2]); repeat ((with_reducible refine And.intro ?_ ?_); omega)
    refine ⟨by rw [List.length_take]; omega, ?_⟩
    have hpm2 : p ≠ m := hpm
    have M3 := M2.other (o := .lst (((sp.take j).flatMap (slot1 ls Ld)).map T.int ++ (x.take l.ta.toNat).map T.int)) hpm hpl hpq2
    have hq3 := M3.it i q x eq ex2
    have hl3 := M3.l
    have ho3 := M3.o
    unfold ml at ho3
    have fr3 : ∀ a o, a ≠ pl → a ∉ qs → μ' a = some o → (μ2.set p (.lst (((sp.take j).flatMap (slot1 ls Ld)).map T.int ++ (x.take l.ta.toNat).map T.int))) a = some o := fun a o h1 h2 h3 => by
      rw [set_ne (nofr h3 hp)]
      exact fr1 a o h1 h2 h3
    have hp3 : (μ2.set p (.lst (((sp.take j).flatMap (slot1 ls Ld)).map T.int ++ (x.take l.ta.toNat).map T.int))) p = some (.lst (((sp.take (j + 1)).flatMap (slot1 ls Ld)).map T.int)) := by
      rw [set_self, List.take_add_one, hj, List.flatMap_append, List.map_append]
      have : slot1 ls Ld (i : Int) = x.take l.ta.toNat := by
        unfold slot1
        rw [Int.toNat_natCast, el, ex]
        rfl
      simp [this]
    have hnone : ∀ a, (μ2.set p (.lst (((sp.take j).flatMap (slot1 ls Ld)).map T.int ++ (x.take l.ta.toNat).map T.int))) a = none → μ2 a = none ∧ a ≠ p := fun a h => by
      have : a ≠ p := fun z => by subst z; rw [set_self] at h; cases h
      exact ⟨by rwa [set_ne this] at h, this⟩
    generalize μ2.set p (.lst (((sp.take j).flatMap (slot1 ls Ld)).map T.int ++ (x.take l.ta.toNat).map T.int)) = μ3 at M3 hq3 hl3 ho3 fr3 hp3 hnone ⊢
    have s2 : ∀ R : RP, tSlice true (.own q) (some l.ta) none μ3 R = newL true ((x.drop l.ta.toNat).map T.int) μ3 R := fun R => by
      rw [slc_at (.own hq3), cut_from (by omega) (by rw [List.length_map]; omega), List.map_drop]
    apply e_cons; simp only [denS]; (try simp_arith [A.f_form_value, A.g_form_value, S_form_value, i_form_value, ho3, hl3, b2, s2]); repeat ((with_reducible refine And.intro ?_ ?_); omega)
    intro q2 hq2
    have hq2μ := hnone q2 hq2
    have ho4 : (μ3.set q2 (.lst ((x.drop l.ta.toNat).map T.int))) m = some (.obj 5 [.lst (fs.map fsT), .lst (ls.map Ln.tr), .lst (intoL ls n), .lst (outL ls n), .own pl]) := by rw [set_ne (nofr ho3 hq2)]; exact ho3
    have hl4 : (μ3.set q2 (.lst ((x.drop l.ta.toNat).map T.int))) pl = some (.lst (qs2.map T.own)) := by rw [set_ne (nofr hl3 hq2)]; exact hl3
    have M4 := M3.repl (y := x.drop l.ta.toNat) (i := i) (by omega) hq2
    simp_arith [A.f_form_value, A.g_form_value, S_form_value, i_form_value, ho4, hl4, own_dict hl4]
    refine ⟨i, (ixN_nn (by omega) (by omega)).trans (by rw [Int.toNat_natCast]), _, _, .refl _ _, ⟨_, _, rfl⟩, qs2.set i q2, Ld2.set i (x.drop l.ta.toNat), M4, ?_, ?_, ?_, ?_, fun i' => ?_⟩
    · rw [set_ne hpl, set_ne hq2μ.2.symm]
      exact hp3
    · intro z
      rcases List.mem_or_eq_of_mem_set z with z | z
      · exact hpq2 z
      · exact hq2μ.2 z.symm
    · intro a o h1 h2 h3
      have h4 := fr3 a o h1 h2 h3
      rw [set_ne h1, set_ne (nofr h4 hq2)]
      exact h4
    · intro r hr
      rcases List.mem_or_eq_of_mem_set hr with z | z
      · exact fr2 r z
      · subst z
        by_cases h1 : r ∈ qs
        · exact .inl h1
        · right
          cases e : μ' r with
          | none => rfl
          | some o =>
            have := fr3 r o (nofr hl3 hq2).symm h1 e
            rw [hq2] at this
            cases this
    · rw [List.take_add_one, hj]
      by_cases h : i = i'
      · subst h
        rw [List.getElem?_set_self (by omega), ex]
        simp [takeAt, el, hlt]
      · rw [List.getElem?_set_ne h, hLd i']
        have : ((i' : Int) ∈ sp.take j ++ (some (i : Int)).toList) ↔ (i' : Int) ∈ sp.take j := by
          rw [List.mem_append]
          refine ⟨fun z => z.resolve_right fun y => ?_, .inl⟩
          simp at y
          omega
        simp only [this]
  rintro ρ μ2 ⟨qs2, Ld2, ⟨o2, o4, rfl⟩, M2, hp2, hpq2, fr1, fr2, hLd⟩
  refine ⟨hgd _ .lst, ?_⟩
  rw [List.take_length] at hp2 hLd
  have eT : Ld2 = takeM ls k Ld := by
    refine List.ext_getElem? fun i => ?_
    rw [hLd i]
    unfold takeM
    rw [List.getElem?_mapIdx]
    cases ex : Ld[i]? with
    | none => rfl
    | some x =>
      have hi := (List.getElem?_eq_some_iff.mp ex).1
      have el : ls[i]? = some (ls[i]'(by omega)) := List.getElem?_eq_getElem (by omega)
      show some (if (i : Int) ∈ sp then takeAt ls k i x else x) = some (takeAt ls k i x)
      split
      · rfl
      · rename_i hn
        have : ¬ (ls[i]'(by omega)).t = (k : Int) := fun z => hn (sM.mpr ⟨i, rfl, _, el, decide_eq_true z⟩)
        unfold takeAt
        rw [el]
        dsimp only
        rw [if_neg this]
  subst eT
  rw [← hsl] at hp2
  clear hLd hgd gd
  have hnw : ((slotsM ls k Ld).length : Int) = needW ls k := by
    rw [hsl, hneed]
    refine flat_sum _ fun b hb => ?_
    obtain ⟨i2, l2, _, x2, rfl, el2, p2, _, ex2, _⟩ := spT hb
    have h1 := hrd i2 l2 x2 el2 ex2 (of_decide_eq_true p2)
    have h2 := (hB.p l2 (List.mem_of_getElem? el2)).2
    unfold slot1
    rw [Int.toNat_natCast, el2, ex2]
    show ((x2.take l2.ta.toNat).length : Int) = l2.ta
    rw [List.length_take]
    omega
  have hSB : ∀ v ∈ slotsM ls k Ld, Bt B v := fun v hv => by
    rw [hsl] at hv
    obtain ⟨b, hb, hv⟩ := List.mem_flatMap.mp hv
    obtain ⟨i2, l2, _, x2, rfl, el2, p2, _, ex2, _⟩ := spT hb
    unfold slot1 at hv
    rw [Int.toNat_natCast, el2, ex2] at hv
    exact (hB.lx x2 (List.mem_of_getElem? ex2)).2 v (List.mem_of_mem_take hv)
  generalize hSL : slotsM ls k Ld = SL at hp2 hnw hSB hsl
  have ho2 := M2.o
  unfold ml at ho2
  have hWf := hB.f.2 k some_ esm
  obtain ⟨hsl1, hsl2⟩ := hB.fl some_ (List.mem_of_getElem? esm)
  have hb8 := hB.b
  apply e_cons; simp only [denS]; (try simp_arith [A.f_form_value, A.g_form_value, S_form_value, i_form_value, ho2, aF]); repeat ((with_reducible refine And.intro ?_ ?_); omega)
  refine ⟨some_.map frT, rfl, ?_⟩
  refine comp_pure (fun _ => true) (fun t => .int (fval (frOf t) SL)) trivial (by rw [List.length_map, sz]; omega) ?_ ?_
  · intro u hu Y N hY _
    obtain ⟨f, hf, rfl⟩ := List.mem_map.mp hu
    have hY := hY rfl
    rw [frOf_T] at hY
    obtain ⟨f1, f2, f3⟩ := hsl2 f hf
    simp only [wipeT]
    simp_arith [A.f_form_value, A.g_form_value, S_form_value, i_form_value]
    refine ⟨f, rfl, SL, .own hp2, fun q hq => ?_, B, hSB, by omega, f1, hY⟩
    have := hWf.2 f hf q hq
    exact ⟨this.1, by omega, f3 q hq⟩
  have eM : (((some_.map frT).filter (fun _ => true)).map fun t => T.int (fval (frOf t) SL)) = (madeM fs k SL).map T.int := by
    rw [List.filter_eq_self.mpr (fun _ _ => rfl), List.map_map]
    unfold madeM
    rw [Int.toNat_natCast, esm, List.map_map]
    refine List.map_congr_left fun f _ => ?_
    show T.int (fval (frOf (frT f)) SL) = _
    rw [frOf_T]
    rfl
  rw [eM]
  simp only [newL]
  have hmlen : ((madeM fs k SL).length : Int) = giveW ls k := by
    rw [← hWf.1]
    unfold madeM
    rw [Int.toNat_natCast, esm, List.length_map]
    rfl
  clear hSB
  have oN := spots_nodup (p := fun l : Ln => decide (Ln.g l = (k : Int))) (ls := ls)
  have oM := @spots_mem (fun l : Ln => decide (Ln.g l = (k : Int))) ls
  have oU := fun (j : Nat) (b : Int) => @giveU_at ls (k : Int) j b
  have oT := fun {b : Int} (h : b ∈ spots (fun l : Ln => decide (Ln.g l = (k : Int))) ls) => spA h
  generalize hmd : madeM fs k SL = made at hmlen
  generalize spots (fun l : Ln => decide (Ln.g l = (k : Int))) ls = so at oN oM oU oT aO
  generalize hgA : (fun i : Int => ((ls[i.toNat]?).map Ln.gi).getD 0) = gA at oU
  have tlen : (takeM ls k Ld).length = Ld.length := by unfold takeM; rw [List.length_mapIdx]
  apply e_cons; simp only [denS]; (try simp_arith [A.f_form_value, A.g_form_value, S_form_value, i_form_value]); repeat ((with_reducible refine And.intro ?_ ?_); omega)
  apply e_cons; simp only [denS]; (try simp_arith [A.f_form_value, A.g_form_value, S_form_value, i_form_value, ho2, aO]); repeat ((with_reducible refine And.intro ?_ ?_); omega)
  refine onG_at .lst fun gd hgd => ?_
  refine for_map (fun j ρ μ3 => ∃ (Ld3 : List (List Int)), (∃ o2 o4 o8, ρ = [some (.own m), some (.int k), o2, some (.own p), o4, some (.lst (made.map T.int)), none, some (.int ((so.take j).map gA).sum), o8]) ∧ MillAt μ3 m pl ls fs n qs2 Ld3 ∧ (∀ a o, a ≠ pl → a ∉ qs → μ' a = some o → μ3 a = some o) ∧ ∀ i : Nat, Ld3[i]? = ((takeM ls k Ld)[i]?).map fun x => if (i : Int) ∈ so.take j then putAt ls k made i x else x) ⟨takeM ls k Ld, ⟨o2, o4, none, by simp⟩, M2, fr1, fun i => by cases (takeM ls k Ld)[i]? <;> simp⟩ ?_ ?_
  · rintro ρ μ3 ⟨Ld3, ⟨o2, o4, o8, rfl⟩, M3, fr3, hLd⟩
    refine ⟨hgd _ .lst, ?_⟩
    rw [List.take_length] at hLd
    have eT : Ld3 = turnM ls fs Ld k := by
      refine List.ext_getElem? fun i => ?_
      rw [hLd i]
      unfold turnM putM
      rw [List.getElem?_mapIdx, hSL, hmd]
      cases ex : (takeM ls k Ld)[i]? with
      | none => rfl
      | some x =>
        have hi := (List.getElem?_eq_some_iff.mp ex).1
        have el : ls[i]? = some (ls[i]'(by omega)) := List.getElem?_eq_getElem (by omega)
        show some (if (i : Int) ∈ so then putAt ls k made i x else x) = some (putAt ls k made i x)
        split
        · rfl
        · rename_i hn
          have : ¬ (ls[i]'(by omega)).g = (k : Int) := fun z => hn (oM.mpr ⟨i, rfl, _, el, decide_eq_true z⟩)
          unfold putAt
          rw [el]
          dsimp only
          rw [if_neg this]
    subst eT
    exact fin_id (hR μ3 qs2 M3 fr3 fr2)
  rintro j b ρ μ3 hj ⟨Ld3, ⟨o2, o4, o8, rfl⟩, M3, fr3, hLd⟩
  refine ⟨hgd _ .lst, ?_⟩
  have hbm := List.mem_of_getElem? hj
  have hnot := nodup_at oN hj
  have hU := oU j b hj
  obtain ⟨i, l, _, _, rfl, el, pl2, _, _, b1⟩ := oT hbm
  have hlg : l.g = (k : Int) := of_decide_eq_true pl2
  have hi := (List.getElem?_eq_some_iff.mp el).1
  obtain ⟨x, ex⟩ : ∃ x, (takeM ls k Ld)[i]? = some x := ⟨_, List.getElem?_eq_getElem (by omega)⟩
  have ex3 : Ld3[i]? = some x := by rw [hLd i, ex]; simp [hnot]
  have hql3 := M3.len
  have hll3 := M3.ll
  obtain ⟨q, eq⟩ : ∃ q, qs2[i]? = some q := ⟨_, List.getElem?_eq_getElem (by omega)⟩
  have b2 := at_map (f := T.own) (show (0 : Int) ≤ (i : Int) by omega) eq
  have hq := M3.it i q x eq ex3
  have hl := M3.l
  have ho3 := M3.o
  unfold ml at ho3
  have hgi := (hB.p l (List.mem_of_getElem? el)).1
  have hgb := (hB.gb l (List.mem_of_getElem? el)).1
  rw [Int.toNat_natCast] at hU
  have hU0 : 0 ≤ giveU ls k i := sum_nnI _ fun v hv => by
    obtain ⟨l2, hl2, rfl⟩ := List.mem_map.mp hv
    have := (hB.p l2 (List.mem_of_mem_take (List.mem_filter.mp hl2).1)).1
    omega
  have hxl : x.length ≤ 10000000 := by
    unfold takeM at ex
    rw [List.getElem?_mapIdx] at ex
    obtain ⟨x0, ex0⟩ : ∃ x0, Ld[i]? = some x0 := ⟨_, List.getElem?_eq_getElem (by omega)⟩
    rw [ex0] at ex
    have hx0 := (hB.lx x0 (List.mem_of_getElem? ex0)).1
    have : x = takeAt ls k i x0 := (Option.some.inj ex).symm
    rw [this]
    unfold takeAt
    split
    · split
      · rw [List.length_drop]
        omega
      · exact hx0
    · exact hx0
  rw [← hU]
  have s1 : ∀ (μ : Sto) (R : RP), tSlice false (.lst (made.map T.int)) (some (giveU ls k i)) (some (giveU ls k i + l.gi)) μ R = R (.lst (((made.drop (giveU ls k i).toNat).take l.gi.toNat).map T.int)) μ := fun μ R => by
    rw [slc_at .lst, cut_btw hU0 (by omega), ← List.map_drop, ← List.map_take]
    rfl
  simp_arith [A.f_form_value, A.g_form_value, S_form_value, i_form_value]
  apply e_cons; simp only [denS]; (try simp_arith [A.f_form_value, A.g_form_value, S_form_value, i_form_value, ho3, hl, b1, b2, Ln.tr]); repeat ((with_reducible refine And.intro ?_ ?_); omega)
  apply e_cons; simp only [denS]; (try simp_arith [A.f_form_value, A.g_form_value, S_form_value, i_form_value, ho3, hl, b1, b2, s1, hq]); repeat ((with_reducible refine And.intro ?_ ?_); omega)
  refine ⟨by rw [List.length_take]; omega, ?_⟩
  apply e_cons; simp only [denS]; (try simp_arith [A.f_form_value, A.g_form_value, S_form_value, i_form_value]); repeat ((with_reducible refine And.intro ?_ ?_); omega)
  have M4 := M3.ext (y := x ++ (made.drop (giveU ls k i).toNat).take l.gi.toNat) eq
  rw [List.map_append] at M4
  refine ⟨_, _, .refl _ _, ⟨some (.int i), o4, some (.int l.gi), by
    rw [List.take_add_one, hj, List.map_append, List.sum_append, ← hU, ← hgA]
    simp [el]⟩, _, M4, fun a o h1 h2 h3 => ?_, fun i' => ?_⟩
  · have hqm := List.mem_of_getElem? eq
    have : a ≠ q := fun z => by
      subst z
      rcases fr2 a hqm with y | y
      · exact h2 y
      · rw [h3] at y
        cases y
    rw [set_ne this]
    exact fr3 a o h1 h2 h3
  · rw [List.take_add_one, hj]
    by_cases h : i = i'
    · subst h
      rw [List.getElem?_set_self (by omega), ex]
      simp [putAt, el, hlg]
    · rw [List.getElem?_set_ne h, hLd i']
      have : ((i' : Int) ∈ so.take j ++ (some (i : Int)).toList) ↔ (i' : Int) ∈ so.take j := by
        rw [List.mem_append]
        refine ⟨fun z => z.resolve_right fun y => ?_, .inl⟩
        simp at y
        omega
      simp only [this]
theorem goM_snoc {ls : List Ln} {fs : List (List Frm)} {w : Int} : ∀ (row : List Int) (Ld : List (List Int)), goM ls fs Ld (row ++ [w]) = turnM ls fs (goM ls fs Ld row) w
  | [], _ => rfl
  | v :: r, Ld => goM_snoc r (turnM ls fs Ld v)
/-- what a list of one's own holds -/
def rest (μ : Sto) (t : T) : T := match t with | .own q => (match μ q with | some (.lst us) => .lst us | _ => t) | t => t
theorem rest_own {μ : Sto} {q : Addr} {us : List T} (h : μ q = some (.lst us)) : rest μ (.own q) = .lst us := by
  simp only [rest, h]
theorem MillAt.rests {μ : Sto} {m pl : Addr} {ls : List Ln} {fs : List (List Frm)} {n : Nat} {qs : List Addr} {Ld : List (List Int)} (M : MillAt μ m pl ls fs n qs Ld) : (qs.map T.own).map (rest μ) = Ld.map fun x => .lst (x.map T.int) := by
  have hl := M.len
  refine List.ext_getElem? fun i => ?_
  rw [List.getElem?_map, List.getElem?_map, List.getElem?_map]
  by_cases h : i < qs.length
  · obtain ⟨x, ex⟩ : ∃ x, Ld[i]? = some x := ⟨_, List.getElem?_eq_getElem (by omega)⟩
    have := M.it i qs[i] x (List.getElem?_eq_getElem h) ex
    rw [List.getElem?_eq_getElem h, ex]
    show some (rest μ (.own qs[i])) = _
    rw [rest_own this]
    rfl
  · rw [List.getElem?_eq_none (by omega), List.getElem?_eq_none (by omega)]
    rfl
structure MGo (ls : List Ln) (fs : List (List Frm)) (n : Nat) (B0 : Nat) (row : List Int) (Ld : List (List Int)) : Prop where
  h : ∀ k : Nat, k ≤ row.length → MB ls fs n (goM ls fs Ld (row.take k)) (B0 + 2000 * k)
  r : ∀ (k : Nat) w, row[k]? = some w → (0 ≤ w ∧ w < n) ∧ MReady ls (goM ls fs Ld (row.take k)) w
def S_Mill_go : TSp := fun ts μ F R => ∃ (m pl : Addr) (ls : List Ln) (fs : List (List Frm)) (n : Nat) (qs : List Addr) (Ld : List (List Int)) (t : T) (row : List Int) (B : Nat), ts = [.own m, t] ∧ LstAt μ t (row.map T.int) ∧ t ≠ .own pl ∧ (∀ q ∈ qs, t ≠ .own q) ∧ MillAt μ m pl ls fs n qs Ld ∧ MGo ls fs n B row Ld ∧
  ∀ μ' qs', MillAt μ' m pl ls fs n qs' (goM ls fs Ld row) → (∀ a o, a ≠ pl → a ∉ qs → μ a = some o → μ' a = some o) → (∀ q ∈ qs', q ∈ qs ∨ μ q = none) → R .non μ'
structure A_Mill_go (G : Tab) (Γ : Nat → TSp) : Prop where
  f_Mill_turn : G.fn n_Mill_turn = some i_Mill_turn
  g_Mill_turn : Γ n_Mill_turn = S_Mill_turn
  x_Empty : G.ex 0 = some ("Empty" : Str)
  x_NoForm : G.ex 3 = some ("NoForm" : Str)
  x_NoName : G.ex 5 = some ("NoName" : Str)
  x_NoPieces : G.ex 6 = some ("NoPieces" : Str)
  x_NoRate : G.ex 7 = some ("NoRate" : Str)
  x_NoWork : G.ex 10 = some ("NoWork" : Str)
  x_TooMuch : G.ex 15 = some ("TooMuch" : Str)
  x_Twice : G.ex 16 = some ("Twice" : Str)
abbrev B_Mill_go (G : Tab) (Γ : Nat → TSp) : Prop := ∀ ts μ F R, S_Mill_go ts μ F R → denSs G Γ c_Mill_go (bodyD R F) (startT N_Mill_go.length ts) μ
theorem body_Mill_go {G : Tab} {Γ : Nat → TSp} (A : A_Mill_go G Γ) : B_Mill_go G Γ := by
  rintro ts μ F R ⟨m, pl, ls, fs, n, qs, Ld, t, row, B, rfl, ht, ht1, ht2, M, hg, hR⟩
  unfold c_Mill_go
  simp only [Rh.startT, List.length_cons, List.length_nil, List.map_cons, List.map_nil, List.replicate, List.cons_append, List.nil_append, Nat.reduceAdd, Nat.reduceSub, N_Mill_go]
  have ho := M.o
  unfold ml at ho
  have hl := M.l
  apply e_cons; simp only [denS]; (try simp_arith [A.f_Mill_turn, A.g_Mill_turn, S_Mill_turn, i_Mill_turn, A.x_Empty, A.x_NoForm, A.x_NoName, A.x_NoPieces, A.x_NoRate, A.x_NoWork, A.x_TooMuch, A.x_Twice, ho]); repeat ((with_reducible refine And.intro ?_ ?_); omega)
  refine onG_at (.own hl) fun gd hgd => ?_
  have hz := (hg.h 0 (Nat.zero_le _)).z
  have hql := M.len
  have hll := M.ll
  refine comp_pure (fun _ => true) (rest μ) (hgd _ (.own hl)) (by rw [List.length_map, sz]; omega) ?_ ?_
  · intro v hv Y N hY _
    obtain ⟨q, hq, rfl⟩ := List.mem_map.mp hv
    obtain ⟨i, hi, e⟩ := List.mem_iff_getElem.mp hq
    obtain ⟨x, ex⟩ : ∃ x, Ld[i]? = some x := ⟨_, List.getElem?_eq_getElem (by omega)⟩
    have hqe := M.it i q x (by rw [List.getElem?_eq_getElem hi, e]) ex
    have hY := hY rfl
    rw [rest_own hqe] at hY
    simp only [wipeT]
    simp_arith [A.f_Mill_turn, A.g_Mill_turn, S_Mill_turn, i_Mill_turn, A.x_Empty, A.x_NoForm, A.x_NoName, A.x_NoPieces, A.x_NoRate, A.x_NoWork, A.x_TooMuch, A.x_Twice, lst_at (.own hqe)]
    exact hY
  rw [List.filter_eq_self.mpr (fun _ _ => rfl), M.rests]
  simp only [newL]
  clear hgd gd
  generalize Ld.map (fun x => T.lst (x.map T.int)) = before
  apply e_cons; simp only [denS]; (try simp_arith [A.f_Mill_turn, A.g_Mill_turn, S_Mill_turn, i_Mill_turn, A.x_Empty, A.x_NoForm, A.x_NoName, A.x_NoPieces, A.x_NoRate, A.x_NoWork, A.x_TooMuch, A.x_Twice]); repeat ((with_reducible refine And.intro ?_ ?_); omega)
  apply e_cons; simp only [denS]; (try simp_arith [A.f_Mill_turn, A.g_Mill_turn, S_Mill_turn, i_Mill_turn, A.x_Empty, A.x_NoForm, A.x_NoName, A.x_NoPieces, A.x_NoRate, A.x_NoWork, A.x_TooMuch, A.x_Twice]); repeat ((with_reducible refine And.intro ?_ ?_); omega)
  refine onG_at ht fun gd hgd => ?_
  refine for_map (fun j ρ μ2 => ∃ qs2 : List Addr, (∃ o4, ρ = [some (.own m), some t, some (.lst before), none, o4]) ∧ MillAt μ2 m pl ls fs n qs2 (goM ls fs Ld (row.take j)) ∧ (∀ a o, a ≠ pl → a ∉ qs → μ a = some o → μ2 a = some o) ∧ ∀ q ∈ qs2, q ∈ qs ∨ μ q = none) ⟨qs, ⟨_, rfl⟩, M, fun a o _ _ e => e, fun q hq => .inl hq⟩ ?_ ?_
  · rintro ρ μ2 ⟨qs2, ⟨o4, rfl⟩, M2, fr1, fr2⟩
    rw [List.take_length] at M2
    have ht3 : LstAt μ2 t (row.map T.int) := by
      rcases ht with rfl | ⟨p, rfl, e⟩
      · exact .lst
      · exact .own (fr1 p _ (fun z => ht1 (by rw [z])) (fun z => ht2 p z rfl) e)
    refine ⟨hgd _ ht3, ?_⟩
    exact fin_id (hR μ2 qs2 M2 fr1 fr2)
  rintro j w ρ μ2 hj ⟨qs2, ⟨o4, rfl⟩, M2, fr1, fr2⟩
  have ht3 : LstAt μ2 t (row.map T.int) := by
    rcases ht with rfl | ⟨p, rfl, e⟩
    · exact .lst
    · exact .own (fr1 p _ (fun z => ht1 (by rw [z])) (fun z => ht2 p z rfl) e)
  refine ⟨hgd _ ht3, ?_⟩
  have hjl := (List.getElem?_eq_some_iff.mp hj).1
  have hB := hg.h j (by omega)
  obtain ⟨hw, hr⟩ := hg.r j w hj
  have ho2 := M2.o
  unfold ml at ho2
  simp_arith [A.f_Mill_turn, A.g_Mill_turn, S_Mill_turn, i_Mill_turn, A.x_Empty, A.x_NoForm, A.x_NoName, A.x_NoPieces, A.x_NoRate, A.x_NoWork, A.x_TooMuch, A.x_Twice]
  apply e_cons; simp only [denS]; (try simp_arith [A.f_Mill_turn, A.g_Mill_turn, S_Mill_turn, i_Mill_turn, A.x_Empty, A.x_NoForm, A.x_NoName, A.x_NoPieces, A.x_NoRate, A.x_NoWork, A.x_TooMuch, A.x_Twice, ho2]); repeat ((with_reducible refine And.intro ?_ ?_); omega)
  refine ⟨pl, ls, fs, n, qs2, _, M2, _, hB, fun z => absurd hw z, fun _ z => absurd hr z, fun _ _ μ3 qs3 M3 g1 g2 => ?_⟩
  refine ⟨_, _, .refl _ _, ⟨_, rfl⟩, qs3, ?_, fun a o h1 h2 h3 => ?_, fun q hq => ?_⟩
  · rw [List.take_add_one, hj]
    show MillAt μ3 m pl ls fs n qs3 (goM ls fs Ld (row.take j ++ [w]))
    rw [goM_snoc]
    exact M3
  · refine g1 a o h1 (fun z => ?_) (fr1 a o h1 h2 h3)
    rcases fr2 a z with y | y
    · exact h2 y
    · rw [h3] at y
      cases y
  · rcases g2 q hq with z | z
    · exact fr2 q z
    · by_cases h1 : q ∈ qs
      · exact .inl h1
      · right
        cases e : μ q with
        | none => rfl
        | some o =>
          have h2 : q ≠ pl := fun y => by
            rw [y, M2.l] at z
            cases z
          have := fr1 q o h2 h1 e
          rw [z] at this
          cases this
def S_Mill_lying : TSp := fun ts μ F R => ∃ (m pl : Addr) (ls : List Ln) (fs : List (List Frm)) (n : Nat) (qs : List Addr) (Ld : List (List Int)), ts = [.own m] ∧ MillAt μ m pl ls fs n qs Ld ∧ ls.length ≤ 1000 ∧ retL (Ld.map fun x => .lst (x.map T.int)) μ R
structure A_Mill_lying (G : Tab) (Γ : Nat → TSp) : Prop where
  triv : True
abbrev B_Mill_lying (G : Tab) (Γ : Nat → TSp) : Prop := ∀ ts μ F R, S_Mill_lying ts μ F R → denSs G Γ c_Mill_lying (bodyD R F) (startT N_Mill_lying.length ts) μ
theorem body_Mill_lying {G : Tab} {Γ : Nat → TSp} (A : A_Mill_lying G Γ) : B_Mill_lying G Γ := by
  rintro ts μ F R ⟨m, pl, ls, fs, n, qs, Ld, rfl, M, hz, hR⟩
  unfold c_Mill_lying
  simp only [Rh.startT, List.length_cons, List.length_nil, List.map_cons, List.map_nil, List.replicate, List.cons_append, List.nil_append, Nat.reduceAdd, Nat.reduceSub, N_Mill_lying]
  have ho := M.o
  unfold ml at ho
  have hl := M.l
  apply e_cons; simp only [denS]; (try simp_arith [ho]); repeat ((with_reducible refine And.intro ?_ ?_); omega)
  refine onG_at (.own hl) fun gd hgd => ?_
  have hql := M.len
  have hll := M.ll
  refine comp_pure (fun _ => true) (rest μ) (hgd _ (.own hl)) (by rw [List.length_map, sz]; omega) ?_ ?_
  · intro v hv Y N hY _
    obtain ⟨q, hq, rfl⟩ := List.mem_map.mp hv
    obtain ⟨i, hi, e⟩ := List.mem_iff_getElem.mp hq
    obtain ⟨x, ex⟩ : ∃ x, Ld[i]? = some x := ⟨_, List.getElem?_eq_getElem (by omega)⟩
    have hqe := M.it i q x (by rw [List.getElem?_eq_getElem hi, e]) ex
    have hY := hY rfl
    rw [rest_own hqe] at hY
    simp only [wipeT]
    simp_arith [lst_at (.own hqe)]
    exact hY
  rw [List.filter_eq_self.mpr (fun _ _ => rfl), M.rests]
  simp only [newL]
  clear hgd gd
  intro p hp
  exact fin_retL hR hp

def cel2 (ns : List Int) (k : Int) : Int := if k < ns.length then (ns[k.toNat]?).getD 0 else if ns.length = 0 then k else (ns[(k % ns.length).toNat]?).getD 0 * 31 + k
def mix2 (ns : List Int) (k : Int) : Int := (cel2 ns k % 2147483647 * 48271 + 12345) % 2147483647
theorem mix_nn {ns : List Int} {k : Int} : 0 ≤ mix2 ns k := Int.emod_nonneg _ (by decide)
def nm (k : Int) : Str := if k < 8 then cutS "hgfedcba" (some k) none else ⟨#[((abc.cps.toList)[(k % 26).toNat]?).getD 0]⟩ ++ "zz"
theorem nm_ok : ∀ k : Fin 30, isName (nm (k.val : Int)) = true ∧ (nm (k.val : Int)).length ≤ 8 ∧ (nm (k.val : Int)).cps.all (· < 0x110000) = true := by decide +kernel
theorem nm_inj : ∀ i j : Fin 30, nm (i.val : Int) = nm (j.val : Int) → i = j := by decide +kernel
def nms (k : Nat) : List Str := (List.range k).map fun i : Nat => nm (i : Int)
theorem nm_at {k : Nat} (h : k < 30) : isName (nm (k : Int)) = true ∧ (nm (k : Int)).length ≤ sizeLine ∧ sOk (nm (k : Int)) := by
  obtain ⟨a, b, c⟩ := nm_ok ⟨k, h⟩
  exact ⟨a, Nat.le_trans b (by decide), c⟩
theorem nms_new {k : Nat} (h : k < 30) : nm (k : Int) ∉ nms k := fun z => by
  obtain ⟨i, hi, e⟩ := List.mem_map.mp z
  have hi' := List.mem_range.mp hi
  have := nm_inj ⟨i, by omega⟩ ⟨k, h⟩ e
  cases this
  exact Nat.lt_irrefl _ hi'
theorem nms_ok {k : Nat} (h : k ≤ 30) : ∀ x ∈ nms k, sOk x := fun x hx => by
  obtain ⟨i, hi, rfl⟩ := List.mem_map.mp hx
  exact (nm_at (by have := List.mem_range.mp hi; omega)).2.2
theorem nms_succ {k : Nat} : nms (k + 1) = nms k ++ [nm (k : Int)] := by
  unfold nms
  rw [List.range_succ, List.map_append]
  rfl
theorem nms_len {k : Nat} : (nms k).length = k := by
  unfold nms
  simp
def L4 (l : Ln) : T := .tup [.int l.g, .int l.t, .int l.gi, .int l.ta]
def cnt6 (ns : List Int) (k : Int) : Int := if mix2 ns k % 4 = 0 then 0 else if mix2 ns k % 4 = 1 then 1 + mix2 ns k / 4 % 2 else cel2 ns k % 1000000000000000000000000000000
theorem cnt6_ok {ns : List Int} {k : Int} : Bt 100 (cnt6 ns k) := by
  unfold cnt6
  split
  · unfold Bt
    decide
  · split
    · have h1 := Int.emod_nonneg (mix2 ns k / 4) (show (2 : Int) ≠ 0 by decide)
      have h2 := Int.emod_lt_of_pos (mix2 ns k / 4) (show (0 : Int) < 2 by decide)
      exact (show Bt 100 2 by unfold Bt; decide).le (by omega) (by omega)
    · exact (show Bt 100 1000000000000000000000000000000 by unfold Bt; decide).mod (by decide)
/-- a belt that goes with so many works -/
structure LnOk (m : Int) (n : Nat) (l : Ln) : Prop where
  g0 : 0 ≤ l.g
  g1 : l.g < m
  t0 : 0 ≤ l.t
  t1 : l.t < m
  gi : 1 ≤ l.gi
  ta : 1 ≤ l.ta
  st : 0 ≤ l.st
  bg : Bt n l.gi
  bt : Bt n l.ta




theorem in_ints {neg : Bool} {i : Int} {xs : List Int} {μ : Sto} {p : Addr} {R : RP} (h : μ p = some (.lst (xs.map T.int))) : Rh.tIn neg (.int i) (.own p) μ R = R (.bl (if neg = true then !decide (i ∈ xs) else decide (i ∈ xs))) μ := by
  apply propext
  constructor
  · intro hh
    unfold Rh.tIn at hh
    simp only [own_dict h] at hh
    obtain ⟨d, e1, _, ds, e2, _, hR⟩ := hh
    have h1 := (Has.of (μ := μ) (x := i) trivial).1
    have h2 := (Has.own (μ := μ) (xs := xs) h rfl (fun _ _ => trivial)).1
    rw [show Tt.tt i = T.int i from rfl] at h1
    rw [h1] at e1
    rw [h2] at e2
    cases e1
    cases e2
    rw [any_eqv] at hR
    exact hR
  · intro hR
    exact in_own (xs := xs) h rfl (Has.of trivial) (fun _ _ => trivial) hR
/-- what stands in lists of sizes -/
def SzOk (sz : List Int) : Prop := ∀ x ∈ sz, 1 ≤ x ∧ x ≤ 1000000000000
structure LB (m : Nat) (sz : List Int) (l : Ln) : Prop where
  g0 : 0 ≤ l.g
  g1 : l.g < m
  t0 : 0 ≤ l.t
  t1 : l.t < m
  gi : 1 ≤ l.gi
  ta : 1 ≤ l.ta
  st : 0 ≤ l.st
  bg : Bt 128 l.gi
  bt : Bt 128 l.ta
  bal : l.gi * cnt sz l.g = l.ta * cnt sz l.t
theorem sz_at {sz : List Int} {i : Int} (h : SzOk sz) (h0 : 0 ≤ i) (h1 : i < sz.length) : 1 ≤ cnt sz i ∧ cnt sz i ≤ 1000000000000 := by
  refine h _ ?_
  unfold Rh.cnt
  rw [List.getElem?_eq_getElem (by omega)]
  exact List.getElem_mem _
theorem bt40 {x : Int} (h : 1 ≤ x ∧ x ≤ 1000000000000) : Bt 40 x := by
  unfold Bt
  omega
/-- a belt that goes with sizes -/
theorem mkLB {m : Nat} {sz : List Int} (hs : SzOk sz) (hl : sz.length = m) {f g t s : Int} (f0 : 1 ≤ f) (f1 : f ≤ 1000000000) (g0 : 0 ≤ g) (g1 : g < m) (t0 : 0 ≤ t) (t1 : t < m) (s0 : 0 ≤ s) : CDivW (f * cnt sz t) (Int.gcd (cnt sz g) (cnt sz t)) ∧ CDivW (f * cnt sz g) (Int.gcd (cnt sz g) (cnt sz t)) ∧ LB m sz ⟨g, t, f * cnt sz t / (Int.gcd (cnt sz g) (cnt sz t) : Int), f * cnt sz g / (Int.gcd (cnt sz g) (cnt sz t) : Int), s⟩ := by
  have a := sz_at hs g0 (by omega)
  have b := sz_at hs t0 (by omega)
  obtain ⟨d, x, y, e, hd, hx, hy, e1, e2, _⟩ := gcd_parts (a := cnt sz g) (b := cnt sz t) (by omega) (by omega)
  have ab := (bt40 a).gcd (bt40 b)
  rw [e] at ab ⊢
  have x1 : x ≤ cnt sz g := Int.le_of_dvd (by omega) ⟨d, by rw [e1, Int.mul_comm]⟩
  have y1 : y ≤ cnt sz t := Int.le_of_dvd (by omega) ⟨d, by rw [e2, Int.mul_comm]⟩
  have q1 : f * cnt sz t / d = f * y := by
    rw [e2, show f * (d * y) = d * (f * y) by ac_rfl, Int.mul_ediv_cancel_left _ (Int.ne_of_gt hd)]
  have q2 : f * cnt sz g / d = f * x := by
    rw [e1, show f * (d * x) = d * (f * x) by ac_rfl, Int.mul_ediv_cancel_left _ (Int.ne_of_gt hd)]
  have fb : Bt 30 f := by unfold Bt; omega
  rw [q1, q2]
  refine ⟨ab.divOk hd (by decide) _, ab.divOk hd (by decide) _, g0, g1, t0, t1, Int.mul_pos (show 0 < f by omega) hy, Int.mul_pos (show 0 < f by omega) hx, s0, (fb.mul ((bt40 b).le (Int.le_of_lt hy) y1)).mono (by decide), (fb.mul ((bt40 a).le (Int.le_of_lt hx) x1)).mono (by decide), ?_⟩
  show f * y * cnt sz g = f * x * cnt sz t
  rw [e1, e2]
  ac_rfl
theorem lb_pos {m : Nat} {sz : List Int} {ls : List Ln} (h : ∀ l ∈ ls, LB m sz l) : PosL ls := fun l hl => ⟨(h l hl).gi, (h l hl).ta⟩
theorem lb_inr {m : Nat} {sz : List Int} {ls : List Ln} (h : ∀ l ∈ ls, LB m sz l) : Inr (ends ls) m := fun e he => by
  obtain ⟨l, hl, rfl⟩ := List.mem_map.mp he
  have := h l hl
  exact ⟨⟨this.g0, this.g1⟩, this.t0, this.t1⟩
theorem lb_sol {m : Nat} {sz : List Int} {ls : List Ln} (h : ∀ l ∈ ls, LB m sz l) (hs : SzOk sz) (hl : sz.length = m) : Sol ls m sz := ⟨hl, fun w h0 h1 => by have := sz_at hs h0 (by omega); omega, fun l hl' => (h l hl').bal⟩
/-- rates without a divisor divide any others -/
theorem bal_dvd {ls : List Ln} {n : Nat} {rs qs : List Int} (hp : PosL ls) (S : Bal ls n rs) (Q : Sol ls n qs) {a : Int} (h0 : 0 ≤ a) (h1 : a < n) : cnt rs a ∣ cnt qs a := by
  obtain ⟨g, x, y, e, hg, hx, hy, e1, e2, h3⟩ := gcd_parts (S.pos a h0 h1) (Q.pos a h0 h1)
  have hx1 : x = 1 := S.one a h0 h1 x (by omega) fun w hw => by
    have h := sol_prop hp S.toSol Q hw
    rw [e1, e2] at h
    have h : x * cnt qs w = y * cnt rs w := by
      apply Int.eq_of_mul_eq_mul_left (Int.ne_of_gt hg)
      rw [← Int.mul_assoc, h]
      ac_rfl
    exact cop_dvd h3 ⟨_, h.symm⟩
  rw [e1, e2, hx1, Int.mul_one]
  exact ⟨y, rfl⟩
theorem bal_bt {ls : List Ln} {n : Nat} {rs sz : List Int} (hp : PosL ls) (S : Bal ls n rs) (Q : Sol ls n sz) (hs : SzOk sz) {a : Int} (h0 : 0 ≤ a) (h1 : a < n) : 1 ≤ cnt rs a ∧ cnt rs a ≤ 1000000000000 := by
  have := sz_at hs h0 (by rw [Q.len]; exact h1)
  have h2 := S.pos a h0 h1
  have h3 := Int.le_of_dvd (by omega) (bal_dvd hp S Q h0 h1)
  omega
theorem ins_len {α : Type} {xs : List α} {n : Nat} {x : α} : (xs.take n ++ [x] ++ xs.drop n).length = xs.length + 1 := by
  simp only [List.length_append, List.length_take, List.length_drop, List.length_singleton]
  omega
theorem ins_mem {α : Type} {xs : List α} {n : Nat} {x y : α} (h : y ∈ xs.take n ++ [x] ++ xs.drop n) : y ∈ xs ∨ y = x := by
  rcases List.mem_append.mp h with h | h
  · rcases List.mem_append.mp h with h | h
    · exact .inl (List.mem_of_mem_take h)
    · exact .inr (List.mem_singleton.mp h)
  · exact .inl (List.mem_of_mem_drop h)
theorem ins_map {α β : Type} {f : α → β} {xs : List α} {n : Nat} {x : α} : (xs.map f).take n ++ [f x] ++ (xs.map f).drop n = (xs.take n ++ [x] ++ xs.drop n).map f := by
  simp only [List.map_append, List.map_take, List.map_drop, List.map_cons, List.map_nil]
structure PM (ls : List Ln) (a : Int) (pc mo : List Int) (k : Nat) : Prop where
  nd : mo.Nodup
  con : ∀ x ∈ mo, Con (ends ls) a x
  pre : ∃ e, mo = pc ++ e
  cl : mo.length = pc.length → ∀ l ∈ ls.take k, (l.g ∈ pc → l.t ∈ pc) ∧ (l.t ∈ pc → l.g ∈ pc)
theorem PM.add {ls : List Ln} {a : Int} {pc mo : List Int} {k : Nat} {x : Int} (h : PM ls a pc mo k) (hx : x ∉ mo) (hc : Con (ends ls) a x) (j : Nat) : PM ls a pc (mo ++ [x]) j := by
  obtain ⟨e, he⟩ := h.pre
  refine ⟨List.nodup_append.mpr ⟨h.nd, List.pairwise_singleton _ _, fun y hy z hz => by cases List.mem_singleton.mp hz; exact fun q => hx (q ▸ hy)⟩, fun y hy => ?_, ⟨e ++ [x], by rw [he, List.append_assoc]⟩, fun z => ?_⟩
  · rcases List.mem_append.mp hy with hy | hy
    · exact h.con y hy
    · cases List.mem_singleton.mp hy
      exact hc
  · rw [he, List.length_append, List.length_append, List.length_singleton] at z
    omega
theorem PM.same {ls : List Ln} {a : Int} {pc mo : List Int} {k : Nat} (h : PM ls a pc mo k) (hl : mo.length = pc.length) : mo = pc := by
  obtain ⟨e, he⟩ := h.pre
  rw [he, List.length_append] at hl
  have : e = [] := List.eq_nil_of_length_eq_zero (by omega)
  rw [he, this, List.append_nil]
theorem sz_od {od : List Int} {m : Nat} {i : Int} (h : ∀ x ∈ od, (0 : Int) ≤ x ∧ x < m) (h0 : 0 ≤ i) (h1 : i < od.length) : 0 ≤ cnt od i ∧ cnt od i < m := by
  refine h _ ?_
  unfold Rh.cnt
  rw [List.getElem?_eq_getElem (by omega)]
  exact List.getElem_mem _






theorem LstAt.sub {μ μ' : Sto} {t : T} {us : List T} (h : LstAt μ t us) (s : Rh.Sub μ μ') : LstAt μ' t us := by
  rcases h with rfl | ⟨q, rfl, e⟩
  · exact .lst
  · exact .own (s _ _ e)
theorem li {μ : Sto} {t : T} {sz : List Int} (h : LstAt μ t (sz.map T.int)) {i : Int} (h0 : 0 ≤ i) (h1 : i < sz.length) (R : RP) : tIdx t (.int i) μ R = R (.int (cnt sz i)) μ := by
  rw [idx_at h]
  simp only [T.int.injEq, exists_and_left, exists_eq_left', at_cnt h0 h1, Option.some.injEq]
def lnOf (sz : List Int) (g t f more : Int) : Ln := ⟨g, t, f * cnt sz t / (Int.gcd (cnt sz g) (cnt sz t) : Int) + more, f * cnt sz g / (Int.gcd (cnt sz g) (cnt sz t) : Int), 0⟩
theorem lnOf_lb {m : Nat} {sz : List Int} (hs : SzOk sz) (hl : sz.length = m) {f g t : Int} (f0 : 1 ≤ f) (f1 : f ≤ 1000000000) (g0 : 0 ≤ g) (g1 : g < m) (t0 : 0 ≤ t) (t1 : t < m) : LB m sz (lnOf sz g t f 0) := by
  have := (mkLB hs hl f0 f1 g0 g1 t0 t1 (Int.le_refl 0)).2.2
  unfold lnOf
  rw [Int.add_zero]
  exact this
structure LB0 (m : Nat) (sz : List Int) (l : Ln) : Prop where
  lb : LB m sz l
  st : l.st = 0
  bg : Bt 127 l.gi
  bt : Bt 127 l.ta
theorem bt127 {x : Int} (h : 0 ≤ x) (h1 : x ≤ 100000000000000000000000000000000) : Bt 127 x := by
  unfold Bt
  omega
theorem lnOf_lb0 {m : Nat} {sz : List Int} (hs : SzOk sz) (hl : sz.length = m) {f g t : Int} (f0 : 1 ≤ f) (f1 : f ≤ 1000000000) (g0 : 0 ≤ g) (g1 : g < m) (t0 : 0 ≤ t) (t1 : t < m) : LB0 m sz (lnOf sz g t f 0) := by
  have L := lnOf_lb hs hl f0 f1 g0 g1 t0 t1
  have a := sz_at hs g0 (by omega)
  have b := sz_at hs t0 (by omega)
  have c : ∀ x : Int, 1 ≤ x → x ≤ 1000000000000 → f * x / (Int.gcd (cnt sz g) (cnt sz t) : Int) ≤ 1000000000 * 1000000000000 := fun x x0 x1 =>
    Int.le_trans (Int.ediv_le_self _ (Int.mul_nonneg (by omega) (by omega))) (Int.mul_le_mul f1 x1 (by omega) (by decide))
  have c1 := c _ b.1 b.2
  have c2 := c _ a.1 a.2
  have g1' := L.gi
  have t1' := L.ta
  refine ⟨L, rfl, bt127 (by omega) ?_, bt127 (by omega) ?_⟩
  · unfold lnOf
    dsimp only
    omega
  · unfold lnOf
    dsimp only
    omega
/-- a belt that goes with no rates of the others -/
structure OddL (m : Nat) (ls : List Ln) (l : Ln) : Prop where
  g0 : 0 ≤ l.g
  g1 : l.g < m
  t0 : 0 ≤ l.t
  t1 : l.t < m
  gi : 1 ≤ l.gi
  ta : 1 ≤ l.ta
  st : l.st = 0
  bg : Bt 128 l.gi
  bt : Bt 128 l.ta
  odd : ∀ rs, Sol ls m rs → l.gi * cnt rs l.g ≠ l.ta * cnt rs l.t
theorem odd_more {a b more x y : Int} (hm : 1 ≤ more) (hx : 0 < x) (e : a * x = b * y) : (a + more) * x ≠ b * y := fun z => by
  rw [Int.add_mul, e] at z
  have := Int.mul_pos (show 0 < more by omega) hx
  omega
/-- the ends of a ring's belts -/
def segs (ls : List Ln) (p : List Pace) : List (Int × Int) := p.map fun x => match ls[x.1.toNat]? with
  | some l => if x.2 = true then (l.g, l.t) else (l.t, l.g)
  | none => (0, 0)
def prT (e : Int × Int) : T := .tup [.int e.1, .int e.2]
theorem segs_chain {ls : List Ln} {c : Int} : ∀ {p : List Pace} {a : Int}, Path ls a p c → (∀ e, (segs ls p)[0]? = some e → e.1 = a) ∧ (∀ (k : Nat) e e', (segs ls p)[k]? = some e → (segs ls p)[k + 1]? = some e' → e'.1 = e.2) ∧ (∀ e, (segs ls p)[p.length - 1]? = some e → e.2 = c)
  | [], a, h => ⟨fun e z => by simp [segs] at z, fun k e e' z => by simp [segs] at z, fun e z => by simp [segs] at z⟩
  | (b, d) :: r, a, ⟨l, h0, h1, h2⟩ => by
    obtain ⟨u, hu, es⟩ : ∃ u, Path ls u r c ∧ segs ls ((b, d) :: r) = (a, u) :: segs ls r := by
      cases d
      · obtain ⟨rfl, h3⟩ := h2
        refine ⟨_, h3, ?_⟩
        unfold segs
        rw [List.map_cons]
        simp only [h1, Bool.false_eq_true, if_false]
      · obtain ⟨rfl, h3⟩ := h2
        refine ⟨_, h3, ?_⟩
        unfold segs
        rw [List.map_cons]
        simp only [h1, if_true]
    obtain ⟨i1, i2, i3⟩ := segs_chain hu
    rw [es]
    refine ⟨fun e z => by cases z; rfl, fun k e e' z z' => ?_, fun e z => ?_⟩
    · cases k with
      | zero =>
        cases z
        exact i1 e' z'
      | succ k => exact i2 k e e' z z'
    · cases r with
      | nil =>
        cases z
        exact hu
      | cons y r => exact i3 e z
structure Rch (ls : List Ln) (a : Int) (k : Nat) (mo : List Int) : Prop where
  nd : mo.Nodup
  con : ∀ x ∈ mo, Con (ends ls) a x
  a : a ∈ mo
  big : (∀ x ∈ mo, ∀ y, Adj (ends ls) x y → y ∈ mo) ∨ k < mo.length
def l4P (l : Ln) : Tp Int := ⟨[l.g, l.t, l.gi, l.ta]⟩
theorem eq_nil4 {μ : Sto} {t : T} {ls : List Ln} {neg : Bool} {R : RP} (h : LstAt μ t (ls.map L4)) : tEq neg t (.lst []) μ R = R (.bl (if neg = true then !decide (ls = []) else decide (ls = []))) μ := by
  have e : ls.map L4 = (ls.map l4P).map Tt.tt := by
    rw [List.map_map]
    rfl
  have this : decide (ls.map l4P = []) = decide (ls = []) := decide_eq_decide.mpr List.map_eq_nil_iff
  rw [← this]
  exact eq_at (ls.map l4P) ([] : List (Tp Int)) h .lst e rfl (fun _ _ _ _ => trivial) (fun _ h => by cases h)
theorem l4i {μ : Sto} {t : T} {ls : List Ln} (h : LstAt μ t (ls.map L4)) {i : Int} {l : Ln} (h0 : 0 ≤ i) (e : ls[i.toNat]? = some l) (R : RP) : tIdx t (.int i) μ R = R (L4 l) μ := by
  rw [idx_at h]
  simp only [T.int.injEq, exists_and_left, exists_eq_left', at_map h0 e, Option.some.injEq]
theorem gcdF_top : ∀ (ns : List Int) (c d : Int), d ∣ c → (∀ x ∈ ns, d ∣ x) → d ∣ ns.foldl (fun a b => (Int.gcd a b : Int)) c
  | [], _, _, h, _ => h
  | y :: ns, c, d, h, k => gcdF_top ns _ d (Int.dvd_coe_gcd h (k y List.mem_cons_self)) fun x hx => k x (List.mem_cons_of_mem _ hx)
/-- the greatest number that divides all sizes of a piece -/
structure GW (ls : List Ln) (sz : List Int) (w g : Int) : Prop where
  pos : 0 < g
  dv : ∀ v, Con (ends ls) w v → g ∣ cnt sz v
  top : ∀ d, (∀ v, Con (ends ls) w v → d ∣ cnt sz v) → d ∣ g
theorem GW.same {ls : List Ln} {sz : List Int} {w v g h : Int} (G : GW ls sz w g) (H : GW ls sz v h) (c : Con (ends ls) w v) : g = h :=
  Int.dvd_antisymm (Int.le_of_lt G.pos) (Int.le_of_lt H.pos) (H.top g fun u hu => G.dv u (c.trans hu)) (G.top h fun u hu => H.dv u (c.symm.trans hu))
theorem bal_of {ls : List Ln} {n : Nat} {sz rs : List Int} (S : Sol ls n sz) (hi : Inr (ends ls) n) (hl : rs.length = n) (h : ∀ w : Int, 0 ≤ w → w < n → ∃ g, GW ls sz w g ∧ cnt rs w = cnt sz w / g) : Bal ls n rs := by
  have key : ∀ w : Int, 0 ≤ w → w < n → ∃ g x, GW ls sz w g ∧ cnt sz w = g * x ∧ cnt rs w = x ∧ 0 < x := fun w a b => by
    obtain ⟨g, G, e⟩ := h w a b
    obtain ⟨x, hx⟩ := G.dv w .refl
    have hp := S.pos w a b
    rw [hx] at hp e
    rw [Int.mul_ediv_cancel_left _ (Int.ne_of_gt G.pos)] at e
    exact ⟨g, x, G, hx, e, Int.pos_of_mul_pos_right hp G.pos⟩
  refine ⟨⟨hl, fun w a b => ?_, fun l hm => ?_⟩, fun a h0 h1 d hd hw => ?_⟩
  · obtain ⟨g, x, _, _, e, hx⟩ := key w a b
    rw [e]
    exact hx
  · obtain ⟨⟨r1, r2⟩, r3, r4⟩ := hi _ (ends_mem hm)
    obtain ⟨g, x, G, e1, e2, _⟩ := key l.g r1 r2
    obtain ⟨g', y, G', e3, e4, _⟩ := key l.t r3 r4
    have := G.same G' (Con.one (Or.inl (ends_mem hm)))
    subst this
    have hb := S.bal l hm
    rw [e1, e3] at hb
    rw [e2, e4]
    apply Int.eq_of_mul_eq_mul_left (Int.ne_of_gt G.pos)
    calc g * (l.gi * x) = l.gi * (g * x) := by ac_rfl
      _ = g * (l.ta * y) := by rw [hb]; ac_rfl
  · obtain ⟨g, x, G, e1, e2, hx⟩ := key a h0 h1
    have h2 : d * g ∣ g := G.top _ fun v hv => by
      have hr := hv.inr hi ⟨h0, h1⟩
      obtain ⟨g', y, G', e3, e4, _⟩ := key v hr.1 hr.2
      have := G.same G' hv
      subst this
      obtain ⟨k, hk⟩ := hw v hv
      rw [e4] at hk
      exact ⟨k, by rw [e3, hk]; ac_rfl⟩
    obtain ⟨k, hk⟩ := h2
    have h3 : g * (d * k) = g * 1 := by
      rw [Int.mul_one]
      calc g * (d * k) = d * g * k := by ac_rfl
        _ = g := hk.symm
    have h3 := Int.eq_of_mul_eq_mul_left (Int.ne_of_gt G.pos) h3
    exact Int.eq_one_of_dvd_one hd ⟨k, h3.symm⟩
theorem cnt_left {xs ys : List Int} {w : Int} (h0 : 0 ≤ w) (h1 : w < xs.length) : cnt (xs ++ ys) w = cnt xs w := by
  unfold Rh.cnt
  rw [List.getElem?_append_left (by omega)]
theorem cnt_last {xs : List Int} {x w : Int} (h : w = xs.length) : cnt (xs ++ [x]) w = x := by
  unfold Rh.cnt
  rw [h, Int.toNat_natCast, List.getElem?_append_right (Nat.le_refl _), Nat.sub_self]
  rfl
theorem tri {μ : Sto} {t : T} {ls : List Ln} (h : LstAt μ t (ls.map Ln.tr)) {i : Int} {l : Ln} (h0 : 0 ≤ i) (e : ls[i.toNat]? = some l) (R : RP) : tIdx t (.int i) μ R = R l.tr μ := by
  rw [idx_at h]
  simp only [T.int.injEq, exists_and_left, exists_eq_left', at_map h0 e, Option.some.injEq]
theorem rdy_false {ls : List Ln} {hs : List Int} {w : Int} (he : hs.length = ls.length) {k : Nat} {l : Ln} (el : ls[k]? = some l) (ht : l.t = w) (hc : cnt hs k < l.ta) : rdy ls hs w = false := by
  unfold rdy
  rw [List.all_eq_false]
  have hk := (List.getElem?_eq_some_iff.mp el)
  obtain ⟨hk1, hk2⟩ := hk
  have hh : k < hs.length := by omega
  refine ⟨(l, hs[k]), ?_, ?_⟩
  · rw [← hk2, ← List.getElem_zip (h := by rw [List.length_zip]; omega)]
    exact List.getElem_mem _
  · unfold Rh.cnt at hc
    rw [Int.toNat_natCast, List.getElem?_eq_getElem hh] at hc
    have hc : hs[k] < l.ta := hc
    simp [ht, hc]
theorem rdy_true {ls : List Ln} {hs : List Int} {w : Int} (he : hs.length = ls.length) (h : ∀ (k : Nat) l, ls[k]? = some l → ¬ (l.t = w ∧ cnt hs k < l.ta)) : rdy ls hs w = true := by
  unfold rdy
  rw [List.all_eq_true]
  intro p hp
  obtain ⟨k, hk, e⟩ := List.mem_iff_getElem.mp hp
  rw [List.length_zip] at hk
  rw [List.getElem_zip] at e
  have := h k ls[k] (List.getElem?_eq_getElem (by omega))
  unfold Rh.cnt at this
  rw [Int.toNat_natCast, List.getElem?_eq_getElem (show k < hs.length by omega)] at this
  have this : ¬ (ls[k].t = w ∧ hs[k] < ls[k].ta) := this
  subst e
  simp only [Bool.not_eq_true', Bool.and_eq_false_iff, decide_eq_false_iff_not]
  by_cases e : ls[k].t = w
  · exact .inr fun z => this ⟨e, z⟩
  · exact .inl e
theorem shift_at {ls : List Ln} {hs : List Int} {w : Int} {k : Nat} {l : Ln} (he : hs.length = ls.length) (el : ls[k]? = some l) : (shiftL ls hs w)[k]? = some (shf l (cnt hs k) w) := by
  have hk := (List.getElem?_eq_some_iff.mp el).1
  have hh : hs[k]? = some (cnt hs k) := by
    unfold Rh.cnt
    rw [Int.toNat_natCast, List.getElem?_eq_getElem (show k < hs.length by omega)]
    rfl
  unfold shiftL
  rw [List.getElem?_map, (List.getElem?_zip_eq_some (z := (l, cnt hs k))).mpr ⟨el, hh⟩]
  rfl
def sgn (c : Nat) : Str := ⟨#[c]⟩
def ab (i : Int) : Nat := ((abc.cps.toList)[i.toNat]?).getD 0
theorem ab_len : abc.cps.toList.length = 26 := by decide +kernel
theorem ab_at {i : Int} (h0 : 0 ≤ i) (h1 : i < 26) : atI abc.cps.toList i = some (ab i) := by
  rw [at_nn h0]
  have e := ab_len
  unfold ab
  rw [List.getElem?_eq_getElem (by omega)]
  rfl
theorem ab_in {i : Int} (h0 : 0 ≤ i) (h1 : i < 26) : ab i ∈ abc.cps.toList := by
  have := ab_at h0 h1
  rw [at_nn h0] at this
  exact List.mem_of_getElem? this
theorem ab_injF : ∀ i j : Fin 26, ab (i.val : Int) = ab (j.val : Int) → i = j := by decide +kernel
theorem ab_inj {i j : Int} (h0 : 0 ≤ i) (h1 : i < 26) (k0 : 0 ≤ j) (k1 : j < 26) (h : ab i = ab j) : i = j := by
  obtain ⟨a, rfl⟩ := Int.eq_ofNat_of_zero_le h0
  obtain ⟨b, rfl⟩ := Int.eq_ofNat_of_zero_le k0
  have := ab_injF ⟨a, by omega⟩ ⟨b, by omega⟩ h
  cases this
  rfl
/-- a list of numbers, read only -/
def iota (n : Nat) : List Int := (List.range n).map fun i : Nat => (i : Int)
theorem iota_at {n : Nat} {i : Int} (h0 : 0 ≤ i) (h1 : i < n) : cnt (iota n) i = i := by
  unfold Rh.cnt iota
  rw [List.getElem?_map, List.getElem?_range (by omega)]
  show ((i.toNat : Nat) : Int) = i
  omega
theorem iota_lab {es : List (Int × Int)} {n : Nat} : Lab es n (iota n) := ⟨by unfold iota; simp, fun i h0 h1 => by rw [iota_at h0 h1]; exact .refl⟩
theorem iota_T (n : Nat) : (List.range n).map (fun i => T.int (i : Nat)) = (iota n).map T.int := by
  unfold iota
  rw [List.map_map]
  rfl
theorem two_of {c : Prop} [Decidable c] {X : T → Prop} {a b : T} (h : X (if c then a else b)) : (c → X a) ∧ (¬ c → X b) :=
  ⟨fun k => by rwa [if_pos k] at h, fun k => by rwa [if_neg k] at h⟩
theorem comp_any {own : Bool} {vs : List Nat} {g : Tg} {cond elt : TEx × TTe} {R : RP} {ρ : Ro} {μ : Sto} {gd : Sto → Prop} {n : Nat} {f : Nat → T} (P : Int → Prop) (hg : gd μ) (hl : n ≤ sizeLine)
    (h : ∀ k : Nat, k < n → ∀ (Y : T → Sto → Prop) (N : Sto → Prop), (∀ x : Int, P x → Y (.int x) μ) → bindT g (f k) (wipeT ρ vs) μ fun ρ' => cond.2 ρ' μ noX fun b μ3 => if b = true then elt.1 ρ' μ3 noX fun y μ4 => Y y μ4 else N μ3)
    (hR : ∀ xs : List Int, xs.length = n → (∀ x ∈ xs, P x) → newL own (xs.map T.int) μ R) : compD own vs g cond elt ρ R ((List.range n).map f) gd μ := by
  refine ⟨fun acc r μ2 => μ2 = μ ∧ ∃ (k : Nat) (xs : List Int), r = ((List.range n).map f).drop k ∧ acc = xs.map T.int ∧ xs.length = k ∧ k ≤ n ∧ ∀ x ∈ xs, P x, ⟨rfl, 0, [], rfl, rfl, rfl, Nat.zero_le _, fun _ z => nomatch z⟩, ?_, ?_⟩
  · rintro acc μ2 ⟨rfl, k, xs, e1, rfl, e2, hk, hP⟩
    have := List.drop_eq_nil_iff.mp e1.symm
    rw [List.length_map, List.length_range] at this
    exact ⟨hg, hR xs (by omega) hP⟩
  · rintro acc t r μ2 ⟨rfl, k, xs, e1, rfl, e2, hk, hP⟩
    refine ⟨hg, ?_⟩
    have hk2 : k < n := by
      have := congrArg List.length e1
      simp at this
      omega
    have e4 : t = f k := by
      have := congrArg (fun l : List T => l[0]?) e1
      simpa [List.getElem?_drop, List.getElem?_range hk2] using this
    have e3 : r = ((List.range n).map f).drop (k + 1) := by
      have := congrArg List.tail e1
      simpa [List.tail_drop] using this
    subst e4
    refine h k hk2 _ _ fun x hx => ?_
    refine ⟨by rw [List.length_map]; omega, .int x, _, .refl _ _, rfl, k + 1, xs ++ [x], e3, by rw [List.map_append]; rfl, by rw [List.length_append, e2]; rfl, hk2, fun z hz => ?_⟩
    rcases List.mem_append.mp hz with q | q
    · exact hP z q
    · cases List.mem_singleton.mp q
      exact hx
def RdL (t : T) (ns : List Int) : Prop := t = .scr (ns.map T.int) ∨ t = .lst (ns.map T.int)
/-- a belt that goes with the sizes -/
structure LR (n : Nat) (rs : List Int) (top : Int) (l : Ln) : Prop where
  g0 : 0 ≤ l.g
  g1 : l.g < n
  t0 : 0 ≤ l.t
  t1 : l.t < n
  gi : 1 ≤ l.gi
  ta : 1 ≤ l.ta
  st : 0 ≤ l.st
  bal : l.gi * cnt rs l.g = l.ta * cnt rs l.t
  giM : l.gi ≤ top * cnt rs l.t
  taM : l.ta ≤ top * cnt rs l.g
  stM : l.st ≤ 2 + l.ta * cnt rs l.t
/-- sizes -/
structure SzL (n : Nat) (rs : List Int) (m : Int) : Prop where
  len : rs.length = n
  at_ : ∀ w : Int, 0 ≤ w → w < n → 1 ≤ cnt rs w ∧ cnt rs w ≤ m
theorem lr_parts {top tb a b : Int} (ha : 1 ≤ a) (hb : 1 ≤ b) (h1 : 1 ≤ tb) (h2 : tb ≤ top) : 1 ≤ tb * b / (Int.gcd a b : Int) ∧ tb * b / (Int.gcd a b : Int) ≤ top * b ∧ 1 ≤ tb * a / (Int.gcd a b : Int) ∧ tb * a / (Int.gcd a b : Int) ≤ top * a ∧ tb * b / (Int.gcd a b : Int) * a = tb * a / (Int.gcd a b : Int) * b := by
  have hg : (0 : Int) < Int.gcd a b := gcd_pos (.inl (by omega))
  obtain ⟨x, hx⟩ := Int.gcd_dvd_left a b
  obtain ⟨y, hy⟩ := Int.gcd_dvd_right a b
  generalize (Int.gcd a b : Int) = g at hg hx hy
  subst hx
  subst hy
  have hx0 : 0 < x := Int.pos_of_mul_pos_right (by omega) hg
  have hy0 : 0 < y := Int.pos_of_mul_pos_right (by omega) hg
  have e1 : tb * (g * y) / g = tb * y := by rw [show tb * (g * y) = g * (tb * y) by ac_rfl, Int.mul_ediv_cancel_left _ (Int.ne_of_gt hg)]
  have e2 : tb * (g * x) / g = tb * x := by rw [show tb * (g * x) = g * (tb * x) by ac_rfl, Int.mul_ediv_cancel_left _ (Int.ne_of_gt hg)]
  rw [e1, e2]
  have k1 : ∀ z : Int, 0 < z → 1 ≤ tb * z ∧ tb * z ≤ top * (g * z) := fun z hz => by
    refine ⟨Int.mul_pos (by omega) hz, ?_⟩
    have : z ≤ g * z := by
      have := Int.mul_le_mul_of_nonneg_right (show 1 ≤ g by omega) (Int.le_of_lt hz)
      omega
    calc tb * z ≤ top * z := Int.mul_le_mul_of_nonneg_right h2 (Int.le_of_lt hz)
      _ ≤ top * (g * z) := Int.mul_le_mul_of_nonneg_left this (by omega)
  exact ⟨(k1 y hy0).1, (k1 y hy0).2, (k1 x hx0).1, (k1 x hx0).2, by ac_rfl⟩
theorem lr_sol {n : Nat} {rs : List Int} {m top : Int} {ls : List Ln} (S : SzL n rs m) (h : ∀ l ∈ ls, LR n rs top l) : Sol ls n rs :=
  ⟨S.len, fun w a b => by have := (S.at_ w a b).1; omega, fun l hl => (h l hl).bal⟩
theorem lr_inr {n : Nat} {rs : List Int} {top : Int} {ls : List Ln} (h : ∀ l ∈ ls, LR n rs top l) : Inr (ends ls) n := fun e he => by
  obtain ⟨l, hl, rfl⟩ := List.mem_map.mp he
  exact ⟨⟨(h l hl).g0, (h l hl).g1⟩, ⟨(h l hl).t0, (h l hl).t1⟩⟩
theorem lr_posL {n : Nat} {rs : List Int} {top : Int} {ls : List Ln} (h : ∀ l ∈ ls, LR n rs top l) : PosL ls := fun l hl => ⟨(h l hl).gi, (h l hl).ta⟩
theorem lr_st {n : Nat} {rs : List Int} {top : Int} {ls : List Ln} (h : ∀ l ∈ ls, LR n rs top l) : ∀ l ∈ ls, 0 ≤ Ln.st l := fun l hl => (h l hl).st
theorem lr_bt {n : Nat} {rs : List Int} {m : Int} {ls : List Ln} (S : SzL n rs m) (hm : m ≤ 1000000) (h : ∀ l ∈ ls, LR n rs 2 l) : ∀ l ∈ ls, Bt 128 (Ln.gi l) ∧ Bt 128 l.ta := fun l hl => by
  have a := h l hl
  have b := (S.at_ l.g a.g0 a.g1).2
  have c := (S.at_ l.t a.t0 a.t1).2
  have d := a.giM
  have e := a.taM
  have f := a.gi
  have g := a.ta
  have k : ∀ x : Int, 1 ≤ x → x ≤ 2000000 → Bt 128 x := fun x p q => by
    unfold Bt
    have : x.natAbs ≤ 2000000 := by omega
    exact Nat.lt_of_le_of_lt this (by decide)
  exact ⟨k _ f (by omega), k _ g (by omega)⟩
/-- all of a hall's rates -/
theorem sum_bound {m : Int} (hm : 0 ≤ m) : ∀ {xs : List Int}, (∀ x ∈ xs, x ≤ m) → xs.sum ≤ m * xs.length
  | [], _ => by simp
  | y :: r, h => by
    have h1 := h y List.mem_cons_self
    have h2 := sum_bound hm fun z hz => h z (List.mem_cons_of_mem _ hz)
    rw [List.sum_cons, List.length_cons, Int.natCast_add, Int.mul_add]
    omega
theorem cnt_bound {m : Int} {n : Nat} {xs : List Int} (hl : xs.length = n) (h : ∀ w : Int, 0 ≤ w → w < n → cnt xs w ≤ m) : ∀ x ∈ xs, x ≤ m := fun x hx => by
  obtain ⟨i, hi, rfl⟩ := List.getElem_of_mem hx
  have := h i (by omega) (by omega)
  unfold Rh.cnt at this
  rwa [Int.toNat_natCast, List.getElem?_eq_getElem hi] at this
/-- names that a hall may have -/
structure NLs (n : Nat) (nl : List Str) : Prop where
  nm : ∀ x ∈ nl, isName x = true
  nd : nl.Nodup
  len : nl.length = n
  eql : ∃ g : Int, ∀ x ∈ nl, (x.length : Int) = g
def wch (k : Nat) (w : Str) : Option Nat := w.cps.toList[k]?
/-! turns that are left (from the joints and k24, k14) -/
def leftL (gl ms row : List Int) : List Int := ms.map fun m => cnt gl m - row.count m
theorem left_len {gl ms row : List Int} : (leftL gl ms row).length = ms.length := List.length_map _
theorem left_set {gl ms row : List Int} (hn : ms.Nodup) {a : Nat} {w : Int} (ha : ms[a]? = some w) : (leftL gl ms row).set a (cnt gl w - row.count w - 1) = leftL gl ms (row ++ [w]) := by
  refine List.ext_getElem? fun i => ?_
  unfold leftL
  by_cases e : a = i
  · subst e
    have hl : a < ms.length := (List.getElem?_eq_some_iff.mp ha).1
    rw [List.getElem?_set_self (by rw [List.length_map]; exact hl), List.getElem?_map, ha]
    simp only [Option.map_some, count_app, if_true]
    congr 1
    omega
  · rw [List.getElem?_set_ne e, List.getElem?_map, List.getElem?_map]
    cases hx : ms[i]? with
    | none => rfl
    | some x =>
      have hne : w ≠ x := fun z => by
        subst z
        exact e ((List.getElem?_inj (List.getElem?_eq_some_iff.mp ha).1 hn).mp (ha.trans hx.symm))
      simp only [Option.map_some, count_app, hne, if_false, Nat.add_zero]
theorem cL_done {ls : List Ln} {gl : List Int} {n : Nat} {row : List Int} (h : Turns ls gl n row) (hl : gl.length = n) (hg : ∀ w : Int, 0 ≤ w → w < n → 0 ≤ cnt gl w) (hs : (row.length : Int) = gl.sum) : cL n row = gl := by
  have e := len_sum row h.mem
  rw [hs] at e
  refine cnt_ext cL_len hl fun w a b => ?_
  refine Classical.byContradiction fun hne => ?_
  have hle : ∀ v : Int, 0 ≤ v → v < n → cnt (cL n row) v ≤ cnt gl v := fun v a b => by
    rw [cL_at a b]
    exact h.le' hg a b
  have hlt : (cL n row).sum < gl.sum := by
    have h1 := sum_set (xs := cL n row) (i := w.toNat) (v := cnt (cL n row) w + 1) (by rw [cL_len]; omega)
    have h2 : ((cL n row).set w.toNat (cnt (cL n row) w + 1)).sum ≤ gl.sum := by
      refine sum_le (by rw [List.length_set, cL_len, hl]) fun i => ?_
      by_cases hi : i < n
      · have h3 := hle i (by omega) (by omega)
        have h4 := hle w a b
        rw [List.getElem?_set]
        unfold Rh.cnt at h3 h4 hne ⊢
        rw [Int.toNat_natCast] at h3
        by_cases e : w.toNat = i
        · subst e
          rw [if_pos rfl, if_pos (by rw [cL_len]; exact hi)]
          simp only [Option.getD_some]
          omega
        · rw [if_neg e]
          exact h3
      · rw [List.getElem?_eq_none (by rw [List.length_set, cL_len]; omega), List.getElem?_eq_none (by omega)]
        exact Int.le_refl _
    have h5 : ((cL n row)[w.toNat]?).getD 0 = cnt (cL n row) w := rfl
    rw [h5] at h1
    omega
  omega
theorem done_stuck {ls : List Ln} {gl : List Int} {n : Nat} {row : List Int} (h : cL n row = gl) : Stuck ls gl n row := fun w a b hc => by
  have := hc.1
  rw [← h, cL_at a b] at this
  omega
theorem hps_len {ls : List Ln} {row : List Int} : (hps ls row).length = ls.length := List.length_map _
theorem LstAt.ne_ {μ : Sto} {t : T} {us : List T} {q : Addr} (h : LstAt μ t us) (hq : μ q = none) : t ≠ .own q := by
  rintro rfl
  rcases h with h | ⟨p, e, h⟩
  · cases h
  · injection e with e
    subst e
    rw [hq] at h
    cases h
theorem iota_len {n : Nat} : (iota n).length = n := by unfold iota; rw [List.length_map, List.length_range]
theorem iota_get {n : Nat} {w : Int} (h0 : 0 ≤ w) (h1 : w < n) : (iota n)[w.toNat]? = some w := by
  unfold iota
  rw [List.getElem?_map, List.getElem?_range (by omega)]
  show some ((w.toNat : Nat) : Int) = some w
  rw [Int.toNat_of_nonneg h0]
theorem iota_nd {n : Nat} : (iota n).Nodup := nodup_of_lt rngI_lt
theorem iota_mem {n : Nat} {w : Int} : w ∈ iota n ↔ 0 ≤ w ∧ w < n := rngI_mem
theorem leftI_nil {gl : List Int} : leftL gl (iota gl.length) [] = gl := by
  refine List.ext_getElem? fun i => ?_
  unfold leftL iota
  rw [List.getElem?_map, List.getElem?_map]
  by_cases hi : i < gl.length
  · rw [List.getElem?_range hi, List.getElem?_eq_getElem hi]
    simp [Rh.cnt, hi]
  · rw [List.getElem?_eq_none (by rw [List.length_range]; omega), List.getElem?_eq_none (by omega)]
    rfl
theorem leftI_at {gl row : List Int} {n : Nat} {w : Int} (h0 : 0 ≤ w) (h1 : w < n) : cnt (leftL gl (iota n) row) w = cnt gl w - row.count w := by
  unfold Rh.cnt leftL
  rw [List.getElem?_map, iota_get h0 h1]
  rfl

/-! turns of a mill: the order does not matter -/
theorem turnM_at {ls : List Ln} {fs : List (List Frm)} {Ld : List (List Int)} {w : Int} {i : Nat} : (turnM ls fs Ld w)[i]? = (Ld[i]?).map fun x => putAt ls w (madeM fs w (slotsM ls w Ld)) i (takeAt ls w i x) := by
  unfold turnM putM takeM
  rw [List.getElem?_mapIdx, List.getElem?_mapIdx, Option.map_map]
  rfl
theorem take_other {ls : List Ln} {w : Int} {i : Nat} {l : Ln} {x : List Int} (el : ls[i]? = some l) (h : l.t ≠ w) : takeAt ls w i x = x := by
  unfold takeAt
  rw [el]
  dsimp only
  rw [if_neg h]
theorem take_self_ {ls : List Ln} {w : Int} {i : Nat} {l : Ln} {x : List Int} (el : ls[i]? = some l) (h : l.t = w) : takeAt ls w i x = x.drop l.ta.toNat := by
  unfold takeAt
  rw [el]
  dsimp only
  rw [if_pos h]
theorem put_other {ls : List Ln} {w : Int} {i : Nat} {l : Ln} {x made : List Int} (el : ls[i]? = some l) (h : l.g ≠ w) : putAt ls w made i x = x := by
  unfold putAt
  rw [el]
  dsimp only
  rw [if_neg h]
theorem put_self_ {ls : List Ln} {w : Int} {i : Nat} {l : Ln} {x made : List Int} (el : ls[i]? = some l) (h : l.g = w) : putAt ls w made i x = x ++ (made.drop (giveU ls w i).toNat).take l.gi.toNat := by
  unfold putAt
  rw [el]
  dsimp only
  rw [if_pos h]
/-- another work's turn leaves ready what is ready, and leaves its slots -/
theorem ready_keep {ls : List Ln} {fs : List (List Frm)} {Ld : List (List Int)} {u w : Int} (hp : PosL ls) (hne : u ≠ w) (hl : Ld.length = ls.length) (hw : MReady ls Ld w) : MReady ls (turnM ls fs Ld u) w ∧ slotsM ls w (turnM ls fs Ld u) = slotsM ls w Ld := by
  have key : ∀ (i : Nat) l x, ls[i]? = some l → Ld[i]? = some x → l.t = w → ∃ a, (turnM ls fs Ld u)[i]? = some (x ++ a) := fun i l x el ex ht => by
    rw [turnM_at, ex]
    show ∃ a, some (putAt ls u _ i (takeAt ls u i x)) = some (x ++ a)
    rw [take_other el (by rw [ht]; exact fun z => hne z.symm)]
    by_cases hg : l.g = u
    · exact ⟨_, by rw [put_self_ el hg]⟩
    · exact ⟨[], by rw [put_other el hg, List.append_nil]⟩
  have tl : ∀ i : Nat, i < ls.length → ∃ x, Ld[i]? = some x := fun i hi => ⟨_, List.getElem?_eq_getElem (by omega)⟩
  constructor
  · intro i l y el ey ht
    obtain ⟨x, ex⟩ := tl i (List.getElem?_eq_some_iff.mp el).1
    obtain ⟨a, ea⟩ := key i l x el ex ht
    rw [ea] at ey
    cases ey
    have := hw i l x el ex ht
    rw [List.length_append]
    omega
  · unfold slotsM
    rw [List.flatMap_def, List.flatMap_def]
    congr 1
    refine List.map_congr_left fun b hb => ?_
    obtain ⟨l, b0, el, pl⟩ := spots_at hb
    have ht : l.t = w := of_decide_eq_true pl
    obtain ⟨x, ex⟩ := tl b.toNat (List.getElem?_eq_some_iff.mp el).1
    obtain ⟨a, ea⟩ := key _ l x el ex ht
    have hr := hw _ l x el ex ht
    have := (hp l (List.mem_of_getElem? el)).2
    unfold slot1
    rw [ea, ex, el]
    show (x ++ a).take l.ta.toNat = x.take l.ta.toNat
    rw [List.take_append_of_le_length (by omega)]
theorem turnM_len {ls : List Ln} {fs : List (List Frm)} {Ld : List (List Int)} {w : Int} : (turnM ls fs Ld w).length = Ld.length := by
  unfold turnM putM takeM
  rw [List.length_mapIdx, List.length_mapIdx]
theorem turn_swap {ls : List Ln} {fs : List (List Frm)} {Ld : List (List Int)} {u w : Int} (hp : PosL ls) (hne : u ≠ w) (hl : Ld.length = ls.length) (hu : MReady ls Ld u) (hw : MReady ls Ld w) : turnM ls fs (turnM ls fs Ld u) w = turnM ls fs (turnM ls fs Ld w) u := by
  have k1 := (ready_keep (fs := fs) hp hne hl hw).2
  have k2 := (ready_keep (fs := fs) hp (fun z => hne z.symm) hl hu).2
  refine List.ext_getElem? fun i => ?_
  rw [turnM_at, turnM_at, turnM_at, turnM_at, k1, k2, Option.map_map, Option.map_map]
  cases ex : Ld[i]? with
  | none => rfl
  | some x =>
    have hi := (List.getElem?_eq_some_iff.mp ex).1
    obtain ⟨l, el⟩ : ∃ l, ls[i]? = some l := ⟨_, List.getElem?_eq_getElem (by omega)⟩
    have hta := (hp l (List.mem_of_getElem? el)).2
    show some (putAt ls w _ i (takeAt ls w i (putAt ls u _ i (takeAt ls u i x)))) = some (putAt ls u _ i (takeAt ls u i (putAt ls w _ i (takeAt ls w i x))))
    congr 1
    have hne' : w ≠ u := fun z => hne z.symm
    by_cases g1 : l.g = u
    · have g2 : l.g ≠ w := by rw [g1]; exact hne
      by_cases t1 : l.t = u
      · have t2 : l.t ≠ w := by rw [t1]; exact hne
        simp only [put_self_ el g1, put_other el g2, take_self_ el t1, take_other el t2]
      · by_cases t2 : l.t = w
        · have hr := hw i l x el ex t2
          simp only [put_self_ el g1, put_other el g2, take_self_ el t2, take_other el t1]
          rw [List.drop_append_of_le_length (by omega)]
        · simp only [put_self_ el g1, put_other el g2, take_other el t1, take_other el t2]
    · by_cases g2 : l.g = w
      · by_cases t1 : l.t = u
        · have hr := hu i l x el ex t1
          have t2 : l.t ≠ w := by rw [t1]; exact hne
          simp only [put_self_ el g2, put_other el g1, take_self_ el t1, take_other el t2]
          rw [List.drop_append_of_le_length (by omega)]
        · by_cases t2 : l.t = w
          · simp only [put_self_ el g2, put_other el g1, take_self_ el t2, take_other el t1]
          · simp only [put_self_ el g2, put_other el g1, take_other el t1, take_other el t2]
      · by_cases t1 : l.t = u
        · have t2 : l.t ≠ w := by rw [t1]; exact hne
          simp only [put_other el g2, put_other el g1, take_self_ el t1, take_other el t2]
        · by_cases t2 : l.t = w
          · simp only [put_other el g2, put_other el g1, take_self_ el t2, take_other el t1]
          · simp only [put_other el g2, put_other el g1, take_other el t1, take_other el t2]
def En (ls : List Ln) (fs : List (List Frm)) : List (List Int) → List Int → Prop
  | _, [] => True
  | Ld, w :: r => MReady ls Ld w ∧ En ls fs (turnM ls fs Ld w) r
theorem en_app {ls : List Ln} {fs : List (List Frm)} : ∀ (a b : List Int) (Ld : List (List Int)), En ls fs Ld (a ++ b) ↔ En ls fs Ld a ∧ En ls fs (goM ls fs Ld a) b
  | [], b, Ld => ⟨fun h => ⟨trivial, h⟩, fun h => h.2⟩
  | w :: a, b, Ld => by
    show MReady ls Ld w ∧ En ls fs (turnM ls fs Ld w) (a ++ b) ↔ (MReady ls Ld w ∧ En ls fs (turnM ls fs Ld w) a) ∧ En ls fs (goM ls fs (turnM ls fs Ld w) a) b
    rw [en_app a b, and_assoc]
theorem go_app {ls : List Ln} {fs : List (List Frm)} : ∀ (a b : List Int) (Ld : List (List Int)), goM ls fs Ld (a ++ b) = goM ls fs (goM ls fs Ld a) b
  | [], _, _ => rfl
  | w :: a, b, Ld => go_app a b (turnM ls fs Ld w)
/-- a ready work may turn first -/
theorem front {ls : List Ln} {fs : List (List Frm)} {w : Int} (hp : PosL ls) : ∀ (pre : List Int) (Ld : List (List Int)), Ld.length = ls.length → w ∉ pre → MReady ls Ld w → En ls fs Ld pre → goM ls fs Ld (pre ++ [w]) = goM ls fs Ld (w :: pre) ∧ En ls fs (turnM ls fs Ld w) pre
  | [], _, _, _, _, _ => ⟨rfl, trivial⟩
  | v :: p, Ld, hl, hn, hw, he => by
    have hvw : v ≠ w := fun z => hn (by rw [z]; exact List.mem_cons_self)
    have hp2 : w ∉ p := fun z => hn (List.mem_cons_of_mem _ z)
    obtain ⟨h1, h2⟩ := he
    have hw2 := (ready_keep (fs := fs) hp hvw hl hw).1
    have hv2 := (ready_keep (fs := fs) hp (fun z => hvw z.symm) hl h1).1
    obtain ⟨i1, i2⟩ := front hp p (turnM ls fs Ld v) (turnM_len.trans hl) hp2 hw2 h2
    have hs := turn_swap (fs := fs) hp hvw hl h1 hw
    refine ⟨?_, hv2, ?_⟩
    · show goM ls fs (turnM ls fs Ld v) (p ++ [w]) = goM ls fs (turnM ls fs (turnM ls fs Ld w) v) p
      rw [i1, ← hs]
      rfl
    · rw [← hs]
      exact i2
theorem go_perm {ls : List Ln} {fs : List (List Frm)} (hp : PosL ls) : ∀ (r1 r2 : List Int) (Ld : List (List Int)), Ld.length = ls.length → r1.Perm r2 → En ls fs Ld r1 → En ls fs Ld r2 → goM ls fs Ld r1 = goM ls fs Ld r2
  | [], r2, Ld, _, h, _, _ => by rw [h.nil_eq]
  | w :: r1, r2, Ld, hl, h, h1, h2 => by
    have hm : w ∈ r2 := h.mem_iff.mp List.mem_cons_self
    obtain ⟨pre, post, rfl, hn⟩ := List.eq_append_cons_of_mem hm
    obtain ⟨hw, h1⟩ := h1
    obtain ⟨e1, e2⟩ := (en_app pre (w :: post) Ld).mp h2
    obtain ⟨f1, f2⟩ := front (fs := fs) hp pre Ld hl hn hw e1
    have f3 : goM ls fs (turnM ls fs Ld w) pre = turnM ls fs (goM ls fs Ld pre) w := by
      rw [← goM_snoc, f1]
      rfl
    have hperm : r1.Perm (pre ++ post) := (h.trans List.perm_middle).cons_inv
    have h3 : En ls fs (turnM ls fs Ld w) (pre ++ post) := (en_app pre post _).mpr ⟨f2, by rw [f3]; exact e2.2⟩
    have := go_perm hp r1 (pre ++ post) (turnM ls fs Ld w) (turnM_len.trans hl) hperm h1 h3
    show goM ls fs (turnM ls fs Ld w) r1 = _
    rw [this, go_app, f3, go_app]
    rfl
/-! how long the loads are -/
theorem giveW_app {a b : List Ln} {w : Int} : giveW (a ++ b) w = giveW a w + giveW b w := by
  unfold giveW
  rw [List.filter_append, List.map_append, List.sum_append]
theorem giveW_nn {ls : List Ln} {w : Int} (hp : PosL ls) : 0 ≤ giveW ls w := sum_nnI _ fun v hv => by
  obtain ⟨l, hl, rfl⟩ := List.mem_map.mp hv
  have := (hp l (List.mem_filter.mp hl).1).1
  omega
theorem giveU_le {ls : List Ln} {w : Int} {i : Nat} {l : Ln} (hp : PosL ls) (el : ls[i]? = some l) (hg : l.g = w) : 0 ≤ giveU ls w i ∧ giveU ls w i + l.gi ≤ giveW ls w := by
  obtain ⟨hi, e⟩ := List.getElem?_eq_some_iff.mp el
  have h1 : ls = ls.take i ++ (l :: ls.drop (i + 1)) := by
    rw [← e, ← List.drop_eq_getElem_cons hi, List.take_append_drop]
  have h2 : giveW ls w = giveU ls w i + giveW (l :: ls.drop (i + 1)) w := by
    conv => lhs; rw [h1, giveW_app]
    rfl
  have h3 : giveW (l :: ls.drop (i + 1)) w = l.gi + giveW (ls.drop (i + 1)) w := by
    unfold giveW
    rw [List.filter_cons, if_pos (decide_eq_true hg), List.map_cons, List.sum_cons]
  have h4 := giveW_nn (w := w) (ls := ls.drop (i + 1)) fun x hx => hp x (List.mem_of_mem_drop hx)
  have h5 := giveW_nn (w := w) (ls := ls.take i) fun x hx => hp x (List.mem_of_mem_take hx)
  unfold giveU at *
  omega
theorem turn_lens {ls : List Ln} {fs : List (List Frm)} {n : Nat} {Ld : List (List Int)} {row : List Int} {w : Int} (hp : PosL ls) (hf : FormsOk ls n fs) (hw : 0 ≤ w ∧ w < n) (hl : Ld.length = ls.length) (hr : MReady ls Ld w) (h : ∀ (i : Nat) l x, ls[i]? = some l → Ld[i]? = some x → (x.length : Int) = hpOf row l) : ∀ (i : Nat) l x, ls[i]? = some l → (turnM ls fs Ld w)[i]? = some x → (x.length : Int) = hpOf (row ++ [w]) l := fun i l y el ey => by
  have hi := (List.getElem?_eq_some_iff.mp el).1
  obtain ⟨x, ex⟩ : ∃ x, Ld[i]? = some x := ⟨_, List.getElem?_eq_getElem (by omega)⟩
  have hx := h i l x el ex
  rw [turnM_at, ex] at ey
  have ey : putAt ls w (madeM fs w (slotsM ls w Ld)) i (takeAt ls w i x) = y := Option.some.inj ey
  have hml : ((madeM fs w (slotsM ls w Ld)).length : Int) = giveW ls w := by
    obtain ⟨s, es⟩ : ∃ s, fs[w.toNat]? = some s := ⟨_, List.getElem?_eq_getElem (by have := hf.1; omega)⟩
    have := (hf.2 w.toNat s es).1
    rw [Int.toNat_of_nonneg hw.1] at this
    rw [← this]
    unfold madeM
    rw [es, List.length_map]
    rfl
  obtain ⟨q1, q2⟩ := hp l (List.mem_of_getElem? el)
  have ht : ((takeAt ls w i x).length : Int) = x.length - (if l.t = w then l.ta else 0) := by
    by_cases e : l.t = w
    · have := hr i l x el ex e
      rw [take_self_ el e, if_pos e, List.length_drop]
      omega
    · rw [take_other el e, if_neg e]
      omega
  have hy : (y.length : Int) = (takeAt ls w i x).length + (if l.g = w then l.gi else 0) := by
    rw [← ey]
    by_cases e : l.g = w
    · obtain ⟨u1, u2⟩ := giveU_le hp el e
      rw [put_self_ el e, if_pos e, List.length_append, List.length_take, List.length_drop]
      omega
    · rw [put_other el e, if_neg e]
      omega
  rw [hy, ht, hx]
  unfold hpOf
  rw [List.count_append, List.count_append]
  have c1 : (List.count l.g [w] : Int) = if l.g = w then 1 else 0 := by
    rw [List.count_singleton]
    by_cases e : l.g = w
    · simp [e]
    · have : ¬ w = l.g := fun z => e z.symm
      simp [e, this]
  have c2 : (List.count l.t [w] : Int) = if l.t = w then 1 else 0 := by
    rw [List.count_singleton]
    by_cases e : l.t = w
    · simp [e]
    · have : ¬ w = l.t := fun z => e z.symm
      simp [e, this]
  rw [Int.natCast_add, Int.natCast_add, c1, c2, Int.mul_add, Int.mul_add]
  split <;> split <;> simp <;> omega
/-! how great the pieces are -/
theorem fold_bt {B : Nat} {xs : List Int} (h3 : ∀ x ∈ xs, Bt B x) : ∀ (ts : List (Int × Int)) (acc : Int) (k : Nat), Bt (B + 3 + k) acc → (∀ p ∈ ts, Bt 3 p.2) → Bt (B + 3 + k + ts.length) (ts.foldl (fun a p => a + p.2 * cnt xs p.1) acc)
  | [], acc, k, h, _ => h
  | p :: ts, acc, k, h, h2 => by
    have hc : Bt B (cnt xs p.1) := by
      unfold Rh.cnt
      cases e : xs[p.1.toNat]? with
      | none =>
        show Bt B 0
        unfold Bt
        exact Nat.pow_pos (by decide)
      | some x => exact h3 x (List.mem_of_getElem? e)
    have hm : Bt (B + 3 + k) (p.2 * cnt xs p.1) := ((h2 p List.mem_cons_self).mul hc).mono (by omega)
    have := fold_bt h3 ts (acc + p.2 * cnt xs p.1) (k + 1) (h.add hm) fun q hq => h2 q (List.mem_cons_of_mem _ hq)
    rw [List.foldl_cons, List.length_cons]
    exact this.mono (by omega)
theorem fval_bt {B : Nat} {f : Frm} {xs : List Int} (h1 : Bt B f.1) (h2 : ∀ p ∈ f.2, Bt 3 p.2) (h3 : ∀ x ∈ xs, Bt B x) (hl : f.2.length ≤ 3) : Bt (B + 6) (fval f xs) :=
  (fold_bt h3 f.2 f.1 0 (h1.mono (by omega)) h2).mono (by omega)
theorem turn_bt {ls : List Ln} {fs : List (List Frm)} {Ld : List (List Int)} {w : Int} {B : Nat} (hf : ∀ x ∈ fs, ∀ f ∈ x, f.2.length ≤ 3 ∧ Bt B f.1 ∧ ∀ p ∈ f.2, Bt 3 p.2) (h : ∀ x ∈ Ld, ∀ v ∈ x, Bt B v) : ∀ x ∈ turnM ls fs Ld w, ∀ v ∈ x, Bt (B + 6) v := fun y hy v hv => by
  obtain ⟨i, hi, rfl⟩ := List.mem_iff_getElem.mp hy
  have e := List.getElem?_eq_getElem hi
  rw [turnM_at] at e
  cases ex : Ld[i]? with
  | none => rw [ex] at e; cases e
  | some x =>
    rw [ex] at e
    have e : putAt ls w (madeM fs w (slotsM ls w Ld)) i (takeAt ls w i x) = (turnM ls fs Ld w)[i] := Option.some.inj e
    rw [← e] at hv
    have hx := h x (List.mem_of_getElem? ex)
    have ht : ∀ u ∈ takeAt ls w i x, Bt B u := fun u hu => by
      unfold takeAt at hu
      split at hu
      · split at hu
        · exact hx u (List.mem_of_mem_drop hu)
        · exact hx u hu
      · exact hx u hu
    have hs : ∀ u ∈ slotsM ls w Ld, Bt B u := fun u hu => by
      unfold slotsM at hu
      obtain ⟨b, _, hb⟩ := List.mem_flatMap.mp hu
      unfold slot1 at hb
      have := List.mem_of_mem_take hb
      cases e2 : Ld[b.toNat]? with
      | none => rw [e2] at this; cases this
      | some z =>
        rw [e2] at this
        exact h z (List.mem_of_getElem? e2) u this
    have hm : ∀ u ∈ madeM fs w (slotsM ls w Ld), Bt (B + 6) u := fun u hu => by
      unfold madeM at hu
      obtain ⟨f, hf2, rfl⟩ := List.mem_map.mp hu
      cases e2 : fs[w.toNat]? with
      | none => rw [e2] at hf2; cases hf2
      | some z =>
        rw [e2] at hf2
        obtain ⟨q1, q2, q3⟩ := hf z (List.mem_of_getElem? e2) f hf2
        exact fval_bt q2 q3 hs q1
    unfold putAt at hv
    split at hv
    · split at hv
      · rcases List.mem_append.mp hv with z | z
        · exact (ht v z).mono (by omega)
        · exact hm v (List.mem_of_mem_drop (List.mem_of_mem_take z))
      · exact (ht v hv).mono (by omega)
    · exact (ht v hv).mono (by omega)
theorem mgo {ls : List Ln} {fs : List (List Frm)} {n B : Nat} {Ld : List (List Int)} {row : List Int} (hz : ls.length ≤ 1000) (hp : PosL ls) (hi : Inr (ends ls) n) (hf : FormsOk ls n fs) (hfl : ∀ x ∈ fs, x.length ≤ 10000 ∧ ∀ f ∈ x, f.2.length ≤ 3 ∧ Bt 110 f.1 ∧ ∀ p ∈ f.2, Bt 3 p.2) (hnw : ∀ w : Int, needW ls w ≤ 1000000) (hgb : ∀ l ∈ ls, Ln.gi l ≤ 10000 ∧ l.ta ≤ 10000) (hB : 110 ≤ B) (hB2 : B ≤ 1000) (hx : ∀ x ∈ Ld, ∀ v ∈ x, Bt B v) (hl : LoadsOk ls Ld) (hr : row.length ≤ 300) (hen : ∀ (k : Nat) w, row[k]? = some w → (0 ≤ w ∧ w < n) ∧ MReady ls (goM ls fs Ld (row.take k)) w) (hmax : ∀ l ∈ ls, ∀ k : Nat, hpOf (row.take k) l ≤ 10000000) : MGo ls fs n B row Ld := by
  have key : ∀ k : Nat, k ≤ row.length → (goM ls fs Ld (row.take k)).length = ls.length ∧ (∀ x ∈ goM ls fs Ld (row.take k), ∀ v ∈ x, Bt (B + 6 * k) v) ∧ ∀ (i : Nat) l x, ls[i]? = some l → (goM ls fs Ld (row.take k))[i]? = some x → (x.length : Int) = hpOf (row.take k) l := fun k => by
    induction k with
    | zero =>
      intro _
      refine ⟨hl.1, hx, fun i l x a b => ?_⟩
      have := hl.2 i l x a b
      rw [this]
      unfold hpOf
      simp
    | succ k ih =>
      intro hk
      obtain ⟨i1, i2, i3⟩ := ih (by omega)
      have ew : row[k]? = some row[k] := List.getElem?_eq_getElem (by omega)
      obtain ⟨w1, w2⟩ := hen k _ ew
      have et : row.take (k + 1) = row.take k ++ [row[k]] := by rw [List.take_add_one, ew]; rfl
      rw [et, goM_snoc]
      refine ⟨turnM_len.trans i1, fun x hx v hv => ?_, turn_lens hp hf w1 i1 w2 i3⟩
      have := turn_bt (B := B + 6 * k) (fun y hy f hf2 => by
        obtain ⟨_, q⟩ := hfl y hy
        obtain ⟨q1, q2, q3⟩ := q f hf2
        exact ⟨q1, q2.mono (by omega), q3⟩) i2 x hx v hv
      exact this.mono (by omega)
  refine ⟨fun k hk => ?_, hen⟩
  obtain ⟨i1, i2, i3⟩ := key k hk
  refine ⟨hz, hp, hi, hf, fun x hx => ⟨(hfl x hx).1, fun f hf2 => ?_⟩, hnw, hgb, fun x hx => ⟨?_, fun v hv => (i2 x hx v hv).mono (by omega)⟩, by omega⟩
  · obtain ⟨q1, q2, q3⟩ := (hfl x hx).2 f hf2
    exact ⟨by omega, q2.mono (by omega), fun p hp => (q3 p hp).mono (by omega)⟩
  · obtain ⟨i, hi2, rfl⟩ := List.mem_iff_getElem.mp hx
    have el : ls[i]? = some (ls[i]'(by omega)) := List.getElem?_eq_getElem (by omega)
    have h1 := i3 i _ _ el (List.getElem?_eq_getElem hi2)
    have h2 := hmax _ (List.mem_of_getElem? el) k
    omega
/-- the turns of a row that the counts allow are turns of the mill -/
theorem turns_en {ls : List Ln} {fs : List (List Frm)} {n : Nat} {gl row : List Int} {Ld : List (List Int)} (hp : PosL ls) (hf : FormsOk ls n fs) (hl : LoadsOk ls Ld) (hT : Turns ls gl n row) : ∀ (k : Nat) w, row[k]? = some w → (0 ≤ w ∧ w < n) ∧ MReady ls (goM ls fs Ld (row.take k)) w := by
  have rd : ∀ (pre : List Int) (L2 : List (List Int)) (w : Int), (∀ (i : Nat) l x, ls[i]? = some l → L2[i]? = some x → (x.length : Int) = hpOf pre l) → Can ls gl pre w → MReady ls L2 w := fun pre L2 w h hc i l x el ex ht => by
    have := rdy_hps.mp hc.2 l (List.mem_of_getElem? el) ht
    have h2 := h i l x el ex
    omega
  have key : ∀ k : Nat, k ≤ row.length → (goM ls fs Ld (row.take k)).length = ls.length ∧ ∀ (i : Nat) l x, ls[i]? = some l → (goM ls fs Ld (row.take k))[i]? = some x → (x.length : Int) = hpOf (row.take k) l := fun k => by
    induction k with
    | zero =>
      intro _
      refine ⟨hl.1, fun i l x a b => ?_⟩
      have := hl.2 i l x a b
      rw [this]
      unfold hpOf
      simp
    | succ k ih =>
      intro hk
      obtain ⟨i1, i3⟩ := ih (by omega)
      have ew : row[k]? = some row[k] := List.getElem?_eq_getElem (by omega)
      obtain ⟨w1, w2⟩ := hT k _ ew
      have et : row.take (k + 1) = row.take k ++ [row[k]] := by rw [List.take_add_one, ew]; rfl
      rw [et, goM_snoc]
      exact ⟨turnM_len.trans i1, turn_lens hp hf w1 i1 (rd _ _ _ i3 w2) i3⟩
  exact fun k w e => by
    obtain ⟨w1, w2⟩ := hT k w e
    exact ⟨w1, rd _ _ _ (key k (Nat.le_of_lt (List.getElem?_eq_some_iff.mp e).1)).2 w2⟩
theorem en_iff {ls : List Ln} {fs : List (List Frm)} : ∀ (row : List Int) (Ld : List (List Int)), (∀ (k : Nat) w, row[k]? = some w → MReady ls (goM ls fs Ld (row.take k)) w) → En ls fs Ld row
  | [], _, _ => trivial
  | w :: r, Ld, h => ⟨h 0 w rfl, en_iff r (turnM ls fs Ld w) fun k v e => h (k + 1) v e⟩
theorem turns_self {ls : List Ln} {gl : List Int} {n : Nat} {row : List Int} (h : Turns ls gl n row) : Turns ls (cL n row) n row := fun k w e => by
  obtain ⟨hw, hc⟩ := h k w e
  refine ⟨hw, ?_, hc.2⟩
  rw [cL_at hw.1 hw.2]
  have hk := (List.getElem?_eq_some_iff.mp e).1
  have e2 : row[k] = w := (List.getElem?_eq_some_iff.mp e).2
  have e1 : row = row.take k ++ row.drop k := (List.take_append_drop k row).symm
  have e3 : row.count w = (row.take k).count w + (row.drop k).count w := by
    rw [← List.count_append, List.take_append_drop]
  have e4 : 0 < (row.drop k).count w := List.count_pos_iff.mpr (by rw [List.drop_eq_getElem_cons hk, e2]; exact List.mem_cons_self)
  omega
theorem perm_cL {ls : List Ln} {g1 g2 : List Int} {n : Nat} {r1 r2 : List Int} (h1 : Turns ls g1 n r1) (h2 : Turns ls g2 n r2) (e : cL n r1 = cL n r2) : r1.Perm r2 := List.perm_iff_count.mpr fun w => by
  by_cases hw : 0 ≤ w ∧ w < n
  · have a := cL_at (row := r1) hw.1 hw.2
    have b := cL_at (row := r2) hw.1 hw.2
    rw [e] at a
    omega
  · rw [List.count_eq_zero_of_not_mem fun z => hw (h1.mem w z), List.count_eq_zero_of_not_mem fun z => hw (h2.mem w z)]
theorem MillAt.some_ {μ : Sto} {m pl : Addr} {ls : List Ln} {fs : List (List Frm)} {n : Nat} {qs : List Addr} {Ld : List (List Int)} (M : MillAt μ m pl ls fs n qs Ld) : ∀ a ∈ m :: pl :: qs, μ a ≠ none := fun a ha => by
  rcases List.mem_cons.mp ha with rfl | ha
  · rw [M.o]; exact fun z => nomatch z
  rcases List.mem_cons.mp ha with rfl | ha
  · rw [M.l]; exact fun z => nomatch z
  obtain ⟨i, hi, rfl⟩ := List.mem_iff_getElem.mp ha
  have := M.len
  rw [M.it i _ (Ld[i]'(by omega)) (List.getElem?_eq_getElem hi) (List.getElem?_eq_getElem (by omega))]
  exact fun z => nomatch z
/-- another mill is not touched -/
theorem MillAt.oth {μ μ' : Sto} {m pl : Addr} {ls : List Ln} {fs : List (List Frm)} {n : Nat} {qs : List Addr} {Ld : List (List Int)} (M : MillAt μ m pl ls fs n qs Ld) (fr : ∀ a ∈ m :: pl :: qs, ∀ o, μ a = some o → μ' a = some o) : MillAt μ' m pl ls fs n qs Ld :=
  ⟨⟨M.len, M.nd, fun i q x a b => fr q (List.mem_cons_of_mem _ (List.mem_cons_of_mem _ (List.mem_of_getElem? a))) _ (M.it i q x a b)⟩, fr m List.mem_cons_self _ M.o, fr pl (List.mem_cons_of_mem _ List.mem_cons_self) _ M.l, M.ll, M.np⟩
/-- two mills with nothing in common -/
def Apart (as : List Addr) (pl : Addr) (qs : List Addr) : Prop := ∀ a ∈ as, a ≠ pl ∧ a ∉ qs
theorem Apart.step {as : List Addr} {pl : Addr} {qs qs' : List Addr} {μ : Sto} (h : Apart as pl qs) (hs : ∀ a ∈ as, μ a ≠ none) (hq : ∀ q ∈ qs', q ∈ qs ∨ μ q = none) : Apart as pl qs' := fun a ha => ⟨(h a ha).1, fun z => by
  rcases hq a z with y | y
  · exact (h a ha).2 y
  · exact hs a ha y⟩
theorem eq_lsT {a b : List (List Int)} {neg : Bool} {μ : Sto} {R : RP} : tEq neg (lsT a) (lsT b) μ R = R (.bl (if neg = true then !decide (a = b) else decide (a = b))) μ :=
  @eq_hasE (List (List Int)) _ _ μ (lsT a) (lsT b) a b neg R (Has.of (x := (a : List (List Int))) fun _ _ _ _ => trivial) (Has.of (x := (b : List (List Int))) fun _ _ _ _ => trivial) rfl

abbrev n__law_common : Nat := 1000
def i__law_common : FnI := ⟨"_law_common", none, 1, 2, []⟩
def N__law_common : List Str := ["_law_one", "_law_other", "_law_rest"]
def c__law_common : List Sx := [.while_ (.cmp .NotEq (.var 1) (.cint 0)) [.asg (.nm 2) (.bin .Mod false (.var 0) (.var 1)),
 .asg (.nm 0) (.var 1),
 .asg (.nm 1) (.var 2)],
 .ret (.var 0)]
abbrev n__law_belt_by : Nat := 1001
def i__law_belt_by : FnI := ⟨"_law_belt_by", none, 2, 4, []⟩
def N__law_belt_by : List Str := ["_law_cell", "_law_rates", "_law_top", "_law_ample", "_law_mix", "_law_giver", "_law_taker", "_law_both", "_law_times_by", "_law_give", "_law_take", "_law_start"]
def c__law_belt_by : List Sx := [.asg (.nm 4) (.bin .Mod false (.bin .Mult false (.var 0) (.cint 48271)) (.cint 2147483647)),
 .asg (.nm 5) (.bin .Mod false (.var 4) (.bif .len false [(.var 1)])),
 .asg (.nm 6) (.bin .Mod false (.bin .FloorDiv false (.var 4) (.cint 7)) (.bif .len false [(.var 1)])),
 .asg (.nm 7) (.call n__law_common 0 [(.idx (.var 1) (.var 5)), (.idx (.var 1) (.var 6))]),
 .asg (.nm 8) (.bin .Add false (.cint 1) (.bin .Mod false (.bin .FloorDiv false (.var 4) (.cint 49)) (.var 2))),
 .asg (.nm 9) (.bin .FloorDiv false (.bin .Mult false (.var 8) (.idx (.var 1) (.var 6))) (.var 7)),
 .asg (.nm 10) (.bin .FloorDiv false (.bin .Mult false (.var 8) (.idx (.var 1) (.var 5))) (.var 7)),
 .asg (.nm 11) (.bin .Mod false (.bin .FloorDiv false (.var 4) (.cint 98)) (.cint 3)),
 .ife (.andor false [(.var 3), (.andor true [(.cmp .GtE (.var 5) (.var 6)), (.cmp .Gt (.bin .Mod false (.bin .FloorDiv false (.var 4) (.cint 294)) (.cint 4)) (.cint 0))])]) [.asg (.nm 11) (.bin .Add false (.var 11) (.bin .Mult false (.var 10) (.idx (.var 1) (.var 6))))] [],
 .ret (.tup [(.var 5), (.var 6), (.var 9), (.var 10), (.var 11)])]
abbrev n__law_cell_at : Nat := 1002
def i__law_cell_at : FnI := ⟨"_law_cell_at", none, 1, 2, []⟩
def N__law_cell_at : List Str := ["_law_script", "_law_k", "_law_lap", "_law_cell"]
def c__law_cell_at : List Sx := [.ife (.cmp .Eq (.bif .len false [(.var 0)]) (.cint 0)) [.ret (.cint 0)] [],
 .asg (.nm 2) (.bin .FloorDiv false (.var 1) (.bif .len false [(.var 0)])),
 .asg (.nm 3) (.idx (.var 0) (.bin .Mod false (.var 1) (.bif .len false [(.var 0)]))),
 .ife (.cmp .Eq (.var 2) (.cint 0)) [.ret (.var 3)] [],
 .ret (.bin .Add false (.bin .Mod false (.bin .Mult false (.var 3) (.bin .Add false (.bin .Mult false (.cint 2) (.var 2)) (.cint 1))) (.cint 1000003)) (.bin .Mult false (.cint 31) (.var 2)))]
abbrev n__law_form_by : Nat := 1003
def i__law_form_by : FnI := ⟨"_law_form_by", none, 1, 3, []⟩
def N__law_form_by : List Str := ["_law_cell", "_law_slots", "_law_great", "_law_mix", "_law_constant", "_law_terms", "_law_k"]
def c__law_form_by : List Sx := [.asg (.nm 3) (.bin .Mod false (.bin .Mult false (.var 0) (.cint 48271)) (.cint 2147483647)),
 .asg (.nm 4) (.bin .Sub false (.bin .Mod false (.var 3) (.cint 41)) (.cint 20)),
 .ife (.var 2) [.asg (.nm 4) (.bin .Sub false (.bin .Mod false (.var 0) (.bin .Mult false (.cint 2) (.cpow 10 29 100000000000000000000000000000))) (.cpow 10 29 100000000000000000000000000000))] [],
 .asg (.nm 5) (.lst true []),
 .for_ (.nm 6) .rng1 [(.bin .Mult false (.bin .Mod false (.bin .FloorDiv false (.var 3) (.cint 41)) (.cint 4)) (.bif .min2 false [(.var 1), (.cint 1)]))] [.expr (.lm .append (.var 5) [(.tup [(.bin .Mod false (.bin .FloorDiv false (.var 3) (.bin .Add false (.cint 164) (.bin .Mult false (.cint 5) (.var 6)))) (.var 1)), (.bin .Sub false (.bin .Mod false (.bin .FloorDiv false (.var 3) (.bin .Add false (.cint 7) (.bin .Mult false (.cint 2) (.var 6)))) (.cint 9)) (.cint 4))])])],
 .ret (.tup [(.var 4), (.bif .tuple false [(.var 5)])])]
abbrev n__law_forms_by : Nat := 1004
def i__law_forms_by : FnI := ⟨"_law_forms_by", none, 2, 5, []⟩
def N__law_forms_by : List Str := ["_law_script", "_law_at", "_law_belts", "_law_many", "_law_great", "_law_forms", "_law_work", "_law_slots", "_law_belt", "_law_given", "_law_some", "_law_k"]
def c__law_forms_by : List Sx := [.asg (.nm 5) (.lst true []),
 .for_ (.nm 6) .rng1 [(.var 3)] [.asg (.nm 7) (.bif .sum false [(.comp false [8] (.nm 8) .val [(.var 2)] (.cmp .Eq (.idx (.var 8) (.cint 1)) (.var 6)) (.idx (.var 8) (.cint 3)))]),
 .asg (.nm 9) (.bif .sum false [(.comp false [8] (.nm 8) .val [(.var 2)] (.cmp .Eq (.idx (.var 8) (.cint 0)) (.var 6)) (.idx (.var 8) (.cint 2)))]),
 .asg (.nm 10) (.lst true []),
 .for_ (.nm 11) .rng1 [(.var 9)] [.expr (.lm .append (.var 10) [(.call n__law_form_by 0 [(.call n__law_cell_at 0 [(.var 0), (.var 1)]), (.var 7), (.var 4)])]),
 .asg (.nm 1) (.bin .Add false (.var 1) (.cint 1))],
 .expr (.lm .append (.var 5) [(.bif .tuple false [(.var 10)])])],
 .ret (.var 5)]
abbrev n__law_made : Nat := 1005
def i__law_made : FnI := ⟨"_law_made", none, 3, 2, []⟩
def N__law_made : List Str := ["_law_names_here", "_law_belts", "_law_hall", "_law_name", "_law_giver", "_law_taker", "_law_give", "_law_take", "_law_start"]
def c__law_made : List Sx := [.asg (.nm 2) (.make 3 []),
 .for_ (.nm 3) .val [(.var 0)] [.expr (.meth n_Hall_work 0 (.var 2) [(.var 3)])],
 .for_ (.tup [(.nm 4), (.nm 5), (.nm 6), (.nm 7), (.nm 8)]) .val [(.var 1)] [.expr (.meth n_Hall_belt 0 (.var 2) [(.var 4), (.var 5), (.var 6), (.var 7), (.var 8)])],
 .ret (.var 2)]
abbrev n__law_names : Nat := 1006
def i__law_names : FnI := ⟨"_law_names", none, 1, 2, []⟩
def N__law_names : List Str := ["_law_cell", "_law_many", "_law_letters", "_law_long", "_law_at", "_law_some", "_law_k", "_law_word", "_law_place", "_law_turn"]
def c__law_names : List Sx := [.asg (.nm 2) (.cstr "abcdefghijklmnopqrstuvwxyz"),
 .asg (.nm 3) (.bin .Add false (.cint 1) (.bin .Mod false (.var 0) (.cint 8))),
 .asg (.nm 4) (.bin .Mod false (.bin .FloorDiv false (.var 0) (.cint 8)) (.var 3)),
 .asg (.nm 5) (.lst true []),
 .for_ (.nm 6) .rng1 [(.var 1)] [.asg (.nm 7) (.cstr ""),
 .for_ (.nm 8) .rng1 [(.var 3)] [.asg (.nm 9) (.bin .FloorDiv false (.var 0) (.bin .Add false (.cint 64) (.var 8))),
 .ife (.cmp .Eq (.var 8) (.var 4)) [.asg (.nm 9) (.bin .Add false (.bin .FloorDiv false (.var 0) (.cint 64)) (.bin .Mult false (.cint 3) (.var 6)))] [],
 .asg (.nm 7) (.bin .Add false (.var 7) (.idx (.var 2) (.bin .Mod false (.var 9) (.cint 26))))],
 .expr (.lm .append (.var 5) [(.var 7)])],
 .ret (.var 5)]
abbrev n__law_ready : Nat := 1007
def i__law_ready : FnI := ⟨"_law_ready", none, 1, 3, []⟩
def N__law_ready : List Str := ["_law_belts", "_law_lying", "_law_work", "_law_k", "_law_belt"]
def c__law_ready : List Sx := [.for_ (.tup [(.nm 3), (.nm 4)]) .enum [(.var 0)] [.ife (.andor true [(.cmp .Eq (.idx (.var 4) (.cint 1)) (.var 2)), (.cmp .Lt (.idx (.var 1) (.var 3)) (.idx (.var 4) (.cint 3)))]) [.ret (.cbl false)] []],
 .ret (.cbl true)]
abbrev n__law_turned : Nat := 1008
def i__law_turned : FnI := ⟨"_law_turned", none, 1, 3, []⟩
def N__law_turned : List Str := ["_law_belts", "_law_lying", "_law_work", "_law_k", "_law_belt"]
def c__law_turned : List Sx := [.for_ (.tup [(.nm 3), (.nm 4)]) .enum [(.var 0)] [.ife (.cmp .Eq (.idx (.var 4) (.cint 1)) (.var 2)) [.asgI (.var 1) (.var 3) (.bin .Sub false (.idx (.var 1) (.var 3)) (.idx (.var 4) (.cint 3)))] [],
 .ife (.cmp .Eq (.idx (.var 4) (.cint 0)) (.var 2)) [.asgI (.var 1) (.var 3) (.bin .Add false (.idx (.var 1) (.var 3)) (.idx (.var 4) (.cint 2)))] []]]
abbrev n__law_order : Nat := 1009
def i__law_order : FnI := ⟨"_law_order", none, 2, 3, []⟩
def N__law_order : List Str := ["_law_belts", "_law_counts", "_law_cells", "_law_lying", "_law_belt", "_law_left", "_law_row", "_law_step", "_law_some", "_law_work"]
def c__law_order : List Sx := [.asg (.nm 3) (.comp true [4] (.nm 4) .val [(.var 0)] (.cbl true) (.idx (.var 4) (.cint 4))),
 .asg (.nm 5) (.bif .list true [(.var 1)]),
 .asg (.nm 6) (.lst true []),
 .for_ (.nm 7) .rng1 [(.bif .sum false [(.var 1)])] [.asg (.nm 8) (.comp false [9] (.nm 9) .rng1 [(.bif .len false [(.var 1)])] (.andor true [(.cmp .Gt (.idx (.var 5) (.var 9)) (.cint 0)), (.call n__law_ready 0 [(.var 0), (.var 3), (.var 9)])]) (.var 9)),
 .ife (.cmp .Eq (.var 8) (.lst false [])) [.ret (.var 6)] [],
 .asg (.nm 9) (.idx (.var 8) (.bin .Mod false (.bin .FloorDiv false (.bin .Mod false (.bin .Mult false (.call n__law_cell_at 0 [(.var 2), (.var 7)]) (.cint 48271)) (.cint 2147483647)) (.cint 5)) (.bif .len false [(.var 8)]))),
 .expr (.call n__law_turned 0 [(.var 0), (.var 3), (.var 9)]),
 .asgI (.var 5) (.var 9) (.bin .Sub false (.idx (.var 5) (.var 9)) (.cint 1)),
 .expr (.lm .append (.var 6) [(.var 9)])],
 .ret (.var 6)]
abbrev n__law_pieces_by : Nat := 1010
def i__law_pieces_by : FnI := ⟨"_law_pieces_by", none, 2, 3, []⟩
def N__law_pieces_by : List Str := ["_law_script", "_law_at", "_law_belts", "_law_pieces", "_law_belt", "_law_some", "_law_k"]
def c__law_pieces_by : List Sx := [.asg (.nm 3) (.lst true []),
 .for_ (.nm 4) .val [(.var 2)] [.asg (.nm 5) (.lst true []),
 .for_ (.nm 6) .rng1 [(.idx (.var 4) (.cint 4))] [.expr (.lm .append (.var 5) [(.bin .Sub false (.bin .Mod false (.call n__law_cell_at 0 [(.var 0), (.var 1)]) (.bin .Mult false (.cint 2) (.cpow 10 29 100000000000000000000000000000))) (.bin .Mult false (.cpow 10 29 100000000000000000000000000000) (.bin .Mod false (.var 6) (.cint 2))))]),
 .asg (.nm 1) (.bin .Add false (.var 1) (.cint 1))],
 .wk,
 .expr (.lm .append (.var 3) [(.var 5)])],
 .ret (.var 3)]
abbrev n_law : Nat := 1011
def i_law : FnI := ⟨"law", none, 7, 1, []⟩
def N_law : List Str := ["_law_script", "_law_first", "_law_many", "_law_rates", "_law_k", "_law_belts", "_law_belt", "_law_forms", "_law_pieces", "_law_counts", "_law_rate", "_law_row", "_law_work", "_law_other", "_law_hall", "_law_one", "_law_two", "_law_found"]
def c_law : List Sx := [.asg (.nm 1) (.call n__law_cell_at 0 [(.var 0), (.cint 0)]),
 .asg (.nm 2) (.bin .Add false (.cint 1) (.bin .Mod false (.var 1) (.cint 5))),
 .asg (.nm 3) (.comp false [4] (.nm 4) .rng1 [(.var 2)] (.cbl true) (.bin .Add false (.cint 1) (.bin .Mod false (.call n__law_cell_at 0 [(.var 0), (.bin .Add false (.cint 2) (.var 4))]) (.cint 3)))),
 .asg (.nm 5) (.lst true []),
 .for_ (.nm 4) .rng1 [(.bin .Mod false (.bin .FloorDiv false (.var 1) (.cint 5)) (.cint 7))] [.expr (.lm .append (.var 5) [(.call n__law_belt_by 0 [(.call n__law_cell_at 0 [(.var 0), (.bin .Add false (.cint 7) (.var 4))]), (.var 3), (.cint 2), (.cmp .Eq (.bin .Mod false (.bin .FloorDiv false (.var 1) (.cint 35)) (.cint 2)) (.cint 1))])])],
 .wk,
 .ife (.cmp .Eq (.bin .Mod false (.bin .FloorDiv false (.var 1) (.cint 70)) (.cint 4)) (.cint 3)) [.asg (.nm 5) (.comp false [6] (.nm 6) .val [(.var 5)] (.cbl true) (.tup [(.idx (.var 6) (.cint 0)), (.idx (.var 6) (.cint 1)), (.idx (.var 6) (.cint 2)), (.bin .Add false (.cint 1) (.bin .Mod false (.idx (.var 6) (.cint 3)) (.cint 3))), (.idx (.var 6) (.cint 4))]))] [],
 .asg (.nm 7) (.call n__law_forms_by 0 [(.var 0), (.cint 12), (.var 5), (.var 2), (.cmp .Eq (.bin .Mod false (.bin .FloorDiv false (.var 1) (.cint 280)) (.cint 2)) (.cint 1))]),
 .asg (.nm 8) (.call n__law_pieces_by 0 [(.var 0), (.cint 19), (.var 5)]),
 .asg (.nm 9) (.comp false [10] (.nm 10) .val [(.var 3)] (.cbl true) (.bin .Mult false (.bin .Add false (.cint 1) (.bin .Mod false (.bin .FloorDiv false (.var 1) (.cint 9)) (.cint 3))) (.var 10))),
 .asg (.nm 11) (.call n__law_order 0 [(.var 5), (.var 9), (.bif .list false [(.slice false (.var 0) (.cint 2) .cnon)])]),
 .asg (.nm 9) (.comp false [12] (.nm 12) .rng1 [(.var 2)] (.cbl true) (.lm .count (.var 11) [(.var 12)])),
 .asg (.nm 13) (.call n__law_order 0 [(.var 5), (.var 9), (.lrev false (.var 0))]),
 .asg (.nm 14) (.call n__law_made 0 [(.call n__law_names 0 [(.call n__law_cell_at 0 [(.var 0), (.cint 1)]), (.var 2)]), (.var 5)]),
 .asg (.nm 15) (.make 5 [(.var 14), (.var 7), (.var 8)]),
 .asg (.nm 16) (.make 5 [(.var 14), (.var 7), (.var 8)]),
 .expr (.meth n_Mill_go 0 (.var 15) [(.var 11)]),
 .for_ (.nm 12) .val [(.var 13)] [.expr (.meth n_Mill_turn 0 (.var 16) [(.var 12)])],
 .asg (.nm 17) (.meth n_Mill_lying 0 (.var 15) []),
 .ife (.andor false [(.cmp .NotEq (.comp false [12] (.nm 12) .rng1 [(.var 2)] (.cbl true) (.lm .count (.var 13) [(.var 12)])) (.var 9)), (.not (.isi ["list"] (.var 17)))]) [.ret (.cbl false)] [],
 .ret (.andor true [(.cmp .Eq (.var 17) (.meth n_Mill_lying 0 (.var 16) [])), (.cmp .Eq (.bif .len false [(.var 17)]) (.bif .len false [(.var 5)]))])]

def S__law_common : TSp := fun ts μ F R => ∃ a b : Int, ts = [.int a, .int b] ∧ 0 ≤ a ∧ 0 ≤ b ∧ R (.int (Int.gcd a b)) μ
structure A__law_common (G : Tab) (Γ : Nat → TSp) : Prop where
  triv : True
abbrev B__law_common (G : Tab) (Γ : Nat → TSp) : Prop := ∀ ts μ F R, S__law_common ts μ F R → denSs G Γ c__law_common (bodyD R F) (startT N__law_common.length ts) μ
theorem body__law_common {G : Tab} {Γ : Nat → TSp} (A : A__law_common G Γ) : B__law_common G Γ := by
  rintro ts μ F R ⟨a, b, rfl, ha, hb, h⟩
  unfold c__law_common
  simp only [Rh.startT, List.length_cons, List.length_nil, List.map_cons, List.map_nil, List.replicate, List.cons_append, List.nil_append, Nat.reduceAdd, Nat.reduceSub, N__law_common]
  apply e_cons
  refine e_while (fun m ρ μ' => ∃ (x y : Int) (o : Option T), ρ = [some (.int x), some (.int y), o] ∧ 0 ≤ x ∧ 0 ≤ y ∧ Int.gcd x y = Int.gcd a b ∧ m = y.toNat ∧ μ' = μ) b.toNat ⟨a, b, _, rfl, ha, hb, rfl, rfl, rfl⟩ ?_
  rintro m ρ μ' ⟨x, y, o, rfl, hx, hy, e, rfl, rfl⟩
  simp_arith []
  by_cases hy0 : y = 0
  · subst hy0
    simp only [decide_true, Bool.not_true, Bool.false_eq_true, if_false]
    apply e_cons; simp only [denS]; (try simp_arith []); repeat ((with_reducible refine And.intro ?_ ?_); omega)
    refine fin_id ?_
    have : (Int.gcd x 0 : Int) = x := by rw [Int.gcd_zero_right]; omega
    rw [← e, this] at h
    exact h
  · simp only [hy0, decide_false, Bool.not_false, if_true]
    apply e_cons; simp only [denS]; (try simp_arith []); repeat ((with_reducible refine And.intro ?_ ?_); omega)
    apply e_cons; simp only [denS]; (try simp_arith []); repeat ((with_reducible refine And.intro ?_ ?_); omega)
    apply e_cons; simp only [denS]; (try simp_arith []); repeat ((with_reducible refine And.intro ?_ ?_); omega)
    have h1 := Int.emod_lt_of_pos x (show 0 < y by omega)
    have h2 := Int.emod_nonneg x (show y ≠ 0 by omega)
    exact ⟨_, _, Wk.refl _ _, _, (by omega : (x % y).toNat < y.toNat), y, x % y, _, rfl, hy, h2, (gcd_step hx hy).trans e, rfl, rfl⟩
def S__law_belt_by : TSp := fun ts μ F R => ∃ (c : Int) (t : T) (rs : List Int) (n : Nat) (amp : Bool), ts = [.int c, t, .int 2, .bl amp] ∧ LstAt μ t (rs.map T.int) ∧ SzL n rs 1000 ∧ 0 < n ∧ n ≤ 31 ∧ ∀ l : Ln, LR n rs 2 l → R l.tr μ
structure A__law_belt_by (G : Tab) (Γ : Nat → TSp) : Prop where
  f__law_common : G.fn n__law_common = some i__law_common
  g__law_common : Γ n__law_common = S__law_common
abbrev B__law_belt_by (G : Tab) (Γ : Nat → TSp) : Prop := ∀ ts μ F R, S__law_belt_by ts μ F R → denSs G Γ c__law_belt_by (bodyD R F) (startT N__law_belt_by.length ts) μ
theorem body__law_belt_by {G : Tab} {Γ : Nat → TSp} (A : A__law_belt_by G Γ) : B__law_belt_by G Γ := by
  rintro ts μ F R ⟨c, t, rs, n, amp, rfl, ht, hs, hn0, hn1, hR⟩
  unfold c__law_belt_by
  simp only [Rh.startT, List.length_cons, List.length_nil, List.map_cons, List.map_nil, List.replicate, List.cons_append, List.nil_append, Nat.reduceAdd, Nat.reduceSub, N__law_belt_by]
  have hl := hs.len
  have e1 : ∀ R : RP, tLen t μ R = R (.int n) μ := fun R => by rw [len_at ht, List.length_map, hl]
  have e2 : ∀ (i : Int) (R : RP), 0 ≤ i → i < n → tIdx t (.int i) μ R = R (.int (cnt rs i)) μ := fun i R a b => li ht a (by omega) R
  have hp : (0 : Int) < n := by omega
  apply e_cons; simp only [denS]; (try simp_arith [A.f__law_common, A.g__law_common, S__law_common, i__law_common]); repeat ((with_reducible refine And.intro ?_ ?_); omega)
  generalize c * 48271 % 2147483647 = m
  have q0 := Int.emod_nonneg m (show (n : Int) ≠ 0 by omega)
  have q1 := Int.emod_lt_of_pos m hp
  have q2 := Int.emod_nonneg (m / 7) (show (n : Int) ≠ 0 by omega)
  have q3 := Int.emod_lt_of_pos (m / 7) hp
  have q4 := Int.emod_nonneg (m / 49) (show (2 : Int) ≠ 0 by decide)
  have q5 := Int.emod_lt_of_pos (m / 49) (show (0 : Int) < 2 by decide)
  have q6 := Int.emod_nonneg (m / 98) (show (3 : Int) ≠ 0 by decide)
  have q7 := Int.emod_lt_of_pos (m / 98) (show (0 : Int) < 3 by decide)
  apply e_cons; simp only [denS]; (try simp_arith [A.f__law_common, A.g__law_common, S__law_common, i__law_common, e1]); repeat ((with_reducible refine And.intro ?_ ?_); omega)
  apply e_cons; simp only [denS]; (try simp_arith [A.f__law_common, A.g__law_common, S__law_common, i__law_common, e1]); repeat ((with_reducible refine And.intro ?_ ?_); omega)
  generalize m % (n : Int) = g at q0 q1 ⊢
  generalize m / 7 % (n : Int) = tk at q2 q3 ⊢
  obtain ⟨a1, a2⟩ := hs.at_ g q0 q1
  obtain ⟨b1, b2⟩ := hs.at_ tk q2 q3
  have ix1 := fun R => e2 g R q0 q1
  have ix2 := fun R => e2 tk R q2 q3
  apply e_cons; simp only [denS]; (try simp_arith [A.f__law_common, A.g__law_common, S__law_common, i__law_common, ix1, ix2]); repeat ((with_reducible refine And.intro ?_ ?_); omega)
  apply e_cons; simp only [denS]; (try simp_arith [A.f__law_common, A.g__law_common, S__law_common, i__law_common]); repeat ((with_reducible refine And.intro ?_ ?_); omega)
  have htb1 : 1 ≤ 1 + m / 49 % 2 := by omega
  have htb2 : 1 + m / 49 % 2 ≤ 2 := by omega
  generalize 1 + m / 49 % 2 = tb at htb1 htb2 ⊢
  obtain ⟨k1, k2, k3, k4, k5⟩ := lr_parts (top := 2) (tb := tb) a1 b1 htb1 htb2
  have hg : (0 : Int) < Int.gcd (cnt rs g) (cnt rs tk) := gcd_pos (.inl (by omega))
  have hg2 : (Int.gcd (cnt rs g) (cnt rs tk) : Int) ≤ 1000 := Int.le_trans (Int.le_of_dvd (by omega) (Int.gcd_dvd_left _ _)) a2
  have cd : ∀ i, CDivW i (Int.gcd (cnt rs g) (cnt rs tk) : Int) = True := fun i => cdiv_lit hg (by omega)
  have m1 : MulOk tb (cnt rs tk) = True := mul_litR (by omega) (by omega)
  have m2 : MulOk tb (cnt rs g) = True := mul_litR (by omega) (by omega)
  apply e_cons; simp only [denS]; (try simp_arith [A.f__law_common, A.g__law_common, S__law_common, i__law_common, ix2, m1, cd]); repeat ((with_reducible refine And.intro ?_ ?_); omega)
  apply e_cons; simp only [denS]; (try simp_arith [A.f__law_common, A.g__law_common, S__law_common, i__law_common, ix1, m2, cd]); repeat ((with_reducible refine And.intro ?_ ?_); omega)
  generalize tb * cnt rs tk / (Int.gcd (cnt rs g) (cnt rs tk) : Int) = gi at k1 k2 k5 ⊢
  generalize tb * cnt rs g / (Int.gcd (cnt rs g) (cnt rs tk) : Int) = ta at k3 k4 k5 ⊢
  apply e_cons; simp only [denS]; (try simp_arith [A.f__law_common, A.g__law_common, S__law_common, i__law_common]); repeat ((with_reducible refine And.intro ?_ ?_); omega)
  have m3 : MulOk ta (cnt rs tk) = True := mul_litR (by omega) (by omega)
  have n0 : 0 ≤ ta * cnt rs tk := Int.mul_nonneg (by omega) (by omega)
  apply e_cons
  refine e_join (fun ρ μ' => ∃ s5 : Int, ρ = [some (.int c), some t, some (.int 2), some (.bl amp), some (.int m), some (.int g), some (.int tk), some (.int (Int.gcd (cnt rs g) (cnt rs tk))), some (.int tb), some (.int gi), some (.int ta), some (.int s5)] ∧ 0 ≤ s5 ∧ s5 ≤ 2 + ta * cnt rs tk ∧ μ' = μ) ?_ ?_
  case refine_2 =>
    have hA : ∀ (D : SEnds), (∀ s5 : Int, 0 ≤ s5 → s5 ≤ 2 + ta * cnt rs tk → D.nx [some (.int c), some t, some (.int 2), some (.bl amp), some (.int m), some (.int g), some (.int tk), some (.int (Int.gcd (cnt rs g) (cnt rs tk))), some (.int tb), some (.int gi), some (.int ta), some (.int s5)] μ) → denSs G Γ [Sx.asg (Tg.nm 11) (Ex.bin Operator.Add false (Ex.var 11) (Ex.bin Operator.Mult false (Ex.var 10) ((Ex.var 1).idx (Ex.var 6))))] D [some (.int c), some t, some (.int 2), some (.bl amp), some (.int m), some (.int g), some (.int tk), some (.int (Int.gcd (cnt rs g) (cnt rs tk))), some (.int tb), some (.int gi), some (.int ta), some (.int (m / 98 % 3))] μ := fun D hD => by
      apply e_cons; simp only [denS]; (try simp_arith [A.f__law_common, A.g__law_common, S__law_common, i__law_common, ix2, m3]); repeat ((with_reducible refine And.intro ?_ ?_); omega)
      exact hD _ (by omega) (by omega)
    simp_arith [A.f__law_common, A.g__law_common, S__law_common, i__law_common]
    cases amp
    all_goals
      simp only [Bool.false_eq_true, if_true, if_false]
      repeat' split
      all_goals first
        | omega
        | (refine hA _ ?_; exact fun s5 a b => ⟨s5, rfl, a, b, rfl⟩)
  rintro ρ μ' ⟨s5, rfl, z0, z1, rfl⟩
  apply e_cons; simp only [denS]; (try simp_arith [A.f__law_common, A.g__law_common, S__law_common, i__law_common]); repeat ((with_reducible refine And.intro ?_ ?_); omega)
  exact fin_id (hR ⟨g, tk, gi, ta, s5⟩ ⟨q0, q1, q2, q3, k1, k3, z0, k5, k2, k4, z1⟩)
def S__law_cell_at : TSp := fun ts μ F R => ∃ (t : T) (ns : List Int) (k : Int), ts = [t, .int k] ∧ RdL t ns ∧ ns.length ≤ 1000 ∧ 0 ≤ k ∧ k ≤ 100000 ∧ ∀ x : Int, R (.int x) μ
structure A__law_cell_at (G : Tab) (Γ : Nat → TSp) : Prop where
  triv : True
abbrev B__law_cell_at (G : Tab) (Γ : Nat → TSp) : Prop := ∀ ts μ F R, S__law_cell_at ts μ F R → denSs G Γ c__law_cell_at (bodyD R F) (startT N__law_cell_at.length ts) μ
theorem body__law_cell_at {G : Tab} {Γ : Nat → TSp} (A : A__law_cell_at G Γ) : B__law_cell_at G Γ := by
  rintro ts μ F R ⟨t, ns, k, rfl, ht, hl, hk0, hk1, hR⟩
  unfold c__law_cell_at
  simp only [Rh.startT, List.length_cons, List.length_nil, List.map_cons, List.map_nil, List.replicate, List.cons_append, List.nil_append, Nat.reduceAdd, Nat.reduceSub, N__law_cell_at]
  have e1 : ∀ R : RP, tLen t μ R = R (.int ns.length) μ := fun R => by rcases ht with rfl | rfl <;> simp only [ln_scr, ln_lst, List.length_map]
  have e2 : ∀ (i : Int) (R : RP), 0 ≤ i → i < ns.length → tIdx t (.int i) μ R = R (.int (cnt ns i)) μ := fun i R a b => by
    have := at_cnt a b
    rcases ht with rfl | rfl <;> simp only [ix_scr, ix_lst, T.int.injEq, exists_and_left, exists_eq_left', this, Option.some.injEq]
  apply e_cons; apply e_ife; simp_arith [e1]; repeat ((with_reducible refine And.intro ?_ ?_); omega)
  by_cases h0 : (ns.length : Int) = 0
  · rw [if_pos h0]
    apply e_cons; simp only [denS]; (try simp_arith []); repeat ((with_reducible refine And.intro ?_ ?_); omega)
    exact fin_id (hR _)
  rw [if_neg h0]
  have hp : (0 : Int) < ns.length := by omega
  have cd : CDivW k ns.length = True := cdiv_lit hp (by omega)
  have q0 := Int.emod_nonneg k h0
  have q1 := Int.emod_lt_of_pos k hp
  have q2 : k / (ns.length : Int) ≤ 100000 := by
    have := Int.ediv_le_self (ns.length : Int) hk0
    omega
  have q3 : 0 ≤ k / (ns.length : Int) := Int.ediv_nonneg hk0 (by omega)
  apply e_cons; simp only [denS]; (try simp_arith [e1, cd]); repeat ((with_reducible refine And.intro ?_ ?_); omega)
  apply e_cons; simp only [denS]; (try simp_arith [e1, e2 _ _ q0 q1]); repeat ((with_reducible refine And.intro ?_ ?_); omega)
  try (refine ⟨hp, ?_⟩; rw [e2 _ _ q0 q1])
  apply e_cons; apply e_ife; simp_arith []; repeat ((with_reducible refine And.intro ?_ ?_); omega)
  generalize cnt ns (k % (ns.length : Int)) = c
  generalize k / (ns.length : Int) = lap at q2 q3
  by_cases h1 : lap = 0
  · rw [if_pos h1]
    apply e_cons; simp only [denS]; (try simp_arith []); repeat ((with_reducible refine And.intro ?_ ?_); omega)
    exact fin_id (hR _)
  rw [if_neg h1]
  have ml : MulOk c (2 * lap + 1) = True := mul_litR (by omega) (by omega)
  apply e_cons; simp only [denS]; (try simp_arith [ml]); repeat ((with_reducible refine And.intro ?_ ?_); omega)
  exact fin_id (hR _)
structure FmB (slots : Int) (f : Frm) : Prop where
  c : Bt 110 f.1
  l : f.2.length ≤ 3
  t : ∀ p ∈ f.2, (0 ≤ p.1 ∧ p.1 < slots) ∧ -4 ≤ p.2 ∧ p.2 ≤ 4
theorem bt110 {a : Int} (h : -200000000000000000000000000000 ≤ a) (h2 : a ≤ 200000000000000000000000000000) : Bt 110 a := by
  unfold Bt
  exact Nat.lt_of_le_of_lt (show a.natAbs ≤ 200000000000000000000000000000 by omega) (by decide)
def S__law_form_by : TSp := fun ts μ F R => ∃ (c s : Int) (g : Bool), ts = [.int c, .int s, .bl g] ∧ 0 ≤ s ∧ ∀ f : Frm, FmB s f → R (frT f) μ
structure A__law_form_by (G : Tab) (Γ : Nat → TSp) : Prop where
  triv : True
abbrev B__law_form_by (G : Tab) (Γ : Nat → TSp) : Prop := ∀ ts μ F R, S__law_form_by ts μ F R → denSs G Γ c__law_form_by (bodyD R F) (startT N__law_form_by.length ts) μ
theorem body__law_form_by {G : Tab} {Γ : Nat → TSp} (A : A__law_form_by G Γ) : B__law_form_by G Γ := by
  rintro ts μ F R ⟨c, s, g, rfl, hs, hR⟩
  unfold c__law_form_by
  simp only [Rh.startT, List.length_cons, List.length_nil, List.map_cons, List.map_nil, List.replicate, List.cons_append, List.nil_append, Nat.reduceAdd, Nat.reduceSub, N__law_form_by]
  have w0 := Int.emod_nonneg (c * 48271) (show (2147483647 : Int) ≠ 0 by decide)
  apply e_cons; simp only [denS]; (try simp_arith [mul_litR]); repeat ((with_reducible refine And.intro ?_ ?_); omega)
  apply e_cons; simp only [denS]; (try simp_arith []); repeat ((with_reducible refine And.intro ?_ ?_); omega)
  generalize c * 48271 % 2147483647 = mx at w0 ⊢
  have y0 := Int.emod_nonneg mx (show (41 : Int) ≠ 0 by decide)
  have y1 := Int.emod_lt_of_pos mx (show (0 : Int) < 41 by decide)
  apply e_cons
  refine e_join (fun ρ μ2 => ∃ k : Int, ρ = [some (.int c), some (.int s), some (.bl g), some (.int mx), some (.int k), none, none] ∧ -200000000000000000000000000000 ≤ k ∧ k ≤ 200000000000000000000000000000 ∧ μ2 = μ) ?_ ?_
  case refine_2 =>
    cases g
    · simp_arith []
      omega
    · simp_arith []
      apply e_cons; simp only [denS]; (try simp_arith []); repeat ((with_reducible refine And.intro ?_ ?_); omega)
      have z0 := Int.emod_nonneg c (show (200000000000000000000000000000 : Int) ≠ 0 by decide)
      have z1 := Int.emod_lt_of_pos c (show (0 : Int) < 200000000000000000000000000000 by decide)
      omega
  rintro ρ μ2 ⟨k, rfl, k0, k1, rfl⟩
  apply e_cons; simp only [denS]; (try simp_arith []); repeat ((with_reducible refine And.intro ?_ ?_); omega)
  intro p hp
  have y2 := Int.emod_nonneg (mx / 41) (show (4 : Int) ≠ 0 by decide)
  have y3 := Int.emod_lt_of_pos (mx / 41) (show (0 : Int) < 4 by decide)
  have hN : ∃ N : Nat, mx / 41 % 4 * (if 1 < s then 1 else s) = N ∧ N ≤ 3 ∧ (0 < N → 1 ≤ s) := by
    split
    · exact ⟨(mx / 41 % 4).toNat, by omega, by omega, fun _ => by omega⟩
    · by_cases h : s = 1
      · subst h
        exact ⟨(mx / 41 % 4).toNat, by omega, by omega, fun _ => by omega⟩
      · have : s = 0 := by omega
        subst this
        exact ⟨0, by omega, by omega, fun z => absurd z (by omega)⟩
  obtain ⟨N, eN, n3, ns⟩ := hN
  have mN : Rh.MulOk (mx / 41 % 4) (if 1 < s then (1 : Int) else s) = True := by
    split
    · exact mul_litR (by omega) (by omega)
    · exact mul_litR (by omega) (by omega)
  apply e_cons; simp only [denS]; (try simp_arith []); repeat ((with_reducible refine And.intro ?_ ?_); omega)
  rw [eN, Int.toNat_natCast]
  refine ⟨of_eq_true mN, by omega, by omega, ?_⟩
  refine for_rng (fun j ρ μ3 => ∃ xs : List (Int × Int), (∃ o6, ρ = [some (.int c), some (.int s), some (.bl g), some (.int mx), some (.int k), some (.own p), o6]) ∧ μ3 = μ2.set p (.lst (xs.map tmT)) ∧ xs.length = j ∧ ∀ q ∈ xs, (0 ≤ q.1 ∧ q.1 < s) ∧ -4 ≤ q.2 ∧ q.2 ≤ 4) ⟨[], ⟨_, rfl⟩, rfl, rfl, fun q hq => (nomatch hq)⟩ ?_ ?_
  · rintro ρ μ3 ⟨xs, ⟨o6, rfl⟩, rfl, hxl, hxs⟩
    refine ⟨trivial, ?_⟩
    apply e_cons; simp only [denS]; (try simp_arith []); repeat ((with_reducible refine And.intro ?_ ?_); omega)
    exact fin_sub _ (Rh.Sub.set_none hp) (hR (k, xs) ⟨bt110 k0 k1, by show xs.length ≤ 3; omega, hxs⟩)
  rintro j ρ μ3 hj ⟨xs, ⟨o6, rfl⟩, rfl, hxl, hxs⟩
  refine ⟨trivial, ?_⟩
  have hs1 := ns (by omega)
  have c1 : ∀ i, CDivW i (164 + 5 * (j : Int)) = True := fun i => cdiv_lit (by omega) (by omega)
  have c2 : ∀ i, CDivW i (7 + 2 * (j : Int)) = True := fun i => cdiv_lit (by omega) (by omega)
  have v1 := Int.emod_nonneg (mx / (164 + 5 * (j : Int))) (show s ≠ 0 by omega)
  have v2 := Int.emod_lt_of_pos (mx / (164 + 5 * (j : Int))) (show 0 < s by omega)
  have v3 := Int.emod_nonneg (mx / (7 + 2 * (j : Int))) (show (9 : Int) ≠ 0 by decide)
  have v4 := Int.emod_lt_of_pos (mx / (7 + 2 * (j : Int))) (show (0 : Int) < 9 by decide)
  simp_arith []
  apply e_cons; simp only [denS]; (try simp_arith [c1, c2]); repeat ((with_reducible refine And.intro ?_ ?_); omega)
  refine ⟨_, _, .refl _ _, ⟨_, rfl⟩, xs ++ [(mx / (164 + 5 * (j : Int)) % s, mx / (7 + 2 * (j : Int)) % 9 - 4)], by rw [set_set, List.map_append]; rfl, by rw [List.length_append, hxl]; rfl, fun q hq => ?_⟩
  rcases List.mem_append.mp hq with z | z
  · have := hxs q z
    omega
  · cases List.mem_singleton.mp z
    exact ⟨v1, v2, by omega, by omega⟩
def FsB (ls : List Ln) (n : Nat) (fs : List (List Frm)) : Prop := fs.length = n ∧ ∀ (w : Nat) (x : List Frm), fs[w]? = some x → (x.length : Int) = giveW ls w ∧ ∀ f ∈ x, FmB (needW ls w) f
def S__law_forms_by : TSp := fun ts μ F R => ∃ (t tl : T) (ns : List Int) (at_ : Int) (ls : List Ln) (n : Nat) (g : Bool), ts = [t, .int at_, tl, .int n, .bl g] ∧ RdL t ns ∧ ns.length ≤ 1000 ∧ LstAt μ tl (ls.map Ln.tr) ∧ 0 ≤ at_ ∧ at_ ≤ 100 ∧ ls.length ≤ 60 ∧ n ≤ 30 ∧ PosL ls ∧ (∀ l ∈ ls, Ln.gi l ≤ 10 ∧ l.ta ≤ 10) ∧ ∀ fs, FsB ls n fs → R (.lst (fs.map fsT)) μ
structure A__law_forms_by (G : Tab) (Γ : Nat → TSp) : Prop where
  f__law_form_by : G.fn n__law_form_by = some i__law_form_by
  g__law_form_by : Γ n__law_form_by = S__law_form_by
  f__law_cell_at : G.fn n__law_cell_at = some i__law_cell_at
  g__law_cell_at : Γ n__law_cell_at = S__law_cell_at
abbrev B__law_forms_by (G : Tab) (Γ : Nat → TSp) : Prop := ∀ ts μ F R, S__law_forms_by ts μ F R → denSs G Γ c__law_forms_by (bodyD R F) (startT N__law_forms_by.length ts) μ
theorem body__law_forms_by {G : Tab} {Γ : Nat → TSp} (A : A__law_forms_by G Γ) : B__law_forms_by G Γ := by
  rintro ts μ F R ⟨t, tl, ns, at_, ls, n, g, rfl, ht, hnl, htl, a0, a1, hz, hn, hp, hgb, hR⟩
  unfold c__law_forms_by
  simp only [Rh.startT, List.length_cons, List.length_nil, List.map_cons, List.map_nil, List.replicate, List.cons_append, List.nil_append, Nat.reduceAdd, Nat.reduceSub, N__law_forms_by]
  apply e_cons; simp only [denS]; (try simp_arith [A.f__law_form_by, A.g__law_form_by, S__law_form_by, i__law_form_by, A.f__law_cell_at, A.g__law_cell_at, S__law_cell_at, i__law_cell_at]); repeat ((with_reducible refine And.intro ?_ ?_); omega)
  intro p hp0
  apply e_cons; simp only [denS]; (try simp_arith [A.f__law_form_by, A.g__law_form_by, S__law_form_by, i__law_form_by, A.f__law_cell_at, A.g__law_cell_at, S__law_cell_at, i__law_cell_at]); repeat ((with_reducible refine And.intro ?_ ?_); omega)
  have hgw : ∀ w : Int, 0 ≤ giveW ls w ∧ giveW ls w ≤ 600 := fun w => by
    refine ⟨giveW_nn hp, ?_⟩
    have h1 : ∀ xs : List Ln, (∀ l ∈ xs, Ln.gi l ≤ 10) → (xs.map Ln.gi).sum ≤ 10 * xs.length := fun xs => by
      induction xs with
      | nil => intro _; simp
      | cons x xs ih =>
        intro h
        rw [List.map_cons, List.sum_cons, List.length_cons]
        have := ih fun y hy => h y (List.mem_cons_of_mem _ hy)
        have := h x List.mem_cons_self
        omega
    have := h1 (ls.filter fun l => decide (Ln.g l = w)) fun l hl => (hgb l (List.mem_filter.mp hl).1).1
    have h2 := List.length_filter_le (fun l : Ln => decide (l.g = w)) ls
    unfold giveW
    omega
  have hnw : ∀ w : Int, 0 ≤ needW ls w := fun w => sum_nnI _ fun v hv => by
    obtain ⟨l, hl, rfl⟩ := List.mem_map.mp hv
    have := (hp l (List.mem_filter.mp hl).1).2
    omega
  refine for_rng (fun k ρ μ' => ∃ (fs : List (List Frm)) (a : Int), (∃ o6 o7 o8 o9 o10 o11, ρ = [some t, some (.int a), some tl, some (.int n), some (.bl g), some (.own p), o6, o7, o8, o9, o10, o11]) ∧ μ' = μ.set p (.lst (fs.map fsT)) ∧ fs.length = k ∧ (∀ (w : Nat) (x : List Frm), fs[w]? = some x → (x.length : Int) = giveW ls w ∧ ∀ f ∈ x, FmB (needW ls w) f) ∧ 0 ≤ a ∧ a ≤ 100 + 600 * k) ⟨[], at_, ⟨_, _, _, _, _, _, rfl⟩, rfl, rfl, fun w x z => by simp at z, a0, by omega⟩ ?_ ?_
  · rintro ρ μ' ⟨fs, a, ⟨o6, o7, o8, o9, o10, o11, rfl⟩, rfl, h1, h2, h3, h4⟩
    refine ⟨trivial, ?_⟩
    apply e_cons; simp only [denS]; (try simp_arith [A.f__law_form_by, A.g__law_form_by, S__law_form_by, i__law_form_by, A.f__law_cell_at, A.g__law_cell_at, S__law_cell_at, i__law_cell_at]); repeat ((with_reducible refine And.intro ?_ ?_); omega)
    exact ⟨.lst (fs.map fsT), μ, ⟨[p], .own set_self (List.mem_singleton.mpr rfl) (.refl _), Rh.Sub.set_none hp0, fun b hb => by cases List.mem_singleton.mp hb; exact hp0⟩, hR fs ⟨h1, h2⟩⟩
  rintro k ρ μ' hk ⟨fs, a, ⟨o6, o7, o8, o9, o10, o11, rfl⟩, rfl, h1, h2, h3, h4⟩
  refine ⟨trivial, ?_⟩
  have htl1 : ∀ us : List T, LstAt (μ.set p (.lst us)) tl (ls.map Ln.tr) := fun us => htl.set hp0
  simp_arith [A.f__law_form_by, A.g__law_form_by, S__law_form_by, i__law_form_by, A.f__law_cell_at, A.g__law_cell_at, S__law_cell_at, i__law_cell_at]
  apply e_cons; simp only [denS]; (try simp_arith [A.f__law_form_by, A.g__law_form_by, S__law_form_by, i__law_form_by, A.f__law_cell_at, A.g__law_cell_at, S__law_cell_at, i__law_cell_at]); repeat ((with_reducible refine And.intro ?_ ?_); omega)
  refine onG_at (htl1 _) fun gd hgd => ?_
  refine comp_pure (fun t => match t with | .tup [.int g, .int t, .int gi, .int ta, .int s5] => decide (t = (k : Int)) | _ => false) (fun t => match t with | .tup [.int g, .int t, .int gi, .int ta, .int s5] => .int ta | t => t) (hgd _ (htl1 _)) (by rw [List.length_map, sz]; omega) ?_ ?_
  · intro u hu Y N hY hN
    obtain ⟨l, hl, rfl⟩ := List.mem_map.mp hu
    have hY : decide (l.t = (k : Int)) = true → Y (.int l.ta) _ := hY
    have hN : decide (l.t = (k : Int)) = false → N _ := hN
    simp only [wipeT]
    simp_arith [A.f__law_form_by, A.g__law_form_by, S__law_form_by, i__law_form_by, A.f__law_cell_at, A.g__law_cell_at, S__law_cell_at, i__law_cell_at, Ln.tr]
    by_cases e : l.t = (k : Int)
    · rw [if_pos e]
      exact hY (decide_eq_true e)
    · rw [if_neg e]
      exact hN (decide_eq_false e)
  have e1 : (((ls.map Ln.tr).filter (fun t => match t with | .tup [.int g, .int t, .int gi, .int ta, .int s5] => decide (t = (k : Int)) | _ => false)).map (fun t => match t with | .tup [.int g, .int t, .int gi, .int ta, .int s5] => .int ta | t => t)) = (((ls.filter fun l => decide (l.t = (k : Int))).map Ln.ta).map T.int) := by
    rw [List.filter_map, List.map_map, List.map_map]
    rfl
  rw [e1]
  simp only [newL]
  refine ⟨_, rfl, _, rfl, ?_⟩
  clear hgd gd e1
  apply e_cons; simp only [denS]; (try simp_arith [A.f__law_form_by, A.g__law_form_by, S__law_form_by, i__law_form_by, A.f__law_cell_at, A.g__law_cell_at, S__law_cell_at, i__law_cell_at]); repeat ((with_reducible refine And.intro ?_ ?_); omega)
  refine onG_at (htl1 _) fun gd hgd => ?_
  refine comp_pure (fun t => match t with | .tup [.int g, .int t, .int gi, .int ta, .int s5] => decide (g = (k : Int)) | _ => false) (fun t => match t with | .tup [.int g, .int t, .int gi, .int ta, .int s5] => .int gi | t => t) (hgd _ (htl1 _)) (by rw [List.length_map, sz]; omega) ?_ ?_
  · intro u hu Y N hY hN
    obtain ⟨l, hl, rfl⟩ := List.mem_map.mp hu
    have hY : decide (l.g = (k : Int)) = true → Y (.int l.gi) _ := hY
    have hN : decide (l.g = (k : Int)) = false → N _ := hN
    simp only [wipeT]
    simp_arith [A.f__law_form_by, A.g__law_form_by, S__law_form_by, i__law_form_by, A.f__law_cell_at, A.g__law_cell_at, S__law_cell_at, i__law_cell_at, Ln.tr]
    by_cases e : l.g = (k : Int)
    · rw [if_pos e]
      exact hY (decide_eq_true e)
    · rw [if_neg e]
      exact hN (decide_eq_false e)
  have e1 : (((ls.map Ln.tr).filter (fun t => match t with | .tup [.int g, .int t, .int gi, .int ta, .int s5] => decide (g = (k : Int)) | _ => false)).map (fun t => match t with | .tup [.int g, .int t, .int gi, .int ta, .int s5] => .int gi | t => t)) = (((ls.filter fun l => decide (l.g = (k : Int))).map Ln.gi).map T.int) := by
    rw [List.filter_map, List.map_map, List.map_map]
    rfl
  rw [e1]
  simp only [newL]
  refine ⟨_, rfl, _, rfl, ?_⟩
  clear hgd gd e1
  have eg : ((ls.filter fun l => decide (l.g = (k : Int))).map Ln.gi).sum = giveW ls k := rfl
  have et : ((ls.filter fun l => decide (l.t = (k : Int))).map Ln.ta).sum = needW ls k := rfl
  rw [eg, et]
  have hg0 := hgw k
  have hn0 := hnw k
  obtain ⟨G0, hG0⟩ := Int.eq_ofNat_of_zero_le hg0.1
  rw [hG0]
  generalize hFS : fs.map fsT = FS at htl1 ⊢
  apply e_cons; simp only [denS]; (try simp_arith [A.f__law_form_by, A.g__law_form_by, S__law_form_by, i__law_form_by, A.f__law_cell_at, A.g__law_cell_at, S__law_cell_at, i__law_cell_at]); repeat ((with_reducible refine And.intro ?_ ?_); omega)
  intro q hq
  apply e_cons; simp only [denS]; (try simp_arith [A.f__law_form_by, A.g__law_form_by, S__law_form_by, i__law_form_by, A.f__law_cell_at, A.g__law_cell_at, S__law_cell_at, i__law_cell_at]); repeat ((with_reducible refine And.intro ?_ ?_); omega)
  have nqp : q ≠ p := (nofr set_self hq).symm
  have hq0 : μ q = none := by rwa [set_ne nqp] at hq
  have hFl : FS.length = k := by rw [← hFS, List.length_map]; exact h1
  refine for_rng (fun j ρ μ3 => ∃ xs : List Frm, (∃ o8 o11, ρ = [some t, some (.int (a + j)), some tl, some (.int n), some (.bl g), some (.own p), some (.int k), some (.int (needW ls k)), o8, some (.int G0), some (.own q), o11]) ∧ μ3 = (μ.set p (.lst FS)).set q (.lst (xs.map frT)) ∧ xs.length = j ∧ ∀ f ∈ xs, FmB (needW ls k) f) ⟨[], ⟨o8, o11, by simp⟩, rfl, rfl, fun f hf => (nomatch hf)⟩ ?_ ?_
  · rintro ρ μ3 ⟨xs, ⟨o8, o11, rfl⟩, rfl, hx1, hx2⟩
    refine ⟨trivial, ?_⟩
    have gp : ((μ.set p (.lst FS)).set q (.lst (xs.map frT))) p = some (.lst FS) := by rw [set_ne nqp.symm, set_self]
    have gq : ((μ.set p (.lst FS)).set q (.lst (xs.map frT))) q = some (.lst (xs.map frT)) := set_self
    apply e_cons; simp only [denS]; (try simp_arith [A.f__law_form_by, A.g__law_form_by, S__law_form_by, i__law_form_by, A.f__law_cell_at, A.g__law_cell_at, S__law_cell_at, i__law_cell_at, gp, gq]); repeat ((with_reducible refine And.intro ?_ ?_); omega)
    refine ⟨[some t, some (.int (a + (xs.length : Nat))), some tl, some (.int n), some (.bl g), some (.own p), none, none, none, none, none, none], μ.set p (.lst (FS ++ [fsT xs])), ⟨[], ?_, fun b o z => ?_, fun _ z => nomatch z⟩, fs ++ [xs], a + xs.length, ⟨_, _, _, _, _, _, rfl⟩, by rw [List.map_append, hFS]; rfl, by rw [List.length_append, h1]; rfl, fun w x ex => ?_, by omega, by omega⟩
    · rw [hx1]
      exact .keep (.refl _) (.keep (.refl _) (.keep (.refl _) (.keep (.refl _) (.keep (.refl _) (.keep (.refl _) (.gone (.gone (.gone (.gone (.gone (.gone .nil)))))))))))
    · by_cases e : b = p
      · subst e
        rw [set_self] at z ⊢
        exact z
      · rw [set_ne e] at z ⊢
        rw [set_ne (nofr z hq0), set_ne e]
        exact z
    · by_cases hw : w < k
      · rw [List.getElem?_append_left (by omega)] at ex
        exact h2 w x ex
      · have := (List.getElem?_eq_some_iff.mp ex).1
        rw [List.length_append, List.length_singleton] at this
        have e : w = k := by omega
        subst e
        rw [← h1, List.getElem?_concat_length] at ex
        cases ex
        exact ⟨by omega, hx2⟩
  rintro j ρ μ3 hj ⟨xs, ⟨o8, o11, rfl⟩, rfl, hx1, hx2⟩
  refine ⟨trivial, ?_⟩
  simp_arith [A.f__law_form_by, A.g__law_form_by, S__law_form_by, i__law_form_by, A.f__law_cell_at, A.g__law_cell_at, S__law_cell_at, i__law_cell_at]
  apply e_cons; simp only [denS]; (try simp_arith [A.f__law_form_by, A.g__law_form_by, S__law_form_by, i__law_form_by, A.f__law_cell_at, A.g__law_cell_at, S__law_cell_at, i__law_cell_at]); repeat ((with_reducible refine And.intro ?_ ?_); omega)
  refine ⟨ns, ht, hnl, by omega, by omega, fun x => ⟨hn0, fun f hf => ⟨by omega, ?_⟩⟩⟩
  apply e_cons; simp only [denS]; (try simp_arith [A.f__law_form_by, A.g__law_form_by, S__law_form_by, i__law_form_by, A.f__law_cell_at, A.g__law_cell_at, S__law_cell_at, i__law_cell_at]); repeat ((with_reducible refine And.intro ?_ ?_); omega)
  have ea : a + (j : Int) + 1 = a + ((j + 1 : Nat) : Int) := by omega
  refine ⟨_, _, .refl _ _, ⟨o8, some (.int j), by rw [ea]⟩, xs ++ [f], by rw [set_set, List.map_append]; rfl, by rw [List.length_append, hx1]; rfl, fun f' hf' => ?_⟩
  rcases List.mem_append.mp hf' with z | z
  · exact hx2 f' z
  · cases List.mem_singleton.mp z
    exact hf
def S__law_made : TSp := fun ts μ F R => ∃ (tn tl : T) (nl : List Str) (ls : List Ln) (n : Nat), ts = [tn, tl] ∧ LstAt μ tn (nl.map T.str) ∧ LstAt μ tl (ls.map Ln.tr) ∧ NLs n nl ∧ n ≤ 30 ∧ Inr (ends ls) n ∧ PosL ls ∧ (∀ l ∈ ls, 0 ≤ Ln.st l) ∧ ls.length ≤ 60 ∧ ∀ μ' h k1 k2, Rh.Sub μ μ' → HallAt μ' h k1 k2 nl ls → μ h = none ∧ μ k1 = none ∧ μ k2 = none → R (.own h) μ'
structure A__law_made (G : Tab) (Γ : Nat → TSp) : Prop where
  f_Hall_init : G.fn n_Hall_init = some i_Hall_init
  g_Hall_init : Γ n_Hall_init = S_Hall_init
  c_Hall : G.cl 3 = some ⟨"Hall", n_Hall_init⟩
  f_Hall_work : G.fn n_Hall_work = some i_Hall_work
  g_Hall_work : Γ n_Hall_work = S_Hall_work
  f_Hall_belt : G.fn n_Hall_belt = some i_Hall_belt
  g_Hall_belt : Γ n_Hall_belt = S_Hall_belt
abbrev B__law_made (G : Tab) (Γ : Nat → TSp) : Prop := ∀ ts μ F R, S__law_made ts μ F R → denSs G Γ c__law_made (bodyD R F) (startT N__law_made.length ts) μ
theorem body__law_made {G : Tab} {Γ : Nat → TSp} (A : A__law_made G Γ) : B__law_made G Γ := by
  rintro ts μ F R ⟨tn, tl, nl, ls, n, rfl, hn, ht, hnl, hn30, hi, hp, hst, hll, hR⟩
  unfold c__law_made
  simp only [Rh.startT, List.length_cons, List.length_nil, List.map_cons, List.map_nil, List.replicate, List.cons_append, List.nil_append, Nat.reduceAdd, Nat.reduceSub, N__law_made]
  apply e_cons; simp only [denS]; (try simp_arith [A.f_Hall_init, A.g_Hall_init, S_Hall_init, i_Hall_init, A.c_Hall, A.f_Hall_work, A.g_Hall_work, S_Hall_work, i_Hall_work, A.f_Hall_belt, A.g_Hall_belt, S_Hall_belt, i_Hall_belt]); repeat ((with_reducible refine And.intro ?_ ?_); omega)
  intro hh f0 k1 k2 e1 e2 ne
  have H := HallAt.init e1 e2 ne
  have n1 : k1 ≠ hh := fun e => by
    rw [e, set_self] at e1
    cases e1
  have n2 : k2 ≠ hh := fun e => by
    rw [e, set_self] at e2
    cases e2
  rw [set_ne n1] at e1
  rw [set_ne n2] at e2
  have sb : Rh.Sub μ ((((μ.set hh (.obj 3 [])).set k1 (.lst [])).set k2 (.lst [])).set hh (.obj 3 [.own k1, .own k2])) := Lw.Sub.put' (Lw.Sub.put' (Lw.Sub.put' (Rh.Sub.set_none f0) e1) e2) f0
  generalize ((((μ.set hh (.obj 3 [])).set k1 (.lst [])).set k2 (.lst [])).set hh (.obj 3 [.own k1, .own k2])) = μ1 at H sb ⊢
  have hN : NmL nl := ⟨hnl.nm, hnl.nd, by rw [hnl.len]; exact hn30⟩
  have hnlen := hnl.len
  apply e_cons; simp only [denS]; (try simp_arith [A.f_Hall_init, A.g_Hall_init, S_Hall_init, i_Hall_init, A.c_Hall, A.f_Hall_work, A.g_Hall_work, S_Hall_work, i_Hall_work, A.f_Hall_belt, A.g_Hall_belt, S_Hall_belt, i_Hall_belt]); repeat ((with_reducible refine And.intro ?_ ?_); omega)
  refine onG_at (Lw.LstAt.sb hn sb) fun gd hgd => ?_
  refine for_map (fun k ρ μ' => (∃ o3, ρ = [some tn, some tl, some (.own hh), o3, none, none, none, none, none]) ∧ HallAt μ' hh k1 k2 (nl.take k) [] ∧ Rh.Sub μ μ') ⟨⟨_, rfl⟩, H, sb⟩ ?_ ?_
  case refine_2 =>
    rintro k x ρ μ' hk ⟨⟨o3, rfl⟩, H2, sb⟩
    refine ⟨hgd _ (Lw.LstAt.sb hn sb), ?_⟩
    obtain ⟨a1, a2, a3, a4⟩ := hN.at_ hk
    have hk' := (List.getElem?_eq_some_iff.mp hk).1
    have et : nl.take (k + 1) = nl.take k ++ [x] := by
      rw [List.take_add_one, hk]
      rfl
    simp_arith [A.f_Hall_init, A.g_Hall_init, S_Hall_init, i_Hall_init, A.c_Hall, A.f_Hall_work, A.g_Hall_work, S_Hall_work, i_Hall_work, A.f_Hall_belt, A.g_Hall_belt, S_Hall_belt, i_Hall_belt]
    apply e_cons; simp only [denS]; (try simp_arith [A.f_Hall_init, A.g_Hall_init, S_Hall_init, i_Hall_init, A.c_Hall, A.f_Hall_work, A.g_Hall_work, S_Hall_work, i_Hall_work, A.f_Hall_belt, A.g_Hall_belt, S_Hall_belt, i_Hall_belt, H2.o]); repeat ((with_reducible refine And.intro ?_ ?_); omega)
    refine ⟨k1, k2, nl.take k, [], H2, a2, a3, fun x hx => hN.ok x (List.mem_of_mem_take hx), ?_⟩
    simp only [a1, a4, show ¬ 30 ≤ (nl.take k).length by rw [List.length_take]; omega, Bool.true_eq_false, if_false]
    exact ⟨_, _, .refl _ _, ⟨_, rfl⟩, by rw [et]; exact H2.addW x, Lw.Sub.put' sb e1⟩
  clear H sb μ1
  rintro ρ μ1 ⟨⟨o3, rfl⟩, H2, sb⟩
  rw [List.take_length] at H2
  refine ⟨hgd _ (Lw.LstAt.sb hn sb), ?_⟩
  apply e_cons; simp only [denS]; (try simp_arith [A.f_Hall_init, A.g_Hall_init, S_Hall_init, i_Hall_init, A.c_Hall, A.f_Hall_work, A.g_Hall_work, S_Hall_work, i_Hall_work, A.f_Hall_belt, A.g_Hall_belt, S_Hall_belt, i_Hall_belt]); repeat ((with_reducible refine And.intro ?_ ?_); omega)
  refine onG_at (Lw.LstAt.sb ht sb) fun gd hgd => ?_
  refine for_map (fun k ρ μ' => (∃ o3 o4 o5 o6 o7 o8, ρ = [some tn, some tl, some (.own hh), o3, o4, o5, o6, o7, o8]) ∧ HallAt μ' hh k1 k2 nl (ls.take k) ∧ Rh.Sub μ μ') ⟨⟨_, _, _, _, _, _, rfl⟩, H2, sb⟩ ?_ ?_
  · rintro ρ μ' ⟨⟨o3, o4, o5, o6, o7, o8, rfl⟩, H3, sb⟩
    rw [List.take_length] at H3
    refine ⟨hgd _ (Lw.LstAt.sb ht sb), ?_⟩
    apply e_cons; simp only [denS]; (try simp_arith [A.f_Hall_init, A.g_Hall_init, S_Hall_init, i_Hall_init, A.c_Hall, A.f_Hall_work, A.g_Hall_work, S_Hall_work, i_Hall_work, A.f_Hall_belt, A.g_Hall_belt, S_Hall_belt, i_Hall_belt]); repeat ((with_reducible refine And.intro ?_ ?_); omega)
    exact fin_id (hR _ _ _ _ sb H3 ⟨f0, e1, e2⟩)
  rintro k l ρ μ' hk ⟨⟨o3, o4, o5, o6, o7, o8, rfl⟩, H3, sb⟩
  refine ⟨hgd _ (Lw.LstAt.sb ht sb), ?_⟩
  have hm := List.mem_of_getElem? hk
  obtain ⟨⟨r1, r2⟩, r3, r4⟩ := hi _ (ends_mem hm)
  have hp' := hp l hm
  have hs' := hst l hm
  have hkl := (List.getElem?_eq_some_iff.mp hk).1
  have et : ls.take (k + 1) = ls.take k ++ [l] := by
    rw [List.take_add_one, hk]
    rfl
  simp_arith [A.f_Hall_init, A.g_Hall_init, S_Hall_init, i_Hall_init, A.c_Hall, A.f_Hall_work, A.g_Hall_work, S_Hall_work, i_Hall_work, A.f_Hall_belt, A.g_Hall_belt, S_Hall_belt, i_Hall_belt, Ln.tr]
  apply e_cons; simp only [denS]; (try simp_arith [A.f_Hall_init, A.g_Hall_init, S_Hall_init, i_Hall_init, A.c_Hall, A.f_Hall_work, A.g_Hall_work, S_Hall_work, i_Hall_work, A.f_Hall_belt, A.g_Hall_belt, S_Hall_belt, i_Hall_belt, H3.o]); repeat ((with_reducible refine And.intro ?_ ?_); omega)
  refine ⟨k1, k2, nl, ls.take k, l, rfl, rfl, rfl, rfl, rfl, H3, ?_⟩
  rw [hnlen]
  have r1 : 0 ≤ l.g := r1
  have r2 : l.g < n := r2
  have r3 : 0 ≤ l.t := r3
  have r4 : l.t < n := r4
  simp only [r1, r2, r3, r4, and_self, not_true_eq_false, if_false, show ¬ (l.gi < 1 ∨ l.ta < 1 ∨ l.st < 0) by omega, show ¬ 60 ≤ (ls.take k).length by rw [List.length_take]; omega]
  exact ⟨_, _, .refl _ _, ⟨_, _, _, _, _, _, rfl⟩, by rw [et]; exact H3.addB l, Lw.Sub.put' sb e2⟩
def S__law_names : TSp := fun ts μ F R => ∃ (c : Int) (n : Nat), ts = [.int c, .int n] ∧ n ≤ 26 ∧ ∀ nl, NLs n nl → R (.lst (nl.map T.str)) μ
structure A__law_names (G : Tab) (Γ : Nat → TSp) : Prop where
  triv : True
abbrev B__law_names (G : Tab) (Γ : Nat → TSp) : Prop := ∀ ts μ F R, S__law_names ts μ F R → denSs G Γ c__law_names (bodyD R F) (startT N__law_names.length ts) μ
theorem body__law_names {G : Tab} {Γ : Nat → TSp} (A : A__law_names G Γ) : B__law_names G Γ := by
  rintro ts μ F R ⟨c, n, rfl, hn, hR⟩
  unfold c__law_names
  simp only [Rh.startT, List.length_cons, List.length_nil, List.map_cons, List.map_nil, List.replicate, List.cons_append, List.nil_append, Nat.reduceAdd, Nat.reduceSub, N__law_names]
  have q0 := Int.emod_nonneg c (show (8 : Int) ≠ 0 by decide)
  have q1 := Int.emod_lt_of_pos c (show (0 : Int) < 8 by decide)
  apply e_cons; simp only [denS]; (try simp_arith []); repeat ((with_reducible refine And.intro ?_ ?_); omega)
  apply e_cons; simp only [denS]; (try simp_arith []); repeat ((with_reducible refine And.intro ?_ ?_); omega)
  have hg1 : 1 ≤ 1 + c % 8 := by omega
  have hg2 : 1 + c % 8 ≤ 8 := by omega
  generalize 1 + c % 8 = g at hg1 hg2 ⊢
  have q2 := Int.emod_nonneg (c / 8) (show g ≠ 0 by omega)
  have q3 := Int.emod_lt_of_pos (c / 8) (show 0 < g by omega)
  apply e_cons; simp only [denS]; (try simp_arith []); repeat ((with_reducible refine And.intro ?_ ?_); omega)
  generalize c / 8 % g = at_ at q2 q3 ⊢
  apply e_cons; simp only [denS]; (try simp_arith []); repeat ((with_reducible refine And.intro ?_ ?_); omega)
  intro p hp
  have e0 : (Str.ofString "").length = 0 := by decide
  apply e_cons; simp only [denS]; (try simp_arith []); repeat ((with_reducible refine And.intro ?_ ?_); omega)
  refine for_rng (fun k ρ μ' => ∃ nl, (∃ o6 o7 o8 o9, ρ = [some (.int c), some (.int n), some (.str abc), some (.int g), some (.int at_), some (.own p), o6, o7, o8, o9]) ∧ μ' = μ.set p (.lst (nl.map T.str)) ∧ nl.length = k ∧ (∀ x ∈ nl, isName x = true ∧ (x.length : Int) = g) ∧ ∀ (j : Nat) w, nl[j]? = some w → wch at_.toNat w = some (ab ((c / 64 + 3 * j) % 26))) ⟨[], ⟨_, _, _, _, rfl⟩, rfl, rfl, fun _ h => (nomatch h), fun j w h => by simp at h⟩ ?_ ?_
  · rintro ρ μ' ⟨nl, ⟨o6, o7, o8, o9, rfl⟩, rfl, hl, hnm, hch⟩
    refine ⟨trivial, ?_⟩
    apply e_cons; simp only [denS]; (try simp_arith []); repeat ((with_reducible refine And.intro ?_ ?_); omega)
    refine fin_retL (.inr (hR nl ⟨fun x hx => (hnm x hx).1, ?_, hl, g, fun x hx => (hnm x hx).2⟩)) hp
    refine List.pairwise_iff_getElem.mpr fun i j hi hj hij e => ?_
    have h1 := hch i _ (List.getElem?_eq_getElem hi)
    have h2 := hch j _ (List.getElem?_eq_getElem hj)
    rw [e, h2] at h1
    have := ab_inj (by omega) (by omega) (by omega) (by omega) (Option.some.inj h1)
    omega
  rintro k ρ μ' hk ⟨nl, ⟨o6, o7, o8, o9, rfl⟩, rfl, hl, hnm, hch⟩
  refine ⟨trivial, ?_⟩
  simp_arith []
  apply e_cons; simp only [denS]; (try simp_arith []); repeat ((with_reducible refine And.intro ?_ ?_); omega)
  apply e_cons; simp only [denS]; (try simp_arith []); repeat ((with_reducible refine And.intro ?_ ?_); omega)
  refine for_rng (fun j ρ μ' => ∃ w : Str, (∃ o8 o9, ρ = [some (.int c), some (.int n), some (.str abc), some (.int g), some (.int at_), some (.own p), some (.int k), some (.str w), o8, o9]) ∧ μ' = μ.set p (.lst (nl.map T.str)) ∧ w.length = j ∧ (∀ x ∈ sgs w, x ∈ abc.cps.toList) ∧ (at_ < j → wch at_.toNat w = some (ab ((c / 64 + 3 * k) % 26)))) ⟨_, ⟨_, _, rfl⟩, rfl, e0, fun x h => (nomatch h), fun h => by omega⟩ ?_ ?_
  case refine_2 =>
    rintro j ρ μ' hj ⟨w, ⟨o8, o9, rfl⟩, rfl, hw, hwc, hwa⟩
    refine ⟨trivial, ?_⟩
    have cd : CDivW c (64 + (j : Int)) = True := cdiv_lit (by omega) (by omega)
    simp_arith []
    apply e_cons; simp only [denS]; (try simp_arith [cd]); repeat ((with_reducible refine And.intro ?_ ?_); omega)
    apply e_cons
    refine e_join (fun ρ μ' => ∃ x : Int, ρ = [some (.int c), some (.int n), some (.str abc), some (.int g), some (.int at_), some (.own p), some (.int k), some (.str w), some (.int j), some (.int x)] ∧ ((j : Int) = at_ → x = c / 64 + 3 * k) ∧ μ' = μ.set p (.lst (nl.map T.str))) ?_ ?_
    case refine_2 =>
      simp_arith []
      split
      · apply e_cons; simp only [denS]; (try simp_arith []); repeat ((with_reducible refine And.intro ?_ ?_); omega)
        exact fun _ => trivial
      · exact fun z => absurd z (by assumption)
    rintro ρ μ' ⟨x, rfl, hx, rfl⟩
    have r0 := Int.emod_nonneg x (show (26 : Int) ≠ 0 by decide)
    have r1 := Int.emod_lt_of_pos x (show (0 : Int) < 26 by decide)
    have ea := ab_at r0 r1
    apply e_cons; simp only [denS]; (try simp_arith [ea]); repeat ((with_reducible refine And.intro ?_ ?_); omega)
    have e1 : (⟨#[ab (x % 26)]⟩ : Str).length = 1 := rfl
    have es : sgs (w ++ ⟨#[ab (x % 26)]⟩) = sgs w ++ [ab (x % 26)] := sgs_app
    have wl : (sgs w).length = j := by rw [← sgs_len]; exact hw
    refine ⟨by decide, by omega, _, _, .refl _ _, w ++ ⟨#[ab (x % 26)]⟩, ⟨_, _, rfl⟩, rfl, by rw [Str.length_append]; omega, fun y hy => ?_, fun hat => ?_⟩
    · rw [es] at hy
      rcases List.mem_append.mp hy with z | z
      · exact hwc y z
      · rw [List.mem_singleton.mp z]
        exact ab_in r0 r1
    · show (sgs (w ++ ⟨#[ab (x % 26)]⟩))[at_.toNat]? = _
      rw [es]
      by_cases ej : (j : Int) = at_
      · have : at_.toNat = (sgs w).length := by omega
        rw [this, List.getElem?_append_right (Nat.le_refl _), Nat.sub_self, hx ej]
        rfl
      · rw [List.getElem?_append_left (by omega)]
        exact hwa (by omega)
  rintro ρ μ' ⟨w, ⟨o8, o9, rfl⟩, rfl, hw, hwc, hwa⟩
  refine ⟨trivial, ?_⟩
  have hwl : w.cps.toList.length = g.toNat := by rw [← hw]; exact Array.length_toList
  apply e_cons; simp only [denS]; (try simp_arith []); repeat ((with_reducible refine And.intro ?_ ?_); omega)
  refine ⟨_, _, .refl _ _, ⟨_, _, _, _, rfl⟩, nl ++ [w], by rw [set_set, List.map_append]; rfl, by rw [List.length_append, List.length_singleton]; omega, fun x hx => ?_, fun i x hx => ?_⟩
  · rcases List.mem_append.mp hx with z | z
    · exact hnm x z
    · rw [List.mem_singleton.mp z]
      exact ⟨isName_iff.mpr ⟨by omega, by omega, hwc⟩, by omega⟩
  · by_cases hi : i < nl.length
    · rw [List.getElem?_append_left hi] at hx
      exact hch i x hx
    · have hi2 : i < (nl ++ [w]).length := (List.getElem?_eq_some_iff.mp hx).1
      rw [List.length_append, List.length_singleton] at hi2
      have ei : i = k := by omega
      rw [List.getElem?_append_right (by omega), ei, hl, Nat.sub_self] at hx
      cases hx
      rw [ei]
      exact hwa (by omega)
def S__law_ready : TSp := fun ts μ F R => ∃ (tl th : T) (ls : List Ln) (hs : List Int) (w : Int), ts = [tl, th, .int w] ∧ LstAt μ tl (ls.map Ln.tr) ∧ LstAt μ th (hs.map T.int) ∧ hs.length = ls.length ∧ ls.length ≤ 1000 ∧ R (.bl (rdy ls hs w)) μ
structure A__law_ready (G : Tab) (Γ : Nat → TSp) : Prop where
  triv : True
abbrev B__law_ready (G : Tab) (Γ : Nat → TSp) : Prop := ∀ ts μ F R, S__law_ready ts μ F R → denSs G Γ c__law_ready (bodyD R F) (startT N__law_ready.length ts) μ
theorem body__law_ready {G : Tab} {Γ : Nat → TSp} (A : A__law_ready G Γ) : B__law_ready G Γ := by
  rintro ts μ F R ⟨tl, th, ls, hs, w, rfl, ht, hh, he, hll, hR⟩
  unfold c__law_ready
  simp only [Rh.startT, List.length_cons, List.length_nil, List.map_cons, List.map_nil, List.replicate, List.cons_append, List.nil_append, Nat.reduceAdd, Nat.reduceSub, N__law_ready]
  apply e_cons; simp only [denS]; (try simp_arith []); repeat ((with_reducible refine And.intro ?_ ?_); omega)
  refine onG_at ht fun gd hgd => ?_
  refine for_enum (fun k ρ μ' => (∃ o3 o4, ρ = [some tl, some th, some (.int w), o3, o4]) ∧ μ' = μ ∧ ∀ (j : Nat) l, j < k → ls[j]? = some l → ¬ (l.t = w ∧ cnt hs j < l.ta)) ⟨⟨_, _, rfl⟩, rfl, fun j l h => absurd h (Nat.not_lt_zero j)⟩ ?_ ?_
  · rintro ρ μ' ⟨⟨o3, o4, rfl⟩, rfl, h⟩
    refine ⟨hgd _ ht, ?_⟩
    rw [rdy_true he fun k l e => h k l (List.getElem?_eq_some_iff.mp e).1 e] at hR
    apply e_cons; simp only [denS]; (try simp_arith []); repeat ((with_reducible refine And.intro ?_ ?_); omega)
    exact fin_id hR
  rintro k l ρ μ' el ⟨⟨o3, o4, rfl⟩, rfl, h⟩
  refine ⟨hgd _ ht, ?_⟩
  have hk := (List.getElem?_eq_some_iff.mp el).1
  have hnext : ¬ (l.t = w ∧ cnt hs k < l.ta) → ∀ (j : Nat) l, j < k + 1 → ls[j]? = some l → ¬ (l.t = w ∧ cnt hs j < l.ta) := fun hc j l' hj e => by
    by_cases ej : j = k
    · subst ej
      rw [el] at e
      cases e
      exact hc
    · exact h j l' (by omega) e
  have ix := fun R => li hh (show (0 : Int) ≤ (k : Int) by omega) (by omega) R
  simp_arith [Ln.tr]
  apply e_cons; apply e_ife; simp_arith [ix, Ln.tr]; repeat ((with_reducible refine And.intro ?_ ?_); omega)
  by_cases h1 : l.t = w
  · simp only [h1, if_true]
    by_cases h2 : cnt hs k < l.ta
    · simp only [h2, if_true]
      rw [rdy_false he el h1 h2] at hR
      apply e_cons; simp only [denS]; (try simp_arith []); repeat ((with_reducible refine And.intro ?_ ?_); omega)
      exact fin_id hR
    · simp only [h2, if_false]
      exact ⟨_, _, .refl _ _, ⟨_, _, rfl⟩, rfl, hnext fun z => h2 z.2⟩
  · simp only [h1, if_false]
    exact ⟨_, _, .refl _ _, ⟨_, _, rfl⟩, rfl, hnext fun z => h1 z.1⟩
def S__law_turned : TSp := fun ts μ F R => ∃ (tl : T) (q : Addr) (ls : List Ln) (hs : List Int) (w : Int), ts = [tl, .own q, .int w] ∧ LstAt μ tl (ls.map Ln.tr) ∧ tl ≠ .own q ∧ μ q = some (.lst (hs.map T.int)) ∧ hs.length = ls.length ∧ ls.length ≤ 1000 ∧ R .non (μ.set q (.lst ((shiftL ls hs w).map T.int)))
structure A__law_turned (G : Tab) (Γ : Nat → TSp) : Prop where
  triv : True
abbrev B__law_turned (G : Tab) (Γ : Nat → TSp) : Prop := ∀ ts μ F R, S__law_turned ts μ F R → denSs G Γ c__law_turned (bodyD R F) (startT N__law_turned.length ts) μ
theorem body__law_turned {G : Tab} {Γ : Nat → TSp} (A : A__law_turned G Γ) : B__law_turned G Γ := by
  rintro ts μ F R ⟨tl, q, ls, hs, w, rfl, ht, hne, hh, he, hll, hR⟩
  unfold c__law_turned
  simp only [Rh.startT, List.length_cons, List.length_nil, List.map_cons, List.map_nil, List.replicate, List.cons_append, List.nil_append, Nat.reduceAdd, Nat.reduceSub, N__law_turned]
  apply e_cons; simp only [denS]; (try simp_arith []); repeat ((with_reducible refine And.intro ?_ ?_); omega)
  refine onG_at ht fun gd hgd => ?_
  have ht2 : ∀ o, LstAt (μ.set q o) tl (ls.map Ln.tr) := fun o => LstAt.put' ht hne
  refine for_enum (fun k ρ μ' => (∃ o3 o4, ρ = [some tl, some (.own q), some (.int w), o3, o4]) ∧ μ' = μ.set q (.lst (((shiftL ls hs w).take k ++ hs.drop k).map T.int))) ⟨⟨_, _, rfl⟩, by rw [List.take_zero, List.drop_zero, List.nil_append, set_same hh]⟩ ?_ ?_
  · rintro ρ μ' ⟨⟨o3, o4, rfl⟩, rfl⟩
    refine ⟨hgd _ (ht2 _), ?_⟩
    rw [List.take_of_length_le (by rw [shiftL_len he]; exact Nat.le_refl _), List.drop_eq_nil_of_le (by omega), List.append_nil]
    show denSs G Γ [] _ _ _
    apply e_nil
    exact fin_id hR
  rintro k l ρ μ' el ⟨⟨o3, o4, rfl⟩, rfl⟩
  refine ⟨hgd _ (ht2 _), ?_⟩
  have k1 := (List.getElem?_eq_some_iff.mp el).1
  have k2 : k < hs.length := by omega
  have hsl := shiftL_len (w := w) he
  have esh : (shiftL ls hs w)[k]? = some (shf l hs[k] w) := by
    unfold shiftL
    rw [List.getElem?_map, (List.getElem?_zip_eq_some (z := (l, hs[k]))).mpr ⟨el, List.getElem?_eq_getElem k2⟩]
    rfl
  have ed : hs.drop k = hs[k] :: hs.drop (k + 1) := List.drop_eq_getElem_cons k2
  have et : (shiftL ls hs w).take (k + 1) = (shiftL ls hs w).take k ++ [shf l hs[k] w] := by
    rw [List.take_add_one, esh]
    rfl
  rw [et, ed]
  generalize hacc : (shiftL ls hs w).take k = acc
  have hal : acc.length = k := by rw [← hacc, List.length_take, hsl]; omega
  generalize hrest : hs.drop (k + 1) = rest
  generalize hs[k] = h
  have gx : ∀ x : Int, atI ((acc ++ x :: rest).map T.int) (k : Int) = some (.int x) := fun x => by
    rw [at_nat, List.getElem?_map, List.getElem?_append_right (by omega), hal, Nat.sub_self]
    rfl
  have sx : ∀ x y : Int, ((acc ++ x :: rest).map T.int).set k (.int y) = (acc ++ y :: rest).map T.int := fun x y => by
    rw [← hal, List.map_append, List.map_append, List.set_append_right _ _ (by rw [List.length_map]; exact Nat.le_refl _), List.length_map, Nat.sub_self]
    rfl
  simp_arith [Ln.tr]
  apply e_cons
  refine e_join (fun ρ μ' => ρ = [some tl, some (.own q), some (.int w), some (.int k), some l.tr] ∧ μ' = μ.set q (.lst ((acc ++ (if l.t = w then h - l.ta else h) :: rest).map T.int))) ?_ ?_
  case refine_2 =>
    simp_arith [Ln.tr]
    by_cases e : l.t = w
    · simp only [e, if_true]
      apply e_cons; simp only [denS]; (try simp_arith [Ln.tr, gx]); repeat ((with_reducible refine And.intro ?_ ?_); omega)
      refine ⟨k, (ixN_nn (by omega) (by omega)).trans (by rw [Int.toNat_natCast]), by rw [set_set, sx]⟩
    · simp only [e, if_false]
  rintro ρ μ' ⟨rfl, rfl⟩
  have esf : shf l h w = if l.g = w then (if l.t = w then h - l.ta else h) + l.gi else (if l.t = w then h - l.ta else h) := rfl
  generalize (if l.t = w then h - l.ta else h) = h2 at esf
  apply e_cons; apply e_ife; simp_arith [Ln.tr]; repeat ((with_reducible refine And.intro ?_ ?_); omega)
  by_cases e : l.g = w
  · rw [if_pos e] at esf
    simp only [e, if_true]
    apply e_cons; simp only [denS]; (try simp_arith [Ln.tr, gx]); repeat ((with_reducible refine And.intro ?_ ?_); omega)
    refine ⟨k, (ixN_nn (by omega) (by omega)).trans (by rw [Int.toNat_natCast]), _, _, .refl _ _, ⟨_, _, rfl⟩, ?_⟩
    rw [set_set, sx, esf, List.append_assoc]
    rfl
  · rw [if_neg e] at esf
    simp only [e, if_false]
    refine ⟨_, _, .refl _ _, ⟨_, _, rfl⟩, ?_⟩
    rw [esf, List.append_assoc]
    rfl
def S__law_order : TSp := fun ts μ F R => ∃ (tl tr tc : T) (ls : List Ln) (gl ns : List Int), ts = [tl, tr, tc] ∧ LstAt μ tl (ls.map Ln.tr) ∧ LstAt μ tr (gl.map T.int) ∧ RdL tc ns ∧ ns.length ≤ 1000 ∧ gl.length ≤ 31 ∧ (∀ w : Int, 0 ≤ w → w < gl.length → 0 ≤ cnt gl w) ∧ gl.sum ≤ 400 ∧ ls.length ≤ 60 ∧ ∀ row, Turns ls gl gl.length row → Stuck ls gl gl.length row → R (.lst (row.map T.int)) μ
structure A__law_order (G : Tab) (Γ : Nat → TSp) : Prop where
  f__law_ready : G.fn n__law_ready = some i__law_ready
  g__law_ready : Γ n__law_ready = S__law_ready
  f__law_cell_at : G.fn n__law_cell_at = some i__law_cell_at
  g__law_cell_at : Γ n__law_cell_at = S__law_cell_at
  f__law_turned : G.fn n__law_turned = some i__law_turned
  g__law_turned : Γ n__law_turned = S__law_turned
abbrev B__law_order (G : Tab) (Γ : Nat → TSp) : Prop := ∀ ts μ F R, S__law_order ts μ F R → denSs G Γ c__law_order (bodyD R F) (startT N__law_order.length ts) μ
theorem body__law_order {G : Tab} {Γ : Nat → TSp} (A : A__law_order G Γ) : B__law_order G Γ := by
  rintro ts μ F R ⟨tl, tr, tc, ls, gl, ns, rfl, ht, hr, hc, hcl, hn, hg, hsm, hll, hR⟩
  unfold c__law_order
  simp only [Rh.startT, List.length_cons, List.length_nil, List.map_cons, List.map_nil, List.replicate, List.cons_append, List.nil_append, Nat.reduceAdd, Nat.reduceSub, N__law_order]
  generalize hgl : gl.length = n at hn hg hR
  apply e_cons; simp only [denS]; (try simp_arith [A.f__law_ready, A.g__law_ready, S__law_ready, i__law_ready, A.f__law_cell_at, A.g__law_cell_at, S__law_cell_at, i__law_cell_at, A.f__law_turned, A.g__law_turned, S__law_turned, i__law_turned]); repeat ((with_reducible refine And.intro ?_ ?_); omega)
  refine onG_at ht fun gd hgd => ?_
  refine comp_pure (fun _ => true) (fun t => match t with | .tup [_, _, _, _, s] => s | t => t) (hgd _ ht) (by rw [List.length_map, sz]; omega) ?_ ?_
  · intro u hu Y N hY _
    obtain ⟨l, hl, rfl⟩ := List.mem_map.mp hu
    have hY := hY rfl
    simp only [wipeT]
    simp_arith [A.f__law_ready, A.g__law_ready, S__law_ready, i__law_ready, A.f__law_cell_at, A.g__law_cell_at, S__law_cell_at, i__law_cell_at, A.f__law_turned, A.g__law_turned, S__law_turned, i__law_turned, Ln.tr]
    exact hY
  rw [List.filter_eq_self.mpr (fun _ _ => rfl), List.map_map]
  have eh : ls.map ((fun t : T => match t with | .tup [_, _, _, _, s] => s | t => t) ∘ Ln.tr) = (hps ls []).map T.int := by
    rw [hps_nil, List.map_map]
    rfl
  rw [eh]
  simp only [newL]
  intro q hq
  have hr1 : LstAt (μ.set q (.lst ((hps ls []).map T.int))) tr (gl.map T.int) := hr.set hq
  apply e_cons; simp only [denS]; (try simp_arith [A.f__law_ready, A.g__law_ready, S__law_ready, i__law_ready, A.f__law_cell_at, A.g__law_cell_at, S__law_cell_at, i__law_cell_at, A.f__law_turned, A.g__law_turned, S__law_turned, i__law_turned]); repeat ((with_reducible refine And.intro ?_ ?_); omega)
  rw [lst_at hr1]
  simp only [newL]
  intro d hd
  have ndq : d ≠ q := (nofr set_self hd).symm
  have hd0 : μ d = none := by rwa [set_ne ndq] at hd
  apply e_cons; simp only [denS]; (try simp_arith [A.f__law_ready, A.g__law_ready, S__law_ready, i__law_ready, A.f__law_cell_at, A.g__law_cell_at, S__law_cell_at, i__law_cell_at, A.f__law_turned, A.g__law_turned, S__law_turned, i__law_turned]); repeat ((with_reducible refine And.intro ?_ ?_); omega)
  intro p hp
  have npd : p ≠ d := (nofr set_self hp).symm
  rw [set_ne npd] at hp
  have npq : p ≠ q := (nofr set_self hp).symm
  have hp0 : μ p = none := by rwa [set_ne npq] at hp
  have e1 : (leftL gl (iota n) []).map T.int = gl.map T.int := by rw [← hgl, leftI_nil]
  rw [← e1]
  have ed : (((μ.set q (.lst ((hps ls []).map T.int))).set d (.lst ((leftL gl (iota n) []).map T.int))).set p (.lst [])) d = some (.lst ((leftL gl (iota n) []).map T.int)) := by
    rw [set_ne npd.symm, set_self]
  have eq_ : (((μ.set q (.lst ((hps ls []).map T.int))).set d (.lst ((leftL gl (iota n) []).map T.int))).set p (.lst [])) q = some (.lst ((hps ls []).map T.int)) := by rw [set_ne npq.symm, set_ne ndq.symm, set_self]
  have ep : (((μ.set q (.lst ((hps ls []).map T.int))).set d (.lst ((leftL gl (iota n) []).map T.int))).set p (.lst [])) p = some (.lst (([] : List Int).map T.int)) := set_self
  have sb : Rh.Sub μ (((μ.set q (.lst ((hps ls []).map T.int))).set d (.lst ((leftL gl (iota n) []).map T.int))).set p (.lst [])) := Lw.Sub.put' (Lw.Sub.put' (Rh.Sub.set_none hq) hd0) hp0
  generalize (((μ.set q (.lst ((hps ls []).map T.int))).set d (.lst ((leftL gl (iota n) []).map T.int))).set p (.lst [])) = μ2 at ed eq_ ep sb ⊢
  clear hr1 hgd gd hp hd
  have hr2 := Lw.LstAt.sb hr sb
  apply e_cons; simp only [denS]; (try simp_arith [A.f__law_ready, A.g__law_ready, S__law_ready, i__law_ready, A.f__law_cell_at, A.g__law_cell_at, S__law_cell_at, i__law_cell_at, A.f__law_turned, A.g__law_turned, S__law_turned, i__law_turned, vl_at hr2]); repeat ((with_reducible refine And.intro ?_ ?_); omega)
  have hsn : 0 ≤ gl.sum := by
    have key : ∀ xs : List Int, (∀ x ∈ xs, 0 ≤ x) → 0 ≤ xs.sum := fun xs => by
      induction xs with
      | nil => intro _; exact Int.le_refl _
      | cons y r ih =>
        intro h
        have h1 := h y List.mem_cons_self
        have h2 := ih fun z hz => h z (List.mem_cons_of_mem _ hz)
        rw [List.sum_cons]
        omega
    refine key gl fun x hx => ?_
    obtain ⟨i, hi, rfl⟩ := List.getElem_of_mem hx
    have := hg i (by omega) (by omega)
    unfold Rh.cnt at this
    rwa [Int.toNat_natCast, List.getElem?_eq_getElem hi] at this
  refine ⟨gl, rfl, by omega, by omega, ?_⟩
  refine for_rng (fun k ρ μ2 => ∃ row : List Int, (∃ o8 o9 o10, ρ = [some tl, some tr, some tc, some (.own q), none, some (.own d), some (.own p), o8, o9, o10]) ∧ μ2 d = some (.lst ((leftL gl (iota n) row).map T.int)) ∧ μ2 q = some (.lst ((hps ls row).map T.int)) ∧ μ2 p = some (.lst (row.map T.int)) ∧ Rh.Sub μ μ2 ∧ Turns ls gl n row ∧ row.length = k) ⟨[], ⟨_, _, _, rfl⟩, ed, eq_, ep, sb, Turns.nil, rfl⟩ ?_ ?_
  · clear ed eq_ ep sb
    rintro ρ μ2 ⟨row, ⟨o8, o9, o10, rfl⟩, ed, eq_, ep, sb, hT, hk⟩
    refine ⟨trivial, ?_⟩
    have hcl := cL_done hT hgl hg (by omega)
    have hR := hR row hT (done_stuck hcl)
    apply e_cons; simp only [denS]; (try simp_arith [A.f__law_ready, A.g__law_ready, S__law_ready, i__law_ready, A.f__law_cell_at, A.g__law_cell_at, S__law_cell_at, i__law_cell_at, A.f__law_turned, A.g__law_turned, S__law_turned, i__law_turned]); repeat ((with_reducible refine And.intro ?_ ?_); omega)
    refine ⟨.lst (row.map T.int), μ, ⟨[p], .own ep (List.mem_singleton.mpr rfl) (.refl _), sb, fun a ha => by cases List.mem_singleton.mp ha; exact hp0⟩, hR⟩
  clear ed eq_ ep sb hr2
  rintro k ρ μ2 hk ⟨row, ⟨o8, o9, o10, rfl⟩, ed, eq_, ep, sb, hT, hrk⟩
  refine ⟨trivial, ?_⟩
  have hr2 := Lw.LstAt.sb hr sb
  have ht2 := Lw.LstAt.sb ht sb
  generalize hcn : (fun m : Int => decide (0 < cnt gl m - row.count m) && rdy ls (hps ls row) m) = cn
  have hcn' : ∀ m : Int, cn m = (decide (0 < cnt gl m - row.count m) && rdy ls (hps ls row) m) := fun m => by rw [← hcn]
  have hcan : ∀ m : Int, cn m = true ↔ Can ls gl row m := fun m => by
    rw [hcn', Bool.and_eq_true, decide_eq_true_eq]
    exact ⟨fun z => ⟨by omega, z.2⟩, fun z => ⟨by have := z.1; omega, z.2⟩⟩
  have hll2 : ∀ x : Int, (leftL gl (iota n) row).length = n := fun _ => by rw [left_len, iota_len]
  simp_arith [A.f__law_ready, A.g__law_ready, S__law_ready, i__law_ready, A.f__law_cell_at, A.g__law_cell_at, S__law_cell_at, i__law_cell_at, A.f__law_turned, A.g__law_turned, S__law_turned, i__law_turned]
  apply e_cons; simp only [denS]; (try simp_arith [A.f__law_ready, A.g__law_ready, S__law_ready, i__law_ready, A.f__law_cell_at, A.g__law_cell_at, S__law_cell_at, i__law_cell_at, A.f__law_turned, A.g__law_turned, S__law_turned, i__law_turned]); repeat ((with_reducible refine And.intro ?_ ?_); omega)
  rw [len_at hr2]
  simp_arith [A.f__law_ready, A.g__law_ready, S__law_ready, i__law_ready, A.f__law_cell_at, A.g__law_cell_at, S__law_cell_at, i__law_cell_at, A.f__law_turned, A.g__law_turned, S__law_turned, i__law_turned]
  refine ⟨by omega, by omega, ?_⟩
  rw [hgl, iota_T]
  refine comp_pure (fun t => match t with | .int i => cn i | _ => false) (fun t => t) trivial (by rw [List.length_map, iota_len, sz]; omega) ?_ ?_
  · intro u hu Y N hY hN
    obtain ⟨m, hm, rfl⟩ := List.mem_map.mp hu
    obtain ⟨m0, m1⟩ := iota_mem.mp hm
    have hY : cn m = true → Y (.int m) μ2 := hY
    have hN : cn m = false → N μ2 := hN
    rw [hcn'] at hY hN
    have b1 := at_cnt (cs := leftL gl (iota n) row) m0 (by rw [left_len, iota_len]; exact m1)
    rw [leftI_at m0 m1] at b1
    simp only [wipeT]
    simp_arith [A.f__law_ready, A.g__law_ready, S__law_ready, i__law_ready, A.f__law_cell_at, A.g__law_cell_at, S__law_cell_at, i__law_cell_at, A.f__law_turned, A.g__law_turned, S__law_turned, i__law_turned, ed, b1]
    by_cases c1 : 0 < cnt gl m - row.count m
    · rw [if_pos c1]
      refine ⟨ls, ht2, _, .own eq_, hps_len, by omega, ?_⟩
      cases c2 : rdy ls (hps ls row) m
      · exact hN (by rw [c2, Bool.and_false])
      · exact hY (by rw [c2, decide_eq_true c1]; rfl)
    · rw [if_neg c1, if_neg c1]
      exact hN (by rw [decide_eq_false c1]; rfl)
  have es : ((iota n).map T.int).filter (fun t => match t with | .int i => cn i | _ => false) = ((iota n).filter cn).map T.int := by
    rw [List.filter_map]
    rfl
  rw [List.map_id', es]
  simp only [newL]
  have hsm : ∀ i : Int, i ∈ (iota n).filter cn ↔ (0 ≤ i ∧ i < n) ∧ Can ls gl row i := fun i => by rw [List.mem_filter, iota_mem, hcan]
  have hsml : ((iota n).filter cn).length ≤ 31 := Nat.le_trans (List.length_filter_le _ _) (by rw [iota_len]; exact hn)
  generalize (iota n).filter cn = sm at hsm hsml
  have enil : ∀ (xs : List Int) (neg : Bool) (μ : Sto) (R : RP), tEq neg (.lst (xs.map T.int)) (.lst []) μ R = R (.bl (if neg = true then !decide (xs = []) else decide (xs = []))) μ := fun xs neg μ R => eq_ints (ys := [])
  apply e_cons; apply e_ife; simp_arith [A.f__law_ready, A.g__law_ready, S__law_ready, i__law_ready, A.f__law_cell_at, A.g__law_cell_at, S__law_cell_at, i__law_cell_at, A.f__law_turned, A.g__law_turned, S__law_turned, i__law_turned, enil]; repeat ((with_reducible refine And.intro ?_ ?_); omega)
  by_cases hz : sm = []
  · rw [if_pos hz]
    have hS : Stuck ls gl n row := fun w a b hc => by
      have := (hsm w).mpr ⟨⟨a, b⟩, hc⟩
      rw [hz] at this
      cases this
    apply e_cons; simp only [denS]; (try simp_arith [A.f__law_ready, A.g__law_ready, S__law_ready, i__law_ready, A.f__law_cell_at, A.g__law_cell_at, S__law_cell_at, i__law_cell_at, A.f__law_turned, A.g__law_turned, S__law_turned, i__law_turned]); repeat ((with_reducible refine And.intro ?_ ?_); omega)
    exact ⟨.lst (row.map T.int), μ, ⟨[p], .own ep (List.mem_singleton.mpr rfl) (.refl _), sb, fun a ha => by cases List.mem_singleton.mp ha; exact hp0⟩, hR row hT hS⟩
  rw [if_neg hz]
  have hsl : 0 < sm.length := List.length_pos_iff.mpr hz
  have hlen : row.length ≤ 400 := by
    have := hT.len hgl hg
    omega
  apply e_cons; simp only [denS]; (try simp_arith [A.f__law_ready, A.g__law_ready, S__law_ready, i__law_ready, A.f__law_cell_at, A.g__law_cell_at, S__law_cell_at, i__law_cell_at, A.f__law_turned, A.g__law_turned, S__law_turned, i__law_turned]); repeat ((with_reducible refine And.intro ?_ ?_); omega)
  refine ⟨ns, hc, by omega, by omega, fun x => ?_⟩
  have p0 := Int.emod_nonneg (x * 48271 % 2147483647 / 5) (show (sm.length : Int) ≠ 0 by omega)
  have p1 := Int.emod_lt_of_pos (x * 48271 % 2147483647 / 5) (show 0 < (sm.length : Int) by omega)
  have b2 := at_cnt (cs := sm) p0 p1
  have hw : cnt sm (x * 48271 % 2147483647 / 5 % sm.length) ∈ sm := by
    unfold Rh.cnt
    rw [List.getElem?_eq_getElem (by omega)]
    exact List.getElem_mem _
  generalize hwg : cnt sm (x * 48271 % 2147483647 / 5 % sm.length) = w at b2 hw
  obtain ⟨hwr, hcw⟩ := (hsm w).mp hw
  have hT' := hT.app hwr hcw
  refine ⟨by omega, .int w, b2, ?_⟩
  apply e_cons; simp only [denS]; (try simp_arith [A.f__law_ready, A.g__law_ready, S__law_ready, i__law_ready, A.f__law_cell_at, A.g__law_cell_at, S__law_cell_at, i__law_cell_at, A.f__law_turned, A.g__law_turned, S__law_turned, i__law_turned]); repeat ((with_reducible refine And.intro ?_ ?_); omega)
  refine ⟨ls, ht2, LstAt.ne_ ht hq, _, eq_, hps_len, by omega, ?_⟩
  rw [shift_hps]
  have ed2 : (μ2.set q (.lst ((hps ls (row ++ [w])).map T.int))) d = some (.lst ((leftL gl (iota n) row).map T.int)) := by rw [set_ne ndq]; exact ed
  have ep2 : (μ2.set q (.lst ((hps ls (row ++ [w])).map T.int))) p = some (.lst (row.map T.int)) := by rw [set_ne npq]; exact ep
  have eq2 : (μ2.set q (.lst ((hps ls (row ++ [w])).map T.int))) q = some (.lst ((hps ls (row ++ [w])).map T.int)) := set_self
  have sb2 := Lw.Sub.put' (o := .lst ((hps ls (row ++ [w])).map T.int)) sb hq
  generalize μ2.set q (.lst ((hps ls (row ++ [w])).map T.int)) = μ3 at ed2 ep2 eq2 sb2 ⊢
  have b3 := at_cnt (cs := leftL gl (iota n) row) hwr.1 (by rw [left_len, iota_len]; exact hwr.2)
  rw [leftI_at hwr.1 hwr.2] at b3
  have hset := left_set (gl := gl) (row := row) (iota_nd (n := n)) (iota_get hwr.1 hwr.2)
  have hix : ixN (leftL gl (iota n) row).length w = some w.toNat := ixN_nn hwr.1 (by rw [left_len, iota_len]; exact hwr.2)
  apply e_cons; simp only [denS]; (try simp_arith [A.f__law_ready, A.g__law_ready, S__law_ready, i__law_ready, A.f__law_cell_at, A.g__law_cell_at, S__law_cell_at, i__law_cell_at, A.f__law_turned, A.g__law_turned, S__law_turned, i__law_turned, ed2, b3]); repeat ((with_reducible refine And.intro ?_ ?_); omega)
  refine ⟨w.toNat, hix, ?_⟩
  rw [← List.map_set, hset]
  have ep3 : (μ3.set d (.lst ((leftL gl (iota n) (row ++ [w])).map T.int))) p = some (.lst (row.map T.int)) := by rw [set_ne npd]; exact ep2
  have eq3 : (μ3.set d (.lst ((leftL gl (iota n) (row ++ [w])).map T.int))) q = some (.lst ((hps ls (row ++ [w])).map T.int)) := by rw [set_ne ndq.symm]; exact eq2
  have ed3 : (μ3.set d (.lst ((leftL gl (iota n) (row ++ [w])).map T.int))) d = some (.lst ((leftL gl (iota n) (row ++ [w])).map T.int)) := set_self
  have sb3 := Lw.Sub.put' (o := .lst ((leftL gl (iota n) (row ++ [w])).map T.int)) sb2 hd0
  generalize μ3.set d (.lst ((leftL gl (iota n) (row ++ [w])).map T.int)) = μ4 at ed3 ep3 eq3 sb3 ⊢
  apply e_cons; simp only [denS]; (try simp_arith [A.f__law_ready, A.g__law_ready, S__law_ready, i__law_ready, A.f__law_cell_at, A.g__law_cell_at, S__law_cell_at, i__law_cell_at, A.f__law_turned, A.g__law_turned, S__law_turned, i__law_turned, ep3]); repeat ((with_reducible refine And.intro ?_ ?_); omega)
  rw [show row.map T.int ++ [T.int w] = (row ++ [w]).map T.int by rw [List.map_append]; rfl]
  exact ⟨_, _, .refl _ _, ⟨_, _, _, rfl⟩, row ++ [w], by rw [set_ne npd.symm]; exact ed3, by rw [set_ne npq.symm]; exact eq3, set_self, Lw.Sub.put' sb3 hp0, hT', by rw [List.length_append, hrk]; rfl⟩
def S__law_pieces_by : TSp := fun ts μ F R => ∃ (t tl : T) (ns : List Int) (at_ : Int) (ls : List Ln), ts = [t, .int at_, tl] ∧ RdL t ns ∧ ns.length ≤ 1000 ∧ LstAt μ tl (ls.map Ln.tr) ∧ 0 ≤ at_ ∧ at_ ≤ 100 ∧ ls.length ≤ 60 ∧ (∀ l ∈ ls, 0 ≤ Ln.st l ∧ Ln.st l ≤ 300) ∧ ∀ Ld : List (List Int), LoadsOk ls Ld → (∀ x ∈ Ld, ∀ v ∈ x, Bt 110 v) → R (lsT Ld) μ
structure A__law_pieces_by (G : Tab) (Γ : Nat → TSp) : Prop where
  f__law_cell_at : G.fn n__law_cell_at = some i__law_cell_at
  g__law_cell_at : Γ n__law_cell_at = S__law_cell_at
abbrev B__law_pieces_by (G : Tab) (Γ : Nat → TSp) : Prop := ∀ ts μ F R, S__law_pieces_by ts μ F R → denSs G Γ c__law_pieces_by (bodyD R F) (startT N__law_pieces_by.length ts) μ
theorem body__law_pieces_by {G : Tab} {Γ : Nat → TSp} (A : A__law_pieces_by G Γ) : B__law_pieces_by G Γ := by
  rintro ts μ F R ⟨t, tl, ns, at_, ls, rfl, ht, hnl, htl, a0, a1, hz, hst, hR⟩
  unfold c__law_pieces_by
  simp only [Rh.startT, List.length_cons, List.length_nil, List.map_cons, List.map_nil, List.replicate, List.cons_append, List.nil_append, Nat.reduceAdd, Nat.reduceSub, N__law_pieces_by]
  apply e_cons; simp only [denS]; (try simp_arith [A.f__law_cell_at, A.g__law_cell_at, S__law_cell_at, i__law_cell_at]); repeat ((with_reducible refine And.intro ?_ ?_); omega)
  intro p hp0
  apply e_cons; simp only [denS]; (try simp_arith [A.f__law_cell_at, A.g__law_cell_at, S__law_cell_at, i__law_cell_at]); repeat ((with_reducible refine And.intro ?_ ?_); omega)
  have htl1 : ∀ us : List T, LstAt (μ.set p (.lst us)) tl (ls.map Ln.tr) := fun us => htl.set hp0
  refine onG_at (htl1 _) fun gd hgd => ?_
  refine for_map (fun k ρ μ' => ∃ (Ld : List (List Int)) (a : Int), (∃ o4 o5 o6, ρ = [some t, some (.int a), some tl, some (.own p), o4, o5, o6]) ∧ μ' = μ.set p (.lst (Ld.map fun x => .lst (x.map T.int))) ∧ Ld.length = k ∧ (∀ (i : Nat) l x, ls[i]? = some l → Ld[i]? = some x → (x.length : Int) = Ln.st l) ∧ (∀ x ∈ Ld, ∀ v ∈ x, Bt 110 v) ∧ 0 ≤ a ∧ a ≤ 100 + 300 * k) ⟨[], at_, ⟨_, _, _, rfl⟩, rfl, rfl, fun i l x _ z => by simp at z, fun x hx => (nomatch hx), a0, by omega⟩ ?_ ?_
  · rintro ρ μ' ⟨Ld, a, ⟨o4, o5, o6, rfl⟩, rfl, h1, h2, h3, h4, h5⟩
    refine ⟨hgd _ (htl1 _), ?_⟩
    apply e_cons; simp only [denS]; (try simp_arith [A.f__law_cell_at, A.g__law_cell_at, S__law_cell_at, i__law_cell_at]); repeat ((with_reducible refine And.intro ?_ ?_); omega)
    exact ⟨lsT Ld, μ, ⟨[p], .own set_self (List.mem_singleton.mpr rfl) (.refl _), Rh.Sub.set_none hp0, fun b hb => by cases List.mem_singleton.mp hb; exact hp0⟩, hR Ld ⟨h1, h2⟩ h3⟩
  rintro k l ρ μ' hk ⟨Ld, a, ⟨o4, o5, o6, rfl⟩, rfl, h1, h2, h3, h4, h5⟩
  refine ⟨hgd _ (htl1 _), ?_⟩
  obtain ⟨s0, s1⟩ := hst l (List.mem_of_getElem? hk)
  have hkl := (List.getElem?_eq_some_iff.mp hk).1
  obtain ⟨S, hS⟩ := Int.eq_ofNat_of_zero_le s0
  generalize hPS : (Ld.map fun x => T.lst (x.map T.int)) = PS at hgd
  have hgd : ∀ μ', LstAt μ' tl (ls.map Ln.tr) → gd μ' := hgd
  simp_arith [A.f__law_cell_at, A.g__law_cell_at, S__law_cell_at, i__law_cell_at, Ln.tr]
  apply e_cons; simp only [denS]; (try simp_arith [A.f__law_cell_at, A.g__law_cell_at, S__law_cell_at, i__law_cell_at]); repeat ((with_reducible refine And.intro ?_ ?_); omega)
  intro q hq
  have nqp : q ≠ p := (nofr set_self hq).symm
  have hq0 : μ q = none := by rwa [set_ne nqp] at hq
  have hPl : PS.length = k := by rw [← hPS, List.length_map]; exact h1
  have eS : (l.st : Int).toNat = S := by rw [hS]; rfl
  apply e_cons; simp only [denS]; (try simp_arith [A.f__law_cell_at, A.g__law_cell_at, S__law_cell_at, i__law_cell_at, Ln.tr]); repeat ((with_reducible refine And.intro ?_ ?_); omega)
  rw [eS]
  refine for_rng (fun j ρ μ3 => ∃ xs : List Int, (∃ o6, ρ = [some t, some (.int (a + j)), some tl, some (.own p), some l.tr, some (.own q), o6]) ∧ μ3 = (μ.set p (.lst PS)).set q (.lst (xs.map T.int)) ∧ xs.length = j ∧ ∀ v ∈ xs, Bt 110 v) ⟨[], ⟨o6, by simp [Ln.tr, hS]⟩, rfl, rfl, fun f hf => (nomatch hf)⟩ ?_ ?_
  · rintro ρ μ3 ⟨xs, ⟨o6, rfl⟩, rfl, hx1, hx2⟩
    refine ⟨trivial, ?_⟩
    refine e_wk (ρ' := [some t, some (.int (a + (S : Nat))), some tl, some (.own p), none, some (.lst (xs.map T.int)), none]) (μ' := μ.set p (.lst PS)) ⟨[q], .keep (.refl _) (.keep (.refl _) (.keep (.refl _) (.keep (.refl _) (.gone (.keep .one (.gone .nil)))))), .one hq⟩ ?_
    have gp : (μ.set p (.lst PS)) p = some (.lst PS) := set_self
    apply e_cons; simp only [denS]; (try simp_arith [A.f__law_cell_at, A.g__law_cell_at, S__law_cell_at, i__law_cell_at, gp]); repeat ((with_reducible refine And.intro ?_ ?_); omega)
    refine ⟨_, _, .refl _ _, Ld ++ [xs], a + S, ⟨_, _, _, rfl⟩, by rw [set_set, List.map_append, hPS]; rfl, by rw [List.length_append, h1]; rfl, fun i l' x el ex => ?_, fun x hx v hv => ?_, by omega, by omega⟩
    · by_cases hi : i < k
      · rw [List.getElem?_append_left (by omega)] at ex
        exact h2 i l' x el ex
      · have := (List.getElem?_eq_some_iff.mp ex).1
        rw [List.length_append, List.length_singleton] at this
        have e : i = k := by omega
        subst e
        rw [← h1, List.getElem?_concat_length] at ex
        cases ex
        rw [hk] at el
        cases el
        omega
    · rcases List.mem_append.mp hx with z | z
      · exact h3 x z v hv
      · cases List.mem_singleton.mp z
        exact hx2 v hv
  rintro j ρ μ3 hj ⟨xs, ⟨o6, rfl⟩, rfl, hx1, hx2⟩
  refine ⟨trivial, ?_⟩
  have m0 := Int.emod_nonneg (j : Int) (show (2 : Int) ≠ 0 by decide)
  have m1 := Int.emod_lt_of_pos (j : Int) (show (0 : Int) < 2 by decide)
  simp_arith [A.f__law_cell_at, A.g__law_cell_at, S__law_cell_at, i__law_cell_at]
  apply e_cons; simp only [denS]; (try simp_arith [A.f__law_cell_at, A.g__law_cell_at, S__law_cell_at, i__law_cell_at]); repeat ((with_reducible refine And.intro ?_ ?_); omega)
  refine ⟨ns, ht, hnl, by omega, by omega, fun x => ⟨by decide, of_eq_true (mul_litR (by omega) (by omega)), by omega, ?_⟩⟩
  apply e_cons; simp only [denS]; (try simp_arith [A.f__law_cell_at, A.g__law_cell_at, S__law_cell_at, i__law_cell_at]); repeat ((with_reducible refine And.intro ?_ ?_); omega)
  have ea : a + (j : Int) + 1 = a + ((j + 1 : Nat) : Int) := by omega
  have z0 := Int.emod_nonneg x (show (2 * 100000000000000000000000000000 : Int) ≠ 0 by decide)
  have z1 := Int.emod_lt_of_pos x (show (0 : Int) < 2 * 100000000000000000000000000000 by decide)
  refine ⟨_, _, .refl _ _, ⟨_, by rw [ea]⟩, _, by rw [set_set, ← List.map_singleton, ← List.map_append], by rw [List.length_append, hx1]; rfl, fun v hv => ?_⟩
  rcases List.mem_append.mp hv with z | z
  · exact hx2 v z
  · cases List.mem_singleton.mp z
    exact bt110 (by omega) (by omega)
def S_law : TSp := sLawT
structure A_law (G : Tab) (Γ : Nat → TSp) : Prop where
  f__law_cell_at : G.fn n__law_cell_at = some i__law_cell_at
  g__law_cell_at : Γ n__law_cell_at = S__law_cell_at
  f__law_belt_by : G.fn n__law_belt_by = some i__law_belt_by
  g__law_belt_by : Γ n__law_belt_by = S__law_belt_by
  f__law_forms_by : G.fn n__law_forms_by = some i__law_forms_by
  g__law_forms_by : Γ n__law_forms_by = S__law_forms_by
  f__law_pieces_by : G.fn n__law_pieces_by = some i__law_pieces_by
  g__law_pieces_by : Γ n__law_pieces_by = S__law_pieces_by
  f__law_order : G.fn n__law_order = some i__law_order
  g__law_order : Γ n__law_order = S__law_order
  f__law_made : G.fn n__law_made = some i__law_made
  g__law_made : Γ n__law_made = S__law_made
  f__law_names : G.fn n__law_names = some i__law_names
  g__law_names : Γ n__law_names = S__law_names
  f_Mill_init : G.fn n_Mill_init = some i_Mill_init
  g_Mill_init : Γ n_Mill_init = S_Mill_init
  c_Mill : G.cl 5 = some ⟨"Mill", n_Mill_init⟩
  f_Mill_go : G.fn n_Mill_go = some i_Mill_go
  g_Mill_go : Γ n_Mill_go = S_Mill_go
  f_Mill_turn : G.fn n_Mill_turn = some i_Mill_turn
  g_Mill_turn : Γ n_Mill_turn = S_Mill_turn
  f_Mill_lying : G.fn n_Mill_lying = some i_Mill_lying
  g_Mill_lying : Γ n_Mill_lying = S_Mill_lying
abbrev B_law (G : Tab) (Γ : Nat → TSp) : Prop := ∀ ts μ F R, S_law ts μ F R → denSs G Γ c_law (bodyD R F) (startT N_law.length ts) μ
theorem body_law {G : Tab} {Γ : Nat → TSp} (A : A_law G Γ) : B_law G Γ := by
  rintro ts μ F R ⟨ns, rfl, hl, hb, hR⟩
  unfold c_law
  simp only [Rh.startT, List.length_cons, List.length_nil, List.map_cons, List.map_nil, List.replicate, List.cons_append, List.nil_append, Nat.reduceAdd, Nat.reduceSub, N_law]
  apply e_cons; simp only [denS]; (try simp_arith [A.f__law_cell_at, A.g__law_cell_at, S__law_cell_at, i__law_cell_at, A.f__law_belt_by, A.g__law_belt_by, S__law_belt_by, i__law_belt_by, A.f__law_forms_by, A.g__law_forms_by, S__law_forms_by, i__law_forms_by, A.f__law_pieces_by, A.g__law_pieces_by, S__law_pieces_by, i__law_pieces_by, A.f__law_order, A.g__law_order, S__law_order, i__law_order, A.f__law_made, A.g__law_made, S__law_made, i__law_made, A.f__law_names, A.g__law_names, S__law_names, i__law_names, A.f_Mill_init, A.g_Mill_init, S_Mill_init, i_Mill_init, A.c_Mill, A.f_Mill_go, A.g_Mill_go, S_Mill_go, i_Mill_go, A.f_Mill_turn, A.g_Mill_turn, S_Mill_turn, i_Mill_turn, A.f_Mill_lying, A.g_Mill_lying, S_Mill_lying, i_Mill_lying]); repeat ((with_reducible refine And.intro ?_ ?_); omega)
  refine ⟨ns, .inl rfl, by omega, fun x0 => ?_⟩
  have m0 := Int.emod_nonneg x0 (show (5 : Int) ≠ 0 by decide)
  have m1 := Int.emod_lt_of_pos x0 (show (0 : Int) < 5 by decide)
  have m2 := Int.emod_nonneg (x0 / 5) (show (7 : Int) ≠ 0 by decide)
  have m3 := Int.emod_lt_of_pos (x0 / 5) (show (0 : Int) < 7 by decide)
  apply e_cons; simp only [denS]; (try simp_arith [A.f__law_cell_at, A.g__law_cell_at, S__law_cell_at, i__law_cell_at, A.f__law_belt_by, A.g__law_belt_by, S__law_belt_by, i__law_belt_by, A.f__law_forms_by, A.g__law_forms_by, S__law_forms_by, i__law_forms_by, A.f__law_pieces_by, A.g__law_pieces_by, S__law_pieces_by, i__law_pieces_by, A.f__law_order, A.g__law_order, S__law_order, i__law_order, A.f__law_made, A.g__law_made, S__law_made, i__law_made, A.f__law_names, A.g__law_names, S__law_names, i__law_names, A.f_Mill_init, A.g_Mill_init, S_Mill_init, i_Mill_init, A.c_Mill, A.f_Mill_go, A.g_Mill_go, S_Mill_go, i_Mill_go, A.f_Mill_turn, A.g_Mill_turn, S_Mill_turn, i_Mill_turn, A.f_Mill_lying, A.g_Mill_lying, S_Mill_lying, i_Mill_lying]); repeat ((with_reducible refine And.intro ?_ ?_); omega)
  obtain ⟨n, hn⟩ := Int.eq_ofNat_of_zero_le (show 0 ≤ 1 + x0 % 5 by omega)
  rw [hn]
  have hn1 : 1 ≤ n ∧ n ≤ 5 := by omega
  apply e_cons; simp only [denS]; (try simp_arith [A.f__law_cell_at, A.g__law_cell_at, S__law_cell_at, i__law_cell_at, A.f__law_belt_by, A.g__law_belt_by, S__law_belt_by, i__law_belt_by, A.f__law_forms_by, A.g__law_forms_by, S__law_forms_by, i__law_forms_by, A.f__law_pieces_by, A.g__law_pieces_by, S__law_pieces_by, i__law_pieces_by, A.f__law_order, A.g__law_order, S__law_order, i__law_order, A.f__law_made, A.g__law_made, S__law_made, i__law_made, A.f__law_names, A.g__law_names, S__law_names, i__law_names, A.f_Mill_init, A.g_Mill_init, S_Mill_init, i_Mill_init, A.c_Mill, A.f_Mill_go, A.g_Mill_go, S_Mill_go, i_Mill_go, A.f_Mill_turn, A.g_Mill_turn, S_Mill_turn, i_Mill_turn, A.f_Mill_lying, A.g_Mill_lying, S_Mill_lying, i_Mill_lying]); repeat ((with_reducible refine And.intro ?_ ?_); omega)
  refine comp_any (fun x => 1 ≤ x ∧ x ≤ 3) trivial (by rw [sz]; omega) ?_ ?_
  · intro k hk Y N hY
    simp only [wipeT]
    simp_arith [A.f__law_cell_at, A.g__law_cell_at, S__law_cell_at, i__law_cell_at, A.f__law_belt_by, A.g__law_belt_by, S__law_belt_by, i__law_belt_by, A.f__law_forms_by, A.g__law_forms_by, S__law_forms_by, i__law_forms_by, A.f__law_pieces_by, A.g__law_pieces_by, S__law_pieces_by, i__law_pieces_by, A.f__law_order, A.g__law_order, S__law_order, i__law_order, A.f__law_made, A.g__law_made, S__law_made, i__law_made, A.f__law_names, A.g__law_names, S__law_names, i__law_names, A.f_Mill_init, A.g_Mill_init, S_Mill_init, i_Mill_init, A.c_Mill, A.f_Mill_go, A.g_Mill_go, S_Mill_go, i_Mill_go, A.f_Mill_turn, A.g_Mill_turn, S_Mill_turn, i_Mill_turn, A.f_Mill_lying, A.g_Mill_lying, S_Mill_lying, i_Mill_lying]
    refine ⟨ns, .inl rfl, by omega, by omega, by omega, fun x => ?_⟩
    have y0 := Int.emod_nonneg x (show (3 : Int) ≠ 0 by decide)
    have y1 := Int.emod_lt_of_pos x (show (0 : Int) < 3 by decide)
    exact hY _ (by omega)
  intro rs hrl hrs
  simp only [newL]
  have SZ : SzL n rs 3 := ⟨hrl, fun w a b => by
    obtain ⟨i, rfl⟩ := Int.eq_ofNat_of_zero_le a
    have hi : i < rs.length := by omega
    have := hrs _ (List.getElem_mem hi)
    unfold Rh.cnt
    rw [Int.toNat_natCast, List.getElem?_eq_getElem hi]
    exact this⟩
  have SZ' : SzL n rs 1000 := ⟨hrl, fun w a b => by have := SZ.at_ w a b; omega⟩
  apply e_cons; simp only [denS]; (try simp_arith [A.f__law_cell_at, A.g__law_cell_at, S__law_cell_at, i__law_cell_at, A.f__law_belt_by, A.g__law_belt_by, S__law_belt_by, i__law_belt_by, A.f__law_forms_by, A.g__law_forms_by, S__law_forms_by, i__law_forms_by, A.f__law_pieces_by, A.g__law_pieces_by, S__law_pieces_by, i__law_pieces_by, A.f__law_order, A.g__law_order, S__law_order, i__law_order, A.f__law_made, A.g__law_made, S__law_made, i__law_made, A.f__law_names, A.g__law_names, S__law_names, i__law_names, A.f_Mill_init, A.g_Mill_init, S_Mill_init, i_Mill_init, A.c_Mill, A.f_Mill_go, A.g_Mill_go, S_Mill_go, i_Mill_go, A.f_Mill_turn, A.g_Mill_turn, S_Mill_turn, i_Mill_turn, A.f_Mill_lying, A.g_Mill_lying, S_Mill_lying, i_Mill_lying]); repeat ((with_reducible refine And.intro ?_ ?_); omega)
  intro p hp
  apply e_cons; simp only [denS]; (try simp_arith [A.f__law_cell_at, A.g__law_cell_at, S__law_cell_at, i__law_cell_at, A.f__law_belt_by, A.g__law_belt_by, S__law_belt_by, i__law_belt_by, A.f__law_forms_by, A.g__law_forms_by, S__law_forms_by, i__law_forms_by, A.f__law_pieces_by, A.g__law_pieces_by, S__law_pieces_by, i__law_pieces_by, A.f__law_order, A.g__law_order, S__law_order, i__law_order, A.f__law_made, A.g__law_made, S__law_made, i__law_made, A.f__law_names, A.g__law_names, S__law_names, i__law_names, A.f_Mill_init, A.g_Mill_init, S_Mill_init, i_Mill_init, A.c_Mill, A.f_Mill_go, A.g_Mill_go, S_Mill_go, i_Mill_go, A.f_Mill_turn, A.g_Mill_turn, S_Mill_turn, i_Mill_turn, A.f_Mill_lying, A.g_Mill_lying, S_Mill_lying, i_Mill_lying]); repeat ((with_reducible refine And.intro ?_ ?_); omega)
  obtain ⟨b0, hb0⟩ := Int.eq_ofNat_of_zero_le m2
  rw [hb0, Int.toNat_natCast]
  refine for_rng (fun k ρ μ2 => ∃ ls : List Ln, (∃ o4, ρ = [some (.scr (ns.map T.int)), some (.int x0), some (.int n), some (.lst (rs.map T.int)), o4, some (.own p), none, none, none, none, none, none, none, none, none, none, none, none]) ∧ μ2 = μ.set p (.lst (ls.map Ln.tr)) ∧ ls.length = k ∧ ∀ l ∈ ls, LR n rs 2 l) ⟨[], ⟨_, rfl⟩, rfl, rfl, fun _ z => nomatch z⟩ ?_ ?_
  case refine_2 =>
    rintro k ρ μ2 hk ⟨ls, ⟨o4, rfl⟩, rfl, hll, hls⟩
    refine ⟨trivial, ?_⟩
    simp_arith [A.f__law_cell_at, A.g__law_cell_at, S__law_cell_at, i__law_cell_at, A.f__law_belt_by, A.g__law_belt_by, S__law_belt_by, i__law_belt_by, A.f__law_forms_by, A.g__law_forms_by, S__law_forms_by, i__law_forms_by, A.f__law_pieces_by, A.g__law_pieces_by, S__law_pieces_by, i__law_pieces_by, A.f__law_order, A.g__law_order, S__law_order, i__law_order, A.f__law_made, A.g__law_made, S__law_made, i__law_made, A.f__law_names, A.g__law_names, S__law_names, i__law_names, A.f_Mill_init, A.g_Mill_init, S_Mill_init, i_Mill_init, A.c_Mill, A.f_Mill_go, A.g_Mill_go, S_Mill_go, i_Mill_go, A.f_Mill_turn, A.g_Mill_turn, S_Mill_turn, i_Mill_turn, A.f_Mill_lying, A.g_Mill_lying, S_Mill_lying, i_Mill_lying]
    apply e_cons; simp only [denS]; (try simp_arith [A.f__law_cell_at, A.g__law_cell_at, S__law_cell_at, i__law_cell_at, A.f__law_belt_by, A.g__law_belt_by, S__law_belt_by, i__law_belt_by, A.f__law_forms_by, A.g__law_forms_by, S__law_forms_by, i__law_forms_by, A.f__law_pieces_by, A.g__law_pieces_by, S__law_pieces_by, i__law_pieces_by, A.f__law_order, A.g__law_order, S__law_order, i__law_order, A.f__law_made, A.g__law_made, S__law_made, i__law_made, A.f__law_names, A.g__law_names, S__law_names, i__law_names, A.f_Mill_init, A.g_Mill_init, S_Mill_init, i_Mill_init, A.c_Mill, A.f_Mill_go, A.g_Mill_go, S_Mill_go, i_Mill_go, A.f_Mill_turn, A.g_Mill_turn, S_Mill_turn, i_Mill_turn, A.f_Mill_lying, A.g_Mill_lying, S_Mill_lying, i_Mill_lying]); repeat ((with_reducible refine And.intro ?_ ?_); omega)
    refine ⟨ns, .inl rfl, by omega, by omega, by omega, fun x2 => ?_⟩
    refine ⟨rs, .lst, n, SZ', by omega, by omega, fun l hl' => ?_⟩
    refine ⟨by omega, _, _, .refl _ _, ⟨_, rfl⟩, ls ++ [l], ?_, by rw [List.length_append, hll]; rfl, fun z hz => ?_⟩
    · rw [set_set, List.map_append]
      rfl
    · rcases List.mem_append.mp hz with q | q
      · exact hls z q
      · cases List.mem_singleton.mp q
        exact hl'
  rintro ρ μ2 ⟨ls, ⟨o4, rfl⟩, rfl, hll, hls⟩
  refine ⟨trivial, ?_⟩
  refine e_wk (ρ' := [some (.scr (ns.map T.int)), some (.int x0), some (.int n), some (.lst (rs.map T.int)), none, some (.lst (ls.map Ln.tr)), none, none, none, none, none, none, none, none, none, none, none, none]) (μ' := μ) ⟨[p], .keep (.refl _) (.keep (.refl _) (.keep (.refl _) (.keep (.refl _) (.gone (.keep .one (.gone (.gone (.gone (.gone (.gone (.gone (.gone (.gone (.gone (.gone (.gone (.gone .nil))))))))))))))))), .one hp⟩ ?_
  have hls6 : ∀ l ∈ ls, Ln.gi l ≤ 6 ∧ l.ta ≤ 6 ∧ l.st ≤ 20 := fun l hl => by
    have a := hls l hl
    have b := SZ.at_ l.g a.g0 a.g1
    have c := SZ.at_ l.t a.t0 a.t1
    have d := a.giM
    have e := a.taM
    have f := a.stM
    have g : l.ta * cnt rs l.t ≤ 6 * 3 := Int.mul_le_mul (by omega) c.2 (by omega) (by decide)
    omega
  apply e_cons
  refine e_join (fun ρ μ2 => ∃ ls2 : List Ln, (∃ o6, ρ = [some (.scr (ns.map T.int)), some (.int x0), some (.int n), some (.lst (rs.map T.int)), none, some (.lst (ls2.map Ln.tr)), o6, none, none, none, none, none, none, none, none, none, none, none]) ∧ μ2 = μ ∧ ls2.length = b0 ∧ PosL ls2 ∧ Inr (ends ls2) n ∧ ∀ l ∈ ls2, (0 ≤ Ln.st l ∧ l.st ≤ 20) ∧ Ln.gi l ≤ 6 ∧ l.ta ≤ 6) ?_ ?_
  case refine_2 =>
    simp_arith [A.f__law_cell_at, A.g__law_cell_at, S__law_cell_at, i__law_cell_at, A.f__law_belt_by, A.g__law_belt_by, S__law_belt_by, i__law_belt_by, A.f__law_forms_by, A.g__law_forms_by, S__law_forms_by, i__law_forms_by, A.f__law_pieces_by, A.g__law_pieces_by, S__law_pieces_by, i__law_pieces_by, A.f__law_order, A.g__law_order, S__law_order, i__law_order, A.f__law_made, A.g__law_made, S__law_made, i__law_made, A.f__law_names, A.g__law_names, S__law_names, i__law_names, A.f_Mill_init, A.g_Mill_init, S_Mill_init, i_Mill_init, A.c_Mill, A.f_Mill_go, A.g_Mill_go, S_Mill_go, i_Mill_go, A.f_Mill_turn, A.g_Mill_turn, S_Mill_turn, i_Mill_turn, A.f_Mill_lying, A.g_Mill_lying, S_Mill_lying, i_Mill_lying]
    split
    · apply e_cons; simp only [denS]; (try simp_arith [A.f__law_cell_at, A.g__law_cell_at, S__law_cell_at, i__law_cell_at, A.f__law_belt_by, A.g__law_belt_by, S__law_belt_by, i__law_belt_by, A.f__law_forms_by, A.g__law_forms_by, S__law_forms_by, i__law_forms_by, A.f__law_pieces_by, A.g__law_pieces_by, S__law_pieces_by, i__law_pieces_by, A.f__law_order, A.g__law_order, S__law_order, i__law_order, A.f__law_made, A.g__law_made, S__law_made, i__law_made, A.f__law_names, A.g__law_names, S__law_names, i__law_names, A.f_Mill_init, A.g_Mill_init, S_Mill_init, i_Mill_init, A.c_Mill, A.f_Mill_go, A.g_Mill_go, S_Mill_go, i_Mill_go, A.f_Mill_turn, A.g_Mill_turn, S_Mill_turn, i_Mill_turn, A.f_Mill_lying, A.g_Mill_lying, S_Mill_lying, i_Mill_lying]); repeat ((with_reducible refine And.intro ?_ ?_); omega)
      refine comp_pure (fun _ => true) (fun t => match t with | .tup [.int g, .int t, .int gi, .int ta, .int s5] => .tup [.int g, .int t, .int gi, .int (1 + ta % 3), .int s5] | t => t) trivial (by rw [List.length_map, sz]; omega) ?_ ?_
      · intro u hu Y N hY _
        obtain ⟨l, hl, rfl⟩ := List.mem_map.mp hu
        have hY := hY rfl
        simp only [wipeT]
        simp_arith [A.f__law_cell_at, A.g__law_cell_at, S__law_cell_at, i__law_cell_at, A.f__law_belt_by, A.g__law_belt_by, S__law_belt_by, i__law_belt_by, A.f__law_forms_by, A.g__law_forms_by, S__law_forms_by, i__law_forms_by, A.f__law_pieces_by, A.g__law_pieces_by, S__law_pieces_by, i__law_pieces_by, A.f__law_order, A.g__law_order, S__law_order, i__law_order, A.f__law_made, A.g__law_made, S__law_made, i__law_made, A.f__law_names, A.g__law_names, S__law_names, i__law_names, A.f_Mill_init, A.g_Mill_init, S_Mill_init, i_Mill_init, A.c_Mill, A.f_Mill_go, A.g_Mill_go, S_Mill_go, i_Mill_go, A.f_Mill_turn, A.g_Mill_turn, S_Mill_turn, i_Mill_turn, A.f_Mill_lying, A.g_Mill_lying, S_Mill_lying, i_Mill_lying, Ln.tr]
        exact hY
      rw [List.filter_eq_self.mpr (fun _ _ => rfl), List.map_map]
      have e1 : ls.map ((fun t : T => match t with | .tup [.int g, .int t, .int gi, .int ta, .int s5] => .tup [.int g, .int t, .int gi, .int (1 + ta % 3), .int s5] | t => t) ∘ Ln.tr) = (ls.map fun l : Ln => { l with ta := 1 + l.ta % 3 }).map Ln.tr := by
        rw [List.map_map]
        rfl
      rw [e1]
      simp only [newL]
      refine ⟨ls.map fun l : Ln => { l with ta := 1 + l.ta % 3 }, rfl, trivial, by rw [List.length_map]; exact hll, fun l hl => ?_, fun e he => ?_, fun l hl => ?_⟩
      · obtain ⟨k, hk, rfl⟩ := List.mem_map.mp hl
        have a := hls k hk
        have y0 := Int.emod_nonneg k.ta (show (3 : Int) ≠ 0 by decide)
        exact ⟨a.gi, show 1 ≤ 1 + k.ta % 3 by omega⟩
      · obtain ⟨l, hl, rfl⟩ := List.mem_map.mp he
        obtain ⟨k, hk, rfl⟩ := List.mem_map.mp hl
        have a := hls k hk
        exact ⟨⟨a.g0, a.g1⟩, ⟨a.t0, a.t1⟩⟩
      · obtain ⟨k, hk, rfl⟩ := List.mem_map.mp hl
        have a := hls k hk
        have b := hls6 k hk
        have c := a.st
        have y1 := Int.emod_lt_of_pos k.ta (show (0 : Int) < 3 by decide)
        exact ⟨c, b.2.2, b.1, show 1 + k.ta % 3 ≤ 6 by omega⟩
    · refine ⟨ls, rfl, hll, lr_posL hls, lr_inr hls, fun l hl => ?_⟩
      have b := hls6 l hl
      have c := (hls l hl).st
      omega
  rintro ρ μ2 ⟨ls2, ⟨o6, rfl⟩, rfl, hll2, hP, hI, hb2⟩
  apply e_cons; simp only [denS]; (try simp_arith [A.f__law_cell_at, A.g__law_cell_at, S__law_cell_at, i__law_cell_at, A.f__law_belt_by, A.g__law_belt_by, S__law_belt_by, i__law_belt_by, A.f__law_forms_by, A.g__law_forms_by, S__law_forms_by, i__law_forms_by, A.f__law_pieces_by, A.g__law_pieces_by, S__law_pieces_by, i__law_pieces_by, A.f__law_order, A.g__law_order, S__law_order, i__law_order, A.f__law_made, A.g__law_made, S__law_made, i__law_made, A.f__law_names, A.g__law_names, S__law_names, i__law_names, A.f_Mill_init, A.g_Mill_init, S_Mill_init, i_Mill_init, A.c_Mill, A.f_Mill_go, A.g_Mill_go, S_Mill_go, i_Mill_go, A.f_Mill_turn, A.g_Mill_turn, S_Mill_turn, i_Mill_turn, A.f_Mill_lying, A.g_Mill_lying, S_Mill_lying, i_Mill_lying]); repeat ((with_reducible refine And.intro ?_ ?_); omega)
  clear hls6 hls hll ls
  refine ⟨ns, ls2, n, rfl, .inl rfl, by omega, .lst, by omega, by omega, hP, fun l hl => by have := hb2 l hl; omega, fun fs FS => ?_⟩
  apply e_cons; simp only [denS]; (try simp_arith [A.f__law_cell_at, A.g__law_cell_at, S__law_cell_at, i__law_cell_at, A.f__law_belt_by, A.g__law_belt_by, S__law_belt_by, i__law_belt_by, A.f__law_forms_by, A.g__law_forms_by, S__law_forms_by, i__law_forms_by, A.f__law_pieces_by, A.g__law_pieces_by, S__law_pieces_by, i__law_pieces_by, A.f__law_order, A.g__law_order, S__law_order, i__law_order, A.f__law_made, A.g__law_made, S__law_made, i__law_made, A.f__law_names, A.g__law_names, S__law_names, i__law_names, A.f_Mill_init, A.g_Mill_init, S_Mill_init, i_Mill_init, A.c_Mill, A.f_Mill_go, A.g_Mill_go, S_Mill_go, i_Mill_go, A.f_Mill_turn, A.g_Mill_turn, S_Mill_turn, i_Mill_turn, A.f_Mill_lying, A.g_Mill_lying, S_Mill_lying, i_Mill_lying]); repeat ((with_reducible refine And.intro ?_ ?_); omega)
  refine ⟨ns, .inl rfl, by omega, ls2, .lst, by omega, fun l hl => by have := hb2 l hl; omega, fun Ld LO LB => ?_⟩
  apply e_cons; simp only [denS]; (try simp_arith [A.f__law_cell_at, A.g__law_cell_at, S__law_cell_at, i__law_cell_at, A.f__law_belt_by, A.g__law_belt_by, S__law_belt_by, i__law_belt_by, A.f__law_forms_by, A.g__law_forms_by, S__law_forms_by, i__law_forms_by, A.f__law_pieces_by, A.g__law_pieces_by, S__law_pieces_by, i__law_pieces_by, A.f__law_order, A.g__law_order, S__law_order, i__law_order, A.f__law_made, A.g__law_made, S__law_made, i__law_made, A.f__law_names, A.g__law_names, S__law_names, i__law_names, A.f_Mill_init, A.g_Mill_init, S_Mill_init, i_Mill_init, A.c_Mill, A.f_Mill_go, A.g_Mill_go, S_Mill_go, i_Mill_go, A.f_Mill_turn, A.g_Mill_turn, S_Mill_turn, i_Mill_turn, A.f_Mill_lying, A.g_Mill_lying, S_Mill_lying, i_Mill_lying]); repeat ((with_reducible refine And.intro ?_ ?_); omega)
  have q0 := Int.emod_nonneg (x0 / 9) (show (3 : Int) ≠ 0 by decide)
  have q1 := Int.emod_lt_of_pos (x0 / 9) (show (0 : Int) < 3 by decide)
  have hF : FormsOk ls2 n fs := ⟨FS.1, fun w x e => ⟨(FS.2 w x e).1, fun f hf p hp => ((FS.2 w x e).2 f hf).t p hp |>.1⟩⟩
  refine comp_pure (fun _ => true) (fun t => match t with | .int r => .int ((1 + x0 / 9 % 3) * r) | t => t) trivial (by rw [List.length_map, sz]; omega) ?_ ?_
  · intro u hu Y N hY _
    obtain ⟨r, hr, rfl⟩ := List.mem_map.mp hu
    have hY := hY rfl
    simp only [wipeT]
    have := hrs r hr
    simp_arith [A.f__law_cell_at, A.g__law_cell_at, S__law_cell_at, i__law_cell_at, A.f__law_belt_by, A.g__law_belt_by, S__law_belt_by, i__law_belt_by, A.f__law_forms_by, A.g__law_forms_by, S__law_forms_by, i__law_forms_by, A.f__law_pieces_by, A.g__law_pieces_by, S__law_pieces_by, i__law_pieces_by, A.f__law_order, A.g__law_order, S__law_order, i__law_order, A.f__law_made, A.g__law_made, S__law_made, i__law_made, A.f__law_names, A.g__law_names, S__law_names, i__law_names, A.f_Mill_init, A.g_Mill_init, S_Mill_init, i_Mill_init, A.c_Mill, A.f_Mill_go, A.g_Mill_go, S_Mill_go, i_Mill_go, A.f_Mill_turn, A.g_Mill_turn, S_Mill_turn, i_Mill_turn, A.f_Mill_lying, A.g_Mill_lying, S_Mill_lying, i_Mill_lying]
    refine ⟨of_eq_true (mul_litR (by omega) (by omega)), ?_⟩
    exact hY
  rw [List.filter_eq_self.mpr (fun _ _ => rfl), List.map_map]
  have e1 : rs.map ((fun t : T => match t with | .int r => .int ((1 + x0 / 9 % 3) * r) | t => t) ∘ T.int) = (rs.map fun r => (1 + x0 / 9 % 3) * r).map T.int := by
    rw [List.map_map]
    rfl
  rw [e1]
  simp only [newL]
  have hgl : ∀ g ∈ rs.map (fun r => (1 + x0 / 9 % 3) * r), 0 ≤ g ∧ g ≤ 9 := fun g hg => by
    obtain ⟨r, hr, rfl⟩ := List.mem_map.mp hg
    have h1 := hrs r hr
    have h2 : (1 + x0 / 9 % 3) * r ≤ 3 * 3 := Int.mul_le_mul (by omega) h1.2 (by omega) (by decide)
    have h3 : 0 ≤ (1 + x0 / 9 % 3) * r := Int.mul_nonneg (by omega) (by omega)
    omega
  have hgn : (rs.map fun r => (1 + x0 / 9 % 3) * r).length = n := by rw [List.length_map]; exact hrl
  generalize rs.map (fun r => (1 + x0 / 9 % 3) * r) = gl at hgl hgn ⊢
  have hsm : gl.sum ≤ 45 := by
    have := sum_bound (m := 9) (by decide) fun x hx => (hgl x hx).2
    omega
  have hgc : ∀ w : Int, 0 ≤ w → w < gl.length → 0 ≤ cnt gl w := fun w a b => by
    obtain ⟨i, rfl⟩ := Int.eq_ofNat_of_zero_le a
    have hi : i < gl.length := by omega
    have := hgl _ (List.getElem_mem hi)
    unfold Rh.cnt
    rw [Int.toNat_natCast, List.getElem?_eq_getElem hi]
    exact this.1
  obtain ⟨cs, hcs, hcl⟩ := cut_map (us := ns) (lo := some 2) (hi := none)
  apply e_cons; simp only [denS]; (try simp_arith [A.f__law_cell_at, A.g__law_cell_at, S__law_cell_at, i__law_cell_at, A.f__law_belt_by, A.g__law_belt_by, S__law_belt_by, i__law_belt_by, A.f__law_forms_by, A.g__law_forms_by, S__law_forms_by, i__law_forms_by, A.f__law_pieces_by, A.g__law_pieces_by, S__law_pieces_by, i__law_pieces_by, A.f__law_order, A.g__law_order, S__law_order, i__law_order, A.f__law_made, A.g__law_made, S__law_made, i__law_made, A.f__law_names, A.g__law_names, S__law_names, i__law_names, A.f_Mill_init, A.g_Mill_init, S_Mill_init, i_Mill_init, A.c_Mill, A.f_Mill_go, A.g_Mill_go, S_Mill_go, i_Mill_go, A.f_Mill_turn, A.g_Mill_turn, S_Mill_turn, i_Mill_turn, A.f_Mill_lying, A.g_Mill_lying, S_Mill_lying, i_Mill_lying, tSlice]); repeat ((with_reducible refine And.intro ?_ ?_); omega)
  have hcl2 : cs.length ≤ 63 := by
    rw [hcl, List.length_take, List.length_drop]
    omega
  refine ⟨ls2, .lst, gl, .lst, cs, by rw [hcs]; exact .inr rfl, by omega, by omega, hgc, by omega, by omega, ?_⟩
  clear hcs hcl hcl2 cs
  rw [hgn]
  intro r1 T1 S1
  have len1 : r1.length ≤ 45 := by
    have := T1.len hgn (by rw [← hgn]; exact hgc)
    omega
  apply e_cons; simp only [denS]; (try simp_arith [A.f__law_cell_at, A.g__law_cell_at, S__law_cell_at, i__law_cell_at, A.f__law_belt_by, A.g__law_belt_by, S__law_belt_by, i__law_belt_by, A.f__law_forms_by, A.g__law_forms_by, S__law_forms_by, i__law_forms_by, A.f__law_pieces_by, A.g__law_pieces_by, S__law_pieces_by, i__law_pieces_by, A.f__law_order, A.g__law_order, S__law_order, i__law_order, A.f__law_made, A.g__law_made, S__law_made, i__law_made, A.f__law_names, A.g__law_names, S__law_names, i__law_names, A.f_Mill_init, A.g_Mill_init, S_Mill_init, i_Mill_init, A.c_Mill, A.f_Mill_go, A.g_Mill_go, S_Mill_go, i_Mill_go, A.f_Mill_turn, A.g_Mill_turn, S_Mill_turn, i_Mill_turn, A.f_Mill_lying, A.g_Mill_lying, S_Mill_lying, i_Mill_lying]); repeat ((with_reducible refine And.intro ?_ ?_); omega)
  refine comp_pure (fun _ => true) (fun t => match t with | .int w => .int (r1.count w : Nat) | t => t) trivial (by rw [List.length_map, List.length_range, sz]; omega) ?_ ?_
  · intro u hu Y N hY _
    obtain ⟨w, hw, rfl⟩ := List.mem_map.mp hu
    have hY := hY rfl
    simp only [wipeT]
    simp_arith [A.f__law_cell_at, A.g__law_cell_at, S__law_cell_at, i__law_cell_at, A.f__law_belt_by, A.g__law_belt_by, S__law_belt_by, i__law_belt_by, A.f__law_forms_by, A.g__law_forms_by, S__law_forms_by, i__law_forms_by, A.f__law_pieces_by, A.g__law_pieces_by, S__law_pieces_by, i__law_pieces_by, A.f__law_order, A.g__law_order, S__law_order, i__law_order, A.f__law_made, A.g__law_made, S__law_made, i__law_made, A.f__law_names, A.g__law_names, S__law_names, i__law_names, A.f_Mill_init, A.g_Mill_init, S_Mill_init, i_Mill_init, A.c_Mill, A.f_Mill_go, A.g_Mill_go, S_Mill_go, i_Mill_go, A.f_Mill_turn, A.g_Mill_turn, S_Mill_turn, i_Mill_turn, A.f_Mill_lying, A.g_Mill_lying, S_Mill_lying, i_Mill_lying]
    exact ⟨r1, rfl, hY⟩
  rw [List.filter_eq_self.mpr (fun _ _ => rfl), List.map_map]
  have e2 : (List.range n).map ((fun t : T => match t with | .int w => .int (r1.count w : Nat) | t => t) ∘ fun i : Nat => T.int i) = (cL n r1).map T.int := by
    unfold cL
    rw [List.map_map, List.map_map]
    rfl
  rw [e2]
  simp only [newL]
  have c1 : (cL n r1).length = n := cL_len
  have c2 : ∀ w : Int, 0 ≤ w → w < (cL n r1).length → 0 ≤ cnt (cL n r1) w := fun w a b => by
    rw [cL_at a (by omega)]
    omega
  have c3 : ((cL n r1).sum : Int) = r1.length := (len_sum r1 T1.mem).symm
  apply e_cons; simp only [denS]; (try simp_arith [A.f__law_cell_at, A.g__law_cell_at, S__law_cell_at, i__law_cell_at, A.f__law_belt_by, A.g__law_belt_by, S__law_belt_by, i__law_belt_by, A.f__law_forms_by, A.g__law_forms_by, S__law_forms_by, i__law_forms_by, A.f__law_pieces_by, A.g__law_pieces_by, S__law_pieces_by, i__law_pieces_by, A.f__law_order, A.g__law_order, S__law_order, i__law_order, A.f__law_made, A.g__law_made, S__law_made, i__law_made, A.f__law_names, A.g__law_names, S__law_names, i__law_names, A.f_Mill_init, A.g_Mill_init, S_Mill_init, i_Mill_init, A.c_Mill, A.f_Mill_go, A.g_Mill_go, S_Mill_go, i_Mill_go, A.f_Mill_turn, A.g_Mill_turn, S_Mill_turn, i_Mill_turn, A.f_Mill_lying, A.g_Mill_lying, S_Mill_lying, i_Mill_lying]); repeat ((with_reducible refine And.intro ?_ ?_); omega)
  refine ⟨ls2, .lst, cL n r1, .lst, ns.reverse, by rw [← List.map_reverse]; exact .inr rfl, by rw [List.length_reverse]; omega, by omega, c2, by omega, by omega, ?_⟩
  rw [c1]
  intro r2 T2 S2
  have cc := stuck_same hP (done_stuck rfl) (turns_self T1) S2 T2
  have pm := perm_cL T1 T2 cc
  have len2 : r2.length = r1.length := pm.symm.length_eq
  apply e_cons; simp only [denS]; (try simp_arith [A.f__law_cell_at, A.g__law_cell_at, S__law_cell_at, i__law_cell_at, A.f__law_belt_by, A.g__law_belt_by, S__law_belt_by, i__law_belt_by, A.f__law_forms_by, A.g__law_forms_by, S__law_forms_by, i__law_forms_by, A.f__law_pieces_by, A.g__law_pieces_by, S__law_pieces_by, i__law_pieces_by, A.f__law_order, A.g__law_order, S__law_order, i__law_order, A.f__law_made, A.g__law_made, S__law_made, i__law_made, A.f__law_names, A.g__law_names, S__law_names, i__law_names, A.f_Mill_init, A.g_Mill_init, S_Mill_init, i_Mill_init, A.c_Mill, A.f_Mill_go, A.g_Mill_go, S_Mill_go, i_Mill_go, A.f_Mill_turn, A.g_Mill_turn, S_Mill_turn, i_Mill_turn, A.f_Mill_lying, A.g_Mill_lying, S_Mill_lying, i_Mill_lying]); repeat ((with_reducible refine And.intro ?_ ?_); omega)
  refine ⟨ns, .inl rfl, by omega, fun x1 => ?_⟩
  refine ⟨n, rfl, by omega, fun nl NL => ?_⟩
  refine ⟨nl, .lst, ls2, .lst, n, NL, by omega, hI, hP, fun l hl => (hb2 l hl).1.1, by omega, fun μ3 h k1 k2 sb H _ => ?_⟩
  have hnl : nl.length = n := NL.len
  have hPc : ∀ μ', PcsAt μ' (lsT Ld) Ld := fun μ' => ⟨_, .lst, by rw [List.length_map], fun i u x a b => by
    rw [List.getElem?_map, b] at a
    cases a
    exact .lst⟩
  have hfg : ∀ w : Int, giveW ls2 w ≤ 60 ∧ needW ls2 w ≤ 60 := fun w => by
    have h1 := List.length_filter_le (fun l : Ln => decide (l.g = w)) ls2
    have h2 := List.length_filter_le (fun l : Ln => decide (l.t = w)) ls2
    have h3 := sum_bound (m := 6) (by decide) (xs := (ls2.filter fun l => decide (Ln.g l = w)).map Ln.gi) fun x hx => by
      obtain ⟨l, hl, rfl⟩ := List.mem_map.mp hx
      exact (hb2 l (List.mem_filter.mp hl).1).2.1
    have h4 := sum_bound (m := 6) (by decide) (xs := (ls2.filter fun l => decide (Ln.t l = w)).map Ln.ta) fun x hx => by
      obtain ⟨l, hl, rfl⟩ := List.mem_map.mp hx
      exact (hb2 l (List.mem_filter.mp hl).1).2.2
    rw [List.length_map] at h3 h4
    unfold giveW needW
    omega
  have hfl : ∀ x ∈ fs, x.length ≤ 10000 ∧ ∀ f ∈ x, f.2.length ≤ 3 ∧ Bt 110 f.1 ∧ ∀ p ∈ f.2, Bt 3 p.2 := fun x hx => by
    obtain ⟨i, hi, rfl⟩ := List.mem_iff_getElem.mp hx
    obtain ⟨a, b⟩ := FS.2 i _ (List.getElem?_eq_getElem hi)
    have := (hfg i).1
    refine ⟨by omega, fun f hf => ⟨(b f hf).l, (b f hf).c, fun p hp => ?_⟩⟩
    have := (b f hf).t p hp
    unfold Bt
    exact Nat.lt_of_le_of_lt (show p.2.natAbs ≤ 4 by omega) (by decide)
  have hgo : ∀ (gl : List Int) (r : List Int), Turns ls2 gl n r → r.length ≤ 45 → MGo ls2 fs n 110 r Ld ∧ En ls2 fs Ld r := fun gl r T hr => by
    have en := turns_en hP hF LO T
    refine ⟨mgo (by omega) hP hI hF hfl (fun w => by have := (hfg w).2; omega) (fun l hl => by have := (hb2 l hl).2; omega) (by decide) (by decide) LB LO (by omega) en fun l hl k => ?_, en_iff r Ld fun k w e => (en k w e).2⟩
    have b := hb2 l hl
    have p := hP l hl
    have c : ∀ w, (((r.take k).count w : Nat) : Int) ≤ 45 := fun w => by
      have := List.count_le_length (a := w) (l := r.take k)
      rw [List.length_take] at this
      omega
    have c1 : l.gi * ((r.take k).count l.g : Nat) ≤ 6 * 45 := Int.mul_le_mul b.2.1 (c _) (by omega) (by decide)
    have c2 : 0 ≤ l.ta * ((r.take k).count l.t : Nat) := Int.mul_nonneg (by have := p.2; omega) (by omega)
    unfold hpOf
    omega
  obtain ⟨G1, E1⟩ := hgo _ r1 T1 len1
  obtain ⟨G2, E2⟩ := hgo _ r2 T2 (by omega)
  have fin := go_perm hP r1 r2 Ld LO.1 pm E1 E2
  clear hgo E1 E2
  apply e_cons; simp only [denS]; (try simp_arith [A.f__law_cell_at, A.g__law_cell_at, S__law_cell_at, i__law_cell_at, A.f__law_belt_by, A.g__law_belt_by, S__law_belt_by, i__law_belt_by, A.f__law_forms_by, A.g__law_forms_by, S__law_forms_by, i__law_forms_by, A.f__law_pieces_by, A.g__law_pieces_by, S__law_pieces_by, i__law_pieces_by, A.f__law_order, A.g__law_order, S__law_order, i__law_order, A.f__law_made, A.g__law_made, S__law_made, i__law_made, A.f__law_names, A.g__law_names, S__law_names, i__law_names, A.f_Mill_init, A.g_Mill_init, S_Mill_init, i_Mill_init, A.c_Mill, A.f_Mill_go, A.g_Mill_go, S_Mill_go, i_Mill_go, A.f_Mill_turn, A.g_Mill_turn, S_Mill_turn, i_Mill_turn, A.f_Mill_lying, A.g_Mill_lying, S_Mill_lying, i_Mill_lying]); repeat ((with_reducible refine And.intro ?_ ?_); omega)
  intro m1 hm1
  have hfz : ∀ x ∈ fs, x.length ≤ 10000 ∧ ∀ f ∈ x, f.2.length ≤ 1000 := fun x hx => ⟨(hfl x hx).1, fun f hf => by have := ((hfl x hx).2 f hf).1; omega⟩
  refine ⟨k1, k2, nl, ls2, H.fresh hm1, fs, .lst, Ld, hPc _, by omega, by have := FS.1; omega, hfz, by rw [hnl]; exact hF, LO, ?_⟩
  rw [hnl]
  intro μ4 p1 q1 M1 fr1 hp1 hq1
  have sb4 : Rh.Sub μ3 μ4 := fun a o e => fr1 a o (nofr e hm1) (by rw [set_ne (nofr e hm1)]; exact e)
  have H4 : HallAt μ4 h k1 k2 nl ls2 := H.sub sb4
  apply e_cons; simp only [denS]; (try simp_arith [A.f__law_cell_at, A.g__law_cell_at, S__law_cell_at, i__law_cell_at, A.f__law_belt_by, A.g__law_belt_by, S__law_belt_by, i__law_belt_by, A.f__law_forms_by, A.g__law_forms_by, S__law_forms_by, i__law_forms_by, A.f__law_pieces_by, A.g__law_pieces_by, S__law_pieces_by, i__law_pieces_by, A.f__law_order, A.g__law_order, S__law_order, i__law_order, A.f__law_made, A.g__law_made, S__law_made, i__law_made, A.f__law_names, A.g__law_names, S__law_names, i__law_names, A.f_Mill_init, A.g_Mill_init, S_Mill_init, i_Mill_init, A.c_Mill, A.f_Mill_go, A.g_Mill_go, S_Mill_go, i_Mill_go, A.f_Mill_turn, A.g_Mill_turn, S_Mill_turn, i_Mill_turn, A.f_Mill_lying, A.g_Mill_lying, S_Mill_lying, i_Mill_lying]); repeat ((with_reducible refine And.intro ?_ ?_); omega)
  intro m2 hm2
  refine ⟨k1, k2, nl, ls2, H4.fresh hm2, fs, .lst, Ld, hPc _, by omega, by have := FS.1; omega, hfz, by rw [hnl]; exact hF, LO, ?_⟩
  rw [hnl]
  intro μ5 p2 q2 M2 fr2 hp2 hq2
  have M1s := M1.some_
  have M1' : MillAt μ5 m1 p1 ls2 fs n q1 Ld := M1.oth fun a ha o e => fr2 a o (nofr e hm2) (by rw [set_ne (nofr e hm2)]; exact e)
  have ap : ∀ a ∈ m2 :: p2 :: q2, a ∉ m1 :: p1 :: q1 := fun a ha z => by
    have z1 := M1s a z
    have k : ∀ b, (μ4.set m2 (Ob.obj 5 [])) b = none → μ4 b = none := fun b e => by
      by_cases hb : b = m2
      · rw [hb]; exact hm2
      · rwa [set_ne hb] at e
    rcases List.mem_cons.mp ha with rfl | ha
    · exact z1 hm2
    rcases List.mem_cons.mp ha with rfl | ha
    · exact z1 (k _ hp2)
    · exact z1 (k _ (hq2 a ha))
  clear H H4 fr1 fr2 hp1 hq1 hp2 hq2 sb4 M1 hm1 hm2
  apply e_cons; simp only [denS]; (try simp_arith [A.f__law_cell_at, A.g__law_cell_at, S__law_cell_at, i__law_cell_at, A.f__law_belt_by, A.g__law_belt_by, S__law_belt_by, i__law_belt_by, A.f__law_forms_by, A.g__law_forms_by, S__law_forms_by, i__law_forms_by, A.f__law_pieces_by, A.g__law_pieces_by, S__law_pieces_by, i__law_pieces_by, A.f__law_order, A.g__law_order, S__law_order, i__law_order, A.f__law_made, A.g__law_made, S__law_made, i__law_made, A.f__law_names, A.g__law_names, S__law_names, i__law_names, A.f_Mill_init, A.g_Mill_init, S_Mill_init, i_Mill_init, A.c_Mill, A.f_Mill_go, A.g_Mill_go, S_Mill_go, i_Mill_go, A.f_Mill_turn, A.g_Mill_turn, S_Mill_turn, i_Mill_turn, A.f_Mill_lying, A.g_Mill_lying, S_Mill_lying, i_Mill_lying, M1'.o]); repeat ((with_reducible refine And.intro ?_ ?_); omega)
  refine ⟨_, rfl, p1, ls2, fs, n, q1, Ld, r1, .lst, (fun z => nomatch z), (fun _ _ z => nomatch z), M1', 110, G1, fun μ6 q3 M3 g1 g2 => ?_⟩
  have M2s := M2.some_
  have M4 : MillAt μ6 m2 p2 ls2 fs n q2 Ld := M2.oth fun a ha o e => g1 a o (fun z => ap a ha (by rw [z]; exact List.mem_cons_of_mem _ List.mem_cons_self)) (fun z => ap a ha (List.mem_cons_of_mem _ (List.mem_cons_of_mem _ z))) e
  have ap2 : Apart (m1 :: p1 :: q3) p2 q2 := fun a ha => by
    have k : a ∉ m2 :: p2 :: q2 := fun z => by
      rcases List.mem_cons.mp ha with rfl | ha
      · exact ap a z List.mem_cons_self
      rcases List.mem_cons.mp ha with rfl | ha
      · exact ap a z (List.mem_cons_of_mem _ List.mem_cons_self)
      rcases g2 a ha with y | y
      · exact ap a z (List.mem_cons_of_mem _ (List.mem_cons_of_mem _ y))
      · exact M2s a z y
    exact ⟨fun z => k (by rw [z]; exact List.mem_cons_of_mem _ List.mem_cons_self), fun z => k (List.mem_cons_of_mem _ (List.mem_cons_of_mem _ z))⟩
  clear g1 g2 ap M2s M1s M1' M2
  apply e_cons; simp only [denS]; (try simp_arith [A.f__law_cell_at, A.g__law_cell_at, S__law_cell_at, i__law_cell_at, A.f__law_belt_by, A.g__law_belt_by, S__law_belt_by, i__law_belt_by, A.f__law_forms_by, A.g__law_forms_by, S__law_forms_by, i__law_forms_by, A.f__law_pieces_by, A.g__law_pieces_by, S__law_pieces_by, i__law_pieces_by, A.f__law_order, A.g__law_order, S__law_order, i__law_order, A.f__law_made, A.g__law_made, S__law_made, i__law_made, A.f__law_names, A.g__law_names, S__law_names, i__law_names, A.f_Mill_init, A.g_Mill_init, S_Mill_init, i_Mill_init, A.c_Mill, A.f_Mill_go, A.g_Mill_go, S_Mill_go, i_Mill_go, A.f_Mill_turn, A.g_Mill_turn, S_Mill_turn, i_Mill_turn, A.f_Mill_lying, A.g_Mill_lying, S_Mill_lying, i_Mill_lying]); repeat ((with_reducible refine And.intro ?_ ?_); omega)
  refine onG_at .lst fun gd hgd => ?_
  refine for_map (fun j ρ μ7 => ∃ q4 : List Addr, (∃ o12, ρ = [some (.scr (ns.map T.int)), some (.int x0), some (.int n), some (.lst (rs.map T.int)), none, some (.lst (ls2.map Ln.tr)), o6, some (.lst (fs.map fsT)), some (lsT Ld), some (.lst ((cL n r1).map T.int)), none, some (.lst (r1.map T.int)), o12, some (.lst (r2.map T.int)), some (.own h), some (.own m1), some (.own m2), none]) ∧ MillAt μ7 m2 p2 ls2 fs n q4 (goM ls2 fs Ld (r2.take j)) ∧ MillAt μ7 m1 p1 ls2 fs n q3 (goM ls2 fs Ld r1) ∧ Apart (m1 :: p1 :: q3) p2 q4) ⟨q2, ⟨_, rfl⟩, M4, M3, ap2⟩ ?_ ?_
  case refine_2 =>
    rintro j w ρ μ7 hj ⟨q4, ⟨o12, rfl⟩, M5, M6, ap3⟩
    refine ⟨hgd _ .lst, ?_⟩
    have hjl := (List.getElem?_eq_some_iff.mp hj).1
    obtain ⟨hw, hr⟩ := G2.r j w hj
    simp_arith [A.f__law_cell_at, A.g__law_cell_at, S__law_cell_at, i__law_cell_at, A.f__law_belt_by, A.g__law_belt_by, S__law_belt_by, i__law_belt_by, A.f__law_forms_by, A.g__law_forms_by, S__law_forms_by, i__law_forms_by, A.f__law_pieces_by, A.g__law_pieces_by, S__law_pieces_by, i__law_pieces_by, A.f__law_order, A.g__law_order, S__law_order, i__law_order, A.f__law_made, A.g__law_made, S__law_made, i__law_made, A.f__law_names, A.g__law_names, S__law_names, i__law_names, A.f_Mill_init, A.g_Mill_init, S_Mill_init, i_Mill_init, A.c_Mill, A.f_Mill_go, A.g_Mill_go, S_Mill_go, i_Mill_go, A.f_Mill_turn, A.g_Mill_turn, S_Mill_turn, i_Mill_turn, A.f_Mill_lying, A.g_Mill_lying, S_Mill_lying, i_Mill_lying]
    apply e_cons; simp only [denS]; (try simp_arith [A.f__law_cell_at, A.g__law_cell_at, S__law_cell_at, i__law_cell_at, A.f__law_belt_by, A.g__law_belt_by, S__law_belt_by, i__law_belt_by, A.f__law_forms_by, A.g__law_forms_by, S__law_forms_by, i__law_forms_by, A.f__law_pieces_by, A.g__law_pieces_by, S__law_pieces_by, i__law_pieces_by, A.f__law_order, A.g__law_order, S__law_order, i__law_order, A.f__law_made, A.g__law_made, S__law_made, i__law_made, A.f__law_names, A.g__law_names, S__law_names, i__law_names, A.f_Mill_init, A.g_Mill_init, S_Mill_init, i_Mill_init, A.c_Mill, A.f_Mill_go, A.g_Mill_go, S_Mill_go, i_Mill_go, A.f_Mill_turn, A.g_Mill_turn, S_Mill_turn, i_Mill_turn, A.f_Mill_lying, A.g_Mill_lying, S_Mill_lying, i_Mill_lying, M5.o]); repeat ((with_reducible refine And.intro ?_ ?_); omega)
    refine ⟨_, rfl, p2, ls2, fs, n, q4, _, M5, _, G2.h j (by omega), fun z => absurd hw z, fun _ z => absurd hr z, fun _ _ μ8 q5 M7 g3 g4 => ?_⟩
    refine ⟨_, _, .refl _ _, ⟨_, rfl⟩, q5, ?_, M6.oth fun a ha o e => g3 a o (ap3 a ha).1 (ap3 a ha).2 e, ap3.step M6.some_ g4⟩
    rw [List.take_add_one, hj]
    show MillAt μ8 m2 p2 ls2 fs n q5 (goM ls2 fs Ld (r2.take j ++ [w]))
    rw [goM_snoc]
    exact M7
  rintro ρ μ7 ⟨q4, ⟨o12, rfl⟩, M5, M6, ap3⟩
  refine ⟨hgd _ .lst, ?_⟩
  rw [List.take_length, ← fin] at M5
  have hgl7 : (goM ls2 fs Ld r1).length = ls2.length := M6.ll
  generalize goM ls2 fs Ld r1 = E at M5 M6 hgl7
  clear hgd gd ap3 fin
  apply e_cons; simp only [denS]; (try simp_arith [A.f__law_cell_at, A.g__law_cell_at, S__law_cell_at, i__law_cell_at, A.f__law_belt_by, A.g__law_belt_by, S__law_belt_by, i__law_belt_by, A.f__law_forms_by, A.g__law_forms_by, S__law_forms_by, i__law_forms_by, A.f__law_pieces_by, A.g__law_pieces_by, S__law_pieces_by, i__law_pieces_by, A.f__law_order, A.g__law_order, S__law_order, i__law_order, A.f__law_made, A.g__law_made, S__law_made, i__law_made, A.f__law_names, A.g__law_names, S__law_names, i__law_names, A.f_Mill_init, A.g_Mill_init, S_Mill_init, i_Mill_init, A.c_Mill, A.f_Mill_go, A.g_Mill_go, S_Mill_go, i_Mill_go, A.f_Mill_turn, A.g_Mill_turn, S_Mill_turn, i_Mill_turn, A.f_Mill_lying, A.g_Mill_lying, S_Mill_lying, i_Mill_lying, M6.o]); repeat ((with_reducible refine And.intro ?_ ?_); omega)
  refine ⟨_, rfl, p1, ls2, fs, n, q3, E, M6, by omega, ?_⟩
  refine .inr ?_
  apply e_cons; apply e_ife; simp_arith [A.f__law_cell_at, A.g__law_cell_at, S__law_cell_at, i__law_cell_at, A.f__law_belt_by, A.g__law_belt_by, S__law_belt_by, i__law_belt_by, A.f__law_forms_by, A.g__law_forms_by, S__law_forms_by, i__law_forms_by, A.f__law_pieces_by, A.g__law_pieces_by, S__law_pieces_by, i__law_pieces_by, A.f__law_order, A.g__law_order, S__law_order, i__law_order, A.f__law_made, A.g__law_made, S__law_made, i__law_made, A.f__law_names, A.g__law_names, S__law_names, i__law_names, A.f_Mill_init, A.g_Mill_init, S_Mill_init, i_Mill_init, A.c_Mill, A.f_Mill_go, A.g_Mill_go, S_Mill_go, i_Mill_go, A.f_Mill_turn, A.g_Mill_turn, S_Mill_turn, i_Mill_turn, A.f_Mill_lying, A.g_Mill_lying, S_Mill_lying, i_Mill_lying]; repeat ((with_reducible refine And.intro ?_ ?_); omega)
  refine comp_pure (fun _ => true) (fun t => match t with | .int w => .int (r2.count w : Nat) | t => t) trivial (by rw [List.length_map, List.length_range, sz]; omega) ?_ ?_
  · intro u hu Y N hY _
    obtain ⟨w, hw, rfl⟩ := List.mem_map.mp hu
    have hY := hY rfl
    simp only [wipeT]
    simp_arith [A.f__law_cell_at, A.g__law_cell_at, S__law_cell_at, i__law_cell_at, A.f__law_belt_by, A.g__law_belt_by, S__law_belt_by, i__law_belt_by, A.f__law_forms_by, A.g__law_forms_by, S__law_forms_by, i__law_forms_by, A.f__law_pieces_by, A.g__law_pieces_by, S__law_pieces_by, i__law_pieces_by, A.f__law_order, A.g__law_order, S__law_order, i__law_order, A.f__law_made, A.g__law_made, S__law_made, i__law_made, A.f__law_names, A.g__law_names, S__law_names, i__law_names, A.f_Mill_init, A.g_Mill_init, S_Mill_init, i_Mill_init, A.c_Mill, A.f_Mill_go, A.g_Mill_go, S_Mill_go, i_Mill_go, A.f_Mill_turn, A.g_Mill_turn, S_Mill_turn, i_Mill_turn, A.f_Mill_lying, A.g_Mill_lying, S_Mill_lying, i_Mill_lying]
    exact ⟨r2, rfl, hY⟩
  rw [List.filter_eq_self.mpr (fun _ _ => rfl), List.map_map]
  have e3 : (List.range n).map ((fun t : T => match t with | .int w => .int (r2.count w : Nat) | t => t) ∘ fun i : Nat => T.int i) = (cL n r2).map T.int := by
    unfold cL
    rw [List.map_map, List.map_map]
    rfl
  rw [e3, ← cc]
  simp only [newL]
  rw [eq_ints]
  simp_arith [A.f__law_cell_at, A.g__law_cell_at, S__law_cell_at, i__law_cell_at, A.f__law_belt_by, A.g__law_belt_by, S__law_belt_by, i__law_belt_by, A.f__law_forms_by, A.g__law_forms_by, S__law_forms_by, i__law_forms_by, A.f__law_pieces_by, A.g__law_pieces_by, S__law_pieces_by, i__law_pieces_by, A.f__law_order, A.g__law_order, S__law_order, i__law_order, A.f__law_made, A.g__law_made, S__law_made, i__law_made, A.f__law_names, A.g__law_names, S__law_names, i__law_names, A.f_Mill_init, A.g_Mill_init, S_Mill_init, i_Mill_init, A.c_Mill, A.f_Mill_go, A.g_Mill_go, S_Mill_go, i_Mill_go, A.f_Mill_turn, A.g_Mill_turn, S_Mill_turn, i_Mill_turn, A.f_Mill_lying, A.g_Mill_lying, S_Mill_lying, i_Mill_lying]
  apply e_cons; simp only [denS]; (try simp_arith [A.f__law_cell_at, A.g__law_cell_at, S__law_cell_at, i__law_cell_at, A.f__law_belt_by, A.g__law_belt_by, S__law_belt_by, i__law_belt_by, A.f__law_forms_by, A.g__law_forms_by, S__law_forms_by, i__law_forms_by, A.f__law_pieces_by, A.g__law_pieces_by, S__law_pieces_by, i__law_pieces_by, A.f__law_order, A.g__law_order, S__law_order, i__law_order, A.f__law_made, A.g__law_made, S__law_made, i__law_made, A.f__law_names, A.g__law_names, S__law_names, i__law_names, A.f_Mill_init, A.g_Mill_init, S_Mill_init, i_Mill_init, A.c_Mill, A.f_Mill_go, A.g_Mill_go, S_Mill_go, i_Mill_go, A.f_Mill_turn, A.g_Mill_turn, S_Mill_turn, i_Mill_turn, A.f_Mill_lying, A.g_Mill_lying, S_Mill_lying, i_Mill_lying, M5.o]); repeat ((with_reducible refine And.intro ?_ ?_); omega)
  refine ⟨_, rfl, p2, ls2, fs, n, q4, E, M5, by omega, .inr ?_⟩
  change tEq false (lsT E) (lsT E) μ7 _
  rw [eq_lsT]
  simp_arith [A.f__law_cell_at, A.g__law_cell_at, S__law_cell_at, i__law_cell_at, A.f__law_belt_by, A.g__law_belt_by, S__law_belt_by, i__law_belt_by, A.f__law_forms_by, A.g__law_forms_by, S__law_forms_by, i__law_forms_by, A.f__law_pieces_by, A.g__law_pieces_by, S__law_pieces_by, i__law_pieces_by, A.f__law_order, A.g__law_order, S__law_order, i__law_order, A.f__law_made, A.g__law_made, S__law_made, i__law_made, A.f__law_names, A.g__law_names, S__law_names, i__law_names, A.f_Mill_init, A.g_Mill_init, S_Mill_init, i_Mill_init, A.c_Mill, A.f_Mill_go, A.g_Mill_go, S_Mill_go, i_Mill_go, A.f_Mill_turn, A.g_Mill_turn, S_Mill_turn, i_Mill_turn, A.f_Mill_lying, A.g_Mill_lying, S_Mill_lying, i_Mill_lying]
  rw [decide_eq_true (show (E.length : Int) = ls2.length by omega)]
  exact fin_id (hR _)

def top (i : Nat) : Stmt := PySem.Challenge.pw_ratehall_k36_whole_any_order_same_pieces.main.body.getD i (.Pass ⟨0, 0, 0, 0⟩)
abbrev s_Hall_init : Stmt := inClass (top 23) 0
abbrev s_Hall_names : Stmt := inClass (top 23) 6
abbrev s_Hall_belts : Stmt := inClass (top 23) 8
abbrev s_Hall_lay : Stmt := inClass (top 23) 4
abbrev s_is_name : Stmt := top 19
abbrev s_Hall_work : Stmt := inClass (top 23) 2
abbrev s_Hall_need : Stmt := inClass (top 23) 1
abbrev s_Hall_leaving : Stmt := inClass (top 23) 11
abbrev s_Hall_belt : Stmt := inClass (top 23) 3
abbrev s_Hall_entering : Stmt := inClass (top 23) 10
abbrev s_need_work_forms : Stmt := top 13
abbrev s_need_forms : Stmt := top 14
abbrev s_need_pieces : Stmt := top 15
abbrev s_Mill_init : Stmt := inClass (top 16) 0
abbrev s_form_value : Stmt := top 12
abbrev s_Mill_turn : Stmt := inClass (top 16) 1
abbrev s_Mill_go : Stmt := inClass (top 16) 2
abbrev s_Mill_lying : Stmt := inClass (top 16) 3
abbrev s__law_common : Stmt := top 27
abbrev s__law_belt_by : Stmt := top 28
abbrev s__law_cell_at : Stmt := top 25
abbrev s__law_form_by : Stmt := top 31
abbrev s__law_forms_by : Stmt := top 32
abbrev s__law_made : Stmt := top 30
abbrev s__law_names : Stmt := top 26
abbrev s__law_ready : Stmt := top 34
abbrev s__law_turned : Stmt := top 35
abbrev s__law_order : Stmt := top 36
abbrev s__law_pieces_by : Stmt := top 33
abbrev s_law : Stmt := top 37
def tFn : Nat → Option FnI
  | 7 => some i_Hall_init
  | 9 => some i_Hall_names
  | 10 => some i_Hall_belts
  | 29 => some i_Hall_lay
  | 30 => some i_is_name
  | 31 => some i_Hall_work
  | 43 => some i_Hall_need
  | 44 => some i_Hall_leaving
  | 56 => some i_Hall_belt
  | 66 => some i_Hall_entering
  | 67 => some i_need_work_forms
  | 77 => some i_need_forms
  | 83 => some i_need_pieces
  | 94 => some i_Mill_init
  | 95 => some i_form_value
  | 96 => some i_Mill_turn
  | 97 => some i_Mill_go
  | 98 => some i_Mill_lying
  | 1000 => some i__law_common
  | 1001 => some i__law_belt_by
  | 1002 => some i__law_cell_at
  | 1003 => some i__law_form_by
  | 1004 => some i__law_forms_by
  | 1005 => some i__law_made
  | 1006 => some i__law_names
  | 1007 => some i__law_ready
  | 1008 => some i__law_turned
  | 1009 => some i__law_order
  | 1010 => some i__law_pieces_by
  | 1011 => some i_law
  | _ => none
def tCl : Nat → Option ClI
  | 3 => some ⟨"Hall", 7⟩
  | 5 => some ⟨"Mill", 94⟩
  | _ => none
def tEx : Nat → Option Str
  | 0 => some "Empty"
  | 3 => some "NoForm"
  | 5 => some "NoName"
  | 6 => some "NoPieces"
  | 7 => some "NoRate"
  | 10 => some "NoWork"
  | 15 => some "TooMuch"
  | 16 => some "Twice"
  | _ => none
def tCon : Nat → Option (Str × T)
  | 2 => some ("LETTERS", .str "abcdefghijklmnopqrstuvwxyz")
  | 3 => some ("MOST_BELTS", .int 60)
  | 7 => some ("MOST_WORKS", .int 30)
  | _ => none
def tFl : Nat → List Str
  | 3 => ["called", "lines"]
  | 5 => ["forms", "ties", "into", "out", "loads"]
  | _ => []
def G : Tab := ⟨tFn, tCl, tEx, tCon, tFl, false, false⟩
theorem tEx_cases {x : Nat} {y : Str} (h : tEx x = some y) : x = 0 ∨ x = 3 ∨ x = 5 ∨ x = 6 ∨ x = 7 ∨ x = 10 ∨ x = 15 ∨ x = 16 := by
  unfold tEx at h
  split at h <;> first | (cases h; done) | simp
theorem sx_Empty_Empty : subX G 0 0 = true := by decide +kernel
theorem sx_Empty_NoForm : subX G 0 3 = false := by decide +kernel
theorem sx_Empty_NoName : subX G 0 5 = false := by decide +kernel
theorem sx_Empty_NoPieces : subX G 0 6 = false := by decide +kernel
theorem sx_Empty_NoRate : subX G 0 7 = false := by decide +kernel
theorem sx_Empty_NoWork : subX G 0 10 = false := by decide +kernel
theorem sx_Empty_TooMuch : subX G 0 15 = false := by decide +kernel
theorem sx_Empty_Twice : subX G 0 16 = false := by decide +kernel
theorem sx_NoForm_Empty : subX G 3 0 = false := by decide +kernel
theorem sx_NoForm_NoForm : subX G 3 3 = true := by decide +kernel
theorem sx_NoForm_NoName : subX G 3 5 = false := by decide +kernel
theorem sx_NoForm_NoPieces : subX G 3 6 = false := by decide +kernel
theorem sx_NoForm_NoRate : subX G 3 7 = false := by decide +kernel
theorem sx_NoForm_NoWork : subX G 3 10 = false := by decide +kernel
theorem sx_NoForm_TooMuch : subX G 3 15 = false := by decide +kernel
theorem sx_NoForm_Twice : subX G 3 16 = false := by decide +kernel
theorem sx_NoName_Empty : subX G 5 0 = false := by decide +kernel
theorem sx_NoName_NoForm : subX G 5 3 = false := by decide +kernel
theorem sx_NoName_NoName : subX G 5 5 = true := by decide +kernel
theorem sx_NoName_NoPieces : subX G 5 6 = false := by decide +kernel
theorem sx_NoName_NoRate : subX G 5 7 = false := by decide +kernel
theorem sx_NoName_NoWork : subX G 5 10 = false := by decide +kernel
theorem sx_NoName_TooMuch : subX G 5 15 = false := by decide +kernel
theorem sx_NoName_Twice : subX G 5 16 = false := by decide +kernel
theorem sx_NoPieces_Empty : subX G 6 0 = false := by decide +kernel
theorem sx_NoPieces_NoForm : subX G 6 3 = false := by decide +kernel
theorem sx_NoPieces_NoName : subX G 6 5 = false := by decide +kernel
theorem sx_NoPieces_NoPieces : subX G 6 6 = true := by decide +kernel
theorem sx_NoPieces_NoRate : subX G 6 7 = false := by decide +kernel
theorem sx_NoPieces_NoWork : subX G 6 10 = false := by decide +kernel
theorem sx_NoPieces_TooMuch : subX G 6 15 = false := by decide +kernel
theorem sx_NoPieces_Twice : subX G 6 16 = false := by decide +kernel
theorem sx_NoRate_Empty : subX G 7 0 = false := by decide +kernel
theorem sx_NoRate_NoForm : subX G 7 3 = false := by decide +kernel
theorem sx_NoRate_NoName : subX G 7 5 = false := by decide +kernel
theorem sx_NoRate_NoPieces : subX G 7 6 = false := by decide +kernel
theorem sx_NoRate_NoRate : subX G 7 7 = true := by decide +kernel
theorem sx_NoRate_NoWork : subX G 7 10 = false := by decide +kernel
theorem sx_NoRate_TooMuch : subX G 7 15 = false := by decide +kernel
theorem sx_NoRate_Twice : subX G 7 16 = false := by decide +kernel
theorem sx_NoWork_Empty : subX G 10 0 = false := by decide +kernel
theorem sx_NoWork_NoForm : subX G 10 3 = false := by decide +kernel
theorem sx_NoWork_NoName : subX G 10 5 = false := by decide +kernel
theorem sx_NoWork_NoPieces : subX G 10 6 = false := by decide +kernel
theorem sx_NoWork_NoRate : subX G 10 7 = false := by decide +kernel
theorem sx_NoWork_NoWork : subX G 10 10 = true := by decide +kernel
theorem sx_NoWork_TooMuch : subX G 10 15 = false := by decide +kernel
theorem sx_NoWork_Twice : subX G 10 16 = false := by decide +kernel
theorem sx_TooMuch_Empty : subX G 15 0 = false := by decide +kernel
theorem sx_TooMuch_NoForm : subX G 15 3 = false := by decide +kernel
theorem sx_TooMuch_NoName : subX G 15 5 = false := by decide +kernel
theorem sx_TooMuch_NoPieces : subX G 15 6 = false := by decide +kernel
theorem sx_TooMuch_NoRate : subX G 15 7 = false := by decide +kernel
theorem sx_TooMuch_NoWork : subX G 15 10 = false := by decide +kernel
theorem sx_TooMuch_TooMuch : subX G 15 15 = true := by decide +kernel
theorem sx_TooMuch_Twice : subX G 15 16 = false := by decide +kernel
theorem sx_Twice_Empty : subX G 16 0 = false := by decide +kernel
theorem sx_Twice_NoForm : subX G 16 3 = false := by decide +kernel
theorem sx_Twice_NoName : subX G 16 5 = false := by decide +kernel
theorem sx_Twice_NoPieces : subX G 16 6 = false := by decide +kernel
theorem sx_Twice_NoRate : subX G 16 7 = false := by decide +kernel
theorem sx_Twice_NoWork : subX G 16 10 = false := by decide +kernel
theorem sx_Twice_TooMuch : subX G 16 15 = false := by decide +kernel
theorem sx_Twice_Twice : subX G 16 16 = true := by decide +kernel
theorem tabOk : TabOk G := by
  refine ⟨fun f i d h hc => ?_, fun d f h => ?_⟩
  · have h' : tFn f = some i := h
    revert h'
    unfold tFn
    split <;> intro h' <;> first | (cases h'; done) | (cases h'; first | (cases hc; done) | (cases hc; exact ⟨_, rfl⟩))
  · have h' : f ∈ tFl d := h
    revert h'
    unfold tFl
    split <;> intro h' <;> first | (cases h'; done) | exact ⟨_, rfl⟩
theorem chk_Hall_init : ChkF G 7 i_Hall_init s_Hall_init N_Hall_init ["self"] c_Hall_init := ⟨⟨rfl, rfl, rfl, by decide +kernel, rfl, by decide +kernel, by decide +kernel⟩, rfl, by decide, by decide +kernel⟩
theorem chk_Hall_names : ChkF G 9 i_Hall_names s_Hall_names N_Hall_names ["self"] c_Hall_names := ⟨⟨rfl, rfl, rfl, by decide +kernel, rfl, by decide +kernel, by decide +kernel⟩, rfl, by decide, by decide +kernel⟩
theorem chk_Hall_belts : ChkF G 10 i_Hall_belts s_Hall_belts N_Hall_belts ["self"] c_Hall_belts := ⟨⟨rfl, rfl, rfl, by decide +kernel, rfl, by decide +kernel, by decide +kernel⟩, rfl, by decide, by decide +kernel⟩
theorem chk_Hall_lay : ChkF G 29 i_Hall_lay s_Hall_lay N_Hall_lay ["self", "giver", "taker", "give", "take", "start"] c_Hall_lay := ⟨⟨rfl, rfl, rfl, by decide +kernel, rfl, by decide +kernel, by decide +kernel⟩, rfl, by decide, by decide +kernel⟩
theorem chk_is_name : ChkF G 30 i_is_name s_is_name N_is_name ["thing"] c_is_name := ⟨⟨rfl, rfl, rfl, by decide +kernel, rfl, by decide +kernel, by decide +kernel⟩, rfl, by decide, by decide +kernel⟩
theorem chk_Hall_work : ChkF G 31 i_Hall_work s_Hall_work N_Hall_work ["self", "name"] c_Hall_work := ⟨⟨rfl, rfl, rfl, by decide +kernel, rfl, by decide +kernel, by decide +kernel⟩, rfl, by decide, by decide +kernel⟩
theorem chk_Hall_need : ChkF G 43 i_Hall_need s_Hall_need N_Hall_need ["self", "work"] c_Hall_need := ⟨⟨rfl, rfl, rfl, by decide +kernel, rfl, by decide +kernel, by decide +kernel⟩, rfl, by decide, by decide +kernel⟩
theorem chk_Hall_leaving : ChkF G 44 i_Hall_leaving s_Hall_leaving N_Hall_leaving ["self", "work"] c_Hall_leaving := ⟨⟨rfl, rfl, rfl, by decide +kernel, rfl, by decide +kernel, by decide +kernel⟩, rfl, by decide, by decide +kernel⟩
theorem chk_Hall_belt : ChkF G 56 i_Hall_belt s_Hall_belt N_Hall_belt ["self", "giver", "taker", "give", "take", "start"] c_Hall_belt := ⟨⟨rfl, rfl, rfl, by decide +kernel, rfl, by decide +kernel, by decide +kernel⟩, rfl, by decide, by decide +kernel⟩
theorem chk_Hall_entering : ChkF G 66 i_Hall_entering s_Hall_entering N_Hall_entering ["self", "work"] c_Hall_entering := ⟨⟨rfl, rfl, rfl, by decide +kernel, rfl, by decide +kernel, by decide +kernel⟩, rfl, by decide, by decide +kernel⟩
theorem chk_need_work_forms : ChkF G 67 i_need_work_forms s_need_work_forms N_need_work_forms ["hall", "work", "some"] c_need_work_forms := ⟨⟨rfl, rfl, rfl, by decide +kernel, rfl, by decide +kernel, by decide +kernel⟩, rfl, by decide, by decide +kernel⟩
theorem chk_need_forms : ChkF G 77 i_need_forms s_need_forms N_need_forms ["hall", "forms"] c_need_forms := ⟨⟨rfl, rfl, rfl, by decide +kernel, rfl, by decide +kernel, by decide +kernel⟩, rfl, by decide, by decide +kernel⟩
theorem chk_need_pieces : ChkF G 83 i_need_pieces s_need_pieces N_need_pieces ["hall", "pieces"] c_need_pieces := ⟨⟨rfl, rfl, rfl, by decide +kernel, rfl, by decide +kernel, by decide +kernel⟩, rfl, by decide, by decide +kernel⟩
theorem chk_Mill_init : ChkF G 94 i_Mill_init s_Mill_init N_Mill_init ["self", "hall", "forms", "pieces"] c_Mill_init := ⟨⟨rfl, rfl, rfl, by decide +kernel, rfl, by decide +kernel, by decide +kernel⟩, rfl, by decide, by decide +kernel⟩
theorem chk_form_value : ChkF G 95 i_form_value s_form_value N_form_value ["form", "pieces"] c_form_value := ⟨⟨rfl, rfl, rfl, by decide +kernel, rfl, by decide +kernel, by decide +kernel⟩, rfl, by decide, by decide +kernel⟩
theorem chk_Mill_turn : ChkF G 96 i_Mill_turn s_Mill_turn N_Mill_turn ["self", "work"] c_Mill_turn := ⟨⟨rfl, rfl, rfl, by decide +kernel, rfl, by decide +kernel, by decide +kernel⟩, rfl, by decide, by decide +kernel⟩
theorem chk_Mill_go : ChkF G 97 i_Mill_go s_Mill_go N_Mill_go ["self", "row"] c_Mill_go := ⟨⟨rfl, rfl, rfl, by decide +kernel, rfl, by decide +kernel, by decide +kernel⟩, rfl, by decide, by decide +kernel⟩
theorem chk_Mill_lying : ChkF G 98 i_Mill_lying s_Mill_lying N_Mill_lying ["self"] c_Mill_lying := ⟨⟨rfl, rfl, rfl, by decide +kernel, rfl, by decide +kernel, by decide +kernel⟩, rfl, by decide, by decide +kernel⟩
theorem chk__law_common : ChkF G 1000 i__law_common s__law_common N__law_common ["_law_one", "_law_other"] c__law_common := ⟨⟨rfl, rfl, rfl, by decide +kernel, rfl, by decide +kernel, by decide +kernel⟩, rfl, by decide, by decide +kernel⟩
theorem chk__law_belt_by : ChkF G 1001 i__law_belt_by s__law_belt_by N__law_belt_by ["_law_cell", "_law_rates", "_law_top", "_law_ample"] c__law_belt_by := ⟨⟨rfl, rfl, rfl, by decide +kernel, rfl, by decide +kernel, by decide +kernel⟩, rfl, by decide, by decide +kernel⟩
theorem chk__law_cell_at : ChkF G 1002 i__law_cell_at s__law_cell_at N__law_cell_at ["_law_script", "_law_k"] c__law_cell_at := ⟨⟨rfl, rfl, rfl, by decide +kernel, rfl, by decide +kernel, by decide +kernel⟩, rfl, by decide, by decide +kernel⟩
theorem chk__law_form_by : ChkF G 1003 i__law_form_by s__law_form_by N__law_form_by ["_law_cell", "_law_slots", "_law_great"] c__law_form_by := ⟨⟨rfl, rfl, rfl, by decide +kernel, rfl, by decide +kernel, by decide +kernel⟩, rfl, by decide, by decide +kernel⟩
theorem chk__law_forms_by : ChkF G 1004 i__law_forms_by s__law_forms_by N__law_forms_by ["_law_script", "_law_at", "_law_belts", "_law_many", "_law_great"] c__law_forms_by := ⟨⟨rfl, rfl, rfl, by decide +kernel, rfl, by decide +kernel, by decide +kernel⟩, rfl, by decide, by decide +kernel⟩
theorem chk__law_made : ChkF G 1005 i__law_made s__law_made N__law_made ["_law_names_here", "_law_belts"] c__law_made := ⟨⟨rfl, rfl, rfl, by decide +kernel, rfl, by decide +kernel, by decide +kernel⟩, rfl, by decide, by decide +kernel⟩
theorem chk__law_names : ChkF G 1006 i__law_names s__law_names N__law_names ["_law_cell", "_law_many"] c__law_names := ⟨⟨rfl, rfl, rfl, by decide +kernel, rfl, by decide +kernel, by decide +kernel⟩, rfl, by decide, by decide +kernel⟩
theorem chk__law_ready : ChkF G 1007 i__law_ready s__law_ready N__law_ready ["_law_belts", "_law_lying", "_law_work"] c__law_ready := ⟨⟨rfl, rfl, rfl, by decide +kernel, rfl, by decide +kernel, by decide +kernel⟩, rfl, by decide, by decide +kernel⟩
theorem chk__law_turned : ChkF G 1008 i__law_turned s__law_turned N__law_turned ["_law_belts", "_law_lying", "_law_work"] c__law_turned := ⟨⟨rfl, rfl, rfl, by decide +kernel, rfl, by decide +kernel, by decide +kernel⟩, rfl, by decide, by decide +kernel⟩
theorem chk__law_order : ChkF G 1009 i__law_order s__law_order N__law_order ["_law_belts", "_law_counts", "_law_cells"] c__law_order := ⟨⟨rfl, rfl, rfl, by decide +kernel, rfl, by decide +kernel, by decide +kernel⟩, rfl, by decide, by decide +kernel⟩
theorem chk__law_pieces_by : ChkF G 1010 i__law_pieces_by s__law_pieces_by N__law_pieces_by ["_law_script", "_law_at", "_law_belts"] c__law_pieces_by := ⟨⟨rfl, rfl, rfl, by decide +kernel, rfl, by decide +kernel, by decide +kernel⟩, rfl, by decide, by decide +kernel⟩
theorem chk_law : ChkF G 1011 i_law s_law N_law ["_law_script"] c_law := ⟨⟨rfl, rfl, rfl, by decide +kernel, rfl, by decide +kernel, by decide +kernel⟩, rfl, by decide, by decide +kernel⟩
theorem skip_0 (k : Nat) (h1 : 0 ≤ k) (h2 : k < 7) : G.fn k = none := by
  show tFn k = none
  unfold tFn
  split <;> first | rfl | (exfalso; revert h1 h2; decide)
theorem skip_1 (k : Nat) (h1 : 8 ≤ k) (h2 : k < 9) : G.fn k = none := by
  show tFn k = none
  unfold tFn
  split <;> first | rfl | (exfalso; revert h1 h2; decide)
theorem skip_3 (k : Nat) (h1 : 11 ≤ k) (h2 : k < 29) : G.fn k = none := by
  show tFn k = none
  unfold tFn
  split <;> first | rfl | (exfalso; revert h1 h2; decide)
theorem skip_6 (k : Nat) (h1 : 32 ≤ k) (h2 : k < 43) : G.fn k = none := by
  show tFn k = none
  unfold tFn
  split <;> first | rfl | (exfalso; revert h1 h2; decide)
theorem skip_8 (k : Nat) (h1 : 45 ≤ k) (h2 : k < 56) : G.fn k = none := by
  show tFn k = none
  unfold tFn
  split <;> first | rfl | (exfalso; revert h1 h2; decide)
theorem skip_9 (k : Nat) (h1 : 57 ≤ k) (h2 : k < 66) : G.fn k = none := by
  show tFn k = none
  unfold tFn
  split <;> first | rfl | (exfalso; revert h1 h2; decide)
theorem skip_11 (k : Nat) (h1 : 68 ≤ k) (h2 : k < 77) : G.fn k = none := by
  show tFn k = none
  unfold tFn
  split <;> first | rfl | (exfalso; revert h1 h2; decide)
theorem skip_12 (k : Nat) (h1 : 78 ≤ k) (h2 : k < 83) : G.fn k = none := by
  show tFn k = none
  unfold tFn
  split <;> first | rfl | (exfalso; revert h1 h2; decide)
theorem skip_13 (k : Nat) (h1 : 84 ≤ k) (h2 : k < 94) : G.fn k = none := by
  show tFn k = none
  unfold tFn
  split <;> first | rfl | (exfalso; revert h1 h2; decide)
theorem skip_18 (k : Nat) (h1 : 99 ≤ k) (h2 : k < 1000) : G.fn k = none := by
  show tFn k = none
  unfold tFn
  split <;> first | rfl | (exfalso; revert h1 h2; decide)
def Γ : Nat → TSp
  | 7 => S_Hall_init
  | 9 => S_Hall_names
  | 10 => S_Hall_belts
  | 29 => S_Hall_lay
  | 30 => S_is_name
  | 31 => S_Hall_work
  | 43 => S_Hall_need
  | 44 => S_Hall_leaving
  | 56 => S_Hall_belt
  | 66 => S_Hall_entering
  | 67 => S_need_work_forms
  | 77 => S_need_forms
  | 83 => S_need_pieces
  | 94 => S_Mill_init
  | 95 => S_form_value
  | 96 => S_Mill_turn
  | 97 => S_Mill_go
  | 98 => S_Mill_lying
  | 1000 => S__law_common
  | 1001 => S__law_belt_by
  | 1002 => S__law_cell_at
  | 1003 => S__law_form_by
  | 1004 => S__law_forms_by
  | 1005 => S__law_made
  | 1006 => S__law_names
  | 1007 => S__law_ready
  | 1008 => S__law_turned
  | 1009 => S__law_order
  | 1010 => S__law_pieces_by
  | 1011 => S_law
  | _ => fun _ _ _ _ => False
theorem all_mk {l : PySem.W.OpenLaw} {w : World} {K : PySem.W.Frag} {h : Heap} {mg : Str → Option Value} {fa : Addr} (X : K.In h) (Gn : h.Ns mainGlobals mg) (hfa : mg "law" = some (.ref fa))
    {C_Hall C_Mill E_Empty E_NoForm E_NoName E_NoPieces E_NoRate E_NoWork E_TooMuch E_Twice f_Hall_init f_Hall_names f_Hall_belts f_Hall_lay f_is_name f_Hall_work f_Hall_need f_Hall_leaving f_Hall_belt d_Hall_belt f_Hall_entering f_need_work_forms f_need_forms f_need_pieces f_Mill_init f_form_value f_Mill_turn f_Mill_go f_Mill_lying f__law_common f__law_belt_by f__law_cell_at f__law_form_by f__law_forms_by f__law_made f__law_names f__law_ready f__law_turned f__law_order f__law_pieces_by f_law : Addr} {oc_Hall_init kV_Hall_init dc_Hall_init pm_Hall_init cd_Hall_init ct_Hall_init oc_Hall_names kV_Hall_names dc_Hall_names pm_Hall_names cd_Hall_names ct_Hall_names oc_Hall_belts kV_Hall_belts dc_Hall_belts pm_Hall_belts cd_Hall_belts ct_Hall_belts oc_Hall_lay kV_Hall_lay dc_Hall_lay pm_Hall_lay cd_Hall_lay ct_Hall_lay oc_is_name kV_is_name dc_is_name pm_is_name cd_is_name ct_is_name oc_Hall_work kV_Hall_work dc_Hall_work pm_Hall_work cd_Hall_work ct_Hall_work oc_Hall_need kV_Hall_need dc_Hall_need pm_Hall_need cd_Hall_need ct_Hall_need oc_Hall_leaving kV_Hall_leaving dc_Hall_leaving pm_Hall_leaving cd_Hall_leaving ct_Hall_leaving oc_Hall_belt kV_Hall_belt dc_Hall_belt pm_Hall_belt cd_Hall_belt ct_Hall_belt oe_Hall_belt oc_Hall_entering kV_Hall_entering dc_Hall_entering pm_Hall_entering cd_Hall_entering ct_Hall_entering oc_need_work_forms kV_need_work_forms dc_need_work_forms pm_need_work_forms cd_need_work_forms ct_need_work_forms oc_need_forms kV_need_forms dc_need_forms pm_need_forms cd_need_forms ct_need_forms oc_need_pieces kV_need_pieces dc_need_pieces pm_need_pieces cd_need_pieces ct_need_pieces oc_Mill_init kV_Mill_init dc_Mill_init pm_Mill_init cd_Mill_init ct_Mill_init oc_form_value kV_form_value dc_form_value pm_form_value cd_form_value ct_form_value oc_Mill_turn kV_Mill_turn dc_Mill_turn pm_Mill_turn cd_Mill_turn ct_Mill_turn oc_Mill_go kV_Mill_go dc_Mill_go pm_Mill_go cd_Mill_go ct_Mill_go oc_Mill_lying kV_Mill_lying dc_Mill_lying pm_Mill_lying cd_Mill_lying ct_Mill_lying oc__law_common kV__law_common dc__law_common pm__law_common cd__law_common ct__law_common oc__law_belt_by kV__law_belt_by dc__law_belt_by pm__law_belt_by cd__law_belt_by ct__law_belt_by oc__law_cell_at kV__law_cell_at dc__law_cell_at pm__law_cell_at cd__law_cell_at ct__law_cell_at oc__law_form_by kV__law_form_by dc__law_form_by pm__law_form_by cd__law_form_by ct__law_form_by oc__law_forms_by kV__law_forms_by dc__law_forms_by pm__law_forms_by cd__law_forms_by ct__law_forms_by oc__law_made kV__law_made dc__law_made pm__law_made cd__law_made ct__law_made oc__law_names kV__law_names dc__law_names pm__law_names cd__law_names ct__law_names oc__law_ready kV__law_ready dc__law_ready pm__law_ready cd__law_ready ct__law_ready oc__law_turned kV__law_turned dc__law_turned pm__law_turned cd__law_turned ct__law_turned oc__law_order kV__law_order dc__law_order pm__law_order cd__law_order ct__law_order oc__law_pieces_by kV__law_pieces_by dc__law_pieces_by pm__law_pieces_by cd__law_pieces_by ct__law_pieces_by oc_law kV_law dc_law pm_law cd_law ct_law : Value} {od_Hall_init an_Hall_init od_Hall_names an_Hall_names od_Hall_belts an_Hall_belts od_Hall_lay an_Hall_lay od_is_name an_is_name od_Hall_work an_Hall_work od_Hall_need an_Hall_need od_Hall_leaving an_Hall_leaving od_Hall_belt an_Hall_belt oo_Hall_belt od_Hall_entering an_Hall_entering od_need_work_forms an_need_work_forms od_need_forms an_need_forms od_need_pieces an_need_pieces od_Mill_init an_Mill_init od_form_value an_form_value od_Mill_turn an_Mill_turn od_Mill_go an_Mill_go od_Mill_lying an_Mill_lying od__law_common an__law_common od__law_belt_by an__law_belt_by od__law_cell_at an__law_cell_at od__law_form_by an__law_form_by od__law_forms_by an__law_forms_by od__law_made an__law_made od__law_names an__law_names od__law_ready an__law_ready od__law_turned an__law_turned od__law_order an__law_order od__law_pieces_by an__law_pieces_by od_law an_law : Option Addr} {sl_Hall_init sl_Hall_names sl_Hall_belts sl_Hall_lay sl_is_name sl_Hall_work sl_Hall_need sl_Hall_leaving sl_Hall_belt os_Hall_belt sl_Hall_entering sl_need_work_forms sl_need_forms sl_need_pieces sl_Mill_init sl_form_value sl_Mill_turn sl_Mill_go sl_Mill_lying sl__law_common sl__law_belt_by sl__law_cell_at sl__law_form_by sl__law_forms_by sl__law_made sl__law_names sl__law_ready sl__law_turned sl__law_order sl__law_pieces_by sl_law : Array (Option Value)} {nn_Hall_belt : Nat} {tk_Hall_belt k_LETTERS k_MOST_BELTS k_MOST_WORKS : Tok}
    (n_Hall : PySem.W.nsIn K mainGlobals "Hall" = some (some (.ref C_Hall)))
    (pg_Hall : PySem.W.plainGet K C_Hall Str.empty = true)
    (hd_Hall : PySem.W.hasDictIn K C_Hall = true)
    (po_Hall : PySem.W.plainOver K C_Hall = true)
    (sa_Hall : PySem.W.findIn K (.ref C_Hall) "__setattr__" = some (some (.builtin "object.__setattr__")))
    (mk_Hall : PySem.W.makesIn K C_Hall = true)
    (kc_Hall : PySem.W.keepIn K (.ref C_Hall) = true)
    (na_Hall_called : PySem.W.findIn K (.ref C_Hall) "called" = some none)
    (na_Hall_lines : PySem.W.findIn K (.ref C_Hall) "lines" = some none)
    (n_Mill : PySem.W.nsIn K mainGlobals "Mill" = some (some (.ref C_Mill)))
    (pg_Mill : PySem.W.plainGet K C_Mill Str.empty = true)
    (hd_Mill : PySem.W.hasDictIn K C_Mill = true)
    (po_Mill : PySem.W.plainOver K C_Mill = true)
    (sa_Mill : PySem.W.findIn K (.ref C_Mill) "__setattr__" = some (some (.builtin "object.__setattr__")))
    (mk_Mill : PySem.W.makesIn K C_Mill = true)
    (kc_Mill : PySem.W.keepIn K (.ref C_Mill) = true)
    (na_Mill_forms : PySem.W.findIn K (.ref C_Mill) "forms" = some none)
    (na_Mill_ties : PySem.W.findIn K (.ref C_Mill) "ties" = some none)
    (na_Mill_into : PySem.W.findIn K (.ref C_Mill) "into" = some none)
    (na_Mill_out : PySem.W.findIn K (.ref C_Mill) "out" = some none)
    (na_Mill_loads : PySem.W.findIn K (.ref C_Mill) "loads" = some none)
    (x_Empty : PySem.W.nsIn K mainGlobals "Empty" = some (some (.ref E_Empty)))
    (xx_Empty : PySem.W.excIn K E_Empty [.type "ValueError", .type "Exception", .type "BaseException", .type "object"] "ValueError.__new__" = true)
    (xk_Empty : PySem.W.keepIn K (.ref E_Empty) = true)
    (xb_Empty : PySem.W.subIn K (.ref E_Empty) (.type "BaseException") = some true)
    (xh_Empty : PySem.W.hasDictIn K E_Empty = true)
    (xt_Empty : PySem.W.typeIn K (.ref E_Empty) = some (.type "type"))
    (x_NoForm : PySem.W.nsIn K mainGlobals "NoForm" = some (some (.ref E_NoForm)))
    (xx_NoForm : PySem.W.excIn K E_NoForm [.type "ValueError", .type "Exception", .type "BaseException", .type "object"] "ValueError.__new__" = true)
    (xk_NoForm : PySem.W.keepIn K (.ref E_NoForm) = true)
    (xb_NoForm : PySem.W.subIn K (.ref E_NoForm) (.type "BaseException") = some true)
    (xh_NoForm : PySem.W.hasDictIn K E_NoForm = true)
    (xt_NoForm : PySem.W.typeIn K (.ref E_NoForm) = some (.type "type"))
    (x_NoName : PySem.W.nsIn K mainGlobals "NoName" = some (some (.ref E_NoName)))
    (xx_NoName : PySem.W.excIn K E_NoName [.type "ValueError", .type "Exception", .type "BaseException", .type "object"] "ValueError.__new__" = true)
    (xk_NoName : PySem.W.keepIn K (.ref E_NoName) = true)
    (xb_NoName : PySem.W.subIn K (.ref E_NoName) (.type "BaseException") = some true)
    (xh_NoName : PySem.W.hasDictIn K E_NoName = true)
    (xt_NoName : PySem.W.typeIn K (.ref E_NoName) = some (.type "type"))
    (x_NoPieces : PySem.W.nsIn K mainGlobals "NoPieces" = some (some (.ref E_NoPieces)))
    (xx_NoPieces : PySem.W.excIn K E_NoPieces [.type "ValueError", .type "Exception", .type "BaseException", .type "object"] "ValueError.__new__" = true)
    (xk_NoPieces : PySem.W.keepIn K (.ref E_NoPieces) = true)
    (xb_NoPieces : PySem.W.subIn K (.ref E_NoPieces) (.type "BaseException") = some true)
    (xh_NoPieces : PySem.W.hasDictIn K E_NoPieces = true)
    (xt_NoPieces : PySem.W.typeIn K (.ref E_NoPieces) = some (.type "type"))
    (x_NoRate : PySem.W.nsIn K mainGlobals "NoRate" = some (some (.ref E_NoRate)))
    (xx_NoRate : PySem.W.excIn K E_NoRate [.type "ValueError", .type "Exception", .type "BaseException", .type "object"] "ValueError.__new__" = true)
    (xk_NoRate : PySem.W.keepIn K (.ref E_NoRate) = true)
    (xb_NoRate : PySem.W.subIn K (.ref E_NoRate) (.type "BaseException") = some true)
    (xh_NoRate : PySem.W.hasDictIn K E_NoRate = true)
    (xt_NoRate : PySem.W.typeIn K (.ref E_NoRate) = some (.type "type"))
    (x_NoWork : PySem.W.nsIn K mainGlobals "NoWork" = some (some (.ref E_NoWork)))
    (xx_NoWork : PySem.W.excIn K E_NoWork [.type "ValueError", .type "Exception", .type "BaseException", .type "object"] "ValueError.__new__" = true)
    (xk_NoWork : PySem.W.keepIn K (.ref E_NoWork) = true)
    (xb_NoWork : PySem.W.subIn K (.ref E_NoWork) (.type "BaseException") = some true)
    (xh_NoWork : PySem.W.hasDictIn K E_NoWork = true)
    (xt_NoWork : PySem.W.typeIn K (.ref E_NoWork) = some (.type "type"))
    (x_TooMuch : PySem.W.nsIn K mainGlobals "TooMuch" = some (some (.ref E_TooMuch)))
    (xx_TooMuch : PySem.W.excIn K E_TooMuch [.type "ValueError", .type "Exception", .type "BaseException", .type "object"] "ValueError.__new__" = true)
    (xk_TooMuch : PySem.W.keepIn K (.ref E_TooMuch) = true)
    (xb_TooMuch : PySem.W.subIn K (.ref E_TooMuch) (.type "BaseException") = some true)
    (xh_TooMuch : PySem.W.hasDictIn K E_TooMuch = true)
    (xt_TooMuch : PySem.W.typeIn K (.ref E_TooMuch) = some (.type "type"))
    (x_Twice : PySem.W.nsIn K mainGlobals "Twice" = some (some (.ref E_Twice)))
    (xx_Twice : PySem.W.excIn K E_Twice [.type "ValueError", .type "Exception", .type "BaseException", .type "object"] "ValueError.__new__" = true)
    (xk_Twice : PySem.W.keepIn K (.ref E_Twice) = true)
    (xb_Twice : PySem.W.subIn K (.ref E_Twice) (.type "BaseException") = some true)
    (xh_Twice : PySem.W.hasDictIn K E_Twice = true)
    (xt_Twice : PySem.W.typeIn K (.ref E_Twice) = some (.type "type"))
    (xs_Empty_Empty : PySem.W.subIn K (.ref E_Empty) (.ref E_Empty) = some true)
    (xs_Empty_NoForm : PySem.W.subIn K (.ref E_Empty) (.ref E_NoForm) = some false)
    (xs_Empty_NoName : PySem.W.subIn K (.ref E_Empty) (.ref E_NoName) = some false)
    (xs_Empty_NoPieces : PySem.W.subIn K (.ref E_Empty) (.ref E_NoPieces) = some false)
    (xs_Empty_NoRate : PySem.W.subIn K (.ref E_Empty) (.ref E_NoRate) = some false)
    (xs_Empty_NoWork : PySem.W.subIn K (.ref E_Empty) (.ref E_NoWork) = some false)
    (xs_Empty_TooMuch : PySem.W.subIn K (.ref E_Empty) (.ref E_TooMuch) = some false)
    (xs_Empty_Twice : PySem.W.subIn K (.ref E_Empty) (.ref E_Twice) = some false)
    (xs_NoForm_Empty : PySem.W.subIn K (.ref E_NoForm) (.ref E_Empty) = some false)
    (xs_NoForm_NoForm : PySem.W.subIn K (.ref E_NoForm) (.ref E_NoForm) = some true)
    (xs_NoForm_NoName : PySem.W.subIn K (.ref E_NoForm) (.ref E_NoName) = some false)
    (xs_NoForm_NoPieces : PySem.W.subIn K (.ref E_NoForm) (.ref E_NoPieces) = some false)
    (xs_NoForm_NoRate : PySem.W.subIn K (.ref E_NoForm) (.ref E_NoRate) = some false)
    (xs_NoForm_NoWork : PySem.W.subIn K (.ref E_NoForm) (.ref E_NoWork) = some false)
    (xs_NoForm_TooMuch : PySem.W.subIn K (.ref E_NoForm) (.ref E_TooMuch) = some false)
    (xs_NoForm_Twice : PySem.W.subIn K (.ref E_NoForm) (.ref E_Twice) = some false)
    (xs_NoName_Empty : PySem.W.subIn K (.ref E_NoName) (.ref E_Empty) = some false)
    (xs_NoName_NoForm : PySem.W.subIn K (.ref E_NoName) (.ref E_NoForm) = some false)
    (xs_NoName_NoName : PySem.W.subIn K (.ref E_NoName) (.ref E_NoName) = some true)
    (xs_NoName_NoPieces : PySem.W.subIn K (.ref E_NoName) (.ref E_NoPieces) = some false)
    (xs_NoName_NoRate : PySem.W.subIn K (.ref E_NoName) (.ref E_NoRate) = some false)
    (xs_NoName_NoWork : PySem.W.subIn K (.ref E_NoName) (.ref E_NoWork) = some false)
    (xs_NoName_TooMuch : PySem.W.subIn K (.ref E_NoName) (.ref E_TooMuch) = some false)
    (xs_NoName_Twice : PySem.W.subIn K (.ref E_NoName) (.ref E_Twice) = some false)
    (xs_NoPieces_Empty : PySem.W.subIn K (.ref E_NoPieces) (.ref E_Empty) = some false)
    (xs_NoPieces_NoForm : PySem.W.subIn K (.ref E_NoPieces) (.ref E_NoForm) = some false)
    (xs_NoPieces_NoName : PySem.W.subIn K (.ref E_NoPieces) (.ref E_NoName) = some false)
    (xs_NoPieces_NoPieces : PySem.W.subIn K (.ref E_NoPieces) (.ref E_NoPieces) = some true)
    (xs_NoPieces_NoRate : PySem.W.subIn K (.ref E_NoPieces) (.ref E_NoRate) = some false)
    (xs_NoPieces_NoWork : PySem.W.subIn K (.ref E_NoPieces) (.ref E_NoWork) = some false)
    (xs_NoPieces_TooMuch : PySem.W.subIn K (.ref E_NoPieces) (.ref E_TooMuch) = some false)
    (xs_NoPieces_Twice : PySem.W.subIn K (.ref E_NoPieces) (.ref E_Twice) = some false)
    (xs_NoRate_Empty : PySem.W.subIn K (.ref E_NoRate) (.ref E_Empty) = some false)
    (xs_NoRate_NoForm : PySem.W.subIn K (.ref E_NoRate) (.ref E_NoForm) = some false)
    (xs_NoRate_NoName : PySem.W.subIn K (.ref E_NoRate) (.ref E_NoName) = some false)
    (xs_NoRate_NoPieces : PySem.W.subIn K (.ref E_NoRate) (.ref E_NoPieces) = some false)
    (xs_NoRate_NoRate : PySem.W.subIn K (.ref E_NoRate) (.ref E_NoRate) = some true)
    (xs_NoRate_NoWork : PySem.W.subIn K (.ref E_NoRate) (.ref E_NoWork) = some false)
    (xs_NoRate_TooMuch : PySem.W.subIn K (.ref E_NoRate) (.ref E_TooMuch) = some false)
    (xs_NoRate_Twice : PySem.W.subIn K (.ref E_NoRate) (.ref E_Twice) = some false)
    (xs_NoWork_Empty : PySem.W.subIn K (.ref E_NoWork) (.ref E_Empty) = some false)
    (xs_NoWork_NoForm : PySem.W.subIn K (.ref E_NoWork) (.ref E_NoForm) = some false)
    (xs_NoWork_NoName : PySem.W.subIn K (.ref E_NoWork) (.ref E_NoName) = some false)
    (xs_NoWork_NoPieces : PySem.W.subIn K (.ref E_NoWork) (.ref E_NoPieces) = some false)
    (xs_NoWork_NoRate : PySem.W.subIn K (.ref E_NoWork) (.ref E_NoRate) = some false)
    (xs_NoWork_NoWork : PySem.W.subIn K (.ref E_NoWork) (.ref E_NoWork) = some true)
    (xs_NoWork_TooMuch : PySem.W.subIn K (.ref E_NoWork) (.ref E_TooMuch) = some false)
    (xs_NoWork_Twice : PySem.W.subIn K (.ref E_NoWork) (.ref E_Twice) = some false)
    (xs_TooMuch_Empty : PySem.W.subIn K (.ref E_TooMuch) (.ref E_Empty) = some false)
    (xs_TooMuch_NoForm : PySem.W.subIn K (.ref E_TooMuch) (.ref E_NoForm) = some false)
    (xs_TooMuch_NoName : PySem.W.subIn K (.ref E_TooMuch) (.ref E_NoName) = some false)
    (xs_TooMuch_NoPieces : PySem.W.subIn K (.ref E_TooMuch) (.ref E_NoPieces) = some false)
    (xs_TooMuch_NoRate : PySem.W.subIn K (.ref E_TooMuch) (.ref E_NoRate) = some false)
    (xs_TooMuch_NoWork : PySem.W.subIn K (.ref E_TooMuch) (.ref E_NoWork) = some false)
    (xs_TooMuch_TooMuch : PySem.W.subIn K (.ref E_TooMuch) (.ref E_TooMuch) = some true)
    (xs_TooMuch_Twice : PySem.W.subIn K (.ref E_TooMuch) (.ref E_Twice) = some false)
    (xs_Twice_Empty : PySem.W.subIn K (.ref E_Twice) (.ref E_Empty) = some false)
    (xs_Twice_NoForm : PySem.W.subIn K (.ref E_Twice) (.ref E_NoForm) = some false)
    (xs_Twice_NoName : PySem.W.subIn K (.ref E_Twice) (.ref E_NoName) = some false)
    (xs_Twice_NoPieces : PySem.W.subIn K (.ref E_Twice) (.ref E_NoPieces) = some false)
    (xs_Twice_NoRate : PySem.W.subIn K (.ref E_Twice) (.ref E_NoRate) = some false)
    (xs_Twice_NoWork : PySem.W.subIn K (.ref E_Twice) (.ref E_NoWork) = some false)
    (xs_Twice_TooMuch : PySem.W.subIn K (.ref E_Twice) (.ref E_TooMuch) = some false)
    (xs_Twice_Twice : PySem.W.subIn K (.ref E_Twice) (.ref E_Twice) = some true)
    (g_LETTERS : PySem.W.nsIn K mainGlobals "LETTERS" = some (some (.str "abcdefghijklmnopqrstuvwxyz" k_LETTERS)))
    (g_MOST_BELTS : PySem.W.nsIn K mainGlobals "MOST_BELTS" = some (some (.int 60 k_MOST_BELTS)))
    (g_MOST_WORKS : PySem.W.nsIn K mainGlobals "MOST_WORKS" = some (some (.int 30 k_MOST_WORKS)))
    (b_len : PySem.W.nsIn K mainGlobals "len" = some none)
    (b_sum : PySem.W.nsIn K mainGlobals "sum" = some none)
    (b_max : PySem.W.nsIn K mainGlobals "max" = some none)
    (b_min : PySem.W.nsIn K mainGlobals "min" = some none)
    (b_list : PySem.W.nsIn K mainGlobals "list" = some none)
    (b_tuple : PySem.W.nsIn K mainGlobals "tuple" = some none)
    (b_sorted : PySem.W.nsIn K mainGlobals "sorted" = some none)
    (b_all : PySem.W.nsIn K mainGlobals "all" = some none)
    (b_any : PySem.W.nsIn K mainGlobals "any" = some none)
    (b_str : PySem.W.nsIn K mainGlobals "str" = some none)
    (b_int : PySem.W.nsIn K mainGlobals "int" = some none)
    (b_bool : PySem.W.nsIn K mainGlobals "bool" = some none)
    (b_dict : PySem.W.nsIn K mainGlobals "dict" = some none)
    (b_isinstance : PySem.W.nsIn K mainGlobals "isinstance" = some none)
    (b_range : PySem.W.nsIn K mainGlobals "range" = some none)
    (b_enumerate : PySem.W.nsIn K mainGlobals "enumerate" = some none)
    (b_zip : PySem.W.nsIn K mainGlobals "zip" = some none)
    (b_reversed : PySem.W.nsIn K mainGlobals "reversed" = some none)
    (b_ValueError : PySem.W.nsIn K mainGlobals "ValueError" = some none)
    (b_set : PySem.W.nsIn K mainGlobals "set" = some none)
    (a_Hall_init : PySem.W.findIn K (.ref C_Hall) "__init__" = some (some (.ref f_Hall_init)))
    (i_f_Hall_init : PySem.W.isFn K (.ref f_Hall_init) = true)
    (l_Hall_init : K.lookup f_Hall_init = some ⟨oc_Hall_init, od_Hall_init, .func (PySem.W.fnOf "__init__" "Hall.__init__" (defArgs s_Hall_init) (defBody s_Hall_init) (defScope s_Hall_init) .none kV_Hall_init dc_Hall_init pm_Hall_init an_Hall_init cd_Hall_init ct_Hall_init), sl_Hall_init⟩)
    (c_f_Hall_init : PySem.W.codeIn K cd_Hall_init "Hall.__init__" = true)
    (k_f_Hall_init : PySem.W.keepIn K (.ref f_Hall_init) = true)
    (a_Hall_names : PySem.W.findIn K (.ref C_Hall) "names" = some (some (.ref f_Hall_names)))
    (i_f_Hall_names : PySem.W.isFn K (.ref f_Hall_names) = true)
    (l_Hall_names : K.lookup f_Hall_names = some ⟨oc_Hall_names, od_Hall_names, .func (PySem.W.fnOf "names" "Hall.names" (defArgs s_Hall_names) (defBody s_Hall_names) (defScope s_Hall_names) .none kV_Hall_names dc_Hall_names pm_Hall_names an_Hall_names cd_Hall_names ct_Hall_names), sl_Hall_names⟩)
    (c_f_Hall_names : PySem.W.codeIn K cd_Hall_names "Hall.names" = true)
    (k_f_Hall_names : PySem.W.keepIn K (.ref f_Hall_names) = true)
    (a_Hall_belts : PySem.W.findIn K (.ref C_Hall) "belts" = some (some (.ref f_Hall_belts)))
    (i_f_Hall_belts : PySem.W.isFn K (.ref f_Hall_belts) = true)
    (l_Hall_belts : K.lookup f_Hall_belts = some ⟨oc_Hall_belts, od_Hall_belts, .func (PySem.W.fnOf "belts" "Hall.belts" (defArgs s_Hall_belts) (defBody s_Hall_belts) (defScope s_Hall_belts) .none kV_Hall_belts dc_Hall_belts pm_Hall_belts an_Hall_belts cd_Hall_belts ct_Hall_belts), sl_Hall_belts⟩)
    (c_f_Hall_belts : PySem.W.codeIn K cd_Hall_belts "Hall.belts" = true)
    (k_f_Hall_belts : PySem.W.keepIn K (.ref f_Hall_belts) = true)
    (a_Hall_lay : PySem.W.findIn K (.ref C_Hall) "lay" = some (some (.ref f_Hall_lay)))
    (i_f_Hall_lay : PySem.W.isFn K (.ref f_Hall_lay) = true)
    (l_Hall_lay : K.lookup f_Hall_lay = some ⟨oc_Hall_lay, od_Hall_lay, .func (PySem.W.fnOf "lay" "Hall.lay" (defArgs s_Hall_lay) (defBody s_Hall_lay) (defScope s_Hall_lay) .none kV_Hall_lay dc_Hall_lay pm_Hall_lay an_Hall_lay cd_Hall_lay ct_Hall_lay), sl_Hall_lay⟩)
    (c_f_Hall_lay : PySem.W.codeIn K cd_Hall_lay "Hall.lay" = true)
    (k_f_Hall_lay : PySem.W.keepIn K (.ref f_Hall_lay) = true)
    (a_is_name : PySem.W.nsIn K mainGlobals "is_name" = some (some (.ref f_is_name)))
    (l_is_name : K.lookup f_is_name = some ⟨oc_is_name, od_is_name, .func (PySem.W.fnOf "is_name" "is_name" (defArgs s_is_name) (defBody s_is_name) (defScope s_is_name) .none kV_is_name dc_is_name pm_is_name an_is_name cd_is_name ct_is_name), sl_is_name⟩)
    (c_f_is_name : PySem.W.codeIn K cd_is_name "is_name" = true)
    (k_f_is_name : PySem.W.keepIn K (.ref f_is_name) = true)
    (a_Hall_work : PySem.W.findIn K (.ref C_Hall) "work" = some (some (.ref f_Hall_work)))
    (i_f_Hall_work : PySem.W.isFn K (.ref f_Hall_work) = true)
    (l_Hall_work : K.lookup f_Hall_work = some ⟨oc_Hall_work, od_Hall_work, .func (PySem.W.fnOf "work" "Hall.work" (defArgs s_Hall_work) (defBody s_Hall_work) (defScope s_Hall_work) .none kV_Hall_work dc_Hall_work pm_Hall_work an_Hall_work cd_Hall_work ct_Hall_work), sl_Hall_work⟩)
    (c_f_Hall_work : PySem.W.codeIn K cd_Hall_work "Hall.work" = true)
    (k_f_Hall_work : PySem.W.keepIn K (.ref f_Hall_work) = true)
    (a_Hall_need : PySem.W.findIn K (.ref C_Hall) "need" = some (some (.ref f_Hall_need)))
    (i_f_Hall_need : PySem.W.isFn K (.ref f_Hall_need) = true)
    (l_Hall_need : K.lookup f_Hall_need = some ⟨oc_Hall_need, od_Hall_need, .func (PySem.W.fnOf "need" "Hall.need" (defArgs s_Hall_need) (defBody s_Hall_need) (defScope s_Hall_need) .none kV_Hall_need dc_Hall_need pm_Hall_need an_Hall_need cd_Hall_need ct_Hall_need), sl_Hall_need⟩)
    (c_f_Hall_need : PySem.W.codeIn K cd_Hall_need "Hall.need" = true)
    (k_f_Hall_need : PySem.W.keepIn K (.ref f_Hall_need) = true)
    (a_Hall_leaving : PySem.W.findIn K (.ref C_Hall) "leaving" = some (some (.ref f_Hall_leaving)))
    (i_f_Hall_leaving : PySem.W.isFn K (.ref f_Hall_leaving) = true)
    (l_Hall_leaving : K.lookup f_Hall_leaving = some ⟨oc_Hall_leaving, od_Hall_leaving, .func (PySem.W.fnOf "leaving" "Hall.leaving" (defArgs s_Hall_leaving) (defBody s_Hall_leaving) (defScope s_Hall_leaving) .none kV_Hall_leaving dc_Hall_leaving pm_Hall_leaving an_Hall_leaving cd_Hall_leaving ct_Hall_leaving), sl_Hall_leaving⟩)
    (c_f_Hall_leaving : PySem.W.codeIn K cd_Hall_leaving "Hall.leaving" = true)
    (k_f_Hall_leaving : PySem.W.keepIn K (.ref f_Hall_leaving) = true)
    (a_Hall_belt : PySem.W.findIn K (.ref C_Hall) "belt" = some (some (.ref f_Hall_belt)))
    (i_f_Hall_belt : PySem.W.isFn K (.ref f_Hall_belt) = true)
    (l_Hall_belt : K.lookup f_Hall_belt = some ⟨oc_Hall_belt, od_Hall_belt, .func (PySem.W.fnOf "belt" "Hall.belt" (defArgs s_Hall_belt) (defBody s_Hall_belt) (defScope s_Hall_belt) (.ref d_Hall_belt) kV_Hall_belt dc_Hall_belt pm_Hall_belt an_Hall_belt cd_Hall_belt ct_Hall_belt), sl_Hall_belt⟩)
    (c_f_Hall_belt : PySem.W.codeIn K cd_Hall_belt "Hall.belt" = true)
    (k_f_Hall_belt : PySem.W.keepIn K (.ref f_Hall_belt) = true)
    (t_Hall_belt : K.lookup d_Hall_belt = some ⟨oe_Hall_belt, oo_Hall_belt, .seq [Value.int 0 tk_Hall_belt].toArray nn_Hall_belt, os_Hall_belt⟩)
    (a_Hall_entering : PySem.W.findIn K (.ref C_Hall) "entering" = some (some (.ref f_Hall_entering)))
    (i_f_Hall_entering : PySem.W.isFn K (.ref f_Hall_entering) = true)
    (l_Hall_entering : K.lookup f_Hall_entering = some ⟨oc_Hall_entering, od_Hall_entering, .func (PySem.W.fnOf "entering" "Hall.entering" (defArgs s_Hall_entering) (defBody s_Hall_entering) (defScope s_Hall_entering) .none kV_Hall_entering dc_Hall_entering pm_Hall_entering an_Hall_entering cd_Hall_entering ct_Hall_entering), sl_Hall_entering⟩)
    (c_f_Hall_entering : PySem.W.codeIn K cd_Hall_entering "Hall.entering" = true)
    (k_f_Hall_entering : PySem.W.keepIn K (.ref f_Hall_entering) = true)
    (a_need_work_forms : PySem.W.nsIn K mainGlobals "need_work_forms" = some (some (.ref f_need_work_forms)))
    (l_need_work_forms : K.lookup f_need_work_forms = some ⟨oc_need_work_forms, od_need_work_forms, .func (PySem.W.fnOf "need_work_forms" "need_work_forms" (defArgs s_need_work_forms) (defBody s_need_work_forms) (defScope s_need_work_forms) .none kV_need_work_forms dc_need_work_forms pm_need_work_forms an_need_work_forms cd_need_work_forms ct_need_work_forms), sl_need_work_forms⟩)
    (c_f_need_work_forms : PySem.W.codeIn K cd_need_work_forms "need_work_forms" = true)
    (k_f_need_work_forms : PySem.W.keepIn K (.ref f_need_work_forms) = true)
    (a_need_forms : PySem.W.nsIn K mainGlobals "need_forms" = some (some (.ref f_need_forms)))
    (l_need_forms : K.lookup f_need_forms = some ⟨oc_need_forms, od_need_forms, .func (PySem.W.fnOf "need_forms" "need_forms" (defArgs s_need_forms) (defBody s_need_forms) (defScope s_need_forms) .none kV_need_forms dc_need_forms pm_need_forms an_need_forms cd_need_forms ct_need_forms), sl_need_forms⟩)
    (c_f_need_forms : PySem.W.codeIn K cd_need_forms "need_forms" = true)
    (k_f_need_forms : PySem.W.keepIn K (.ref f_need_forms) = true)
    (a_need_pieces : PySem.W.nsIn K mainGlobals "need_pieces" = some (some (.ref f_need_pieces)))
    (l_need_pieces : K.lookup f_need_pieces = some ⟨oc_need_pieces, od_need_pieces, .func (PySem.W.fnOf "need_pieces" "need_pieces" (defArgs s_need_pieces) (defBody s_need_pieces) (defScope s_need_pieces) .none kV_need_pieces dc_need_pieces pm_need_pieces an_need_pieces cd_need_pieces ct_need_pieces), sl_need_pieces⟩)
    (c_f_need_pieces : PySem.W.codeIn K cd_need_pieces "need_pieces" = true)
    (k_f_need_pieces : PySem.W.keepIn K (.ref f_need_pieces) = true)
    (a_Mill_init : PySem.W.findIn K (.ref C_Mill) "__init__" = some (some (.ref f_Mill_init)))
    (i_f_Mill_init : PySem.W.isFn K (.ref f_Mill_init) = true)
    (l_Mill_init : K.lookup f_Mill_init = some ⟨oc_Mill_init, od_Mill_init, .func (PySem.W.fnOf "__init__" "Mill.__init__" (defArgs s_Mill_init) (defBody s_Mill_init) (defScope s_Mill_init) .none kV_Mill_init dc_Mill_init pm_Mill_init an_Mill_init cd_Mill_init ct_Mill_init), sl_Mill_init⟩)
    (c_f_Mill_init : PySem.W.codeIn K cd_Mill_init "Mill.__init__" = true)
    (k_f_Mill_init : PySem.W.keepIn K (.ref f_Mill_init) = true)
    (a_form_value : PySem.W.nsIn K mainGlobals "form_value" = some (some (.ref f_form_value)))
    (l_form_value : K.lookup f_form_value = some ⟨oc_form_value, od_form_value, .func (PySem.W.fnOf "form_value" "form_value" (defArgs s_form_value) (defBody s_form_value) (defScope s_form_value) .none kV_form_value dc_form_value pm_form_value an_form_value cd_form_value ct_form_value), sl_form_value⟩)
    (c_f_form_value : PySem.W.codeIn K cd_form_value "form_value" = true)
    (k_f_form_value : PySem.W.keepIn K (.ref f_form_value) = true)
    (a_Mill_turn : PySem.W.findIn K (.ref C_Mill) "turn" = some (some (.ref f_Mill_turn)))
    (i_f_Mill_turn : PySem.W.isFn K (.ref f_Mill_turn) = true)
    (l_Mill_turn : K.lookup f_Mill_turn = some ⟨oc_Mill_turn, od_Mill_turn, .func (PySem.W.fnOf "turn" "Mill.turn" (defArgs s_Mill_turn) (defBody s_Mill_turn) (defScope s_Mill_turn) .none kV_Mill_turn dc_Mill_turn pm_Mill_turn an_Mill_turn cd_Mill_turn ct_Mill_turn), sl_Mill_turn⟩)
    (c_f_Mill_turn : PySem.W.codeIn K cd_Mill_turn "Mill.turn" = true)
    (k_f_Mill_turn : PySem.W.keepIn K (.ref f_Mill_turn) = true)
    (a_Mill_go : PySem.W.findIn K (.ref C_Mill) "go" = some (some (.ref f_Mill_go)))
    (i_f_Mill_go : PySem.W.isFn K (.ref f_Mill_go) = true)
    (l_Mill_go : K.lookup f_Mill_go = some ⟨oc_Mill_go, od_Mill_go, .func (PySem.W.fnOf "go" "Mill.go" (defArgs s_Mill_go) (defBody s_Mill_go) (defScope s_Mill_go) .none kV_Mill_go dc_Mill_go pm_Mill_go an_Mill_go cd_Mill_go ct_Mill_go), sl_Mill_go⟩)
    (c_f_Mill_go : PySem.W.codeIn K cd_Mill_go "Mill.go" = true)
    (k_f_Mill_go : PySem.W.keepIn K (.ref f_Mill_go) = true)
    (a_Mill_lying : PySem.W.findIn K (.ref C_Mill) "lying" = some (some (.ref f_Mill_lying)))
    (i_f_Mill_lying : PySem.W.isFn K (.ref f_Mill_lying) = true)
    (l_Mill_lying : K.lookup f_Mill_lying = some ⟨oc_Mill_lying, od_Mill_lying, .func (PySem.W.fnOf "lying" "Mill.lying" (defArgs s_Mill_lying) (defBody s_Mill_lying) (defScope s_Mill_lying) .none kV_Mill_lying dc_Mill_lying pm_Mill_lying an_Mill_lying cd_Mill_lying ct_Mill_lying), sl_Mill_lying⟩)
    (c_f_Mill_lying : PySem.W.codeIn K cd_Mill_lying "Mill.lying" = true)
    (k_f_Mill_lying : PySem.W.keepIn K (.ref f_Mill_lying) = true)
    (a__law_common : PySem.W.nsIn K mainGlobals "_law_common" = some (some (.ref f__law_common)))
    (l__law_common : K.lookup f__law_common = some ⟨oc__law_common, od__law_common, .func (PySem.W.fnOf "_law_common" "_law_common" (defArgs s__law_common) (defBody s__law_common) (defScope s__law_common) .none kV__law_common dc__law_common pm__law_common an__law_common cd__law_common ct__law_common), sl__law_common⟩)
    (c_f__law_common : PySem.W.codeIn K cd__law_common "_law_common" = true)
    (k_f__law_common : PySem.W.keepIn K (.ref f__law_common) = true)
    (a__law_belt_by : PySem.W.nsIn K mainGlobals "_law_belt_by" = some (some (.ref f__law_belt_by)))
    (l__law_belt_by : K.lookup f__law_belt_by = some ⟨oc__law_belt_by, od__law_belt_by, .func (PySem.W.fnOf "_law_belt_by" "_law_belt_by" (defArgs s__law_belt_by) (defBody s__law_belt_by) (defScope s__law_belt_by) .none kV__law_belt_by dc__law_belt_by pm__law_belt_by an__law_belt_by cd__law_belt_by ct__law_belt_by), sl__law_belt_by⟩)
    (c_f__law_belt_by : PySem.W.codeIn K cd__law_belt_by "_law_belt_by" = true)
    (k_f__law_belt_by : PySem.W.keepIn K (.ref f__law_belt_by) = true)
    (a__law_cell_at : PySem.W.nsIn K mainGlobals "_law_cell_at" = some (some (.ref f__law_cell_at)))
    (l__law_cell_at : K.lookup f__law_cell_at = some ⟨oc__law_cell_at, od__law_cell_at, .func (PySem.W.fnOf "_law_cell_at" "_law_cell_at" (defArgs s__law_cell_at) (defBody s__law_cell_at) (defScope s__law_cell_at) .none kV__law_cell_at dc__law_cell_at pm__law_cell_at an__law_cell_at cd__law_cell_at ct__law_cell_at), sl__law_cell_at⟩)
    (c_f__law_cell_at : PySem.W.codeIn K cd__law_cell_at "_law_cell_at" = true)
    (k_f__law_cell_at : PySem.W.keepIn K (.ref f__law_cell_at) = true)
    (a__law_form_by : PySem.W.nsIn K mainGlobals "_law_form_by" = some (some (.ref f__law_form_by)))
    (l__law_form_by : K.lookup f__law_form_by = some ⟨oc__law_form_by, od__law_form_by, .func (PySem.W.fnOf "_law_form_by" "_law_form_by" (defArgs s__law_form_by) (defBody s__law_form_by) (defScope s__law_form_by) .none kV__law_form_by dc__law_form_by pm__law_form_by an__law_form_by cd__law_form_by ct__law_form_by), sl__law_form_by⟩)
    (c_f__law_form_by : PySem.W.codeIn K cd__law_form_by "_law_form_by" = true)
    (k_f__law_form_by : PySem.W.keepIn K (.ref f__law_form_by) = true)
    (a__law_forms_by : PySem.W.nsIn K mainGlobals "_law_forms_by" = some (some (.ref f__law_forms_by)))
    (l__law_forms_by : K.lookup f__law_forms_by = some ⟨oc__law_forms_by, od__law_forms_by, .func (PySem.W.fnOf "_law_forms_by" "_law_forms_by" (defArgs s__law_forms_by) (defBody s__law_forms_by) (defScope s__law_forms_by) .none kV__law_forms_by dc__law_forms_by pm__law_forms_by an__law_forms_by cd__law_forms_by ct__law_forms_by), sl__law_forms_by⟩)
    (c_f__law_forms_by : PySem.W.codeIn K cd__law_forms_by "_law_forms_by" = true)
    (k_f__law_forms_by : PySem.W.keepIn K (.ref f__law_forms_by) = true)
    (a__law_made : PySem.W.nsIn K mainGlobals "_law_made" = some (some (.ref f__law_made)))
    (l__law_made : K.lookup f__law_made = some ⟨oc__law_made, od__law_made, .func (PySem.W.fnOf "_law_made" "_law_made" (defArgs s__law_made) (defBody s__law_made) (defScope s__law_made) .none kV__law_made dc__law_made pm__law_made an__law_made cd__law_made ct__law_made), sl__law_made⟩)
    (c_f__law_made : PySem.W.codeIn K cd__law_made "_law_made" = true)
    (k_f__law_made : PySem.W.keepIn K (.ref f__law_made) = true)
    (a__law_names : PySem.W.nsIn K mainGlobals "_law_names" = some (some (.ref f__law_names)))
    (l__law_names : K.lookup f__law_names = some ⟨oc__law_names, od__law_names, .func (PySem.W.fnOf "_law_names" "_law_names" (defArgs s__law_names) (defBody s__law_names) (defScope s__law_names) .none kV__law_names dc__law_names pm__law_names an__law_names cd__law_names ct__law_names), sl__law_names⟩)
    (c_f__law_names : PySem.W.codeIn K cd__law_names "_law_names" = true)
    (k_f__law_names : PySem.W.keepIn K (.ref f__law_names) = true)
    (a__law_ready : PySem.W.nsIn K mainGlobals "_law_ready" = some (some (.ref f__law_ready)))
    (l__law_ready : K.lookup f__law_ready = some ⟨oc__law_ready, od__law_ready, .func (PySem.W.fnOf "_law_ready" "_law_ready" (defArgs s__law_ready) (defBody s__law_ready) (defScope s__law_ready) .none kV__law_ready dc__law_ready pm__law_ready an__law_ready cd__law_ready ct__law_ready), sl__law_ready⟩)
    (c_f__law_ready : PySem.W.codeIn K cd__law_ready "_law_ready" = true)
    (k_f__law_ready : PySem.W.keepIn K (.ref f__law_ready) = true)
    (a__law_turned : PySem.W.nsIn K mainGlobals "_law_turned" = some (some (.ref f__law_turned)))
    (l__law_turned : K.lookup f__law_turned = some ⟨oc__law_turned, od__law_turned, .func (PySem.W.fnOf "_law_turned" "_law_turned" (defArgs s__law_turned) (defBody s__law_turned) (defScope s__law_turned) .none kV__law_turned dc__law_turned pm__law_turned an__law_turned cd__law_turned ct__law_turned), sl__law_turned⟩)
    (c_f__law_turned : PySem.W.codeIn K cd__law_turned "_law_turned" = true)
    (k_f__law_turned : PySem.W.keepIn K (.ref f__law_turned) = true)
    (a__law_order : PySem.W.nsIn K mainGlobals "_law_order" = some (some (.ref f__law_order)))
    (l__law_order : K.lookup f__law_order = some ⟨oc__law_order, od__law_order, .func (PySem.W.fnOf "_law_order" "_law_order" (defArgs s__law_order) (defBody s__law_order) (defScope s__law_order) .none kV__law_order dc__law_order pm__law_order an__law_order cd__law_order ct__law_order), sl__law_order⟩)
    (c_f__law_order : PySem.W.codeIn K cd__law_order "_law_order" = true)
    (k_f__law_order : PySem.W.keepIn K (.ref f__law_order) = true)
    (a__law_pieces_by : PySem.W.nsIn K mainGlobals "_law_pieces_by" = some (some (.ref f__law_pieces_by)))
    (l__law_pieces_by : K.lookup f__law_pieces_by = some ⟨oc__law_pieces_by, od__law_pieces_by, .func (PySem.W.fnOf "_law_pieces_by" "_law_pieces_by" (defArgs s__law_pieces_by) (defBody s__law_pieces_by) (defScope s__law_pieces_by) .none kV__law_pieces_by dc__law_pieces_by pm__law_pieces_by an__law_pieces_by cd__law_pieces_by ct__law_pieces_by), sl__law_pieces_by⟩)
    (c_f__law_pieces_by : PySem.W.codeIn K cd__law_pieces_by "_law_pieces_by" = true)
    (k_f__law_pieces_by : PySem.W.keepIn K (.ref f__law_pieces_by) = true)
    (a_law : PySem.W.nsIn K mainGlobals "law" = some (some (.ref f_law)))
    (l_law : K.lookup f_law = some ⟨oc_law, od_law, .func (PySem.W.fnOf "law" "law" (defArgs s_law) (defBody s_law) (defScope s_law) .none kV_law dc_law pm_law an_law cd_law ct_law), sl_law⟩)
    (c_f_law : PySem.W.codeIn K cd_law "law" = true)
    (k_f_law : PySem.W.keepIn K (.ref f_law) = true) :
    ∃ fd : FuncData, (∀ (s : Shared) (v : Value), BindsTo s fd ⟨[v], []⟩ [("_law_script", v)]) ∧ ∀ base : Heap, K.In base → base.Ns mainGlobals mg → ∃ L, FnOk l.prog w K mg base (L2.CX l.prog w) 7 fa fd ["_law_script"] (spOf K L 1 sLawT) := by
  have e := hfa.symm.trans (PySem.W.mg_of X Gn a_law)
  have e' : f_law = fa := by
    cases e
    rfl
  subst e'
  let L : Lay := ⟨fun k => match k with | 3 => C_Hall | 5 => C_Mill | _ => 0, tFl, fun k => match k with | 0 => E_Empty | 3 => E_NoForm | 5 => E_NoName | 6 => E_NoPieces | 7 => E_NoRate | 10 => E_NoWork | 15 => E_TooMuch | 16 => E_Twice | _ => 0⟩
  have D_Hall_init : DefF K i_Hall_init "Hall.__init__" s_Hall_init f_Hall_init _ ["self"] := def0 rfl l_Hall_init c_f_Hall_init k_f_Hall_init fun _ _ _ _ _ _ us hl => match us, hl with | [_], _ => rfl
  have D_Hall_names : DefF K i_Hall_names "Hall.names" s_Hall_names f_Hall_names _ ["self"] := def0 rfl l_Hall_names c_f_Hall_names k_f_Hall_names fun _ _ _ _ _ _ us hl => match us, hl with | [_], _ => rfl
  have D_Hall_belts : DefF K i_Hall_belts "Hall.belts" s_Hall_belts f_Hall_belts _ ["self"] := def0 rfl l_Hall_belts c_f_Hall_belts k_f_Hall_belts fun _ _ _ _ _ _ us hl => match us, hl with | [_], _ => rfl
  have D_Hall_lay : DefF K i_Hall_lay "Hall.lay" s_Hall_lay f_Hall_lay _ ["self", "giver", "taker", "give", "take", "start"] := def0 rfl l_Hall_lay c_f_Hall_lay k_f_Hall_lay fun _ _ _ _ _ _ us hl => match us, hl with | [_, _, _, _, _, _], _ => rfl
  have D_is_name : DefF K i_is_name "is_name" s_is_name f_is_name _ ["thing"] := def0 rfl l_is_name c_f_is_name k_f_is_name fun _ _ _ _ _ _ us hl => match us, hl with | [_], _ => rfl
  have D_Hall_work : DefF K i_Hall_work "Hall.work" s_Hall_work f_Hall_work _ ["self", "name"] := def0 rfl l_Hall_work c_f_Hall_work k_f_Hall_work fun _ _ _ _ _ _ us hl => match us, hl with | [_, _], _ => rfl
  have D_Hall_need : DefF K i_Hall_need "Hall.need" s_Hall_need f_Hall_need _ ["self", "work"] := def0 rfl l_Hall_need c_f_Hall_need k_f_Hall_need fun _ _ _ _ _ _ us hl => match us, hl with | [_, _], _ => rfl
  have D_Hall_leaving : DefF K i_Hall_leaving "Hall.leaving" s_Hall_leaving f_Hall_leaving _ ["self", "work"] := def0 rfl l_Hall_leaving c_f_Hall_leaving k_f_Hall_leaving fun _ _ _ _ _ _ us hl => match us, hl with | [_, _], _ => rfl
  have D_Hall_belt : DefF K i_Hall_belt "Hall.belt" s_Hall_belt f_Hall_belt _ ["self", "giver", "taker", "give", "take", "start"] := def1 rfl l_Hall_belt c_f_Hall_belt k_f_Hall_belt t_Hall_belt (fun _ _ _ _ _ _ _ us its hl hi => match us, its, hl, hi with | [_, _, _, _, _, _], [_], _, _ => ⟨_, rfl, rfl⟩) (fun _ _ _ _ _ _ _ us its hl hi => match us, its, hl, hi with | [_, _, _, _, _], [_], _, _ => ⟨_, rfl, rfl⟩)
  have D_Hall_entering : DefF K i_Hall_entering "Hall.entering" s_Hall_entering f_Hall_entering _ ["self", "work"] := def0 rfl l_Hall_entering c_f_Hall_entering k_f_Hall_entering fun _ _ _ _ _ _ us hl => match us, hl with | [_, _], _ => rfl
  have D_need_work_forms : DefF K i_need_work_forms "need_work_forms" s_need_work_forms f_need_work_forms _ ["hall", "work", "some"] := def0 rfl l_need_work_forms c_f_need_work_forms k_f_need_work_forms fun _ _ _ _ _ _ us hl => match us, hl with | [_, _, _], _ => rfl
  have D_need_forms : DefF K i_need_forms "need_forms" s_need_forms f_need_forms _ ["hall", "forms"] := def0 rfl l_need_forms c_f_need_forms k_f_need_forms fun _ _ _ _ _ _ us hl => match us, hl with | [_, _], _ => rfl
  have D_need_pieces : DefF K i_need_pieces "need_pieces" s_need_pieces f_need_pieces _ ["hall", "pieces"] := def0 rfl l_need_pieces c_f_need_pieces k_f_need_pieces fun _ _ _ _ _ _ us hl => match us, hl with | [_, _], _ => rfl
  have D_Mill_init : DefF K i_Mill_init "Mill.__init__" s_Mill_init f_Mill_init _ ["self", "hall", "forms", "pieces"] := def0 rfl l_Mill_init c_f_Mill_init k_f_Mill_init fun _ _ _ _ _ _ us hl => match us, hl with | [_, _, _, _], _ => rfl
  have D_form_value : DefF K i_form_value "form_value" s_form_value f_form_value _ ["form", "pieces"] := def0 rfl l_form_value c_f_form_value k_f_form_value fun _ _ _ _ _ _ us hl => match us, hl with | [_, _], _ => rfl
  have D_Mill_turn : DefF K i_Mill_turn "Mill.turn" s_Mill_turn f_Mill_turn _ ["self", "work"] := def0 rfl l_Mill_turn c_f_Mill_turn k_f_Mill_turn fun _ _ _ _ _ _ us hl => match us, hl with | [_, _], _ => rfl
  have D_Mill_go : DefF K i_Mill_go "Mill.go" s_Mill_go f_Mill_go _ ["self", "row"] := def0 rfl l_Mill_go c_f_Mill_go k_f_Mill_go fun _ _ _ _ _ _ us hl => match us, hl with | [_, _], _ => rfl
  have D_Mill_lying : DefF K i_Mill_lying "Mill.lying" s_Mill_lying f_Mill_lying _ ["self"] := def0 rfl l_Mill_lying c_f_Mill_lying k_f_Mill_lying fun _ _ _ _ _ _ us hl => match us, hl with | [_], _ => rfl
  have D__law_common : DefF K i__law_common "_law_common" s__law_common f__law_common _ ["_law_one", "_law_other"] := def0 rfl l__law_common c_f__law_common k_f__law_common fun _ _ _ _ _ _ us hl => match us, hl with | [_, _], _ => rfl
  have D__law_belt_by : DefF K i__law_belt_by "_law_belt_by" s__law_belt_by f__law_belt_by _ ["_law_cell", "_law_rates", "_law_top", "_law_ample"] := def0 rfl l__law_belt_by c_f__law_belt_by k_f__law_belt_by fun _ _ _ _ _ _ us hl => match us, hl with | [_, _, _, _], _ => rfl
  have D__law_cell_at : DefF K i__law_cell_at "_law_cell_at" s__law_cell_at f__law_cell_at _ ["_law_script", "_law_k"] := def0 rfl l__law_cell_at c_f__law_cell_at k_f__law_cell_at fun _ _ _ _ _ _ us hl => match us, hl with | [_, _], _ => rfl
  have D__law_form_by : DefF K i__law_form_by "_law_form_by" s__law_form_by f__law_form_by _ ["_law_cell", "_law_slots", "_law_great"] := def0 rfl l__law_form_by c_f__law_form_by k_f__law_form_by fun _ _ _ _ _ _ us hl => match us, hl with | [_, _, _], _ => rfl
  have D__law_forms_by : DefF K i__law_forms_by "_law_forms_by" s__law_forms_by f__law_forms_by _ ["_law_script", "_law_at", "_law_belts", "_law_many", "_law_great"] := def0 rfl l__law_forms_by c_f__law_forms_by k_f__law_forms_by fun _ _ _ _ _ _ us hl => match us, hl with | [_, _, _, _, _], _ => rfl
  have D__law_made : DefF K i__law_made "_law_made" s__law_made f__law_made _ ["_law_names_here", "_law_belts"] := def0 rfl l__law_made c_f__law_made k_f__law_made fun _ _ _ _ _ _ us hl => match us, hl with | [_, _], _ => rfl
  have D__law_names : DefF K i__law_names "_law_names" s__law_names f__law_names _ ["_law_cell", "_law_many"] := def0 rfl l__law_names c_f__law_names k_f__law_names fun _ _ _ _ _ _ us hl => match us, hl with | [_, _], _ => rfl
  have D__law_ready : DefF K i__law_ready "_law_ready" s__law_ready f__law_ready _ ["_law_belts", "_law_lying", "_law_work"] := def0 rfl l__law_ready c_f__law_ready k_f__law_ready fun _ _ _ _ _ _ us hl => match us, hl with | [_, _, _], _ => rfl
  have D__law_turned : DefF K i__law_turned "_law_turned" s__law_turned f__law_turned _ ["_law_belts", "_law_lying", "_law_work"] := def0 rfl l__law_turned c_f__law_turned k_f__law_turned fun _ _ _ _ _ _ us hl => match us, hl with | [_, _, _], _ => rfl
  have D__law_order : DefF K i__law_order "_law_order" s__law_order f__law_order _ ["_law_belts", "_law_counts", "_law_cells"] := def0 rfl l__law_order c_f__law_order k_f__law_order fun _ _ _ _ _ _ us hl => match us, hl with | [_, _, _], _ => rfl
  have D__law_pieces_by : DefF K i__law_pieces_by "_law_pieces_by" s__law_pieces_by f__law_pieces_by _ ["_law_script", "_law_at", "_law_belts"] := def0 rfl l__law_pieces_by c_f__law_pieces_by k_f__law_pieces_by fun _ _ _ _ _ _ us hl => match us, hl with | [_, _, _], _ => rfl
  have D_law : DefF K i_law "law" s_law f_law _ ["_law_script"] := def0 rfl l_law c_f_law k_f_law fun _ _ _ _ _ _ us hl => match us, hl with | [_], _ => rfl
  refine ⟨PySem.W.fnOf "law" "law" (defArgs s_law) (defBody s_law) (defScope s_law) .none kV_law dc_law pm_law an_law cd_law ct_law, fun s v => .of_eq rfl, fun base hK hN => ⟨L, ?_⟩⟩
  have mgo : ∀ {x : Str} {v : Value}, PySem.W.nsIn K mainGlobals x = some (some v) → mg x = some v := fun e => PySem.W.mg_of X Gn e
  have mgn : ∀ {x : Str}, PySem.W.nsIn K mainGlobals x = some none → mg x = none := fun e => PySem.W.mg_none_of X Gn e
  have g0 : GOk G Γ L 0 l.prog w K mg base := by
    refine ⟨fun f i h => absurd h (Nat.not_lt_zero f), fun c i h => ?_, fun x n h => ?_, fun n hn => ?_, fun k y h => ?_, rfl, fun z => Bool.noConfusion z, fun z => Bool.noConfusion z, fun a h n m ea eh => ?_⟩
    · have h' : tCl c = some i := h
      revert h'
      unfold tCl
      split <;> intro h' <;> first | (cases h'; done) | skip
      · cases h'; exact ⟨mgo n_Hall, ⟨pg_Hall, hd_Hall, po_Hall, sa_Hall⟩, mk_Hall, kc_Hall, fun f hf => by
          simp only [G, tFl, List.mem_cons, List.not_mem_nil, or_false] at hf
          rcases hf with rfl | rfl
          · exact na_Hall_called
          · exact na_Hall_lines, by decide +kernel, by decide, _, rfl, rfl, rfl, rfl⟩
      · cases h'; exact ⟨mgo n_Mill, ⟨pg_Mill, hd_Mill, po_Mill, sa_Mill⟩, mk_Mill, kc_Mill, fun f hf => by
          simp only [G, tFl, List.mem_cons, List.not_mem_nil, or_false] at hf
          rcases hf with rfl | rfl | rfl | rfl | rfl
          · exact na_Mill_forms
          · exact na_Mill_ties
          · exact na_Mill_into
          · exact na_Mill_out
          · exact na_Mill_loads, by decide +kernel, by decide, _, rfl, rfl, rfl, rfl⟩
    · have h' : tEx x = some n := h
      revert h'
      unfold tEx
      split <;> intro h' <;> first | (cases h'; done) | skip
      · cases h'; exact ⟨mgo x_Empty, xx_Empty, xk_Empty, xb_Empty, xt_Empty⟩
      · cases h'; exact ⟨mgo x_NoForm, xx_NoForm, xk_NoForm, xb_NoForm, xt_NoForm⟩
      · cases h'; exact ⟨mgo x_NoName, xx_NoName, xk_NoName, xb_NoName, xt_NoName⟩
      · cases h'; exact ⟨mgo x_NoPieces, xx_NoPieces, xk_NoPieces, xb_NoPieces, xt_NoPieces⟩
      · cases h'; exact ⟨mgo x_NoRate, xx_NoRate, xk_NoRate, xb_NoRate, xt_NoRate⟩
      · cases h'; exact ⟨mgo x_NoWork, xx_NoWork, xk_NoWork, xb_NoWork, xt_NoWork⟩
      · cases h'; exact ⟨mgo x_TooMuch, xx_TooMuch, xk_TooMuch, xb_TooMuch, xt_TooMuch⟩
      · cases h'; exact ⟨mgo x_Twice, xx_Twice, xk_Twice, xb_Twice, xt_Twice⟩
    · simp only [blNames, List.mem_cons, List.not_mem_nil, or_false] at hn
      rcases hn with rfl | rfl | rfl | rfl | rfl | rfl | rfl | rfl | rfl | rfl | rfl | rfl | rfl | rfl | rfl | rfl | rfl | rfl | rfl | rfl
      · exact mgn b_len
      · exact mgn b_sum
      · exact mgn b_max
      · exact mgn b_min
      · exact mgn b_list
      · exact mgn b_tuple
      · exact mgn b_sorted
      · exact mgn b_all
      · exact mgn b_any
      · exact mgn b_str
      · exact mgn b_int
      · exact mgn b_bool
      · exact mgn b_dict
      · exact mgn b_isinstance
      · exact mgn b_range
      · exact mgn b_enumerate
      · exact mgn b_zip
      · exact mgn b_reversed
      · exact mgn b_ValueError
      · exact mgn b_set
    · have h' : tCon k = some y := h
      revert h'
      unfold tCon
      split <;> intro h' <;> first | (cases h'; done) | skip
      · cases h'; exact ⟨.str "abcdefghijklmnopqrstuvwxyz", _, mgo g_LETTERS, ⟨_, rfl⟩, fun _ => rfl⟩
      · cases h'; exact ⟨.int 60, _, mgo g_MOST_BELTS, ⟨_, rfl⟩, fun _ => rfl⟩
      · cases h'; exact ⟨.int 30, _, mgo g_MOST_WORKS, ⟨_, rfl⟩, fun _ => rfl⟩
    · rcases tEx_cases ea with rfl | rfl | rfl | rfl | rfl | rfl | rfl | rfl
      · rcases tEx_cases eh with rfl | rfl | rfl | rfl | rfl | rfl | rfl | rfl
        · rw [sx_Empty_Empty]
          exact PySem.W.exm_ref xb_Empty xh_Empty xt_Empty xs_Empty_Empty
        · rw [sx_Empty_NoForm]
          exact PySem.W.exm_ref xb_NoForm xh_NoForm xt_NoForm xs_Empty_NoForm
        · rw [sx_Empty_NoName]
          exact PySem.W.exm_ref xb_NoName xh_NoName xt_NoName xs_Empty_NoName
        · rw [sx_Empty_NoPieces]
          exact PySem.W.exm_ref xb_NoPieces xh_NoPieces xt_NoPieces xs_Empty_NoPieces
        · rw [sx_Empty_NoRate]
          exact PySem.W.exm_ref xb_NoRate xh_NoRate xt_NoRate xs_Empty_NoRate
        · rw [sx_Empty_NoWork]
          exact PySem.W.exm_ref xb_NoWork xh_NoWork xt_NoWork xs_Empty_NoWork
        · rw [sx_Empty_TooMuch]
          exact PySem.W.exm_ref xb_TooMuch xh_TooMuch xt_TooMuch xs_Empty_TooMuch
        · rw [sx_Empty_Twice]
          exact PySem.W.exm_ref xb_Twice xh_Twice xt_Twice xs_Empty_Twice
      · rcases tEx_cases eh with rfl | rfl | rfl | rfl | rfl | rfl | rfl | rfl
        · rw [sx_NoForm_Empty]
          exact PySem.W.exm_ref xb_Empty xh_Empty xt_Empty xs_NoForm_Empty
        · rw [sx_NoForm_NoForm]
          exact PySem.W.exm_ref xb_NoForm xh_NoForm xt_NoForm xs_NoForm_NoForm
        · rw [sx_NoForm_NoName]
          exact PySem.W.exm_ref xb_NoName xh_NoName xt_NoName xs_NoForm_NoName
        · rw [sx_NoForm_NoPieces]
          exact PySem.W.exm_ref xb_NoPieces xh_NoPieces xt_NoPieces xs_NoForm_NoPieces
        · rw [sx_NoForm_NoRate]
          exact PySem.W.exm_ref xb_NoRate xh_NoRate xt_NoRate xs_NoForm_NoRate
        · rw [sx_NoForm_NoWork]
          exact PySem.W.exm_ref xb_NoWork xh_NoWork xt_NoWork xs_NoForm_NoWork
        · rw [sx_NoForm_TooMuch]
          exact PySem.W.exm_ref xb_TooMuch xh_TooMuch xt_TooMuch xs_NoForm_TooMuch
        · rw [sx_NoForm_Twice]
          exact PySem.W.exm_ref xb_Twice xh_Twice xt_Twice xs_NoForm_Twice
      · rcases tEx_cases eh with rfl | rfl | rfl | rfl | rfl | rfl | rfl | rfl
        · rw [sx_NoName_Empty]
          exact PySem.W.exm_ref xb_Empty xh_Empty xt_Empty xs_NoName_Empty
        · rw [sx_NoName_NoForm]
          exact PySem.W.exm_ref xb_NoForm xh_NoForm xt_NoForm xs_NoName_NoForm
        · rw [sx_NoName_NoName]
          exact PySem.W.exm_ref xb_NoName xh_NoName xt_NoName xs_NoName_NoName
        · rw [sx_NoName_NoPieces]
          exact PySem.W.exm_ref xb_NoPieces xh_NoPieces xt_NoPieces xs_NoName_NoPieces
        · rw [sx_NoName_NoRate]
          exact PySem.W.exm_ref xb_NoRate xh_NoRate xt_NoRate xs_NoName_NoRate
        · rw [sx_NoName_NoWork]
          exact PySem.W.exm_ref xb_NoWork xh_NoWork xt_NoWork xs_NoName_NoWork
        · rw [sx_NoName_TooMuch]
          exact PySem.W.exm_ref xb_TooMuch xh_TooMuch xt_TooMuch xs_NoName_TooMuch
        · rw [sx_NoName_Twice]
          exact PySem.W.exm_ref xb_Twice xh_Twice xt_Twice xs_NoName_Twice
      · rcases tEx_cases eh with rfl | rfl | rfl | rfl | rfl | rfl | rfl | rfl
        · rw [sx_NoPieces_Empty]
          exact PySem.W.exm_ref xb_Empty xh_Empty xt_Empty xs_NoPieces_Empty
        · rw [sx_NoPieces_NoForm]
          exact PySem.W.exm_ref xb_NoForm xh_NoForm xt_NoForm xs_NoPieces_NoForm
        · rw [sx_NoPieces_NoName]
          exact PySem.W.exm_ref xb_NoName xh_NoName xt_NoName xs_NoPieces_NoName
        · rw [sx_NoPieces_NoPieces]
          exact PySem.W.exm_ref xb_NoPieces xh_NoPieces xt_NoPieces xs_NoPieces_NoPieces
        · rw [sx_NoPieces_NoRate]
          exact PySem.W.exm_ref xb_NoRate xh_NoRate xt_NoRate xs_NoPieces_NoRate
        · rw [sx_NoPieces_NoWork]
          exact PySem.W.exm_ref xb_NoWork xh_NoWork xt_NoWork xs_NoPieces_NoWork
        · rw [sx_NoPieces_TooMuch]
          exact PySem.W.exm_ref xb_TooMuch xh_TooMuch xt_TooMuch xs_NoPieces_TooMuch
        · rw [sx_NoPieces_Twice]
          exact PySem.W.exm_ref xb_Twice xh_Twice xt_Twice xs_NoPieces_Twice
      · rcases tEx_cases eh with rfl | rfl | rfl | rfl | rfl | rfl | rfl | rfl
        · rw [sx_NoRate_Empty]
          exact PySem.W.exm_ref xb_Empty xh_Empty xt_Empty xs_NoRate_Empty
        · rw [sx_NoRate_NoForm]
          exact PySem.W.exm_ref xb_NoForm xh_NoForm xt_NoForm xs_NoRate_NoForm
        · rw [sx_NoRate_NoName]
          exact PySem.W.exm_ref xb_NoName xh_NoName xt_NoName xs_NoRate_NoName
        · rw [sx_NoRate_NoPieces]
          exact PySem.W.exm_ref xb_NoPieces xh_NoPieces xt_NoPieces xs_NoRate_NoPieces
        · rw [sx_NoRate_NoRate]
          exact PySem.W.exm_ref xb_NoRate xh_NoRate xt_NoRate xs_NoRate_NoRate
        · rw [sx_NoRate_NoWork]
          exact PySem.W.exm_ref xb_NoWork xh_NoWork xt_NoWork xs_NoRate_NoWork
        · rw [sx_NoRate_TooMuch]
          exact PySem.W.exm_ref xb_TooMuch xh_TooMuch xt_TooMuch xs_NoRate_TooMuch
        · rw [sx_NoRate_Twice]
          exact PySem.W.exm_ref xb_Twice xh_Twice xt_Twice xs_NoRate_Twice
      · rcases tEx_cases eh with rfl | rfl | rfl | rfl | rfl | rfl | rfl | rfl
        · rw [sx_NoWork_Empty]
          exact PySem.W.exm_ref xb_Empty xh_Empty xt_Empty xs_NoWork_Empty
        · rw [sx_NoWork_NoForm]
          exact PySem.W.exm_ref xb_NoForm xh_NoForm xt_NoForm xs_NoWork_NoForm
        · rw [sx_NoWork_NoName]
          exact PySem.W.exm_ref xb_NoName xh_NoName xt_NoName xs_NoWork_NoName
        · rw [sx_NoWork_NoPieces]
          exact PySem.W.exm_ref xb_NoPieces xh_NoPieces xt_NoPieces xs_NoWork_NoPieces
        · rw [sx_NoWork_NoRate]
          exact PySem.W.exm_ref xb_NoRate xh_NoRate xt_NoRate xs_NoWork_NoRate
        · rw [sx_NoWork_NoWork]
          exact PySem.W.exm_ref xb_NoWork xh_NoWork xt_NoWork xs_NoWork_NoWork
        · rw [sx_NoWork_TooMuch]
          exact PySem.W.exm_ref xb_TooMuch xh_TooMuch xt_TooMuch xs_NoWork_TooMuch
        · rw [sx_NoWork_Twice]
          exact PySem.W.exm_ref xb_Twice xh_Twice xt_Twice xs_NoWork_Twice
      · rcases tEx_cases eh with rfl | rfl | rfl | rfl | rfl | rfl | rfl | rfl
        · rw [sx_TooMuch_Empty]
          exact PySem.W.exm_ref xb_Empty xh_Empty xt_Empty xs_TooMuch_Empty
        · rw [sx_TooMuch_NoForm]
          exact PySem.W.exm_ref xb_NoForm xh_NoForm xt_NoForm xs_TooMuch_NoForm
        · rw [sx_TooMuch_NoName]
          exact PySem.W.exm_ref xb_NoName xh_NoName xt_NoName xs_TooMuch_NoName
        · rw [sx_TooMuch_NoPieces]
          exact PySem.W.exm_ref xb_NoPieces xh_NoPieces xt_NoPieces xs_TooMuch_NoPieces
        · rw [sx_TooMuch_NoRate]
          exact PySem.W.exm_ref xb_NoRate xh_NoRate xt_NoRate xs_TooMuch_NoRate
        · rw [sx_TooMuch_NoWork]
          exact PySem.W.exm_ref xb_NoWork xh_NoWork xt_NoWork xs_TooMuch_NoWork
        · rw [sx_TooMuch_TooMuch]
          exact PySem.W.exm_ref xb_TooMuch xh_TooMuch xt_TooMuch xs_TooMuch_TooMuch
        · rw [sx_TooMuch_Twice]
          exact PySem.W.exm_ref xb_Twice xh_Twice xt_Twice xs_TooMuch_Twice
      · rcases tEx_cases eh with rfl | rfl | rfl | rfl | rfl | rfl | rfl | rfl
        · rw [sx_Twice_Empty]
          exact PySem.W.exm_ref xb_Empty xh_Empty xt_Empty xs_Twice_Empty
        · rw [sx_Twice_NoForm]
          exact PySem.W.exm_ref xb_NoForm xh_NoForm xt_NoForm xs_Twice_NoForm
        · rw [sx_Twice_NoName]
          exact PySem.W.exm_ref xb_NoName xh_NoName xt_NoName xs_Twice_NoName
        · rw [sx_Twice_NoPieces]
          exact PySem.W.exm_ref xb_NoPieces xh_NoPieces xt_NoPieces xs_Twice_NoPieces
        · rw [sx_Twice_NoRate]
          exact PySem.W.exm_ref xb_NoRate xh_NoRate xt_NoRate xs_Twice_NoRate
        · rw [sx_Twice_NoWork]
          exact PySem.W.exm_ref xb_NoWork xh_NoWork xt_NoWork xs_Twice_NoWork
        · rw [sx_Twice_TooMuch]
          exact PySem.W.exm_ref xb_TooMuch xh_TooMuch xt_TooMuch xs_Twice_TooMuch
        · rw [sx_Twice_Twice]
          exact PySem.W.exm_ref xb_Twice xh_Twice xt_Twice xs_Twice_Twice
  have k0 : GOk G Γ L 7 l.prog w K mg base := skip g0 fun k h1 h2 => skip_0 k h1 h2
  have g1 : GOk G Γ L 8 l.prog w K mg base := step tabOk k0 rfl chk_Hall_init D_Hall_init (body_Hall_init ⟨trivial⟩) (fun h => nomatch h) (fun c h => by cases h; exact ⟨a_Hall_init, i_f_Hall_init, k_f_Hall_init⟩)
  have k1 : GOk G Γ L 9 l.prog w K mg base := skip g1 fun k h1 h2 => skip_1 k h1 h2
  have g2 : GOk G Γ L 10 l.prog w K mg base := step tabOk k1 rfl chk_Hall_names D_Hall_names (body_Hall_names ⟨trivial⟩) (fun h => nomatch h) (fun c h => by cases h; exact ⟨a_Hall_names, i_f_Hall_names, k_f_Hall_names⟩)
  have g3 : GOk G Γ L 11 l.prog w K mg base := step tabOk g2 rfl chk_Hall_belts D_Hall_belts (body_Hall_belts ⟨trivial⟩) (fun h => nomatch h) (fun c h => by cases h; exact ⟨a_Hall_belts, i_f_Hall_belts, k_f_Hall_belts⟩)
  have k3 : GOk G Γ L 29 l.prog w K mg base := skip g3 fun k h1 h2 => skip_3 k h1 h2
  have g4 : GOk G Γ L 30 l.prog w K mg base := step tabOk k3 rfl chk_Hall_lay D_Hall_lay (body_Hall_lay ⟨trivial⟩) (fun h => nomatch h) (fun c h => by cases h; exact ⟨a_Hall_lay, i_f_Hall_lay, k_f_Hall_lay⟩)
  have g5 : GOk G Γ L 31 l.prog w K mg base := step tabOk g4 rfl chk_is_name D_is_name (body_is_name ⟨rfl⟩) (fun _ => mgo a_is_name) (fun _ h => nomatch h)
  have g6 : GOk G Γ L 32 l.prog w K mg base := step tabOk g5 rfl chk_Hall_work D_Hall_work (body_Hall_work ⟨rfl, rfl, rfl⟩) (fun h => nomatch h) (fun c h => by cases h; exact ⟨a_Hall_work, i_f_Hall_work, k_f_Hall_work⟩)
  have k6 : GOk G Γ L 43 l.prog w K mg base := skip g6 fun k h1 h2 => skip_6 k h1 h2
  have g7 : GOk G Γ L 44 l.prog w K mg base := step tabOk k6 rfl chk_Hall_need D_Hall_need (body_Hall_need ⟨trivial⟩) (fun h => nomatch h) (fun c h => by cases h; exact ⟨a_Hall_need, i_f_Hall_need, k_f_Hall_need⟩)
  have g8 : GOk G Γ L 45 l.prog w K mg base := step tabOk g7 rfl chk_Hall_leaving D_Hall_leaving (body_Hall_leaving ⟨rfl, rfl⟩) (fun h => nomatch h) (fun c h => by cases h; exact ⟨a_Hall_leaving, i_f_Hall_leaving, k_f_Hall_leaving⟩)
  have k8 : GOk G Γ L 56 l.prog w K mg base := skip g8 fun k h1 h2 => skip_8 k h1 h2
  have g9 : GOk G Γ L 57 l.prog w K mg base := step tabOk k8 rfl chk_Hall_belt D_Hall_belt (body_Hall_belt ⟨rfl, rfl, rfl, rfl, rfl⟩) (fun h => nomatch h) (fun c h => by cases h; exact ⟨a_Hall_belt, i_f_Hall_belt, k_f_Hall_belt⟩)
  have k9 : GOk G Γ L 66 l.prog w K mg base := skip g9 fun k h1 h2 => skip_9 k h1 h2
  have g10 : GOk G Γ L 67 l.prog w K mg base := step tabOk k9 rfl chk_Hall_entering D_Hall_entering (body_Hall_entering ⟨rfl, rfl⟩) (fun h => nomatch h) (fun c h => by cases h; exact ⟨a_Hall_entering, i_f_Hall_entering, k_f_Hall_entering⟩)
  have g11 : GOk G Γ L 68 l.prog w K mg base := step tabOk g10 rfl chk_need_work_forms D_need_work_forms (body_need_work_forms ⟨rfl, rfl, rfl, rfl, rfl, rfl⟩) (fun _ => mgo a_need_work_forms) (fun _ h => nomatch h)
  have k11 : GOk G Γ L 77 l.prog w K mg base := skip g11 fun k h1 h2 => skip_11 k h1 h2
  have g12 : GOk G Γ L 78 l.prog w K mg base := step tabOk k11 rfl chk_need_forms D_need_forms (body_need_forms ⟨rfl, rfl, rfl, rfl⟩) (fun _ => mgo a_need_forms) (fun _ h => nomatch h)
  have k12 : GOk G Γ L 83 l.prog w K mg base := skip g12 fun k h1 h2 => skip_12 k h1 h2
  have g13 : GOk G Γ L 84 l.prog w K mg base := step tabOk k12 rfl chk_need_pieces D_need_pieces (body_need_pieces ⟨rfl, rfl⟩) (fun _ => mgo a_need_pieces) (fun _ h => nomatch h)
  have k13 : GOk G Γ L 94 l.prog w K mg base := skip g13 fun k h1 h2 => skip_13 k h1 h2
  have g14 : GOk G Γ L 95 l.prog w K mg base := step tabOk k13 rfl chk_Mill_init D_Mill_init (body_Mill_init ⟨rfl, rfl, rfl, rfl, rfl, rfl, rfl, rfl, rfl, rfl⟩) (fun h => nomatch h) (fun c h => by cases h; exact ⟨a_Mill_init, i_f_Mill_init, k_f_Mill_init⟩)
  have g15 : GOk G Γ L 96 l.prog w K mg base := step tabOk g14 rfl chk_form_value D_form_value (body_form_value ⟨trivial⟩) (fun _ => mgo a_form_value) (fun _ h => nomatch h)
  have g16 : GOk G Γ L 97 l.prog w K mg base := step tabOk g15 rfl chk_Mill_turn D_Mill_turn (body_Mill_turn ⟨rfl, rfl⟩) (fun h => nomatch h) (fun c h => by cases h; exact ⟨a_Mill_turn, i_f_Mill_turn, k_f_Mill_turn⟩)
  have g17 : GOk G Γ L 98 l.prog w K mg base := step tabOk g16 rfl chk_Mill_go D_Mill_go (body_Mill_go ⟨rfl, rfl, rfl, rfl, rfl, rfl, rfl, rfl, rfl, rfl⟩) (fun h => nomatch h) (fun c h => by cases h; exact ⟨a_Mill_go, i_f_Mill_go, k_f_Mill_go⟩)
  have g18 : GOk G Γ L 99 l.prog w K mg base := step tabOk g17 rfl chk_Mill_lying D_Mill_lying (body_Mill_lying ⟨trivial⟩) (fun h => nomatch h) (fun c h => by cases h; exact ⟨a_Mill_lying, i_f_Mill_lying, k_f_Mill_lying⟩)
  have k18 : GOk G Γ L 1000 l.prog w K mg base := skip g18 fun k h1 h2 => skip_18 k h1 h2
  have g19 : GOk G Γ L 1001 l.prog w K mg base := step tabOk k18 rfl chk__law_common D__law_common (body__law_common ⟨trivial⟩) (fun _ => mgo a__law_common) (fun _ h => nomatch h)
  have g20 : GOk G Γ L 1002 l.prog w K mg base := step tabOk g19 rfl chk__law_belt_by D__law_belt_by (body__law_belt_by ⟨rfl, rfl⟩) (fun _ => mgo a__law_belt_by) (fun _ h => nomatch h)
  have g21 : GOk G Γ L 1003 l.prog w K mg base := step tabOk g20 rfl chk__law_cell_at D__law_cell_at (body__law_cell_at ⟨trivial⟩) (fun _ => mgo a__law_cell_at) (fun _ h => nomatch h)
  have g22 : GOk G Γ L 1004 l.prog w K mg base := step tabOk g21 rfl chk__law_form_by D__law_form_by (body__law_form_by ⟨trivial⟩) (fun _ => mgo a__law_form_by) (fun _ h => nomatch h)
  have g23 : GOk G Γ L 1005 l.prog w K mg base := step tabOk g22 rfl chk__law_forms_by D__law_forms_by (body__law_forms_by ⟨rfl, rfl, rfl, rfl⟩) (fun _ => mgo a__law_forms_by) (fun _ h => nomatch h)
  have g24 : GOk G Γ L 1006 l.prog w K mg base := step tabOk g23 rfl chk__law_made D__law_made (body__law_made ⟨rfl, rfl, rfl, rfl, rfl, rfl, rfl⟩) (fun _ => mgo a__law_made) (fun _ h => nomatch h)
  have g25 : GOk G Γ L 1007 l.prog w K mg base := step tabOk g24 rfl chk__law_names D__law_names (body__law_names ⟨trivial⟩) (fun _ => mgo a__law_names) (fun _ h => nomatch h)
  have g26 : GOk G Γ L 1008 l.prog w K mg base := step tabOk g25 rfl chk__law_ready D__law_ready (body__law_ready ⟨trivial⟩) (fun _ => mgo a__law_ready) (fun _ h => nomatch h)
  have g27 : GOk G Γ L 1009 l.prog w K mg base := step tabOk g26 rfl chk__law_turned D__law_turned (body__law_turned ⟨trivial⟩) (fun _ => mgo a__law_turned) (fun _ h => nomatch h)
  have g28 : GOk G Γ L 1010 l.prog w K mg base := step tabOk g27 rfl chk__law_order D__law_order (body__law_order ⟨rfl, rfl, rfl, rfl, rfl, rfl⟩) (fun _ => mgo a__law_order) (fun _ h => nomatch h)
  have g29 : GOk G Γ L 1011 l.prog w K mg base := step tabOk g28 rfl chk__law_pieces_by D__law_pieces_by (body__law_pieces_by ⟨rfl, rfl⟩) (fun _ => mgo a__law_pieces_by) (fun _ h => nomatch h)
  exact fn_okD tabOk.hcl tabOk.hfl l_law c_f_law chk_law.S chk_law.np chk_law.ck g29 (body_law ⟨rfl, rfl, rfl, rfl, rfl, rfl, rfl, rfl, rfl, rfl, rfl, rfl, rfl, rfl, rfl, rfl, rfl, rfl, rfl, rfl, rfl, rfl, rfl⟩)

end Lw
theorem PySem.Challenge.cw_ratehall_k36_whole_any_order_same_pieces_holds : PySem.Challenge.rw_ratehall_k36_whole_any_order_same_pieces.Holds := by
  w_on; o_law; k_head; (case hw => w_witness2)
  k_fill
  refine Rh.walkT (l := PySem.Challenge.rw_ratehall_k36_whole_any_order_same_pieces) (k := 7) (x := "_law_script") rfl rfl ⟨rfl, by decide, by decide⟩ (fun w h Y => PySem.W.kIn_of Y) ?F
  case F =>
    intro w mg fa h KX G hmg
    refine' Lw.all_mk KX G hmg ?n_Hall ?pg_Hall ?hd_Hall ?po_Hall ?sa_Hall ?mk_Hall ?kc_Hall ?na_Hall_called ?na_Hall_lines ?n_Mill ?pg_Mill ?hd_Mill ?po_Mill ?sa_Mill ?mk_Mill ?kc_Mill ?na_Mill_forms ?na_Mill_ties ?na_Mill_into ?na_Mill_out ?na_Mill_loads ?x_Empty ?xx_Empty ?xk_Empty ?xb_Empty ?xh_Empty ?xt_Empty ?x_NoForm ?xx_NoForm ?xk_NoForm ?xb_NoForm ?xh_NoForm ?xt_NoForm ?x_NoName ?xx_NoName ?xk_NoName ?xb_NoName ?xh_NoName ?xt_NoName ?x_NoPieces ?xx_NoPieces ?xk_NoPieces ?xb_NoPieces ?xh_NoPieces ?xt_NoPieces ?x_NoRate ?xx_NoRate ?xk_NoRate ?xb_NoRate ?xh_NoRate ?xt_NoRate ?x_NoWork ?xx_NoWork ?xk_NoWork ?xb_NoWork ?xh_NoWork ?xt_NoWork ?x_TooMuch ?xx_TooMuch ?xk_TooMuch ?xb_TooMuch ?xh_TooMuch ?xt_TooMuch ?x_Twice ?xx_Twice ?xk_Twice ?xb_Twice ?xh_Twice ?xt_Twice ?xs_Empty_Empty ?xs_Empty_NoForm ?xs_Empty_NoName ?xs_Empty_NoPieces ?xs_Empty_NoRate ?xs_Empty_NoWork ?xs_Empty_TooMuch ?xs_Empty_Twice ?xs_NoForm_Empty ?xs_NoForm_NoForm ?xs_NoForm_NoName ?xs_NoForm_NoPieces ?xs_NoForm_NoRate ?xs_NoForm_NoWork ?xs_NoForm_TooMuch ?xs_NoForm_Twice ?xs_NoName_Empty ?xs_NoName_NoForm ?xs_NoName_NoName ?xs_NoName_NoPieces ?xs_NoName_NoRate ?xs_NoName_NoWork ?xs_NoName_TooMuch ?xs_NoName_Twice ?xs_NoPieces_Empty ?xs_NoPieces_NoForm ?xs_NoPieces_NoName ?xs_NoPieces_NoPieces ?xs_NoPieces_NoRate ?xs_NoPieces_NoWork ?xs_NoPieces_TooMuch ?xs_NoPieces_Twice ?xs_NoRate_Empty ?xs_NoRate_NoForm ?xs_NoRate_NoName ?xs_NoRate_NoPieces ?xs_NoRate_NoRate ?xs_NoRate_NoWork ?xs_NoRate_TooMuch ?xs_NoRate_Twice ?xs_NoWork_Empty ?xs_NoWork_NoForm ?xs_NoWork_NoName ?xs_NoWork_NoPieces ?xs_NoWork_NoRate ?xs_NoWork_NoWork ?xs_NoWork_TooMuch ?xs_NoWork_Twice ?xs_TooMuch_Empty ?xs_TooMuch_NoForm ?xs_TooMuch_NoName ?xs_TooMuch_NoPieces ?xs_TooMuch_NoRate ?xs_TooMuch_NoWork ?xs_TooMuch_TooMuch ?xs_TooMuch_Twice ?xs_Twice_Empty ?xs_Twice_NoForm ?xs_Twice_NoName ?xs_Twice_NoPieces ?xs_Twice_NoRate ?xs_Twice_NoWork ?xs_Twice_TooMuch ?xs_Twice_Twice ?g_LETTERS ?g_MOST_BELTS ?g_MOST_WORKS ?b_len ?b_sum ?b_max ?b_min ?b_list ?b_tuple ?b_sorted ?b_all ?b_any ?b_str ?b_int ?b_bool ?b_dict ?b_isinstance ?b_range ?b_enumerate ?b_zip ?b_reversed ?b_ValueError ?b_set ?a_Hall_init ?i_f_Hall_init ?l_Hall_init ?c_f_Hall_init ?k_f_Hall_init ?a_Hall_names ?i_f_Hall_names ?l_Hall_names ?c_f_Hall_names ?k_f_Hall_names ?a_Hall_belts ?i_f_Hall_belts ?l_Hall_belts ?c_f_Hall_belts ?k_f_Hall_belts ?a_Hall_lay ?i_f_Hall_lay ?l_Hall_lay ?c_f_Hall_lay ?k_f_Hall_lay ?a_is_name ?l_is_name ?c_f_is_name ?k_f_is_name ?a_Hall_work ?i_f_Hall_work ?l_Hall_work ?c_f_Hall_work ?k_f_Hall_work ?a_Hall_need ?i_f_Hall_need ?l_Hall_need ?c_f_Hall_need ?k_f_Hall_need ?a_Hall_leaving ?i_f_Hall_leaving ?l_Hall_leaving ?c_f_Hall_leaving ?k_f_Hall_leaving ?a_Hall_belt ?i_f_Hall_belt ?l_Hall_belt ?c_f_Hall_belt ?k_f_Hall_belt ?t_Hall_belt ?a_Hall_entering ?i_f_Hall_entering ?l_Hall_entering ?c_f_Hall_entering ?k_f_Hall_entering ?a_need_work_forms ?l_need_work_forms ?c_f_need_work_forms ?k_f_need_work_forms ?a_need_forms ?l_need_forms ?c_f_need_forms ?k_f_need_forms ?a_need_pieces ?l_need_pieces ?c_f_need_pieces ?k_f_need_pieces ?a_Mill_init ?i_f_Mill_init ?l_Mill_init ?c_f_Mill_init ?k_f_Mill_init ?a_form_value ?l_form_value ?c_f_form_value ?k_f_form_value ?a_Mill_turn ?i_f_Mill_turn ?l_Mill_turn ?c_f_Mill_turn ?k_f_Mill_turn ?a_Mill_go ?i_f_Mill_go ?l_Mill_go ?c_f_Mill_go ?k_f_Mill_go ?a_Mill_lying ?i_f_Mill_lying ?l_Mill_lying ?c_f_Mill_lying ?k_f_Mill_lying ?a__law_common ?l__law_common ?c_f__law_common ?k_f__law_common ?a__law_belt_by ?l__law_belt_by ?c_f__law_belt_by ?k_f__law_belt_by ?a__law_cell_at ?l__law_cell_at ?c_f__law_cell_at ?k_f__law_cell_at ?a__law_form_by ?l__law_form_by ?c_f__law_form_by ?k_f__law_form_by ?a__law_forms_by ?l__law_forms_by ?c_f__law_forms_by ?k_f__law_forms_by ?a__law_made ?l__law_made ?c_f__law_made ?k_f__law_made ?a__law_names ?l__law_names ?c_f__law_names ?k_f__law_names ?a__law_ready ?l__law_ready ?c_f__law_ready ?k_f__law_ready ?a__law_turned ?l__law_turned ?c_f__law_turned ?k_f__law_turned ?a__law_order ?l__law_order ?c_f__law_order ?k_f__law_order ?a__law_pieces_by ?l__law_pieces_by ?c_f__law_pieces_by ?k_f__law_pieces_by ?a_law ?l_law ?c_f_law ?k_f_law
    (case n_Hall => k_is)
    (case pg_Hall => k_is)
    (case hd_Hall => k_is)
    (case po_Hall => k_is)
    (case sa_Hall => k_is)
    (case mk_Hall => k_is)
    (case kc_Hall => k_is)
    (case na_Hall_called => k_is)
    (case na_Hall_lines => k_is)
    (case n_Mill => k_is)
    (case pg_Mill => k_is)
    (case hd_Mill => k_is)
    (case po_Mill => k_is)
    (case sa_Mill => k_is)
    (case mk_Mill => k_is)
    (case kc_Mill => k_is)
    (case na_Mill_forms => k_is)
    (case na_Mill_ties => k_is)
    (case na_Mill_into => k_is)
    (case na_Mill_out => k_is)
    (case na_Mill_loads => k_is)
    (case x_Empty => k_is)
    (case xx_Empty => k_exc)
    (case xk_Empty => k_is)
    (case xb_Empty => k_is)
    (case xh_Empty => k_is)
    (case xt_Empty => k_is)
    (case x_NoForm => k_is)
    (case xx_NoForm => k_exc)
    (case xk_NoForm => k_is)
    (case xb_NoForm => k_is)
    (case xh_NoForm => k_is)
    (case xt_NoForm => k_is)
    (case x_NoName => k_is)
    (case xx_NoName => k_exc)
    (case xk_NoName => k_is)
    (case xb_NoName => k_is)
    (case xh_NoName => k_is)
    (case xt_NoName => k_is)
    (case x_NoPieces => k_is)
    (case xx_NoPieces => k_exc)
    (case xk_NoPieces => k_is)
    (case xb_NoPieces => k_is)
    (case xh_NoPieces => k_is)
    (case xt_NoPieces => k_is)
    (case x_NoRate => k_is)
    (case xx_NoRate => k_exc)
    (case xk_NoRate => k_is)
    (case xb_NoRate => k_is)
    (case xh_NoRate => k_is)
    (case xt_NoRate => k_is)
    (case x_NoWork => k_is)
    (case xx_NoWork => k_exc)
    (case xk_NoWork => k_is)
    (case xb_NoWork => k_is)
    (case xh_NoWork => k_is)
    (case xt_NoWork => k_is)
    (case x_TooMuch => k_is)
    (case xx_TooMuch => k_exc)
    (case xk_TooMuch => k_is)
    (case xb_TooMuch => k_is)
    (case xh_TooMuch => k_is)
    (case xt_TooMuch => k_is)
    (case x_Twice => k_is)
    (case xx_Twice => k_exc)
    (case xk_Twice => k_is)
    (case xb_Twice => k_is)
    (case xh_Twice => k_is)
    (case xt_Twice => k_is)
    (case xs_Empty_Empty => k_is)
    (case xs_Empty_NoForm => k_is)
    (case xs_Empty_NoName => k_is)
    (case xs_Empty_NoPieces => k_is)
    (case xs_Empty_NoRate => k_is)
    (case xs_Empty_NoWork => k_is)
    (case xs_Empty_TooMuch => k_is)
    (case xs_Empty_Twice => k_is)
    (case xs_NoForm_Empty => k_is)
    (case xs_NoForm_NoForm => k_is)
    (case xs_NoForm_NoName => k_is)
    (case xs_NoForm_NoPieces => k_is)
    (case xs_NoForm_NoRate => k_is)
    (case xs_NoForm_NoWork => k_is)
    (case xs_NoForm_TooMuch => k_is)
    (case xs_NoForm_Twice => k_is)
    (case xs_NoName_Empty => k_is)
    (case xs_NoName_NoForm => k_is)
    (case xs_NoName_NoName => k_is)
    (case xs_NoName_NoPieces => k_is)
    (case xs_NoName_NoRate => k_is)
    (case xs_NoName_NoWork => k_is)
    (case xs_NoName_TooMuch => k_is)
    (case xs_NoName_Twice => k_is)
    (case xs_NoPieces_Empty => k_is)
    (case xs_NoPieces_NoForm => k_is)
    (case xs_NoPieces_NoName => k_is)
    (case xs_NoPieces_NoPieces => k_is)
    (case xs_NoPieces_NoRate => k_is)
    (case xs_NoPieces_NoWork => k_is)
    (case xs_NoPieces_TooMuch => k_is)
    (case xs_NoPieces_Twice => k_is)
    (case xs_NoRate_Empty => k_is)
    (case xs_NoRate_NoForm => k_is)
    (case xs_NoRate_NoName => k_is)
    (case xs_NoRate_NoPieces => k_is)
    (case xs_NoRate_NoRate => k_is)
    (case xs_NoRate_NoWork => k_is)
    (case xs_NoRate_TooMuch => k_is)
    (case xs_NoRate_Twice => k_is)
    (case xs_NoWork_Empty => k_is)
    (case xs_NoWork_NoForm => k_is)
    (case xs_NoWork_NoName => k_is)
    (case xs_NoWork_NoPieces => k_is)
    (case xs_NoWork_NoRate => k_is)
    (case xs_NoWork_NoWork => k_is)
    (case xs_NoWork_TooMuch => k_is)
    (case xs_NoWork_Twice => k_is)
    (case xs_TooMuch_Empty => k_is)
    (case xs_TooMuch_NoForm => k_is)
    (case xs_TooMuch_NoName => k_is)
    (case xs_TooMuch_NoPieces => k_is)
    (case xs_TooMuch_NoRate => k_is)
    (case xs_TooMuch_NoWork => k_is)
    (case xs_TooMuch_TooMuch => k_is)
    (case xs_TooMuch_Twice => k_is)
    (case xs_Twice_Empty => k_is)
    (case xs_Twice_NoForm => k_is)
    (case xs_Twice_NoName => k_is)
    (case xs_Twice_NoPieces => k_is)
    (case xs_Twice_NoRate => k_is)
    (case xs_Twice_NoWork => k_is)
    (case xs_Twice_TooMuch => k_is)
    (case xs_Twice_Twice => k_is)
    (case g_LETTERS => k_is)
    (case g_MOST_BELTS => k_is)
    (case g_MOST_WORKS => k_is)
    (case b_len => k_is)
    (case b_sum => k_is)
    (case b_max => k_is)
    (case b_min => k_is)
    (case b_list => k_is)
    (case b_tuple => k_is)
    (case b_sorted => k_is)
    (case b_all => k_is)
    (case b_any => k_is)
    (case b_str => k_is)
    (case b_int => k_is)
    (case b_bool => k_is)
    (case b_dict => k_is)
    (case b_isinstance => k_is)
    (case b_range => k_is)
    (case b_enumerate => k_is)
    (case b_zip => k_is)
    (case b_reversed => k_is)
    (case b_ValueError => k_is)
    (case b_set => k_is)
    (case a_Hall_init => k_is)
    (case i_f_Hall_init => k_is)
    (case l_Hall_init => k_is)
    (case c_f_Hall_init => k_is)
    (case k_f_Hall_init => k_is)
    (case a_Hall_names => k_is)
    (case i_f_Hall_names => k_is)
    (case l_Hall_names => k_is)
    (case c_f_Hall_names => k_is)
    (case k_f_Hall_names => k_is)
    (case a_Hall_belts => k_is)
    (case i_f_Hall_belts => k_is)
    (case l_Hall_belts => k_is)
    (case c_f_Hall_belts => k_is)
    (case k_f_Hall_belts => k_is)
    (case a_Hall_lay => k_is)
    (case i_f_Hall_lay => k_is)
    (case l_Hall_lay => k_is)
    (case c_f_Hall_lay => k_is)
    (case k_f_Hall_lay => k_is)
    (case a_is_name => k_is)
    (case l_is_name => k_is)
    (case c_f_is_name => k_is)
    (case k_f_is_name => k_is)
    (case a_Hall_work => k_is)
    (case i_f_Hall_work => k_is)
    (case l_Hall_work => k_is)
    (case c_f_Hall_work => k_is)
    (case k_f_Hall_work => k_is)
    (case a_Hall_need => k_is)
    (case i_f_Hall_need => k_is)
    (case l_Hall_need => k_is)
    (case c_f_Hall_need => k_is)
    (case k_f_Hall_need => k_is)
    (case a_Hall_leaving => k_is)
    (case i_f_Hall_leaving => k_is)
    (case l_Hall_leaving => k_is)
    (case c_f_Hall_leaving => k_is)
    (case k_f_Hall_leaving => k_is)
    (case a_Hall_belt => k_is)
    (case i_f_Hall_belt => k_is)
    (case l_Hall_belt => k_is)
    (case c_f_Hall_belt => k_is)
    (case k_f_Hall_belt => k_is)
    (case t_Hall_belt => k_is)
    (case a_Hall_entering => k_is)
    (case i_f_Hall_entering => k_is)
    (case l_Hall_entering => k_is)
    (case c_f_Hall_entering => k_is)
    (case k_f_Hall_entering => k_is)
    (case a_need_work_forms => k_is)
    (case l_need_work_forms => k_is)
    (case c_f_need_work_forms => k_is)
    (case k_f_need_work_forms => k_is)
    (case a_need_forms => k_is)
    (case l_need_forms => k_is)
    (case c_f_need_forms => k_is)
    (case k_f_need_forms => k_is)
    (case a_need_pieces => k_is)
    (case l_need_pieces => k_is)
    (case c_f_need_pieces => k_is)
    (case k_f_need_pieces => k_is)
    (case a_Mill_init => k_is)
    (case i_f_Mill_init => k_is)
    (case l_Mill_init => k_is)
    (case c_f_Mill_init => k_is)
    (case k_f_Mill_init => k_is)
    (case a_form_value => k_is)
    (case l_form_value => k_is)
    (case c_f_form_value => k_is)
    (case k_f_form_value => k_is)
    (case a_Mill_turn => k_is)
    (case i_f_Mill_turn => k_is)
    (case l_Mill_turn => k_is)
    (case c_f_Mill_turn => k_is)
    (case k_f_Mill_turn => k_is)
    (case a_Mill_go => k_is)
    (case i_f_Mill_go => k_is)
    (case l_Mill_go => k_is)
    (case c_f_Mill_go => k_is)
    (case k_f_Mill_go => k_is)
    (case a_Mill_lying => k_is)
    (case i_f_Mill_lying => k_is)
    (case l_Mill_lying => k_is)
    (case c_f_Mill_lying => k_is)
    (case k_f_Mill_lying => k_is)
    (case a__law_common => k_is)
    (case l__law_common => k_is)
    (case c_f__law_common => k_is)
    (case k_f__law_common => k_is)
    (case a__law_belt_by => k_is)
    (case l__law_belt_by => k_is)
    (case c_f__law_belt_by => k_is)
    (case k_f__law_belt_by => k_is)
    (case a__law_cell_at => k_is)
    (case l__law_cell_at => k_is)
    (case c_f__law_cell_at => k_is)
    (case k_f__law_cell_at => k_is)
    (case a__law_form_by => k_is)
    (case l__law_form_by => k_is)
    (case c_f__law_form_by => k_is)
    (case k_f__law_form_by => k_is)
    (case a__law_forms_by => k_is)
    (case l__law_forms_by => k_is)
    (case c_f__law_forms_by => k_is)
    (case k_f__law_forms_by => k_is)
    (case a__law_made => k_is)
    (case l__law_made => k_is)
    (case c_f__law_made => k_is)
    (case k_f__law_made => k_is)
    (case a__law_names => k_is)
    (case l__law_names => k_is)
    (case c_f__law_names => k_is)
    (case k_f__law_names => k_is)
    (case a__law_ready => k_is)
    (case l__law_ready => k_is)
    (case c_f__law_ready => k_is)
    (case k_f__law_ready => k_is)
    (case a__law_turned => k_is)
    (case l__law_turned => k_is)
    (case c_f__law_turned => k_is)
    (case k_f__law_turned => k_is)
    (case a__law_order => k_is)
    (case l__law_order => k_is)
    (case c_f__law_order => k_is)
    (case k_f__law_order => k_is)
    (case a__law_pieces_by => k_is)
    (case l__law_pieces_by => k_is)
    (case c_f__law_pieces_by => k_is)
    (case k_f__law_pieces_by => k_is)
    (case a_law => k_is)
    (case l_law => k_is)
    (case c_f_law => k_is)
    (case k_f_law => k_is)
