import PyProof.Rows.All
import Wide.All
import OpenK.AllK
import Wide.FinOn
import HandS.ForMost
import HandS.Exc
import HandS.TryOnly
import HandS.TryMany
import HandS.ExcOwn
import HandS.WordsExc
import HandS.CallSlots
import HandS.Wide
import HandS.SortInts
import HandS.IsInst
import HandS.Zip
import HandS.Flow
import HandS.Deep
import HandS.TupMul
import HandS.Style
import HandS.More
import HandS.SetFor
import HandS.Text
import HandS.Flt
import HandS.ExcIs
import HandS.Codes
import HandS.Conv
import HandS.Rev
import HandS.EndBits
import HandS.Defaults
import PySem.Challenge.RW_ratehall_k16_backed_halls
set_option Elab.async false
set_option linter.all false
set_option maxRecDepth 100000
set_option maxHeartbeats 4000000
namespace Rh
open PySem PySem.Spec PyProof.Rows L2

/-! ## 1. Values without a heap, and a store of the things that change -/
inductive T where
  | non | bl (b : Bool) | int (i : Int) | str (s : Str)
  | tup (ts : List T) | lst (ts : List T) | scr (ts : List T) | own (p : Addr)

inductive Ob where
  | lst (ts : List T) | dict (kvs : List (Key × T)) | obj (c : Nat) (ts : List T)
abbrev Sto := Addr → Option Ob
def Sto.set (μ : Sto) (p : Addr) (o : Ob) : Sto := fun q => if q = p then some o else μ q
theorem Sto.set_same {μ : Sto} {p : Addr} {o : Ob} : μ.set p o p = some o := if_pos rfl
theorem Sto.set_ne {μ : Sto} {p q : Addr} {o : Ob} (h : q ≠ p) : μ.set p o q = μ q := if_neg h
theorem Sto.set_set {μ : Sto} {p : Addr} {o u : Ob} : (μ.set p o).set p u = μ.set p u := by
  funext q
  unfold Sto.set
  split <;> rfl
/-- the one store within the other -/
def Sub (μ' μ : Sto) : Prop := ∀ p o, μ' p = some o → μ p = some o
theorem Sub.refl (μ : Sto) : Sub μ μ := fun _ _ h => h
theorem Sub.trans {a b c : Sto} (h : Sub a b) (k : Sub b c) : Sub a c := fun p o e => k p o (h p o e)
abbrev Ro := List (Option T)
abbrev RP := T → Sto → Prop
abbrev XP := Nat → Sto → Prop

/-- where classes stand, and their fields in the order in which they come to be -/
structure Lay where
  addr : Nat → Addr
  flds : Nat → List Str
  exc : Nat → Addr

/-! ## 2. What a value is worth in a heap that does not change -/
mutual
def Tr (K : PySem.W.Frag) (B : Hp) : V → T → Prop
  | v, .non => v = .non
  | v, .bl b => v = .bl b
  | v, .int i => v = .int i
  | v, .str s => v = .str s
  | v, .tup ts => ∃ a vs, v = .ref a ∧ SqT K B a vs ∧ Trs K B vs ts
  | v, .lst ts => ∃ a vs, v = .ref a ∧ B a = some (.lst vs) ∧ Trs K B vs ts
  | v, .scr ts => ∃ a vs, v = .ref a ∧ SqL K B a vs ∧ Trs K B vs ts
  | v, .own p => v = .ref p
def Trs (K : PySem.W.Frag) (B : Hp) : List V → List T → Prop
  | vs, [] => vs = []
  | vs, t :: ts => ∃ v r, vs = v :: r ∧ Tr K B v t ∧ Trs K B r ts
end
abbrev Le (B B' : Hp) : Prop := Same B B'
section
variable {K : PySem.W.Frag} {B B' H H' : Hp}
theorem Le.seqT {a : Addr} {xs : List V} (e : Le B B') (h : SqT K B a xs) : SqT K B' a xs := by
  rcases h with (h | ⟨o, h⟩) | h
  · exact .inl (.inl (e _ _ h))
  · exact .inl (.inr ⟨o, e _ _ h⟩)
  · exact .inr h
mutual
theorem Tr.mono (e : Le B B') : ∀ {t : T} {v : V}, Tr K B v t → Tr K B' v t
  | .non, _, h => h
  | .bl _, _, h => h
  | .int _, _, h => h
  | .str _, _, h => h
  | .tup _, _, ⟨a, vs, e1, h1, h2⟩ => ⟨a, vs, e1, e.seqT h1, Trs.mono e h2⟩
  | .lst _, _, ⟨a, vs, e1, h1, h2⟩ => ⟨a, vs, e1, e _ _ h1, Trs.mono e h2⟩
  | .scr _, _, ⟨a, vs, e1, h1, h2⟩ => ⟨a, vs, e1, Same.seq e h1, Trs.mono e h2⟩
  | .own _, _, h => h
theorem Trs.mono (e : Le B B') : ∀ {ts : List T} {vs : List V}, Trs K B vs ts → Trs K B' vs ts
  | [], _, h => h
  | _ :: _, _, ⟨v, r, e1, h1, h2⟩ => ⟨v, r, e1, Tr.mono e h1, Trs.mono e h2⟩
end
theorem Trs.nil : Trs K B [] [] := rfl
theorem Trs.cons {v : V} {vs : List V} {t : T} {ts : List T} (h : Tr K B v t) (hs : Trs K B vs ts) : Trs K B (v :: vs) (t :: ts) := ⟨v, vs, rfl, h, hs⟩
theorem Trs.length : ∀ {ts : List T} {vs : List V}, Trs K B vs ts → vs.length = ts.length
  | [], _, h => by cases h; rfl
  | _ :: _, _, ⟨v, r, e, _, h⟩ => by subst e; simp [Trs.length h]
theorem Trs.get : ∀ {ts : List T} {vs : List V} {i : Nat} {t : T}, Trs K B vs ts → ts[i]? = some t → ∃ v, vs[i]? = some v ∧ Tr K B v t
  | [], _, _, _, _, e => by simp at e
  | _ :: _, _, 0, _, ⟨v, r, e1, h, _⟩, e => by
    subst e1
    simp at e
    subst e
    exact ⟨v, rfl, h⟩
  | _ :: _, _, i + 1, _, ⟨v, r, e1, _, h⟩, e => by
    subst e1
    exact Trs.get (i := i) h (by simpa using e)
theorem Trs.append : ∀ {ts us : List T} {vs ws : List V}, Trs K B vs ts → Trs K B ws us → Trs K B (vs ++ ws) (ts ++ us)
  | [], _, _, _, h, k => by cases h; exact k
  | _ :: _, _, _, _, ⟨v, r, e, h, hs⟩, k => by subst e; exact ⟨v, _, rfl, h, Trs.append hs k⟩
theorem Trs.take : ∀ {ts : List T} {vs : List V} (n : Nat), Trs K B vs ts → Trs K B (vs.take n) (ts.take n)
  | _, _, 0, _ => rfl
  | [], _, _ + 1, h => by cases h; rfl
  | _ :: _, _, n + 1, ⟨v, r, e, h, hs⟩ => by subst e; exact ⟨v, _, rfl, h, Trs.take n hs⟩
theorem Trs.drop : ∀ {ts : List T} {vs : List V} (n : Nat), Trs K B vs ts → Trs K B (vs.drop n) (ts.drop n)
  | _, _, 0, h => h
  | [], _, _ + 1, h => by cases h; rfl
  | _ :: _, _, n + 1, ⟨v, r, e, h, hs⟩ => by subst e; exact Trs.drop n hs
theorem Trs.set : ∀ {ts : List T} {vs : List V} {v : V} {t : T} (i : Nat), Trs K B vs ts → Tr K B v t → Trs K B (vs.set i v) (ts.set i t)
  | [], _, _, _, _, h, _ => by cases h; rfl
  | _ :: _, _, v', _, 0, ⟨v, r, e, _, hs⟩, k => by subst e; exact ⟨v', r, rfl, k, hs⟩
  | _ :: _, _, _, _, i + 1, ⟨v, r, e, h, hs⟩, k => by subst e; exact ⟨v, _, rfl, h, Trs.set i hs k⟩
theorem Trs.eraseIdx : ∀ {ts : List T} {vs : List V} (i : Nat), Trs K B vs ts → Trs K B (vs.eraseIdx i) (ts.eraseIdx i)
  | [], _, _, h => by cases h; rfl
  | _ :: _, _, 0, ⟨v, r, e, _, hs⟩ => by subst e; exact hs
  | _ :: _, _, i + 1, ⟨v, r, e, h, hs⟩ => by subst e; exact ⟨v, _, rfl, h, Trs.eraseIdx i hs⟩
theorem Trs.dropLast {ts : List T} {vs : List V} (h : Trs K B vs ts) : Trs K B vs.dropLast ts.dropLast := by
  rw [List.dropLast_eq_take, List.dropLast_eq_take, h.length]
  exact h.take _
theorem Trs.reverse : ∀ {ts : List T} {vs : List V}, Trs K B vs ts → Trs K B vs.reverse ts.reverse
  | [], _, h => by cases h; rfl
  | _ :: _, _, ⟨v, r, e, h, hs⟩ => by
    subst e
    rw [List.reverse_cons, List.reverse_cons]
    exact Trs.append (Trs.reverse hs) ⟨v, [], rfl, h, rfl⟩
theorem Trs.rep {ts : List T} {vs : List V} (h : Trs K B vs ts) : ∀ k : Nat, Trs K B (List.replicate k vs).flatten (List.replicate k ts).flatten
  | 0 => rfl
  | k + 1 => by
    rw [List.replicate_succ, List.replicate_succ, List.flatten_cons, List.flatten_cons]
    exact Trs.append h (Trs.rep h k)
theorem Trs.ints : ∀ {ns : List Int} {vs : List V}, Trs K B vs (ns.map T.int) → vs = ns.map V.int
  | [], _, h => h
  | _ :: _, _, ⟨v, r, e, h, hs⟩ => by
    have h' : v = V.int _ := h
    rw [e, h', Trs.ints hs]
    rfl
theorem Trs.of_ints : ∀ (ns : List Int), Trs K B (ns.map V.int) (ns.map T.int)
  | [] => rfl
  | _ :: r => ⟨_, _, rfl, rfl, Trs.of_ints r⟩
theorem Trs.strs : ∀ {ns : List Str} {vs : List V}, Trs K B vs (ns.map T.str) → vs = ns.map V.str
  | [], _, h => h
  | _ :: _, _, ⟨v, r, e, h, hs⟩ => by
    have h' : v = V.str _ := h
    rw [e, h', Trs.strs hs]
    rfl
theorem Trs.of_strs : ∀ (ns : List Str), Trs K B (ns.map V.str) (ns.map T.str)
  | [] => rfl
  | _ :: r => ⟨_, _, rfl, rfl, Trs.of_strs r⟩
theorem Trs.bls : ∀ {ns : List Bool} {vs : List V}, Trs K B vs (ns.map T.bl) → vs = ns.map V.bl
  | [], _, h => h
  | _ :: _, _, ⟨v, r, e, h, hs⟩ => by
    have h' : v = V.bl _ := h
    rw [e, h', Trs.bls hs]
    rfl
end

/-! ## 3. The heap: a part that stands still (B), and the store -/
def KTs (K : PySem.W.Frag) (B : Hp) : List (Key × V) → List (Key × T) → Prop := Paired fun p q => p.1 = q.1 ∧ Tr K B p.2 q.2
def ObOk (K : PySem.W.Frag) (L : Lay) (H B : Hp) (p : Addr) : Ob → Prop
  | .lst ts => ∃ vs, H p = some (.lst vs) ∧ Trs K B vs ts
  | .dict kvs => ∃ ks, H p = some (.dK ks) ∧ KTs K B ks kvs
  | .obj c ts => ∃ dx vs, H p = some (.ins (L.addr c) dx ((L.flds c).zip vs)) ∧ Trs K B vs ts ∧ vs.length ≤ (L.flds c).length
structure St (K : PySem.W.Frag) (L : Lay) (Φ H B : Hp) (μ : Sto) : Prop where
  sub : Le B H
  sto : ∀ p o, μ p = some o → B p = none ∧ ObOk K L H B p o
  frm : ∀ p o, Φ p = some o → H p = some o ∧ B p = none ∧ μ p = none
section
variable {K : PySem.W.Frag} {L : Lay} {Φ B B' H H' : Hp} {μ μ' : Sto}
theorem KTs.mono {a : List (Key × V)} {b : List (Key × T)} (e : Le B B') (h : KTs K B a b) : KTs K B' a b := Paired.mapP h fun _ _ z => ⟨z.1, z.2.mono e⟩
theorem ObOk.mono {p : Addr} {o : Ob} (h : ObOk K L H B p o) (e : Le B B') (eH : H' p = H p) : ObOk K L H' B' p o := by
  cases o with
  | lst ts => obtain ⟨vs, h1, h2⟩ := h; exact ⟨vs, eH.trans h1, h2.mono e⟩
  | dict kvs => obtain ⟨ks, h1, h2⟩ := h; exact ⟨ks, eH.trans h1, h2.mono e⟩
  | obj c ts => obtain ⟨dx, vs, h1, h2, h3⟩ := h; exact ⟨dx, vs, eH.trans h1, h2.mono e, h3⟩
theorem ObOk.there {p : Addr} {o : Ob} (h : ObOk K L H B p o) : ∃ u, H p = some u := by
  cases o with
  | lst ts => obtain ⟨vs, h1, h2⟩ := h; exact ⟨_, h1⟩
  | dict kvs => obtain ⟨ks, h1, h2⟩ := h; exact ⟨_, h1⟩
  | obj c ts => obtain ⟨dx, vs, h1, h2, h3⟩ := h; exact ⟨_, h1⟩
theorem St.fresh (S : St K L Φ H B μ) {p : Addr} (h : H p = none) : μ p = none := by
  cases e : μ p with
  | none => rfl
  | some o =>
    obtain ⟨u, q⟩ := (S.sto p o e).2.there
    rw [h] at q
    cases q
theorem St.freshB (S : St K L Φ H B μ) {p : Addr} (h : H p = none) : B p = none := Same.free S.sub h
/-- fewer things of the store are looked at -/
theorem Sub.none (h : Sub μ' μ) {p : Addr} (e : μ p = none) : μ' p = none := by
  cases q : μ' p with
  | none => rfl
  | some o => rw [h p o q] at e; cases e
theorem St.freshF (S : St K L Φ H B μ) {p : Addr} (h : H p = none) : Φ p = none := by
  cases e : Φ p with
  | none => rfl
  | some o =>
    have q := (S.frm p o e).1
    rw [h] at q
    cases q
theorem St.drop (S : St K L Φ H B μ) (h : Sub μ' μ) : St K L Φ H B μ' := ⟨S.sub, fun p o e => S.sto p o (h p o e), fun p o e => let ⟨a, b, c⟩ := S.frm p o e; ⟨a, b, h.none c⟩⟩
theorem le_upd {p : Addr} {o : HO} (h : B p = none) : Le B (upd B p o) := fun b u e => by rw [upd_ne (ne_of_none e h)]; exact e
/-- a thing that stands still from now on -/
theorem St.laid {p : Addr} {o : HO} (S : St K L Φ H B μ) (h : H p = none) : St K L Φ (upd H p o) (upd B p o) μ := by
  refine ⟨fun b u e => ?_, fun q ob e => ?_, fun q ob e => ?_⟩
  · by_cases hb : b = p
    · subst hb
      rw [upd_same] at e ⊢
      exact e
    · rw [upd_ne hb] at e ⊢
      exact S.sub _ _ e
  · have hq : q ≠ p := fun z => by
      rw [z, S.fresh h] at e
      cases e
    obtain ⟨h1, h2⟩ := S.sto q ob e
    exact ⟨by rw [upd_ne hq]; exact h1, h2.mono (le_upd (S.freshB h)) (upd_ne hq)⟩
  · have hq : q ≠ p := fun z => by
      rw [z, S.freshF h] at e
      cases e
    obtain ⟨a, b, c⟩ := S.frm q ob e
    exact ⟨by rw [upd_ne hq]; exact a, by rw [upd_ne hq]; exact b, c⟩
/-- something tracked that nothing of ours names -/
theorem St.aside {p : Addr} {o : HO} (S : St K L Φ H B μ) (h : H p = none) : St K L Φ (upd H p o) B μ := by
  refine ⟨fun b u e => ?_, fun q ob e => ?_, fun q ob e => ?_⟩
  · rw [upd_ne (ne_of_none (S.sub _ _ e) h)]
    exact S.sub _ _ e
  · have hq : q ≠ p := fun z => by
      rw [z, S.fresh h] at e
      cases e
    obtain ⟨h1, h2⟩ := S.sto q ob e
    exact ⟨h1, h2.mono (Same.refl _) (upd_ne hq)⟩
  · have hq : q ≠ p := fun z => by
      rw [z, S.freshF h] at e
      cases e
    obtain ⟨a, b, c⟩ := S.frm q ob e
    exact ⟨by rw [upd_ne hq]; exact a, b, c⟩
/-- a thing of the store is new, or written -/
theorem St.put {p : Addr} {o : HO} {ob : Ob} (S : St K L Φ H B μ) (hB : B p = none) (hF : Φ p = none) (h : ObOk K L (upd H p o) B p ob) : St K L Φ (upd H p o) B (μ.set p ob) := by
  refine ⟨fun b u e => ?_, fun q ob' e => ?_, fun q ob' e => ?_⟩
  · rw [upd_ne (ne_of_none e hB)]
    exact S.sub _ _ e
  · by_cases hq : q = p
    · subst hq
      rw [Sto.set_same] at e
      cases e
      exact ⟨hB, h⟩
    · rw [Sto.set_ne hq] at e
      obtain ⟨h1, h2⟩ := S.sto q ob' e
      exact ⟨h1, h2.mono (Same.refl _) (upd_ne hq)⟩
  · have hq : q ≠ p := fun z => by
      rw [z, hF] at e
      cases e
    obtain ⟨a, b, c⟩ := S.frm q ob' e
    exact ⟨by rw [upd_ne hq]; exact a, b, by rw [Sto.set_ne hq]; exact c⟩
theorem St.noF {p : Addr} {o : Ob} (S : St K L Φ H B μ) (e : μ p = some o) : Φ p = none := by
  cases q : Φ p with
  | none => rfl
  | some u =>
    have z := (S.frm p u q).2.2
    rw [e] at z
    cases z
theorem St.mem {p : Addr} {ts : List T} (S : St K L Φ H B μ) (e : μ p = some (.lst ts)) : ∃ vs, H p = some (.lst vs) ∧ Trs K B vs ts := (S.sto p _ e).2
theorem St.memD {p : Addr} {kvs : List (Key × T)} (S : St K L Φ H B μ) (e : μ p = some (.dict kvs)) : ∃ ks, H p = some (.dK ks) ∧ KTs K B ks kvs := (S.sto p _ e).2
theorem St.memO {p : Addr} {c : Nat} {ts : List T} (S : St K L Φ H B μ) (e : μ p = some (.obj c ts)) : ∃ dx vs, H p = some (.ins (L.addr c) dx ((L.flds c).zip vs)) ∧ Trs K B vs ts ∧ vs.length ≤ (L.flds c).length := (S.sto p _ e).2
end
/-- lists: those that may be written or added; those that may be read; tuples -/
def slst (μ : Sto) : T → Option (List T)
  | .lst ts => some ts
  | .own p => match μ p with
    | some (.lst ts) => some ts
    | _ => none
  | _ => none
def vlst (μ : Sto) : T → Option (List T)
  | .lst ts => some ts
  | .scr ts => some ts
  | .own p => match μ p with
    | some (.lst ts) => some ts
    | _ => none
  | _ => none
def vtup : T → Option (List T)
  | .tup ts => some ts
  | _ => none
section
variable {K : PySem.W.Frag} {L : Lay} {Φ B B' H H' : Hp} {μ μ' : Sto} {v : V} {t : T} {ts : List T}
theorem own_lst {p : Addr} (h : (match μ p with | some (.lst ts) => some ts | _ => none) = some ts) : μ p = some (.lst ts) := by
  cases e : μ p with
  | none => rw [e] at h; cases h
  | some o =>
    rw [e] at h
    cases o with
    | lst us => cases h; rfl
    | dict _ => cases h
    | obj _ _ => cases h
theorem slst_ok (S : St K L Φ H B μ) (r : Tr K B v t) (h : slst μ t = some ts) : ∃ a vs, v = .ref a ∧ H a = some (.lst vs) ∧ Trs K B vs ts := by
  cases t with
  | lst us =>
    cases h
    obtain ⟨a, vs, e, h1, h2⟩ := r
    exact ⟨a, vs, e, S.sub _ _ h1, h2⟩
  | own p =>
    obtain ⟨vs, h1, h2⟩ := S.mem (own_lst h)
    exact ⟨p, vs, r, h1, h2⟩
  | _ => cases h
theorem vlst_ok (S : St K L Φ H B μ) (r : Tr K B v t) (h : vlst μ t = some ts) : ∃ a vs, v = .ref a ∧ SqL K H a vs ∧ Trs K B vs ts := by
  cases t with
  | lst us =>
    cases h
    obtain ⟨a, vs, e, h1, h2⟩ := r
    exact ⟨a, vs, e, .of (S.sub _ _ h1), h2⟩
  | scr us =>
    cases h
    obtain ⟨a, vs, e, h1, h2⟩ := r
    exact ⟨a, vs, e, Same.seq S.sub h1, h2⟩
  | own p =>
    obtain ⟨vs, h1, h2⟩ := S.mem (own_lst h)
    exact ⟨p, vs, r, .of h1, h2⟩
  | _ => cases h
theorem vtup_ok (S : St K L Φ H B μ) (r : Tr K B v t) (h : vtup t = some ts) : ∃ a vs, v = .ref a ∧ SqT K H a vs ∧ Trs K B vs ts := by
  cases t with
  | tup us =>
    cases h
    obtain ⟨a, vs, e, h1, h2⟩ := r
    exact ⟨a, vs, e, Le.seqT S.sub h1, h2⟩
  | _ => cases h
end

/-! ## 4. What is wanted behind: from trees to the heap -/
def Post (K : PySem.W.Frag) (L : Lay) (Φ B : Hp) (R : RP) (Q : VK) : Prop := ∀ v t H' B' μ', Le B B' → St K L Φ H' B' μ' → Tr K B' v t → R t μ' → Q v H'
def PostS (K : PySem.W.Frag) (L : Lay) (Φ B : Hp) (R : Sto → Prop) (Q : Hp → Prop) : Prop := ∀ H' B' μ', Le B B' → St K L Φ H' B' μ' → R μ' → Q H'
def PostB (K : PySem.W.Frag) (L : Lay) (Φ B : Hp) (R : Bool → Sto → Prop) (Q : Bool → Hp → Prop) : Prop := ∀ b H' B' μ', Le B B' → St K L Φ H' B' μ' → R b μ' → Q b H'
def PostX (K : PySem.W.Frag) (L : Lay) (Φ B : Hp) (F : XP) (E : XK) : Prop := ∀ c H' B' μ', Le B B' → St K L Φ H' B' μ' → F c μ' → E (.ref (L.exc c)) none H'
section
variable {K : PySem.W.Frag} {L : Lay} {Φ B B' H H' : Hp} {μ μ' : Sto} {R : RP} {Q : VK} {F : XP} {E : XK}
theorem Post.mono (h : Post K L Φ B R Q) (e : Le B B') : Post K L Φ B' R Q := fun v t H' B2 μ' e2 => h v t H' B2 μ' (e.trans e2)
theorem PostX.mono (h : PostX K L Φ B F E) (e : Le B B') : PostX K L Φ B' F E := fun c H' B2 μ' e2 => h c H' B2 μ' (e.trans e2)
theorem Post.here (h : Post K L Φ B R Q) {v : V} {t : T} (S : St K L Φ H B μ) (r : Tr K B v t) (q : R t μ) : Q v H := h v t H B μ (Same.refl _) S r q
/-- a new list: one's own, or one that stands still -/
def newL (own : Bool) (ts : List T) (μ : Sto) (R : RP) : Prop :=
  match own with
  | true => ∀ p, μ p = none → R (.own p) (μ.set p (.lst ts))
  | false => R (.lst ts) μ
theorem newL_ok {own : Bool} {vs : List V} {ts : List T} (S : St K L Φ H B μ) (r : Trs K B vs ts) (h : newL own ts μ R) (k : Post K L Φ B R Q) {p : Addr} (hp : H p = none) : Q (.ref p) (upd H p (.lst vs)) := by
  cases own with
  | true =>
    have h : ∀ p, μ p = none → R (.own p) (μ.set p (.lst ts)) := h
    exact k _ (.own p) _ B _ (Same.refl _) (S.put (S.freshB hp) (S.freshF hp) (show ObOk K L (upd H p (.lst vs)) B p (.lst ts) from ⟨vs, upd_same, r⟩)) rfl (h p (S.fresh hp))
  | false =>
    have h : R (.lst ts) μ := h
    have e := le_upd (o := HO.lst vs) (S.freshB hp)
    exact k _ (.lst ts) _ _ _ e (S.laid hp) ⟨p, vs, rfl, upd_same, r.mono e⟩ h
theorem newT_ok {vs : List V} {ts : List T} (S : St K L Φ H B μ) (r : Trs K B vs ts) (h : R (.tup ts) μ) (k : Post K L Φ B R Q) {p : Addr} (hp : H p = none) : Q (.ref p) (upd H p (.tup vs)) := by
  have e := le_upd (o := HO.tup vs) (S.freshB hp)
  exact k _ (.tup ts) _ _ _ e (S.laid hp) ⟨p, vs, rfl, .of upd_same, r.mono e⟩ h
end
end Rh

namespace Rh
open PySem PySem.Spec PyProof.Rows L2

/-! ## 5. Operations on trees -/
/-- what a tree is as data -/
def dat (μ : Sto) : Nat → T → Option PyData
  | 0, _ => none
  | _ + 1, .non => some .none
  | _ + 1, .bl b => some (.bool b)
  | _ + 1, .int i => some (.int i)
  | _ + 1, .str s => some (.str s)
  | n + 1, .tup ts => (ts.mapM (dat μ n)).map .tuple
  | n + 1, .lst ts => (ts.mapM (dat μ n)).map .list
  | n + 1, .scr ts => (ts.mapM (dat μ n)).map .list
  | n + 1, .own p => match μ p with
    | some (.lst ts) => (ts.mapM (dat μ n)).map .list
    | _ => none
def onD (μ : Sto) (x : T) (k : PyData → Prop) : Prop := ∃ d, dat μ 6 x = some d ∧ SeqAt.shaped d = true ∧ k d
def onS (μ : Sto) (x : T) (k : List T → Prop) : Prop := ∃ ts, slst μ x = some ts ∧ k ts
def onL (μ : Sto) (x : T) (k : List T → Prop) : Prop := ∃ ts, vlst μ x = some ts ∧ k ts
def MulOk (i j : Int) : Prop := CMul i j ∨ CMulW i j
def tAdd (own : Bool) (x y : T) (μ : Sto) (R : RP) : Prop :=
  match x, y with
  | .int i, .int j => R (.int (i + j)) μ
  | .str a, .str b => a.length + b.length ≤ sizeLine ∧ R (.str (a ++ b)) μ
  | .tup xs, .tup ys => xs ≠ [] ∧ ys ≠ [] ∧ xs.length + ys.length ≤ sizeLine ∧ R (.tup (xs ++ ys)) μ
  | x, y => onS μ x fun xs => onS μ y fun ys => xs.length + ys.length ≤ sizeLine ∧ newL own (xs ++ ys) μ R
def tMulO (own : Bool) (x y : T) (μ : Sto) (R : RP) : Prop :=
  match x, y with
  | .int i, .int j => MulOk i j ∧ R (.int (i * j)) μ
  | .str x, .int k => 0 ≤ k ∧ k < 16777216 ∧ x.length * k.toNat ≤ sizeLine ∧ R (.str (Txt.mul x k)) μ
  | x, .int k => onS μ x fun xs => k < 2 ^ 62 ∧ -(2 ^ 62) ≤ k ∧ xs.length * k.toNat ≤ sizeLine ∧ newL own (List.replicate k.toNat xs).flatten μ R
  | _, _ => False
def tBin (op : Operator) (own : Bool) (x y : T) (μ : Sto) (R : RP) : Prop :=
  match op with
  | .Add => tAdd own x y μ R
  | .Sub => ∃ i j, x = .int i ∧ y = .int j ∧ R (.int (i - j)) μ
  | .Mult => tMulO own x y μ R
  | .FloorDiv => ∃ i j, x = .int i ∧ y = .int j ∧ CDivW i j ∧ R (.int (i / j)) μ
  | .Mod => ∃ i j, x = .int i ∧ y = .int j ∧ 0 < j ∧ R (.int (i % j)) μ
  | _ => False
def scalT : T → T → Option Bool
  | .non, .non => some true | .non, .int _ => some false | .int _, .non => some false | .non, .bl _ => some false | .bl _, .non => some false | .non, .str _ => some false | .str _, .non => some false
  | .int i, .int j => some (decide (i = j)) | .bl a, .bl b => some (decide (a = b)) | .str a, .str b => some (decide (a = b))
  | .int _, .str _ => some false | .str _, .int _ => some false | .bl _, .str _ => some false | .str _, .bl _ => some false
  | _, _ => none
def tEq (neg : Bool) (x y : T) (μ : Sto) (R : RP) : Prop :=
  match scalT x y with
  | some b => R (.bl (if neg then !b else b)) μ
  | none => onD μ x fun d => onD μ y fun e => R (.bl (if neg then !PyData.eqv d e else PyData.eqv d e)) μ
def strIn (a b : Str) : Bool := !(Builtin.Str.occurrences b a 0 b.length 1).isEmpty
theorem strIn_sign (c : Nat) (z : Str) : strIn ⟨#[c]⟩ z = decide (c ∈ z.cps.toList) := PySem.StrLaws.found_one z c
def valT (kvs : List (Key × T)) (k : Key) : Option T := (kvs.find? fun kv => decide (kv.1 = k)).map (·.2)
def putT (kvs : List (Key × T)) (k : Key) (v : T) : List (Key × T) := if (kvs.any fun kv => decide (kv.1 = k)) = true then kvs.map fun kv => if kv.1 = k then (kv.1, v) else kv else kvs ++ [(k, v)]
def keyT : T → Option Key
  | .int i => some (.inl i)
  | .str s => some (.inr s)
  | _ => none
/-- a dict -/
def onK (μ : Sto) (x : T) (k : List (Key × T) → Addr → Prop) : Prop := ∃ p kvs, x = .own p ∧ μ p = some (.dict kvs) ∧ k kvs p
def flatT : T → Bool
  | .non => true | .bl _ => true | .int _ => true | .str _ => true | _ => false
def eqT : T → T → Bool
  | .non, .non => true
  | .bl a, .bl b => a == b
  | .bl a, .int b => (if a then 1 else 0) == b
  | .int a, .bl b => a == (if b then 1 else 0)
  | .int a, .int b => a == b
  | .str a, .str b => a == b
  | _, _ => false
def isDict (μ : Sto) : T → Bool
  | .own p => match μ p with
    | some (.dict _) => true
    | _ => false
  | _ => false
def tIn (neg : Bool) (x y : T) (μ : Sto) (R : RP) : Prop :=
  match y with
  | .str b => ∃ a, x = .str a ∧ R (.bl (if neg then !strIn a b else strIn a b)) μ
  | .tup ts => flatT x = true ∧ ts.all flatT = true ∧ R (.bl (if neg then !(ts.any fun z => eqT z x) else ts.any fun z => eqT z x)) μ
  | y => match isDict μ y with
    | true => onK μ y fun kvs _ => ∃ k, keyT x = some k ∧ R (.bl (if neg then !(valT kvs k).isSome else (valT kvs k).isSome)) μ
    | false => onD μ x fun d => ∃ ds, dat μ 6 y = some (.list ds) ∧ SeqAt.shaped (.list ds) = true ∧ R (.bl (if neg then !(ds.any fun z => PyData.eqv z d) else ds.any fun z => PyData.eqv z d)) μ
def isNon : T → Bool
  | .non => true
  | _ => false
def tCmp (op : CmpOp) (x y : T) (μ : Sto) (R : RP) : Prop :=
  match op with
  | .Lt => ∃ i j, x = .int i ∧ y = .int j ∧ R (.bl (decide (i < j))) μ
  | .LtE => ∃ i j, x = .int i ∧ y = .int j ∧ R (.bl (decide (i ≤ j))) μ
  | .Gt => ∃ i j, x = .int i ∧ y = .int j ∧ R (.bl (decide (j < i))) μ
  | .GtE => ∃ i j, x = .int i ∧ y = .int j ∧ R (.bl (decide (j ≤ i))) μ
  | .Eq => tEq false x y μ R
  | .NotEq => tEq true x y μ R
  | .In => tIn false x y μ R
  | .NotIn => tIn true x y μ R
  | .Is => match y with
    | .bl b => ∃ a, x = .bl a ∧ R (.bl (decide (a = b))) μ
    | y => y = .non ∧ R (.bl (isNon x)) μ
  | .IsNot => y = .non ∧ R (.bl (!isNon x)) μ
def tIdx (x y : T) (μ : Sto) (R : RP) : Prop :=
  match x with
  | .tup ts => ∃ i t, y = .int i ∧ atI ts i = some t ∧ R t μ
  | .str z => ∃ i c, y = .int i ∧ z.length ≤ sizeLine ∧ atI z.cps.toList i = some c ∧ R (.str ⟨#[c]⟩) μ
  | x => match isDict μ x with
    | true => onK μ x fun kvs _ => ∃ k t, keyT y = some k ∧ valT kvs k = some t ∧ R t μ
    | false => onL μ x fun ts => ∃ i t, y = .int i ∧ atI ts i = some t ∧ R t μ
def cutT (xs : List T) (lo hi : Option Int) : List T := (xs.drop (HT.sIx xs.length 0 lo)).take (HT.sIx xs.length xs.length hi - HT.sIx xs.length 0 lo)
def tSlice (own : Bool) (x : T) (lo hi : Option Int) (μ : Sto) (R : RP) : Prop :=
  match x with
  | .str z => z.length ≤ sizeLine ∧ R (.str (cutS z lo hi)) μ
  | .tup ts => ¬ (HT.sIx ts.length 0 lo = 0 ∧ HT.sIx ts.length ts.length hi = ts.length) ∧ R (.tup (cutT ts lo hi)) μ
  | x => onL μ x fun ts => newL own (cutT ts lo hi) μ R
def truT (μ : Sto) (x : T) (k : Bool → Prop) : Prop :=
  match x with
  | .non => k false
  | .bl b => k b
  | .int i => k (i != 0)
  | .str y => y.length ≤ sizeLine ∧ k ((y.length : Int) != 0)
  | .tup ts => k (!ts.isEmpty)
  | x => match isDict μ x with
    | true => onK μ x fun kvs _ => k (!kvs.isEmpty)
    | false => onL μ x fun ts => k (!ts.isEmpty)
def tLen (x : T) (μ : Sto) (R : RP) : Prop :=
  match x with
  | .str y => y.length ≤ sizeLine ∧ R (.int y.length) μ
  | .tup ts => R (.int ts.length) μ
  | x => onL μ x fun ts => R (.int ts.length) μ

section
variable {X : Cx} {L : Lay}
/-- an operation on trees, as one on values -/
def Op2 (K : PySem.W.Frag) (L : Lay) (tb : T → T → Sto → RP → Prop) : R2 := fun x y H Q => ∃ Φ B μ tx ty R, St K L Φ H B μ ∧ Tr K B x tx ∧ Tr K B y ty ∧ tb tx ty μ R ∧ Post K L Φ B R Q
theorem Vals.refl_dummy : True := trivial
mutual
theorem dat_ok {K : PySem.W.Frag} {Φ H B : Hp} {μ : Sto} (S : St K L Φ H B μ) : ∀ (n : Nat) (t : T) (v : V) (d : PyData), dat μ n t = some d → Tr K B v t → Dp K H v d
  | 0, _, _, _, h, _ => by simp [dat] at h
  | _ + 1, .non, v, d, h, r => by simp [dat] at h; subst h; cases (show v = .non from r); exact .non
  | _ + 1, .bl b, v, d, h, r => by simp [dat] at h; subst h; cases (show v = .bl b from r); exact .bl b
  | _ + 1, .int i, v, d, h, r => by simp [dat] at h; subst h; cases (show v = .int i from r); exact .int i
  | _ + 1, .str s, v, d, h, r => by simp [dat] at h; subst h; cases (show v = .str s from r); exact .str s
  | n + 1, .tup ts, v, d, h, r => by
    simp only [dat, Option.map_eq_some_iff] at h
    obtain ⟨ds, h1, rfl⟩ := h
    obtain ⟨a, vs, rfl, h2, h3⟩ := vtup_ok S r rfl
    exact .tup h2 (dats_ok S n ts vs ds h1 h3)
  | n + 1, .lst ts, v, d, h, r => by
    simp only [dat, Option.map_eq_some_iff] at h
    obtain ⟨ds, h1, rfl⟩ := h
    obtain ⟨a, vs, rfl, h2, h3⟩ := vlst_ok (μ := μ) S r rfl
    exact .lst h2 (dats_ok S n ts vs ds h1 h3)
  | n + 1, .scr ts, v, d, h, r => by
    simp only [dat, Option.map_eq_some_iff] at h
    obtain ⟨ds, h1, rfl⟩ := h
    obtain ⟨a, vs, rfl, h2, h3⟩ := vlst_ok (μ := μ) S r rfl
    exact .lst h2 (dats_ok S n ts vs ds h1 h3)
  | n + 1, .own p, v, d, h, r => by
    unfold dat at h
    split at h
    · rename_i ts e
      rw [Option.map_eq_some_iff] at h
      obtain ⟨ds, h1, rfl⟩ := h
      obtain ⟨vs, h2, h3⟩ := S.mem e
      cases (show v = .ref p from r)
      exact .lst (.of h2) (dats_ok S n ts vs ds h1 h3)
    · cases h
theorem dats_ok {K : PySem.W.Frag} {Φ H B : Hp} {μ : Sto} (S : St K L Φ H B μ) : ∀ (n : Nat) (ts : List T) (vs : List V) (ds : List PyData), ts.mapM (dat μ n) = some ds → Trs K B vs ts → DpAll K H vs ds
  | n, [], vs, ds, h, r => by
    cases (show vs = [] from r)
    simp at h
    subst h
    exact .nil
  | n, t :: ts, vs, ds, h, r => by
    obtain ⟨v, rs, rfl, r1, r2⟩ := r
    simp only [List.mapM_cons, Option.bind_eq_bind, Option.bind_eq_some_iff] at h
    obtain ⟨d, h1, es, h2, h3⟩ := h
    cases h3
    exact .cons (dat_ok S n t v d h1 r1) (dats_ok S n ts rs es h2 r2)
end
theorem onS_ok {K : PySem.W.Frag} {Φ H B : Hp} {μ : Sto} {x : T} {v : V} {k : List T → Prop} (S : St K L Φ H B μ) (r : Tr K B v x) (h : onS μ x k) : ∃ a vs ts, v = .ref a ∧ H a = some (.lst vs) ∧ Trs K B vs ts ∧ k ts :=
  let ⟨ts, e, q⟩ := h
  let ⟨a, vs, h1, h2, h3⟩ := slst_ok S r e
  ⟨a, vs, ts, h1, h2, h3, q⟩
theorem onL_ok {K : PySem.W.Frag} {Φ H B : Hp} {μ : Sto} {x : T} {v : V} {k : List T → Prop} (S : St K L Φ H B μ) (r : Tr K B v x) (h : onL μ x k) : ∃ a vs ts, v = .ref a ∧ SqL K H a vs ∧ Trs K B vs ts ∧ k ts :=
  let ⟨ts, e, q⟩ := h
  let ⟨a, vs, h1, h2, h3⟩ := vlst_ok S r e
  ⟨a, vs, ts, h1, h2, h3, q⟩
theorem add_ok (own : Bool) : OpR X (binaryOp .Add) (Op2 X.K L (tAdd own)) := by
  intro pins s σ H x y v u Q I rx ry ⟨Φ, B, μ, tx, ty, R, S, r1, r2, h, k⟩
  unfold tAdd at h
  split at h
  · cases (show x = .int _ from r1); cases (show y = .int _ from r2)
    exact op_add pins s σ H _ _ v u Q I rx ry ⟨_, _, rfl, rfl, k.here S (show Tr X.K B (.int _) (.int _) from rfl) h⟩
  · cases (show x = .str _ from r1); cases (show y = .str _ from r2)
    exact op_add_str pins s σ H _ _ v u Q I rx ry ⟨_, _, rfl, rfl, h.1, k.here S (show Tr X.K B (.str _) (.str _) from rfl) h.2⟩
  · rename_i xs ys
    obtain ⟨a, vs, rfl, h1, h2⟩ := vtup_ok S r1 rfl
    obtain ⟨b, ws, rfl, g1, g2⟩ := vtup_ok S r2 rfl
    obtain ⟨n1, n2, hz, h⟩ := h
    have e1 := h2.length
    have e2 := g2.length
    have m1 : vs ≠ [] := fun z => n1 (List.length_eq_zero_iff.mp (by rw [← e1, z]; rfl))
    have m2 : ws ≠ [] := fun z => n2 (List.length_eq_zero_iff.mp (by rw [← e2, z]; rfl))
    exact op_catT pins s σ H _ _ v u Q I rx ry ⟨a, b, vs, ws, rfl, rfl, h1, g1, m1, by omega, fun z => absurd z m2, fun _ p hp => newT_ok S (h2.append g2) h k hp⟩
  · obtain ⟨a, vs, xs, rfl, h1, h2, h⟩ := onS_ok S r1 h
    obtain ⟨b, ws, ys, rfl, g1, g2, hz, h⟩ := onS_ok S r2 h
    have e1 := h2.length
    have e2 := g2.length
    exact op_cat pins s σ H _ _ v u Q I rx ry ⟨a, b, vs, ws, rfl, rfl, h1, g1, by omega, fun p hp => newL_ok S (h2.append g2) h k hp⟩
theorem mul_ok (own : Bool) : OpR X (binaryOp .Mult) (Op2 X.K L (tMulO own)) := by
  intro pins s σ H x y v u Q I rx ry ⟨Φ, B, μ, tx, ty, R, S, r1, r2, h, k⟩
  unfold tMulO at h
  split at h
  · cases (show x = .int _ from r1); cases (show y = .int _ from r2)
    obtain ⟨hm, h⟩ := h
    rcases hm with hm | hm
    · exact op_mul pins s σ H _ _ v u Q I rx ry ⟨_, _, rfl, rfl, hm, k.here S (show Tr X.K B (.int _) (.int _) from rfl) h⟩
    · exact op_mulW pins s σ H _ _ v u Q I rx ry ⟨_, _, rfl, rfl, hm, k.here S (show Tr X.K B (.int _) (.int _) from rfl) h⟩
  · rename_i z n
    cases (show x = .str _ from r1); cases (show y = .int _ from r2)
    obtain ⟨h0, h1, hz, h⟩ := h
    obtain ⟨t, rfl⟩ := rx
    obtain ⟨t', rfl⟩ := ry
    have q := k.here S (show Tr X.K B (.str _) (.str _) from rfl) h
    refine SB.mul ⟨?_, fun hn _ => ?_, fun hn _ => ?_⟩ fun t' tk => ⟨.str (Txt.mul z n), H, I.tok _, ⟨_, rfl⟩, q⟩
    · rw [Bool.or_eq_false_iff, decide_eq_false_iff_not, decide_eq_false_iff_not]
      omega
    · have hz2 : (z.length : Int) * n ≤ 2 ^ 63 - 1 := by
        have e : n = (n.toNat : Int) := by omega
        rw [e, ← Int.natCast_mul]
        have : sizeLine ≤ 16777216 := by decide
        omega
      have := (Int.le_ediv_iff_mul_le (show 0 < n by omega)).mpr hz2
      omega
    · show decide (_ > sizeLine) = false
      exact decide_eq_false (by omega)
  · cases (show y = .int _ from r2)
    obtain ⟨a, vs, xs, rfl, h1, h2, hk1, hk2, hz, h⟩ := onS_ok S r1 h
    have e1 := h2.length
    exact op_rep pins s σ H _ _ v u Q I rx ry ⟨a, _, vs, rfl, rfl, h1, by omega, by omega, by rw [e1]; exact hz, fun p hp => newL_ok S (h2.rep _) h k hp⟩
  · exact h.elim
theorem bin_ok (op : Operator) (own : Bool) : OpR X (binaryOp op) (Op2 X.K L (tBin op own)) := by
  intro pins s σ H x y v u Q I rx ry ⟨Φ, B, μ, tx, ty, R, S, r1, r2, h, k⟩
  cases op with
  | Add => exact add_ok own pins s σ H x y v u Q I rx ry ⟨Φ, B, μ, tx, ty, R, S, r1, r2, h, k⟩
  | Mult => exact mul_ok own pins s σ H x y v u Q I rx ry ⟨Φ, B, μ, tx, ty, R, S, r1, r2, h, k⟩
  | Sub =>
    obtain ⟨i, j, rfl, rfl, h⟩ := h
    cases (show x = .int _ from r1); cases (show y = .int _ from r2)
    exact op_sub pins s σ H _ _ v u Q I rx ry ⟨_, _, rfl, rfl, k.here S (show Tr X.K B (.int _) (.int _) from rfl) h⟩
  | FloorDiv =>
    obtain ⟨i, j, rfl, rfl, hc, h⟩ := h
    cases (show x = .int _ from r1); cases (show y = .int _ from r2)
    exact op_fdivW pins s σ H _ _ v u Q I rx ry ⟨_, _, rfl, rfl, hc, k.here S (show Tr X.K B (.int _) (.int _) from rfl) h⟩
  | Mod =>
    obtain ⟨i, j, rfl, rfl, hc, h⟩ := h
    cases (show x = .int _ from r1); cases (show y = .int _ from r2)
    exact op_mod pins s σ H _ _ v u Q I rx ry ⟨_, _, rfl, rfl, hc, k.here S (show Tr X.K B (.int _) (.int _) from rfl) h⟩
  | _ => exact (show False from h).elim
theorem scal_ok {K : PySem.W.Frag} {B : Hp} {x y : V} : ∀ {tx ty : T} {b : Bool}, Tr K B x tx → Tr K B y ty → scalT tx ty = some b → scal x y = true ∧ decide (x = y) = b := by
  intro tx ty b r1 r2 h
  unfold scalT at h
  split at h
  all_goals first
    | (cases h; done)
    | (injection h with h; subst h; obtain rfl := r1; obtain rfl := r2; exact ⟨rfl, by simp⟩)
theorem eq_ok (hu : X.A.units + 64 < cLine) : OpR X (compareOp .Eq) (Op2 X.K L (tEq false)) := by
  intro pins s σ H x y v u Q I rx ry ⟨Φ, B, μ, tx, ty, R, S, r1, r2, h, k⟩
  unfold tEq at h
  split at h
  · rename_i b e
    obtain ⟨h1, h2⟩ := scal_ok r1 r2 e
    exact op_eq pins s σ H x y v u Q I rx ry ⟨h1, by rw [h2]; exact k.here S (show Tr X.K B (.bl b) (.bl b) from rfl) h⟩
  · obtain ⟨d, e1, s1, e, e2, s2, h⟩ := h
    exact op_eqD hu pins s σ H x y v u Q I rx ry ⟨d, e, dat_ok S _ _ _ _ e1 r1, dat_ok S _ _ _ _ e2 r2, s1, s2, k.here S (show Tr X.K B (.bl _) (.bl _) from rfl) h⟩
theorem ne_ok (hu : X.A.units + 64 < cLine) : OpR X (compareOp .NotEq) (Op2 X.K L (tEq true)) := by
  intro pins s σ H x y v u Q I rx ry ⟨Φ, B, μ, tx, ty, R, S, r1, r2, h, k⟩
  unfold tEq at h
  split at h
  · rename_i b e
    obtain ⟨h1, h2⟩ := scal_ok r1 r2 e
    exact op_ne pins s σ H x y v u Q I rx ry ⟨h1, by rw [h2]; exact k.here S (show Tr X.K B (.bl _) (.bl _) from rfl) h⟩
  · obtain ⟨d, e1, s1, e, e2, s2, h⟩ := h
    exact op_neD hu pins s σ H x y v u Q I rx ry ⟨d, e, dat_ok S _ _ _ _ e1 r1, dat_ok S _ _ _ _ e2 r2, s1, s2, k.here S (show Tr X.K B (.bl _) (.bl _) from rfl) h⟩
end
end Rh

namespace Rh
open PySem PySem.Spec PyProof.Rows L2
section
variable {K : PySem.W.Frag} {B B' H H' : Hp} {μ : Sto} {L : Lay}
theorem KTs.val {a : List (Key × V)} {b : List (Key × T)} (r : KTs K B a b) (k : Key) : ∀ {t : T}, valT b k = some t → ∃ v, valV a k = some v ∧ Tr K B v t := by
  induction r with
  | nil => intro t h; cases h
  | @cons p q l m h hs ih =>
    intro t e
    obtain ⟨h1, h2⟩ := h
    by_cases z : q.1 = k
    · have e' : valT (q :: m) k = some q.2 := by simp [valT, List.find?_cons, z]
      rw [e'] at e
      cases e
      exact ⟨p.2, valV_pos (h1.trans z), h2⟩
    · have e' : valT (q :: m) k = valT m k := by simp [valT, List.find?_cons, z]
      rw [e'] at e
      obtain ⟨v, g1, g2⟩ := ih e
      exact ⟨v, by rw [valV_neg (fun w => z (h1.symm.trans w))]; exact g1, g2⟩
theorem KTs.some {a : List (Key × V)} {b : List (Key × T)} (r : KTs K B a b) (k : Key) : (valV a k).isSome = (valT b k).isSome := by
  induction r with
  | nil => rfl
  | @cons p q l m h hs ih =>
    obtain ⟨h1, h2⟩ := h
    by_cases z : q.1 = k
    · rw [valV_pos (h1.trans z)]
      simp [valT, List.find?_cons, z]
    · rw [valV_neg (fun w => z (h1.symm.trans w)), ih]
      simp [valT, List.find?_cons, z]
theorem KTs.anyK {a : List (Key × V)} {b : List (Key × T)} (r : KTs K B a b) (k : Key) : (a.any fun kv => decide (kv.1 = k)) = (b.any fun kv => decide (kv.1 = k)) := by
  induction r with
  | nil => rfl
  | @cons p q l m h hs ih => simp only [List.any_cons, ih, h.1]
theorem Paired.snoc {α β : Type} {G : α → β → Prop} : ∀ {l : List α} {m : List β} {a : α} {b : β}, Paired G l m → G a b → Paired G (l ++ [a]) (m ++ [b])
  | _, _, _, _, .nil, g => .cons g .nil
  | _, _, _, _, .cons h t, g => .cons h (Paired.snoc t g)
theorem KTs.put {a : List (Key × V)} {b : List (Key × T)} (r : KTs K B a b) (k : Key) {v : V} {t : T} (h : Tr K B v t) : KTs K B (putK a k v) (putT b k t) := by
  have e := r.anyK k
  unfold putT putK
  rw [← e]
  split
  · rename_i hh
    clear e hh
    induction r with
    | nil => exact .nil
    | @cons p q l m g gs ih =>
      refine .cons ?_ (ih)
      dsimp only
      by_cases z : q.1 = k
      · rw [if_pos (g.1.trans z), if_pos z]
        exact ⟨g.1, h⟩
      · rw [if_neg (fun w => z (g.1.symm.trans w)), if_neg z]
        exact g
  · exact Paired.snoc r ⟨rfl, h⟩
theorem KTs.length {a : List (Key × V)} {b : List (Key × T)} (r : KTs K B a b) : a.length = b.length := Paired.length r
theorem KTs.empty {a : List (Key × V)} {b : List (Key × T)} (r : KTs K B a b) : a.isEmpty = b.isEmpty := by cases r <;> rfl
theorem keyT_ok {t : T} {v : V} {k : Key} (r : Tr K B v t) (h : keyT t = some k) : v = kV k := by
  cases t with
  | int i => cases h; exact r
  | str s => cases h; exact r
  | _ => cases h
theorem Trs.flat : ∀ {ts : List T} {vs : List V}, Trs K B vs ts → ts.all flatT = true → vs.all flatV = true
  | [], _, h, _ => by cases h; rfl
  | t :: ts, _, ⟨v, r, e, h, hs⟩, f => by
    subst e
    simp only [List.all_cons, Bool.and_eq_true] at f ⊢
    refine ⟨?_, Trs.flat hs f.2⟩
    cases t with
    | non => cases (show v = V.non from h); rfl
    | bl b => cases (show v = V.bl b from h); rfl
    | int b => cases (show v = V.int b from h); rfl
    | str b => cases (show v = V.str b from h); rfl
    | _ => exact absurd f.1 (by simp [flatT])
theorem flat_one {t : T} {v : V} (h : Tr K B v t) (f : flatT t = true) : flatV v = true := by
  have := Trs.flat (ts := [t]) (vs := [v]) ⟨v, [], rfl, h, rfl⟩ (by simp [f])
  simpa using this
theorem eqT_ok {s t : T} {x v : V} (h : Tr K B x s) (h' : Tr K B v t) (f : flatT s = true) (f' : flatT t = true) : eqV x v = eqT s t := by
  cases s with
  | non => cases (show x = V.non from h); cases t with
    | non => cases (show v = V.non from h'); rfl
    | bl b => cases (show v = V.bl b from h'); rfl
    | int b => cases (show v = V.int b from h'); rfl
    | str b => cases (show v = V.str b from h'); rfl
    | _ => exact absurd f' (by simp [flatT])
  | bl a => cases (show x = V.bl a from h); cases t with
    | non => cases (show v = V.non from h'); rfl
    | bl b => cases (show v = V.bl b from h'); rfl
    | int b => cases (show v = V.int b from h'); rfl
    | str b => cases (show v = V.str b from h'); rfl
    | _ => exact absurd f' (by simp [flatT])
  | int a => cases (show x = V.int a from h); cases t with
    | non => cases (show v = V.non from h'); rfl
    | bl b => cases (show v = V.bl b from h'); rfl
    | int b => cases (show v = V.int b from h'); rfl
    | str b => cases (show v = V.str b from h'); rfl
    | _ => exact absurd f' (by simp [flatT])
  | str a => cases (show x = V.str a from h); cases t with
    | non => cases (show v = V.non from h'); rfl
    | bl b => cases (show v = V.bl b from h'); rfl
    | int b => cases (show v = V.int b from h'); rfl
    | str b => cases (show v = V.str b from h'); rfl
    | _ => exact absurd f' (by simp [flatT])
  | _ => exact absurd f (by simp [flatT])
theorem anyT_ok {s : T} {x : V} (h : Tr K B x s) (f : flatT s = true) : ∀ {ts : List T} {vs : List V}, Trs K B vs ts → ts.all flatT = true → inV x vs = ts.any fun z => eqT z s
  | [], _, e, _ => by cases e; rfl
  | t :: ts, _, ⟨v, r, e, h1, hs⟩, g => by
    subst e
    simp only [List.all_cons, Bool.and_eq_true] at g
    unfold inV
    rw [List.any_cons, List.any_cons, eqT_ok h1 h g.1 f]
    congr 1
    exact anyT_ok h f hs g.2
end
section
variable {X : Cx} {L : Lay}
theorem isDict_of {μ : Sto} {x : T} {k : List (Key × T) → Addr → Prop} (h : onK μ x k) : ∃ p kvs, x = .own p ∧ μ p = some (.dict kvs) ∧ k kvs p := h
theorem in_ok (hu : X.A.units + 65 < cLine) : OpR X (compareOp .In) (Op2 X.K L (tIn false)) := by
  intro pins s σ H x y v u Q I rx ry ⟨Φ, B, μ, tx, ty, R, S, r1, r2, h, k⟩
  unfold tIn at h
  split at h
  · obtain ⟨a, rfl, h⟩ := h
    obtain rfl := r1
    obtain rfl := r2
    exact op_in_str pins s σ H _ _ v u Q I rx ry ⟨_, _, rfl, rfl, k.here S (show Tr X.K B (.bl _) (.bl _) from rfl) h⟩
  · rename_i ts
    obtain ⟨a, vs, rfl, h1, h2⟩ := vtup_ok S r2 rfl
    obtain ⟨f1, f2, h⟩ := h
    refine op_in_seq pins s σ H _ _ v u Q I rx ry ⟨a, vs, rfl, .inr h1, flat_one r1 f1, h2.flat f2, ?_⟩
    rw [if_neg Bool.false_ne_true, anyT_ok r1 f1 h2 f2]
    exact k.here S (show Tr X.K B (.bl _) (.bl _) from rfl) h
  · split at h
    · obtain ⟨p, kvs, rfl, e, kk, e2, h⟩ := h
      obtain ⟨ks, g1, g2⟩ := S.memD e
      obtain rfl := r2
      have ey := keyT_ok r1 e2
      subst ey
      cases (show u = Value.ref p from ry)
      refine d_in (by omega) I (DGet.k (k := kk) g1) rx fun s' I' => ⟨.bl _, H, I', rfl, ?_⟩
      rw [g2.some]
      exact k.here S (show Tr X.K B (.bl _) (.bl _) from rfl) h
    · obtain ⟨d, e1, s1, ds, e2, s2, h⟩ := h
      exact op_inD hu pins s σ H x y v u Q I rx ry ⟨d, ds, dat_ok S _ _ _ _ e1 r1, dat_ok S _ _ _ _ e2 r2, s1, s2, k.here S (show Tr X.K B (.bl _) (.bl _) from rfl) h⟩
theorem notIn_ok (hu : X.A.units + 65 < cLine) : OpR X (compareOp .NotIn) (Op2 X.K L (tIn true)) := by
  intro pins s σ H x y v u Q I rx ry ⟨Φ, B, μ, tx, ty, R, S, r1, r2, h, k⟩
  unfold tIn at h
  split at h
  · obtain ⟨a, rfl, h⟩ := h
    obtain rfl := r1
    obtain rfl := r2
    exact L2.op_notin_str pins s σ H _ _ v u Q I rx ry ⟨_, _, rfl, rfl, k.here S (show Tr X.K B (.bl _) (.bl _) from rfl) h⟩
  · rename_i ts
    obtain ⟨a, vs, rfl, h1, h2⟩ := vtup_ok S r2 rfl
    obtain ⟨f1, f2, h⟩ := h
    refine op_notIn_seq pins s σ H _ _ v u Q I rx ry ⟨a, vs, rfl, .inr h1, flat_one r1 f1, h2.flat f2, ?_⟩
    rw [if_pos rfl, anyT_ok r1 f1 h2 f2]
    exact k.here S (show Tr X.K B (.bl _) (.bl _) from rfl) h
  · split at h
    · obtain ⟨p, kvs, rfl, e, kk, e2, h⟩ := h
      obtain ⟨ks, g1, g2⟩ := S.memD e
      obtain rfl := r2
      have ey := keyT_ok r1 e2
      subst ey
      cases (show u = Value.ref p from ry)
      refine d_notIn (by omega) I (DGet.k (k := kk) g1) rx fun s' I' => ⟨.bl _, H, I', rfl, ?_⟩
      rw [g2.some]
      exact k.here S (show Tr X.K B (.bl _) (.bl _) from rfl) h
    · obtain ⟨d, e1, s1, ds, e2, s2, h⟩ := h
      exact op_notInD hu pins s σ H x y v u Q I rx ry ⟨d, ds, dat_ok S _ _ _ _ e1 r1, dat_ok S _ _ _ _ e2 r2, s1, s2, k.here S (show Tr X.K B (.bl _) (.bl _) from rfl) h⟩
theorem cmp_ok (hu : X.A.units + 65 < cLine) (op : CmpOp) : OpR X (compareOp op) (Op2 X.K L (tCmp op)) := by
  intro pins s σ H x y v u Q I rx ry ⟨Φ, B, μ, tx, ty, R, S, r1, r2, h, k⟩
  cases op with
  | Eq => exact eq_ok (by omega) pins s σ H x y v u Q I rx ry ⟨Φ, B, μ, tx, ty, R, S, r1, r2, h, k⟩
  | NotEq => exact ne_ok (by omega) pins s σ H x y v u Q I rx ry ⟨Φ, B, μ, tx, ty, R, S, r1, r2, h, k⟩
  | In => exact in_ok hu pins s σ H x y v u Q I rx ry ⟨Φ, B, μ, tx, ty, R, S, r1, r2, h, k⟩
  | NotIn => exact notIn_ok hu pins s σ H x y v u Q I rx ry ⟨Φ, B, μ, tx, ty, R, S, r1, r2, h, k⟩
  | Lt =>
    obtain ⟨i, j, rfl, rfl, h⟩ := h
    obtain rfl := r1
    obtain rfl := r2
    exact op_lt pins s σ H _ _ v u Q I rx ry ⟨_, _, rfl, rfl, k.here S (show Tr X.K B (.bl _) (.bl _) from rfl) h⟩
  | LtE =>
    obtain ⟨i, j, rfl, rfl, h⟩ := h
    obtain rfl := r1
    obtain rfl := r2
    exact op_le pins s σ H _ _ v u Q I rx ry ⟨_, _, rfl, rfl, k.here S (show Tr X.K B (.bl _) (.bl _) from rfl) h⟩
  | Gt =>
    obtain ⟨i, j, rfl, rfl, h⟩ := h
    obtain rfl := r1
    obtain rfl := r2
    exact op_gt pins s σ H _ _ v u Q I rx ry ⟨_, _, rfl, rfl, k.here S (show Tr X.K B (.bl _) (.bl _) from rfl) h⟩
  | GtE =>
    obtain ⟨i, j, rfl, rfl, h⟩ := h
    obtain rfl := r1
    obtain rfl := r2
    exact op_ge pins s σ H _ _ v u Q I rx ry ⟨_, _, rfl, rfl, k.here S (show Tr X.K B (.bl _) (.bl _) from rfl) h⟩
  | Is =>
    cases ty with
    | bl b =>
      obtain ⟨a, rfl, h⟩ := h
      obtain rfl := r1
      obtain rfl := r2
      exact op_isBl pins s σ H _ _ v u Q I rx ry ⟨a, b, rfl, rfl, k.here S (show Tr X.K B (.bl _) (.bl _) from rfl) h⟩
    | non =>
      obtain ⟨_, h⟩ := h
      obtain rfl := r2
      refine op_isN pins s σ H _ _ v u Q I rx ry ⟨rfl, ?_⟩
      have e : decide (x = V.non) = isNon tx := by
        cases tx with
        | non => obtain rfl := r1; rfl
        | bl b => obtain rfl := r1; rfl
        | int b => obtain rfl := r1; rfl
        | str b => obtain rfl := r1; rfl
        | tup ts => obtain ⟨a, vs, rfl, _⟩ := r1; rfl
        | lst ts => obtain ⟨a, vs, rfl, _⟩ := r1; rfl
        | scr ts => obtain ⟨a, vs, rfl, _⟩ := r1; rfl
        | own ts => obtain rfl := r1; rfl
      rw [e]
      exact k.here S (show Tr X.K B (.bl _) (.bl _) from rfl) h
    | _ =>
      obtain ⟨e, _⟩ := h
      cases e
  | IsNot =>
    obtain ⟨rfl, h⟩ := h
    obtain rfl := r2
    refine op_notN pins s σ H _ _ v u Q I rx ry ⟨rfl, ?_⟩
    have e : decide (x = V.non) = isNon tx := by
      cases tx with
      | non => obtain rfl := r1; rfl
      | bl b => obtain rfl := r1; rfl
      | int b => obtain rfl := r1; rfl
      | str b => obtain rfl := r1; rfl
      | tup ts => obtain ⟨a, vs, rfl, _⟩ := r1; rfl
      | lst ts => obtain ⟨a, vs, rfl, _⟩ := r1; rfl
      | scr ts => obtain ⟨a, vs, rfl, _⟩ := r1; rfl
      | own ts => obtain rfl := r1; rfl
    rw [e]
    exact k.here S (show Tr X.K B (.bl _) (.bl _) from rfl) h
theorem Trs.atI {K : PySem.W.Frag} {B : Hp} {ts : List T} {vs : List V} {i : Int} {t : T} (h : Trs K B vs ts) (e : L2.atI ts i = some t) : ∃ v, L2.atI vs i = some v ∧ Tr K B v t := by
  unfold L2.atI at e ⊢
  rw [h.length]
  cases q : ixN ts.length i with
  | none => rw [q] at e; cases e
  | some j =>
    rw [q] at e
    exact h.get (i := j) e
theorem idx_ok (hu : X.A.units + 65 < cLine) : IxR X (Op2 X.K L tIdx) := by
  intro value slice pins s σ H x y v u Q I rx ry ⟨Φ, B, μ, tx, ty, R, S, r1, r2, h, k⟩ hs
  unfold tIdx at h
  split at h
  · obtain ⟨a, vs, rfl, h1, h2⟩ := vtup_ok S r1 rfl
    obtain ⟨i, t, rfl, e, h⟩ := h
    obtain rfl := r2
    obtain ⟨w, ew, rw'⟩ := h2.atI e
    exact ix_tup value slice pins s σ H _ _ v u Q I rx ry ⟨a, vs, i, w, rfl, rfl, h1, ew, k.here S rw' h⟩ hs
  · obtain ⟨i, c, rfl, hz, e, h⟩ := h
    obtain rfl := r1
    obtain rfl := r2
    exact ix_str value slice pins s σ H _ _ v u Q I rx ry ⟨_, i, c, rfl, rfl, hz, e, k.here S (show Tr X.K B (.str _) (.str _) from rfl) h⟩ hs
  · split at h
    · obtain ⟨p, kvs, rfl, e, kk, t, e2, e3, h⟩ := h
      obtain ⟨ks, g1, g2⟩ := S.memD e
      obtain rfl := r1
      have ey := keyT_ok r2 e2
      subst ey
      cases (show v = Value.ref p from rx)
      obtain ⟨w, ew, rw'⟩ := g2.val kk e3
      have G : DGet H p (kV kk) (some w) := by rw [← ew]; exact DGet.k (k := kk) g1
      have hT := dict_typeIs I G
      unfold subscriptTail
      refine wpAny_bind ?_
      rw [getitemInPython_of_ne hT.not_modules]
      refine wpAny_bind (wpAny_specialOf hT PySem.F.slot_dict_getitem.lookup ?_)
      have fin : wpAny (model X.prog X.w) X.A (subscripted slice false (.ref p) u) (fun r s₃ => wpAny (model X.prog X.w) X.A (letTemporaryGo value (.ref p) r >>= fun _ => pure r) (EP X pins σ Q) X.xe s₃) X.xe s := by
        rw [hs]
        exact wpAny_operating (d_getItem (by omega) I G ry fun w' s3 I3 r3 => wpAny_bind (wpAny_letTemporaryGo (wpAny_pure ⟨w, H, I3, r3, k.here S rw' h⟩)))
      first
        | exact wpAny_pure (wpAny_bind fin)
        | exact wpAny_bind (wpAny_pure (wpAny_bind fin))
        | exact wpAny_bind fin
    · obtain ⟨a, vs, ts, rfl, h1, h2, i, t, rfl, e, h⟩ := onL_ok S r1 h
      obtain rfl := r2
      obtain ⟨w, ew, rw'⟩ := h2.atI e
      exact ix_list value slice pins s σ H _ _ v u Q I rx ry ⟨a, vs, i, w, rfl, rfl, h1, ew, k.here S rw' h⟩ hs
def OpSl (K : PySem.W.Frag) (L : Lay) (own : Bool) : V → Option Int → Option Int → Hp → VK → Prop := fun x lo hi H Q => ∃ Φ B μ tx R, St K L Φ H B μ ∧ Tr K B x tx ∧ tSlice own tx lo hi μ R ∧ Post K L Φ B R Q
theorem Trs.cut {K : PySem.W.Frag} {B : Hp} {ts : List T} {vs : List V} (h : Trs K B vs ts) (lo hi : Option Int) : Trs K B (cutV vs lo hi) (cutT ts lo hi) := by
  unfold cutV cutT
  rw [h.length]
  exact (h.drop _).take _
theorem slice_ok (own : Bool) : SlR X (OpSl X.K L own) := by
  intro pins s σ H x v vl vu lo hi sl Q I rx hsl pl pu ⟨Φ, B, μ, tx, R, S, r1, h, k⟩
  unfold tSlice at h
  split at h
  · obtain rfl := r1
    exact sl_str pins s σ H _ v vl vu lo hi sl Q I rx hsl pl pu ⟨_, rfl, h.1, k.here S (show Tr X.K B (.str _) (.str _) from rfl) h.2⟩
  · obtain ⟨a, vs, rfl, h1, h2⟩ := vtup_ok S r1 rfl
    refine sl_tup pins s σ H _ v vl vu lo hi sl Q I rx hsl pl pu ⟨a, vs, rfl, h1, by rw [h2.length]; exact h.1, fun p hp => newT_ok S (h2.cut lo hi) h.2 k hp⟩
  · obtain ⟨a, vs, ts, rfl, h1, h2, h⟩ := onL_ok S r1 h
    exact sl_list pins s σ H _ v vl vu lo hi sl Q I rx hsl pl pu ⟨a, vs, rfl, h1, fun p hp => newL_ok S (h2.cut lo hi) h k hp⟩
theorem Trs.isEmpty {K : PySem.W.Frag} {B : Hp} {ts : List T} {vs : List V} (h : Trs K B vs ts) : vs.isEmpty = ts.isEmpty := by
  have e := h.length
  cases vs <;> cases ts <;> first | rfl | simp at e
theorem tru_okT {K : PySem.W.Frag} {Φ H B : Hp} {μ : Sto} {x : V} {t : T} {k : Bool → Prop} (S : St K L Φ H B μ) (r : Tr K B x t) (h : truT μ t k) : ∃ b, TruV K x H b ∧ k b := by
  unfold truT at h
  split at h
  · obtain rfl := r; exact ⟨false, rfl, h⟩
  · obtain rfl := r; exact ⟨_, rfl, h⟩
  · obtain rfl := r; exact ⟨_, rfl, h⟩
  · obtain rfl := r; exact ⟨_, ⟨h.1, rfl⟩, h.2⟩
  · obtain ⟨a, vs, rfl, h1, h2⟩ := vtup_ok S r rfl
    exact ⟨_, .inr (.inl ⟨vs, h1, rfl⟩), by rw [h2.isEmpty]; exact h⟩
  · split at h
    · obtain ⟨p, kvs, rfl, e, h⟩ := h
      obtain ⟨ks, g1, g2⟩ := S.memD e
      obtain rfl := r
      exact ⟨_, .inr (.inr ⟨ks, g1, rfl⟩), by rw [g2.empty]; exact h⟩
    · obtain ⟨a, vs, ts, rfl, h1, h2, h⟩ := onL_ok S r h
      exact ⟨_, .inl ⟨vs, h1, rfl⟩, by rw [h2.isEmpty]; exact h⟩
/-- operations of one value: functions of one argument -/
def Op1 (K : PySem.W.Frag) (L : Lay) (tb : T → Sto → RP → Prop) : List V → Hp → VK → Prop := fun xs H Q => ∃ x Φ B μ t R, xs = [x] ∧ St K L Φ H B μ ∧ Tr K B x t ∧ tb t μ R ∧ Post K L Φ B R Q
theorem len_ok : CallR X (.builtin "len") (Op1 X.K L tLen) := by
  intro pins s σ H xs us Q I r ⟨x, Φ, B, μ, t, R, e, S, r1, h, k⟩
  subst e
  unfold tLen at h
  split at h
  · obtain rfl := r1
    exact call_len pins s σ H _ us Q I r ⟨_, _, rfl, ⟨h.1, rfl⟩, k.here S (show Tr X.K B (.int _) (.int _) from rfl) h.2⟩
  · obtain ⟨a, vs, rfl, h1, h2⟩ := vtup_ok S r1 rfl
    refine call_len pins s σ H _ us Q I r ⟨_, _, rfl, .inr ⟨vs, h1, rfl⟩, ?_⟩
    rw [h2.length]
    exact k.here S (show Tr X.K B (.int _) (.int _) from rfl) h
  · obtain ⟨a, vs, ts, rfl, h1, h2, h⟩ := onL_ok S r1 h
    refine call_len pins s σ H _ us Q I r ⟨_, _, rfl, .inl ⟨vs, h1, rfl⟩, ?_⟩
    rw [h2.length]
    exact k.here S (show Tr X.K B (.int _) (.int _) from rfl) h
end
end Rh

namespace Rh
open PySem PySem.Spec PyProof.Rows L2

/-! ## 6. Lists of one's own that stand still from now on; what is no longer looked at -/
mutual
inductive View (μ : Sto) (fz : List Addr) : T → T → Prop
  | refl (t : T) : View μ fz t t
  | own {p : Addr} {ts us : List T} : μ p = some (.lst ts) → p ∈ fz → Views μ fz ts us → View μ fz (.own p) (.lst us)
  | tup {ts us : List T} : Views μ fz ts us → View μ fz (.tup ts) (.tup us)
  | lst {ts us : List T} : Views μ fz ts us → View μ fz (.lst ts) (.lst us)
inductive Views (μ : Sto) (fz : List Addr) : List T → List T → Prop
  | nil : Views μ fz [] []
  | cons {t u : T} {ts us : List T} : View μ fz t u → Views μ fz ts us → Views μ fz (t :: ts) (u :: us)
end
theorem Views.refl {μ : Sto} {fz : List Addr} : ∀ ts : List T, Views μ fz ts ts
  | [] => .nil
  | t :: ts => .cons (.refl t) (Views.refl ts)
/-- the store behind it -/
def Left (μ : Sto) (fz : List Addr) (μ' : Sto) : Prop := Sub μ' μ ∧ ∀ p ∈ fz, μ' p = none
/-- slots: seen otherwise, or forgotten -/
inductive Slv (μ : Sto) (fz : List Addr) : Ro → Ro → Prop
  | nil : Slv μ fz [] []
  | keep {t u : T} {ρ ρ' : Ro} : View μ fz t u → Slv μ fz ρ ρ' → Slv μ fz (some t :: ρ) (some u :: ρ')
  | gone {o : Option T} {ρ ρ' : Ro} : Slv μ fz ρ ρ' → Slv μ fz (o :: ρ) (none :: ρ')
theorem Slv.refl {μ : Sto} {fz : List Addr} : ∀ ρ : Ro, Slv μ fz ρ ρ
  | [] => .nil
  | some t :: ρ => .keep (.refl t) (Slv.refl ρ)
  | none :: ρ => .gone (Slv.refl ρ)
def Wk (ρ : Ro) (μ : Sto) (ρ' : Ro) (μ' : Sto) : Prop := ∃ fz, Slv μ fz ρ ρ' ∧ Left μ fz μ'
def WkV (t : T) (μ : Sto) (t' : T) (μ' : Sto) : Prop := ∃ fz, View μ fz t t' ∧ Left μ fz μ'
theorem Left.refl {μ : Sto} : Left μ [] μ := ⟨Sub.refl _, fun _ h => nomatch h⟩
theorem Wk.refl (ρ : Ro) (μ : Sto) : Wk ρ μ ρ μ := ⟨[], .refl ρ, .refl⟩
theorem WkV.refl (t : T) (μ : Sto) : WkV t μ t μ := ⟨[], .refl t, .refl⟩
theorem WkV.drop {t : T} {μ μ' : Sto} (h : Sub μ' μ) : WkV t μ t μ' := ⟨[], .refl t, h, fun _ z => nomatch z⟩
/-- the still part with these lists in it -/
def frz (B H : Hp) (μ : Sto) (fz : List Addr) : Hp := fun b => if b ∈ fz then (match μ b with | some (.lst _) => H b | _ => B b) else B b
section
variable {K : PySem.W.Frag} {L : Lay} {Φ B B' H H' : Hp} {μ μ' : Sto} {fz : List Addr}
theorem frz_le (S : St K L Φ H B μ) : Le B (frz B H μ fz) := fun b o e => by
  unfold frz
  split
  · split
    · rename_i h
      have z := (S.sto b _ h).1
      rw [e] at z
      cases z
    · exact e
  · exact e
theorem frz_at (S : St K L Φ H B μ) {p : Addr} {ts : List T} (e : μ p = some (.lst ts)) (h : p ∈ fz) : ∃ vs, frz B H μ fz p = some (.lst vs) ∧ Trs K (frz B H μ fz) vs ts := by
  obtain ⟨vs, h1, h2⟩ := S.mem e
  refine ⟨vs, ?_, h2.mono (frz_le S)⟩
  unfold frz
  rw [if_pos h, e]
  exact h1
theorem St.freeze (S : St K L Φ H B μ) (l : Left μ fz μ') : St K L Φ H (frz B H μ fz) μ' := by
  refine ⟨fun b o e => ?_, fun p o e => ?_, fun p o e => ?_⟩
  · unfold frz at e
    split at e
    · split at e
      · exact e
      · exact S.sub _ _ e
    · exact S.sub _ _ e
  · have hn : p ∉ fz := fun z => by
      rw [l.2 p z] at e
      cases e
    obtain ⟨h1, h2⟩ := S.sto p o (l.1 p o e)
    refine ⟨?_, h2.mono (frz_le S) rfl⟩
    unfold frz
    rw [if_neg hn]
    exact h1
  · obtain ⟨h1, h2, h3⟩ := S.frm p o e
    refine ⟨h1, ?_, l.1.none h3⟩
    unfold frz
    split
    · rw [h3]
      exact h2
    · exact h2
mutual
theorem View.ok (S : St K L Φ H B μ) : ∀ {t u : T} {v : V}, View μ fz t u → Tr K B v t → Tr K (frz B H μ fz) v u
  | _, _, _, .refl t, r => r.mono (frz_le S)
  | _, _, v, .own (p := p) e h s, r => by
    obtain ⟨vs, h1, h2⟩ := S.mem e
    cases (show v = .ref p from r)
    obtain ⟨vs', g1, g2⟩ := frz_at S e h
    have q : vs' = vs := by
      unfold frz at g1
      rw [if_pos h, e] at g1
      rw [h1] at g1
      cases g1
      rfl
    subst q
    exact ⟨p, vs', rfl, g1, Views.ok S s h2⟩
  | _, _, _, .tup s, ⟨a, vs, e, h1, h2⟩ => ⟨a, vs, e, Le.seqT (frz_le S) h1, Views.ok S s h2⟩
  | _, _, _, .lst s, ⟨a, vs, e, h1, h2⟩ => ⟨a, vs, e, frz_le S _ _ h1, Views.ok S s h2⟩
theorem Views.ok (S : St K L Φ H B μ) : ∀ {ts us : List T} {vs : List V}, Views μ fz ts us → Trs K B vs ts → Trs K (frz B H μ fz) vs us
  | _, _, _, .nil, r => r
  | _, _, _, .cons h s, ⟨v, r, e, h1, h2⟩ => ⟨v, r, e, View.ok S h h1, Views.ok S s h2⟩
end
/-- the slots of a frame -/
def Slots (K : PySem.W.Frag) (B : Hp) (σ : L2.St) (ρ : Ro) : Prop := σ.length = ρ.length ∧ ∀ (i : Nat) (t : T), ρ[i]? = some (some t) → ∃ v, σ[i]? = some (some v) ∧ Tr K B v t
theorem Slots.mono {σ : L2.St} {ρ : Ro} (h : Slots K B σ ρ) (e : Le B B') : Slots K B' σ ρ := ⟨h.1, fun i t q => let ⟨v, a, b⟩ := h.2 i t q; ⟨v, a, b.mono e⟩⟩
theorem Slots.set {σ : L2.St} {ρ : Ro} {v : V} {t : T} (h : Slots K B σ ρ) (i : Nat) (r : Tr K B v t) : Slots K B (σ.set i (some v)) (ρ.set i (some t)) := by
  refine ⟨by rw [List.length_set, List.length_set]; exact h.1, fun j u e => ?_⟩
  by_cases hj : i = j
  · subst hj
    by_cases hl : i < ρ.length
    · rw [List.getElem?_set_self hl] at e
      cases e
      exact ⟨v, List.getElem?_set_self (by rw [h.1]; exact hl), r⟩
    · rw [List.getElem?_eq_none (by rw [List.length_set]; omega)] at e
      cases e
  · rw [List.getElem?_set_ne hj] at e
    obtain ⟨w, a, b⟩ := h.2 j u e
    exact ⟨w, by rw [List.getElem?_set_ne hj]; exact a, b⟩
theorem Slots.wipe1 {σ : L2.St} {ρ : Ro} (h : Slots K B σ ρ) (i : Nat) : Slots K B (σ.set i none) (ρ.set i none) := by
  refine ⟨by rw [List.length_set, List.length_set]; exact h.1, fun j u e => ?_⟩
  by_cases hj : i = j
  · subst hj
    by_cases hl : i < ρ.length
    · rw [List.getElem?_set_self hl] at e
      cases e
    · rw [List.getElem?_eq_none (by rw [List.length_set]; omega)] at e
      cases e
  · rw [List.getElem?_set_ne hj] at e
    obtain ⟨w, a, b⟩ := h.2 j u e
    exact ⟨w, by rw [List.getElem?_set_ne hj]; exact a, b⟩
def wipeT (ρ : Ro) : List Nat → Ro
  | [] => ρ
  | v :: vs => (wipeT ρ vs).set v none
theorem Slots.wipe {σ : L2.St} {ρ : Ro} (h : Slots K B σ ρ) : ∀ vs : List Nat, Slots K B (L2.wipe σ vs) (wipeT ρ vs)
  | [] => h
  | v :: vs => (Slots.wipe h vs).wipe1 v
theorem Slv.ok (S : St K L Φ H B μ) : ∀ {ρ ρ' : Ro} {σ : L2.St}, Slv μ fz ρ ρ' → Slots K B σ ρ → Slots K (frz B H μ fz) σ ρ' := by
  intro ρ ρ' σ s h
  have key : ρ.length = ρ'.length ∧ ∀ (i : Nat) (u : T), ρ'[i]? = some (some u) → ∃ t, ρ[i]? = some (some t) ∧ View μ fz t u := by
    clear h
    induction s with
    | nil => exact ⟨rfl, fun i u e => by simp at e⟩
    | @keep t u ρ ρ' w _ ih =>
      refine ⟨by simp [ih.1], fun i x e => ?_⟩
      cases i with
      | zero =>
        simp at e
        subst e
        exact ⟨t, rfl, w⟩
      | succ i => exact ih.2 i x (by simpa using e)
    | @gone o ρ ρ' _ ih =>
      refine ⟨by simp [ih.1], fun i x e => ?_⟩
      cases i with
      | zero => simp at e
      | succ i => exact ih.2 i x (by simpa using e)
  refine ⟨h.1.trans key.1, fun i u e => ?_⟩
  obtain ⟨t, e1, w⟩ := key.2 i u e
  obtain ⟨v, a, b⟩ := h.2 i t e1
  exact ⟨v, a, w.ok S b⟩
theorem Wk.ok {ρ ρ' : Ro} {σ : L2.St} (w : Wk ρ μ ρ' μ') (S : St K L Φ H B μ) (h : Slots K B σ ρ) : ∃ B', Le B B' ∧ St K L Φ H B' μ' ∧ Slots K B' σ ρ' :=
  let ⟨fz, s, l⟩ := w
  ⟨frz B H μ fz, frz_le S, S.freeze l, s.ok S h⟩
theorem WkV.ok {t t' : T} {v : V} (w : WkV t μ t' μ') (S : St K L Φ H B μ) (h : Tr K B v t) : ∃ B', Le B B' ∧ St K L Φ H B' μ' ∧ Tr K B' v t' :=
  let ⟨fz, s, l⟩ := w
  ⟨frz B H μ fz, frz_le S, S.freeze l, s.ok S h⟩
end

/-! ## 7. Built-in functions and the methods of lists, on trees -/
inductive Bif where
  | len | sum | max2 | min2 | list | tuple | sorted | all | any | str | int | max3 | min3 | max1 | min1
def max3 (i j k : Int) : Int := if (if i < j then j else i) < k then k else (if i < j then j else i)
def min3 (i j k : Int) : Int := if k < (if j < i then j else i) then k else (if j < i then j else i)
def tBif (f : Bif) (own : Bool) (ts : List T) (μ : Sto) (R : RP) : Prop :=
  match f, ts with
  | .len, [x] => tLen x μ R
  | .sum, [x] => onL μ x fun us => ∃ ns : List Int, us = ns.map T.int ∧ R (.int ns.sum) μ
  | .max2, [x, y] => ∃ i j, x = .int i ∧ y = .int j ∧ R (.int (if j > i then j else i)) μ
  | .min2, [x, y] => ∃ i j, x = .int i ∧ y = .int j ∧ R (.int (if j < i then j else i)) μ
  | .max3, [x, y, z] => ∃ i j k, x = .int i ∧ y = .int j ∧ z = .int k ∧ R (.int (max3 i j k)) μ
  | .min3, [x, y, z] => ∃ i j k, x = .int i ∧ y = .int j ∧ z = .int k ∧ R (.int (min3 i j k)) μ
  | .list, [.tup us] => newL own us μ R
  | .list, [x] => onL μ x fun us => newL own us μ R
  | .tuple, [.tup us] => R (.tup us) μ
  | .tuple, [x] => onL μ x fun us => R (.tup us) μ
  | .sorted, [x] => match isDict μ x with
    | true => onK μ x fun kvs _ => ∃ ks : List Int, kvs.map (·.1) = ks.map Sum.inl ∧ ks.length < 64 ∧ ∀ ys : List Int, ys.Perm ks → ys.Pairwise (· ≤ ·) → newL own (ys.map T.int) μ R
    | false => onL μ x fun us => ∃ ns : List Int, us = ns.map T.int ∧ ∀ ys : List Int, ys.Perm ns → ys.Pairwise (· ≤ ·) → newL own (ys.map T.int) μ R
  | .all, [x] => onL μ x fun us => ∃ bs : List Bool, us = bs.map T.bl ∧ R (.bl (bs.all id)) μ
  | .any, [x] => onL μ x fun us => ∃ bs : List Bool, us = bs.map T.bl ∧ R (.bl (bs.any id)) μ
  | .str, [.int i] => i.natAbs.log2 < 1920 ∧ R (.str (toString i)) μ
  | .int, [.int i] => R (.int i) μ
  | .int, [.bl b] => R (.int (if b then 1 else 0)) μ
  | .max1, [x] => onL μ x fun us => ∃ ns : List Int, us = ns.map T.int ∧ 0 < ns.length ∧ ∀ m, m ∈ ns → (∀ y, y ∈ ns → y ≤ m) → R (.int m) μ
  | .min1, [x] => onL μ x fun us => ∃ ns : List Int, us = ns.map T.int ∧ 0 < ns.length ∧ ∀ m, m ∈ ns → (∀ y, y ∈ ns → m ≤ y) → R (.int m) μ
  | _, _ => False
def bifName : Bif → Str
  | .len => "len" | .sum => "sum" | .max2 => "max" | .min2 => "min" | .list => "list" | .tuple => "tuple" | .sorted => "sorted" | .all => "all" | .any => "any" | .str => "str" | .int => "int" | .max3 => "max" | .min3 => "min" | .max1 => "max" | .min1 => "min"
def bifVal : Bif → Value
  | .len => .builtin "len" | .sum => .builtin "sum" | .max2 => .builtin "max" | .min2 => .builtin "min" | .list => .type "list" | .tuple => .type "tuple" | .sorted => .builtin "sorted" | .all => .builtin "all" | .any => .builtin "any"
  | .str => .type "str" | .int => .type "int" | .max3 => .builtin "max" | .min3 => .builtin "min" | .max1 => .builtin "max" | .min1 => .builtin "min"
/-- a function of many arguments, by values -/
def OpN (K : PySem.W.Frag) (L : Lay) (tb : List T → Sto → RP → Prop) : List V → Hp → VK → Prop := fun xs H Q => ∃ Φ B μ ts R, St K L Φ H B μ ∧ Trs K B xs ts ∧ tb ts μ R ∧ Post K L Φ B R Q
section
variable {X : Cx} {L : Lay}
theorem Trs.one {K : PySem.W.Frag} {B : Hp} {vs : List V} {t : T} (h : Trs K B vs [t]) : ∃ v, vs = [v] ∧ Tr K B v t := by
  obtain ⟨v, r, rfl, h1, h2⟩ := h
  cases (show r = [] from h2)
  exact ⟨v, rfl, h1⟩
theorem Trs.two {K : PySem.W.Frag} {B : Hp} {vs : List V} {t u : T} (h : Trs K B vs [t, u]) : ∃ v w, vs = [v, w] ∧ Tr K B v t ∧ Tr K B w u := by
  obtain ⟨v, r, rfl, h1, h2⟩ := h
  obtain ⟨w, rfl, h3⟩ := Trs.one h2
  exact ⟨v, w, rfl, h1, h3⟩
theorem Trs.three {K : PySem.W.Frag} {B : Hp} {vs : List V} {t u w : T} (h : Trs K B vs [t, u, w]) : ∃ v1 v2 v3, vs = [v1, v2, v3] ∧ Tr K B v1 t ∧ Tr K B v2 u ∧ Tr K B v3 w := by
  obtain ⟨v, r, rfl, h1, h2⟩ := h
  obtain ⟨v2, v3, rfl, h3, h4⟩ := Trs.two h2
  exact ⟨v, v2, v3, rfl, h1, h3, h4⟩
theorem bif_ok (hc : X.calm = true) (own : Bool) (f : Bif) : CallR X (bifVal f) (OpN X.K L (tBif f own)) := by
  intro pins s σ H xs us Q I r ⟨Φ, B, μ, ts, R, S, rs, h, k⟩
  unfold tBif at h
  split at h
  · obtain ⟨v, rfl, r1⟩ := rs.one
    exact len_ok pins s σ H _ us Q I r ⟨v, Φ, B, μ, _, R, rfl, S, r1, h, k⟩
  · obtain ⟨v, rfl, r1⟩ := rs.one
    obtain ⟨a, vs, _, rfl, h1, h2, ns, rfl, h⟩ := onL_ok S r1 h
    have e := h2.ints
    subst e
    exact cr_sum hc pins s σ H _ us Q I r ⟨a, ns, rfl, h1, k.here S (show Tr X.K B (.int _) (.int _) from rfl) h⟩
  · obtain ⟨v, w, rfl, r1, r2⟩ := rs.two
    obtain ⟨i, j, rfl, rfl, h⟩ := h
    obtain rfl := r1
    obtain rfl := r2
    exact call_max2 hc pins s σ H _ us Q I r ⟨i, j, rfl, k.here S (show Tr X.K B (.int _) (.int _) from rfl) h⟩
  · obtain ⟨v, w, rfl, r1, r2⟩ := rs.two
    obtain ⟨i, j, rfl, rfl, h⟩ := h
    obtain rfl := r1
    obtain rfl := r2
    exact call_min2 hc pins s σ H _ us Q I r ⟨i, j, rfl, k.here S (show Tr X.K B (.int _) (.int _) from rfl) h⟩
  · obtain ⟨v, v2, v3, rfl, r1, r2, r3⟩ := rs.three
    obtain ⟨i, j, l, rfl, rfl, rfl, h⟩ := h
    obtain rfl := r1
    obtain rfl := r2
    obtain rfl := r3
    refine call_max3Nu hc pins s σ H _ us Q I r ⟨.int i, .int j, .int l, .int (max3 i j l), rfl, ?_, k.here S (show Tr X.K B (.int _) (.int _) from rfl) h⟩
    have e : ∀ a b : Int, nuLt (.int a) (.int b) = some (decide (a < b)) := fun _ _ => rfl
    unfold max3 nuMax3 nuMax2
    rw [e]
    by_cases h1 : i < j
    · simp only [h1, decide_true, Option.map_some, if_true, Option.bind_some, e]
      by_cases h2 : j < l <;> simp [h2]
    · simp only [h1, decide_false, Option.map_some, Bool.false_eq_true, if_false, Option.bind_some, e]
      by_cases h2 : i < l <;> simp [h2]
  · obtain ⟨v, v2, v3, rfl, r1, r2, r3⟩ := rs.three
    obtain ⟨i, j, l, rfl, rfl, rfl, h⟩ := h
    obtain rfl := r1
    obtain rfl := r2
    obtain rfl := r3
    refine call_min3Nu hc pins s σ H _ us Q I r ⟨.int i, .int j, .int l, .int (min3 i j l), rfl, ?_, k.here S (show Tr X.K B (.int _) (.int _) from rfl) h⟩
    have e : ∀ a b : Int, nuLt (.int a) (.int b) = some (decide (a < b)) := fun _ _ => rfl
    unfold min3 nuMin3 nuMin2
    rw [e]
    by_cases h1 : j < i
    · simp only [h1, decide_true, Option.map_some, if_true, Option.bind_some, e]
      by_cases h2 : l < j <;> simp [h2]
    · simp only [h1, decide_false, Option.map_some, Bool.false_eq_true, if_false, Option.bind_some, e]
      by_cases h2 : l < i <;> simp [h2]
  · obtain ⟨v, rfl, r1⟩ := rs.one
    obtain ⟨a, vs, rfl, h1, h2⟩ := vtup_ok S r1 rfl
    exact call_list_of pins s σ H _ us Q I r ⟨a, vs, rfl, .inr h1, fun p hp => newL_ok S h2 h k hp⟩
  · obtain ⟨v, rfl, r1⟩ := rs.one
    obtain ⟨a, vs, ts, rfl, h1, h2, h⟩ := onL_ok S r1 h
    exact call_list_of pins s σ H _ us Q I r ⟨a, vs, rfl, .inl h1, fun p hp => newL_ok S h2 h k hp⟩
  · obtain ⟨v, rfl, r1⟩ := rs.one
    obtain ⟨a, vs, rfl, h1, h2⟩ := vtup_ok S r1 rfl
    exact call_tuple_of pins s σ H _ us Q I r ⟨a, vs, rfl, .inr ⟨h1, k.here S r1 h⟩⟩
  · obtain ⟨v, rfl, r1⟩ := rs.one
    obtain ⟨a, vs, ts, rfl, h1, h2, h⟩ := onL_ok S r1 h
    exact call_tuple_of pins s σ H _ us Q I r ⟨a, vs, rfl, .inl ⟨h1, fun p hp => newT_ok S h2 h k hp⟩⟩
  · obtain ⟨v, rfl, r1⟩ := rs.one
    split at h
    · obtain ⟨p, kvs, rfl, e, ks, e2, h64, h⟩ := h
      obtain ⟨kk, g1, g2⟩ := S.memD e
      obtain rfl := r1
      refine call_sortedDI hc pins s σ H _ us Q I r ⟨p, kk, ks, rfl, .of g1, ?_, h64, fun ys q pm pw hq => newL_ok S (Trs.of_ints ys) (h ys pm pw) k hq⟩
      rw [← e2]
      clear e2 h e g1 r rs
      induction g2 with
      | nil => rfl
      | cons a _ ih => rw [List.map_cons, List.map_cons, ih, a.1]
    · obtain ⟨a, vs, _, rfl, h1, h2, ns, rfl, h⟩ := onL_ok S r1 h
      have e := h2.ints
      subst e
      exact cr_sortedI pins s σ H _ us Q I r ⟨a, ns, rfl, h1, fun ys p pm pw hp => newL_ok S (Trs.of_ints ys) (h ys pm pw) k hp⟩
  · obtain ⟨v, rfl, r1⟩ := rs.one
    obtain ⟨a, vs, _, rfl, h1, h2, bs, rfl, h⟩ := onL_ok S r1 h
    have e := h2.bls
    subst e
    exact cr_all hc pins s σ H _ us Q I r ⟨a, bs, rfl, h1, k.here S (show Tr X.K B (.bl _) (.bl _) from rfl) h⟩
  · obtain ⟨v, rfl, r1⟩ := rs.one
    obtain ⟨a, vs, _, rfl, h1, h2, bs, rfl, h⟩ := onL_ok S r1 h
    have e := h2.bls
    subst e
    exact cr_any hc pins s σ H _ us Q I r ⟨a, bs, rfl, h1, k.here S (show Tr X.K B (.bl _) (.bl _) from rfl) h⟩
  · obtain ⟨v, rfl, r1⟩ := rs.one
    obtain rfl := r1
    exact call_str_int pins s σ H _ us Q I r ⟨_, rfl, h.1, k.here S (show Tr X.K B (.str _) (.str _) from rfl) h.2⟩
  · obtain ⟨v, rfl, r1⟩ := rs.one
    obtain rfl := r1
    exact call_int1 pins s σ H _ us Q I r (.inl ⟨_, rfl, k.here S (show Tr X.K B (.int _) (.int _) from rfl) h⟩)
  · obtain ⟨v, rfl, r1⟩ := rs.one
    obtain rfl := r1
    exact call_int1 pins s σ H _ us Q I r (.inr ⟨_, rfl, k.here S (show Tr X.K B (.int _) (.int _) from rfl) h⟩)
  · obtain ⟨v, rfl, r1⟩ := rs.one
    obtain ⟨a, vs, _, rfl, h1, h2, ns, rfl, hl, h⟩ := onL_ok S r1 h
    have e := h2.ints
    subst e
    exact cr_max hc pins s σ H _ us Q I r ⟨a, ns, rfl, h1, hl, fun m hm hy => k.here S (show Tr X.K B (.int _) (.int _) from rfl) (h m hm hy)⟩
  · obtain ⟨v, rfl, r1⟩ := rs.one
    obtain ⟨a, vs, _, rfl, h1, h2, ns, rfl, hl, h⟩ := onL_ok S r1 h
    have e := h2.ints
    subst e
    exact cr_min hc pins s σ H _ us Q I r ⟨a, ns, rfl, h1, hl, fun m hm hy => k.here S (show Tr X.K B (.int _) (.int _) from rfl) (h m hm hy)⟩
  · exact h.elim
end
inductive Lm where
  | append | pop | popAt | extend | index | insert | remove | count | join | split | partition | startswith
/-- the methods that write -/
def onM (μ : Sto) (x : T) (k : List T → Addr → Prop) : Prop := ∃ p ts, x = .own p ∧ μ p = some (.lst ts) ∧ k ts p
def tLm (m : Lm) (x : T) (as : List T) (μ : Sto) (R : RP) : Prop :=
  match m, as with
  | .append, [y] => onM μ x fun ts p => ts.length < sizeLine ∧ R .non (μ.set p (.lst (ts ++ [y])))
  | .pop, [] => onM μ x fun ts p => ∃ y, ts[ts.length - 1]? = some y ∧ R y (μ.set p (.lst ts.dropLast))
  | .popAt, [.int i] => onM μ x fun ts p => ∃ k y, -(2 ^ 63) ≤ i ∧ i < 2 ^ 63 ∧ seqIndex? i ts.length = some k ∧ ts[k]? = some y ∧ R y (μ.set p (.lst (ts.eraseIdx k)))
  | .extend, [y] => onM μ x fun ts p => onS μ y fun us => ts.length + us.length ≤ sizeLine ∧ R .non (μ.set p (.lst (ts ++ us)))
  | .index, [y] => onL μ x fun ts => ∃ j z, flatT y = true ∧ ts.all flatT = true ∧ ts[j]? = some z ∧ eqT z y = true ∧ (∀ (n : Nat) (z' : T), n < j → ts[n]? = some z' → eqT z' y = false) ∧ R (.int (j : Nat)) μ
  | .insert, [.int i, y] => onM μ x fun ts p => ts.length < sizeLine ∧ 0 ≤ i ∧ i < 2 ^ 63 ∧ R .non (μ.set p (.lst (ts.take i.toNat ++ [y] ++ ts.drop i.toNat)))
  | .count, [.int k] => onL μ x fun ts => ∃ ns : List Int, ts = ns.map T.int ∧ R (.int (ns.count k : Nat)) μ
  | .remove, [.int k] => onM μ x fun ts p => ∃ (ns : List Int) (j : Nat), ts = ns.map T.int ∧ ns[j]? = some k ∧ (∀ m : Nat, m < j → ns[m]? ≠ some k) ∧ R .non (μ.set p (.lst ((ns.eraseIdx j).map T.int)))
  | .join, [y] => ∃ a, ∃ ys : List Str, x = .str a ∧ (vlst μ y = some (ys.map T.str) ∨ y = .tup (ys.map T.str)) ∧ (ys.map (·.length)).sum + ys.length * a.length ≤ 16777216 ∧ R (.str (Txt.join a ys)) μ
  | .split, [.str b] => ∃ a, x = .str a ∧ (b.length == 0) = false ∧ a.length + 2 ≤ sizeLine ∧ R (.lst ((Txt.split a b).map T.str)) μ
  | .partition, [.str b] => ∃ a, x = .str a ∧ (b.length == 0) = false ∧ a.length ≤ sizeLine ∧ R (.tup [.str (Txt.partition a b).1, .str (Txt.partition a b).2.1, .str (Txt.partition a b).2.2]) μ
  | .startswith, [.str b] => ∃ a, x = .str a ∧ R (.bl (Txt.startswith a b)) μ
  | _, _ => False
def lmId : Lm → String
  | .append => "list.append" | .pop => "list.pop" | .popAt => "list.pop" | .extend => "list.extend" | .index => "list.index" | .insert => "list.insert" | .remove => "list.remove" | .count => "list.count" | .join => "str.join" | .split => "str.split" | .partition => "str.partition" | .startswith => "str.startswith"
def lmName : Lm → Str
  | .append => "append" | .pop => "pop" | .popAt => "pop" | .extend => "extend" | .index => "index" | .insert => "insert" | .remove => "remove" | .count => "count" | .join => "join" | .split => "split" | .partition => "partition" | .startswith => "startswith"
def lmTy : Lm → String
  | .join => "str" | .split => "str" | .partition => "str" | .startswith => "str" | _ => "list"
/-- what a method is asked of -/
def rcv (m : Lm) (μ : Sto) (x : T) : Prop :=
  match m with
  | .join => ∃ z, x = .str z
  | .split => ∃ z, x = .str z
  | .partition => ∃ z, x = .str z
  | .startswith => ∃ z, x = .str z
  | _ => ∃ us, vlst μ x = some us
def OpM (K : PySem.W.Frag) (L : Lay) (tb : T → List T → Sto → RP → Prop) : V → List V → Hp → VK → Prop := fun x xs H Q => ∃ Φ B μ t ts R, St K L Φ H B μ ∧ Tr K B x t ∧ Trs K B xs ts ∧ tb t ts μ R ∧ Post K L Φ B R Q
section
variable {X : Cx} {L : Lay}
theorem onM_ok {K : PySem.W.Frag} {Φ H B : Hp} {μ : Sto} {x : T} {v : V} {k : List T → Addr → Prop} (S : St K L Φ H B μ) (r : Tr K B v x) (h : onM μ x k) : ∃ p vs ts, v = .ref p ∧ H p = some (.lst vs) ∧ Trs K B vs ts ∧ k ts p ∧ B p = none ∧ Φ p = none := by
  obtain ⟨p, ts, rfl, e, q⟩ := h
  obtain ⟨vs, h1, h2⟩ := S.mem e
  exact ⟨p, vs, ts, r, h1, h2, q, (S.sto p _ e).1, S.noF e⟩
theorem wr_ok {K : PySem.W.Frag} {Φ H B : Hp} {μ : Sto} {R : RP} {Q : VK} {y : V} {u : T} {p : Addr} {vs : List V} {ts : List T} (S : St K L Φ H B μ) (k : Post K L Φ B R Q) (hB : B p = none) (hF : Φ p = none) (r : Tr K B y u) (rs : Trs K B vs ts) (h : R u (μ.set p (.lst ts))) : Q y (upd H p (.lst vs)) :=
  k _ _ _ B _ (Same.refl _) (S.put hB hF (show ObOk K L (upd H p (.lst vs)) B p (.lst ts) from ⟨vs, upd_same, rs⟩)) r h
theorem lm_ok (m : Lm) : MtR X (lmId m) (OpM X.K L (tLm m)) := by
  intro pins s σ H x xs v us Q I rx rus ⟨Φ, B, μ, t, ts, R, S, r1, rs, h, k⟩
  unfold tLm at h
  split at h
  · obtain ⟨y, rfl, r2⟩ := rs.one
    obtain ⟨p, vs, us', rfl, h1, h2, ⟨hz, h⟩, hB, hF⟩ := onM_ok S r1 h
    have e := h2.length
    exact mt_append pins s σ H _ _ v us Q I rx rus ⟨p, vs, y, rfl, rfl, h1, by omega, wr_ok (u := .non) S k hB hF rfl (h2.append (Trs.cons r2 Trs.nil)) h⟩
  · cases (show xs = [] from rs)
    obtain ⟨p, vs, us', rfl, h1, h2, ⟨y, hy, h⟩, hB, hF⟩ := onM_ok S r1 h
    obtain ⟨w, ew, rw'⟩ := h2.get hy
    exact mt_pop pins s σ H _ _ v us Q I rx rus ⟨p, vs, w, rfl, rfl, h1, by rw [h2.length]; exact ew, wr_ok S k hB hF rw' h2.dropLast h⟩
  · obtain ⟨y, rfl, r2⟩ := rs.one
    obtain rfl := r2
    obtain ⟨p, vs, us', rfl, h1, h2, ⟨j, y, b1, b2, hj, hy, h⟩, hB, hF⟩ := onM_ok S r1 h
    obtain ⟨w, ew, rw'⟩ := h2.get hy
    exact mt_popAt pins s σ H _ _ v us Q I rx rus ⟨p, vs, _, j, w, rfl, rfl, h1, b1, b2, by rw [h2.length]; exact hj, ew, wr_ok S k hB hF rw' (h2.eraseIdx j) h⟩
  · obtain ⟨y, rfl, r2⟩ := rs.one
    obtain ⟨p, vs, us', rfl, h1, h2, h, hB, hF⟩ := onM_ok S r1 h
    obtain ⟨b, ws, us2, rfl, g1, g2, hz, h⟩ := onS_ok S r2 h
    have e := h2.length
    have e2 := g2.length
    exact mt_extend pins s σ H _ _ v us Q I rx rus ⟨p, b, vs, ws, rfl, rfl, h1, g1, by omega, wr_ok (u := .non) S k hB hF rfl (h2.append g2) h⟩
  · obtain ⟨y, rfl, r2⟩ := rs.one
    obtain ⟨a, vs, ts, rfl, h1, h2, j, z, f1, f2, hj, hz, hn, h⟩ := onL_ok S r1 h
    obtain ⟨w, ew, rw'⟩ := h2.get hj
    have fz : flatT z = true := List.all_eq_true.mp f2 z (List.mem_of_getElem? hj)
    refine mt_index pins s σ H _ _ v us Q I rx rus ⟨a, vs, y, j, w, rfl, rfl, h1, flat_one r2 f1, h2.flat f2, ew, by rw [eqT_ok rw' r2 fz f1]; exact hz, fun n z' hn' e => ?_, k.here S (show Tr X.K B (.int _) (.int _) from rfl) h⟩
    have hl : n < ts.length := by
      rw [← h2.length]
      exact (List.getElem?_eq_some_iff.mp e).1
    obtain ⟨w2, e2, r3⟩ := h2.get (List.getElem?_eq_getElem hl)
    rw [e] at e2
    cases e2
    rw [eqT_ok r3 r2 (List.all_eq_true.mp f2 _ (List.getElem_mem hl)) f1]
    exact hn n _ hn' (List.getElem?_eq_getElem hl)
  · obtain ⟨y, w, rfl, r2, r3⟩ := rs.two
    obtain rfl := r2
    obtain ⟨p, vs, us', rfl, h1, h2, ⟨hz, b1, b2, h⟩, hB, hF⟩ := onM_ok S r1 h
    have e := h2.length
    exact mt_insert pins s σ H _ _ v us Q I rx rus ⟨p, vs, _, w, rfl, rfl, h1, by omega, b1, b2, wr_ok (u := .non) S k hB hF rfl (((h2.take _).append (Trs.cons r3 Trs.nil)).append (h2.drop _)) h⟩
  · obtain ⟨y, rfl, r2⟩ := rs.one
    obtain rfl := r2
    obtain ⟨a, vs, ts, rfl, h1, h2, ns, rfl, h⟩ := onL_ok S r1 h
    have e := h2.ints
    subst e
    exact mt_lcount pins s σ H _ _ v us Q I rx rus ⟨a, ns, _, rfl, rfl, h1, k.here S (show Tr X.K B (.int _) (.int _) from rfl) h⟩
  · obtain ⟨y, rfl, r2⟩ := rs.one
    obtain rfl := r2
    obtain ⟨p, vs, us', rfl, h1, h2, ⟨ns, j, rfl, hj, hn, h⟩, hB, hF⟩ := onM_ok S r1 h
    have e := h2.ints
    subst e
    exact mt_remove pins s σ H _ _ v us Q I rx rus ⟨p, ns, _, j, rfl, rfl, h1, hj, hn, wr_ok (u := .non) S k hB hF rfl (Trs.of_ints _) h⟩
  · obtain ⟨y, rfl, r2⟩ := rs.one
    obtain ⟨a, ys, rfl, hy, hz, h⟩ := h
    obtain rfl := r1
    rcases hy with hy | rfl
    · obtain ⟨b, vs, rfl, h1, h2⟩ := vlst_ok S r2 hy
      have e := h2.strs
      subst e
      exact mt_join pins s σ H _ _ v us Q I rx rus ⟨a, b, ys, rfl, rfl, .inl h1, hz, k.here S (show Tr X.K B (.str _) (.str _) from rfl) h⟩
    · obtain ⟨b, vs, rfl, h1, h2⟩ := vtup_ok S r2 rfl
      have e := h2.strs
      subst e
      exact mt_join pins s σ H _ _ v us Q I rx rus ⟨a, b, ys, rfl, rfl, .inr h1, hz, k.here S (show Tr X.K B (.str _) (.str _) from rfl) h⟩
  · obtain ⟨y, rfl, r2⟩ := rs.one
    obtain ⟨a, rfl, hb, hz, h⟩ := h
    obtain rfl := r1
    obtain rfl := r2
    exact mt_split pins s σ H _ _ v us Q I rx rus ⟨a, _, rfl, rfl, hb, hz, fun p hp => newL_ok (own := false) S (Trs.of_strs _) h k hp⟩
  · obtain ⟨y, rfl, r2⟩ := rs.one
    obtain ⟨a, rfl, hb, hz, h⟩ := h
    obtain rfl := r1
    obtain rfl := r2
    exact mt_partition pins s σ H _ _ v us Q I rx rus ⟨a, _, rfl, rfl, hb, hz, fun p hp => newT_ok S (Trs.of_strs [_, _, _]) h k hp⟩
  · obtain ⟨y, rfl, r2⟩ := rs.one
    obtain ⟨a, rfl, h⟩ := h
    obtain rfl := r1
    obtain rfl := r2
    exact mt_startswith pins s σ H _ _ v us Q I rx rus ⟨a, _, rfl, rfl, k.here S (show Tr X.K B (.bl _) (.bl _) from rfl) h⟩
  · exact h.elim
end
end Rh

namespace Rh
open PySem PySem.Spec PyProof.Rows L2

/-! ## 8. The core: expressions by places and numbers, and what they mean on trees -/
inductive Tg where
  | nm (i : Nat) | tup (gs : List Tg)
inductive ItK where
  | val | tupl | strg | rng1 | rng2 | enum | zip | rev
inductive Ex where
  | var (i : Nat) | cint (i : Int) | cstr (s : Str) | cbl (b : Bool) | cnon | glob (k : Nat)
  | bin (op : Operator) (own : Bool) (a b : Ex) | cpow (a b v : Int) | neg (a : Ex)
  | cmp (op : CmpOp) (a b : Ex) | chain (op op' : CmpOp) (a b c : Ex)
  | andor (w : Bool) (es : List Ex) | not (a : Ex) | ife (c a b : Ex)
  | idx (a b : Ex) | slice (own : Bool) (a lo hi : Ex)
  | lst (own : Bool) (es : List Ex) | tup (es : List Ex) | dict (ks vs : List Ex)
  | bif (f : Bif) (own : Bool) (es : List Ex) | isi (ks : List String) (a : Ex)
  | call (f nd : Nat) (es : List Ex) | meth (f nd : Nat) (o : Ex) (es : List Ex) | make (c : Nat) (es : List Ex)
  | fld (c i : Nat) (o : Ex) | lm (m : Lm) (o : Ex) (es : List Ex)
  | comp (own : Bool) (vs : List Nat) (g : Tg) (k : ItK) (its : List Ex) (cond elt : Ex)
  | lrng (own : Bool) (a : Ex) | isx (i h : Nat)
  | nset (a : Ex) | isx2 (i h h' : Nat) | isc (d : Nat) (a : Ex) | chain3 (op op' op2 : CmpOp) (a b c d : Ex) | lrev (own : Bool) (a : Ex)
abbrev TEx := Ro → Sto → XP → RP → Prop
abbrev TTe := Ro → Sto → XP → (Bool → Sto → Prop) → Prop
abbrev TSp := List T → Sto → XP → RP → Prop
structure FnI where
  name : Str
  cls : Option Nat
  lvl : Nat
  np : Nat
  dfl : List Int
structure ClI where
  name : Str
  init : Nat
structure Tab where
  fn : Nat → Option FnI
  cl : Nat → Option ClI
  ex : Nat → Option Str
  con : Nat → Option (Str × T)
  flds : Nat → List Str
  xs : Bool
  xc : Bool
/-- defaults left out -/
def FnI.rest (i : FnI) (nd : Nat) : List Int := i.dfl.drop (i.dfl.length - nd)
def noX : XP := fun _ _ => False
abbrev any : Sto → Prop := fun _ => True

def unp (μ : Sto) : T → Option (List T)
  | .tup ts => some ts
  | t => vlst μ t
mutual
def bindT : Tg → T → Ro → Sto → (Ro → Prop) → Prop
  | .nm i, t, ρ, _, k => k (ρ.set i (some t))
  | .tup gs, t, ρ, μ, k => ∃ ts, unp μ t = some ts ∧ ts.length = gs.length ∧ bindTs gs ts ρ μ k
def bindTs : List Tg → List T → Ro → Sto → (Ro → Prop) → Prop
  | [], _, ρ, _, k => k ρ
  | g :: gs, ts, ρ, μ, k => ∃ t r, ts = t :: r ∧ bindT g t ρ μ fun ρ' => bindTs gs r ρ' μ k
end
def onG (μ : Sto) (t : T) (k : List T → (Sto → Prop) → Prop) : Prop :=
  match t with
  | .lst us => k us any
  | .scr us => k us any
  | .own p => ∃ us, μ p = some (.lst us) ∧ k us fun μ' => μ' p = some (.lst us)
  | _ => False
def signs (z : Str) : List T := z.cps.toList.map fun c => .str ⟨#[c]⟩
def itT (k : ItK) (ts : List T) (μ : Sto) (K : List T → (Sto → Prop) → Prop) : Prop :=
  match k, ts with
  | .strg, [t] => ∃ z, t = .str z ∧ K (signs z) any
  | .tupl, [t] => ∃ us, t = .tup us ∧ K us any
  | .val, [t] => onG μ t K
  | .rng1, [t] => ∃ n, t = .int n ∧ (-(2 ^ 62) ≤ n ∧ n < 2 ^ 62) ∧ K ((List.range n.toNat).map fun i => .int (i : Nat)) any
  | .rng2, [t, u] => ∃ a b, t = .int a ∧ u = .int b ∧ (-(2 ^ 62) ≤ a ∧ a < 2 ^ 62 ∧ -(2 ^ 62) ≤ b ∧ b < 2 ^ 62) ∧ K ((List.range (b - a).toNat).map fun i => .int (a + (i : Nat))) any
  | .enum, [t] => onG μ t fun us gd => K (us.zipIdx.map fun p => .tup [.int (p.2 : Nat), p.1]) gd
  | .zip, [t, u] => onG μ t fun us g1 => onG μ u fun ws g2 => K ((us.zip ws).map fun p => .tup [p.1, p.2]) fun μ' => g1 μ' ∧ g2 μ'
  | .rev, [t] => onG μ t fun us gd => K us.reverse gd
  | _, _ => False
def evs : List (TEx × TTe) → Ro → Sto → XP → (List T → Sto → Prop) → Prop
  | [], _, μ, _, k => k [] μ
  | p :: ps, ρ, μ, F, k => p.1 ρ μ F fun t μ1 => evs ps ρ μ1 F fun ts μ2 => k (t :: ts) μ2
def boV (w : Bool) : List (TEx × TTe) → TEx
  | [], _, _, _, _ => False
  | [p], ρ, μ, F, R => p.1 ρ μ F R
  | p :: ps, ρ, μ, F, R => p.1 ρ μ F fun t μ1 => truT μ1 t fun b => if b = w then boV w ps ρ μ1 F R else R t μ1
def boT (w : Bool) : List (TEx × TTe) → TTe
  | [], _, _, _, _ => False
  | [p], ρ, μ, F, k => p.2 ρ μ F k
  | p :: ps, ρ, μ, F, k => p.2 ρ μ F fun b μ1 => if b = w then boT w ps ρ μ1 F k else k b μ1
def plain (te : TEx) : TEx × TTe := (te, fun ρ μ F k => te ρ μ F fun t μ1 => truT μ1 t fun b => k b μ1)
def cmpd (te : TEx) : TEx × TTe := (te, fun ρ μ F k => te ρ μ F fun t μ1 => ∃ b, t = .bl b ∧ k b μ1)
def isStr (μ : Sto) : T → Option String
  | .non => some "NoneType" | .bl _ => some "bool" | .int _ => some "int" | .str _ => some "str" | .tup _ => some "tuple" | .lst _ => some "list" | .scr _ => none
  | .own p => match μ p with
    | some (.lst _) => some "list"
    | some (.dict _) => some "dict"
    | _ => none
def isT (t k : String) : Bool := t == k || (t == "bool" && k == "int")
def optI (lo : Ex) (t : T) : Option (Option Int) :=
  match lo, t with
  | .cnon, _ => some none
  | _, .int i => some (some i)
  | _, _ => none
/-- a list made item by item -/
def compD (own : Bool) (vs : List Nat) (g : Tg) (cond elt : TEx × TTe) (ρ : Ro) (R : RP) (ts : List T) (gd : Sto → Prop) (μ : Sto) : Prop :=
  ∃ I : List T → List T → Sto → Prop, I [] ts μ ∧ (∀ acc μ2, I acc [] μ2 → gd μ2 ∧ newL own acc μ2 R) ∧
    ∀ acc t r μ2, I acc (t :: r) μ2 → gd μ2 ∧ bindT g t (wipeT ρ vs) μ2 fun ρ' => cond.2 ρ' μ2 noX fun b μ3 =>
      if b = true then elt.1 ρ' μ3 noX fun y μ4 => acc.length < sizeLine ∧ ∃ y' μ5, WkV y μ4 y' μ5 ∧ I (acc ++ [y']) r μ5 else I acc r μ3
section
variable (G : Tab) (Γ : Nat → TSp)
mutual
def den : Ex → TEx × TTe
  | .var i => plain fun ρ μ _ R => ∃ t, ρ[i]? = some (some t) ∧ R t μ
  | .cint i => plain fun _ μ _ R => R (.int i) μ
  | .cstr s => plain fun _ μ _ R => R (.str s) μ
  | .cbl b => plain fun _ μ _ R => R (.bl b) μ
  | .cnon => plain fun _ μ _ R => R .non μ
  | .glob k => plain fun _ μ _ R => ∃ x, G.con k = some x ∧ R x.2 μ
  | .bin op own a b => plain fun ρ μ F R => (den a).1 ρ μ F fun x μ1 => (den b).1 ρ μ1 F fun y μ2 => tBin op own x y μ2 R
  | .cpow _ _ v => plain fun _ μ _ R => R (.int v) μ
  | .neg a => plain fun ρ μ F R => (den a).1 ρ μ F fun x μ1 => ∃ i, x = .int i ∧ R (.int (-i)) μ1
  | .cmp op a b => cmpd fun ρ μ F R => (den a).1 ρ μ F fun x μ1 => (den b).1 ρ μ1 F fun y μ2 => tCmp op x y μ2 R
  | .chain op op' a b c => cmpd fun ρ μ F R => (den a).1 ρ μ F fun x μ1 => (den b).1 ρ μ1 F fun y μ2 => tCmp op x y μ2 fun z μ3 => ∃ k, z = .bl k ∧ if k = true then (den c).1 ρ μ3 F fun w μ4 => tCmp op' y w μ4 R else R (.bl false) μ3
  | .andor w es => let ps := dens es; (boV w ps, boT w ps)
  | .not a => (fun ρ μ F R => (den a).1 ρ μ F fun t μ1 => truT μ1 t fun b => R (.bl (!b)) μ1, fun ρ μ F k => (den a).2 ρ μ F fun b μ1 => k (!b) μ1)
  | .ife c a b => (fun ρ μ F R => (den c).2 ρ μ F fun k μ1 => if k = true then (den a).1 ρ μ1 F R else (den b).1 ρ μ1 F R, fun _ _ _ _ => False)
  | .idx a b => plain fun ρ μ F R => (den a).1 ρ μ F fun x μ1 => (den b).1 ρ μ1 F fun y μ2 => tIdx x y μ2 R
  | .slice own a lo hi => plain fun ρ μ F R => (den a).1 ρ μ F fun x μ1 => (den lo).1 ρ μ1 F fun l μ2 => ∃ l', optI lo l = some l' ∧ (den hi).1 ρ μ2 F fun h μ3 => ∃ h', optI hi h = some h' ∧ tSlice own x l' h' μ3 R
  | .lst own es => let ps := dens es; plain fun ρ μ F R => evs ps ρ μ F fun ts μ1 => ts.length ≤ sizeLine ∧ newL own ts μ1 R
  | .tup es => let ps := dens es; plain fun ρ μ F R => evs ps ρ μ F fun ts μ1 => ts.length ≤ sizeLine ∧ R (.tup ts) μ1
  | .dict ks vs => let pk := dens ks; let pv := dens vs; plain fun ρ μ F R => match pk, pv with
    | [], [] => ∀ p, μ p = none → R (.own p) (μ.set p (.dict []))
    | [k], [v] => k.1 ρ μ F fun x μ1 => v.1 ρ μ1 F fun y μ2 => ∃ k', keyT x = some k' ∧ ∀ p, μ2 p = none → R (.own p) (μ2.set p (.dict [(k', y)]))
    | _, _ => False
  | .bif f own es => let ps := dens es; plain fun ρ μ F R => evs ps ρ μ F fun ts μ1 => tBif f own ts μ1 R
  | .isx i h => plain fun ρ μ F R => ∃ t, ρ[i]? = some (some t) ∧ Γ 999999 [t, .int h] μ F R
  | .nset a => plain fun ρ μ F R => (den a).1 ρ μ F fun x μ1 => ∃ ns : List Int, vlst μ1 x = some (ns.map T.int) ∧ ns.length ≤ 4000 ∧ R (.int ((PyProof.Rows.firstMet (fun i => ns.getD i 0) ns.length).length : Nat)) μ1
  | .isx2 i h h' => plain fun ρ μ F R => ∃ t, ρ[i]? = some (some t) ∧ Γ 999999 [t, .int h] μ F fun x μ1 => ∃ b, x = .bl b ∧ Γ 999999 [t, .int h'] μ1 F fun y μ2 => ∃ b', y = .bl b' ∧ R (.bl (b || b')) μ2
  | .isc d a => plain fun ρ μ F R => (den a).1 ρ μ F fun x μ1 => ∃ p us, x = .own p ∧ μ1 p = some (.obj d us) ∧ R (.bl true) μ1
  | .chain3 op op' op2 a b c d => cmpd fun ρ μ F R => (den a).1 ρ μ F fun x μ1 => (den b).1 ρ μ1 F fun y μ2 => tCmp op x y μ2 fun z μ3 => ∃ k, z = .bl k ∧ if k = true then (den c).1 ρ μ3 F fun w μ4 => tCmp op' y w μ4 fun z' μ5 => ∃ k', z' = .bl k' ∧ if k' = true then (den d).1 ρ μ5 F fun v μ6 => tCmp op2 w v μ6 R else R (.bl false) μ5 else R (.bl false) μ3
  | .lrng own a => plain fun ρ μ F R => (den a).1 ρ μ F fun x μ1 => ∃ n, x = .int n ∧ -(2 ^ 62) ≤ n ∧ n ≤ 16777216 ∧ newL own ((List.range n.toNat).map fun i => .int (i : Nat)) μ1 R
  | .lrev own a => plain fun ρ μ F R => (den a).1 ρ μ F fun x μ1 => ∃ us, vlst μ1 x = some us ∧ newL own us.reverse μ1 R
  | .isi ks a => plain fun ρ μ F R => (den a).1 ρ μ F fun x μ1 => ∃ n, isStr μ1 x = some n ∧ R (.bl (ks.any (isT n))) μ1
  | .call f nd es => let ps := dens es; plain fun ρ μ F R => evs ps ρ μ F fun ts μ1 => ∃ i, G.fn f = some i ∧ Γ f (ts ++ (i.rest nd).map T.int) μ1 F R
  | .meth f nd o es => let ps := dens es; plain fun ρ μ F R => (den o).1 ρ μ F fun x μ1 => ∃ i c p us, G.fn f = some i ∧ i.cls = some c ∧ x = .own p ∧ μ1 p = some (.obj c us) ∧
      evs ps ρ μ1 F fun ts μ2 => Γ f (x :: (ts ++ (i.rest nd).map T.int)) μ2 F R
  | .make c es => let ps := dens es; plain fun ρ μ F R => evs ps ρ μ F fun ts μ1 => ∃ i, G.cl c = some i ∧ ∀ p, μ1 p = none → Γ i.init (.own p :: ts) (μ1.set p (.obj c [])) F fun v μ2 => v = .non ∧ R (.own p) μ2
  | .fld c i o => plain fun ρ μ F R => (den o).1 ρ μ F fun x μ1 => ∃ p us t, x = .own p ∧ μ1 p = some (.obj c us) ∧ us[i]? = some t ∧ R t μ1
  | .lm m o es => let ps := dens es; plain fun ρ μ F R => (den o).1 ρ μ F fun x μ1 => rcv m μ1 x ∧ evs ps ρ μ1 F fun ts μ2 => tLm m x ts μ2 R
  | .comp own vs g k its cond elt => let ps := dens its; let pc := den cond; let pe := den elt; plain fun ρ μ F R => evs ps ρ μ F fun ts μ1 => itT k ts μ1 fun us gd => compD own vs g pc pe ρ R us gd μ1
def dens : List Ex → List (TEx × TTe)
  | [] => []
  | e :: es => den e :: dens es
end
end

/-! ## 9. The core against the text -/
structure SC where
  N : List Str
  sc : Scope
  k : Nat
  m : Nat
  hot : Bool
  as : Bool
def vis (sc : Scope) (x : Str) : Bool := match sc.names.lookup x with
  | some .local => true | some .cell => true | some .free => true | _ => false
def loc (sc : Scope) (x : Str) : Bool := match sc.names.lookup x with
  | some .local => true | some .cell => true | _ => false
def glb (sc : Scope) (x : Str) : Bool := match sc.names.lookup x with
  | some .globalImplicit => true | _ => false
def plainN (x : Str) : Bool := !(x == ("__debug__" : Str)) && !(x == ("__classdict__" : Str)) && !(x == ("__name__" : Str))
def notSet : Expr → Bool
  | .Set .. => false
  | _ => true
def notSup : Expr → Bool
  | .Call (.Name id _) [] [] _ => !(id == ("super" : Str))
  | _ => true
def ownNames (N : List Str) (vs : List Nat) : List (Str × Nat) := vs.filterMap fun i => (N[i]?).map fun x => (x, i)
mutual
def chkG (c : SC) : Tg → Expr → Bool
  | .nm i, .Name x _ => decide (c.N[i]? = some x) && loc c.sc x
  | .tup gs, .Tuple es _ _ => chkGs c gs es && !c.hot
  | _, _ => false
def chkGs (c : SC) : List Tg → List Expr → Bool
  | [], [] => true
  | g :: gs, e :: es => chkG c g e && chkGs c gs es
  | _, _ => false
end
mutual
def tgIn (vs : List Nat) : Tg → Bool
  | .nm i => decide (i ∈ vs)
  | .tup gs => tgsIn vs gs
def tgsIn (vs : List Nat) : List Tg → Bool
  | [] => true
  | g :: gs => tgIn vs g && tgsIn vs gs
end
def isTupE : Expr → Bool
  | .Tuple .. => true
  | _ => false
def gName (c : SC) (n : Str) (x : Str) : Bool := decide (x = n) && glb c.sc x
/-- the classes of isinstance -/
def chkKs (c : SC) : List String → Expr → Bool
  | [k], .Name x _ => decide (x = Str.ofString k) && glb c.sc x && decide (k ∈ ["int", "bool", "str", "list", "tuple", "dict"])
  | _, _ => false
/-- the name of an exception's class -/
def exName (G : Tab) (h : Nat) : Option Str := if h = 999 then some "ValueError" else G.ex h
/-- which exception a clause takes -/
def subX (G : Tab) (a h : Nat) : Bool := decide (a = h) || decide (G.ex h = some ("RateError" : Str)) || decide (h = 999)
def isCnon : Ex → Bool
  | .cnon => true
  | _ => false
def isCtrue : Ex → Bool
  | .cbl b => b
  | _ => false
section
variable (G : Tab)
def gFn (c : SC) (f nd k : Nat) (x : Str) : Bool := (match G.fn f with | some i => decide (i.name = x) && decide (i.cls = none) && decide (i.lvl ≤ c.k) && decide (nd ≤ i.dfl.length) && decide (k + nd = i.np) | none => false) && decide (f < c.m)
def gMt (c : SC) (f nd k : Nat) (m : Str) : Bool := (match G.fn f with | some i => decide (i.name = m) && (match i.cls with | some d => decide (m ∉ G.flds d) | none => false) && decide (i.lvl ≤ c.k) && decide (nd ≤ i.dfl.length) && decide (k + nd + 1 = i.np) | none => false) && decide (f < c.m)
def gMk (c : SC) (d k : Nat) (x : Str) : Bool := match G.cl d with | some i => decide (i.name = x) && decide (i.init < c.m) && (match G.fn i.init with | some j => decide (j.lvl < c.k) && decide (k + 1 = j.np) | none => false) | none => false
def gCl (d : Nat) (k : Str) : Bool := match G.cl d with | some i => decide (i.name = k) | none => false
def gCon (k : Nat) (x : Str) : Bool := match G.con k with | some y => decide (y.1 = x) | none => false
mutual
def chkE (c : SC) : Ex → Expr → Bool
  | .var i, e => (match e with | .Name x _ => decide (c.N[i]? = some x) && vis c.sc x && plainN x | _ => false)
  | .cint i, e => (match e with | .Constant (.int j) _ _ => decide (i = j) | _ => false)
  | .cstr s, e => (match e with | .Constant (.str t) _ _ => decide (s = t) | _ => false)
  | .cbl b, e => (match e with | .Constant (.bool d) _ _ => decide (b = d) | _ => false)
  | .cnon, e => (match e with | .Constant .none _ _ => true | _ => false)
  | .glob k, e => (match e with | .Name x _ => gCon G k x && glb c.sc x && plainN x | _ => false)
  | .bin op _ a b, e => (match e with | .BinOp x o y _ => decide (op = o) && chkE c a x && chkE c b y | _ => false)
  | .cpow a b v, e => (match e with | .BinOp (.Constant (.int i) _ _) .Pow (.Constant (.int j) _ _) _ => decide (a = i) && decide (b = j) && decide (0 ≤ b ∧ b ≤ 1000 ∧ a.natAbs < 2 ^ 64) && decide (a ^ b.toNat = v) | _ => false)
  | .neg a, e => (match e with | .UnaryOp .USub x _ => chkE c a x | _ => false)
  | .cmp op a b, e => (match e with | .Compare x [o] [y] _ => decide (op = o) && chkE c a x && chkE c b y && notSet y | _ => false)
  | .chain op op' a b d, e => (match e with | .Compare x [o, o'] [y, z] _ => decide (op = o) && decide (op' = o') && chkE c a x && chkE c b y && chkE c d z && notSet z | _ => false)
  | .andor w es, e => (match e with | .BoolOp o xs _ => decide (o = if w then .And else .Or) && chkEs c es xs | _ => false)
  | .not a, e => (match e with | .UnaryOp .Not x _ => chkE c a x | _ => false)
  | .ife d a b, e => (match e with | .IfExp z x y _ => chkE c d z && chkE c a x && chkE c b y | _ => false)
  | .idx a b, e => (match e with | .Subscript x y _ => chkE c a x && chkE c b y | _ => false)
  | .slice _ a lo hi, e => (match e with | .Subscript x (.Slice l h none _) _ => chkE c a x && (match l with | none => isCnon lo | some l => !isCnon lo && chkE c lo l) && (match h with | none => isCnon hi | some h => !isCnon hi && chkE c hi h) | _ => false)
  | .lst _ es, e => (match e with | .List xs _ => chkEs c es xs | _ => false)
  | .tup es, e => (match e with | .Tuple xs _ _ => chkEs c es xs | _ => false)
  | .dict ks vs, e => (match e with | .Dict [] [] _ => chkEs c ks [] && chkEs c vs [] | .Dict [some k] [v] _ => chkEs c ks [k] && chkEs c vs [v] | _ => false)
  | .bif f _ es, e => (match e with | .Call (.Name x _) xs [] _ => gName c (bifName f) x && chkEs c es xs && !xs.isEmpty && !c.hot | _ => false)
  | .lrng _ a, e => (match e with | .Call (.Name l _) [.Call (.Name f _) [x] [] _] [] _ => gName c "list" l && gName c "range" f && chkE c a x && !c.hot | _ => false)
  | .isi ks a, e => (match e with | .Call (.Name x _) [y, z] [] _ => gName c "isinstance" x && chkE c a y && chkKs c ks z | _ => false)
  | .isx i h, e => (match e with | .Call (.Name f _) [.Name x _, .Name k _] [] _ => gName c "isinstance" f && decide (c.N[i]? = some x) && vis c.sc x && plainN x && decide (exName G h = some k) && glb c.sc k && plainN k && c.as && G.xs | _ => false)
  | .call f nd es, e => (match e with | .Call (.Name x _) xs [] _ => gFn G c f nd xs.length x && glb c.sc x && plainN x && chkEs c es xs && !c.hot | _ => false)
  | .meth f nd o es, e => (match e with | .Call (.Attribute y m apos) xs [] cpos => (apos.endLine == cpos.line) && decide (xs.length < 30) && gMt G c f nd xs.length m && chkE c o y && notSup y && chkEs c es xs && !c.hot | _ => false)
  | .make d es, e => (match e with | .Call (.Name x _) xs [] _ => gMk G c d xs.length x && glb c.sc x && plainN x && chkEs c es xs && !c.hot | _ => false)
  | .fld d i o, e => (match e with | .Attribute y f _ => chkE c o y && notSup y && decide ((G.flds d)[i]? = some f) | _ => false)
  | .lm m o es, e => (match e with | .Call (.Attribute y f apos) xs [] cpos => decide (f = lmName m) && (apos.endLine == cpos.line) && chkE c o y && notSup y && chkEs c es xs && decide (xs.length < 30) | _ => false)
  | .comp _ vs g k its cond elt, e => (match e with | .ListComp z [⟨tg, iter, ifs, 0⟩] scope _ => chkIt c k its iter tg && chkG { c with sc := scope } g tg && (match ifs with | [] => isCtrue cond | [d] => chkE { c with sc := scope } cond d | _ => false) && chkE { c with sc := scope } elt z && blkC c.N c.sc scope (ownNames c.N vs) && decide ((ownNames c.N vs).map (·.2) = vs) && tgIn vs g && !c.hot | _ => false)
  | .nset a, e => (match e with | .Call (.Name l _) [.Call (.Name f _) [x] [] _] [] _ => gName c "len" l && gName c "set" f && chkE c a x && !c.hot | _ => false)
  | .isx2 i h h', e => (match e with | .Call (.Name f _) [.Name x _, .Tuple [.Name k _, .Name k' _] _ _] [] _ => gName c "isinstance" f && decide (c.N[i]? = some x) && vis c.sc x && plainN x && decide (exName G h = some k) && glb c.sc k && plainN k && decide (exName G h' = some k') && glb c.sc k' && plainN k' && c.as && G.xs | _ => false)
  | .isc d a, e => (match e with | .Call (.Name f _) [y, .Name k _] [] _ => gName c "isinstance" f && chkE c a y && gCl G d k && glb c.sc k && plainN k && G.xc | _ => false)
  | .chain3 op op' op2 a b d f, e => (match e with | .Compare x [o, o', o2] [y, z, w] _ => decide (op = o) && decide (op' = o') && decide (op2 = o2) && chkE c a x && chkE c b y && chkE c d z && chkE c f w && notSet w | _ => false)
  | .lrev _ a, e => (match e with | .Call (.Name l _) [.Call (.Name f _) [x] [] _] [] _ => gName c "list" l && gName c "reversed" f && chkE c a x && !c.hot | _ => false)
def chkEs (c : SC) : List Ex → List Expr → Bool
  | [], xs => xs.isEmpty
  | e :: es, xs => (match xs with | [] => false | x :: xs => chkE c e x && chkEs c es xs)
def chkIt (c : SC) : ItK → List Ex → Expr → Expr → Bool
  | k, [a], e, tg => (match k, e with
    | .val, x => chkE c a x && notSet x
    | .tupl, x => chkE c a x && notSet x
    | .strg, x => chkE c a x && notSet x
    | .rng1, .Call (.Name f _) [x] [] _ => gName c "range" f && chkE c a x
    | .enum, .Call (.Name f _) [x] [] _ => gName c "enumerate" f && chkE c a x && isTupE tg
    | .rev, .Call (.Name f _) [x] [] _ => gName c "reversed" f && chkE c a x
    | _, _ => false)
  | k, [a, b], e, tg => (match k, e with
    | .rng2, .Call (.Name f _) [x, y] [] _ => gName c "range" f && chkE c a x && chkE c b y
    | .zip, .Call (.Name f _) [x, y] [] _ => gName c "zip" f && chkE c a x && chkE c b y && isTupE tg
    | _, _ => false)
  | _, _, _, _ => false
end
end
end Rh

namespace Rh
open PySem PySem.Spec PyProof.Rows L2

/-! ## 10. What is known of the whole text -/
def spOf (K : PySem.W.Frag) (L : Lay) (n : Nat) (S : TSp) : Sp := fun vs H Q E => vs.length = n ∧ ∃ Φ B μ ts R F, St K L Φ H B μ ∧ Trs K B vs ts ∧ S ts μ F R ∧ Post K L Φ B R Q ∧ PostX K L Φ B F E
def blNames : List Str := ["len", "sum", "max", "min", "list", "tuple", "sorted", "all", "any", "str", "int", "bool", "dict", "isinstance", "range", "enumerate", "zip", "reversed", "ValueError", "set"]
structure FnF (K : PySem.W.Frag) (mg : Str → Option Value) (L : Lay) (P : Program) (w : World) (base : Heap) (Γ : TSp) (i : FnI) (a : Addr) (fd : FuncData) (ps : List Str) : Prop where
  ok : FnOk P w K mg base (L2.CX P w) i.lvl a fd ps (spOf K L i.np Γ)
  kp : PySem.W.keepIn K (.ref a) = true
  bi : ∀ nd, nd ≤ i.dfl.length → ∃ ds, Binds K fd ps ds ∧ Vals ((i.rest nd).map V.int) ds
  mg_ : i.cls = none → mg i.name = some (.ref a)
  me : ∀ c, i.cls = some c → Meth K (L.addr c) i.name a
structure ExF (K : PySem.W.Frag) (mg : Str → Option Value) (n : Str) (a : Addr) : Prop where
  mg_ : mg n = some (.ref a)
  ex : PySem.W.excIn K a [.type "ValueError", .type "Exception", .type "BaseException", .type "object"] "ValueError.__new__" = true
  kp : PySem.W.keepIn K (.ref a) = true
  sb : PySem.W.subIn K (.ref a) (.type "BaseException") = some true
  ty : PySem.W.typeIn K (.ref a) = some (.type "type")
structure ClF (K : PySem.W.Frag) (mg : Str → Option Value) (G : Tab) (L : Lay) (c : Nat) (i : ClI) : Prop where
  mg_ : mg i.name = some (.ref (L.addr c))
  cl : Cls K (L.addr c)
  mks : PySem.W.makesIn K (L.addr c) = true
  kp : PySem.W.keepIn K (.ref (L.addr c)) = true
  no : ∀ f, f ∈ G.flds c → NoAttr K (L.addr c) f
  nd : (G.flds c).Nodup
  sz : (G.flds c).length < 1000
  ini : ∃ j, G.fn i.init = some j ∧ j.cls = some c ∧ j.name = "__init__" ∧ j.dfl = []
structure GOk (G : Tab) (Γ : Nat → TSp) (L : Lay) (m : Nat) (P : Program) (w : World) (K : PySem.W.Frag) (mg : Str → Option Value) (base : Heap) : Prop where
  fn : ∀ f i, f < m → G.fn f = some i → ∃ a fd ps, FnF K mg L P w base (Γ f) i a fd ps
  cl : ∀ c i, G.cl c = some i → ClF K mg G L c i
  ex : ∀ x n, G.ex x = some n → ExF K mg n (L.exc x)
  bl : ∀ n ∈ blNames, mg n = none
  con : ∀ k y, G.con k = some y → ∃ v u, mg y.1 = some u ∧ RelV v u ∧ ∀ B, Tr K B v y.2
  fl : L.flds = G.flds
  ki : G.xs = true → ∀ a n, G.ex a = some n → (∀ h m, G.ex h = some m → PySem.W.kitOne K (.ref (L.exc a)) (.ref (L.exc h)) = some (subX G a h)) ∧ PySem.W.kitOne K (.ref (L.exc a)) (.type "ValueError") = some true ∧ ExcC K (L.exc a)
  kc : G.xc = true → ∀ d i, G.cl d = some i → C8.InsC K (L.addr d)
  su : ∀ a h n m, G.ex a = some n → G.ex h = some m → PySem.W.exmOne K (.ref (L.exc a)) (.ref (L.exc h)) = some (subX G a h)
/-- what a suite knows of the exception that it has taken -/
def S_cur (G : Tab) (p : Addr) (a : Nat) : TSp := fun ts μ _ R => ∃ h, ts = [.own p, .int (h : Nat)] ∧ (exName G h).isSome = true ∧ R (.bl (subX G a h)) μ
structure Ctx (G : Tab) (Γ : Nat → TSp) (L : Lay) (c : SC) (X : Cx) (W : WX) : Prop where
  N : X.N = c.N
  nd : c.N.Nodup
  vi : ∀ x, vis c.sc x = true → Vis X.env.scope x
  st : ∀ x, loc c.sc x = true → Loc X.env.scope x ∧ (X.fn x = true ∨ X.env.scope.names.lookup x = some .local)
  gl : ∀ x, glb c.sc x = true → Gl X x
  fc : ∀ x, c.sc.names.lookup x = some .cell ∨ c.sc.names.lookup x = some .free → X.env.scope.names.lookup x = some .cell ∨ X.env.scope.names.lookup x = some .free
  room : c.hot = false → Room c.k X.A
  hu : X.A.units + 65 < cLine
  calm : c.hot = false → X.calm = true
  tk : Takes X W
  cu : c.as = true → c.hot = true ∧ ∃ (X0 : Cx) (p : Addr) (oe : Obj) (pn : List (Addr × Obj)) (a : Nat) (n : Str), X = X0.suite p ((p, oe) :: pn) ∧ G.ex a = some n ∧ Zc (.ref (L.exc a)) Option.none oe ∧ (∃ vs, oe.data = .fields vs) ∧ Γ 999999 = S_cur G p a
  g : GOk G Γ L c.m X.prog X.w X.K X.mg X.base

/-! ## 11. The meaning of a piece of the text, as one reading -/
def sE (X : Cx) (e : Expr) : TE := fun σ H Q => ∀ pins s, L2.Inv X pins σ H s → wpAny (model X.prog X.w) X.A (eval e X.env) (EP X pins σ Q) X.xe s
def sT (X : Cx) (e : Expr) : TT := fun σ H Q => ∀ pins s, L2.Inv X pins σ H s → wpAny (model X.prog X.w) X.A (isTrue e X.env (eval e X.env)) (TP X pins σ Q) X.xe s
def sA (X : Cx) (es : List Expr) : TA := fun σ H Q => ∀ pos pins s, L2.Inv X pins σ H s → wpAny (model X.prog X.w) X.A (spliced (backTo pos (starEach es X.env))) (AP X pins σ Q) X.xe s
def sG (X : Cx) (e : Expr) : TG := fun v σ H Q => ∀ pins s u, L2.Inv X pins σ H s → RelV v u → wpAny (model X.prog X.w) X.A (assign e X.env u) (fun _ s' => ∃ σ' H', L2.Inv X pins σ' H' s' ∧ Q σ' H') X.xe s
theorem pe_s {X : Cx} {e : Expr} : PE X e (sE X e) := ⟨fun pins s _ _ _ I h => h pins s I⟩
theorem pt_s {X : Cx} {e : Expr} : PT X e (sT X e) := ⟨fun pins s _ _ _ I h => h pins s I⟩
theorem pa_s {X : Cx} {es : List Expr} : PA X es (sA X es) := ⟨fun pos pins s _ _ _ I h => h pos pins s I⟩
theorem pg_s {X : Cx} {e : Expr} : PG X e (sG X e) := ⟨fun pins s _ _ _ u _ I r h => h pins s u I r⟩
theorem sE_of {X : Cx} {e : Expr} {t : TE} {σ : L2.St} {H : Hp} {Q : VK} (p : PE X e t) (h : t σ H Q) : sE X e σ H Q := fun pins s I => p.run pins s σ H Q I h
theorem sT_of {X : Cx} {e : Expr} {t : TT} {σ : L2.St} {H : Hp} {Q : Bool → Hp → Prop} (p : PT X e t) (h : t σ H Q) : sT X e σ H Q := fun pins s I => p.run pins s σ H Q I h
theorem sA_of {X : Cx} {e : List Expr} {t : TA} {σ : L2.St} {H : Hp} {Q : List V → Hp → Prop} (p : PA X e t) (h : t σ H Q) : sA X e σ H Q := fun pos pins s I => p.run pos pins s σ H Q I h
theorem sG_of {X : Cx} {e : Expr} {t : TG} {v : V} {σ : L2.St} {H : Hp} {Q : L2.St → Hp → Prop} (p : PG X e t) (h : t v σ H Q) : sG X e v σ H Q := fun pins s u I r => p.run pins s σ H v u Q I r h
theorem sE_mono {X : Cx} {e : Expr} {σ : L2.St} {H : Hp} {Q Q' : VK} (h : sE X e σ H Q) (k : ∀ v H', Q v H' → Q' v H') : sE X e σ H Q' := fun pins s I => thn (h pins s I) fun u s' ⟨v, H', I', r, q⟩ => ⟨v, H', I', r, k v H' q⟩

def PostA (K : PySem.W.Frag) (L : Lay) (Φ B : Hp) (n : Nat) (R : List T → Sto → Prop) (Q : List V → Hp → Prop) : Prop := ∀ vs ts H' B' μ', Le B B' → St K L Φ H' B' μ' → Trs K B' vs ts → ts.length = n → R ts μ' → Q vs H'
def VOk (X : Cx) (L : Lay) (W : WX) (e : Expr) (te : TEx) : Prop := ∀ Φ B μ H σ ρ F R Q, St X.K L Φ H B μ → Slots X.K B σ ρ → te ρ μ F R → PostX X.K L Φ B F (WE W σ) → Post X.K L Φ B R Q → sE X e σ H Q
def TOk (X : Cx) (L : Lay) (W : WX) (e : Expr) (tt : TTe) : Prop := ∀ Φ B μ H σ ρ F R Q, St X.K L Φ H B μ → Slots X.K B σ ρ → tt ρ μ F R → PostX X.K L Φ B F (WE W σ) → PostB X.K L Φ B R Q → sT X e σ H Q
def AOk (X : Cx) (L : Lay) (W : WX) (es : List Expr) (ps : List (TEx × TTe)) : Prop := ∀ Φ B μ H σ ρ F R Q, St X.K L Φ H B μ → Slots X.K B σ ρ → evs ps ρ μ F R → PostX X.K L Φ B F (WE W σ) → PostA X.K L Φ B es.length R Q → sA X es σ H Q
structure Stat (x : Expr) : Prop where
  star : ∀ (env : Env) (es : List Expr), starEach (x :: es) env = (false, eval x env) :: starEach es env
  ix : PlainIx x
  asg : ∀ (o : Expr) (p : Pos) (env : Env) (v : Value), assign (.Subscript o x p) env v = (do
    let ov ← holding [v] (eval o env)
    let iv ← holding [v, ov] (eval x env)
    standAt p
    holding [v, ov, iv] (setItem ov iv v)
    release [v, ov, iv] [])
  aug : ∀ (ov iv new : Value), augStore x ov iv new = (do holding [new, ov, iv] (setItem ov iv new); release [new, ov, iv] []; pure .next)
structure EOk (X : Cx) (L : Lay) (W : WX) (e : Expr) (p : TEx × TTe) : Prop where
  v : VOk X L W e p.1
  t : TOk X L W e p.2
section
variable {X : Cx} {L : Lay} {W : WX}
theorem EOk.plain {e : Expr} {te : TEx} (h : VOk X L W e te) (he : ∀ whole, isTrue e X.env whole = (do let v ← whole; standAt e.pos; holding [v] (truthy v))) : EOk X L W e (Rh.plain te) :=
  ⟨h, fun Φ B μ H σ ρ F R Q S sl q kx k => sT_of (pt_truth pe_s he) (h Φ B μ H σ ρ F _ _ S sl q kx fun v t H' B' μ' le S' r q' => by
    obtain ⟨b, h1, h2⟩ := tru_okT S' r q'
    exact ⟨b, h1, k b H' B' μ' le S' h2⟩)⟩
theorem Paired.map_len {α β : Type} {G : α → β → Prop} {l : List α} {m : List β} (h : Paired G l m) : l.length = m.length := Paired.length h
theorem AOk.of : ∀ {es : List Expr} {ps : List (TEx × TTe)}, Paired (fun e p => EOk X L W e p ∧ Stat e) es ps → AOk X L W es ps
  | _, _, .nil => fun Φ B μ H σ ρ F R Q S sl h kx k => sA_of pa_nil (k [] [] H B μ (Same.refl _) S rfl rfl h)
  | _, _, .cons (l₁ := es) ⟨h1, st⟩ hs => fun Φ B μ H σ ρ F R Q S sl h kx k => by
    refine sA_of (pa_cons pe_s pa_s (st.star _ _)) ?_
    refine h1.v Φ B μ H σ ρ F _ _ S sl h kx fun v t H1 B1 μ1 l1 S1 r1 q1 => ?_
    refine AOk.of hs Φ B1 μ1 H1 σ ρ F _ _ S1 (sl.mono l1) q1 (kx.mono l1) fun vs ts H2 B2 μ2 l2 S2 r2 n2 q2 => ?_
    exact k (v :: vs) (t :: ts) H2 B2 μ2 (l1.trans l2) S2 (Trs.cons (r1.mono l2) r2) (by simp [n2]) q2
theorem star_plain : ∀ {es : List Expr} {ps : List (TEx × TTe)}, Paired (fun e p => EOk X L W e p ∧ Stat e) es ps → ∀ (env : Env) (pos : Pos), (backTo pos (starEach es env)).any (·.1) = false
  | _, _, .nil, _, _ => rfl
  | _, _, .cons ⟨_, st⟩ hs, env, pos => by
    rw [st.star]
    show (false || (backTo pos (starEach _ env)).any (·.1)) = false
    rw [Bool.false_or]
    exact star_plain hs env pos
theorem notSup_base {o : Expr} {attr : Str} {env : Env} (h : notSup o = true) : attributeBase o attr env (eval o env) = eval o env := by
  unfold attributeBase
  split
  · rename_i id _ _
    have q : (id == ("super" : Str)) = false := by simpa [notSup] using h
    have q' : (id != ("super" : Str)) = true := by unfold bne; rw [q]; rfl
    have e : (id != ("super" : Str) || attr == ("__class__" : Str) || env.kindOf "super" != some .globalImplicit || env.kindOf "__class__" != some .free) = true := by rw [q']; rfl
    rw [if_pos e]
  · rfl
theorem marks {op : CmpOp} {y : Expr} (h : notSet y = true) : behindInMarks op y = false := by
  cases y <;> first | rfl | cases h
theorem folded {x : Expr} {env : Env} (h : notSet x = true) : ∀ v, foldedSetIterable x env v = pure v := fun v => by
  cases x <;> first | rfl | cases h
end
end Rh

namespace Rh
open PySem PySem.Spec PyProof.Rows L2

/-! ## 12. Targets -/
theorem wipe_at (σ : L2.St) (j : Nat) : ∀ vs : List Nat, (L2.wipe σ vs)[j]? = if j ∈ vs then (σ[j]?).map (fun _ => none) else σ[j]?
  | [] => by simp [L2.wipe]
  | v :: vs => by
    have ih := wipe_at σ j vs
    unfold L2.wipe
    by_cases e : v = j
    · subst e
      rw [if_pos List.mem_cons_self]
      by_cases hl : v < σ.length
      · rw [List.getElem?_set_self (by rw [wipe_length]; exact hl), List.getElem?_eq_getElem hl]
        rfl
      · rw [List.getElem?_eq_none (by rw [List.length_set, wipe_length]; omega), List.getElem?_eq_none (by omega)]
        rfl
    · rw [List.getElem?_set_ne e, ih]
      have : (j ∈ v :: vs) ↔ j ∈ vs := by
        simp only [List.mem_cons]
        exact ⟨fun h => h.resolve_left fun z => e z.symm, .inr⟩
      simp only [this]
theorem wipe_set {σ : L2.St} {i : Nat} {x : Option V} {vs : List Nat} (h : i ∈ vs) : L2.wipe (σ.set i x) vs = L2.wipe σ vs := by
  refine List.ext_getElem? fun j => ?_
  rw [wipe_at, wipe_at]
  by_cases hj : j ∈ vs
  · rw [if_pos hj, if_pos hj]
    by_cases e : i = j
    · subst e
      by_cases hl : i < σ.length
      · rw [List.getElem?_set_self hl, List.getElem?_eq_getElem hl]
        rfl
      · rw [List.getElem?_eq_none (by rw [List.length_set]; omega), List.getElem?_eq_none (by omega)]
    · rw [List.getElem?_set_ne e]
  · rw [if_neg hj, if_neg hj, List.getElem?_set_ne (fun z : i = j => hj (by rw [← z]; exact h))]
theorem wipe_wipe {σ : L2.St} {vs : List Nat} : L2.wipe (L2.wipe σ vs) vs = L2.wipe σ vs := by
  refine List.ext_getElem? fun j => ?_
  rw [wipe_at, wipe_at]
  split
  · cases σ[j]? <;> rfl
  · rfl
section
variable {X : Cx} {L : Lay} {W : WX} {G : Tab} {Γ : Nat → TSp} {c : SC}
theorem unp_ok {K : PySem.W.Frag} {Φ H B : Hp} {μ : Sto} {t : T} {ts : List T} {v : V} (S : St K L Φ H B μ) (r : Tr K B v t) (h : unp μ t = some ts) : ∃ a vs, v = .ref a ∧ (SqT K H a vs ∨ SqL K H a vs) ∧ Trs K B vs ts := by
  unfold unp at h
  split at h
  · cases h
    obtain ⟨a, vs, e, h1, h2⟩ := vtup_ok S r rfl
    exact ⟨a, vs, e, .inl h1, h2⟩
  · obtain ⟨a, vs, e, h1, h2⟩ := vlst_ok S r h
    exact ⟨a, vs, e, .inr h1, h2⟩
def sGs (X : Cx) (es : List Expr) : TGs := fun vs σ H Q => ∀ pins s us, L2.Inv X pins σ H s → Vals vs us → wpAny (model X.prog X.w) X.A (assignInOrder ((assignEach es X.env).map (·.2)) us) (fun _ s' => ∃ σ' H', L2.Inv X pins σ' H' s' ∧ Q σ' H') X.xe s
theorem pgs_s {X : Cx} {es : List Expr} : PGs X es (sGs X es) := ⟨fun pins s _ _ _ us _ I r h => h pins s us I r⟩
def GOk1 (X : Cx) (L : Lay) (g : Tg) (e : Expr) : Prop := ∀ Φ B μ H σ ρ v t k Q, St X.K L Φ H B μ → Slots X.K B σ ρ → Tr X.K B v t → bindT g t ρ μ k →
  (∀ σ' ρ', Slots X.K B σ' ρ' → (∀ vs, tgIn vs g = true → L2.wipe σ' vs = L2.wipe σ vs) → k ρ' → Q σ' H) → sG X e v σ H Q
def GOks (X : Cx) (L : Lay) (gs : List Tg) (es : List Expr) : Prop := ∀ Φ B μ H σ ρ vs ts k Q, St X.K L Φ H B μ → Slots X.K B σ ρ → Trs X.K B vs ts → bindTs gs ts ρ μ k →
  (∀ σ' ρ', Slots X.K B σ' ρ' → (∀ ws, tgsIn ws gs = true → L2.wipe σ' ws = L2.wipe σ ws) → k ρ' → Q σ' H) → sGs X es vs σ H Q
mutual
theorem tg_ok (C : Ctx G Γ L c X W) : ∀ (g : Tg) (e : Expr), chkG c g e = true → GOk1 X L g e
  | .nm i, .Name x pos, h => fun Φ B μ H σ ρ v t k Q S sl r q kk => by
    simp only [chkG, Bool.and_eq_true, decide_eq_true_eq] at h
    obtain ⟨h1, h2⟩ := C.st x h.2
    have hN : X.N[i]? = some x := by rw [C.N]; exact h.1
    refine sG_of (pg_name (by rw [C.N]; exact C.nd) hN h1 h2) ?_
    exact kk _ _ (sl.set i r) (fun vs hv => wipe_set (by simpa [tgIn] using hv)) q
  | .tup gs, .Tuple es kk2 pos, h => fun Φ B μ H σ ρ v t k Q S sl r q kk => by
    have h' : (chkGs c gs es && !c.hot) = true := h
    rw [Bool.and_eq_true, Bool.not_eq_true'] at h'
    obtain ⟨hs, hh⟩ := h'
    obtain ⟨q1, q2, q3⟩ := tgs_ok C gs es hs
    unfold bindT at q
    obtain ⟨ts, e1, e2, q⟩ := q
    obtain ⟨a, vs, rfl, hq, r2⟩ := unp_ok S r e1
    have fin := q1 Φ B μ H σ ρ vs ts k Q S sl r2 q fun σ' ρ' s' w' k' => kk σ' ρ' s' (fun vs hv => w' vs (by simpa [tgIn] using hv)) k'
    have hl : vs.length = gs.length := by rw [r2.length]; exact e2
    rcases hq with hq | hq
    · exact sG_of (pg_tup (n := gs.length) (C.calm hh) pgs_s q2 q3) ⟨a, vs, rfl, hq, hl, fin⟩
    · exact sG_of (pg_lst (n := gs.length) (C.calm hh) pgs_s q2 q3) ⟨a, vs, rfl, hq, hl, fin⟩
theorem tgs_ok (C : Ctx G Γ L c X W) : ∀ (gs : List Tg) (es : List Expr), chkGs c gs es = true → GOks X L gs es ∧ (assignEach es X.env).length = gs.length ∧ (assignEach es X.env).findIdx? (·.1) = none
  | [], [], _ => ⟨fun Φ B μ H σ ρ vs ts k Q S sl r q kk => by
      cases ts with
      | nil =>
        cases (show vs = [] from r)
        exact fun pins s us I rv => pgs_nil.run pins s σ H [] us Q I rv ⟨rfl, kk σ ρ sl (fun _ _ => rfl) q⟩
      | cons t ts =>
        obtain ⟨v, vr, rfl, r1, r2⟩ := r
        exact fun pins s us I rv => by
          cases rv
          exact assignInOrder_nil ⟨σ, H, I, kk σ ρ sl (fun _ _ => rfl) q⟩, rfl, rfl⟩
  | g :: gs, e :: es, h => by
    simp only [chkGs, Bool.and_eq_true] at h
    have i1 := tg_ok C g e h.1
    obtain ⟨i2, i3, i4⟩ := tgs_ok C gs es h.2
    have e0 : assignEach (e :: es) X.env = (false, assign e X.env) :: assignEach es X.env := by
      cases e <;> first | rfl | (cases g <;> simp [chkG] at h)
    refine ⟨fun Φ B μ H σ ρ vs ts k Q S sl r q kk => ?_, by rw [e0]; simp [i3], by rw [e0]; simp [List.findIdx?_cons, i4]⟩
    unfold bindTs at q
    obtain ⟨t, tr, rfl, q⟩ := q
    obtain ⟨v, vr, rfl, r1, r2⟩ := r
    intro pins s us I rv
    refine (pgs_cons (X := X) (t := sG X e) (u := sGs X es) pg_s pgs_s (by rw [e0]; rfl)).run pins s σ H (v :: vr) us Q I rv ⟨v, vr, rfl, ?_⟩
    refine i1 Φ B μ H σ ρ v t _ _ S sl r1 q fun σ1 ρ1 s1 w1 k1 => ?_
    refine i2 Φ B μ H σ1 ρ1 vr tr k Q S s1 r2 k1 fun σ2 ρ2 s2 w2 k2 => ?_
    refine kk σ2 ρ2 s2 (fun ws hw => ?_) k2
    simp only [tgsIn, Bool.and_eq_true] at hw
    rw [w2 ws hw.2, w1 ws hw.1]
end
end

/-! ## 13. What a loop walks -/
structure Sim (K : PySem.W.Frag) (L : Lay) (B0 : Hp) (J : It) (ts : List T) (gd : Sto → Prop) : Prop where
  go : ∀ Φ i H B μ, Le B0 B → St K L Φ H B μ → gd μ → i < ts.length → J.go i H ∧ ∀ x H', J.yld i H x H' → ∃ B' t, Le B B' ∧ St K L Φ H' B' μ ∧ ts[i]? = some t ∧ Tr K B' x t
  stop : ∀ Φ i H B μ, Le B0 B → St K L Φ H B μ → gd μ → ts.length ≤ i → J.stop i H
def LSrc (K : PySem.W.Frag) (L : Lay) (B0 : Hp) (a : Addr) (us : List T) (gd : Sto → Prop) : Prop := ∀ Φ H B μ, Le B0 B → St K L Φ H B μ → gd μ → ∃ vs, SqL K H a vs ∧ Trs K B vs us
section
variable {K : PySem.W.Frag} {L : Lay} {Φ B0 H : Hp} {μ : Sto} {a : Addr} {us : List T} {gd : Sto → Prop}
theorem onG_ok {t : T} {v : V} {k : List T → (Sto → Prop) → Prop} (S : St K L Φ H B0 μ) (r : Tr K B0 v t) (h : onG μ t k) : ∃ a us gd, v = .ref a ∧ LSrc K L B0 a us gd ∧ gd μ ∧ k us gd := by
  unfold onG at h
  split at h
  · obtain ⟨a, vs, e, h1, h2⟩ := r
    exact ⟨a, _, any, e, fun Φ H B μ le S' _ => ⟨vs, .of (S'.sub _ _ (le _ _ h1)), h2.mono le⟩, trivial, h⟩
  · obtain ⟨a, vs, e, h1, h2⟩ := r
    exact ⟨a, _, any, e, fun Φ H B μ le S' _ => ⟨vs, Same.seq S'.sub (Same.seq le h1), h2.mono le⟩, trivial, h⟩
  · obtain ⟨us, e, h⟩ := h
    refine ⟨_, us, _, r, fun Φ H B μ le S' g => ?_, e, h⟩
    obtain ⟨vs, h1, h2⟩ := S'.mem g
    exact ⟨vs, .of h1, h2⟩
  · exact h.elim
theorem sim_list (l : LSrc K L B0 a us gd) : Sim K L B0 (Itl K a) us gd where
  go := fun Φ i H B μ le S g hi => by
    obtain ⟨vs, h1, h2⟩ := l Φ H B μ le S g
    obtain ⟨v, e, r⟩ := h2.get (List.getElem?_eq_getElem hi)
    exact ⟨⟨vs, v, h1, e⟩, fun x H' ⟨e1, y⟩ => by
      subst e1
      have z := y vs h1
      rw [e] at z
      cases z
      exact ⟨B, _, Same.refl _, S, List.getElem?_eq_getElem hi, r⟩⟩
  stop := fun Φ i H B μ le S g hi => by
    obtain ⟨vs, h1, h2⟩ := l Φ H B μ le S g
    exact ⟨vs, h1, by rw [h2.length]; exact hi⟩
theorem sim_rev (l : LSrc K L B0 a us gd) {n : Nat} (hn : n = us.length) : Sim K L B0 (Itv K a n) us.reverse gd where
  go := fun Φ i H B μ le S g hi => by
    subst hn
    rw [List.length_reverse] at hi
    obtain ⟨vs, h1, h2⟩ := l Φ H B μ le S g
    have hj : us.length - 1 - i < us.length := by omega
    obtain ⟨v, e, r⟩ := h2.get (List.getElem?_eq_getElem hj)
    refine ⟨⟨hi, vs, v, h1, e⟩, fun x H' ⟨e1, y⟩ => ?_⟩
    subst e1
    have z := y vs h1
    rw [e] at z
    cases z
    exact ⟨B, _, Same.refl _, S, by rw [List.getElem?_reverse hi, List.getElem?_eq_getElem hj], r⟩
  stop := fun Φ i H B μ le S g hi => by
    subst hn
    rw [List.length_reverse] at hi
    exact hi
theorem sim_enum (l : LSrc K L B0 a us gd) : Sim K L B0 (Ite K a) (us.zipIdx.map fun p => .tup [.int (p.2 : Nat), p.1]) gd where
  go := fun Φ i H B μ le S g hi => by
    rw [List.length_map, List.length_zipIdx] at hi
    obtain ⟨vs, h1, h2⟩ := l Φ H B μ le S g
    obtain ⟨v, e, r⟩ := h2.get (List.getElem?_eq_getElem hi)
    refine ⟨⟨vs, v, h1, e⟩, fun x H' ⟨T', w, e1, e2, e3, y⟩ => ?_⟩
    subst e1 e3
    have z := y vs h1
    rw [e] at z
    cases z
    have lb := le_upd (o := HO.tup [.int (i : Nat), v]) (S.freshB e2)
    refine ⟨_, .tup [.int (i : Nat), us[i]], lb, S.laid e2, ?_, ⟨T', _, rfl, .of upd_same, Trs.cons (show Tr K _ (.int _) (.int (i : Nat)) from rfl) (Trs.cons (r.mono lb) Trs.nil)⟩⟩
    rw [List.getElem?_map, List.getElem?_zipIdx, List.getElem?_eq_getElem hi]
    simp
  stop := fun Φ i H B μ le S g hi => by
    rw [List.length_map, List.length_zipIdx] at hi
    obtain ⟨vs, h1, h2⟩ := l Φ H B μ le S g
    exact ⟨vs, h1, by rw [h2.length]; exact hi⟩
theorem sim_zip {b : Addr} {ws : List T} {g2 : Sto → Prop} (l : LSrc K L B0 a us gd) (l2 : LSrc K L B0 b ws g2) : Sim K L B0 (Itz K a b) ((us.zip ws).map fun p => .tup [p.1, p.2]) (fun μ' => gd μ' ∧ g2 μ') where
  go := fun Φ i H B μ le S g hi => by
    rw [List.length_map, List.length_zip] at hi
    have i1 : i < us.length := by omega
    have i2 : i < ws.length := by omega
    obtain ⟨vs, h1, h2⟩ := l Φ H B μ le S g.1
    obtain ⟨vs', h1', h2'⟩ := l2 Φ H B μ le S g.2
    obtain ⟨v, e, r⟩ := h2.get (List.getElem?_eq_getElem i1)
    obtain ⟨v', e', r'⟩ := h2'.get (List.getElem?_eq_getElem i2)
    refine ⟨⟨vs, vs', v, v', h1, h1', e, e'⟩, fun x H' ⟨T', w, w', e1, e2, e3, y, y'⟩ => ?_⟩
    subst e1 e3
    have z := y vs h1
    rw [e] at z
    cases z
    have z := y' vs' h1'
    rw [e'] at z
    cases z
    have lb := le_upd (o := HO.tup [v, v']) (S.freshB e2)
    refine ⟨_, .tup [us[i], ws[i]], lb, S.laid e2, ?_, ⟨T', _, rfl, .of upd_same, Trs.cons (r.mono lb) (Trs.cons (r'.mono lb) Trs.nil)⟩⟩
    have ez : (us.zip ws)[i]? = some (us[i], ws[i]) := List.getElem?_zip_eq_some.mpr ⟨List.getElem?_eq_getElem i1, List.getElem?_eq_getElem i2⟩
    rw [List.getElem?_map, ez]
    rfl
  stop := fun Φ i H B μ le S g hi => by
    rw [List.length_map, List.length_zip] at hi
    obtain ⟨vs, h1, h2⟩ := l Φ H B μ le S g.1
    obtain ⟨vs', h1', h2'⟩ := l2 Φ H B μ le S g.2
    exact ⟨vs, vs', h1, h1', by rw [h2.length, h2'.length]; omega⟩
theorem sim_tup {vs : List V} (h : SqT K H a vs) (S : St K L Φ H B0 μ) (hB : SqT K B0 a vs) (r : Trs K B0 vs us) : Sim K L B0 (Itt K a) us any where
  go := fun Φ i H B μ le S g hi => by
    have h1 := Le.seqT S.sub (Le.seqT le hB)
    obtain ⟨v, e, r1⟩ := (r.mono le).get (List.getElem?_eq_getElem hi)
    refine ⟨⟨vs, v, h1, e⟩, fun x H' ⟨e1, y⟩ => ?_⟩
    subst e1
    have z := y vs h1
    rw [e] at z
    cases z
    exact ⟨B, _, Same.refl _, S, List.getElem?_eq_getElem hi, r1⟩
  stop := fun Φ i H B μ le S g hi => ⟨vs, Le.seqT S.sub (Le.seqT le hB), by rw [r.length]; exact hi⟩
theorem sim_str {z : Str} : Sim K L B0 (Its z) (signs z) any where
  go := fun Φ i H B μ le S g hi => by
    unfold signs at hi ⊢
    rw [List.length_map, Array.length_toList] at hi
    refine ⟨hi, fun x H' ⟨e1, c, e2, e3⟩ => ?_⟩
    subst e1 e3
    refine ⟨B, .str ⟨#[c]⟩, Same.refl _, S, ?_, (rfl : V.str _ = V.str ⟨#[c]⟩)⟩
    rw [List.getElem?_map, Array.getElem?_toList, e2]
    rfl
  stop := fun Φ i H B μ le S g hi => by
    unfold signs at hi
    rw [List.length_map, Array.length_toList] at hi
    exact hi
theorem sim_rng {lo : Int} {n : Nat} : Sim K L B0 (Itr lo n) ((List.range n).map fun i => .int (lo + (i : Nat))) any where
  go := fun Φ i H B μ le S g hi => by
    rw [List.length_map, List.length_range] at hi
    refine ⟨hi, fun x H' ⟨e1, e2⟩ => ?_⟩
    subst e1 e2
    refine ⟨B, .int (lo + (i : Nat)), Same.refl _, S, ?_, (rfl : V.int _ = V.int (lo + (i : Nat)))⟩
    rw [List.getElem?_map, List.getElem?_range hi]
    rfl
  stop := fun Φ i H B μ le S g hi => by
    rw [List.length_map, List.length_range] at hi
    exact hi
end
end Rh

namespace Rh
open PySem PySem.Spec PyProof.Rows L2

/-! ## 14. Each form of the core does what it says -/
section
variable {X : Cx} {L : Lay} {W : WX} {G : Tab} {Γ : Nat → TSp} {c : SC} {pos : Pos}
theorem plainN_ok {x : Str} (h : plainN x = true) : (x == ("__debug__" : Str)) = false ∧ (x == ("__classdict__" : Str)) = false ∧ x ≠ "__name__" := by
  simp only [plainN, Bool.and_eq_true, Bool.not_eq_true'] at h
  exact ⟨h.1.1, h.1.2, beq_eq_false_iff_ne.mp h.2⟩
theorem stat_of {x : Expr} (h1 : ∀ (env : Env) (es : List Expr), starEach (x :: es) env = (false, eval x env) :: starEach es env := by intro _ _; rfl) (h2 : PlainIx x := by intro _ _; rfl)
    (h3 : ∀ (o : Expr) (p : Pos) (env : Env) (v : Value), assign (.Subscript o x p) env v = (do
      let ov ← holding [v] (eval o env)
      let iv ← holding [v, ov] (eval x env)
      standAt p
      holding [v, ov, iv] (setItem ov iv v)
      release [v, ov, iv] []) := by intro _ _ _ _; rfl)
    (h4 : ∀ (ov iv new : Value), augStore x ov iv new = (do holding [new, ov, iv] (setItem ov iv new); release [new, ov, iv] []; pure .next) := by intro _ _ _; rfl) : Stat x := ⟨h1, h2, h3, h4⟩
theorem k_var (C : Ctx G Γ L c X W) {i : Nat} {x : Str} (hN : c.N[i]? = some x) (hv : vis c.sc x = true) (hp : plainN x = true) : EOk X L W (.Name x pos) (den G Γ (.var i)) :=
  EOk.plain (fun Φ B μ H σ ρ F R Q S sl q kx k => by
    obtain ⟨t, e, q⟩ := q
    obtain ⟨v, e2, r⟩ := sl.2 i t e
    exact sE_of (pe_var (by rw [C.N]; exact hN) (C.vi x hv) (plainN_ok hp).1 (plainN_ok hp).2.1) ⟨v, e2, k.here S r q⟩) fun _ => rfl
theorem k_const {e : Expr} {v : V} {t : T} (p : PE X e (tC v)) (hr : ∀ B, Tr X.K B v t) (he : ∀ whole, isTrue e X.env whole = (do let v ← whole; standAt e.pos; holding [v] (truthy v))) : EOk X L W e (plain fun _ μ _ R => R t μ) :=
  EOk.plain (fun Φ B μ H σ ρ F R Q S sl q kx k => sE_of p (k.here S (hr B) q)) he
theorem k_glob (C : Ctx G Γ L c X W) {k : Nat} {x : Str} {y : Str × T} (hc : G.con k = some y) (hx : y.1 = x) (hg : glb c.sc x = true) (hp : plainN x = true) : EOk X L W (.Name x pos) (den G Γ (.glob k)) :=
  EOk.plain (fun Φ B μ H σ ρ F R Q S sl q kx kk => by
    obtain ⟨z, e, q⟩ := q
    rw [hc] at e
    cases e
    obtain ⟨v, u, h1, h2, h3⟩ := C.g.con k y hc
    rw [hx] at h1
    exact sE_of (pe_glob (C.gl x hg) h1 h2 (plainN_ok hp).1) (kk.here S (h3 B) q)) fun _ => rfl
theorem k_bin {op : Operator} {own : Bool} {a b : Ex} {x y : Expr} (ha : EOk X L W x (den G Γ a)) (hb : EOk X L W y (den G Γ b)) : EOk X L W (.BinOp x op y pos) (den G Γ (.bin op own a b)) :=
  EOk.plain (fun Φ B μ H σ ρ F R Q S sl q kx k => by
    refine sE_of (pe_op (bin_ok (L := L) op own) pe_s pe_s) ?_
    refine ha.v Φ B μ H σ ρ F _ _ S sl q kx fun v t H1 B1 μ1 l1 S1 r1 q1 => ?_
    refine hb.v Φ B1 μ1 H1 σ ρ F _ _ S1 (sl.mono l1) q1 (kx.mono l1) fun w u H2 B2 μ2 l2 S2 r2 q2 => ?_
    exact ⟨Φ, B2, μ2, t, u, R, S2, r1.mono l2, r2, q2, k.mono (l1.trans l2)⟩) fun _ => rfl
theorem k_cpow {a b v : Int} {k1 k2 : Nat} {p1 p2 : Pos} (h : 0 ≤ b ∧ b ≤ 1000 ∧ a.natAbs < 2 ^ 64) (hv : a ^ b.toNat = v) : EOk X L W (.BinOp (.Constant (.int a) k1 p1) .Pow (.Constant (.int b) k2 p2) pos) (den G Γ (.cpow a b v)) :=
  EOk.plain (fun Φ B μ H σ ρ F R Q S sl q kx k => by
    refine sE_of (pe_op op_pow pe_int pe_int) ⟨a, b, rfl, rfl, ⟨h.1, by omega, h.2.2⟩, ?_⟩
    show Q (V.int (a ^ b.toNat)) H
    rw [hv]
    exact k.here S (show Tr X.K B (.int v) (.int v) from rfl) q) fun _ => rfl
theorem k_neg {a : Ex} {x : Expr} (ha : EOk X L W x (den G Γ a)) : EOk X L W (.UnaryOp .USub x pos) (den G Γ (.neg a)) :=
  EOk.plain (fun Φ B μ H σ ρ F R Q S sl q kx k => by
    refine sE_of (pe_un un_neg pe_s) ?_
    refine ha.v Φ B μ H σ ρ F _ _ S sl q kx fun v t H1 B1 μ1 l1 S1 r1 q1 => ?_
    obtain ⟨i, rfl, q1⟩ := q1
    obtain rfl := r1
    exact ⟨i, rfl, k _ _ _ _ _ l1 S1 (show Tr X.K B1 (.int _) (.int _) from rfl) q1⟩) fun _ => rfl
theorem bl_of {K : PySem.W.Frag} {B : Hp} {v : V} {b : Bool} (r : Tr K B v (.bl b)) : v = .bl b := r
theorem k_cmp (C : Ctx G Γ L c X W) {op : CmpOp} {a b : Ex} {x y : Expr} (hn : notSet y = true) (ha : EOk X L W x (den G Γ a)) (hb : EOk X L W y (den G Γ b)) : EOk X L W (.Compare x [op] [y] pos) (den G Γ (.cmp op a b)) := by
  have V : ∀ Φ B μ H σ ρ F R Q, St X.K L Φ H B μ → Slots X.K B σ ρ → (den G Γ (.cmp op a b)).1 ρ μ F R → PostX X.K L Φ B F (WE W σ) → Post X.K L Φ B R Q → tOp (Op2 X.K L (tCmp op)) (sE X x) (sE X y) σ H Q := fun Φ B μ H σ ρ F R Q S sl q kx k => by
    refine ha.v Φ B μ H σ ρ F _ _ S sl q kx fun v t H1 B1 μ1 l1 S1 r1 q1 => ?_
    refine hb.v Φ B1 μ1 H1 σ ρ F _ _ S1 (sl.mono l1) q1 (kx.mono l1) fun w u H2 B2 μ2 l2 S2 r2 q2 => ?_
    exact ⟨Φ, B2, μ2, t, u, R, S2, r1.mono l2, r2, q2, k.mono (l1.trans l2)⟩
  refine ⟨fun Φ B μ H σ ρ F R Q S sl q kx k => sE_of (pe_cmpR (cmp_ok (L := L) C.hu op) pe_s pe_s (marks hn)) (V Φ B μ H σ ρ F R Q S sl q kx k), fun Φ B μ H σ ρ F R Q S sl q kx k => sT_of (pt_cmpR (cmp_ok (L := L) C.hu op) pe_s pe_s (marks hn)) (V Φ B μ H σ ρ F _ _ S sl q kx fun v t H' B' μ' le S' r q => ?_)⟩
  obtain ⟨b, rfl, q⟩ := q
  exact ⟨b, bl_of r, k b H' B' μ' le S' q⟩
theorem k_chain (C : Ctx G Γ L c X W) {op op' : CmpOp} {a b d : Ex} {x y z : Expr} (hn : notSet z = true) (ha : EOk X L W x (den G Γ a)) (hb : EOk X L W y (den G Γ b)) (hd : EOk X L W z (den G Γ d)) :
    EOk X L W (.Compare x [op, op'] [y, z] pos) (den G Γ (.chain op op' a b d)) := by
  have V : ∀ Φ B μ H σ ρ F R Q, St X.K L Φ H B μ → Slots X.K B σ ρ → (den G Γ (.chain op op' a b d)).1 ρ μ F R → PostX X.K L Φ B F (WE W σ) → Post X.K L Φ B R Q → tChain (Op2 X.K L (tCmp op)) (Op2 X.K L (tCmp op')) (sE X x) (sE X y) (sE X z) σ H Q := fun Φ B μ H σ ρ F R Q S sl q kx k => by
    refine ha.v Φ B μ H σ ρ F _ _ S sl q kx fun v t H1 B1 μ1 l1 S1 r1 q1 => ?_
    refine hb.v Φ B1 μ1 H1 σ ρ F _ _ S1 (sl.mono l1) q1 (kx.mono l1) fun w u H2 B2 μ2 l2 S2 r2 q2 => ?_
    refine ⟨Φ, B2, μ2, t, u, _, S2, r1.mono l2, r2, q2, fun v3 t3 H3 B3 μ3 l3 S3 r3 q3 => ?_⟩
    obtain ⟨kk, rfl, q3⟩ := q3
    refine ⟨kk, bl_of r3, ?_⟩
    have l13 := (l1.trans l2).trans l3
    cases kk with
    | false =>
      rw [if_neg Bool.false_ne_true] at q3 ⊢
      exact k _ _ H3 B3 μ3 l13 S3 (show Tr X.K B3 (.bl _) (.bl _) from rfl) q3
    | true =>
      rw [if_pos rfl] at q3 ⊢
      refine hd.v Φ B3 μ3 H3 σ ρ F _ _ S3 (sl.mono l13) q3 (kx.mono l13) fun w4 u4 H4 B4 μ4 l4 S4 r4 q4 => ?_
      exact ⟨Φ, B4, μ4, u, u4, R, S4, r2.mono (l3.trans l4), r4, q4, k.mono (l13.trans l4)⟩
  have hm : lastMarks [op, op'] [y, z] = false := by
    show behindInMarks op' z = false
    exact marks hn
  refine ⟨fun Φ B μ H σ ρ F R Q S sl q kx k => sE_of (pe_chain (cmp_ok (L := L) C.hu op) (cmp_ok (L := L) C.hu op') pe_s pe_s pe_s hm) (V Φ B μ H σ ρ F R Q S sl q kx k), fun Φ B μ H σ ρ F R Q S sl q kx k => sT_of (pt_chain (cmp_ok (L := L) C.hu op) (cmp_ok (L := L) C.hu op') pe_s pe_s pe_s hm) (V Φ B μ H σ ρ F _ _ S sl q kx fun v t H' B' μ' le S' r q => ?_)⟩
  obtain ⟨b, rfl, q⟩ := q
  exact ⟨b, bl_of r, k b H' B' μ' le S' q⟩
/-- three comparisons in a row -/
def tChain3 (r r' r2 : R2) (ta tb tc td : TE) : TE := fun σ H Q => ta σ H fun x H1 => tb σ H1 fun y H2 => r x y H2 fun z H3 => ∃ k, z = .bl k ∧
  (if k = true then tc σ H3 fun w' H4 => r' y w' H4 fun z' H5 => ∃ k', z' = .bl k' ∧ (if k' = true then td σ H5 fun v' H6 => r2 w' v' H6 Q else Q (.bl false) H5) else Q (.bl false) H3)
theorem pe_chain3 {X : Cx} {a b c d : Expr} {ta tb tc td : TE} {pos : Pos} {op op' op2 : CmpOp} {r r' r2 : R2} (ho : OpR X (compareOp op) r) (ho' : OpR X (compareOp op') r') (ho2 : OpR X (compareOp op2) r2) (ha : PE X a ta) (hb : PE X b tb) (hc : PE X c tc) (hd : PE X d td)
    (hm : lastMarks [op, op', op2] [b, c, d] = false) : PE X (.Compare a [op, op', op2] [b, c, d] pos) (tChain3 r r' r2 ta tb tc td) := by
  refine ⟨fun pins s σ H Q I h => ?_⟩
  refine PyProof.Rows.Compare_chain (thn (ha.run pins s σ H _ I h) fun v s1 ⟨x, H1, I1, r1, q1⟩ => PyProof.Rows.chain_link (thn (hb.run pins s1 σ H1 _ I1 q1) fun u s2 ⟨y, H2, I2, r2', q2⟩ =>
    thn (ho pins s2 σ H2 x y v u _ I2 r1 r2' q2) fun d' s3 ⟨z, H3, I3, r3, k, e, q3⟩ => ?_)) hm
  subst e
  cases r3
  refine wpAny_truthy_bool ?_
  cases k with
  | false => exact ite_ff ⟨.bl false, H3, I3, rfl, q3⟩
  | true =>
    refine ite_tt (PyProof.Rows.chain_link (thn (hc.run pins s3 σ H3 _ I3 q3) fun w' s4 ⟨y', H4, I4, r4, q4⟩ => thn (ho' pins s4 σ H4 y y' u w' _ I4 r2' r4 q4) fun d' s5 ⟨z', H5, I5, r5, k', e', q5⟩ => ?_))
    subst e'
    cases r5
    refine wpAny_truthy_bool ?_
    cases k' with
    | false => exact ite_ff ⟨.bl false, H5, I5, rfl, q5⟩
    | true => exact ite_tt (PyProof.Rows.chain_last (thn (hd.run pins s5 σ H5 _ I5 q5) fun w2 s6 ⟨z2, H6, I6, r6, q6⟩ => ho2 pins s6 σ H6 y' z2 w' w2 Q I6 r4 r6 q6))
theorem pt_chain3 {X : Cx} {a b c d : Expr} {ta tb tc td : TE} {pos : Pos} {op op' op2 : CmpOp} {r r' r2 : R2} (ho : OpR X (compareOp op) r) (ho' : OpR X (compareOp op') r') (ho2 : OpR X (compareOp op2) r2) (ha : PE X a ta) (hb : PE X b tb) (hc : PE X c tc) (hd : PE X d td)
    (hm : lastMarks [op, op', op2] [b, c, d] = false) : PT X (.Compare a [op, op', op2] [b, c, d] pos) (tTest (tChain3 r r' r2 ta tb tc td)) := by
  refine ⟨fun pins s σ H Q I h => ?_⟩
  refine PyProof.Rows.isTrue_chain (thn (ha.run pins s σ H _ I h) fun v s1 ⟨x, H1, I1, r1, q1⟩ => PyProof.Rows.test_link (thn (hb.run pins s1 σ H1 _ I1 q1) fun u s2 ⟨y, H2, I2, r2', q2⟩ =>
    thn (ho pins s2 σ H2 x y v u _ I2 r1 r2' q2) fun d' s3 ⟨z, H3, I3, r3, k, e, q3⟩ => ?_)) hm
  subst e
  cases r3
  refine wpAny_truthy_bool ?_
  cases k with
  | false =>
    obtain ⟨k', e', q'⟩ := q3
    cases e'
    exact ite_ff ⟨H3, I3, q'⟩
  | true =>
    refine ite_tt (PyProof.Rows.test_link (thn (hc.run pins s3 σ H3 _ I3 q3) fun w' s4 ⟨y', H4, I4, r4, q4⟩ => thn (ho' pins s4 σ H4 y y' u w' _ I4 r2' r4 q4) fun d' s5 ⟨z', H5, I5, r5, k', e', q5⟩ => ?_))
    subst e'
    cases r5
    refine wpAny_truthy_bool ?_
    cases k' with
    | false =>
      obtain ⟨k', e', q'⟩ := q5
      cases e'
      exact ite_ff ⟨H5, I5, q'⟩
    | true =>
      refine ite_tt (PyProof.Rows.test_last (thn (hd.run pins s5 σ H5 _ I5 q5) fun w2 s6 ⟨z2, H6, I6, r6, q6⟩ => thn (ho2 pins s6 σ H6 y' z2 w' w2 _ I6 r4 r6 q6) fun d' s7 ⟨z3, H7, I7, r7, k2, e2, q7⟩ => ?_))
      subst e2
      cases r7
      exact wpAny_truthy_bool ⟨H7, I7, q7⟩
theorem k_chain3 (C : Ctx G Γ L c X W) {op op' op2 : CmpOp} {a b d f : Ex} {x y z w : Expr} (hn : notSet w = true) (ha : EOk X L W x (den G Γ a)) (hb : EOk X L W y (den G Γ b)) (hd : EOk X L W z (den G Γ d)) (hf : EOk X L W w (den G Γ f)) :
    EOk X L W (.Compare x [op, op', op2] [y, z, w] pos) (den G Γ (.chain3 op op' op2 a b d f)) := by
  have V : ∀ Φ B μ H σ ρ F R Q, St X.K L Φ H B μ → Slots X.K B σ ρ → (den G Γ (.chain3 op op' op2 a b d f)).1 ρ μ F R → PostX X.K L Φ B F (WE W σ) → Post X.K L Φ B R Q → tChain3 (Op2 X.K L (tCmp op)) (Op2 X.K L (tCmp op')) (Op2 X.K L (tCmp op2)) (sE X x) (sE X y) (sE X z) (sE X w) σ H Q := fun Φ B μ H σ ρ F R Q S sl q kx k => by
    refine ha.v Φ B μ H σ ρ F _ _ S sl q kx fun v t H1 B1 μ1 l1 S1 r1 q1 => ?_
    refine hb.v Φ B1 μ1 H1 σ ρ F _ _ S1 (sl.mono l1) q1 (kx.mono l1) fun w u H2 B2 μ2 l2 S2 r2 q2 => ?_
    refine ⟨Φ, B2, μ2, t, u, _, S2, r1.mono l2, r2, q2, fun v3 t3 H3 B3 μ3 l3 S3 r3 q3 => ?_⟩
    obtain ⟨kk, rfl, q3⟩ := q3
    refine ⟨kk, bl_of r3, ?_⟩
    have l13 := (l1.trans l2).trans l3
    cases kk with
    | false =>
      rw [if_neg Bool.false_ne_true] at q3 ⊢
      exact k _ _ H3 B3 μ3 l13 S3 (show Tr X.K B3 (.bl _) (.bl _) from rfl) q3
    | true =>
      rw [if_pos rfl] at q3 ⊢
      refine hd.v Φ B3 μ3 H3 σ ρ F _ _ S3 (sl.mono l13) q3 (kx.mono l13) fun w4 u4 H4 B4 μ4 l4 S4 r4 q4 => ?_
      refine ⟨Φ, B4, μ4, u, u4, _, S4, r2.mono (l3.trans l4), r4, q4, fun v5 t5 H5 B5 μ5 l5 S5 r5 q5 => ?_⟩
      obtain ⟨kk, rfl, q5⟩ := q5
      refine ⟨kk, bl_of r5, ?_⟩
      have l15 := (l13.trans l4).trans l5
      cases kk with
      | false =>
        rw [if_neg Bool.false_ne_true] at q5 ⊢
        exact k _ _ H5 B5 μ5 l15 S5 (show Tr X.K B5 (.bl _) (.bl _) from rfl) q5
      | true =>
        rw [if_pos rfl] at q5 ⊢
        refine hf.v Φ B5 μ5 H5 σ ρ F _ _ S5 (sl.mono l15) q5 (kx.mono l15) fun w6 u6 H6 B6 μ6 l6 S6 r6 q6 => ?_
        exact ⟨Φ, B6, μ6, u4, u6, R, S6, r4.mono (l5.trans l6), r6, q6, k.mono (l15.trans l6)⟩
  have hm : lastMarks [op, op', op2] [y, z, w] = false := by
    show behindInMarks op2 w = false
    exact marks hn
  refine ⟨fun Φ B μ H σ ρ F R Q S sl q kx k => sE_of (pe_chain3 (cmp_ok (L := L) C.hu op) (cmp_ok (L := L) C.hu op') (cmp_ok (L := L) C.hu op2) pe_s pe_s pe_s pe_s hm) (V Φ B μ H σ ρ F R Q S sl q kx k), fun Φ B μ H σ ρ F R Q S sl q kx k => sT_of (pt_chain3 (cmp_ok (L := L) C.hu op) (cmp_ok (L := L) C.hu op') (cmp_ok (L := L) C.hu op2) pe_s pe_s pe_s pe_s hm) (V Φ B μ H σ ρ F _ _ S sl q kx fun v t H' B' μ' le S' r q => ?_)⟩
  obtain ⟨b, rfl, q⟩ := q
  exact ⟨b, bl_of r, k b H' B' μ' le S' q⟩
theorem k_not {a : Ex} {x : Expr} (ha : EOk X L W x (den G Γ a)) : EOk X L W (.UnaryOp .Not x pos) (den G Γ (.not a)) := by
  refine ⟨fun Φ B μ H σ ρ F R Q S sl q kx k => sE_of (pe_notT pe_s) ?_, fun Φ B μ H σ ρ F R Q S sl q kx k => sT_of (pt_not pt_s) ?_⟩
  · refine ha.v Φ B μ H σ ρ F _ _ S sl q kx fun v t H1 B1 μ1 l1 S1 r1 q1 => ?_
    obtain ⟨b, h1, h2⟩ := tru_okT S1 r1 q1
    exact ⟨b, h1, k _ _ _ _ _ l1 S1 (show Tr X.K B1 (.bl _) (.bl _) from rfl) h2⟩
  · exact ha.t Φ B μ H σ ρ F _ _ S sl q kx fun b H1 B1 μ1 l1 S1 q1 => k _ _ _ _ l1 S1 q1
theorem k_ife {d a b : Ex} {z x y : Expr} (hd : EOk X L W z (den G Γ d)) (ha : EOk X L W x (den G Γ a)) (hb : EOk X L W y (den G Γ b)) : EOk X L W (.IfExp z x y pos) (den G Γ (.ife d a b)) := by
  refine ⟨fun Φ B μ H σ ρ F R Q S sl q kx k => sE_of (pe_ifExp pt_s pe_s pe_s) ?_, fun Φ B μ H σ ρ F R Q S sl q kx k => False.elim q⟩
  refine hd.t Φ B μ H σ ρ F _ _ S sl q kx fun kk H1 B1 μ1 l1 S1 q1 => ?_
  cases kk with
  | true =>
    rw [if_pos rfl] at q1 ⊢
    exact ha.v Φ B1 μ1 H1 σ ρ F _ _ S1 (sl.mono l1) q1 (kx.mono l1) (k.mono l1)
  | false =>
    rw [if_neg Bool.false_ne_true] at q1 ⊢
    exact hb.v Φ B1 μ1 H1 σ ρ F _ _ S1 (sl.mono l1) q1 (kx.mono l1) (k.mono l1)
theorem boV_ok {w : Bool} : ∀ {xs : List Expr} {ps : List (TEx × TTe)}, Paired (fun e p => EOk X L W e p ∧ Stat e) xs ps → VOk X L W (.BoolOp (if w then .And else .Or) xs pos) (boV w ps)
  | _, _, .nil => fun Φ B μ H σ ρ F R Q S sl q kx k => False.elim q
  | _, _, .cons ⟨h, _⟩ .nil => fun Φ B μ H σ ρ F R Q S sl q kx k => sE_of (pe_one pe_s) (h.v Φ B μ H σ ρ F R Q S sl q kx k)
  | _, _, .cons ⟨h, _⟩ (.cons (a := e2) (b := p2) h2 hs) => fun Φ B μ H σ ρ F R Q S sl q kx k => by
    have ih : VOk X L W (.BoolOp (if w then .And else .Or) (e2 :: _) pos) (boV w (p2 :: _)) := boV_ok (.cons h2 hs)
    cases w with
    | true =>
      refine sE_of (pe_andT pe_s (pe_s (e := .BoolOp .And (e2 :: _) pos))) ?_
      refine h.v Φ B μ H σ ρ F _ _ S sl q kx fun v t H1 B1 μ1 l1 S1 r1 q1 => ?_
      obtain ⟨b, h1, q1⟩ := tru_okT S1 r1 q1
      refine ⟨b, h1, ?_⟩
      cases b with
      | true =>
        rw [if_pos rfl] at q1 ⊢
        exact ih Φ B1 μ1 H1 σ ρ F _ _ S1 (sl.mono l1) q1 (kx.mono l1) (k.mono l1)
      | false =>
        rw [if_neg Bool.false_ne_true] at q1 ⊢
        exact k v t H1 B1 μ1 l1 S1 r1 q1
    | false =>
      refine sE_of (pe_orT pe_s (pe_s (e := .BoolOp .Or (e2 :: _) pos))) ?_
      refine h.v Φ B μ H σ ρ F _ _ S sl q kx fun v t H1 B1 μ1 l1 S1 r1 q1 => ?_
      obtain ⟨b, h1, q1⟩ := tru_okT S1 r1 q1
      refine ⟨b, h1, ?_⟩
      cases b with
      | true =>
        rw [if_neg (by decide : ¬ (true = false))] at q1
        rw [if_pos rfl]
        exact k v t H1 B1 μ1 l1 S1 r1 q1
      | false =>
        rw [if_pos rfl] at q1
        rw [if_neg Bool.false_ne_true]
        exact ih Φ B1 μ1 H1 σ ρ F _ _ S1 (sl.mono l1) q1 (kx.mono l1) (k.mono l1)
def sW (X : Cx) (e : Expr) : TT := fun σ H Q => ∀ whole pins s, L2.Inv X pins σ H s → wpAny (model X.prog X.w) X.A (isTrue e X.env whole) (TP X pins σ Q) X.xe s
theorem pw_s {e : Expr} : PW X e (sW X e) := ⟨fun whole pins s _ _ _ I h => h whole pins s I⟩
theorem sW_of {e : Expr} {t : TT} {σ : L2.St} {H : Hp} {Q : Bool → Hp → Prop} (p : PW X e t) (h : t σ H Q) : sW X e σ H Q := fun wh pins s I => p.run wh pins s σ H Q I h
def WOk (X : Cx) (L : Lay) (W : WX) (e : Expr) (tt : TTe) : Prop := ∀ Φ B μ H σ ρ F R Q, St X.K L Φ H B μ → Slots X.K B σ ρ → tt ρ μ F R → PostX X.K L Φ B F (WE W σ) → PostB X.K L Φ B R Q → sW X e σ H Q
theorem boT_ok {w : Bool} : ∀ {xs : List Expr} {ps : List (TEx × TTe)}, Paired (fun e p => EOk X L W e p ∧ Stat e) xs ps → WOk X L W (.BoolOp (if w then .And else .Or) xs pos) (boT w ps)
  | _, _, .nil => fun Φ B μ H σ ρ F R Q S sl q kx k => False.elim q
  | _, _, .cons ⟨h, _⟩ .nil => fun Φ B μ H σ ρ F R Q S sl q kx k => by
    cases w with
    | true => exact sW_of (pw_and1 pt_s) (h.t Φ B μ H σ ρ F R Q S sl q kx k)
    | false => exact sW_of (pw_or1 pt_s) (h.t Φ B μ H σ ρ F R Q S sl q kx k)
  | _, _, .cons ⟨h, _⟩ (.cons (a := e2) (b := p2) h2 hs) => fun Φ B μ H σ ρ F R Q S sl q kx k => by
    have ih : WOk X L W (.BoolOp (if w then .And else .Or) (e2 :: _) pos) (boT w (p2 :: _)) := boT_ok (.cons h2 hs)
    cases w with
    | true =>
      refine sW_of (pw_and pt_s (pw_s (e := .BoolOp .And (e2 :: _) pos))) ?_
      refine h.t Φ B μ H σ ρ F _ _ S sl q kx fun b H1 B1 μ1 l1 S1 q1 => ?_
      cases b with
      | true =>
        rw [if_pos rfl] at q1 ⊢
        exact ih Φ B1 μ1 H1 σ ρ F _ _ S1 (sl.mono l1) q1 (kx.mono l1) fun b' H' B' μ' l' => k b' H' B' μ' (l1.trans l')
      | false =>
        rw [if_neg Bool.false_ne_true] at q1 ⊢
        exact k _ H1 B1 μ1 l1 S1 q1
    | false =>
      refine sW_of (pw_or pt_s (pw_s (e := .BoolOp .Or (e2 :: _) pos))) ?_
      refine h.t Φ B μ H σ ρ F _ _ S sl q kx fun b H1 B1 μ1 l1 S1 q1 => ?_
      cases b with
      | true =>
        rw [if_neg (by decide : ¬ (true = false))] at q1
        rw [if_pos rfl]
        exact k _ H1 B1 μ1 l1 S1 q1
      | false =>
        rw [if_pos rfl] at q1
        rw [if_neg Bool.false_ne_true]
        exact ih Φ B1 μ1 H1 σ ρ F _ _ S1 (sl.mono l1) q1 (kx.mono l1) fun b' H' B' μ' l' => k b' H' B' μ' (l1.trans l')
theorem k_andor {w : Bool} {es : List Ex} {xs : List Expr} (h : Paired (fun e p => EOk X L W e p ∧ Stat e) xs (dens G Γ es)) : EOk X L W (.BoolOp (if w then .And else .Or) xs pos) (den G Γ (.andor w es)) :=
  ⟨boV_ok h, fun Φ B μ H σ ρ F R Q S sl q kx k => sT_of pw_s.pt (boT_ok h Φ B μ H σ ρ F R Q S sl q kx k)⟩
theorem k_idx (C : Ctx G Γ L c X W) {a b : Ex} {x y : Expr} (sy : Stat y) (ha : EOk X L W x (den G Γ a)) (hb : EOk X L W y (den G Γ b)) : EOk X L W (.Subscript x y pos) (den G Γ (.idx a b)) :=
  EOk.plain (fun Φ B μ H σ ρ F R Q S sl q kx k => by
    refine sE_of (pe_ix (idx_ok (L := L) C.hu) pe_s pe_s sy.ix) ?_
    refine ha.v Φ B μ H σ ρ F _ _ S sl q kx fun v t H1 B1 μ1 l1 S1 r1 q1 => ?_
    refine hb.v Φ B1 μ1 H1 σ ρ F _ _ S1 (sl.mono l1) q1 (kx.mono l1) fun w u H2 B2 μ2 l2 S2 r2 q2 => ?_
    exact ⟨Φ, B2, μ2, t, u, R, S2, r1.mono l2, r2, q2, k.mono (l1.trans l2)⟩) fun _ => rfl
/-- a part of a slice -/
def OOk (X : Cx) (L : Lay) (W : WX) (o : Option Expr) (lo : Ex) (te : TEx) : Prop := ∃ to, PO X o to ∧ ∀ Φ B μ H σ ρ F (R : Option Int → Sto → Prop) (Q : Option Int → Hp → Prop), St X.K L Φ H B μ → Slots X.K B σ ρ → te ρ μ F (fun t μ1 => ∃ l, optI lo t = some l ∧ R l μ1) → PostX X.K L Φ B F (WE W σ) →
  (∀ l H' B' μ', Le B B' → St X.K L Φ H' B' μ' → R l μ' → Q l H') → to σ H Q
theorem o_none : OOk X L W none .cnon (den G Γ .cnon).1 := ⟨_, po_none, fun Φ B μ H σ ρ F R Q S sl q kx k => by
  obtain ⟨l, e, q⟩ := q
  cases e
  exact k none H B μ (Same.refl _) S q⟩
theorem o_some {a : Ex} {x : Expr} (hn : a ≠ .cnon) (ha : EOk X L W x (den G Γ a)) : OOk X L W (some x) a (den G Γ a).1 := ⟨_, po_some pe_s, fun Φ B μ H σ ρ F R Q S sl q kx k => by
  refine ha.v Φ B μ H σ ρ F _ _ S sl q kx fun v t H1 B1 μ1 l1 S1 r1 q1 => ?_
  obtain ⟨l, e, q1⟩ := q1
  unfold optI at e
  split at e
  · exact absurd rfl hn
  · cases e
    exact ⟨_, r1, k _ H1 B1 μ1 l1 S1 q1⟩
  · cases e⟩
theorem k_slice {own : Bool} {a lo hi : Ex} {x : Expr} {l h : Option Expr} {p2 : Pos} (ha : EOk X L W x (den G Γ a)) (hl : OOk X L W l lo (den G Γ lo).1) (hh : OOk X L W h hi (den G Γ hi).1) :
    EOk X L W (.Subscript x (.Slice l h none p2) pos) (den G Γ (.slice own a lo hi)) := by
  obtain ⟨tl, pl, hl⟩ := hl
  obtain ⟨th, ph, hh⟩ := hh
  refine EOk.plain (fun Φ B μ H σ ρ F R Q S sl q kx k => ?_) fun _ => rfl
  refine sE_of (pe_slice (slice_ok (L := L) own) pe_s pl ph) ?_
  refine ha.v Φ B μ H σ ρ F _ _ S sl q kx fun v t H1 B1 μ1 l1 S1 r1 q1 => ?_
  refine hl Φ B1 μ1 H1 σ ρ F _ _ S1 (sl.mono l1) q1 (kx.mono l1) fun l' H2 B2 μ2 l2 S2 q2 => ?_
  refine hh Φ B2 μ2 H2 σ ρ F _ _ S2 (sl.mono (l1.trans l2)) q2 (kx.mono (l1.trans l2)) fun h' H3 B3 μ3 l3 S3 q3 => ?_
  exact ⟨Φ, B3, μ3, t, R, S3, r1.mono (l2.trans l3), q3, k.mono ((l1.trans l2).trans l3)⟩
theorem k_lst {own : Bool} {es : List Ex} {xs : List Expr} (h : Paired (fun e p => EOk X L W e p ∧ Stat e) xs (dens G Γ es)) : EOk X L W (.List xs pos) (den G Γ (.lst own es)) :=
  EOk.plain (fun Φ B μ H σ ρ F R Q S sl q kx k => by
    refine sE_of (pe_lst pa_s) ?_
    refine AOk.of h Φ B μ H σ ρ F _ _ S sl q kx fun vs ts H1 B1 μ1 l1 S1 r1 n1 q1 => ?_
    exact ⟨by rw [r1.length]; exact q1.1, fun p hp => newL_ok S1 r1 q1.2 (k.mono l1) hp⟩) fun _ => rfl
theorem k_tup {es : List Ex} {xs : List Expr} {kk : Nat} (h : Paired (fun e p => EOk X L W e p ∧ Stat e) xs (dens G Γ es)) : EOk X L W (.Tuple xs kk pos) (den G Γ (.tup es)) :=
  EOk.plain (fun Φ B μ H σ ρ F R Q S sl q kx k => by
    refine sE_of (pe_tup pa_s) ?_
    refine AOk.of h Φ B μ H σ ρ F _ _ S sl q kx fun vs ts H1 B1 μ1 l1 S1 r1 n1 q1 => ?_
    exact ⟨by rw [r1.length]; exact q1.1, fun p hp => newT_ok S1 r1 q1.2 (k.mono l1) hp⟩) fun _ => rfl
theorem newD_ok {K : PySem.W.Frag} {Φ H B : Hp} {μ : Sto} {R : RP} {Q : VK} {ks : List (Key × V)} {kvs : List (Key × T)} {p : Addr} (S : St K L Φ H B μ) (hp : H p = none) (r : KTs K B ks kvs) (k : Post K L Φ B R Q) (h : R (.own p) (μ.set p (.dict kvs))) : Q (.ref p) (upd H p (.dK ks)) :=
  k _ (.own p) _ B _ (Same.refl _) (S.put (S.freshB hp) (S.freshF hp) (show ObOk K L (upd H p (.dK ks)) B p (.dict kvs) from ⟨ks, upd_same, r⟩)) rfl h
theorem k_dict0 : EOk X L W (.Dict [] [] pos) (den G Γ (.dict [] [])) :=
  EOk.plain (fun Φ B μ H σ ρ F R Q S sl q kx k => by
    refine sE_of pe_dnewK fun p hp => ?_
    have q : ∀ p, μ p = none → R (.own p) (μ.set p (.dict [])) := q
    exact newD_ok S hp .nil k (q p (S.fresh hp))) fun _ => rfl
/-- a thing of ours that only the frame knows -/
theorem St.frame {K : PySem.W.Frag} {Φ H B : Hp} {μ : Sto} {p : Addr} {o : HO} (S : St K L Φ H B μ) (hp : H p = none) : St K L (upd Φ p o) (upd H p o) B μ := by
  have S' := S.aside (o := o) hp
  refine ⟨S'.sub, S'.sto, fun q u e => ?_⟩
  by_cases h : q = p
  · subst h
    rw [upd_same] at e
    cases e
    exact ⟨upd_same, S.freshB hp, S.fresh hp⟩
  · rw [upd_ne h] at e
    exact S'.frm q u e
theorem St.reframe {K : PySem.W.Frag} {Φ H B : Hp} {μ : Sto} {p : Addr} {o o' : HO} (S : St K L (upd Φ p o) H B μ) : St K L (upd Φ p o') (upd H p o') B μ := by
  obtain ⟨_, hB, hμ⟩ := S.frm p o upd_same
  refine ⟨fun b u e => ?_, fun q ob e => ?_, fun q u e => ?_⟩
  · rw [upd_ne (ne_of_none e hB)]
    exact S.sub _ _ e
  · have hq : q ≠ p := fun z => by
      rw [z, hμ] at e
      cases e
    obtain ⟨h1, h2⟩ := S.sto q ob e
    exact ⟨h1, h2.mono (Same.refl _) (upd_ne hq)⟩
  · by_cases h : q = p
    · subst h
      rw [upd_same] at e
      cases e
      exact ⟨upd_same, hB, hμ⟩
    · rw [upd_ne h] at e
      obtain ⟨a, b, d⟩ := S.frm q u (by rw [upd_ne h]; exact e)
      exact ⟨by rw [upd_ne h]; exact a, b, d⟩
/-- it is ours again -/
theorem St.unframe {K : PySem.W.Frag} {Φ H B : Hp} {μ : Sto} {p : Addr} {o : HO} (S : St K L (upd Φ p o) H B μ) (hF : Φ p = none) : St K L Φ H B μ ∧ H p = some o ∧ B p = none ∧ μ p = none := by
  obtain ⟨hH, hB, hμ⟩ := S.frm p o upd_same
  exact ⟨⟨S.sub, S.sto, fun q u e => S.frm q u (by rw [upd_ne (ne_of_none e hF)]; exact e)⟩, hH, hB, hμ⟩
theorem St.give {K : PySem.W.Frag} {Φ H B : Hp} {μ : Sto} {p : Addr} {o : HO} {ob : Ob} (S : St K L Φ H B μ) (hH : H p = some o) (hB : B p = none) (hF : Φ p = none) (h : ObOk K L H B p ob) : St K L Φ H B (μ.set p ob) := by
  have e : upd H p o = H := by
    funext q
    by_cases z : q = p
    · subst z
      rw [upd_same, hH]
    · exact upd_ne z
  have := S.put (p := p) (o := o) (ob := ob) hB hF (by rw [e]; exact h)
  rwa [e] at this
theorem St.still {K : PySem.W.Frag} {Φ H B : Hp} {μ : Sto} {p : Addr} {o : HO} (S : St K L Φ H B μ) (hH : H p = some o) (hB : B p = none) (hF : Φ p = none) (hμ : μ p = none) : Le B (upd B p o) ∧ St K L Φ H (upd B p o) μ := by
  refine ⟨le_upd hB, fun b u e => ?_, fun q ob e => ?_, fun q u e => ?_⟩
  · by_cases h : b = p
    · subst h
      rw [upd_same] at e
      cases e
      exact hH
    · rw [upd_ne h] at e
      exact S.sub _ _ e
  · have hq : q ≠ p := fun z => by
      rw [z, hμ] at e
      cases e
    obtain ⟨h1, h2⟩ := S.sto q ob e
    exact ⟨by rw [upd_ne hq]; exact h1, h2.mono (le_upd hB) rfl⟩
  · obtain ⟨a, b, d⟩ := S.frm q u e
    have hq : q ≠ p := fun z => by
      rw [z, hF] at e
      cases e
    exact ⟨a, by rw [upd_ne hq]; exact b, d⟩
theorem claimL {K : PySem.W.Frag} {Φ H B : Hp} {μ : Sto} {R : RP} {Q : VK} {own : Bool} {p : Addr} {vs : List V} {ts : List T} (S : St K L (upd Φ p (.lst vs)) H B μ) (hF : Φ p = none) (r : Trs K B vs ts) (h : newL own ts μ R) (k : Post K L Φ B R Q) : Q (.ref p) H := by
  obtain ⟨S1, hH, hB, hμ⟩ := S.unframe hF
  cases own with
  | true =>
    have h : ∀ p, μ p = none → R (.own p) (μ.set p (.lst ts)) := h
    exact k _ (.own p) H B _ (Same.refl _) (S1.give hH hB hF (show ObOk K L H B p (.lst ts) from ⟨vs, hH, r⟩)) rfl (h p hμ)
  | false =>
    have h : R (.lst ts) μ := h
    obtain ⟨le, S2⟩ := S1.still hH hB hF hμ
    exact k _ (.lst ts) H _ _ le S2 ⟨p, vs, rfl, upd_same, r.mono le⟩ h
theorem k_dict1 {a b : Ex} {x y : Expr} (ha : EOk X L W x (den G Γ a)) (hb : EOk X L W y (den G Γ b)) : EOk X L W (.Dict [some x] [y] pos) (den G Γ (.dict [a] [b])) :=
  EOk.plain (fun Φ B μ H σ ρ F R Q S sl q kx k => by
    refine sE_of (pe_disp (pps_cons pe_s pe_s pps_nil) (by rfl) (by rfl) (fun z => by cases z) (show 1 ≤ 15 by omega)) fun p hp => ?_
    have kx' : PostX X.K L (upd Φ p (.dK [])) B F (WE W σ) := fun c' H' B' μ' l S' f => kx c' H' B' μ' l (S'.unframe (S.freshF hp)).1 f
    refine ha.v _ B μ _ σ ρ F _ _ (S.frame hp) sl q kx' fun v t H1 B1 μ1 l1 S1 r1 q1 => ?_
    refine hb.v _ B1 μ1 H1 σ ρ F _ _ S1 (sl.mono l1) q1 (kx'.mono l1) fun w u H2 B2 μ2 l2 S2 r2 q2 => ?_
    obtain ⟨k', e, q2⟩ := q2
    obtain ⟨S3, hH, hB, hμ⟩ := S2.unframe (S.freshF hp)
    have ek := keyT_ok (r1.mono l2) e
    subst ek
    refine ⟨hH, [(k', w)], rfl, by simp, ?_⟩
    have rr : KTs X.K B2 [(k', w)] [(k', u)] := .cons ⟨rfl, r2⟩ .nil
    exact k _ (.own p) _ B2 _ (l1.trans l2) (S3.put hB (S.freshF hp) (show ObOk X.K L (upd H2 p (.dK [(k', w)])) B2 p (.dict [(k', u)]) from ⟨_, upd_same, rr⟩)) rfl (q2 p hμ)) fun _ => rfl
end
end Rh

namespace Rh
open PySem PySem.Spec PyProof.Rows L2
/-! ## 14b. list(reversed(a list)) -/
section
variable {prog : Program} {w : World} {A : Around} {E : Value → Shared → Prop} {s : Shared}
theorem ext_rev {it l S : Addr} {items : Array Value} {R : Result → Shared → Prop} (hh : A.handled = none) (hit : s.heap.IsRevIter it l ((items.size : Int) - 1)) (hl : s.heap.IsList l items) (hne : l ≠ it) (hn : items.size ≤ sizeLine)
    (hSi : S ≠ it) (hSl : S ≠ l) (res : Value) (c₀ : Nat) (hS : s.heap.get? S = some { cls := .type "list", data := .seq #[] c₀ })
    (hR : ∀ h' tk acc' c', (∀ b o, b ≠ S → b ≠ it → s.heap.get? b = some o → h'.get? b = some o) → h'.get? S = some { cls := .type "list", dict := none, data := .seq acc' c', slots := #[] } → ItemsOf (fun i v => items[items.size - 1 - i]? = some v) acc' items.size → R (.ok (.ret res)) { s with heap := h', toks := tk }) :
    wpAny (model prog w) A.in1 (Builtin.List.listExtendWith (.ref S) (.ref it) res)
      (fun fin s' => match fin with | .done f => R (.ok f) s' | .again c' => c'.quiet = true ∧ codeAny (model prog w) A c' R s') (fun e s' => R (.error e) s') s := by
  have hh1 : A.in1.handled = none := hh
  have W := (Walks.listRev (prog := prog) (w := w) (A := A.in1) hh1 it l hne items).toS
  have hSf : S ∉ [it, l] := by simp only [List.mem_cons, List.not_mem_nil, or_false, not_or]; exact ⟨hSi, hSl⟩
  have hT : s.TypeIs (.ref it) "list_reverseiterator" := hit.typeIs
  have h1 : Builtin.List.listSameRef (.ref S) (.ref it) = false := by simp [Builtin.List.listSameRef, hSi]
  unfold Builtin.List.listExtendWith
  refine wpAny_bind (wpAny_typeOf hT ?_)
  rw [if_neg (by rw [h1]; decide)]
  refine wpAny_bind (wpAny_pyIter_revIter hit ?_)
  refine wpAny_bind (wpAny_holding ?_)
  unfold Builtin.List.listLengthHint
  refine wpAny_bind (wpAny_specialOf hT RT.nolen_lri ?_)
  show wpAny _ A.in1 (specialOf (Value.ref it) (Str.ofString "__length_hint__") >>= _) _ _ _
  refine wpAny_bind (wpAny_specialOf hT RT.hint_lri ?_)
  generalize hid : ("list_reverseiterator.__length_hint__" : String) = id0
  wp_delta
  rw [show splitId id0 = some ("list_reverseiterator", "__length_hint__") from by subst hid; decide +kernel]
  subst hid
  refine wpAny_bind (wpAny_isInstance (b := true) hT (by rw [isSubtype_type]; kernel_rfl) ?_)
  refine wpAny_pure ?_
  rw [if_neg (by decide)]
  have e0 : ((items.size : Nat) : Int) - 1 - ((0 : Nat) : Int) = (items.size : Int) - 1 := by omega
  refine wpAny_pure ⟨plainId_quiet F.plain_extend_loop _, codeAny_extend_loopS W hn _ hSf _ items.size 0 _ _ _ rfl (Nat.zero_le _) ⟨Nat.zero_le _, by rw [e0]; exact hit, hl⟩ hS (ItemsOf.nil _) fun s' acc' c' hm hS' hacc => ?_⟩
  rw [Moved.eq_with hm]
  refine hR s'.heap s'.toks acc' c' (fun b o hb hb2 e => hm.heap b o (fun hmem => ?_) e) hS' hacc
  rcases List.mem_cons.mp hmem with e' | hmem
  · exact hb e'
  · exact hb2 (List.mem_singleton.mp hmem)
theorem init_rev {it l S : Addr} {items : Array Value} {R : Result → Shared → Prop} (hh : A.handled = none) (hit : s.heap.IsRevIter it l ((items.size : Int) - 1)) (hl : s.heap.IsList l items) (hne : l ≠ it) (hn : items.size ≤ sizeLine)
    (hSi : S ≠ it) (hSl : S ≠ l) (hS : s.heap.get? S = some { cls := .type "list", data := .seq #[] })
    (hR : ∀ h' tk acc' c', (∀ b o, b ≠ S → b ≠ it → s.heap.get? b = some o → h'.get? b = some o) → h'.get? S = some { cls := .type "list", dict := none, data := .seq acc' c', slots := #[] } → ItemsOf (fun i v => items[items.size - 1 - i]? = some v) acc' items.size → R (.ok (.ret .none)) { s with heap := h', toks := tk }) :
    wpAny (model prog w) A.in1 (Builtin.«list.__init__» ⟨[.ref S, .ref it], []⟩)
      (fun fin s' => match fin with | .done f => R (.ok f) s' | .again c' => c'.quiet = true ∧ codeAny (model prog w) A c' R s') (fun e s' => R (.error e) s') s := by
  show wpAny _ _ (do let old ← Builtin.List.listItems (.ref S); Builtin.List.listUpdate (.ref S) (fun _ => #[]); letGo old.toList.reverse; Builtin.List.listExtendWith (.ref S) (.ref it) .none) _ _ s
  refine wpAny_bind ?_
  unfold Builtin.List.listItems
  refine wpAny_bind (wpAny_seqItems hS rfl (wpAny_pure ?_))
  show wpAny _ _ (updateSeq S (fun _ => #[]) >>= fun _ => letGo (#[] : Array Value).toList.reverse >>= fun _ => Builtin.List.listExtendWith (.ref S) (.ref it) .none) _ _ s
  refine wpAny_bind (wpAny_updateSeq hS rfl ?_)
  have hS₂ := Heap.get?_update_self (Obj.mapSeq (fun _ => (#[] : Array Value))) hS rfl
  have oth : ∀ b o, b ≠ S → s.heap.get? b = some o → (s.heap.update S (Obj.mapSeq (fun _ => (#[] : Array Value)))).get? b = some o :=
    fun b o hb e => (Heap.get?_update_other _ _ (Ne.symm hb)).trans e
  refine wpAny_bind (wpAny_letGo ?_)
  have hl2 : (s.heap.update S (Obj.mapSeq (fun _ => (#[] : Array Value)))).IsList l items := by
    obtain ⟨ol, e, r⟩ := hl
    exact ⟨ol, oth _ _ hSl.symm e, r⟩
  refine ext_rev hh (hit.at fun o e => oth _ _ hSi.symm e) hl2 hne hn hSi hSl .none _ hS₂ (fun h' tk acc' c' hk hS' hacc => ?_)
  exact hR h' tk acc' c' (fun b o hb hb2 e => hk b o hb hb2 (oth b o hb e)) hS' hacc
theorem call_list_rev {it l : Addr} {items : Array Value} {Q : Value → Shared → Prop} (hh : A.handled = none) (hit : s.heap.IsRevIter it l ((items.size : Int) - 1)) (hl : s.heap.IsList l items) (hne : l ≠ it) (hn : items.size ≤ sizeLine)
    (hQ : ∀ h' tk acc' c', (∀ b o, b ≠ it → s.heap.get? b = some o → h'.get? b = some o) → h'.get? s.heap.objs.size = some { cls := .type "list", dict := none, data := .seq acc' c', slots := #[] } → ItemsOf (fun i v => items[items.size - 1 - i]? = some v) acc' items.size → Q (.ref s.heap.objs.size) { s with heap := h', toks := tk }) :
    wpAny (model prog w) A (call (.type "list") [.ref it]) Q E s := by
  refine callType_codes (Q₁ := fun obj s₁ => obj = .ref s.heap.objs.size ∧ s₁ = { s with heap := s.heap.push { cls := .type "list", data := .seq #[] } }) PySem.F.called_list (PySem.F.typeCall_list_1 _) PySem.F.entry_list_init
    (code_list_new _ ⟨rfl, rfl⟩) fun obj s₁ h₁ => ?_
  obtain ⟨rfl, rfl⟩ := h₁
  have hS : (s.heap.push { cls := .type "list", data := .seq #[] }).get? s.heap.objs.size = some { cls := .type "list", data := .seq #[] } := Heap.get?_push_size _ rfl
  obtain ⟨oi, hoi, _⟩ := id hit
  obtain ⟨ol, hol, _⟩ := id hl
  refine ⟨⟨_, hS, rfl⟩, PySem.F.args_list_init_2 _ _, init_rev (A := A.in1) hh (hit.at fun o e => Heap.get?_push_of_some _ e) (hl.push _) hne hn (Nat.ne_of_gt (Heap.lt_size hoi)) (Nat.ne_of_gt (Heap.lt_size hol)) hS (fun h' tk acc' c' hk hS' hacc => ?_)⟩
  exact ⟨rfl, hQ h' tk acc' c' (fun b o hb e => hk b o (Nat.ne_of_lt (Heap.lt_size e)) hb (Heap.get?_push_of_some _ e)) hS' hacc⟩
end
/-- list(reversed(x)), x a list: a new list -/
def tListRev (K : PySem.W.Frag) (te : TE) : TE := fun σ H Q => te σ H fun v H1 => ∃ (a : Addr) (xs : List V), v = .ref a ∧ SqL K H1 a xs ∧ ∀ q, H1 q = none → Q (.ref q) (upd H1 q (.lst xs.reverse))
theorem pe_listRev {X : Cx} {e : Expr} {te : TE} {p p2 pos pos2 : Pos} (hc : X.calm = true) (hg : Gl X "list") (hm : X.mg "list" = none) (hg2 : Gl X "reversed") (hm2 : X.mg "reversed" = none) (he : PE X e te)
    (hs : starEach [e] X.env = (false, eval e X.env) :: starEach [] X.env := by rfl)
    (hs2 : starEach [.Call (.Name "reversed" p2) [e] [] pos2] X.env = (false, eval (.Call (.Name "reversed" p2) [e] [] pos2) X.env) :: starEach [] X.env := by rfl) :
    PE X (.Call (.Name "list" p) [.Call (.Name "reversed" p2) [e] [] pos2] [] pos) (tListRev X.K te) := by
  refine ⟨fun pins s σ H Q I h => ?_⟩
  refine Call_ (ld_blt I hg hm boot_list (PyProof.Rows.callWith_type1 (args_cons (Call_ (ld_blt I hg2 hm2 PyProof.Rows.boot_reversed (PyProof.Rows.callWith_type1 (args_cons (thn (he.run pins s σ H _ I h) fun u s1 ⟨v, H1, I1, r1, q1⟩ => args_nil ?_) hs) hs rfl))) hs2) hs2 rfl))
  obtain ⟨a, xs, ev, hq, q⟩ := q1
  subst ev
  obtain rfl : u = Value.ref a := r1
  obtain ⟨its, rv, p', hz⟩ := I1.list hq
  refine call_reversed_list p'.isList (args_nil ?_)
  have hl := p'.isList
  obtain ⟨ol, hol, _⟩ := id hl
  have hne : a ≠ s1.heap.objs.size := Nat.ne_of_lt (Heap.lt_size hol)
  have hn : its.toArray.size ≤ sizeLine := by rw [List.size_toArray, ← rv.length]; exact hz
  refine call_list_rev (s := { s1 with heap := s1.heap.push (revObj a ((its.toArray.size : Int) - 1)) }) (I1.ok.hd hc) ⟨_, Heap.get?_push_size _ rfl, rfl, rfl⟩ (hl.push _) hne hn fun h' tk acc c' hk hS hi => ?_
  have hk' : ∀ b o, s1.heap.get? b = some o → h'.get? b = some o := fun b o e => hk b o (Nat.ne_of_lt (Heap.lt_size e)) (Heap.get?_push_of_some _ e)
  have hle : s1.heap.objs.size ≤ (s1.heap.push (revObj a ((its.toArray.size : Int) - 1))).objs.size := by rw [Heap.size_push]; exact Nat.le_succ _
  refine ⟨.ref _, upd H1 (s1.heap.push (revObj a ((its.toArray.size : Int) - 1))).objs.size (.lst xs.reverse), I1.laid (t' := tk) hk' hle (show ObjOk X.prog X.w _ _ _ (.lst xs.reverse) from ⟨by rw [List.length_reverse]; exact hz, acc.toList, c', RT.vals_rev rv hi, ?_⟩), rfl, q _ (I1.hok.fresh hle)⟩
  rw [Array.toArray_toList]
  exact hS
section
variable {X : Cx} {L : Lay} {W : WX} {G : Tab} {Γ : Nat → TSp} {c : SC} {pos : Pos}
/-! ## 15. Calls -/
theorem gName_ok {n x : Str} (h : gName c n x = true) : x = n ∧ glb c.sc x = true := by
  simp only [gName, Bool.and_eq_true, decide_eq_true_eq] at h
  exact h
theorem bif_bl (f : Bif) : bifName f ∈ blNames ∧ bootBuiltins (bifName f) = some (bifVal f) ∧ (bifName f == ("__debug__" : Str)) = false ∧ bifName f ≠ "__name__" := by
  cases f <;> exact ⟨by decide +kernel, by decide +kernel, by decide +kernel, by decide +kernel⟩
theorem callB {x : Str} {u : Value} {p : Pos} {xs : List Expr} {ps : List (TEx × TTe)} {tb : List T → Sto → RP → Prop} (C : Ctx G Γ L c X W) (hs : Paired (fun e p => EOk X L W e p ∧ Stat e) xs ps) (hne : xs ≠ [])
    (hg : glb c.sc x = true) (hb : x ∈ blNames) (hv : bootBuiltins x = some u) (hd : (x == ("__debug__" : Str)) = false) (hn : x ≠ "__name__") (hu : (∃ id, u = .builtin id) ∨ ∃ T', u = .type T') (hc : CallR X u (OpN X.K L tb)) :
    VOk X L W (.Call (.Name x p) xs [] pos) (fun ρ μ F R => evs ps ρ μ F fun ts μ1 => tb ts μ1 R) := fun Φ B μ H σ ρ F R Q S sl q kx k => by
  have A := AOk.of hs Φ B μ H σ ρ F _ (fun vs H1 => OpN X.K L tb vs H1 Q) S sl q kx fun vs ts H1 B1 μ1 l1 S1 r1 n1 q1 => ⟨Φ, B1, μ1, ts, R, S1, r1, q1, k.mono l1⟩
  have pl := star_plain hs X.env pos
  cases hs with
  | nil => exact absurd rfl hne
  | cons h1 hs' =>
    have st := h1.2.star X.env
    have pl' := star_plain hs' X.env pos
    rcases hu with ⟨id, rfl⟩ | ⟨T', rfl⟩
    · exact sE_of (pe_callB hc (C.gl x hg) (C.g.bl x hb) hv pa_s hn hd (st _) pl') A
    · exact sE_of (pe_callTy hc (C.gl x hg) (C.g.bl x hb) hv pa_s hn hd (st _) pl') A
theorem k_bif (C : Ctx G Γ L c X W) (hh : c.hot = false) {f : Bif} {own : Bool} {es : List Ex} {x : Str} {p : Pos} {xs : List Expr} (hx : gName c (bifName f) x = true) (hne : xs.isEmpty = false) (hs : Paired (fun e p => EOk X L W e p ∧ Stat e) xs (dens G Γ es)) :
    EOk X L W (.Call (.Name x p) xs [] pos) (den G Γ (.bif f own es)) := by
  obtain ⟨rfl, hg⟩ := gName_ok hx
  obtain ⟨h1, h2, h3, h4⟩ := bif_bl f
  refine EOk.plain (callB C hs (by intro z; rw [z] at hne; cases hne) hg h1 h2 h3 h4 ?_ (bif_ok (C.calm hh) own f)) fun _ => rfl
  cases f <;> first | exact .inl ⟨_, rfl⟩ | exact .inr ⟨_, rfl⟩
theorem k_lrng (C : Ctx G Γ L c X W) (hh : c.hot = false) {own : Bool} {a : Ex} {l f : Str} {p p2 p3 : Pos} {x : Expr} (h1 : gName c "list" l = true) (h2 : gName c "range" f = true) (h : EOk X L W x (den G Γ a)) (st : Stat x) :
    EOk X L W (.Call (.Name l p) [.Call (.Name f p2) [x] [] p3] [] pos) (den G Γ (.lrng own a)) := by
  obtain ⟨rfl, g1⟩ := gName_ok h1
  obtain ⟨rfl, g2⟩ := gName_ok h2
  refine EOk.plain (fun Φ B μ H σ ρ F R Q S sl q kx k => ?_) fun _ => rfl
  refine sE_of (pe_listRg (C.calm hh) (C.gl _ g1) (C.g.bl _ (by decide +kernel)) (prg_1 (C.gl _ g2) (C.g.bl _ (by decide +kernel)) pe_s (st.star _ _))) ?_
  refine h.v Φ B μ H σ ρ F _ _ S sl q kx fun v t H1 B1 μ1 l1 S1 r1 q1 => ?_
  obtain ⟨n, rfl, b1, b2, q1⟩ := q1
  obtain rfl := r1
  have e : rgV 0 n = ((List.range n.toNat).map fun i : Nat => (i : Int)).map V.int := by
    unfold rgV
    rw [List.map_map]
    simp [Function.comp_def]
  have e2 : ((List.range n.toNat).map fun i : Nat => T.int (i : Nat)) = ((List.range n.toNat).map fun i : Nat => (i : Int)).map T.int := by
    rw [List.map_map]
    rfl
  refine ⟨n, rfl, ⟨by decide, by decide, b1, by omega, by omega⟩, fun q hq => ?_⟩
  rw [e]
  rw [e2] at q1
  exact newL_ok S1 (Trs.of_ints _) q1 (k.mono l1) hq
theorem k_lrev (C : Ctx G Γ L c X W) (hh : c.hot = false) {own : Bool} {a : Ex} {l f : Str} {p p2 p3 : Pos} {x : Expr} (h1 : gName c "list" l = true) (h2 : gName c "reversed" f = true) (h : EOk X L W x (den G Γ a)) (st : Stat x) :
    EOk X L W (.Call (.Name l p) [.Call (.Name f p2) [x] [] p3] [] pos) (den G Γ (.lrev own a)) := by
  obtain ⟨rfl, g1⟩ := gName_ok h1
  obtain ⟨rfl, g2⟩ := gName_ok h2
  refine EOk.plain (fun Φ B μ H σ ρ F R Q S sl q kx k => ?_) fun _ => rfl
  refine sE_of (pe_listRev (C.calm hh) (C.gl _ g1) (C.g.bl _ (by decide +kernel)) (C.gl _ g2) (C.g.bl _ (by decide +kernel)) pe_s (st.star _ _)) ?_
  refine h.v Φ B μ H σ ρ F _ _ S sl q kx fun v t H1 B1 μ1 l1 S1 r1 q1 => ?_
  obtain ⟨us, e, q1⟩ := q1
  obtain ⟨a', vs, rfl, hq, r2⟩ := vlst_ok S1 r1 e
  exact ⟨a', vs, rfl, hq, fun q hq' => newL_ok S1 r2.reverse q1 (k.mono l1) hq'⟩
theorem ty_ok {K : PySem.W.Frag} {Φ H B : Hp} {μ : Sto} {t : T} {v : V} {n : String} (S : St K L Φ H B μ) (r : Tr K B v t) (h : isStr μ t = some n) : TyX K H v (.type n) ∧ n ∈ ["NoneType", "bool", "int", "str", "tuple", "list", "dict"] := by
  unfold isStr at h
  split at h
  · cases h; obtain rfl := r; exact ⟨.base .non, by decide⟩
  · cases h; obtain rfl := r; exact ⟨.base (.bl _), by decide⟩
  · cases h; obtain rfl := r; exact ⟨.base (.int _), by decide⟩
  · cases h; obtain rfl := r; exact ⟨.base (.str _), by decide⟩
  · cases h
    obtain ⟨a, vs, rfl, h1, _⟩ := vtup_ok S r rfl
    refine ⟨?_, by decide⟩
    rcases h1 with (h1 | ⟨o, h1⟩) | ⟨o, its, m, h1, h2, _⟩
    · exact .base (.tup h1)
    · exact .fTuple h1
    · exact .kTuple h1 h2
  · cases h
    obtain ⟨a, vs, rfl, h1, _⟩ := r
    exact ⟨.base (.lst (S.sub _ _ h1)), by decide⟩
  · cases h
  · split at h
    · rename_i e
      cases h
      obtain rfl := r
      obtain ⟨vs, h1, _⟩ := S.mem e
      exact ⟨.base (.lst h1), by decide⟩
    · rename_i e
      cases h
      obtain rfl := r
      obtain ⟨ks, h1, _⟩ := S.memD e
      exact ⟨.base (.dK h1), by decide⟩
    · cases h
theorem kit_all : ∀ n ∈ ["NoneType", "bool", "int", "str", "tuple", "list", "dict"], ∀ k ∈ ["int", "bool", "str", "list", "tuple", "dict"], kitB n k = some (isT n k) := by decide +kernel
theorem bool_all : ∀ k ∈ ["int", "bool", "str", "list", "tuple", "dict"], Str.ofString k ∈ blNames ∧ bootBuiltins (Str.ofString k) = some (.type k) ∧ (Str.ofString k == ("__debug__" : Str)) = false ∧ Str.ofString k ≠ "__name__" := by decide +kernel
theorem isi_nm : ("isinstance" : Str) ∈ blNames ∧ bootBuiltins "isinstance" = some (.builtin "isinstance") ∧ (("isinstance" : Str) == ("__debug__" : Str)) = false ∧ ("isinstance" : Str) ≠ "__name__" := ⟨by decide +kernel, by decide +kernel, by decide +kernel, by decide +kernel⟩
theorem k_isi (C : Ctx G Γ L c X W) {ks : List String} {a : Ex} {x : Str} {p : Pos} {y z : Expr} (hx : gName c "isinstance" x = true) (hk : chkKs c ks z = true) (sy : Stat y) (ha : EOk X L W y (den G Γ a)) :
    EOk X L W (.Call (.Name x p) [y, z] [] pos) (den G Γ (.isi ks a)) := by
  obtain ⟨rfl, hg⟩ := gName_ok hx
  obtain ⟨h1, h2, h3, h4⟩ := isi_nm
  unfold chkKs at hk
  split at hk
  · rename_i k n pz
    simp only [Bool.and_eq_true, decide_eq_true_eq] at hk
    obtain ⟨⟨rfl, hg2⟩, hm⟩ := hk
    obtain ⟨g1, g2, g3, g4⟩ := bool_all k hm
    refine EOk.plain (fun Φ B μ H σ ρ F R Q S sl q kx kk => ?_) fun _ => rfl
    refine sE_of (pe_callB call_isi (C.gl _ hg) (C.g.bl _ h1) h2 (pa_cons pe_s (pa_cons (pe_bltn (v := .ty k) (C.gl _ hg2) (C.g.bl _ g1) g2 rfl g4 g3) pa_nil) (sy.star _ _)) h4 h3 (sy.star _ _) rfl) ?_
    refine ha.v Φ B μ H σ ρ F _ _ S sl q kx fun v t H1 B1 μ1 l1 S1 r1 q1 => ?_
    obtain ⟨n, e, q1⟩ := q1
    obtain ⟨ty, hn⟩ := ty_ok S1 r1 e
    refine ⟨v, .ty k, .type n, .type k, isT n k, rfl, .ty k, ty, kit_ty (kit_all n hn k hm), ?_⟩
    have e3 : [k].any (isT n) = isT n k := by simp
    rw [e3] at q1
    exact kk _ _ H1 B1 μ1 l1 S1 (show Tr X.K B1 (.bl _) (.bl _) from rfl) q1
  · cases hk
theorem ve_nm : ("ValueError" : Str) ∈ blNames ∧ bootBuiltins "ValueError" = some (.type "ValueError") := ⟨by decide +kernel, by decide +kernel⟩
theorem k_isx (C : Ctx G Γ L c X W) {i h : Nat} {x f k : Str} {p p2 p3 : Pos} (hf : gName c "isinstance" f = true) (hN : c.N[i]? = some x) (hv : vis c.sc x = true) (hp : plainN x = true) (hk : exName G h = some k) (hg : glb c.sc k = true) (hpk : plainN k = true) (has : c.as = true) (hxs : G.xs = true) :
    EOk X L W (.Call (.Name f p) [.Name x p2, .Name k p3] [] pos) (den G Γ (.isx i h)) := by
  obtain ⟨rfl, gf⟩ := gName_ok hf
  obtain ⟨h1, h2, h3, h4⟩ := isi_nm
  obtain ⟨_, X0, pe, oe, pn, a, n, rfl, ea, hz, hfd, hcu⟩ := C.cu has
  obtain ⟨k1, k2, k3⟩ := C.g.ki hxs a n ea
  have hcl : ∃ cv : V, PE (X0.suite pe ((pe, oe) :: pn)) (.Name k p3) (fun σ H Q => Q cv H) ∧ ∃ w, (∀ u, RelV cv u → u = w) ∧ PySem.W.kitOne (X0.suite pe ((pe, oe) :: pn)).K (.ref (L.exc a)) w = some (subX G a h) := by
    unfold exName at hk
    by_cases e : h = 999
    · rw [if_pos e] at hk
      cases hk
      refine ⟨.ty "ValueError", pe_bltn (v := .ty "ValueError") (C.gl _ hg) (C.g.bl _ ve_nm.1) ve_nm.2 rfl (plainN_ok hpk).2.2 (plainN_ok hpk).1, .type "ValueError", fun u r => r, ?_⟩
      have : subX G a h = true := by
        unfold subX
        simp [e]
      rw [this]
      exact k2
    · rw [if_neg e] at hk
      exact ⟨.ref (L.exc h), pe_glob (C.gl _ hg) (C.g.ex h k hk).mg_ rfl (plainN_ok hpk).1, .ref (L.exc h), fun u r => r, k1 h k hk⟩
  obtain ⟨cv, pe1, w, hw, hkit⟩ := hcl
  refine EOk.plain (fun Φ B μ H σ ρ F R Q S sl q kx kk => ?_) fun _ => rfl
  obtain ⟨t, et, q⟩ := q
  rw [hcu] at q
  obtain ⟨h', e1, _, q⟩ := q
  simp only [List.cons.injEq, T.int.injEq, and_true] at e1
  obtain ⟨rfl, e2⟩ := e1
  have e2 : h = h' := by omega
  subst e2
  obtain ⟨v, e3, r⟩ := sl.2 i _ et
  obtain rfl := r
  refine sE_of (pe_callB (call_isE k3 hz hfd) (C.gl _ gf) (C.g.bl _ h1) h2 (pa_cons (pe_var (by rw [C.N]; exact hN) (C.vi x hv) (plainN_ok hp).1 (plainN_ok hp).2.1) (pa_cons pe1 pa_nil rfl) rfl) h4 h3 rfl rfl) ?_
  exact ⟨_, e3, cv, w, subX G a h, rfl, hw, hkit, kk.here S (show Tr _ B (.bl _) (.bl _) from rfl) q⟩
theorem ints_v {K : PySem.W.Frag} {B : Hp} (l : List Int) : Trs K B (l.map V.int) (l.map T.int) := Trs.of_ints l
theorem sp_ok {K : PySem.W.Frag} {Φ H B : Hp} {μ : Sto} {n : Nat} {S' : TSp} {vs : List V} {ts : List T} {F : XP} {R : RP} {Q : VK} {E : XK} (hl : vs.length = n) (S : St K L Φ H B μ) (r : Trs K B vs ts) (q : S' ts μ F R) (k : Post K L Φ B R Q) (kx : PostX K L Φ B F E) : spOf K L n S' vs H Q E :=
  ⟨hl, Φ, B, μ, ts, R, F, S, r, q, k, kx⟩
theorem k_call (C : Ctx G Γ L c X W) (hh : c.hot = false) {f nd : Nat} {i : FnI} {es : List Ex} {x : Str} {p : Pos} {xs : List Expr} (hi : G.fn f = some i) (hn : i.name = x) (hcl : i.cls = none) (hlv : i.lvl ≤ c.k) (hnd : nd ≤ i.dfl.length) (hnp : xs.length + nd = i.np) (hf : f < c.m)
    (hg : glb c.sc x = true) (hp : plainN x = true) (hs : Paired (fun e p => EOk X L W e p ∧ Stat e) xs (dens G Γ es)) : EOk X L W (.Call (.Name x p) xs [] pos) (den G Γ (.call f nd es)) := by
  show EOk X L W _ (plain fun ρ μ F R => evs (dens G Γ es) ρ μ F fun ts μ1 => ∃ i, G.fn f = some i ∧ Γ f (ts ++ (i.rest nd).map T.int) μ1 F R)
  generalize dens G Γ es = pes at hs
  refine EOk.plain (fun Φ B μ H σ ρ F R Q S sl q kx k => ?_) fun _ => rfl
  obtain ⟨a, fd, ps, FF⟩ := C.g.fn f i hf hi
  obtain ⟨ds, hb, hd⟩ := FF.bi nd hnd
  have hm := FF.mg_ hcl
  rw [hn] at hm
  have key : ∀ (vs : List V) (ts : List T) (H1 B1 : Hp) (μ1 : Sto), Le B B1 → St X.K L Φ H1 B1 μ1 → Trs X.K B1 vs ts → ts.length = xs.length → (∃ i, G.fn f = some i ∧ Γ f (ts ++ (i.rest nd).map T.int) μ1 F R) → spOf X.K L i.np (Γ f) (vs ++ (i.rest nd).map V.int) H1 Q (WE W σ) := fun vs ts H1 B1 μ1 l1 S1 r1 n1 q1 => by
    obtain ⟨j, e, q1⟩ := q1
    rw [hi] at e
    cases e
    refine sp_ok ?_ S1 (r1.append (ints_v _)) q1 (k.mono l1) (kx.mono l1)
    rw [List.length_append, List.length_map, r1.length, n1, ← hnp]
    unfold FnI.rest
    rw [List.length_drop]
    omega
  intro pins s I
  refine wpAny_Call_Name_kw (ld_glob I (C.gl x hg) hm ?_ (plainN_ok hp).1)
  cases hs with
  | nil => exact PySem.W.callWith_K0 I.kIn FF.kp (run_fnSD (us := []) (vs := []) FF.ok ((C.room hh).mono hlv) hb hd (passAt C.tk σ) I .nil (key [] [] H B μ (Same.refl _) S rfl rfl q))
  | cons h1 hs' =>
    have A := AOk.of (.cons h1 hs') Φ B μ H σ ρ F _ (fun vs H1 => spOf X.K L i.np (Γ f) (vs ++ (i.rest nd).map V.int) H1 Q (WE W σ)) S sl q kx key
    refine PySem.W.callWith_K (h₀ := X.base) I.ok.mod.kin FF.kp (thn (A pos pins s I) fun us s1 ⟨vs, H1, I1, r, q1⟩ => ⟨I1.kIn, ?_⟩) (h1.2.star X.env _) (star_plain hs' X.env pos)
    exact run_fnSD FF.ok ((C.room hh).mono hlv) hb hd (passAt C.tk σ) I1 r q1
theorem zip_look {c0 : List Str} (nd : c0.Nodup) : ∀ {vs : List V} {i : Nat} {f : Str} {v : V}, c0[i]? = some f → vs[i]? = some v → (c0.zip vs).lookup f = some v := by
  induction c0 with
  | nil => intro vs i f v h; simp at h
  | cons g r ih =>
    intro vs i f v h h2
    rw [List.nodup_cons] at nd
    cases vs with
    | nil => simp at h2
    | cons w ws =>
      cases i with
      | zero =>
        simp at h h2
        subst h h2
        show List.lookup g ((g, w) :: r.zip ws) = some w
        rw [List.lookup_cons_self]
      | succ i =>
        have h' : r[i]? = some f := by simpa using h
        have ne : (f == g) = false := beq_eq_false_iff_ne.mpr fun z => nd.1 (by rw [← z]; exact List.mem_of_getElem? h')
        show List.lookup f ((g, w) :: r.zip ws) = some v
        rw [List.lookup_cons, ne]
        exact ih nd.2 h' (by simpa using h2)
theorem zip_none {c0 : List Str} {m : Str} (h : m ∉ c0) : ∀ (vs : List V), (c0.zip vs).lookup m = none := by
  induction c0 with
  | nil => intro vs; rfl
  | cons g r ih =>
    intro vs
    cases vs with
    | nil => rfl
    | cons w ws =>
      have ne : (m == g) = false := beq_eq_false_iff_ne.mpr fun z => h (by rw [z]; exact List.mem_cons_self)
      show List.lookup m ((g, w) :: r.zip ws) = none
      rw [List.lookup_cons, ne]
      exact ih (fun z => h (List.mem_cons_of_mem _ z)) ws
theorem meth_form {y : Expr} {m : Str} {apos : Pos} {xs : List Expr} {env : Env} (hsup : notSup y = true) (hline : (apos.endLine == pos.line) = true) (h30 : xs.length < 30) (hst : (backTo pos (starEach xs env)).any (·.1) = false) :
    eval (.Call (.Attribute y m apos) xs [] pos) env = (do
      let ov ← eval y env
      standAt apos.atName
      let (f, first) ← holding [ov] (getMethod ov m (do return (← importBound y env).getD true))
      callWith pos f first (backTo pos (starEach xs env)) (backToKw pos (keywordEach [] env))) := by
  have e0 : eval (.Call (.Attribute y m apos) xs [] pos) env = (do
      let ov ← attributeBase y m env (eval y env)
      standAt apos.atName
      methodCall y m apos pos env ov (xs.length + 0) (backTo pos (starEach xs env)) (backToKw pos (keywordEach [] env))) := rfl
  have hform : methodCallForm (xs.length + 0) (backTo pos (starEach xs env)) (backToKw pos (keywordEach [] env)) = true := by
    unfold methodCallForm
    have h1 : (backTo pos (starEach xs env)).all (!·.1) = true := by
      rw [List.all_eq_true]
      intro z hz
      have := List.any_eq_false.mp hst z hz
      simpa using this
    rw [h1]
    show (true && true && decide (xs.length + 0 + 0 < 30)) = true
    simp
    omega
  rw [e0, notSup_base hsup]
  unfold methodCall calleeOf methodCallPos
  rw [hform, hline]
  rfl
theorem k_meth (C : Ctx G Γ L c X W) (hh : c.hot = false) {f nd : Nat} {i : FnI} {d : Nat} {o : Ex} {es : List Ex} {y : Expr} {m : Str} {apos : Pos} {xs : List Expr} (hline : (apos.endLine == pos.line) = true) (h30 : xs.length < 30) (hi : G.fn f = some i) (hn : i.name = m) (hcl : i.cls = some d) (hm : m ∉ G.flds d)
    (hlv : i.lvl ≤ c.k) (hnd : nd ≤ i.dfl.length) (hnp : xs.length + nd + 1 = i.np) (hf : f < c.m) (hcd : ∃ ci, G.cl d = some ci) (hsup : notSup y = true) (ho : EOk X L W y (den G Γ o)) (hs : Paired (fun e p => EOk X L W e p ∧ Stat e) xs (dens G Γ es)) :
    EOk X L W (.Call (.Attribute y m apos) xs [] pos) (den G Γ (.meth f nd o es)) := by
  show EOk X L W _ (plain fun ρ μ F R => (den G Γ o).1 ρ μ F fun x μ1 => ∃ i c p us, G.fn f = some i ∧ i.cls = some c ∧ x = .own p ∧ μ1 p = some (.obj c us) ∧
      evs (dens G Γ es) ρ μ1 F fun ts μ2 => Γ f (x :: (ts ++ (i.rest nd).map T.int)) μ2 F R)
  generalize dens G Γ es = pes at hs
  refine EOk.plain (fun Φ B μ H σ ρ F R Q S sl q kx k => ?_) fun _ => rfl
  obtain ⟨a, fd, ps, FF⟩ := C.g.fn f i hf hi
  obtain ⟨ds, hb, hd⟩ := FF.bi nd hnd
  obtain ⟨ci, hci⟩ := hcd
  have CF := C.g.cl d ci hci
  have hme := FF.me d hcl
  rw [hn] at hme
  have key : ∀ (p : Addr) (vs : List V) (ts : List T) (H2 B2 : Hp) (μ2 : Sto), Le B B2 → St X.K L Φ H2 B2 μ2 → Trs X.K B2 vs ts → ts.length = xs.length → Γ f (.own p :: (ts ++ (i.rest nd).map T.int)) μ2 F R → spOf X.K L i.np (Γ f) (.ref p :: (vs ++ (i.rest nd).map V.int)) H2 Q (WE W σ) := fun p vs ts H2 B2 μ2 l2 S2 r2 n2 q2 => by
    refine sp_ok ?_ S2 (Trs.cons (show Tr X.K B2 (.ref p) (.own p) from rfl) (r2.append (ints_v _))) q2 (k.mono l2) (kx.mono l2)
    rw [List.length_cons, List.length_append, List.length_map, r2.length, n2, ← hnp]
    unfold FnI.rest
    rw [List.length_drop]
    omega
  have form := meth_form (pos := pos) (m := m) hsup hline h30 (star_plain hs X.env pos)
  cases hs with
  | nil =>
    have step : sE X y σ H fun v H1 => ∃ (p dx : Addr) (us : List V), v = .ref p ∧ H1 p = some (.ins (L.addr d) dx ((L.flds d).zip us)) ∧ spOf X.K L i.np (Γ f) (.ref p :: ([] ++ (i.rest nd).map V.int)) H1 Q (WE W σ) := by
      refine ho.v Φ B μ H σ ρ F _ _ S sl q kx fun v t H1 B1 μ1 l1 S1 r1 q1 => ?_
      obtain ⟨j, d', p, us, e1, e2, rfl, e3, q1⟩ := q1
      rw [hi] at e1
      cases e1
      rw [hcl] at e2
      cases e2
      obtain rfl := r1
      obtain ⟨dx, vs, h1, h2, h3⟩ := S1.memO e3
      exact ⟨p, dx, vs, rfl, h1, key p [] [] H1 B1 μ1 l1 S1 rfl rfl q1⟩
    intro pins s I
    refine PySem.W.methodCall_KW (pl := do return (← importBound y X.env).getD true) (thn (step pins s I) fun u s1 ⟨x, H1, I1, rx, p, dx, us, e1, e2, q1⟩ => ?_) form
    subst e1
    obtain rfl : u = Value.ref p := rx
    refine getmeth_ok I1 e2 CF.cl hme (by rw [C.g.fl]; exact zip_none hm us) ?_
    exact PySem.W.callWith_K0 (first := [.ref p]) I1.kIn hme.kp (run_fnSD (us := [.ref p]) (vs := [.ref p]) FF.ok ((C.room hh).mono hlv) hb hd (passAt C.tk σ) I1 (.cons rfl .nil) q1)
  | cons h1 hs' =>
    rename_i e0 p0 es0 ps0
    have step : sE X y σ H fun v H1 => ∃ (p dx : Addr) (us : List V), v = .ref p ∧ H1 p = some (.ins (L.addr d) dx ((L.flds d).zip us)) ∧ sA X (e0 :: es0) σ H1 (fun vs H2 => spOf X.K L i.np (Γ f) (.ref p :: (vs ++ (i.rest nd).map V.int)) H2 Q (WE W σ)) := by
      refine ho.v Φ B μ H σ ρ F _ _ S sl q kx fun v t H1 B1 μ1 l1 S1 r1 q1 => ?_
      obtain ⟨j, d', p, us, e1, e2, rfl, e3, q1⟩ := q1
      rw [hi] at e1
      cases e1
      rw [hcl] at e2
      cases e2
      obtain rfl := r1
      obtain ⟨dx, vs, h11, h2, h3⟩ := S1.memO e3
      refine ⟨p, dx, vs, rfl, h11, ?_⟩
      exact AOk.of (.cons h1 hs') Φ B1 μ1 H1 σ ρ F _ _ S1 (sl.mono l1) q1 (kx.mono l1) fun vs ts H2 B2 μ2 l2 S2 r2 n2 q2 => key p vs ts H2 B2 μ2 (l1.trans l2) S2 r2 n2 q2
    intro pins s I
    refine PySem.W.methodCall_KW (pl := do return (← importBound y X.env).getD true) (thn (step pins s I) fun u s1 ⟨x, H1, I1, rx, p, dx, us, e1, e2, q1⟩ => ?_) form
    subst e1
    obtain rfl : u = Value.ref p := rx
    refine getmeth_ok I1 e2 CF.cl hme (by rw [C.g.fl]; exact zip_none hm us) ?_
    refine PySem.W.callWith_K (first := [.ref p]) (h₀ := X.base) I.ok.mod.kin hme.kp (thn (q1 pos pins s1 I1) fun us s2 ⟨vs, H2, I2, r, q2⟩ => ⟨I2.kIn, ?_⟩) (h1.2.star X.env _) (star_plain hs' X.env pos)
    exact run_fnSD (us := .ref p :: us) (vs := .ref p :: vs) FF.ok ((C.room hh).mono hlv) hb hd (passAt C.tk σ) I2 (.cons rfl r) q2
/-! len(set(xs)) of ints, isinstance of an own class, isinstance of a caught exception by two classes -/
theorem firstMet_le (f : Nat → Int) : ∀ n, (PyProof.Rows.firstMet f n).length ≤ n
  | 0 => Nat.le_refl _
  | n + 1 => by
    have ih := firstMet_le f n
    rw [PyProof.Rows.firstMet_succ]
    unfold step_dedup
    split
    · omega
    · rw [List.length_append]; simp; omega
def tLenSetF (K : PySem.W.Frag) (ta : TE) : TE := fun σ H Q => ta σ H fun x H1 => ∃ (l : Addr) (ns : List Int), x = .ref l ∧ SqL K H1 l (ns.map V.int) ∧ ns.length ≤ 4000 ∧ Q (.int ((PyProof.Rows.firstMet (fun i => ns.getD i 0) ns.length).length : Nat)) H1
theorem pe_lenSetF {X : Cx} {a : Expr} {ta : TE} {p p2 q pos : Pos} (hg : Gl X "len") (hm : X.mg "len" = none) (hg2 : Gl X "set") (hm2 : X.mg "set" = none) (ha : PE X a ta) (hc : X.calm = true)
    (na : starEach [a] X.env = (false, eval a X.env) :: starEach [] X.env) : PE X (.Call (.Name "len" p) [.Call (.Name "set" p2) [a] [] q] [] pos) (tLenSetF X.K ta) := by
  refine ⟨fun pins s σ H Q I h => ?_⟩
  refine Call_ (ld_blt I hg hm boot_len ?_)
  refine PyProof.Rows.callWith_builtin1 (PyProof.Rows.args_cons ?_ rfl) rfl rfl
  refine Call_ (ld_blt I hg2 hm2 boot_set ?_)
  refine PyProof.Rows.callWith_type1 (PyProof.Rows.args_cons (thn (ha.run pins s σ H _ I h) fun v s1 ⟨x, H1, I1, r1, q1⟩ => PyProof.Rows.args_nil ?_) na) na rfl
  obtain ⟨l, ns, rfl, hq, hl, q1⟩ := q1
  cases r1
  obtain ⟨its, r, pl, hz⟩ := I1.list hq
  have hlen : its.toArray.size = ns.length := by rw [List.size_toArray, ← r.length, List.length_map]
  refine call_set_list (I1.ok.hd hc) pl.isList (by simpa using RZ.intsAre_vals r) (by rw [hlen]; unfold scanBound; omega) fun h' tk hS hk => ?_
  refine PyProof.Rows.args_nil ?_
  rw [hlen] at hS
  have hle := firstMet_le (fun i => ns.getD i 0) ns.length
  obtain ⟨o, es, ep, t, ho, hex, hd, _, _, _, hf, hn⟩ := hS
  have I2 : Inv X pins σ H1 { s1 with heap := h', toks := tk } := I1.kept fun b o e => hk b o (Heap.lt_size e) e
  exact call_len_set ho hex hd hf (by rw [hn] <;> omega) ⟨.int _, H1, I2.tok _, ⟨_, by rw [hn]⟩, q1⟩
theorem k_nset (C : Ctx G Γ L c X W) (hh : c.hot = false) {a : Ex} {l f : Str} {p p2 p3 : Pos} {x : Expr} (h1 : gName c "len" l = true) (h2 : gName c "set" f = true) (h : EOk X L W x (den G Γ a)) (st : Stat x) :
    EOk X L W (.Call (.Name l p) [.Call (.Name f p2) [x] [] p3] [] pos) (den G Γ (.nset a)) := by
  obtain ⟨rfl, g1⟩ := gName_ok h1
  obtain ⟨rfl, g2⟩ := gName_ok h2
  refine EOk.plain (fun Φ B μ H σ ρ F R Q S sl q kx k => ?_) fun _ => rfl
  refine sE_of (pe_lenSetF (C.gl _ g1) (C.g.bl _ (by decide +kernel)) (C.gl _ g2) (C.g.bl _ (by decide +kernel)) pe_s (C.calm hh) (st.star _ _)) ?_
  refine h.v Φ B μ H σ ρ F _ _ S sl q kx fun v t H1 B1 μ1 l1 S1 r1 q1 => ?_
  obtain ⟨ns, e, hl, q1⟩ := q1
  obtain ⟨ad, vs, rfl, hq, r2⟩ := vlst_ok S1 r1 e
  obtain rfl := r2.ints
  exact ⟨ad, ns, rfl, hq, hl, k _ _ H1 B1 μ1 l1 S1 (show Tr X.K B1 (.int _) (.int _) from rfl) q1⟩
theorem k_isc (C : Ctx G Γ L c X W) {d : Nat} {a : Ex} {f k : Str} {p p2 : Pos} {y : Expr} {i : ClI} (hf : gName c "isinstance" f = true) (hi : G.cl d = some i) (hn : i.name = k) (hg : glb c.sc k = true) (hp : plainN k = true) (hxc : G.xc = true) (sy : Stat y) (ha : EOk X L W y (den G Γ a)) :
    EOk X L W (.Call (.Name f p) [y, .Name k p2] [] pos) (den G Γ (.isc d a)) := by
  obtain ⟨rfl, gf⟩ := gName_ok hf
  obtain ⟨h1, h2, h3, h4⟩ := isi_nm
  have hm := (C.g.cl d i hi).mg_
  rw [hn] at hm
  refine EOk.plain (fun Φ B μ H σ ρ F R Q S sl q kx kk => ?_) fun _ => rfl
  refine sE_of (pe_callB (C8.call_isC (C.g.kc hxc d i hi)) (C.gl _ gf) (C.g.bl _ h1) h2 (pa_cons pe_s (pa_cons (show PE X (.Name k p2) (fun σ H Q => Q (.ref (L.addr d)) H) from pe_glob (C.gl _ hg) hm rfl (plainN_ok hp).1) pa_nil) (sy.star _ _)) h4 h3 (sy.star _ _) rfl) ?_
  refine ha.v Φ B μ H σ ρ F _ _ S sl q kx fun v t H1 B1 μ1 l1 S1 r1 q1 => ?_
  obtain ⟨pp, us, rfl, e, q1⟩ := q1
  obtain rfl := r1
  obtain ⟨dx, vs, h5, _, _⟩ := S1.memO e
  exact ⟨pp, dx, _, rfl, h5, kk _ _ H1 B1 μ1 l1 S1 (show Tr X.K B1 (.bl _) (.bl _) from rfl) q1⟩
theorem call_isE2 {X : Cx} {a D : Addr} {oe : Obj} {pn : List (Addr × Obj)} (C : ExcC X.K D) (hz : Zc (.ref D) Option.none oe) (hf : ∃ vs, oe.data = .fields vs) : CallR (X.suite a ((a, oe) :: pn)) (.builtin "isinstance") (fun xs H Q => ∃ (tp : Addr) (cs : List V) (us : List Value) (b : Bool), xs = [.ref a, .ref tp] ∧ H tp = some (.tup cs) ∧ Paired ClsV cs us ∧ PySem.W.kitAny X.K (.ref D) us = some b ∧ Q (.bl b) H) := by
  intro pins s σ H xs us Q I r h
  obtain ⟨tp, cs, ws, b, rfl, hT, k, e, q⟩ := h
  obtain ⟨u1, u2, rfl, r1, r2⟩ := vals2 r
  cases (show u2 = Value.ref tp from r2)
  cases (show u1 = Value.ref a from r1)
  obtain ⟨hget, _⟩ := I.pin (a, oe) (List.mem_append.mpr (.inl List.mem_cons_self))
  obtain ⟨vs, hv⟩ := hf
  have J : PySem.W.InstAt s.heap a oe D Option.none := by
    obtain ⟨oc, od, oda, osl⟩ := oe
    obtain ⟨h1, h2⟩ := hz
    dsimp only at h1 h2 hv
    subst h1 h2 hv
    exact ⟨hget, rfl, rfl, trivial⟩
  obtain ⟨_, its, rv, o, h1, h2, n, h3⟩ := (show ObjOk _ _ H s.heap tp (.tup cs) from I.hok tp _ hT)
  have e3 := ClsV.all k rv
  subst e3
  obtain ⟨oc, od, dt, sl⟩ := o
  simp only at h2 h3
  subst h2 h3
  exact PySem.W.kia_tup (PySem.W.handS_kitx_exc C.hg C.hk C.hs C.hd C.ha C.hn C.ht C.hm) I.kIn J h1 e (fun z => nomatch z) fun tk => ⟨.bl b, H, I.kept (t' := tk) fun _ _ z => z, rfl, q⟩
theorem cls_ex (C : Ctx G Γ L c X W) {a h : Nat} {n k : Str} {p3 : Pos} (hk : exName G h = some k) (hg : glb c.sc k = true) (hpk : plainN k = true) (ea : G.ex a = some n) (hxs : G.xs = true) :
    ∃ (cv : V) (w : Value), PE X (.Name k p3) (fun σ H Q => Q cv H) ∧ ClsV cv w ∧ PySem.W.kitOne X.K (.ref (L.exc a)) w = some (subX G a h) := by
  obtain ⟨k1, k2, k3⟩ := C.g.ki hxs a n ea
  unfold exName at hk
  by_cases e : h = 999
  · rw [if_pos e] at hk
    cases hk
    refine ⟨.ty "ValueError", .type "ValueError", pe_bltn (v := .ty "ValueError") (C.gl _ hg) (C.g.bl _ ve_nm.1) ve_nm.2 rfl (plainN_ok hpk).2.2 (plainN_ok hpk).1, .ty _, ?_⟩
    have : subX G a h = true := by
      unfold subX
      simp [e]
    rw [this]
    exact k2
  · rw [if_neg e] at hk
    exact ⟨.ref (L.exc h), .ref (L.exc h), pe_glob (C.gl _ hg) (C.g.ex h k hk).mg_ rfl (plainN_ok hpk).1, .own _, k1 h k hk⟩
theorem kitAny2 {K : PySem.W.Frag} {t c1 c2 : Value} {b b' : Bool} (h1 : PySem.W.kitOne K t c1 = some b) (h2 : PySem.W.kitOne K t c2 = some b') : PySem.W.kitAny K t [c1, c2] = some (b || b') := by
  cases b with
  | true => exact kitAny_cons h1 (fun z => by cases z) (fun _ => rfl)
  | false =>
    refine kitAny_cons h1 (fun _ => ?_) (fun z => by cases z)
    cases b' with
    | true => exact kitAny_cons h2 (fun z => by cases z) (fun _ => rfl)
    | false => exact kitAny_cons h2 (fun _ => kitAny_nil) (fun z => by cases z)
theorem k_isx2 (C : Ctx G Γ L c X W) {i h h' : Nat} {x f k k' : Str} {p p2 p3 p4 p5 : Pos} {kt : Nat} (hf : gName c "isinstance" f = true) (hN : c.N[i]? = some x) (hv : vis c.sc x = true) (hp : plainN x = true) (hk : exName G h = some k) (hg : glb c.sc k = true) (hpk : plainN k = true)
    (hk' : exName G h' = some k') (hg' : glb c.sc k' = true) (hpk' : plainN k' = true) (has : c.as = true) (hxs : G.xs = true) :
    EOk X L W (.Call (.Name f p) [.Name x p2, .Tuple [.Name k p3, .Name k' p4] kt p5] [] pos) (den G Γ (.isx2 i h h')) := by
  obtain ⟨rfl, gf⟩ := gName_ok hf
  obtain ⟨h1, h2, h3, h4⟩ := isi_nm
  obtain ⟨_, X0, pe, oe, pn, a, n, rfl, ea, hz, hfd, hcu⟩ := C.cu has
  obtain ⟨_, _, k3⟩ := C.g.ki hxs a n ea
  obtain ⟨cv, w, pe1, w1, kit1⟩ := cls_ex (p3 := p3) C hk hg hpk ea hxs
  obtain ⟨cv', w', pe2, w2, kit2⟩ := cls_ex (p3 := p4) C hk' hg' hpk' ea hxs
  refine EOk.plain (fun Φ B μ H σ ρ F R Q S sl q kx kk => ?_) fun _ => rfl
  obtain ⟨t, et, q⟩ := q
  rw [hcu] at q
  obtain ⟨g, e1, _, b, eb, q⟩ := q
  obtain ⟨g', e1', _, b', eb', q⟩ := q
  simp only [List.cons.injEq, T.int.injEq, and_true] at e1 e1'
  obtain ⟨rfl, e2⟩ := e1
  have e2 : h = g := by omega
  have e2' : h' = g' := by omega
  subst e2 e2'
  cases eb
  cases eb'
  obtain ⟨v, e3, r⟩ := sl.2 i _ et
  obtain rfl := r
  refine sE_of (pe_callB (call_isE2 k3 hz hfd) (C.gl _ gf) (C.g.bl _ h1) h2 (pa_cons (pe_var (by rw [C.N]; exact hN) (C.vi x hv) (plainN_ok hp).1 (plainN_ok hp).2.1) (pa_cons (pe_tup (pa_cons pe1 (pa_cons pe2 pa_nil rfl) rfl)) pa_nil rfl) rfl) h4 h3 rfl rfl) ?_
  refine ⟨_, e3, (show (2 : Nat) ≤ 16777216 by decide), fun tp htp => ?_⟩
  refine ⟨tp, [cv, cv'], [w, w'], _, rfl, upd_same, .cons w1 (.cons w2 .nil), kitAny2 kit1 kit2, ?_⟩
  exact kk _ _ _ B μ (Same.refl _) (S.aside htp) (show Tr _ B (.bl _) (.bl _) from rfl) q
end
end Rh

namespace Rh
open PySem PySem.Spec PyProof.Rows L2
section
variable {X : Cx} {L : Lay} {W : WX} {G : Tab} {Γ : Nat → TSp} {c : SC} {pos : Pos}
/-! ## 16. Objects made, fields, methods of lists -/
theorem make_at {pins : List (Addr × Obj)} {σ : L2.St} {H : Hp} {s : Shared} {Q : VK} {us : List Value} {vs : List V} {D f : Addr} {k : Nat} {fd : FuncData} {ps : List Str} {sp : Sp} {E : L2.St → XK} (M : Mk X.K D f) (FF : FnOk X.prog X.w X.K X.mg X.base (L2.CX X.prog X.w) k f fd ps sp)
    (hr : Room (k + 1) X.A) (hb : Binds X.K fd ps []) (hx : PassesAt (L2.CX X.prog X.w) X σ (E σ)) (I : L2.Inv X pins σ H s) (r : Vals vs us)
    (h : ∀ x dx, H x = none → H dx = none → dx ≠ x → sp (.ref x :: vs) (upd (upd H dx (.own x)) x (.ins D dx [])) (fun v H2 => v = .non ∧ Q (.ref x) H2) (E σ)) :
    wpAny (model X.prog X.w) X.A (call (.ref D) us) (EP X pins σ Q) X.xe s := by
  have q0 := h (s.heap.objs.size + 1) s.heap.objs.size (I.hok.fresh (Nat.le_succ _)) (I.hok.fresh (Nat.le_refl _)) (Nat.ne_of_lt (Nat.lt_succ_self _))
  have J := Inv.made (C := D) I
  have rr : Vals (V.ref (s.heap.objs.size + 1) :: vs) (Value.ref (s.heap.objs.size + 1) :: us) := .cons rfl r
  have hl : (Value.ref (s.heap.objs.size + 1) :: us ++ []).length = ps.length := by
    rw [List.append_nil, ← rr.length]
    exact FF.len _ _ _ _ q0
  have b0 := hb _ (Value.ref (s.heap.objs.size + 1) :: us) J.kIn hl
  rw [List.append_nil] at b0
  refine wpAny_call (make_map (f := f) I.kIn M.makes M.init (beq_iff_eq.mp M.fn) (codeAny_mono (FF.run _ X.stack _ _ ⟨Value.ref (s.heap.objs.size + 1) :: us, []⟩ _ _ _ (E σ) (hr.make D us []) (J.env0.make D us []) b0 rr q0) fun res s' hq => ?_))
  match res, hq with
  | .error e, hq => exact hx pins _ _ e s' J hq
  | .ok (.ret u), hq =>
    obtain ⟨v, H', J3, rv, ev, q3⟩ := J.after hq
    subst ev
    exact ⟨rv, .ref (s.heap.objs.size + 1), H', J3, rfl, q3⟩
theorem k_make (C : Ctx G Γ L c X W) (hh : c.hot = false) {d : Nat} {ci : ClI} {j : FnI} {es : List Ex} {x : Str} {p : Pos} {xs : List Expr} (hci : G.cl d = some ci) (hn : ci.name = x) (hf : ci.init < c.m) (hj : G.fn ci.init = some j) (hlv : j.lvl < c.k) (hnp : xs.length + 1 = j.np)
    (hg : glb c.sc x = true) (hp : plainN x = true) (hs : Paired (fun e p => EOk X L W e p ∧ Stat e) xs (dens G Γ es)) : EOk X L W (.Call (.Name x p) xs [] pos) (den G Γ (.make d es)) := by
  show EOk X L W _ (plain fun ρ μ F R => evs (dens G Γ es) ρ μ F fun ts μ1 => ∃ i, G.cl d = some i ∧ ∀ p, μ1 p = none → Γ i.init (.own p :: ts) (μ1.set p (.obj d [])) F fun v μ2 => v = .non ∧ R (.own p) μ2)
  generalize dens G Γ es = pes at hs
  refine EOk.plain (fun Φ B μ H σ ρ F R Q S sl q kx k => ?_) fun _ => rfl
  have CF := C.g.cl d ci hci
  obtain ⟨a, fd, ps, FF⟩ := C.g.fn ci.init j hf hj
  obtain ⟨j', e1, e2, e3, e4⟩ := CF.ini
  rw [hj] at e1
  cases e1
  obtain ⟨ds, hb, hd⟩ := FF.bi 0 (Nat.zero_le _)
  have hds : ds = [] := by
    have z : (j.rest 0).map V.int = [] := by unfold FnI.rest; rw [e4]; rfl
    rw [z] at hd
    cases hd
    rfl
  subst hds
  have hme := FF.me d e2
  rw [e3] at hme
  have M : Mk X.K (L.addr d) a := ⟨CF.mks, hme.at_, hme.fn, CF.kp⟩
  have hm := CF.mg_
  rw [hn] at hm
  have key : ∀ (vs : List V) (ts : List T) (H1 B1 : Hp) (μ1 : Sto), Le B B1 → St X.K L Φ H1 B1 μ1 → Trs X.K B1 vs ts → ts.length = xs.length → (∃ i, G.cl d = some i ∧ ∀ p, μ1 p = none → Γ i.init (.own p :: ts) (μ1.set p (.obj d [])) F fun v μ2 => v = .non ∧ R (.own p) μ2) →
      ∀ x dx, H1 x = none → H1 dx = none → dx ≠ x → spOf X.K L j.np (Γ ci.init) (.ref x :: vs) (upd (upd H1 dx (.own x)) x (.ins (L.addr d) dx [])) (fun v H2 => v = .non ∧ Q (.ref x) H2) (WE W σ) := fun vs ts H1 B1 μ1 l1 S1 r1 n1 q1 x dx hx hdx ne => by
    obtain ⟨i, e, q1⟩ := q1
    rw [hci] at e
    cases e
    have S2 := S1.aside (o := .own x) hdx
    have hx2 : (upd H1 dx (.own x)) x = none := by rw [upd_ne ne.symm]; exact hx
    have S3 := S2.put (p := x) (o := .ins (L.addr d) dx []) (ob := .obj d []) (S2.freshB hx2) (S2.freshF hx2) (show ObOk X.K L _ B1 x (.obj d []) from ⟨dx, [], by rw [upd_same, List.zip_nil_right], rfl, Nat.zero_le _⟩)
    refine sp_ok ?_ S3 (Trs.cons (show Tr X.K B1 (.ref x) (.own x) from rfl) r1) (q1 x (S1.fresh hx)) (fun v t H' B' μ' l' S' r' q' => ?_) (kx.mono l1)
    · rw [List.length_cons, r1.length, n1, ← hnp]
    · obtain ⟨rfl, q'⟩ := q'
      exact ⟨r', k _ (.own x) H' B' μ' (l1.trans l') S' rfl q'⟩
  intro pins s I
  refine wpAny_Call_Name_kw (ld_glob I (C.gl x hg) hm ?_ (plainN_ok hp).1)
  cases hs with
  | nil => exact PySem.W.callWith_K0 I.kIn CF.kp (make_at (us := []) (vs := []) M FF.ok ((C.room hh).mono hlv) hb (passAt C.tk σ) I .nil (key [] [] H B μ (Same.refl _) S rfl rfl q))
  | cons h1 hs' =>
    have A := AOk.of (.cons h1 hs') Φ B μ H σ ρ F _ (fun vs H1 => ∀ x dx, H1 x = none → H1 dx = none → dx ≠ x → spOf X.K L j.np (Γ ci.init) (.ref x :: vs) (upd (upd H1 dx (.own x)) x (.ins (L.addr d) dx [])) (fun v H2 => v = .non ∧ Q (.ref x) H2) (WE W σ)) S sl q kx key
    refine PySem.W.callWith_K (h₀ := X.base) I.ok.mod.kin CF.kp (thn (A pos pins s I) fun us s1 ⟨vs, H1, I1, r, q1⟩ => ⟨I1.kIn, ?_⟩) (h1.2.star X.env _) (star_plain hs' X.env pos)
    exact make_at M FF.ok ((C.room hh).mono hlv) hb (passAt C.tk σ) I1 r q1
theorem k_fld (C : Ctx G Γ L c X W) {d i : Nat} {o : Ex} {y : Expr} {f : Str} (hsup : notSup y = true) (hi : (G.flds d)[i]? = some f) (hcd : ∃ ci, G.cl d = some ci) (ho : EOk X L W y (den G Γ o)) : EOk X L W (.Attribute y f pos) (den G Γ (.fld d i o)) := by
  refine EOk.plain (fun Φ B μ H σ ρ F R Q S sl q kx k => ?_) fun _ => rfl
  obtain ⟨ci, hci⟩ := hcd
  have CF := C.g.cl d ci hci
  refine sE_of (pe_fld pe_s (notSup_base hsup)) ?_
  refine ho.v Φ B μ H σ ρ F _ _ S sl q kx fun v t H1 B1 μ1 l1 S1 r1 q1 => ?_
  obtain ⟨p, us, t, rfl, e, et, q1⟩ := q1
  obtain rfl := r1
  obtain ⟨dx, vs, h1, h2, h3⟩ := S1.memO e
  obtain ⟨w, ew, rw'⟩ := h2.get et
  refine ⟨p, L.addr d, dx, _, w, rfl, h1, CF.cl, CF.no f (List.mem_of_getElem? hi), ?_, k w t H1 B1 μ1 l1 S1 rw' q1⟩
  rw [C.g.fl]
  exact zip_look CF.nd hi ew
theorem rcv_ty {K : PySem.W.Frag} {Φ H B : Hp} {μ : Sto} {m : Lm} {x : T} {v : V} (S : St K L Φ H B μ) (r : Tr K B v x) (h : rcv m μ x) : tyV K (lmTy m) v H := by
  have lst : (∃ us, vlst μ x = some us) → tyV K "list" v H := fun ⟨us, e⟩ => by
    obtain ⟨a, vs, rfl, h1, h2⟩ := vlst_ok S r e
    exact .inl ⟨rfl, vs, h1⟩
  have str : (∃ z, x = .str z) → tyV K "str" v H := fun ⟨z, e⟩ => by
    subst e
    obtain rfl := r
    exact (rfl : "str" = "str")
  cases m <;> first | exact lst h | exact str h
theorem lm_at (m : Lm) : PlainAttrs (lmTy m) := by
  cases m <;> first | exact PySem.F.plainAttrs_list | exact PySem.F.plainAttrs_str
theorem lm_pa (m : Lm) : Slot (lmTy m) (lmName m) (lmId m) ∧ typeOf (.builtin (lmId m)) = pure (.type "method_descriptor") := by
  cases m with
  | append => exact ⟨PySem.F.slot_list_append, PySem.F.type_list_append⟩
  | pop => exact ⟨PySem.F.slot_list_pop, PySem.F.type_list_pop⟩
  | popAt => exact ⟨PySem.F.slot_list_pop, PySem.F.type_list_pop⟩
  | extend => exact ⟨PySem.F.slot_list_extend, PySem.F.type_list_extend⟩
  | index => exact ⟨PySem.F.slot_list_index, PySem.F.type_list_index⟩
  | insert => exact ⟨PySem.F.slot_list_insert, PySem.F.type_list_insert⟩
  | remove => exact ⟨PySem.F.slot_list_remove, PySem.F.type_list_remove⟩
  | count => exact ⟨PySem.F.slot_list_count, PySem.F.type_list_count⟩
  | join => exact ⟨PySem.F.slot_str_join, PySem.F.type_str_join⟩
  | split => exact ⟨PySem.F.slot_str_split, PySem.F.type_str_split⟩
  | partition => exact ⟨PySem.F.slot_str_partition, PySem.F.type_str_partition⟩
  | startswith => exact ⟨PySem.F.slot_str_startswith, PySem.F.type_str_startswith⟩
theorem k_lm (C : Ctx G Γ L c X W) {m : Lm} {o : Ex} {es : List Ex} {y : Expr} {f : Str} {apos : Pos} {xs : List Expr} (hf : f = lmName m) (hline : (apos.endLine == pos.line) = true) (hsup : notSup y = true) (h30 : xs.length < 30) (ho : EOk X L W y (den G Γ o))
    (hs : Paired (fun e p => EOk X L W e p ∧ Stat e) xs (dens G Γ es)) : EOk X L W (.Call (.Attribute y f apos) xs [] pos) (den G Γ (.lm m o es)) := by
  subst hf
  show EOk X L W _ (plain fun ρ μ F R => (den G Γ o).1 ρ μ F fun x μ1 => rcv m μ1 x ∧ evs (dens G Γ es) ρ μ1 F fun ts μ2 => tLm m x ts μ2 R)
  generalize dens G Γ es = pes at hs
  refine EOk.plain (fun Φ B μ H σ ρ F R Q S sl q kx k => ?_) fun _ => rfl
  obtain ⟨p1, p2⟩ := lm_pa m
  have pl := star_plain hs X.env pos
  cases hs with
  | nil =>
    refine sE_of (pe_bm0 (lm_at m) p1 p2 (lm_ok (L := L) m) pe_s (notSup_base hsup) hline) ?_
    refine ho.v Φ B μ H σ ρ F _ _ S sl q kx fun v t H1 B1 μ1 l1 S1 r1 q1 => ?_
    obtain ⟨e, q1⟩ := q1
    exact ⟨rcv_ty S1 r1 e, Φ, B1, μ1, t, [], R, S1, r1, rfl, q1, k.mono l1⟩
  | cons h1 hs' =>
    rename_i e0 p0 es0 ps0
    have hfew : ((backTo pos (starEach (e0 :: es0) X.env)).all (fun x => !x.1) && (backToKw pos (keywordEach [] X.env)).all (fun x => x.1.isSome) && decide ((e0 :: es0).length + ([] : List Keyword).length + (if ([] : List Keyword).isEmpty then 0 else 1) < 30)) = true := by
      have z : (backTo pos (starEach (e0 :: es0) X.env)).all (fun x => !x.1) = true := by
        rw [List.all_eq_true]
        intro w hw
        have := List.any_eq_false.mp pl w hw
        simpa using this
      rw [z]
      show (true && true && decide ((e0 :: es0).length + 0 + 0 < 30)) = true
      simp only [Bool.true_and, decide_eq_true_eq]
      omega
    refine sE_of (pe_bm (lm_at m) p1 p2 (lm_ok (L := L) m) pe_s pa_s (notSup_base hsup) hfew hline (h1.2.star X.env _) (star_plain hs' X.env pos)) ?_
    refine ho.v Φ B μ H σ ρ F _ _ S sl q kx fun v t H1 B1 μ1 l1 S1 r1 q1 => ?_
    obtain ⟨e, q1⟩ := q1
    refine ⟨rcv_ty S1 r1 e, ?_⟩
    refine AOk.of (.cons h1 hs') Φ B1 μ1 H1 σ ρ F _ _ S1 (sl.mono l1) q1 (kx.mono l1) fun ws ts H2 B2 μ2 l2 S2 r2 n2 q2 => ?_
    exact ⟨Φ, B2, μ2, t, ts, R, S2, r1.mono l2, r2, q2, k.mono (l1.trans l2)⟩

/-! ## 17. What a loop walks, from the text -/
def ItOk (X : Cx) (L : Lay) (W : WX) (k : ItK) (tg iter : Expr) (ps : List (TEx × TTe)) : Prop := notSet iter = true ∧ ∃ wi, PI X tg iter wi ∧ ∀ Φ B μ H σ ρ F (K : List T → (Sto → Prop) → Sto → Prop) (R : It → Hp → Prop), St X.K L Φ H B μ → Slots X.K B σ ρ →
  evs ps ρ μ F (fun ts μ1 => itT k ts μ1 fun us gd => K us gd μ1) → PostX X.K L Φ B F (WE W σ) →
  (∀ J H1 B1 μ1 us gd, Le B B1 → St X.K L Φ H1 B1 μ1 → Sim X.K L B1 J us gd → K us gd μ1 → R J H1) → wi σ H R
theorem it_names : (("range" : Str) ∈ blNames) ∧ (("enumerate" : Str) ∈ blNames) ∧ (("zip" : Str) ∈ blNames) ∧ (("reversed" : Str) ∈ blNames) := ⟨by decide +kernel, by decide +kernel, by decide +kernel, by decide +kernel⟩
theorem i_val {e : Expr} {tg : Expr} {p : TEx × TTe} (hn : notSet e = true) (h : EOk X L W e p) : ItOk X L W .val tg e [p] := by
  refine ⟨hn, _, pi_list pe_s, fun Φ B μ H σ ρ F K R S sl q kx k => ?_⟩
  refine h.v Φ B μ H σ ρ F _ _ S sl q kx fun v t H1 B1 μ1 l1 S1 r1 q1 => ?_
  obtain ⟨a, us, gd, rfl, ls, g0, q1⟩ := onG_ok S1 r1 (show onG μ1 t fun us gd => K us gd μ1 from q1)
  obtain ⟨vs, h1, h2⟩ := ls Φ H1 B1 μ1 (Same.refl _) S1 g0
  exact ⟨a, rfl, ⟨vs, h1⟩, k _ H1 B1 μ1 us gd l1 S1 (sim_list ls) q1⟩
theorem i_tupl {e : Expr} {tg : Expr} {p : TEx × TTe} (hn : notSet e = true) (h : EOk X L W e p) : ItOk X L W .tupl tg e [p] := by
  refine ⟨hn, _, pi_tup pe_s, fun Φ B μ H σ ρ F K R S sl q kx k => ?_⟩
  refine h.v Φ B μ H σ ρ F _ _ S sl q kx fun v t H1 B1 μ1 l1 S1 r1 q1 => ?_
  obtain ⟨us, rfl, q1⟩ := q1
  obtain ⟨a, vs, rfl, h1, h2⟩ := r1
  exact ⟨a, rfl, ⟨vs, Le.seqT S1.sub h1⟩, k _ H1 B1 μ1 us any l1 S1 (sim_tup (Le.seqT S1.sub h1) S1 h1 h2) q1⟩
theorem i_strg {e : Expr} {tg : Expr} {p : TEx × TTe} (hn : notSet e = true) (h : EOk X L W e p) : ItOk X L W .strg tg e [p] := by
  refine ⟨hn, _, pi_str pe_s, fun Φ B μ H σ ρ F K R S sl q kx k => ?_⟩
  refine h.v Φ B μ H σ ρ F _ _ S sl q kx fun v t H1 B1 μ1 l1 S1 r1 q1 => ?_
  obtain ⟨z, rfl, q1⟩ := q1
  obtain rfl := r1
  exact ⟨z, rfl, k _ H1 B1 μ1 _ any l1 S1 sim_str q1⟩
theorem range_zero (n : Int) : ((List.range n.toNat).map fun i => T.int (i : Nat)) = (List.range n.toNat).map fun i => T.int (0 + (i : Nat)) := by
  refine List.map_congr_left fun i _ => ?_
  rw [Int.zero_add]
theorem i_rng1 (C : Ctx G Γ L c X W) {f : Str} {fp : Pos} {e : Expr} {tg : Expr} {p : TEx × TTe} (hx : gName c "range" f = true) (h : EOk X L W e p) (st : Stat e) : ItOk X L W .rng1 tg (.Call (.Name f fp) [e] [] pos) [p] := by
  obtain ⟨rfl, hg⟩ := gName_ok hx
  refine ⟨rfl, _, pi_range1 (C.gl _ hg) (C.g.bl _ it_names.1) (pa_cons pe_s pa_nil (st.star _ _)) (st.star _ _), fun Φ B μ H σ ρ F K R S sl q kx k => ?_⟩
  refine h.v Φ B μ H σ ρ F _ _ S sl q kx fun v t H1 B1 μ1 l1 S1 r1 q1 => ?_
  obtain ⟨n, rfl, ⟨b1, b2⟩, q1⟩ := q1
  obtain rfl := r1
  rw [range_zero] at q1
  exact ⟨n, rfl, b1, b2, k _ H1 B1 μ1 _ any l1 S1 sim_rng q1⟩
theorem i_rng2 (C : Ctx G Γ L c X W) {f : Str} {fp : Pos} {e e2 : Expr} {tg : Expr} {p p2 : TEx × TTe} (hx : gName c "range" f = true) (h : EOk X L W e p) (st : Stat e) (h2 : EOk X L W e2 p2) (st2 : Stat e2) : ItOk X L W .rng2 tg (.Call (.Name f fp) [e, e2] [] pos) [p, p2] := by
  obtain ⟨rfl, hg⟩ := gName_ok hx
  refine ⟨rfl, _, pi_range2 (C.gl _ hg) (C.g.bl _ it_names.1) (pa_cons pe_s (pa_cons pe_s pa_nil (st2.star _ _)) (st.star _ _)) (by rw [st.star, st2.star]; rfl) (st2.star _ _), fun Φ B μ H σ ρ F K R S sl q kx k => ?_⟩
  refine h.v Φ B μ H σ ρ F _ _ S sl q kx fun v t H1 B1 μ1 l1 S1 r1 q1 => ?_
  refine h2.v Φ B1 μ1 H1 σ ρ F _ _ S1 (sl.mono l1) q1 (kx.mono l1) fun w u H2 B2 μ2 l2 S2 r2 q2 => ?_
  obtain ⟨a, b, rfl, rfl, hb, q2⟩ := q2
  obtain rfl := r1
  obtain rfl := r2
  exact ⟨a, b, rfl, hb, k _ H2 B2 μ2 _ any (l1.trans l2) S2 sim_rng q2⟩
theorem i_enum (C : Ctx G Γ L c X W) {f : Str} {fp : Pos} {e : Expr} {tg : Expr} {p : TEx × TTe} (ht : isTupE tg = true) (hx : gName c "enumerate" f = true) (h : EOk X L W e p) (st : Stat e) : ItOk X L W .enum tg (.Call (.Name f fp) [e] [] pos) [p] := by
  obtain ⟨rfl, hg⟩ := gName_ok hx
  cases tg <;> first | cases ht | skip
  refine ⟨rfl, _, pi_enum (C.gl _ hg) (C.g.bl _ it_names.2.1) (pa_cons pe_s pa_nil (st.star _ _)) (st.star _ _), fun Φ B μ H σ ρ F K R S sl q kx k => ?_⟩
  refine h.v Φ B μ H σ ρ F _ _ S sl q kx fun v t H1 B1 μ1 l1 S1 r1 q1 => ?_
  obtain ⟨a, us, gd, rfl, ls, g0, q1⟩ := onG_ok S1 r1 (show onG μ1 t fun us gd => K (us.zipIdx.map fun p => .tup [.int (p.2 : Nat), p.1]) gd μ1 from q1)
  obtain ⟨vs, h1, h2⟩ := ls Φ H1 B1 μ1 (Same.refl _) S1 g0
  exact ⟨a, vs, rfl, h1, k _ H1 B1 μ1 _ gd l1 S1 (sim_enum ls) q1⟩
theorem i_rev (C : Ctx G Γ L c X W) {f : Str} {fp : Pos} {e : Expr} {tg : Expr} {p : TEx × TTe} (hx : gName c "reversed" f = true) (h : EOk X L W e p) (st : Stat e) : ItOk X L W .rev tg (.Call (.Name f fp) [e] [] pos) [p] := by
  obtain ⟨rfl, hg⟩ := gName_ok hx
  refine ⟨rfl, _, pi_reversed (C.gl _ hg) (C.g.bl _ it_names.2.2.2) (pa_cons pe_s pa_nil (st.star _ _)) (st.star _ _), fun Φ B μ H σ ρ F K R S sl q kx k => ?_⟩
  refine h.v Φ B μ H σ ρ F _ _ S sl q kx fun v t H1 B1 μ1 l1 S1 r1 q1 => ?_
  obtain ⟨a, us, gd, rfl, ls, g0, q1⟩ := onG_ok S1 r1 (show onG μ1 t fun us gd => K us.reverse gd μ1 from q1)
  obtain ⟨vs, h1, h2⟩ := ls Φ H1 B1 μ1 (Same.refl _) S1 g0
  exact ⟨a, vs, rfl, h1, k _ H1 B1 μ1 _ gd l1 S1 (sim_rev ls h2.length) q1⟩
theorem i_zip (C : Ctx G Γ L c X W) {f : Str} {fp : Pos} {e e2 : Expr} {tg : Expr} {p p2 : TEx × TTe} (ht : isTupE tg = true) (hx : gName c "zip" f = true) (h : EOk X L W e p) (st : Stat e) (h2 : EOk X L W e2 p2) (st2 : Stat e2) : ItOk X L W .zip tg (.Call (.Name f fp) [e, e2] [] pos) [p, p2] := by
  obtain ⟨rfl, hg⟩ := gName_ok hx
  cases tg <;> first | cases ht | skip
  have pl : (backTo pos (starEach [e2] X.env)).any (·.1) = false := by rw [st2.star]; rfl
  refine ⟨rfl, _, L2.pi_zip (C.gl _ hg) (C.g.bl _ it_names.2.2.1) (pa_cons pe_s (pa_cons pe_s pa_nil (st2.star _ _)) (st.star _ _)) (st.star _ _) pl, fun Φ B μ H σ ρ F K R S sl q kx k => ?_⟩
  refine h.v Φ B μ H σ ρ F _ _ S sl q kx fun v t H1 B1 μ1 l1 S1 r1 q1 => ?_
  refine h2.v Φ B1 μ1 H1 σ ρ F _ _ S1 (sl.mono l1) q1 (kx.mono l1) fun w u H2 B2 μ2 l2 S2 r2 q2 => ?_
  obtain ⟨a, us, gd, rfl, ls, g0, q2⟩ := onG_ok S2 (r1.mono l2) (show onG μ2 t fun us g1 => onG μ2 u fun ws g2 => K ((us.zip ws).map fun p => .tup [p.1, p.2]) (fun μ' => g1 μ' ∧ g2 μ') μ2 from q2)
  obtain ⟨b, ws, gd2, rfl, ls2, g02, q2⟩ := onG_ok S2 r2 q2
  obtain ⟨vs, h1', h2'⟩ := ls Φ H2 B2 μ2 (Same.refl _) S2 g0
  obtain ⟨vs2, h3', h4'⟩ := ls2 Φ H2 B2 μ2 (Same.refl _) S2 g02
  exact ⟨a, b, vs, vs2, rfl, h1', h3', k _ H2 B2 μ2 _ _ (l1.trans l2) S2 (sim_zip ls ls2) q2⟩
end
end Rh

namespace Rh
open PySem PySem.Spec PyProof.Rows L2

/-! ## 18. Lists made item by item -/
section
variable {X : Cx} {L : Lay} {W : WX} {G : Tab} {Γ : Nat → TSp} {c : SC} {pos : Pos}
theorem relabel_look {env : Env} {x : Str} : ∀ {names : List (Str × NameKind)}, ∃ b : Bool,
    (names.map fun (n, k) => if (k == NameKind.free && env.scope.kind == .function && env.kindOf n == some .cell) then (n, NameKind.cell) else (n, k)).lookup x = match names.lookup x with
      | some .free => if b then some .cell else some .free
      | o => o
  | [] => ⟨true, rfl⟩
  | (n, k) :: r => by
    obtain ⟨b, ih⟩ := relabel_look (env := env) (x := x) (names := r)
    rw [List.map_cons]
    by_cases hc : (k == NameKind.free && env.scope.kind == .function && env.kindOf n == some .cell) = true
    · have hk : k = .free := by
        simp only [Bool.and_eq_true, beq_iff_eq] at hc
        exact hc.1.1
      subst hk
      cases hx : x == n with
      | true =>
        refine ⟨true, ?_⟩
        dsimp only
        rw [if_pos hc, List.lookup_cons, List.lookup_cons, hx]
        rfl
      | false =>
        refine ⟨b, ?_⟩
        dsimp only
        rw [if_pos hc, List.lookup_cons, List.lookup_cons, hx]
        exact ih
    · cases hx : x == n with
      | true =>
        refine ⟨false, ?_⟩
        dsimp only
        rw [if_neg hc, List.lookup_cons, List.lookup_cons, hx]
        cases k <;> rfl
      | false =>
        refine ⟨b, ?_⟩
        dsimp only
        rw [if_neg hc, List.lookup_cons, List.lookup_cons, hx]
        exact ih
theorem Ctx.blk (C : Ctx G Γ L c X W) (hh : c.hot = false) (scope : Scope) (s : Shared) (H : Hp) (D : Addr) (cl : List (Str × Addr)) (fp : List Addr) :
    Ctx G Γ L { c with sc := scope } (X.blk s H scope (compEnvC scope cl D X.env) fp) (fun _ _ _ _ => False) where
  N := C.N
  nd := C.nd
  vi := fun x h => by
    obtain ⟨b, e⟩ := relabel_look (env := X.env) (x := x) (names := scope.names)
    have h' : vis scope x = true := h
    unfold vis at h'
    show Vis (relabel scope X.env) x
    unfold Vis relabel
    rw [e]
    revert h'
    cases scope.names.lookup x with
    | none => intro h'; cases h'
    | some k =>
      cases k with
      | «local» => intro _; exact .inl rfl
      | cell => intro _; exact .inr (.inl rfl)
      | free =>
        intro _
        cases b with
        | true => exact .inr (.inl rfl)
        | false => exact .inr (.inr rfl)
      | globalExplicit => intro h'; cases h'
      | globalImplicit => intro h'; cases h'
  st := fun x h => by
    obtain ⟨b, e⟩ := relabel_look (env := X.env) (x := x) (names := scope.names)
    have h' : loc scope x = true := h
    unfold loc at h'
    show L2.Loc (relabel scope X.env) x ∧ ((scope.names.lookup x == some .cell) = true ∨ (relabel scope X.env).names.lookup x = some .local)
    unfold L2.Loc relabel
    rw [e]
    revert h'
    cases scope.names.lookup x with
    | none => intro h'; cases h'
    | some k =>
      cases k with
      | «local» => intro _; exact ⟨.inl rfl, .inr rfl⟩
      | cell => intro _; exact ⟨.inr rfl, .inl rfl⟩
      | free => intro h'; cases h'
      | globalExplicit => intro h'; cases h'
      | globalImplicit => intro h'; cases h'
  gl := fun x h => by
    obtain ⟨b, e⟩ := relabel_look (env := X.env) (x := x) (names := scope.names)
    have h' : glb scope x = true := h
    unfold glb at h'
    show (relabel scope X.env).names.lookup x = some .globalImplicit
    unfold relabel
    rw [e]
    revert h'
    cases scope.names.lookup x with
    | none => intro h'; cases h'
    | some k => cases k <;> first | (intro _; rfl) | (intro h'; cases h')
  fc := fun x h => by
    obtain ⟨b, e⟩ := relabel_look (env := X.env) (x := x) (names := scope.names)
    have h' : scope.names.lookup x = some .cell ∨ scope.names.lookup x = some .free := h
    show (relabel scope X.env).names.lookup x = some .cell ∨ (relabel scope X.env).names.lookup x = some .free
    unfold relabel
    rw [e]
    rcases h' with h' | h'
    · rw [h']
      exact .inl rfl
    · rw [h']
      cases b with
      | true => exact .inl rfl
      | false => exact .inr rfl
  room := C.room
  hu := C.hu
  calm := C.calm
  tk := takes0
  cu := fun h => absurd (C.cu h).1 (by rw [hh]; exact Bool.false_ne_true)
  g := C.g
theorem noPX {K : PySem.W.Frag} {Φ B : Hp} {E : XK} : PostX K L Φ B noX E := fun _ _ _ _ _ _ h => h.elim
/-- what the parts of a list made item by item are known for -/
structure CompOk (X : Cx) (L : Lay) (scope : Scope) (vs : List Nat) (g : Tg) (tg : Expr) (ifs : List Expr) (z : Expr) (pc pe : TEx × TTe) : Prop where
  g_ : ∀ s H D cl fp, GOk1 (X.blk s H scope (compEnvC scope cl D X.env) fp) L g tg
  vs_ : tgIn vs g = true
  if_ : (ifs = [] ∧ pc = den (⟨fun _ => none, fun _ => none, fun _ => none, fun _ => none, fun _ => [], false, false⟩) (fun _ _ _ _ _ => False) (.cbl true)) ∨ ∃ d, ifs = [d] ∧ ∀ s H D cl fp, EOk (X.blk s H scope (compEnvC scope cl D X.env) fp) L (fun _ _ _ _ => False) d pc
  e_ : ∀ s H D cl fp, EOk (X.blk s H scope (compEnvC scope cl D X.env) fp) L (fun _ _ _ _ => False) z pe
theorem comp_lc {scope : Scope} {vs : List Nat} {own : List (Str × Nat)} {g : Tg} {tg iter z : Expr} {ifs : List Expr} {pc pe : TEx × TTe} {kk : ItK} {ps : List (TEx × TTe)} {ow : Bool} (hv : own.map (·.2) = vs) (it : ItOk X L W kk tg iter ps) (Q0 : CompOk X L scope vs g tg ifs z pc pe) :
    ∃ wi gg tt te, PI X tg iter wi ∧ (∀ s H D cl fp, PG (X.blk s H scope (compEnvC scope cl D X.env) fp) tg gg) ∧ (∀ s H D cl fp, PTs (X.blk s H scope (compEnvC scope cl D X.env) fp) ifs tt) ∧ (∀ s H D cl fp, PE (X.blk s H scope (compEnvC scope cl D X.env) fp) z te) ∧
    ∀ Φ B μ H σ ρ F R Q, St X.K L Φ H B μ → Slots X.K B σ ρ → (evs ps ρ μ F fun ts μ1 => itT kk ts μ1 fun us gd => compD ow vs g pc pe ρ R us gd μ1) → PostX X.K L Φ B F (WE W σ) → Post X.K L Φ B R Q → tLc wi gg tt te (own.map (·.2)) σ H Q := by
  obtain ⟨hn, wi, hwi, hit⟩ := it
  have tests : ∃ tt : TT, (∀ s H D cl fp, PTs (X.blk s H scope (compEnvC scope cl D X.env) fp) ifs tt) ∧ ∀ Φ B μ H σ ρ R Q, St X.K L Φ H B μ → Slots X.K B σ ρ → pc.2 ρ μ noX R → PostB X.K L Φ B R Q → tt σ H Q := by
    rcases Q0.if_ with ⟨rfl, rfl⟩ | ⟨d, rfl, hd⟩
    · exact ⟨tYes, fun _ _ _ _ _ => pts_nil, fun Φ B μ H σ ρ R Q S sl q k => k true H B μ (Same.refl _) S q⟩
    · refine ⟨fun σ H Q => ∀ s H0 D cl fp, sT (X.blk s H0 scope (compEnvC scope cl D X.env) fp) d σ H Q, fun s H0 D cl fp => pts_one ⟨fun pins s1 σ H Q I h => h s H0 D cl fp pins s1 I⟩, fun Φ B μ H σ ρ R Q S sl q k s H0 D cl fp => ?_⟩
      exact (hd s H0 D cl fp).t Φ B μ H σ ρ noX R Q S sl q noPX k
  obtain ⟨tt, htt, htt2⟩ := tests
  refine ⟨wi, fun v σ H Q => ∀ s H0 D cl fp, sG (X.blk s H0 scope (compEnvC scope cl D X.env) fp) tg v σ H Q, tt, fun σ H Q => ∀ s H0 D cl fp, sE (X.blk s H0 scope (compEnvC scope cl D X.env) fp) z σ H Q, hwi,
    fun s H0 D cl fp => ⟨fun pins s1 σ H v u Q I r h => h s H0 D cl fp pins s1 u I r⟩, htt, fun s H0 D cl fp => ⟨fun pins s1 σ H Q I h => h s H0 D cl fp pins s1 I⟩, fun Φ B μ H σ ρ F R Q S sl q kx k => ?_⟩
  refine hit Φ B μ H σ ρ F (fun us gd μ1 => compD ow vs g pc pe ρ R us gd μ1) _ S sl q kx fun J H1 B1 μ1 us gd l1 S1 sim q1 D hD => ?_
  obtain ⟨I, i0, iend, istep⟩ := q1
  have hF : Φ D = none := S1.freshF hD
  refine ⟨fun i m H2 => ∃ B2 μ2 acc r va, Le B1 B2 ∧ St X.K L (upd Φ D (.lst va)) H2 B2 μ2 ∧ Trs X.K B2 va acc ∧ us.drop i = r ∧ i ≤ us.length ∧ m = r.length ∧ I acc r μ2, ⟨us.length, B1, μ1, [], us, [], Same.refl _, S1.frame hD, rfl, rfl, Nat.zero_le _, rfl, i0⟩, ?_⟩
  rintro i m H2 ⟨B2, μ2, acc, r, va, l2, S2, ra, er, hi, em, hI⟩
  cases r with
  | nil =>
    obtain ⟨g2, fin⟩ := iend acc μ2 hI
    have hlen : us.length ≤ i := by
      have := congrArg List.length er
      rw [List.length_drop] at this
      simp at this
      omega
    exact .inl ⟨sim.stop _ i H2 B2 μ2 l2 S2 g2 hlen, claimL S2 hF ra fin (k.mono (l1.trans l2))⟩
  | cons t r =>
    obtain ⟨g2, hb⟩ := istep acc t r μ2 hI
    have hlt : i < us.length := by
      have := congrArg List.length er
      rw [List.length_drop] at this
      simp at this
      omega
    have et : us[i]? = some t := by
      have := congrArg (fun l => l[0]?) er
      simpa [List.getElem?_drop] using this
    have er' : us.drop (i + 1) = r := by
      have := congrArg List.tail er
      simpa [List.tail_drop] using this
    obtain ⟨hgo, hy⟩ := sim.go _ i H2 B2 μ2 l2 S2 g2 hlt
    refine .inr ⟨hgo, fun H3 => ∃ B3 μ3 acc va, Le B1 B3 ∧ St X.K L (upd Φ D (.lst va)) H3 B3 μ3 ∧ Trs X.K B3 va acc ∧ I acc r μ3, fun H3 ⟨B3, μ3, acc3, va3, l3, S3, r3, h3⟩ => ⟨r.length, by rw [em]; simp, B3, μ3, acc3, r, va3, l3, S3, r3, er', hlt, rfl, h3⟩, fun x H3 y => ?_⟩
    obtain ⟨B3, t', l3, S3, et', rt⟩ := hy x H3 y
    rw [et] at et'
    cases et'
    have sl3 : Slots X.K B3 (L2.wipe σ vs) (wipeT ρ vs) := (sl.mono ((l1.trans l2).trans l3)).wipe vs
    rw [hv]
    intro s H0 D0 cl fp
    refine Q0.g_ s H0 D0 cl fp _ B3 μ2 H3 _ _ x t _ _ S3 sl3 rt hb fun σ4 ρ4 sl4 w4 q4 => ⟨?_, ?_⟩
    · rw [w4 vs Q0.vs_]
      exact wipe_wipe
    · refine htt2 _ B3 μ2 H3 σ4 ρ4 _ _ S3 sl4 q4 fun b H5 B5 μ5 l5 S5 q5 => ?_
      cases b with
      | false =>
        rw [if_neg Bool.false_ne_true] at q5 ⊢
        exact ⟨B5, μ5, acc, va, (l2.trans l3).trans l5, S5, ra.mono (l3.trans l5), q5⟩
      | true =>
        rw [if_pos rfl] at q5 ⊢
        intro s' H0' D0' cl' fp'
        refine (Q0.e_ s' H0' D0' cl' fp').v _ B5 μ5 H5 σ4 ρ4 noX _ _ S5 (sl4.mono l5) q5 noPX fun v6 t6 H6 B6 μ6 l6 S6 r6 q6 => ?_
        obtain ⟨hz, y', μ7, wk, q7⟩ := q6
        obtain ⟨_, hH, _⟩ := S6.unframe hF
        obtain ⟨B7, l7, S7, r7⟩ := wk.ok S6 r6
        have ra7 := ra.mono (((l3.trans l5).trans l6).trans l7)
        refine ⟨va, hH, by rw [ra.length]; exact hz, B7, μ7, acc ++ [y'], va ++ [v6], ((((l2.trans l3).trans l5).trans l6).trans l7), S7.reframe, ra7.append (Trs.cons r7 Trs.nil), q7⟩
theorem own_ix {N : List Str} {vs : List Nat} : ∀ p ∈ ownNames N vs, N[p.2]? = some p.1 := fun p hp => by
  unfold ownNames at hp
  obtain ⟨i, _, e⟩ := List.mem_filterMap.mp hp
  rw [Option.map_eq_some_iff] at e
  obtain ⟨x, h1, rfl⟩ := e
  exact h1
theorem blk_ok (C : Ctx G Γ L c X W) {scope : Scope} {own : List (Str × Nat)} (h : blkC c.N c.sc scope own = true) : BlkOk X.N X.env.scope scope own := by
  have b := blkOk_by h
  rw [C.N]
  exact ⟨b.kind, b.uniq, b.ix, fun y hy e => C.fc _ (b.free y hy e), b.own⟩
theorem k_comp (C : Ctx G Γ L c X W) (hh : c.hot = false) {own : Bool} {vs : List Nat} {g : Tg} {kk : ItK} {its : List Ex} {cond elt : Ex} {z tg iter : Expr} {ifs : List Expr} {scope : Scope} (hb : blkC c.N c.sc scope (ownNames c.N vs) = true) (hv : (ownNames c.N vs).map (·.2) = vs)
    (it : ItOk X L W kk tg iter (dens G Γ its)) (Q0 : CompOk X L scope vs g tg ifs z (den G Γ cond) (den G Γ elt)) : EOk X L W (.ListComp z [⟨tg, iter, ifs, 0⟩] scope pos) (den G Γ (.comp own vs g kk its cond elt)) := by
  obtain ⟨wi, gg, tt, te, h1, h2, h3, h4, h5⟩ := comp_lc (ow := own) hv it Q0
  exact EOk.plain (fun Φ B μ H σ ρ F R Q S sl q kx k => sE_of (pe_lc (C.calm hh) (by rw [C.N]; exact C.nd) h1 (blk_ok C hb) h2 h3 h4 (folded it.1)) (h5 Φ B μ H σ ρ F R Q S sl q kx k)) fun _ => rfl

/-! ## 19. The text against the core: all expressions -/
def cbl_t : TEx × TTe := den (⟨fun _ => none, fun _ => none, fun _ => none, fun _ => none, fun _ => [], false, false⟩) (fun _ _ _ _ _ => False) (.cbl true)
theorem comp_parts (C : Ctx G Γ L c X W) (hh : c.hot = false) {vs : List Nat} {g : Tg} {cond elt : Ex} {z tg : Expr} {ifs : List Expr} {scope : Scope} (hg : chkG { c with sc := scope } g tg = true) (hvg : tgIn vs g = true)
    (hif : (ifs = [] ∧ cond = .cbl true) ∨ ∃ d, ifs = [d] ∧ ∀ (X : Cx) (W : WX), Ctx G Γ L { c with sc := scope } X W → EOk X L W d (den G Γ cond))
    (he : ∀ (X : Cx) (W : WX), Ctx G Γ L { c with sc := scope } X W → EOk X L W z (den G Γ elt)) : CompOk X L scope vs g tg ifs z (den G Γ cond) (den G Γ elt) where
  g_ := fun s H D cl fp => tg_ok (C.blk hh scope s H D cl fp) g tg hg
  vs_ := hvg
  if_ := by
    rcases hif with ⟨rfl, rfl⟩ | ⟨d, rfl, hd⟩
    · exact .inl ⟨rfl, rfl⟩
    · exact .inr ⟨d, rfl, fun s H D cl fp => hd _ _ (C.blk hh scope s H D cl fp)⟩
  e_ := fun s H D cl fp => he _ _ (C.blk hh scope s H D cl fp)
end
end Rh

namespace Rh
open PySem PySem.Spec PyProof.Rows L2
section
variable {L : Lay} {G : Tab} {Γ : Nat → TSp}
def M1 (L : Lay) (G : Tab) (Γ : Nat → TSp) (c : SC) (ex : Ex) (e : Expr) : Prop := chkE G c ex e = true → ∀ (X : Cx) (W : WX), Ctx G Γ L c X W → EOk X L W e (den G Γ ex) ∧ Stat e
def M2 (L : Lay) (G : Tab) (Γ : Nat → TSp) (c : SC) (k : ItK) (its : List Ex) (iter tg : Expr) : Prop := chkIt G c k its iter tg = true → ∀ (X : Cx) (W : WX), Ctx G Γ L c X W → ItOk X L W k tg iter (dens G Γ its)
def M3 (L : Lay) (G : Tab) (Γ : Nat → TSp) (c : SC) (es : List Ex) (xs : List Expr) : Prop := chkEs G c es xs = true → ∀ (X : Cx) (W : WX), Ctx G Γ L c X W → Paired (fun e p => EOk X L W e p ∧ Stat e) xs (dens G Γ es)
def Hcl (G : Tab) : Prop := ∀ f i d, G.fn f = some i → i.cls = some d → ∃ ci, G.cl d = some ci
def Hfl (G : Tab) : Prop := ∀ d f, f ∈ G.flds d → ∃ ci, G.cl d = some ci
abbrev A1 (L : Lay) (G : Tab) (Γ : Nat → TSp) (ex : Ex) : Prop := ∀ c e, M1 L G Γ c ex e
abbrev A3 (L : Lay) (G : Tab) (Γ : Nat → TSp) (es : List Ex) : Prop := (∀ c xs, M3 L G Γ c es xs) ∧ ∀ a ∈ es, A1 L G Γ a
variable {a b d f : Ex} {es fs : List Ex}
theorem o_chk {lo : Ex} {l : Option Expr} {c : SC} (i1 : A1 L G Γ lo) (h : (match l with | none => isCnon lo | some l => !isCnon lo && chkE G c lo l) = true) (X : Cx) (W : WX) (C : Ctx G Γ L c X W) : OOk X L W l lo (den G Γ lo).1 := by
  cases l with
  | none =>
    have h : isCnon lo = true := h
    cases lo <;> first | (cases h; done) | exact o_none
  | some l =>
    have h : (!isCnon lo && chkE G c lo l) = true := h
    rw [Bool.and_eq_true, Bool.not_eq_true'] at h
    exact o_some (fun z => by rw [z] at h; cases h.1) (i1 _ _ h.2 X W C).1
theorem if_chk {cond : Ex} {ifs : List Expr} {c : SC} (i1 : A1 L G Γ cond) (h : (match ifs with | [] => isCtrue cond | [d] => chkE G c cond d | _ => false) = true) : (ifs = [] ∧ cond = .cbl true) ∨ ∃ d, ifs = [d] ∧ ∀ (X : Cx) (W : WX), Ctx G Γ L c X W → EOk X L W d (den G Γ cond) := by
  split at h
  · cases cond <;> first | (cases h; done) | skip
    rename_i b
    have h : b = true := h
    subst h
    exact .inl ⟨rfl, rfl⟩
  · exact .inr ⟨_, rfl, fun X W C => (i1 _ _ h X W C).1⟩
  · cases h
theorem it_chk {k : ItK} {es : List Ex} {iter tg : Expr} {c : SC} (i1 : A3 L G Γ es) (h : chkIt G c k es iter tg = true) (X : Cx) (W : WX) (C : Ctx G Γ L c X W) : ItOk X L W k tg iter (dens G Γ es) := by
  match es, i1, h with
  | [], _, h => unfold chkIt at h <;> first | (cases h; done) | (intros; contradiction)
  | [a], i1, h =>
    have ia := i1.2 a List.mem_cons_self
    unfold chkIt at h
    split at h <;> first | (cases h; done) | (simp only [Bool.and_eq_true] at h)
    · exact i_val h.2 (ia _ _ h.1 X W C).1
    · exact i_tupl h.2 (ia _ _ h.1 X W C).1
    · exact i_strg h.2 (ia _ _ h.1 X W C).1
    · exact i_rng1 C h.1 (ia _ _ h.2 X W C).1 (ia _ _ h.2 X W C).2
    · exact i_enum C h.2 h.1.1 (ia _ _ h.1.2 X W C).1 (ia _ _ h.1.2 X W C).2
    · exact i_rev C h.1 (ia _ _ h.2 X W C).1 (ia _ _ h.2 X W C).2
  | [a, b], i1, h =>
    have ia := i1.2 a List.mem_cons_self
    have ib := i1.2 b (List.mem_cons_of_mem _ List.mem_cons_self)
    unfold chkIt at h
    split at h <;> first | (cases h; done) | (simp only [Bool.and_eq_true] at h)
    · exact i_rng2 C h.1.1 (ia _ _ h.1.2 X W C).1 (ia _ _ h.1.2 X W C).2 (ib _ _ h.2 X W C).1 (ib _ _ h.2 X W C).2
    · exact i_zip C h.2 h.1.1.1 (ia _ _ h.1.1.2 X W C).1 (ia _ _ h.1.1.2 X W C).2 (ib _ _ h.1.2 X W C).1 (ib _ _ h.1.2 X W C).2
  | _ :: _ :: _ :: _, _, h => unfold chkIt at h <;> first | (cases h; done) | (intros; contradiction)
theorem z_var {i : Nat} : A1 L G Γ (.var i) := by
  intro c e h X W C
  unfold chkE at h
  split at h
  · simp only [Bool.and_eq_true, decide_eq_true_eq, Bool.not_eq_true'] at h
    exact ⟨k_var C h.1.1 h.1.2 h.2, stat_of⟩
  · cases h
theorem z_cint {i : Int} : A1 L G Γ (.cint i) := by
  intro c e h X W C
  unfold chkE at h
  split at h
  · simp only [Bool.and_eq_true, decide_eq_true_eq, Bool.not_eq_true'] at h
    subst h
    exact ⟨k_const pe_int (fun _ => rfl) fun _ => rfl, stat_of⟩
  · cases h
theorem z_cstr {i : Str} : A1 L G Γ (.cstr i) := by
  intro c e h X W C
  unfold chkE at h
  split at h
  · simp only [Bool.and_eq_true, decide_eq_true_eq, Bool.not_eq_true'] at h
    subst h
    exact ⟨k_const pe_str (fun _ => rfl) fun _ => rfl, stat_of⟩
  · cases h
theorem z_cbl {i : Bool} : A1 L G Γ (.cbl i) := by
  intro c e h X W C
  unfold chkE at h
  split at h
  · simp only [Bool.and_eq_true, decide_eq_true_eq, Bool.not_eq_true'] at h
    subst h
    exact ⟨k_const pe_bl (fun _ => rfl) fun _ => rfl, stat_of⟩
  · cases h
theorem z_cnon  : A1 L G Γ (.cnon) := by
  intro c e h X W C
  unfold chkE at h
  split at h
  · exact ⟨k_const pe_non (fun _ => rfl) fun _ => rfl, stat_of⟩
  · cases h
theorem z_glob {k : Nat} : A1 L G Γ (.glob k) := by
  intro c e h X W C
  unfold chkE at h
  split at h
  · simp only [Bool.and_eq_true, decide_eq_true_eq, Bool.not_eq_true'] at h
    obtain ⟨⟨h1, h2⟩, h3⟩ := h
    unfold gCon at h1
    cases e : G.con k with
    | none => rw [e] at h1; cases h1
    | some y =>
      rw [e] at h1
      exact ⟨k_glob C e (of_decide_eq_true h1) h2 h3, stat_of⟩
  · cases h
theorem z_bin {op : Operator} {own : Bool} (i1 : A1 L G Γ a) (i2 : A1 L G Γ b) : A1 L G Γ (.bin op own a b) := by
  intro c e h X W C
  unfold chkE at h
  split at h
  · simp only [Bool.and_eq_true, decide_eq_true_eq, Bool.not_eq_true'] at h
    obtain ⟨⟨rfl, h1⟩, h2⟩ := h
    exact ⟨k_bin (i1 _ _ h1 X W C).1 (i2 _ _ h2 X W C).1, stat_of⟩
  · cases h
theorem z_cpow {i j v : Int} : A1 L G Γ (.cpow i j v) := by
  intro c e h X W C
  unfold chkE at h
  split at h
  · simp only [Bool.and_eq_true, decide_eq_true_eq, Bool.not_eq_true'] at h
    obtain ⟨⟨⟨rfl, rfl⟩, h1⟩, h2⟩ := h
    exact ⟨k_cpow h1 h2, stat_of⟩
  · cases h
theorem z_neg (i1 : A1 L G Γ a) : A1 L G Γ (.neg a) := by
  intro c e h X W C
  unfold chkE at h
  split at h
  · exact ⟨k_neg (i1 _ _ h X W C).1, stat_of⟩
  · cases h
theorem z_cmp {op : CmpOp} (i1 : A1 L G Γ a) (i2 : A1 L G Γ b) : A1 L G Γ (.cmp op a b) := by
  intro c e h X W C
  unfold chkE at h
  split at h
  · simp only [Bool.and_eq_true, decide_eq_true_eq, Bool.not_eq_true'] at h
    obtain ⟨⟨⟨rfl, h1⟩, h2⟩, h3⟩ := h
    exact ⟨k_cmp C h3 (i1 _ _ h1 X W C).1 (i2 _ _ h2 X W C).1, stat_of⟩
  · cases h
theorem z_chain {op op' : CmpOp} (i1 : A1 L G Γ a) (i2 : A1 L G Γ b) (i3 : A1 L G Γ d) : A1 L G Γ (.chain op op' a b d) := by
  intro c e h X W C
  unfold chkE at h
  split at h
  · simp only [Bool.and_eq_true, decide_eq_true_eq, Bool.not_eq_true'] at h
    obtain ⟨⟨⟨⟨⟨rfl, rfl⟩, h1⟩, h2⟩, h3⟩, h4⟩ := h
    exact ⟨k_chain C h4 (i1 _ _ h1 X W C).1 (i2 _ _ h2 X W C).1 (i3 _ _ h3 X W C).1, stat_of⟩
  · cases h
theorem z_andor {w : Bool} (i1 : A3 L G Γ es) : A1 L G Γ (.andor w es) := by
  intro c e h X W C
  unfold chkE at h
  split at h
  · simp only [Bool.and_eq_true, decide_eq_true_eq, Bool.not_eq_true'] at h
    obtain ⟨rfl, h1⟩ := h
    exact ⟨k_andor (i1.1 _ _ h1 X W C), stat_of⟩
  · cases h
theorem z_not (i1 : A1 L G Γ a) : A1 L G Γ (.not a) := by
  intro c e h X W C
  unfold chkE at h
  split at h
  · exact ⟨k_not (i1 _ _ h X W C).1, stat_of⟩
  · cases h
theorem z_ife (i1 : A1 L G Γ d) (i2 : A1 L G Γ a) (i3 : A1 L G Γ b) : A1 L G Γ (.ife d a b) := by
  intro c e h X W C
  unfold chkE at h
  split at h
  · simp only [Bool.and_eq_true, decide_eq_true_eq, Bool.not_eq_true'] at h
    exact ⟨k_ife (i1 _ _ h.1.1 X W C).1 (i2 _ _ h.1.2 X W C).1 (i3 _ _ h.2 X W C).1, stat_of⟩
  · cases h
theorem z_idx (i1 : A1 L G Γ a) (i2 : A1 L G Γ b) : A1 L G Γ (.idx a b) := by
  intro c e h X W C
  unfold chkE at h
  split at h
  · simp only [Bool.and_eq_true, decide_eq_true_eq, Bool.not_eq_true'] at h
    exact ⟨k_idx C (i2 _ _ h.2 X W C).2 (i1 _ _ h.1 X W C).1 (i2 _ _ h.2 X W C).1, stat_of⟩
  · cases h
theorem z_slice {own : Bool} (i1 : A1 L G Γ a) (i2 : A1 L G Γ b) (i3 : A1 L G Γ d) : A1 L G Γ (.slice own a b d) := by
  intro c e h X W C
  unfold chkE at h
  split at h
  · rw [Bool.and_eq_true, Bool.and_eq_true] at h
    exact ⟨k_slice (i1 _ _ h.1.1 X W C).1 (o_chk i2 h.1.2 X W C) (o_chk i3 h.2 X W C), stat_of⟩
  · cases h
theorem z_lst {own : Bool} (i1 : A3 L G Γ es) : A1 L G Γ (.lst own es) := by
  intro c e h X W C
  unfold chkE at h
  split at h
  · exact ⟨k_lst (i1.1 _ _ h X W C), stat_of⟩
  · cases h
theorem z_tup (i1 : A3 L G Γ es) : A1 L G Γ (.tup es) := by
  intro c e h X W C
  unfold chkE at h
  split at h
  · exact ⟨k_tup (i1.1 _ _ h X W C), stat_of⟩
  · cases h
theorem z_bif {f : Bif} {own : Bool} (i1 : A3 L G Γ es) : A1 L G Γ (.bif f own es) := by
  intro c e h X W C
  unfold chkE at h
  split at h
  · simp only [Bool.and_eq_true, decide_eq_true_eq, Bool.not_eq_true'] at h
    exact ⟨k_bif C h.2 h.1.1.1 (by simp [h.1.2]) (i1.1 _ _ h.1.1.2 X W C), stat_of⟩
  · cases h
theorem z_lrng {own : Bool} (i1 : A1 L G Γ a) : A1 L G Γ (.lrng own a) := by
  intro c e h X W C
  unfold chkE at h
  split at h
  · simp only [Bool.and_eq_true, decide_eq_true_eq, Bool.not_eq_true'] at h
    exact ⟨k_lrng C h.2 h.1.1.1 h.1.1.2 (i1 _ _ h.1.2 X W C).1 (i1 _ _ h.1.2 X W C).2, stat_of⟩
  · cases h
theorem z_isi {ks : List String} (i1 : A1 L G Γ a) : A1 L G Γ (.isi ks a) := by
  intro c e h X W C
  unfold chkE at h
  split at h
  · simp only [Bool.and_eq_true, decide_eq_true_eq, Bool.not_eq_true'] at h
    exact ⟨k_isi C h.1.1 h.2 (i1 _ _ h.1.2 X W C).2 (i1 _ _ h.1.2 X W C).1, stat_of⟩
  · cases h
theorem z_isx {i j : Nat} : A1 L G Γ (.isx i j) := by
  intro c e h X W C
  unfold chkE at h
  split at h
  · simp only [Bool.and_eq_true, decide_eq_true_eq, Bool.not_eq_true'] at h
    obtain ⟨⟨⟨⟨⟨⟨⟨⟨h1, h2⟩, h3⟩, h4⟩, h5⟩, h6⟩, h7⟩, h8⟩, h9⟩ := h
    exact ⟨k_isx C h1 h2 h3 h4 h5 h6 h7 h8 h9, stat_of⟩
  · cases h
theorem z_call {f nd : Nat} (i1 : A3 L G Γ es) : A1 L G Γ (.call f nd es) := by
  intro c e h X W C
  unfold chkE at h
  split at h
  · simp only [Bool.and_eq_true, decide_eq_true_eq, Bool.not_eq_true'] at h
    obtain ⟨⟨⟨⟨h1, h3⟩, h4⟩, h5⟩, hh⟩ := h
    unfold gFn at h1
    rw [Bool.and_eq_true] at h1
    obtain ⟨h1, h2⟩ := h1
    cases e : G.fn f with
    | none => rw [e] at h1; cases h1
    | some i =>
      rw [e] at h1
      simp only [Bool.and_eq_true, decide_eq_true_eq] at h1 h2
      obtain ⟨⟨⟨⟨g1, g2⟩, g3⟩, g4⟩, g5⟩ := h1
      exact ⟨k_call C hh e g1 g2 g3 g4 g5 h2 h3 h4 (i1.1 _ _ h5 X W C), stat_of⟩
  · cases h
theorem z_meth (hcl : Hcl G) {f nd : Nat} (i1 : A1 L G Γ a) (i2 : A3 L G Γ es) : A1 L G Γ (.meth f nd a es) := by
  intro c e h X W C
  unfold chkE at h
  split at h
  · simp only [Bool.and_eq_true, decide_eq_true_eq, Bool.not_eq_true'] at h
    obtain ⟨⟨⟨⟨⟨⟨hl, h30⟩, h1⟩, h3⟩, h4⟩, h5⟩, hh⟩ := h
    unfold gMt at h1
    rw [Bool.and_eq_true] at h1
    obtain ⟨h1, h2⟩ := h1
    cases e : G.fn f with
    | none => rw [e] at h1; cases h1
    | some i =>
      rw [e] at h1
      simp only [Bool.and_eq_true, decide_eq_true_eq] at h1 h2
      obtain ⟨⟨⟨⟨g1, g2⟩, g3⟩, g4⟩, g5⟩ := h1
      cases e2 : i.cls with
      | none => rw [e2] at g2; cases g2
      | some d =>
        rw [e2] at g2
        exact ⟨k_meth C hh hl h30 e g1 e2 (of_decide_eq_true g2) g3 g4 g5 h2 (hcl f i d e e2) h4 (i1 _ _ h3 X W C).1 (i2.1 _ _ h5 X W C), stat_of⟩
  · cases h
theorem z_make {d : Nat} (i1 : A3 L G Γ es) : A1 L G Γ (.make d es) := by
  intro c e h X W C
  unfold chkE at h
  split at h
  · simp only [Bool.and_eq_true, decide_eq_true_eq, Bool.not_eq_true'] at h
    obtain ⟨⟨⟨⟨h1, h2⟩, h3⟩, h4⟩, hh⟩ := h
    unfold gMk at h1
    cases e : G.cl d with
    | none => rw [e] at h1; cases h1
    | some i =>
      rw [e] at h1
      simp only [Bool.and_eq_true, decide_eq_true_eq] at h1
      obtain ⟨⟨g1, g2⟩, g3⟩ := h1
      cases e2 : G.fn i.init with
      | none => rw [e2] at g3; cases g3
      | some j =>
        rw [e2] at g3
        simp only [Bool.and_eq_true, decide_eq_true_eq] at g3
        exact ⟨k_make C hh e g1 g2 e2 g3.1 g3.2 h2 h3 (i1.1 _ _ h4 X W C), stat_of⟩
  · cases h
theorem z_fld (hfl : Hfl G) {d i : Nat} (i1 : A1 L G Γ a) : A1 L G Γ (.fld d i a) := by
  intro c e h X W C
  unfold chkE at h
  split at h
  · simp only [Bool.and_eq_true, decide_eq_true_eq, Bool.not_eq_true'] at h
    obtain ⟨⟨h1, h2⟩, h3⟩ := h
    exact ⟨k_fld C h2 h3 (hfl d _ (List.mem_of_getElem? h3)) (i1 _ _ h1 X W C).1, stat_of⟩
  · cases h
theorem z_lm {m : Lm} (i1 : A1 L G Γ a) (i2 : A3 L G Γ es) : A1 L G Γ (.lm m a es) := by
  intro c e h X W C
  unfold chkE at h
  split at h
  · simp only [Bool.and_eq_true, decide_eq_true_eq, Bool.not_eq_true'] at h
    obtain ⟨⟨⟨⟨⟨h1, h2⟩, h3⟩, h4⟩, h5⟩, h6⟩ := h
    exact ⟨k_lm C h1 h2 h4 h6 (i1 _ _ h3 X W C).1 (i2.1 _ _ h5 X W C), stat_of⟩
  · cases h
theorem z_comp {own : Bool} {vs : List Nat} {g : Tg} {k : ItK} (i1 : A3 L G Γ es) (i2 : A1 L G Γ a) (i3 : A1 L G Γ b) : A1 L G Γ (.comp own vs g k es a b) := by
  intro c e h X W C
  unfold chkE at h
  split at h
  · simp only [Bool.and_eq_true, decide_eq_true_eq, Bool.not_eq_true'] at h
    obtain ⟨⟨⟨⟨⟨⟨⟨h1, h2⟩, h3⟩, h4⟩, h5⟩, h6⟩, h7⟩, h8⟩ := h
    refine ⟨k_comp C h8 h5 h6 (it_chk i1 h1 X W C) (comp_parts C h8 h2 h7 ?_ fun X W C => (i3 _ _ h4 X W C).1), stat_of⟩
    exact if_chk i2 h3
  · cases h
theorem z_nset (i1 : A1 L G Γ a) : A1 L G Γ (.nset a) := by
  intro c e h X W C
  unfold chkE at h
  split at h
  · simp only [Bool.and_eq_true, decide_eq_true_eq, Bool.not_eq_true'] at h
    exact ⟨k_nset C h.2 h.1.1.1 h.1.1.2 (i1 _ _ h.1.2 X W C).1 (i1 _ _ h.1.2 X W C).2, stat_of⟩
  · cases h
theorem z_isx2 {i j j' : Nat} : A1 L G Γ (.isx2 i j j') := by
  intro c e h X W C
  unfold chkE at h
  split at h
  · simp only [Bool.and_eq_true, decide_eq_true_eq, Bool.not_eq_true'] at h
    obtain ⟨⟨⟨⟨⟨⟨⟨⟨⟨⟨⟨h1, h2⟩, h3⟩, h4⟩, h5⟩, h6⟩, h7⟩, h8⟩, h9⟩, h10⟩, h11⟩, h12⟩ := h
    exact ⟨k_isx2 C h1 h2 h3 h4 h5 h6 h7 h8 h9 h10 h11 h12, stat_of⟩
  · cases h
theorem z_isc {d : Nat} (i1 : A1 L G Γ a) : A1 L G Γ (.isc d a) := by
  intro c e h X W C
  unfold chkE at h
  split at h
  · simp only [Bool.and_eq_true, decide_eq_true_eq, Bool.not_eq_true'] at h
    obtain ⟨⟨⟨⟨⟨h1, h2⟩, h3⟩, h4⟩, h5⟩, h6⟩ := h
    unfold gCl at h3
    cases e : G.cl d with
    | none => rw [e] at h3; cases h3
    | some i =>
      rw [e] at h3
      exact ⟨k_isc C h1 e (of_decide_eq_true h3) h4 h5 h6 (i1 _ _ h2 X W C).2 (i1 _ _ h2 X W C).1, stat_of⟩
  · cases h
theorem z_chain3 {op op' op2 : CmpOp} (i1 : A1 L G Γ a) (i2 : A1 L G Γ b) (i3 : A1 L G Γ d) (i4 : A1 L G Γ f) : A1 L G Γ (.chain3 op op' op2 a b d f) := by
  intro c e h X W C
  unfold chkE at h
  split at h
  · simp only [Bool.and_eq_true, decide_eq_true_eq, Bool.not_eq_true'] at h
    obtain ⟨⟨⟨⟨⟨⟨⟨rfl, rfl⟩, rfl⟩, h1⟩, h2⟩, h3⟩, h4⟩, h5⟩ := h
    exact ⟨k_chain3 C h5 (i1 _ _ h1 X W C).1 (i2 _ _ h2 X W C).1 (i3 _ _ h3 X W C).1 (i4 _ _ h4 X W C).1, stat_of⟩
  · cases h
theorem z_lrev {own : Bool} (i1 : A1 L G Γ a) : A1 L G Γ (.lrev own a) := by
  intro c e h X W C
  unfold chkE at h
  split at h
  · simp only [Bool.and_eq_true, decide_eq_true_eq, Bool.not_eq_true'] at h
    exact ⟨k_lrev C h.2 h.1.1.1 h.1.1.2 (i1 _ _ h.1.2 X W C).1 (i1 _ _ h.1.2 X W C).2, stat_of⟩
  · cases h
theorem z_dict (i1 : A3 L G Γ es) (i2 : A3 L G Γ fs) : A1 L G Γ (.dict es fs) := by
  intro c e h X W C
  unfold chkE at h
  split at h
  · rw [Bool.and_eq_true] at h
    have e1 : es = [] := by
      cases es with
      | nil => rfl
      | cons y ys => have z := h.1; unfold chkEs at z; cases z
    have e2 : fs = [] := by
      cases fs with
      | nil => rfl
      | cons y ys => have z := h.2; unfold chkEs at z; cases z
    subst e1 e2
    exact ⟨k_dict0, stat_of⟩
  · rw [Bool.and_eq_true] at h
    obtain ⟨h1, h2⟩ := h
    have one : ∀ {es : List Ex} {x : Expr}, chkEs G c es [x] = true → ∃ a, es = [a] ∧ chkE G c a x = true := fun {es x} z => by
      match es, z with
      | [], z => unfold chkEs at z; cases z
      | [a], z => unfold chkEs at z; rw [Bool.and_eq_true] at z; exact ⟨a, rfl, z.1⟩
      | a :: b :: r, z => unfold chkEs at z; rw [Bool.and_eq_true] at z; have z2 := z.2; unfold chkEs at z2; cases z2
    obtain ⟨a, rfl, g1⟩ := one h1
    obtain ⟨b, rfl, g2⟩ := one h2
    exact ⟨k_dict1 (i1.2 a List.mem_cons_self _ _ g1 X W C).1 (i2.2 b List.mem_cons_self _ _ g2 X W C).1, stat_of⟩
  · cases h
theorem z_nil : A3 L G Γ [] := by
  refine ⟨fun c xs h X W C => ?_, fun a h => nomatch h⟩
  unfold chkEs at h
  cases xs with
  | nil => exact .nil
  | cons y ys => exact Bool.noConfusion h
theorem z_cons (i1 : A1 L G Γ a) (i2 : A3 L G Γ es) : A3 L G Γ (a :: es) := by
  refine ⟨fun c xs h X W C => ?_, fun x h => ?_⟩
  · unfold chkEs at h
    split at h
    · cases h
    · rw [Bool.and_eq_true] at h
      exact .cons (i1 _ _ h.1 X W C) (i2.1 _ _ h.2 X W C)
  · rcases List.mem_cons.mp h with rfl | h
    · exact i1
    · exact i2.2 x h
theorem snd_E (hcl : Hcl G) (hfl : Hfl G) (ex : Ex) : A1 L G Γ ex :=
  Ex.rec (motive_1 := A1 L G Γ) (motive_2 := A3 L G Γ) (fun _ => z_var) (fun _ => z_cint) (fun _ => z_cstr) (fun _ => z_cbl) z_cnon (fun _ => z_glob) (fun _ _ _ _ => z_bin) (fun _ _ _ => z_cpow) (fun _ => z_neg) (fun _ _ _ => z_cmp) (fun _ _ _ _ _ => z_chain) (fun _ _ => z_andor) (fun _ => z_not) (fun _ _ _ => z_ife)
    (fun _ _ => z_idx) (fun _ _ _ _ => z_slice) (fun _ _ => z_lst) (fun _ => z_tup) (fun _ _ => z_dict) (fun _ _ _ => z_bif) (fun _ _ => z_isi) (fun _ _ _ => z_call) (fun _ _ _ _ => z_meth hcl) (fun _ _ => z_make) (fun _ _ _ => z_fld hfl) (fun _ _ _ => z_lm) (fun _ _ _ _ _ _ _ => z_comp) (fun _ _ => z_lrng) (fun _ _ => z_isx)
    (fun _ => z_nset) (fun _ _ _ => z_isx2) (fun _ _ => z_isc) (fun _ _ _ _ _ _ _ => z_chain3) (fun _ _ => z_lrev) z_nil (fun _ _ => z_cons) ex
theorem snd_A3 (hcl : Hcl G) (hfl : Hfl G) : ∀ es : List Ex, A3 L G Γ es
  | [] => z_nil
  | a :: es => z_cons (snd_E hcl hfl a) (snd_A3 hcl hfl es)
theorem snd_all (hcl : Hcl G) (hfl : Hfl G) : (∀ c ex e, M1 L G Γ c ex e) ∧ (∀ c k its iter tg, M2 L G Γ c k its iter tg) ∧ (∀ c es xs, M3 L G Γ c es xs) :=
  ⟨fun c ex e => snd_E hcl hfl ex c e, fun _ _ its _ _ h X W C => it_chk (snd_A3 hcl hfl its) h X W C, fun c es xs => (snd_A3 hcl hfl es).1 c xs⟩
end
end Rh

namespace Rh
open PySem PySem.Spec PyProof.Rows L2

/-! ## 20. Statements -/
inductive Sx where
  | asg (g : Tg) (e : Ex) | par (i j : Nat) (a b : Ex)
  | asgF (c i : Nat) (o e : Ex) | asgI (o i e : Ex)
  | aug (i : Nat) (op : Operator) (e : Ex) | augI (op : Operator) (o i e : Ex)
  | ret (e : Ex) | retN | expr (e : Ex) | ife (c : Ex) (a b : List Sx)
  | for_ (g : Tg) (k : ItK) (its : List Ex) (body : List Sx) | while_ (c : Ex) (body : List Sx)
  | try1 (body : List Sx) (h : Nat) (suite : List Sx)
  | tryA (body : List Sx) (h i : Nat) (suite : List Sx)
  | raise (x : Nat) | pass | brk | cont | wk
structure SEnds where
  nx : Ro → Sto → Prop
  rt : RP
  bk : Ro → Sto → Prop
  ct : Ro → Sto → Prop
  ex : Nat → Ro → Sto → Prop
def setF (us : List T) (i : Nat) (y : T) : List T := if i < us.length then us.set i y else us ++ [y]
def tSet (x k y : T) (μ : Sto) (K : Sto → Prop) : Prop :=
  match isDict μ x with
  | true => onK μ x fun kvs p => ∃ kk, keyT k = some kk ∧ kvs.length < sizeLine ∧ K (μ.set p (.dict (putT kvs kk y)))
  | false => onM μ x fun ts p => ∃ i j, k = .int i ∧ ixN ts.length i = some j ∧ K (μ.set p (.lst (ts.set j y)))
def tAugO (op : Operator) (x y : T) (μ : Sto) (R : RP) : Prop :=
  match op, x, y with
  | .Add, .int i, .int j => R (.int (i + j)) μ
  | .Sub, .int i, .int j => R (.int (i - j)) μ
  | .Add, .str a, .str b => a.length + b.length ≤ sizeLine ∧ R (.str (a ++ b)) μ
  | _, _, _ => False
def SEnds.xp (D : SEnds) (ρ : Ro) : XP := fun c μ => D.ex c ρ μ
def forD (g : Tg) (body : SEnds → Ro → Sto → Prop) (us : List T) (gd : Sto → Prop) (D : SEnds) (ρ : Ro) (μ : Sto) : Prop :=
  ∃ I : List T → Ro → Sto → Prop, I us ρ μ ∧ (∀ ρ μ, I [] ρ μ → gd μ ∧ D.nx ρ μ) ∧ ∀ t r ρ μ, I (t :: r) ρ μ → gd μ ∧ bindT g t ρ μ fun ρ' =>
    body { D with nx := fun ρ2 μ2 => ∃ ρ3 μ3, Wk ρ2 μ2 ρ3 μ3 ∧ I r ρ3 μ3, ct := fun ρ2 μ2 => ∃ ρ3 μ3, Wk ρ2 μ2 ρ3 μ3 ∧ I r ρ3 μ3, bk := D.nx } ρ' μ
def whileD (c : TTe) (body : SEnds → Ro → Sto → Prop) (D : SEnds) (ρ : Ro) (μ : Sto) : Prop :=
  ∃ I : Nat → Ro → Sto → Prop, (∃ m, I m ρ μ) ∧ ∀ m ρ μ, I m ρ μ → c ρ μ (D.xp ρ) fun k μ1 => if k = true then
    body { D with nx := fun ρ2 μ2 => ∃ ρ3 μ3 m', Wk ρ2 μ2 ρ3 μ3 ∧ m' < m ∧ I m' ρ3 μ3, ct := fun ρ2 μ2 => ∃ ρ3 μ3 m', Wk ρ2 μ2 ρ3 μ3 ∧ m' < m ∧ I m' ρ3 μ3, bk := D.nx } ρ μ1 else D.nx ρ μ1
/-- what is known in a suite beside what is known anyhow -/
def curG (G : Tab) (Γ : Nat → TSp) (p : Addr) (a : Nat) : Nat → TSp := fun n => if n = 999999 then S_cur G p a else Γ n
section
variable (G : Tab)
mutual
def denS (Γ : Nat → TSp) : Sx → SEnds → Ro → Sto → Prop
  | .asg g e, D, ρ, μ => (den G Γ e).1 ρ μ (D.xp ρ) fun t μ1 => bindT g t ρ μ1 fun ρ' => D.nx ρ' μ1
  | .par i j a b, D, ρ, μ => (den G Γ a).1 ρ μ (D.xp ρ) fun x μ1 => (den G Γ b).1 ρ μ1 (D.xp ρ) fun y μ2 => D.nx ((ρ.set i (some x)).set j (some y)) μ2
  | .asgF c i o e, D, ρ, μ => (den G Γ e).1 ρ μ (D.xp ρ) fun y μ1 => (den G Γ o).1 ρ μ1 (D.xp ρ) fun x μ2 => ∃ p us, x = .own p ∧ μ2 p = some (.obj c us) ∧ i ≤ us.length ∧ D.nx ρ (μ2.set p (.obj c (setF us i y)))
  | .asgI o i e, D, ρ, μ => (den G Γ e).1 ρ μ (D.xp ρ) fun y μ1 => (den G Γ o).1 ρ μ1 (D.xp ρ) fun x μ2 => (den G Γ i).1 ρ μ2 (D.xp ρ) fun k μ3 => tSet x k y μ3 fun μ4 => D.nx ρ μ4
  | .aug i op e, D, ρ, μ => ∃ t, ρ[i]? = some (some t) ∧ (den G Γ e).1 ρ μ (D.xp ρ) fun y μ1 => tAugO op t y μ1 fun z μ2 => D.nx (ρ.set i (some z)) μ2
  | .augI op o i e, D, ρ, μ => (den G Γ o).1 ρ μ (D.xp ρ) fun x μ1 => (den G Γ i).1 ρ μ1 (D.xp ρ) fun k μ2 => isDict μ2 x = false ∧ (∃ us, vlst μ2 x = some us) ∧ tIdx x k μ2 fun t μ3 => (den G Γ e).1 ρ μ3 (D.xp ρ) fun y μ4 => tAugO op t y μ4 fun z μ5 => tSet x k z μ5 fun μ6 => D.nx ρ μ6
  | .ret e, D, ρ, μ => (den G Γ e).1 ρ μ (D.xp ρ) D.rt
  | .retN, D, _, μ => D.rt .non μ
  | .expr e, D, ρ, μ => (den G Γ e).1 ρ μ (D.xp ρ) fun _ μ1 => D.nx ρ μ1
  | .ife c a b, D, ρ, μ => ∃ J : Ro → Sto → Prop, (∀ ρ' μ', J ρ' μ' → ∃ ρ3 μ3, Wk ρ' μ' ρ3 μ3 ∧ D.nx ρ3 μ3) ∧ (den G Γ c).2 ρ μ (D.xp ρ) fun k μ1 => if k = true then denSs Γ a { D with nx := J } ρ μ1 else denSs Γ b { D with nx := J } ρ μ1
  | .for_ g k its body, D, ρ, μ => evs (dens G Γ its) ρ μ (D.xp ρ) fun ts μ1 => itT k ts μ1 fun us gd => forD g (denSs Γ body) us gd D ρ μ1
  | .while_ c body, D, ρ, μ => whileD (den G Γ c).2 (denSs Γ body) D ρ μ
  | .try1 b h s, D, ρ, μ => denSs Γ b { D with ex := fun a ρ' μ' => (∃ n m, G.ex a = some n ∧ G.ex h = some m) ∧ if subX G a h = true then denSs Γ s { D with ex := fun _ _ _ => False } ρ' μ' else D.ex a ρ' μ' } ρ μ
  | .tryA b h i s, D, ρ, μ => denSs Γ b { D with ex := fun a ρ' μ' => (∃ n m, G.ex a = some n ∧ G.ex h = some m) ∧ if subX G a h = true then ∀ p, μ' p = none → denSs (curG G Γ p a) s { nx := fun ρ μ => D.nx (ρ.set i none) μ, rt := D.rt, bk := fun ρ μ => D.bk (ρ.set i none) μ, ct := fun ρ μ => D.ct (ρ.set i none) μ, ex := fun _ _ _ => False } (ρ'.set i (some (.own p))) μ' else D.ex a ρ' μ' } ρ μ
  | .raise x, D, ρ, μ => D.ex x ρ μ
  | .pass, D, ρ, μ => D.nx ρ μ
  | .brk, D, ρ, μ => D.bk ρ μ
  | .cont, D, ρ, μ => D.ct ρ μ
  | .wk, D, ρ, μ => ∃ ρ' μ', Wk ρ μ ρ' μ' ∧ D.nx ρ' μ'
def denSs (Γ : Nat → TSp) : List Sx → SEnds → Ro → Sto → Prop
  | [], D, ρ, μ => D.nx ρ μ
  | s :: r, D, ρ, μ => denS Γ s { D with nx := fun ρ' μ' => denSs Γ r D ρ' μ' } ρ μ
end
end
def isLoc (sc : Scope) (x : Str) : Bool := decide (sc.names.lookup x = some .local)
def isStarE : Expr → Bool
  | .Starred .. => true
  | _ => false
/-- the two names of a swap -/
def swapB (c : SC) (x y : Str) (px py : Pos) (a b : Expr) : Bool :=
  isLoc c.sc x && isLoc c.sc y && (py.line == px.line) && !decide (x = y) && !([a, b].all (foldedForSure 8)) && !([a, b].all (constantsAlone 8)) && !isStarE a && !isStarE b
def isTupV : Expr → Bool
  | .Tuple .. => true
  | _ => false
def isCompV : Expr → Bool
  | .ListComp .. => true | .SetComp .. => true | .DictComp .. => true
  | _ => false
section
variable (G : Tab)
def gEx (h : Nat) (x : Str) : Bool := match G.ex h with | some m => decide (m = x) | none => false
mutual
def chkS (c : SC) : Sx → Stmt → Bool
  | .asg g e, s => (match s with | .Assign [tg] v _ => chkG c g tg && chkE G c e v && (!isTupE tg || !isTupV v) | _ => false)
  | .par i j a b, s => (match s with | .Assign [.Tuple [.Name x px, .Name y py] _ _] (.Tuple [v, w] _ _) _ => decide (c.N[i]? = some x) && decide (c.N[j]? = some y) && swapB c x y px py v w && chkE G c a v && chkE G c b w && !c.hot | _ => false)
  | .asgF d i o e, s => (match s with | .Assign [.Attribute y f _] v _ => chkE G c o y && chkE G c e v && notSup y && decide ((G.flds d)[i]? = some f) | _ => false)
  | .asgI o i e, s => (match s with | .Assign [.Subscript y k _] v _ => chkE G c o y && chkE G c i k && chkE G c e v | _ => false)
  | .aug i op e, s => (match s with | .AugAssign (.Name x _) o v _ => decide (c.N[i]? = some x) && loc c.sc x && decide (op = o) && chkE G c e v | _ => false)
  | .augI op o i e, s => (match s with | .AugAssign (.Subscript y k _) o' v _ => decide (op = o') && chkE G c o y && chkE G c i k && chkE G c e v | _ => false)
  | .ret e, s => (match s with | .Return (some v) _ => chkE G c e v | _ => false)
  | .retN, s => (match s with | .Return none _ => true | _ => false)
  | .expr e, s => (match s with | .Expr v _ => chkE G c e v && !isCompV v | _ => false)
  | .ife d a b, s => (match s with | .If z x y _ => chkE G c d z && chkSs c a x && chkSs c b y | _ => false)
  | .for_ g k its body, s => (match s with | .For tg iter b [] _ => chkIt G c k its iter tg && chkG c g tg && chkSs c body b && !c.hot | _ => false)
  | .while_ d body, s => (match s with | .While z b [] _ => chkE G c d z && chkSs c body b && !c.hot | _ => false)
  | .try1 body h suite, s => (match s with | .Try b [.ExceptHandler (some (.Name x _)) none (s0 :: ss) _] [] [] _ => gEx G h x && glb c.sc x && plainN x && chkSs c body b && chkSs { c with hot := true, as := false } suite (s0 :: ss) && !c.hot | _ => false)
  | .tryA body h i suite, s => (match s with | .Try b [.ExceptHandler (some (.Name x _)) (some n) (s0 :: ss) _] [] [] _ => gEx G h x && glb c.sc x && plainN x && chkSs c body b && chkSs { c with hot := true, as := true } suite (s0 :: ss) && decide (c.N[i]? = some n) && isLoc c.sc n && decide (c.m ≤ 999999) && !c.hot | _ => false)
  | .raise x, s => (match s with | .Raise (some (.Call (.Name n _) [.Constant (.str _) _ _] [] _)) none _ => gEx G x n && glb c.sc n && plainN n && !c.hot | _ => false)
  | .pass, s => (match s with | .Pass _ => true | _ => false)
  | .brk, s => (match s with | .Break _ => true | _ => false)
  | .cont, s => (match s with | .Continue _ => true | _ => false)
  | .wk, _ => false
def chkSs (c : SC) : List Sx → List Stmt → Bool
  | [], l => l.isEmpty
  | s :: ss, l => (match s with | .wk => chkSs c ss l | _ => match l with | [] => false | l :: ls => chkS c s l && chkSs c ss ls)
end
end

/-! ## 21. Each statement does what it says -/
structure SCtx (G : Tab) (Γ : Nat → TSp) (L : Lay) (c : SC) (X : Cx) (W : WX) : Prop where
  e : Ctx G Γ L c X W
  pa : c.hot = false → PassesOwn (model X.prog X.w) X.A X.env X.xe
  stk : X.stack = X.env :: X.outer
  fr : X.env.frame = some X.env.locals
  se : X.env.scope = c.sc
  kd : c.sc.kind = .function
def sS (X : Cx) (st : Stmt) : TS := fun D σ H => ∀ pins s, L2.Inv X pins σ H s → wpAny (model X.prog X.w) X.A (exec st X.env) (SP X pins D) X.xe s
def sSs (X : Cx) (st : List Stmt) : TS := fun D σ H => ∀ pins s, L2.Inv X pins σ H s → wpAny (model X.prog X.w) X.A (execs st X.env) (SP X pins D) X.xe s
theorem ps_s {X : Cx} {st : Stmt} : PS X st (sS X st) := ⟨fun pins s _ _ _ I h => h pins s I⟩
theorem pss_s {X : Cx} {st : List Stmt} : PSs X st (sSs X st) := ⟨fun pins s _ _ _ I h => h pins s I⟩
theorem sS_of {X : Cx} {st : Stmt} {t : TS} {D : Ends} {σ : L2.St} {H : Hp} (p : PS X st t) (h : t D σ H) : sS X st D σ H := fun pins s I => p.run pins s σ H D I h
theorem sSs_of {X : Cx} {st : List Stmt} {t : TS} {D : Ends} {σ : L2.St} {H : Hp} (p : PSs X st t) (h : t D σ H) : sSs X st D σ H := fun pins s I => p.run pins s σ H D I h
def PostN (K : PySem.W.Frag) (L : Lay) (Φ B : Hp) (R : Ro → Sto → Prop) (Q : L2.St → Hp → Prop) : Prop := ∀ ρ' μ' σ' H' B', Le B B' → St K L Φ H' B' μ' → Slots K B' σ' ρ' → R ρ' μ' → Q σ' H'
structure EndOk (X : Cx) (L : Lay) (W : WX) (Φ B : Hp) (D : SEnds) (D' : Ends) : Prop where
  nx : PostN X.K L Φ B D.nx D'.nx
  rt : Post X.K L Φ B D.rt D'.rt
  bk : PostN X.K L Φ B D.bk D'.bk
  ct : PostN X.K L Φ B D.ct D'.ct
  ex : ∀ c, PostN X.K L Φ B (D.ex c) (fun σ' H' => W (.ref (L.exc c)) none σ' H')
section
variable {X : Cx} {L : Lay} {W : WX} {G : Tab} {Γ : Nat → TSp} {c : SC} {pos : Pos} {Φ B B' : Hp} {D : SEnds} {D' : Ends}
theorem PostN.mono {K : PySem.W.Frag} {R : Ro → Sto → Prop} {Q : L2.St → Hp → Prop} (h : PostN K L Φ B R Q) (e : Le B B') : PostN K L Φ B' R Q := fun ρ' μ' σ' H' B2 l => h ρ' μ' σ' H' B2 (e.trans l)
theorem EndOk.mono (h : EndOk X L W Φ B D D') (e : Le B B') : EndOk X L W Φ B' D D' := ⟨h.nx.mono e, h.rt.mono e, h.bk.mono e, h.ct.mono e, fun c => (h.ex c).mono e⟩
theorem EndOk.xp (h : EndOk X L W Φ B D D') {σ : L2.St} {ρ : Ro} (sl : Slots X.K B σ ρ) : PostX X.K L Φ B (D.xp ρ) (WE W σ) := fun c H' B' μ' l S q => h.ex c ρ μ' σ H' B' l S (sl.mono l) q
def SOk (X : Cx) (L : Lay) (W : WX) (st : Stmt) (d : SEnds → Ro → Sto → Prop) : Prop := ∀ Φ B μ H σ ρ D D', St X.K L Φ H B μ → Slots X.K B σ ρ → d D ρ μ → EndOk X L W Φ B D D' → sS X st D' σ H
def SsOk (X : Cx) (L : Lay) (W : WX) (st : List Stmt) (d : SEnds → Ro → Sto → Prop) : Prop := ∀ Φ B μ H σ ρ D D', St X.K L Φ H B μ → Slots X.K B σ ρ → d D ρ μ → EndOk X L W Φ B D D' → sSs X st D' σ H
theorem sw_none {v : Expr} {t : Option Expr} {l : Nat} {env : Env} (h : isCompV v = false) : swapsWith v t l env = pure false := by
  cases v <;> first | rfl | cases h
theorem sw_attr {v o : Expr} {f : Str} {p : Pos} {l : Nat} {env : Env} : swapsWith v (some (.Attribute o f p)) l env = pure false := by
  cases v <;> rfl
theorem sw_sub {v o i : Expr} {p : Pos} {l : Nat} {env : Env} : swapsWith v (some (.Subscript o i p)) l env = pure false := by
  cases v <;> rfl
theorem sw_tup {v : Expr} {es : List Expr} {k : Nat} {p : Pos} {l : Nat} {env : Env} : swapsWithSole [.Tuple es k p] v l env = pure false := by
  cases v <;> rfl
theorem st_asgN (C : SCtx G Γ L c X W) {i : Nat} {x : Str} {px : Pos} {e : Ex} {v : Expr} (hN : c.N[i]? = some x) (hl : loc c.sc x = true) (he : EOk X L W v (den G Γ e)) (hs : swapsWith v (some (.Name x px)) pos.line X.env = pure false) :
    SOk X L W (.Assign [.Name x px] v pos) (denS G Γ (.asg (.nm i) e)) := fun Φ B μ H σ ρ D D' S sl q k => by
  obtain ⟨h1, h2⟩ := C.e.st x hl
  refine sS_of (ps_set (by rw [C.e.N]; exact C.e.nd) (by rw [C.e.N]; exact hN) h1 pe_s hs h2) ?_
  exact he.v Φ B μ H σ ρ _ _ _ S sl q (k.xp sl) fun w t H1 B1 μ1 l1 S1 r1 q1 => k.nx _ μ1 _ H1 B1 l1 S1 ((sl.mono l1).set i r1) q1
theorem st_asgT (C : SCtx G Γ L c X W) {gs : List Tg} {es : List Expr} {kk : Nat} {px : Pos} {e : Ex} {v : Expr} (hg : chkG c (.tup gs) (.Tuple es kk px) = true) (hv : isTupV v = false) (he : EOk X L W v (den G Γ e)) :
    SOk X L W (.Assign [.Tuple es kk px] v pos) (denS G Γ (.asg (.tup gs) e)) := fun Φ B μ H σ ρ D D' S sl q k => by
  have hw : swappedStores [.Tuple es kk px] v X.env = pure none := by cases v <;> first | rfl | cases hv
  refine sS_of (ps_asg pe_s (pg_s (e := .Tuple es kk px)) sw_tup hw rfl) ?_
  refine he.v Φ B μ H σ ρ _ _ _ S sl q (k.xp sl) fun w t H1 B1 μ1 l1 S1 r1 q1 => ?_
  exact tg_ok C.e (.tup gs) _ hg Φ B1 μ1 H1 σ ρ w t _ _ S1 (sl.mono l1) r1 q1 fun σ' ρ' s' _ q' => k.nx ρ' μ1 σ' H1 B1 l1 S1 s' q'
theorem st_par (C : SCtx G Γ L c X W) (hh : c.hot = false) {i j : Nat} {x y : Str} {px py pt p2 : Pos} {k1 k2 : Nat} {a b : Ex} {v w : Expr} (hi : c.N[i]? = some x) (hj : c.N[j]? = some y) (hs : swapB c x y px py v w = true) (ha : EOk X L W v (den G Γ a)) (sa : Stat v) (hb : EOk X L W w (den G Γ b)) (sb : Stat w) :
    SOk X L W (.Assign [.Tuple [.Name x px, .Name y py] k1 pt] (.Tuple [v, w] k2 p2) pos) (denS G Γ (.par i j a b)) := fun Φ B μ H σ ρ D D' S sl q k => by
  simp only [swapB, isLoc, Bool.and_eq_true, decide_eq_true_eq, Bool.not_eq_true', decide_eq_false_iff_not] at hs
  obtain ⟨⟨⟨⟨⟨⟨⟨lx, ly⟩, hline⟩, hne⟩, hf⟩, hc⟩, nsv⟩, nsw⟩ := hs
  have lx' : X.env.scope.names.lookup x = some .local := by rw [C.se]; exact lx
  have ly' : X.env.scope.names.lookup y = some .local := by rw [C.se]; exact ly
  have hij : i ≠ j := fun z => hne (Option.some.inj (hi.symm.trans (z ▸ hj)))
  have hb' : X.env.blockKind = .function := by
    unfold Env.blockKind
    rw [C.se, C.kd]
    rfl
  have kx : X.env.kindOf x = some .local := lx'
  have ky : X.env.kindOf y = some .local := ly'
  have hw : swappedStores [.Tuple [.Name x px, .Name y py] k1 pt] (.Tuple [v, w] k2 p2) X.env = pure (some [x, y]) := by
    have hany : ∀ f : Expr → Bool, (∀ u, isStarE u = false → f u = false) → [v, w].any f = false := fun f hf' => by
      simp [hf' v nsv, hf' w nsw]
    have hbe : (y == x) = false := beq_eq_false_iff_ne.mpr fun z => hne z.symm
    have ed : [x, y].eraseDups = [x, y] := by
      simp [List.eraseDups_cons, hbe]
    have e1 : (some NameKind.local == some NameKind.local) = true := rfl
    unfold swappedStores
    dsimp only
    rw [hb', hany _ (fun u hu => by cases u <;> first | rfl | cases hu)]
    simp only [hf, hc, kx, ky, hline, List.filterMap_cons, List.filterMap_nil, List.head?_cons, Option.map_some, Option.getD_some, e1, Bool.and_self, Expr.pos, beq_self_eq_true, List.length_cons, List.length_nil, if_true, ed]
    rfl
  refine sS_of (ps_par (C.e.calm hh) (by rw [C.e.N]; exact C.e.nd) (by rw [C.e.N]; exact hi) (by rw [C.e.N]; exact hj) hij lx' ly' (pa_cons pe_s (pa_cons pe_s pa_nil (sb.star _ _)) (sa.star _ _)) hw sw_tup) ?_
  refine ha.v Φ B μ H σ ρ _ _ _ S sl q (k.xp sl) fun v1 t1 H1 B1 μ1 l1 S1 r1 q1 => ?_
  refine hb.v Φ B1 μ1 H1 σ ρ _ _ _ S1 (sl.mono l1) q1 ((k.xp sl).mono l1) fun v2 t2 H2 B2 μ2 l2 S2 r2 q2 => ?_
  exact ⟨v1, v2, rfl, k.nx _ μ2 _ H2 B2 (l1.trans l2) S2 (((sl.mono (l1.trans l2)).set i (r1.mono l2)).set j r2) q2⟩
end
end Rh

namespace Rh
open PySem PySem.Spec PyProof.Rows L2
section
variable {X : Cx} {L : Lay} {W : WX} {G : Tab} {Γ : Nat → TSp} {c : SC} {pos : Pos}
/-- name = [..], both ways in which the list comes to the name -/
theorem st_comp (C : SCtx G Γ L c X W) (hh : c.hot = false) {i : Nat} {x : Str} {px pc : Pos} {own : Bool} {vs : List Nat} {g : Tg} {kk : ItK} {its : List Ex} {cond elt : Ex} {z tg iter : Expr} {ifs : List Expr} {scope : Scope} (hN : c.N[i]? = some x) (hl : loc c.sc x = true)
    (hb : blkC c.N c.sc scope (ownNames c.N vs) = true) (hv : (ownNames c.N vs).map (·.2) = vs) (it : ItOk X L W kk tg iter (dens G Γ its)) (Q0 : CompOk X L scope vs g tg ifs z (den G Γ cond) (den G Γ elt)) :
    SOk X L W (.Assign [.Name x px] (.ListComp z [⟨tg, iter, ifs, 0⟩] scope pc) pos) (denS G Γ (.asg (.nm i) (.comp own vs g kk its cond elt))) := by
  have he := k_comp C.e hh (pos := pc) (own := own) hb hv it Q0
  obtain ⟨b, hsw⟩ : ∃ b, swapsWith (.ListComp z [⟨tg, iter, ifs, 0⟩] scope pc) (some (.Name x px)) pos.line X.env = pure b := ⟨_, rfl⟩
  cases b with
  | false => exact st_asgN C hN hl he hsw
  | true =>
    have hloc : X.env.scope.names.lookup x = some .local := by
      have e : (X.env.blockKind == .function && X.env.kindOf x == some .local && px.line == pc.line && !(scope.names.any fun (n, k) => n == x && (k == .local || k == .cell))) = true := by
        have h1 : swapsWith (.ListComp z [⟨tg, iter, ifs, 0⟩] scope pc) (some (.Name x px)) pos.line X.env = pure (X.env.blockKind == .function && X.env.kindOf x == some .local && px.line == pc.line && !(scope.names.any fun (n, k) => n == x && (k == .local || k == .cell))) := rfl
        have h2 := h1.symm.trans hsw
        cases e : (X.env.blockKind == .function && X.env.kindOf x == some .local && px.line == pc.line && !(scope.names.any fun (n, k) => n == x && (k == .local || k == .cell))) with
        | true => rfl
        | false =>
          rw [e] at h2
          exact absurd h2 (by intro q; injection q; contradiction)
      simp only [Bool.and_eq_true, beq_iff_eq] at e
      exact e.1.1.2
    obtain ⟨wi, gg, tt, te, h1, h2, h3, h4, h5⟩ := comp_lc (ow := own) hv it Q0
    intro Φ B μ H σ ρ D D' S sl q k
    refine sS_of (ps_setLc (C.e.calm hh) (by rw [C.e.N]; exact C.e.nd) (by rw [C.e.N]; exact hN) hloc hsw h1 (blk_ok C.e hb) h2 h3 h4 (folded it.1)) ?_
    refine h5 Φ B μ H σ ρ _ _ _ S sl q (k.xp sl) fun w t H1 B1 μ1 l1 S1 r1 q1 => ?_
    exact k.nx _ μ1 _ H1 B1 l1 S1 ((sl.mono l1).set i r1) q1
theorem putF_set {c0 : List Str} (nd : c0.Nodup) : ∀ {vs : List V} {i : Nat} {f : Str} {v : V}, c0[i]? = some f → i < vs.length → putF f v (c0.zip vs) = c0.zip (vs.set i v) := by
  induction c0 with
  | nil => intro vs i f v h; simp at h
  | cons g r ih =>
    intro vs i f v h hl
    rw [List.nodup_cons] at nd
    cases vs with
    | nil => simp at hl
    | cons w ws =>
      cases i with
      | zero =>
        simp at h
        subst h
        show (if g = g then (g, v) :: r.zip ws else _) = (g, v) :: r.zip ws
        rw [if_pos rfl]
      | succ i =>
        have h' : r[i]? = some f := by simpa using h
        have ne : ¬ g = f := fun z => nd.1 (by rw [z]; exact List.mem_of_getElem? h')
        show (if g = f then _ else (g, w) :: putF f v (r.zip ws)) = (g, w) :: r.zip (ws.set i v)
        rw [if_neg ne, ih nd.2 h' (by simpa using hl)]
theorem putF_new {c0 : List Str} (nd : c0.Nodup) : ∀ {vs : List V} {f : Str} {v : V}, c0[vs.length]? = some f → putF f v (c0.zip vs) = c0.zip (vs ++ [v]) := by
  induction c0 with
  | nil => intro vs f v h; simp at h
  | cons g r ih =>
    intro vs f v h
    rw [List.nodup_cons] at nd
    cases vs with
    | nil =>
      simp at h
      subst h
      show putF g v [] = (g, v) :: r.zip []
      rw [List.zip_nil_right]
      rfl
    | cons w ws =>
      have h' : r[ws.length]? = some f := by simpa using h
      have ne : ¬ g = f := fun z => nd.1 (by rw [z]; exact List.mem_of_getElem? h')
      show (if g = f then _ else (g, w) :: putF f v (r.zip ws)) = (g, w) :: r.zip (ws ++ [v])
      rw [if_neg ne, ih nd.2 h']
theorem st_asgF (C : SCtx G Γ L c X W) {d i : Nat} {o e : Ex} {y v : Expr} {f : Str} {p : Pos} (hsup : notSup y = true) (hi : (G.flds d)[i]? = some f) (hcd : ∃ ci, G.cl d = some ci) (ho : EOk X L W y (den G Γ o)) (he : EOk X L W v (den G Γ e)) :
    SOk X L W (.Assign [.Attribute y f p] v pos) (denS G Γ (.asgF d i o e)) := fun Φ B μ H σ ρ D D' S sl q k => by
  obtain ⟨ci, hci⟩ := hcd
  have CF := C.e.g.cl d ci hci
  refine sS_of (ps_fld pe_s pe_s sw_attr) ?_
  refine he.v Φ B μ H σ ρ _ _ _ S sl q (k.xp sl) fun w t H1 B1 μ1 l1 S1 r1 q1 => ?_
  refine ho.v Φ B1 μ1 H1 σ ρ _ _ _ S1 (sl.mono l1) q1 ((k.xp sl).mono l1) fun w2 t2 H2 B2 μ2 l2 S2 r2 q2 => ?_
  obtain ⟨a, us, rfl, e1, hle, q2⟩ := q2
  obtain rfl := r2
  obtain ⟨dx, vs, h1, h2, h3⟩ := S2.memO e1
  have hil : i < (G.flds d).length := (List.getElem?_eq_some_iff.mp hi).1
  have hlen := h2.length
  rw [C.e.g.fl] at h1 h3
  have hsz := CF.sz
  refine ⟨a, L.addr d, dx, _, rfl, h1, CF.cl, CF.no f (List.mem_of_getElem? hi), by rw [List.length_zip]; omega, ?_⟩
  have hB : B2 a = none := (S2.sto a _ e1).1
  have hF := S2.noF e1
  have fin : ∀ vs', putF f w ((G.flds d).zip vs) = (G.flds d).zip vs' → Trs X.K B2 vs' (setF us i t) → vs'.length ≤ (G.flds d).length → D'.nx σ (upd H2 a (.ins (L.addr d) dx (putF f w ((G.flds d).zip vs)))) := fun vs' ev r' hl' => by
    refine k.nx ρ _ σ _ B2 (l1.trans l2) (S2.put (p := a) (ob := .obj d (setF us i t)) hB hF ?_) (sl.mono (l1.trans l2)) q2
    exact ⟨dx, vs', by rw [upd_same, ev, C.e.g.fl], r', by rw [C.e.g.fl]; exact hl'⟩
  by_cases hlt : i < us.length
  · refine fin (vs.set i w) (putF_set CF.nd hi (by omega)) ?_ (by rw [List.length_set]; exact h3)
    unfold setF
    rw [if_pos hlt]
    exact h2.set i (r1.mono l2)
  · have hi' : i = vs.length := by omega
    refine fin (vs ++ [w]) (putF_new CF.nd (by rw [← hi']; exact hi)) ?_ (by rw [List.length_append, List.length_singleton]; omega)
    unfold setF
    rw [if_neg hlt]
    exact h2.append (Trs.cons (r1.mono l2) Trs.nil)
def OpSet (K : PySem.W.Frag) (L : Lay) : V → V → V → Hp → (Hp → Prop) → Prop := fun o i v H Q => ∃ Φ B μ tx tk ty R, St K L Φ H B μ ∧ Tr K B o tx ∧ Tr K B i tk ∧ Tr K B v ty ∧ tSet tx tk ty μ R ∧ ∀ H' μ', St K L Φ H' B μ' → R μ' → Q H'
theorem set_ok (hu : X.A.units + 65 < cLine) : PSet X (OpSet X.K L) := by
  intro pins s σ H o i v ov iv u Q I ro ri rv ⟨Φ, B, μ, tx, tk, ty, R, S, r1, r2, r3, h, k⟩
  unfold tSet at h
  split at h
  · obtain ⟨p, kvs, rfl, e, kk, ek, hz, h⟩ := h
    obtain ⟨ks, g1, g2⟩ := S.memD e
    obtain rfl := r1
    have ey := keyT_ok r2 ek
    subst ey
    cases (show ov = Value.ref p from ro)
    refine d_setItem (by omega) I (DPut.k (k := kk) g1 (by rw [g2.length]; exact hz)) ri rv fun s' I' => ⟨_, I', ?_⟩
    exact k _ _ (S.put (S.sto p _ e).1 (S.noF e) (show ObOk X.K L (upd H p (.dK (putK ks kk v))) B p (.dict (putT kvs kk ty)) from ⟨_, upd_same, g2.put kk r3⟩)) h
  · obtain ⟨p, vs, ts, rfl, h1, h2, ⟨n, j, rfl, hj, h⟩, hB, hF⟩ := onM_ok S r1 h
    obtain rfl := r2
    refine set_list pins s σ H _ _ v ov iv u Q I ro ri rv ⟨p, vs, n, j, rfl, rfl, h1, by rw [h2.length]; exact hj, ?_⟩
    exact k _ _ (S.put hB hF (show ObOk X.K L (upd H p (.lst (vs.set j v))) B p (.lst (ts.set j ty)) from ⟨_, upd_same, h2.set j r3⟩)) h
theorem st_asgI (C : SCtx G Γ L c X W) {o i e : Ex} {y kx v : Expr} {p : Pos} (ho : EOk X L W y (den G Γ o)) (hi : EOk X L W kx (den G Γ i)) (si : Stat kx) (he : EOk X L W v (den G Γ e)) :
    SOk X L W (.Assign [.Subscript y kx p] v pos) (denS G Γ (.asgI o i e)) := fun Φ B μ H σ ρ D D' S sl q k => by
  have hw : swappedStores [.Subscript y kx p] v X.env = pure none := by cases v <;> rfl
  have hsole : swapsWithSole [.Subscript y kx p] v pos.line X.env = pure false := by cases v <;> rfl
  refine sS_of (ps_asg pe_s (pg_sub pe_s pe_s (set_ok (L := L) C.e.hu) (si.asg y p X.env)) hsole hw rfl) ?_
  refine he.v Φ B μ H σ ρ _ _ _ S sl q (k.xp sl) fun w t H1 B1 μ1 l1 S1 r1 q1 => ?_
  refine ho.v Φ B1 μ1 H1 σ ρ _ _ _ S1 (sl.mono l1) q1 ((k.xp sl).mono l1) fun w2 t2 H2 B2 μ2 l2 S2 r2 q2 => ?_
  refine hi.v Φ B2 μ2 H2 σ ρ _ _ _ S2 (sl.mono (l1.trans l2)) q2 ((k.xp sl).mono (l1.trans l2)) fun w3 t3 H3 B3 μ3 l3 S3 r3 q3 => ?_
  exact ⟨Φ, B3, μ3, t2, t3, t, _, S3, r2.mono l3, r3, r1.mono (l2.trans l3), q3, fun H' μ' S' h' => k.nx ρ μ' σ H' B3 ((l1.trans l2).trans l3) S' (sl.mono ((l1.trans l2).trans l3)) h'⟩
theorem aug_ok (op : Operator) : PIp X op (Op2 X.K L (tAugO op)) := by
  intro pins s σ H x y v u Q I rx ry ⟨Φ, B, μ, tx, ty, R, S, r1, r2, h, k⟩
  unfold tAugO at h
  split at h
  · obtain rfl := r1
    obtain rfl := r2
    exact ip_add pins s σ H _ _ v u Q I rx ry ⟨_, _, rfl, rfl, k.here S (show Tr X.K B (.int _) (.int _) from rfl) h⟩
  · obtain rfl := r1
    obtain rfl := r2
    exact ip_sub pins s σ H _ _ v u Q I rx ry ⟨_, _, rfl, rfl, k.here S (show Tr X.K B (.int _) (.int _) from rfl) h⟩
  · obtain rfl := r1
    obtain rfl := r2
    exact iop_add_str pins s σ H _ _ v u Q I rx ry ⟨_, _, rfl, rfl, h.1, k.here S (show Tr X.K B (.str _) (.str _) from rfl) h.2⟩
  · exact h.elim
theorem st_aug (C : SCtx G Γ L c X W) {i : Nat} {x : Str} {px : Pos} {op : Operator} {e : Ex} {v : Expr} (hN : c.N[i]? = some x) (hl : loc c.sc x = true) (he : EOk X L W v (den G Γ e)) :
    SOk X L W (.AugAssign (.Name x px) op v pos) (denS G Γ (.aug i op e)) := fun Φ B μ H σ ρ D D' S sl q k => by
  obtain ⟨h1, h2⟩ := C.e.st x hl
  refine sS_of (ps_aug (by rw [C.e.N]; exact C.e.nd) (by rw [C.e.N]; exact hN) h1 pe_s (aug_ok (L := L) op) h2) ?_
  obtain ⟨t, e1, q⟩ := q
  obtain ⟨w, e2, r⟩ := sl.2 i t e1
  refine ⟨w, e2, ?_⟩
  refine he.v Φ B μ H σ ρ _ _ _ S sl q (k.xp sl) fun w1 t1 H1 B1 μ1 l1 S1 r1 q1 => ?_
  exact ⟨Φ, B1, μ1, t, t1, _, S1, r.mono l1, r1, q1, fun w2 t2 H2 B2 μ2 l2 S2 r2 q2 => k.nx _ μ2 _ H2 B2 (l1.trans l2) S2 ((sl.mono (l1.trans l2)).set i r2) q2⟩
theorem get_ok : PGet X (fun x y H Q => ∃ Φ B μ tx ty R, St X.K L Φ H B μ ∧ Tr X.K B x tx ∧ Tr X.K B y ty ∧ (isDict μ tx = false ∧ tIdx tx ty μ R) ∧ Post X.K L Φ B R Q ∧ ∃ us, vlst μ tx = some us) := by
  intro pins s σ H x y v u Q I rx ry ⟨Φ, B, μ, tx, ty, R, S, r1, r2, ⟨hd, h⟩, k, us, hus⟩
  have h' : onL μ tx fun ts => ∃ i t, ty = .int i ∧ atI ts i = some t ∧ R t μ := by
    unfold tIdx at h
    cases tx with
    | tup ts => cases hus
    | str z => cases hus
    | lst ts => simpa [isDict] using h
    | scr ts => simpa [isDict] using h
    | own p => simp only [hd] at h; exact h
    | _ => cases hus
  obtain ⟨a, vs, ts, rfl, h1, h2, i, t, rfl, e, h'⟩ := onL_ok S r1 h'
  obtain rfl := r2
  obtain ⟨w, ew, rw'⟩ := h2.atI e
  cases (show v = Value.ref a from rx)
  obtain ⟨tk, rfl⟩ : ∃ tk, u = Value.int i tk := ry
  obtain ⟨its, rv, pl, hz⟩ := I.list h1
  obtain ⟨j, g1, g2, g3, g4, g5⟩ := atI_get ew
  obtain ⟨w', ew', rw2⟩ := rv.get g2
  have hlen := rv.length
  have hn := line63
  have fin : EP X pins σ Q w' s := ⟨w, H, I, rw2, k.here S rw' h'⟩
  by_cases h0 : 0 ≤ i
  · have hj : i.toNat = j := by
      rw [seqIndex_of h0 g5] at g1
      exact Option.some.inj g1
    exact wpAny_getItem_list pl.isList h0 (by omega) (by rw [hj]; simpa using ew') fin
  · have hj : (i + (its.toArray.size : Int)).toNat = j := by
      rw [seqIndex_neg (by omega) g4] at g1
      rw [List.size_toArray, ← hlen]
      exact Option.some.inj g1
    exact wpAny_getItem_list_neg pl.isList (by omega) (by rw [List.size_toArray] <;> omega) (by omega) (by rw [hj]; simpa using ew') fin
theorem st_augI (C : SCtx G Γ L c X W) {op : Operator} {o i e : Ex} {y kx v : Expr} {p : Pos} (ho : EOk X L W y (den G Γ o)) (hi : EOk X L W kx (den G Γ i)) (si : Stat kx) (he : EOk X L W v (den G Γ e)) :
    SOk X L W (.AugAssign (.Subscript y kx p) op v pos) (denS G Γ (.augI op o i e)) := fun Φ B μ H σ ρ D D' S sl q k => by
  refine sS_of (ps_augS pe_s pe_s (get_ok (L := L)) pe_s (aug_ok (L := L) op) (set_ok (L := L) C.e.hu) si.aug) ?_
  refine ho.v Φ B μ H σ ρ _ _ _ S sl q (k.xp sl) fun w1 t1 H1 B1 μ1 l1 S1 r1 q1 => ?_
  refine hi.v Φ B1 μ1 H1 σ ρ _ _ _ S1 (sl.mono l1) q1 ((k.xp sl).mono l1) fun w2 t2 H2 B2 μ2 l2 S2 r2 q2 => ?_
  obtain ⟨hd, ⟨us, hus⟩, q2⟩ := q2
  refine ⟨Φ, B2, μ2, t1, t2, _, S2, r1.mono l2, r2, ⟨hd, q2⟩, fun w3 t3 H3 B3 μ3 l3 S3 r3 q3 => ?_, us, hus⟩
  have l13 := (l1.trans l2).trans l3
  refine he.v Φ B3 μ3 H3 σ ρ _ _ _ S3 (sl.mono l13) q3 ((k.xp sl).mono l13) fun w4 t4 H4 B4 μ4 l4 S4 r4 q4 => ?_
  refine ⟨Φ, B4, μ4, t3, t4, _, S4, r3.mono l4, r4, q4, fun w5 t5 H5 B5 μ5 l5 S5 r5 q5 => ?_⟩
  exact ⟨Φ, B5, μ5, t1, t2, t5, _, S5, r1.mono (((l2.trans l3).trans l4).trans l5), r2.mono ((l3.trans l4).trans l5), r5, q5, fun H' μ' S' h' => k.nx ρ μ' σ H' B5 ((l13.trans l4).trans l5) S' (sl.mono ((l13.trans l4).trans l5)) h'⟩
theorem st_ret {e : Ex} {v : Expr} (he : EOk X L W v (den G Γ e)) : SOk X L W (.Return (some v) pos) (denS G Γ (.ret e)) := fun Φ B μ H σ ρ D D' S sl q k =>
  sS_of (ps_ret pe_s) (he.v Φ B μ H σ ρ _ _ _ S sl q (k.xp sl) k.rt)
theorem st_expr {e : Ex} {v : Expr} (hc : isCompV v = false) (he : EOk X L W v (den G Γ e)) : SOk X L W (.Expr v pos) (denS G Γ (.expr e)) := fun Φ B μ H σ ρ D D' S sl q k =>
  sS_of (ps_expr pe_s (sw_none hc)) (he.v Φ B μ H σ ρ _ _ _ S sl q (k.xp sl) fun w t H1 B1 μ1 l1 S1 r1 q1 => k.nx ρ μ1 σ H1 B1 l1 S1 (sl.mono l1) q1)
theorem st_ife {d : Ex} {a b : List Sx} {z : Expr} {x y : List Stmt} (hd : EOk X L W z (den G Γ d)) (ha : SsOk X L W x (denSs G Γ a)) (hb : SsOk X L W y (denSs G Γ b)) : SOk X L W (.If z x y pos) (denS G Γ (.ife d a b)) := fun Φ B μ H σ ρ D D' S sl q k => by
  refine sS_of (ps_if pt_s pss_s pss_s) ?_
  obtain ⟨J, hJ, q⟩ := q
  have k2 : EndOk X L W Φ B { D with nx := J } D' := ⟨fun ρ' μ' σ' H' B' l S' sl' h => by
    obtain ⟨ρ3, μ3, wk, h3⟩ := hJ ρ' μ' h
    obtain ⟨B2, l2, S2, sl2⟩ := wk.ok S' sl'
    exact k.nx ρ3 μ3 σ' H' B2 (l.trans l2) S2 sl2 h3, k.rt, k.bk, k.ct, k.ex⟩
  refine hd.t Φ B μ H σ ρ _ _ _ S sl q (k.xp sl) fun b1 H1 B1 μ1 l1 S1 q1 => ?_
  cases b1 with
  | true =>
    rw [if_pos rfl] at q1 ⊢
    exact ha Φ B1 μ1 H1 σ ρ _ D' S1 (sl.mono l1) q1 (k2.mono l1)
  | false =>
    rw [if_neg Bool.false_ne_true] at q1 ⊢
    exact hb Φ B1 μ1 H1 σ ρ _ D' S1 (sl.mono l1) q1 (k2.mono l1)
theorem st_for (C : SCtx G Γ L c X W) (hh : c.hot = false) {g : Tg} {kk : ItK} {its : List Ex} {body : List Sx} {tg iter : Expr} {b : List Stmt} (hg : chkG c g tg = true) (it : ItOk X L W kk tg iter (dens G Γ its)) (hb : SsOk X L W b (denSs G Γ body)) :
    SOk X L W (.For tg iter b [] pos) (denS G Γ (.for_ g kk its body)) := fun Φ B μ H σ ρ D D' S sl q k => by
  obtain ⟨hn, wi, hwi, hit⟩ := it
  refine sS_of (ps_for (C.pa hh) (C.e.calm hh) hwi (pg_s (e := tg)) (pss_s (st := b)) (folded hn)) ?_
  refine hit Φ B μ H σ ρ (D.xp ρ) (fun us gd μ1 => forD g (denSs G Γ body) us gd D ρ μ1) _ S sl q (k.xp sl) fun J H1 B1 μ1 us gd l1 S1 sim q1 => ?_
  obtain ⟨I, i0, iend, istep⟩ := q1
  refine ⟨fun i m σ2 H2 => ∃ B2 μ2 ρ2 r, Le B1 B2 ∧ St X.K L Φ H2 B2 μ2 ∧ Slots X.K B2 σ2 ρ2 ∧ us.drop i = r ∧ i ≤ us.length ∧ m = r.length ∧ I r ρ2 μ2, ⟨us.length, B1, μ1, ρ, us, Same.refl _, S1, sl.mono l1, rfl, Nat.zero_le _, rfl, i0⟩, ?_⟩
  rintro i m σ2 H2 ⟨B2, μ2, ρ2, r, l2, S2, sl2, er, hi, em, hI⟩
  cases r with
  | nil =>
    obtain ⟨g2, fin⟩ := iend ρ2 μ2 hI
    have hlen : us.length ≤ i := by
      have := congrArg List.length er
      rw [List.length_drop] at this
      simp at this
      omega
    exact .inl ⟨sim.stop _ i H2 B2 μ2 l2 S2 g2 hlen, k.nx ρ2 μ2 σ2 H2 B2 (l1.trans l2) S2 sl2 fin⟩
  | cons t r =>
    obtain ⟨g2, hbd⟩ := istep t r ρ2 μ2 hI
    have hlt : i < us.length := by
      have := congrArg List.length er
      rw [List.length_drop] at this
      simp at this
      omega
    have et : us[i]? = some t := by
      have := congrArg (fun l => l[0]?) er
      simpa [List.getElem?_drop] using this
    have er' : us.drop (i + 1) = r := by
      have := congrArg List.tail er
      simpa [List.tail_drop] using this
    obtain ⟨hgo, hy⟩ := sim.go _ i H2 B2 μ2 l2 S2 g2 hlt
    refine .inr ⟨hgo, fun σ3 H3 => ∃ B3 μ3 ρ3, Le B1 B3 ∧ St X.K L Φ H3 B3 μ3 ∧ Slots X.K B3 σ3 ρ3 ∧ I r ρ3 μ3, fun σ3 H3 ⟨B3, μ3, ρ3, l3, S3, sl3, h3⟩ => ⟨r.length, by rw [em]; simp, B3, μ3, ρ3, r, l3, S3, sl3, er', hlt, rfl, h3⟩, fun x H3 y => ?_⟩
    obtain ⟨B3, t', l3, S3, et', rt⟩ := hy x H3 y
    rw [et] at et'
    cases et'
    refine tg_ok C.e g tg hg Φ B3 μ2 H3 σ2 ρ2 x t _ _ S3 (sl2.mono l3) rt hbd fun σ4 ρ4 sl4 _ q4 => ?_
    have l03 := (l1.trans l2).trans l3
    have again : PostN X.K L Φ B3 (fun ρ5 μ5 => ∃ ρ6 μ6, Wk ρ5 μ5 ρ6 μ6 ∧ I r ρ6 μ6) (fun σ3 H3 => ∃ B3 μ3 ρ3, Le B1 B3 ∧ St X.K L Φ H3 B3 μ3 ∧ Slots X.K B3 σ3 ρ3 ∧ I r ρ3 μ3) := fun ρ5 μ5 σ5 H5 B5 l5 S5 sl5 ⟨ρ6, μ6, wk, h6⟩ => by
      obtain ⟨B6, l6, S6, sl6⟩ := wk.ok S5 sl5
      exact ⟨B6, μ6, ρ6, ((l2.trans l3).trans l5).trans l6, S6, sl6, h6⟩
    exact hb Φ B3 μ2 H3 σ4 ρ4 _ _ S3 sl4 q4 ⟨again, k.rt.mono l03, k.nx.mono l03, again, fun c' => (k.ex c').mono l03⟩
theorem st_while (C : SCtx G Γ L c X W) (hh : c.hot = false) {d : Ex} {body : List Sx} {z : Expr} {b : List Stmt} (hd : EOk X L W z (den G Γ d)) (hb : SsOk X L W b (denSs G Γ body)) : SOk X L W (.While z b [] pos) (denS G Γ (.while_ d body)) := fun Φ B μ H σ ρ D D' S sl q k => by
  refine sS_of (ps_while (C.pa hh) (pt_s (e := z)) (pss_s (st := b))) ?_
  obtain ⟨I, ⟨m0, i0⟩, step⟩ := q
  refine ⟨fun m σ2 H2 => ∃ B2 μ2 ρ2, Le B B2 ∧ St X.K L Φ H2 B2 μ2 ∧ Slots X.K B2 σ2 ρ2 ∧ I m ρ2 μ2, ⟨m0, B, μ, ρ, Same.refl _, S, sl, i0⟩, ?_⟩
  rintro m σ2 H2 ⟨B2, μ2, ρ2, l2, S2, sl2, hI⟩
  refine hd.t Φ B2 μ2 H2 σ2 ρ2 _ _ _ S2 sl2 (step m ρ2 μ2 hI) ((k.mono l2).xp sl2) fun b1 H3 B3 μ3 l3 S3 q3 => ?_
  cases b1 with
  | false =>
    rw [if_neg Bool.false_ne_true] at q3 ⊢
    exact k.nx ρ2 μ3 σ2 H3 B3 (l2.trans l3) S3 (sl2.mono l3) q3
  | true =>
    rw [if_pos rfl] at q3 ⊢
    have l03 := l2.trans l3
    have again : PostN X.K L Φ B3 (fun ρ5 μ5 => ∃ ρ6 μ6 m', Wk ρ5 μ5 ρ6 μ6 ∧ m' < m ∧ I m' ρ6 μ6) (fun σ3 H3 => ∃ m', m' < m ∧ ∃ B3 μ3 ρ3, Le B B3 ∧ St X.K L Φ H3 B3 μ3 ∧ Slots X.K B3 σ3 ρ3 ∧ I m' ρ3 μ3) := fun ρ5 μ5 σ5 H5 B5 l5 S5 sl5 ⟨ρ6, μ6, m', wk, hm, h6⟩ => by
      obtain ⟨B6, l6, S6, sl6⟩ := wk.ok S5 sl5
      exact ⟨m', hm, B6, μ6, ρ6, (l03.trans l5).trans l6, S6, sl6, h6⟩
    exact ⟨_, fun σ' H' h => h, hb Φ B3 μ3 H3 σ2 ρ2 _ _ S3 (sl2.mono l3) q3 ⟨again, k.rt.mono l03, k.nx.mono l03, again, fun c' => (k.ex c').mono l03⟩⟩
theorem st_raise (C : SCtx G Γ L c X W) (hh : c.hot = false) {x : Nat} {n : Str} {p p2 cp : Pos} {m : Str} {j : Nat} (hx : G.ex x = some n) (hg : glb c.sc n = true) (hp : plainN n = true) : SOk X L W (.Raise (some (.Call (.Name n p) [.Constant (.str m) j p2] [] cp)) none pos) (denS G Γ (.raise x)) := fun Φ B μ H σ ρ D D' S sl q k => by
  have E := C.e.g.ex x n hx
  refine sS_of (ps_raise (C.e.calm hh) C.e.tk (pmk_own PySem.F.excBase_ValueError E.ex E.mg_ E.kp (raises_own E.sb E.ty) (C.e.gl n hg) (plainN_ok hp).1)) ?_
  exact k.ex x ρ μ σ H B (Same.refl _) S sl q
theorem st_try1 (C : SCtx G Γ L c X W) (hh : c.hot = false) {body suite : List Sx} {h : Nat} {x : Str} {np pos' : Pos} {b ss : List Stmt} {s0 : Stmt} (hx : G.ex h = some x) (hg : glb c.sc x = true) (hp : plainN x = true)
    (hb : ∀ X W, SCtx G Γ L c X W → SsOk X L W b (denSs G Γ body)) (hs : ∀ X W, SCtx G Γ L { c with hot := true, as := false } X W → SsOk X L W (s0 :: ss) (denSs G Γ suite)) :
    SOk X L W (.Try b [.ExceptHandler (some (.Name x np)) none (s0 :: ss) pos'] [] [] pos) (denS G Γ (.try1 body h suite)) := fun Φ B μ H σ ρ D D' S sl q k => by
  have E := C.e.g.ex h x hx
  have nm : Names X x (.ref (L.exc h)) := ⟨C.e.gl x hg, (plainN_ok hp).1, .inl E.mg_⟩
  refine sS_of (ps_try_only (tb := fun W' D σ H => ∀ pn xe, Takes (X.tr pn xe) W' → PassesOwn (model X.prog X.w) X.A X.env xe → sSs (X.tr pn xe) b D σ H)
    (ts := fun a cls d D σ H => ∀ oe pn, Zc cls d oe → (∃ vs, oe.data = .fields vs) → sSs (X.suite a ((a, oe) :: pn)) (s0 :: ss) D σ H) C.stk C.fr nm C.e.tk
    (fun W' pn xe tk pa => ⟨fun pins s σ H D I hh => hh pn xe tk pa pins s I⟩) (fun a oe cls d pn hz hf => ⟨fun pins s σ H D I hh => hh oe pn hz hf pins s I⟩)) ?_
  intro pn xe tk pa
  refine hb (X.tr pn xe) _ ⟨⟨C.e.N, C.e.nd, C.e.vi, C.e.st, C.e.gl, C.e.fc, C.e.room, C.e.hu, C.e.calm, tk, fun z => absurd (C.e.cu z).1 (by rw [hh]; exact Bool.false_ne_true), C.e.g⟩, fun _ => pa, C.stk, C.fr, C.se, C.kd⟩ Φ B μ H σ ρ _ D' S sl q ⟨k.nx, k.rt, k.bk, k.ct, fun a ρ' μ' σ' H' B' l S' sl' hq => ?_⟩
  obtain ⟨⟨n, m, e1, e2⟩, hq⟩ := hq
  refine ⟨subX G a h, C.e.g.su a h n m e1 e2, fun hc a' na oe pn2 hz hf => ?_, fun hc => ?_⟩
  · rw [if_pos hc] at hq
    exact hs (X.suite a' ((a', oe) :: pn2)) (fun _ _ _ _ => False) ⟨⟨C.e.N, C.e.nd, C.e.vi, C.e.st, C.e.gl, C.e.fc, fun z => Bool.noConfusion z, C.e.hu, fun z => Bool.noConfusion z, fun _ _ z => by
        obtain ⟨_, _, _, _, _, _, _, _, z⟩ := z
        exact z.2.2.2.2.2.2.2.2, fun z => Bool.noConfusion z, C.e.g⟩, fun z => Bool.noConfusion z, C.stk, C.fr, C.se, C.kd⟩ Φ B' μ' H' σ' ρ' _ D' S' sl' hq ⟨k.nx.mono l, k.rt.mono l, k.bk.mono l, k.ct.mono l, fun _ _ _ _ _ _ _ _ _ z => z.elim⟩
  · rw [if_neg (by rw [hc]; exact Bool.false_ne_true)] at hq
    exact k.ex a ρ' μ' σ' H' B' l S' sl' hq
theorem GOk.cur {m : Nat} {P : Program} {w : World} {K : PySem.W.Frag} {mg : Str → Option Value} {base : Heap} (g : GOk G Γ L m P w K mg base) (hm : m ≤ 999999) (p : Addr) (a : Nat) : GOk G (curG G Γ p a) L m P w K mg base :=
  ⟨fun f j hf e => by
    obtain ⟨a', fd, ps, FF⟩ := g.fn f j hf e
    have : curG G Γ p a f = Γ f := if_neg (by omega)
    exact ⟨a', fd, ps, by rw [this]; exact FF⟩, g.cl, g.ex, g.bl, g.con, g.fl, g.ki, g.kc, g.su⟩
theorem st_tryA (C : SCtx G Γ L c X W) (hh : c.hot = false) {body suite : List Sx} {h i : Nat} {x n : Str} {np pos' : Pos} {b ss : List Stmt} {s0 : Stmt} (hx : G.ex h = some x) (hg : glb c.sc x = true) (hp : plainN x = true)
    (hN : c.N[i]? = some n) (hl : isLoc c.sc n = true) (hm : c.m ≤ 999999)
    (hb : ∀ X W, SCtx G Γ L c X W → SsOk X L W b (denSs G Γ body)) (hs : ∀ Γ X W, SCtx G Γ L { c with hot := true, as := true } X W → SsOk X L W (s0 :: ss) (denSs G Γ suite)) :
    SOk X L W (.Try b [.ExceptHandler (some (.Name x np)) (some n) (s0 :: ss) pos'] [] [] pos) (denS G Γ (.tryA body h i suite)) := fun Φ B μ H σ ρ D D' S sl q k => by
  have E := C.e.g.ex h x hx
  have nm : Names X x (.ref (L.exc h)) := ⟨C.e.gl x hg, (plainN_ok hp).1, .inl E.mg_⟩
  have lx : X.env.kindOf n = some .local := by
    show X.env.scope.names.lookup n = some .local
    rw [C.se]
    unfold isLoc at hl
    exact of_decide_eq_true hl
  refine sS_of (ps_try_as (i := i) (n := n) (tb := fun W' D σ H => ∀ pn xe, Takes (X.tr pn xe) W' → PassesOwn (model X.prog X.w) X.A X.env xe → sSs (X.tr pn xe) b D σ H)
    (ts := fun a cls d D σ H => ∀ oe pn, Zc cls d oe → (∃ vs, oe.data = .fields vs) → sSs (X.suite a ((a, oe) :: pn)) (s0 :: ss) D σ H) C.stk C.fr (by rw [C.e.N]; exact C.e.nd) (by rw [C.e.N]; exact hN) lx nm C.e.tk
    (fun W' pn xe tk pa => ⟨fun pins s σ H D I hh => hh pn xe tk pa pins s I⟩) (fun a oe cls d pn hz hf => ⟨fun pins s σ H D I hh => hh oe pn hz hf pins s I⟩)) ?_
  intro pn xe tk pa
  refine hb (X.tr pn xe) _ ⟨⟨C.e.N, C.e.nd, C.e.vi, C.e.st, C.e.gl, C.e.fc, C.e.room, C.e.hu, C.e.calm, tk, fun z => absurd (C.e.cu z).1 (by rw [hh]; exact Bool.false_ne_true), C.e.g⟩, fun _ => pa, C.stk, C.fr, C.se, C.kd⟩ Φ B μ H σ ρ _ D' S sl q ⟨k.nx, k.rt, k.bk, k.ct, fun a ρ' μ' σ' H' B' l S' sl' hq => ?_⟩
  obtain ⟨⟨n1, m1, e1, e2⟩, hq⟩ := hq
  refine ⟨subX G a h, C.e.g.su a h n1 m1 e1 e2, fun hc a' na oe pn2 hz hf => ?_, fun hc => ?_⟩
  · rw [if_pos hc] at hq
    refine hs (curG G Γ a' a) (X.suite a' ((a', oe) :: pn2)) (fun _ _ _ _ => False) ⟨⟨C.e.N, C.e.nd, C.e.vi, C.e.st, C.e.gl, C.e.fc, fun z => Bool.noConfusion z, C.e.hu, fun z => Bool.noConfusion z, fun _ _ z => by
        obtain ⟨_, _, _, _, _, _, _, _, z⟩ := z
        exact z.2.2.2.2.2.2.2.2, fun _ => ⟨rfl, X, a', oe, pn2, a, n1, rfl, e1, hz, hf, if_pos rfl⟩, C.e.g.cur hm a' a⟩, fun z => Bool.noConfusion z, C.stk, C.fr, C.se, C.kd⟩ Φ B' μ' H' _ _ _ _ S' (sl'.set i (show Tr X.K B' (.ref a') (.own a') from rfl)) (hq a' (S'.fresh na)) ⟨?_, k.rt.mono l, ?_, ?_, fun _ _ _ _ _ _ _ _ _ z => z.elim⟩
    · exact fun ρ2 μ2 σ2 H2 B2 l2 S2 sl2 q2 => k.nx _ μ2 _ H2 B2 (l.trans l2) S2 (sl2.wipe1 i) q2
    · exact fun ρ2 μ2 σ2 H2 B2 l2 S2 sl2 q2 => k.bk _ μ2 _ H2 B2 (l.trans l2) S2 (sl2.wipe1 i) q2
    · exact fun ρ2 μ2 σ2 H2 B2 l2 S2 sl2 q2 => k.ct _ μ2 _ H2 B2 (l.trans l2) S2 (sl2.wipe1 i) q2
  · rw [if_neg (by rw [hc]; exact Bool.false_ne_true)] at hq
    exact k.ex a ρ' μ' σ' H' B' l S' sl' hq
theorem ss_nil : SsOk X L W [] (denSs G Γ []) := fun Φ B μ H σ ρ D D' S sl q k => sSs_of pss_nil (k.nx ρ μ σ H B (Same.refl _) S sl q)
theorem ss_cons {s : Sx} {ss : List Sx} {st : Stmt} {sts : List Stmt} (h : SOk X L W st (denS G Γ s)) (hs : SsOk X L W sts (denSs G Γ ss)) : SsOk X L W (st :: sts) (denSs G Γ (s :: ss)) := fun Φ B μ H σ ρ D D' S sl q k => by
  refine sSs_of (pss_cons ps_s pss_s) ?_
  exact h Φ B μ H σ ρ { D with nx := fun ρ' μ' => denSs G Γ ss D ρ' μ' } { D' with nx := sSs X sts D' } S sl q ⟨fun ρ' μ' σ' H' B' l S' sl' q' => hs Φ B' μ' H' σ' ρ' D D' S' sl' q' (k.mono l), k.rt, k.bk, k.ct, k.ex⟩
theorem ss_wk {ss : List Sx} {sts : List Stmt} (hs : SsOk X L W sts (denSs G Γ ss)) : SsOk X L W sts (denSs G Γ (.wk :: ss)) := fun Φ B μ H σ ρ D D' S sl q k => by
  obtain ⟨ρ', μ', wk, q⟩ := q
  obtain ⟨B', l, S', sl'⟩ := wk.ok S sl
  exact hs Φ B' μ' H σ ρ' D D' S' sl' q (k.mono l)
end
end Rh

namespace Rh
open PySem PySem.Spec PyProof.Rows L2
section
variable {L : Lay} {G : Tab} {Γ : Nat → TSp}
/-! ## 22. All statements -/
def M4 (L : Lay) (G : Tab) (c : SC) (s : Sx) (st : Stmt) : Prop := chkS G c s st = true → ∀ (Γ : Nat → TSp) (X : Cx) (W : WX), SCtx G Γ L c X W → SOk X L W st (denS G Γ s)
def M5 (L : Lay) (G : Tab) (c : SC) (s : List Sx) (st : List Stmt) : Prop := chkSs G c s st = true → ∀ (Γ : Nat → TSp) (X : Cx) (W : WX), SCtx G Γ L c X W → SsOk X L W st (denSs G Γ s)
abbrev A4 (L : Lay) (G : Tab) (s : Sx) : Prop := ∀ c st, M4 L G c s st
abbrev A5 (L : Lay) (G : Tab) (s : List Sx) : Prop := ∀ c st, M5 L G c s st
theorem gEx_ok {h : Nat} {x : Str} (e : gEx G h x = true) : G.ex h = some x := by
  unfold gEx at e
  cases q : G.ex h with
  | none => rw [q] at e; cases e
  | some m =>
    rw [q] at e
    exact congrArg some (of_decide_eq_true e)
/-- what is made item by item is one word alone -/
theorem isC_no {c : SC} {e : Ex} {v : Expr} (h : chkE G c e v = true) (hv : isCompV v = true) (hn : (match e with | .comp .. => false | _ => true) = true := by rfl) : False := by
  cases v <;> first | (cases hv; done) | skip
  all_goals (cases e <;> first | (cases hn; done) | (unfold chkE at h; first | (cases h; done) | (split at h <;> first | (cases h; done) | contradiction)))
theorem y_asg (hcl : Hcl G) (hfl : Hfl G) {g : Tg} {e : Ex} : A4 L G (.asg g e) := by
  intro c st h Γ X W C
  unfold chkS at h
  split at h
  · rename_i tg v pos
    rw [Bool.and_eq_true, Bool.and_eq_true] at h
    obtain ⟨⟨h1, h2⟩, h3⟩ := h
    have he := (snd_E (L := L) (Γ := Γ) hcl hfl e c v h2 X W C.e).1
    cases g with
    | tup gs =>
      cases tg <;> first | cases h1 | skip
      have hv : isTupV v = false := by simpa [isTupE] using h3
      exact st_asgT C h1 hv he
    | nm i =>
      cases tg <;> first | cases h1 | skip
      rename_i x px
      simp only [chkG, Bool.and_eq_true, decide_eq_true_eq] at h1
      cases hcv : isCompV v with
      | false => exact st_asgN C h1.1 h1.2 he (sw_none hcv)
      | true =>
        cases e with
        | comp own vs g kk its cond elt =>
          unfold chkE at h2
          split at h2
          · simp only [Bool.and_eq_true, decide_eq_true_eq, Bool.not_eq_true'] at h2
            obtain ⟨⟨⟨⟨⟨⟨⟨g1, g2⟩, g3⟩, g4⟩, g5⟩, g6⟩, g7⟩, g8⟩ := h2
            exact st_comp C g8 h1.1 h1.2 g5 g6 (it_chk (snd_A3 hcl hfl its) g1 X W C.e) (comp_parts C.e g8 g2 g7 (if_chk (snd_E hcl hfl cond) g3) fun X W C => (snd_E hcl hfl elt _ _ g4 X W C).1)
          · cases h2
        | _ => exact (isC_no h2 hcv).elim
  · cases h
section
variable (hcl : Hcl G) (hfl : Hfl G)
include hcl hfl
theorem y_par {i j : Nat} {a b : Ex} : A4 L G (.par i j a b) := by
  intro c st h Γ X W C
  have s1 := fun c e v => snd_E (L := L) (Γ := Γ) hcl hfl e c v
  have s2 := (snd_all (L := L) (Γ := Γ) hcl hfl).2.1
  unfold chkS at h
  split at h
  · simp only [Bool.and_eq_true, decide_eq_true_eq, Bool.not_eq_true'] at h
    obtain ⟨⟨⟨⟨⟨h1, h2⟩, h3⟩, h4⟩, h5⟩, hh⟩ := h
    have ha := s1 c a _ h4 X W C.e
    have hb := s1 c b _ h5 X W C.e
    exact st_par C hh h1 h2 h3 ha.1 ha.2 hb.1 hb.2
  · cases h
theorem y_asgF {d i : Nat} {o e : Ex} : A4 L G (.asgF d i o e) := by
  intro c st h Γ X W C
  have s1 := fun c e v => snd_E (L := L) (Γ := Γ) hcl hfl e c v
  have s2 := (snd_all (L := L) (Γ := Γ) hcl hfl).2.1
  unfold chkS at h
  split at h
  · simp only [Bool.and_eq_true, decide_eq_true_eq, Bool.not_eq_true'] at h
    obtain ⟨⟨⟨h1, h2⟩, h3⟩, h4⟩ := h
    exact st_asgF C h3 h4 (hfl d _ (List.mem_of_getElem? h4)) (s1 c o _ h1 X W C.e).1 (s1 c e _ h2 X W C.e).1
  · cases h
theorem y_asgI {o i e : Ex} : A4 L G (.asgI o i e) := by
  intro c st h Γ X W C
  have s1 := fun c e v => snd_E (L := L) (Γ := Γ) hcl hfl e c v
  have s2 := (snd_all (L := L) (Γ := Γ) hcl hfl).2.1
  unfold chkS at h
  split at h
  · simp only [Bool.and_eq_true, decide_eq_true_eq, Bool.not_eq_true'] at h
    exact st_asgI C (s1 c o _ h.1.1 X W C.e).1 (s1 c i _ h.1.2 X W C.e).1 (s1 c i _ h.1.2 X W C.e).2 (s1 c e _ h.2 X W C.e).1
  · cases h
theorem y_aug {i : Nat} {op : Operator} {e : Ex} : A4 L G (.aug i op e) := by
  intro c st h Γ X W C
  have s1 := fun c e v => snd_E (L := L) (Γ := Γ) hcl hfl e c v
  have s2 := (snd_all (L := L) (Γ := Γ) hcl hfl).2.1
  unfold chkS at h
  split at h
  · simp only [Bool.and_eq_true, decide_eq_true_eq, Bool.not_eq_true'] at h
    obtain ⟨⟨⟨h1, h2⟩, rfl⟩, h4⟩ := h
    exact st_aug C h1 h2 (s1 c e _ h4 X W C.e).1
  · cases h
theorem y_augI {op : Operator} {o i e : Ex} : A4 L G (.augI op o i e) := by
  intro c st h Γ X W C
  have s1 := fun c e v => snd_E (L := L) (Γ := Γ) hcl hfl e c v
  have s2 := (snd_all (L := L) (Γ := Γ) hcl hfl).2.1
  unfold chkS at h
  split at h
  · simp only [Bool.and_eq_true, decide_eq_true_eq, Bool.not_eq_true'] at h
    obtain ⟨⟨⟨rfl, h1⟩, h2⟩, h3⟩ := h
    exact st_augI C (s1 c o _ h1 X W C.e).1 (s1 c i _ h2 X W C.e).1 (s1 c i _ h2 X W C.e).2 (s1 c e _ h3 X W C.e).1
  · cases h
theorem y_ret {e : Ex} : A4 L G (.ret e) := by
  intro c st h Γ X W C
  have s1 := fun c e v => snd_E (L := L) (Γ := Γ) hcl hfl e c v
  have s2 := (snd_all (L := L) (Γ := Γ) hcl hfl).2.1
  unfold chkS at h
  split at h
  · exact st_ret (s1 c e _ h X W C.e).1
  · cases h
theorem y_retN  : A4 L G (.retN) := by
  intro c st h Γ X W C
  have s1 := fun c e v => snd_E (L := L) (Γ := Γ) hcl hfl e c v
  have s2 := (snd_all (L := L) (Γ := Γ) hcl hfl).2.1
  unfold chkS at h
  split at h
  · exact fun Φ B μ H σ ρ D D' S sl q k => sS_of ps_retN (k.rt.here S (show Tr X.K B .non .non from rfl) q)
  · cases h
theorem y_expr {e : Ex} : A4 L G (.expr e) := by
  intro c st h Γ X W C
  have s1 := fun c e v => snd_E (L := L) (Γ := Γ) hcl hfl e c v
  have s2 := (snd_all (L := L) (Γ := Γ) hcl hfl).2.1
  unfold chkS at h
  split at h
  · simp only [Bool.and_eq_true, decide_eq_true_eq, Bool.not_eq_true'] at h
    exact st_expr h.2 (s1 c e _ h.1 X W C.e).1
  · cases h
theorem y_ife {d : Ex} {a b : List Sx} (i1 : A5 L G a) (i2 : A5 L G b) : A4 L G (.ife d a b) := by
  intro c st h Γ X W C
  have s1 := fun c e v => snd_E (L := L) (Γ := Γ) hcl hfl e c v
  have s2 := (snd_all (L := L) (Γ := Γ) hcl hfl).2.1
  unfold chkS at h
  split at h
  · simp only [Bool.and_eq_true, decide_eq_true_eq, Bool.not_eq_true'] at h
    exact st_ife (s1 c d _ h.1.1 X W C.e).1 (i1 _ _ h.1.2 Γ X W C) (i2 _ _ h.2 Γ X W C)
  · cases h
theorem y_for {g : Tg} {k : ItK} {its : List Ex} {a : List Sx} (i1 : A5 L G a) : A4 L G (.for_ g k its a) := by
  intro c st h Γ X W C
  have s1 := fun c e v => snd_E (L := L) (Γ := Γ) hcl hfl e c v
  have s2 := (snd_all (L := L) (Γ := Γ) hcl hfl).2.1
  unfold chkS at h
  split at h
  · simp only [Bool.and_eq_true, decide_eq_true_eq, Bool.not_eq_true'] at h
    exact st_for C h.2 h.1.1.2 (s2 c k its _ _ h.1.1.1 X W C.e) (i1 _ _ h.1.2 Γ X W C)
  · cases h
theorem y_while {d : Ex} {a : List Sx} (i1 : A5 L G a) : A4 L G (.while_ d a) := by
  intro c st h Γ X W C
  have s1 := fun c e v => snd_E (L := L) (Γ := Γ) hcl hfl e c v
  have s2 := (snd_all (L := L) (Γ := Γ) hcl hfl).2.1
  unfold chkS at h
  split at h
  · simp only [Bool.and_eq_true, decide_eq_true_eq, Bool.not_eq_true'] at h
    exact st_while C h.2 (s1 c d _ h.1.1 X W C.e).1 (i1 _ _ h.1.2 Γ X W C)
  · cases h
theorem y_try1 {m : Nat} {a b : List Sx} (i1 : A5 L G a) (i2 : A5 L G b) : A4 L G (.try1 a m b) := by
  intro c st h Γ X W C
  have s1 := fun c e v => snd_E (L := L) (Γ := Γ) hcl hfl e c v
  have s2 := (snd_all (L := L) (Γ := Γ) hcl hfl).2.1
  unfold chkS at h
  split at h
  · simp only [Bool.and_eq_true, decide_eq_true_eq, Bool.not_eq_true'] at h
    obtain ⟨⟨⟨⟨⟨h1, h2⟩, h3⟩, h4⟩, h5⟩, hh⟩ := h
    exact st_try1 C hh (gEx_ok h1) h2 h3 (fun X W C => i1 _ _ h4 Γ X W C) (fun X W C => i2 _ _ h5 Γ X W C)
  · cases h
theorem y_tryA {m i : Nat} {a b : List Sx} (i1 : A5 L G a) (i2 : A5 L G b) : A4 L G (.tryA a m i b) := by
  intro c st h Γ X W C
  have s1 := fun c e v => snd_E (L := L) (Γ := Γ) hcl hfl e c v
  have s2 := (snd_all (L := L) (Γ := Γ) hcl hfl).2.1
  unfold chkS at h
  split at h
  · simp only [Bool.and_eq_true, decide_eq_true_eq, Bool.not_eq_true'] at h
    obtain ⟨⟨⟨⟨⟨⟨⟨⟨h1, h2⟩, h3⟩, h4⟩, h5⟩, h6⟩, h7⟩, h8⟩, hh⟩ := h
    exact st_tryA C hh (gEx_ok h1) h2 h3 h6 h7 h8 (fun X W C => i1 _ _ h4 Γ X W C) (fun Γ X W C => i2 _ _ h5 Γ X W C)
  · cases h
theorem y_raise {x : Nat} : A4 L G (.raise x) := by
  intro c st h Γ X W C
  have s1 := fun c e v => snd_E (L := L) (Γ := Γ) hcl hfl e c v
  have s2 := (snd_all (L := L) (Γ := Γ) hcl hfl).2.1
  unfold chkS at h
  split at h
  · simp only [Bool.and_eq_true, decide_eq_true_eq, Bool.not_eq_true'] at h
    obtain ⟨⟨⟨h1, h2⟩, h3⟩, hh⟩ := h
    exact st_raise C hh (gEx_ok h1) h2 h3
  · cases h
theorem y_pass  : A4 L G (.pass) := by
  intro c st h Γ X W C
  have s1 := fun c e v => snd_E (L := L) (Γ := Γ) hcl hfl e c v
  have s2 := (snd_all (L := L) (Γ := Γ) hcl hfl).2.1
  unfold chkS at h
  split at h
  · exact fun Φ B μ H σ ρ D D' S sl q k => sS_of ps_pass (k.nx ρ μ σ H B (Same.refl _) S sl q)
  · cases h
theorem y_brk  : A4 L G (.brk) := by
  intro c st h Γ X W C
  have s1 := fun c e v => snd_E (L := L) (Γ := Γ) hcl hfl e c v
  have s2 := (snd_all (L := L) (Γ := Γ) hcl hfl).2.1
  unfold chkS at h
  split at h
  · exact fun Φ B μ H σ ρ D D' S sl q k => sS_of ps_break (k.bk ρ μ σ H B (Same.refl _) S sl q)
  · cases h
theorem y_cont  : A4 L G (.cont) := by
  intro c st h Γ X W C
  have s1 := fun c e v => snd_E (L := L) (Γ := Γ) hcl hfl e c v
  have s2 := (snd_all (L := L) (Γ := Γ) hcl hfl).2.1
  unfold chkS at h
  split at h
  · exact fun Φ B μ H σ ρ D D' S sl q k => sS_of ps_continue (k.ct ρ μ σ H B (Same.refl _) S sl q)
  · cases h
omit hcl hfl in
theorem y_wk : A4 L G .wk := by
  intro c st h
  unfold chkS at h
  cases h
omit hcl hfl in
theorem y_nil : A5 L G [] := by
  intro c st h Γ X W C
  unfold chkSs at h
  cases st with
  | nil => exact ss_nil
  | cons y ys => cases h
omit hcl hfl in
theorem y_cons {s : Sx} {ss : List Sx} (i1 : A4 L G s) (i2 : A5 L G ss) : A5 L G (s :: ss) := by
  intro c l h Γ X W C
  unfold chkSs at h
  split at h
  · exact ss_wk (i2 _ _ h Γ X W C)
  · split at h
    · cases h
    · rw [Bool.and_eq_true] at h
      exact ss_cons (i1 _ _ h.1 Γ X W C) (i2 _ _ h.2 Γ X W C)
theorem snd_S (s : Sx) : A4 L G s :=
  Sx.rec (motive_1 := A4 L G) (motive_2 := A5 L G) (fun _ _ => y_asg hcl hfl) (fun _ _ _ _ => y_par hcl hfl) (fun _ _ _ _ => y_asgF hcl hfl) (fun _ _ _ => y_asgI hcl hfl) (fun _ _ _ => y_aug hcl hfl) (fun _ _ _ _ => y_augI hcl hfl) (fun _ => y_ret hcl hfl) (y_retN hcl hfl) (fun _ => y_expr hcl hfl) (fun _ _ _ => y_ife hcl hfl)
    (fun _ _ _ _ => y_for hcl hfl) (fun _ _ => y_while hcl hfl) (fun _ _ _ => y_try1 hcl hfl) (fun _ _ _ _ => y_tryA hcl hfl) (fun _ => y_raise hcl hfl) (y_pass hcl hfl) (y_brk hcl hfl) (y_cont hcl hfl) y_wk y_nil (fun _ _ => y_cons) s
theorem snd_Ss : ∀ s : List Sx, A5 L G s
  | [] => y_nil
  | s :: ss => y_cons (snd_S hcl hfl s) (snd_Ss ss)
theorem snd_st : (∀ c s st, M4 L G c s st) ∧ (∀ c s st, M5 L G c s st) := ⟨fun c s st => snd_S hcl hfl s c st, fun c s st => snd_Ss hcl hfl s c st⟩
end

/-! ## 23. A def keeps its promise -/
def startT (n : Nat) (ts : List T) : Ro := ts.map some ++ List.replicate (n - ts.length) none
def fin_ (R : RP) : RP := fun t μ => ∃ t' μ', WkV t μ t' μ' ∧ R t' μ'
def bodyD (R : RP) (F : XP) : SEnds := { nx := fun _ μ => fin_ R .non μ, rt := fin_ R, bk := fun _ _ => False, ct := fun _ _ => False, ex := fun c _ μ => F c μ }
theorem start_ok {K : PySem.W.Frag} {B : Hp} {N : List Str} {vs : List V} {ts : List T} (r : Trs K B vs ts) : Slots K B (L2.start N vs) (startT N.length ts) := by
  have hl := r.length
  refine ⟨by simp [L2.start, startT, hl], fun i t e => ?_⟩
  unfold startT at e
  unfold L2.start
  by_cases hi : i < ts.length
  · rw [List.getElem?_append_left (by simpa using hi), List.getElem?_map] at e
    rw [List.getElem?_append_left (by rw [List.length_map]; omega), List.getElem?_map]
    cases q : ts[i]? with
    | none => rw [q] at e; cases e
    | some u =>
      rw [q] at e
      cases e
      obtain ⟨v, h1, h2⟩ := r.get q
      exact ⟨v, by rw [h1]; rfl, h2⟩
  · rw [List.getElem?_append_right (by simpa using hi), List.getElem?_replicate] at e
    split at e <;> cases e
theorem fn_okD {P : Program} {w : World} {K : PySem.W.Frag} {mg : Str → Option Value} {base : Heap} {x qual : Str} {st : Stmt} {f : Addr} {N ps : List Str} {k m np : Nat} {S' : TSp} {core : List Sx} {oc dV kV doc pm cdv ct : Value} {od an : Option Addr} {osl : Array (Option Value)}
    (hcl : ∀ f i d, G.fn f = some i → i.cls = some d → ∃ ci, G.cl d = some ci) (hfl : ∀ d f, f ∈ G.flds d → ∃ ci, G.cl d = some ci)
    (lk : K.lookup f = some ⟨oc, od, .func (PySem.W.fnOf x qual (defArgs st) (defBody st) (defScope st) dV kV doc pm an cdv ct), osl⟩) (hcd : PySem.W.codeIn K cdv qual = true) (S : FnScope N ps (defScope st)) (hnp : ps.length = np) (hc : chkSs G ⟨N, defScope st, k, m, false, false⟩ core (defBody st) = true) (g : GOk G Γ L m P w K mg base)
    (body : ∀ ts μ F R, S' ts μ F R → denSs G Γ core (bodyD R F) (startT N.length ts) μ) : FnOk P w K mg base (L2.CX P w) (k + 1) f (PySem.W.fnOf x qual (defArgs st) (defBody st) (defScope st) dV kV doc pm an cdv ct) ps (spOf K L np S') := by
  refine fn_of lk hcd S (fun vs H Q E h => h.1.trans hnp.symm) fun A outer s H vs Q E hr h => ?_
  obtain ⟨hl, Φ, B, μ, ts, R, F, S0, r, q, kk, kx⟩ := h
  refine ⟨_, pss_s, ?_⟩
  have tk := takes_of (X := cxOf (L2.CX P w) P w K mg base N qual (defScope st) f cdv A outer s H E) (E := E) rfl rfl rfl rfl
  have C : SCtx G Γ L ⟨N, defScope st, k, m, false, false⟩ (cxOf (L2.CX P w) P w K mg base N qual (defScope st) f cdv A outer s H E) (fun cls d _ H => E cls d H) :=
    ⟨⟨rfl, S.nd, fun y hy => by
        have hy' : vis (defScope st) y = true := hy
        unfold vis at hy'
        show Vis (defScope st) y
        unfold Vis
        revert hy'
        cases (defScope st).names.lookup y with
        | none => intro z; cases z
        | some kd => cases kd <;> first | (intro _; exact .inl rfl) | (intro _; exact .inr (.inl rfl)) | (intro _; exact .inr (.inr rfl)) | (intro z; cases z),
      fun y hy => by
        have hy' : loc (defScope st) y = true := hy
        unfold loc at hy'
        refine ⟨?_, .inl rfl⟩
        show L2.Loc (defScope st) y
        unfold L2.Loc
        revert hy'
        cases (defScope st).names.lookup y with
        | none => intro z; cases z
        | some kd => cases kd <;> first | (intro _; exact .inl rfl) | (intro _; exact .inr rfl) | (intro z; cases z),
      fun y hy => by
        have hy' : glb (defScope st) y = true := hy
        unfold glb at hy'
        show (defScope st).names.lookup y = some .globalImplicit
        revert hy'
        cases (defScope st).names.lookup y with
        | none => intro z; cases z
        | some kd => cases kd <;> first | (intro _; rfl) | (intro z; cases z),
      fun y hy => hy, fun _ => hr, by have h := hr.un; exact Nat.lt_of_le_of_lt (Nat.add_le_add_left (by omega : 65 ≤ 16 * k + 200) _) (by rw [← Nat.add_assoc]; exact h), fun _ => rfl, tk, fun z => Bool.noConfusion z, g⟩, fun _ => passes_of rfl, rfl, rfl, rfl, S.kind⟩
  refine (snd_st (L := L) hcl hfl).2 _ core _ hc Γ _ _ C Φ B μ H _ _ (bodyD R F) _ S0 (start_ok r) (body ts μ F R q) ⟨fun ρ' μ' σ' H' B' l S' _ h => ?_, fun v t H' B' μ' l S' r' h => ?_, fun _ _ _ _ _ _ _ _ h => h.elim, fun _ _ _ _ _ _ _ _ h => h.elim, fun cc ρ' μ' σ' H' B' l S' _ h => kx cc H' B' μ' l S' h⟩
  · obtain ⟨t', μ2, wk, h⟩ := h
    obtain ⟨B2, l2, S2, r2⟩ := wk.ok (v := .non) S' rfl
    exact kk _ t' H' B2 μ2 (l.trans l2) S2 r2 h
  · obtain ⟨t', μ2, wk, h⟩ := h
    obtain ⟨B2, l2, S2, r2⟩ := wk.ok S' r'
    exact kk _ t' H' B2 μ2 (l.trans l2) S2 r2 h
/-- the law's own promise -/
def sLawT : TSp := fun ts _ _ R => ∃ ns : List Int, ts = [.scr (ns.map T.int)] ∧ ns.length ≤ 63 ∧ (∀ k ∈ ns, Builtin.Int.intBits k ≤ 1048576) ∧ ∀ μ', R (.bl true) μ'
def spLawT (K : PySem.W.Frag) : Sp := fun vs H Q _ => ∃ (a : Addr) (ns : List Int), vs = [.ref a] ∧ SqL K H a (ns.map V.int) ∧ ns.length ≤ 63 ∧ (∀ k ∈ ns, Builtin.Int.intBits k ≤ 1048576) ∧ ∀ H', Q (.bl true) H'
theorem law_sp {K : PySem.W.Frag} {vs : List V} {H : Hp} {Q : VK} {E : XK} (h : spLawT K vs H Q E) : spOf K L 1 sLawT vs H Q E := by
  obtain ⟨a, ns, rfl, hs, hl, hb, k⟩ := h
  refine ⟨rfl, fun _ => none, H, fun _ => none, [.scr (ns.map T.int)], fun t _ => t = .bl true, fun _ _ => False, ⟨Same.refl _, fun _ _ h => (nomatch h), fun _ _ h => (nomatch h)⟩, Trs.cons ⟨a, _, rfl, hs, Trs.of_ints ns⟩ Trs.nil, ⟨ns, rfl, hl, hb, fun _ => rfl⟩, fun v t H' B' μ' _ _ r e => ?_, fun _ _ _ _ _ _ h => h.elim⟩
  subst e
  obtain rfl := r
  exact k H'
end
end Rh

namespace Rh
open PySem PySem.Spec PyProof.Rows L2
/-! ## 24. From what the top has written to all defs -/
/-- a def as it stands, with what it binds -/
structure DefF (K : PySem.W.Frag) (i : FnI) (qual : Str) (st : Stmt) (f : Addr) (fd : FuncData) (ps : List Str) : Prop where
  ex : ∃ (oc : Value) (od : Option Addr) (dV kV doc pm : Value) (an : Option Addr) (cdv ct : Value) (osl : Array (Option Value)),
    fd = PySem.W.fnOf i.name qual (defArgs st) (defBody st) (defScope st) dV kV doc pm an cdv ct ∧ K.lookup f = some ⟨oc, od, .func fd, osl⟩ ∧ PySem.W.codeIn K cdv qual = true
  kp : PySem.W.keepIn K (.ref f) = true
  bi : ∀ nd, nd ≤ i.dfl.length → ∃ ds, Binds K fd ps ds ∧ Vals ((i.rest nd).map V.int) ds
section
variable {K : PySem.W.Frag} {i : FnI} {qual : Str} {st : Stmt} {f : Addr} {ps : List Str}
theorem def0 {oc : Value} {od an : Option Addr} {osl : Array (Option Value)} {kV doc pm cdv ct : Value} (hd : i.dfl = []) (l : K.lookup f = some ⟨oc, od, .func (PySem.W.fnOf i.name qual (defArgs st) (defBody st) (defScope st) .none kV doc pm an cdv ct), osl⟩)
    (c : PySem.W.codeIn K cdv qual = true) (k : PySem.W.keepIn K (.ref f) = true)
    (h : ∀ (kV doc pm : Value) (an : Option Addr) (cdv ct : Value) (us : List Value), us.length = ps.length → bindArgs (PySem.W.fnOf i.name qual (defArgs st) (defBody st) (defScope st) .none kV doc pm an cdv ct) ⟨us, []⟩ = pure (ps.zip us)) :
    DefF K i qual st f (PySem.W.fnOf i.name qual (defArgs st) (defBody st) (defScope st) .none kV doc pm an cdv ct) ps :=
  ⟨⟨oc, od, .none, kV, doc, pm, an, cdv, ct, osl, rfl, l, c⟩, k, fun nd hn => ⟨[], .all (h kV doc pm an cdv ct), by
    unfold FnI.rest
    rw [hd, List.drop_nil]
    exact .nil⟩⟩
theorem def1 {oc oc2 : Value} {od an od2 : Option Addr} {osl osl2 : Array (Option Value)} {kV doc pm cdv ct : Value} {Td : Addr} {d : Int} {n : Nat} {tk : Tok} (hd : i.dfl = [d]) (l : K.lookup f = some ⟨oc, od, .func (PySem.W.fnOf i.name qual (defArgs st) (defBody st) (defScope st) (.ref Td) kV doc pm an cdv ct), osl⟩)
    (c : PySem.W.codeIn K cdv qual = true) (k : PySem.W.keepIn K (.ref f) = true) (lt : K.lookup Td = some ⟨oc2, od2, .seq [Value.int d tk].toArray n, osl2⟩)
    (h0 : ∀ (T : Addr) (kV doc pm : Value) (an : Option Addr) (cdv ct : Value) (us its : List Value), us.length = ps.length → its.length = 1 → ∃ k, bindArgs (PySem.W.fnOf i.name qual (defArgs st) (defBody st) (defScope st) (.ref T) kV doc pm an cdv ct) ⟨us, []⟩ = seqItems? (.ref T) >>= k ∧ k (some its.toArray) = pure (ps.zip (us ++ [])))
    (h1 : ∀ (T : Addr) (kV doc pm : Value) (an : Option Addr) (cdv ct : Value) (us its : List Value), us.length + 1 = ps.length → its.length = 1 → ∃ k, bindArgs (PySem.W.fnOf i.name qual (defArgs st) (defBody st) (defScope st) (.ref T) kV doc pm an cdv ct) ⟨us, []⟩ = seqItems? (.ref T) >>= k ∧ k (some its.toArray) = pure (ps.zip (us ++ its))) :
    DefF K i qual st f (PySem.W.fnOf i.name qual (defArgs st) (defBody st) (defScope st) (.ref Td) kV doc pm an cdv ct) ps :=
  ⟨⟨oc, od, .ref Td, kV, doc, pm, an, cdv, ct, osl, rfl, l, c⟩, k, fun nd hn => by
    unfold FnI.rest
    rw [hd] at hn ⊢
    rcases Nat.le_one_iff_eq_zero_or_eq_one.mp hn with rfl | rfl
    · refine ⟨[], fun s us X hl => BindsTo.of_looks fun M => ?_, .nil⟩
      rw [List.append_nil] at hl
      obtain ⟨kk, e1, e2⟩ := h0 Td kV doc pm an cdv ct us [Value.int d tk] hl rfl
      rw [e1]
      exact looks_items X lt rfl (.of_pure e2)
    · refine ⟨[Value.int d tk], fun s us X hl => BindsTo.of_looks fun M => ?_, .cons ⟨tk, rfl⟩ .nil⟩
      rw [List.length_append] at hl
      obtain ⟨kk, e1, e2⟩ := h1 Td kV doc pm an cdv ct us [Value.int d tk] hl rfl
      rw [e1]
      exact looks_items X lt rfl (.of_pure e2)⟩
end
section
variable {G : Tab} {Γ : Nat → TSp} {L : Lay} {P : Program} {w : World} {K : PySem.W.Frag} {mg : Str → Option Value} {base : Heap}
/-- the text of the table is in order -/
structure TabOk (G : Tab) : Prop where
  hcl : ∀ f i d, G.fn f = some i → i.cls = some d → ∃ ci, G.cl d = some ci
  hfl : ∀ d f, f ∈ G.flds d → ∃ ci, G.cl d = some ci
/-- what the text's check says of a def -/
structure ChkF (G : Tab) (m : Nat) (i : FnI) (st : Stmt) (N ps : List Str) (core : List Sx) : Prop where
  S : FnScope N ps (defScope st)
  np : ps.length = i.np
  lv : 0 < i.lvl
  ck : chkSs G ⟨N, defScope st, i.lvl - 1, m, false, false⟩ core (defBody st) = true
theorem step (T : TabOk G) {m : Nat} {i : FnI} {st : Stmt} {N ps : List Str} {core : List Sx} {qual : Str} {f : Addr} {fd : FuncData} (g : GOk G Γ L m P w K mg base) (hi : G.fn m = some i) (C : ChkF G m i st N ps core) (D : DefF K i qual st f fd ps)
    (body : ∀ ts μ F R, Γ m ts μ F R → denSs G Γ core (bodyD R F) (startT N.length ts) μ) (hg : i.cls = none → mg i.name = some (.ref f)) (hm : ∀ c, i.cls = some c → Meth K (L.addr c) i.name f) : GOk G Γ L (m + 1) P w K mg base :=
  ⟨fun n j hn e => by
      rcases Nat.lt_or_eq_of_le (Nat.le_of_lt_succ hn) with h | rfl
      · exact g.fn n j h e
      · rw [hi] at e
        cases e
        obtain ⟨oc, od, dV, kV, doc, pm, an, cdv, ct, osl, rfl, lk, hcd⟩ := D.ex
        refine ⟨f, _, ps, ?_, D.kp, D.bi, hg, hm⟩
        have := fn_okD T.hcl T.hfl lk hcd C.S C.np C.ck g body
        rwa [Nat.sub_add_cancel C.lv] at this, g.cl, g.ex, g.bl, g.con, g.fl, g.ki, g.kc, g.su⟩
theorem skip {m : Nat} (g : GOk G Γ L m P w K mg base) {n : Nat} (h : ∀ k, m ≤ k → k < n → G.fn k = none) : GOk G Γ L n P w K mg base :=
  ⟨fun k j hn e => (by
      rcases Nat.lt_or_ge k m with q | q
      · exact g.fn k j q e
      · rw [h k q hn] at e
        cases e), g.cl, g.ex, g.bl, g.con, g.fl, g.ki, g.kc, g.su⟩
end
theorem walkT {l : PySem.W.OpenLaw} {k : Nat} {q : Program} {loose : List Str} {XP : (Str → Option Value) → Heap → Prop} {YP : World → Heap → Prop} {d : DefRec} {K : Params → PySem.W.Frag} {x : Str} (hn : l.most = some 63) (hdf : d.params.defaults = []) (hr : Room k callerA)
    (hY : ∀ (w : World) (h : Heap), YP w h → (K w.params).In h)
    (F : ∀ (w : World) (mg : Str → Option Value) (fa : Addr) (h : Heap), (K w.params).In h → h.Ns mainGlobals mg → mg d.name = some (.ref fa) →
      ∃ fd : FuncData, (∀ (s : Shared) (u : Value), BindsTo s fd ⟨[u], []⟩ [(x, u)]) ∧ ∀ base : Heap, (K w.params).In base → base.Ns mainGlobals mg → ∃ L, FnOk l.prog w (K w.params) mg base (L2.CX l.prog w) k fa fd [x] (spOf (K w.params) L 1 sLawT)) :
    PySem.W.WalkO q loose XP YP l.row.toRowW d [] (fun f vs => PySem.call f vs) :=
  L2.walk_ofB (n := 63) (x := x) (CX := fun w => L2.CX l.prog w) (sp := fun w => spLawT (K w.params)) hn (by decide) hdf hr hY (fun w mg fa h KX Gn hm => by
    obtain ⟨fd, hb, hF⟩ := F w mg fa h KX Gn hm
    exact ⟨fd, hb, fun base hK hN => by
      obtain ⟨L, hL⟩ := hF base hK hN
      exact hL.imp fun vs H Q E h => law_sp h⟩) (fun _ _ a ns hl hb _ hS => ⟨a, ns, rfl, hS, hl, hb, fun _ => rfl⟩) fun _ _ _ _ _ ⟨_, _, _, _, _, _, _, _, _, _, _, _, z⟩ => z
theorem kit_of {K : PySem.W.Frag} {A B : Addr} {b : Bool} (h1 : PySem.W.subIn K (.ref A) (.ref B) = some b) (h2 : PySem.W.subIn K (.ref A) (.ref A) = some true) (h3 : PySem.W.hasDictIn K B = true) (h4 : PySem.W.typeIn K (.ref B) = some (.type "type")) : PySem.W.kitOne K (.ref A) (.ref B) = some b := by
  unfold PySem.W.kitOne
  by_cases e : A = B
  · subst e
    rw [if_pos (by simp), ← h2, h1]
  · rw [if_neg (fun z => e (by simpa using z))]
    obtain ⟨cd, hc, _⟩ := PySem.W.any_some h3
    have e2 : ((PySem.W.clsIn K B).isSome && PySem.W.typeIn K (.ref B) == some (.type "type")) = true := by rw [hc, h4] <;> rfl
    show (if _ = true then PySem.W.subIn K (.ref A) (.ref B) else none) = _
    rw [if_pos e2]
    exact h1
theorem kit_ve {K : PySem.W.Frag} {A : Addr} (h1 : PySem.W.subIn K (.ref A) (.type "ValueError") = some true) : PySem.W.kitOne K (.ref A) (.type "ValueError") = some true := by
  unfold PySem.W.kitOne
  rw [if_neg (by intro z; cases z)]
  show (if PySem.W.kitMeta "ValueError" = true then PySem.W.subIn K (.ref A) (.type "ValueError") else none) = some true
  rw [if_pos (show PySem.W.kitMeta "ValueError" = true by decide +kernel)]
  exact h1
end Rh

namespace Rh
open PySem PySem.Spec PyProof.Rows L2
/-! ## 25. Tools for what a body means -/
section
variable {G : Tab} {Γ : Nat → TSp} {s : Sx} {r : List Sx} {D : SEnds} {ρ : Ro} {μ : Sto}
theorem e_cons (h : denS G Γ s { D with nx := fun ρ' μ' => denSs G Γ r D ρ' μ' } ρ μ) : denSs G Γ (s :: r) D ρ μ := h
theorem nil_den : denSs G Γ [] D ρ μ = D.nx ρ μ := rfl
theorem e_nil (h : D.nx ρ μ) : denSs G Γ [] D ρ μ := h
theorem xp_mk {n : Ro → Sto → Prop} {r : RP} {b c : Ro → Sto → Prop} {e : Nat → Ro → Sto → Prop} {ρ : Ro} : SEnds.xp ⟨n, r, b, c, e⟩ ρ = fun x μ => e x ρ μ := rfl
theorem fin_id {R : RP} {t : T} (h : R t μ) : fin_ R t μ := ⟨t, μ, .refl _ _, h⟩
theorem fin_sub {R : RP} {t : T} (μ' : Sto) (s : Sub μ' μ) (h : R t μ') : fin_ R t μ := ⟨t, μ', .drop s, h⟩
theorem Sub.set_none {p : Addr} {o : Ob} (h : μ p = Option.none) : Sub μ (μ.set p o) := fun q o' e => by
  unfold Sto.set
  split
  · rename_i z
    subst z
    rw [h] at e
    cases e
  · exact e
theorem e_ife {c : Ex} {a b : List Sx} (h : (den G Γ c).2 ρ μ (D.xp ρ) fun k μ1 => if k = true then denSs G Γ a D ρ μ1 else denSs G Γ b D ρ μ1) : denS G Γ (.ife c a b) D ρ μ := by
  rw [denS]
  exact ⟨D.nx, fun ρ' μ' h => ⟨ρ', μ', .refl _ _, h⟩, h⟩
theorem e_join {c : Ex} {a b : List Sx} (J : Ro → Sto → Prop) (hJ : ∀ ρ' μ', J ρ' μ' → D.nx ρ' μ') (h : (den G Γ c).2 ρ μ (D.xp ρ) fun k μ1 => if k = true then denSs G Γ a { D with nx := J } ρ μ1 else denSs G Γ b { D with nx := J } ρ μ1) : denS G Γ (.ife c a b) D ρ μ := by
  rw [denS]
  exact ⟨J, fun ρ' μ' h => ⟨ρ', μ', .refl _ _, hJ ρ' μ' h⟩, h⟩
theorem e_while {c : Ex} {body : List Sx} (I : Nat → Ro → Sto → Prop) (m : Nat) (h0 : I m ρ μ) (h : ∀ m ρ μ, I m ρ μ → (den G Γ c).2 ρ μ (D.xp ρ) fun k μ1 => if k = true then
    denSs G Γ body { D with nx := fun ρ2 μ2 => ∃ ρ3 μ3 m', Wk ρ2 μ2 ρ3 μ3 ∧ m' < m ∧ I m' ρ3 μ3, ct := fun ρ2 μ2 => ∃ ρ3 μ3 m', Wk ρ2 μ2 ρ3 μ3 ∧ m' < m ∧ I m' ρ3 μ3, bk := D.nx } ρ μ1 else D.nx ρ μ1) : denS G Γ (.while_ c body) D ρ μ := by
  rw [denS]
  exact ⟨I, ⟨m, h0⟩, h⟩
theorem set_self {p : Addr} {o : Ob} : (μ.set p o) p = some o := by unfold Sto.set; simp
theorem set_ne {p q : Addr} {o : Ob} (h : q ≠ p) : (μ.set p o) q = μ q := by unfold Sto.set; simp [h]
theorem set_set {p : Addr} {o o' : Ob} : (μ.set p o).set p o' = μ.set p o' := by
  funext q
  unfold Sto.set
  split <;> rfl
theorem set_same {p : Addr} {o : Ob} (h : μ p = some o) : μ.set p o = μ := by
  funext q
  unfold Sto.set
  split
  · rename_i z; subst z; exact h.symm
  · rfl
theorem set_comm {p q : Addr} {o o' : Ob} (h : p ≠ q) : (μ.set p o).set q o' = (μ.set q o').set p o := by
  funext x
  unfold Sto.set
  by_cases h1 : x = q <;> by_cases h2 : x = p <;> simp [h1, h2]
  · subst h1; subst h2; exact absurd rfl h
  · subst h1; intro z; exact absurd z h2
  · subst h2; intro z; exact absurd z h1
theorem nofr {p q : Addr} {o : Ob} (h : μ p = some o) (h2 : μ q = Option.none) : p ≠ q := fun z => by subst z; rw [h] at h2; cases h2
end
theorem iK_int_NoneType : (["int"] : List String).any (isT "NoneType") = false := by decide
theorem iK_int_bool : (["int"] : List String).any (isT "bool") = true := by decide
theorem iK_int_int : (["int"] : List String).any (isT "int") = true := by decide
theorem iK_int_str : (["int"] : List String).any (isT "str") = false := by decide
theorem iK_int_tuple : (["int"] : List String).any (isT "tuple") = false := by decide
theorem iK_int_list : (["int"] : List String).any (isT "list") = false := by decide
theorem iK_int_dict : (["int"] : List String).any (isT "dict") = false := by decide
theorem iK_bool_NoneType : (["bool"] : List String).any (isT "NoneType") = false := by decide
theorem iK_bool_bool : (["bool"] : List String).any (isT "bool") = true := by decide
theorem iK_bool_int : (["bool"] : List String).any (isT "int") = false := by decide
theorem iK_bool_str : (["bool"] : List String).any (isT "str") = false := by decide
theorem iK_bool_tuple : (["bool"] : List String).any (isT "tuple") = false := by decide
theorem iK_bool_list : (["bool"] : List String).any (isT "list") = false := by decide
theorem iK_bool_dict : (["bool"] : List String).any (isT "dict") = false := by decide
theorem iK_str_NoneType : (["str"] : List String).any (isT "NoneType") = false := by decide
theorem iK_str_bool : (["str"] : List String).any (isT "bool") = false := by decide
theorem iK_str_int : (["str"] : List String).any (isT "int") = false := by decide
theorem iK_str_str : (["str"] : List String).any (isT "str") = true := by decide
theorem iK_str_tuple : (["str"] : List String).any (isT "tuple") = false := by decide
theorem iK_str_list : (["str"] : List String).any (isT "list") = false := by decide
theorem iK_str_dict : (["str"] : List String).any (isT "dict") = false := by decide
theorem iK_list_NoneType : (["list"] : List String).any (isT "NoneType") = false := by decide
theorem iK_list_bool : (["list"] : List String).any (isT "bool") = false := by decide
theorem iK_list_int : (["list"] : List String).any (isT "int") = false := by decide
theorem iK_list_str : (["list"] : List String).any (isT "str") = false := by decide
theorem iK_list_tuple : (["list"] : List String).any (isT "tuple") = false := by decide
theorem iK_list_list : (["list"] : List String).any (isT "list") = true := by decide
theorem iK_list_dict : (["list"] : List String).any (isT "dict") = false := by decide
theorem iK_tuple_NoneType : (["tuple"] : List String).any (isT "NoneType") = false := by decide
theorem iK_tuple_bool : (["tuple"] : List String).any (isT "bool") = false := by decide
theorem iK_tuple_int : (["tuple"] : List String).any (isT "int") = false := by decide
theorem iK_tuple_str : (["tuple"] : List String).any (isT "str") = false := by decide
theorem iK_tuple_tuple : (["tuple"] : List String).any (isT "tuple") = true := by decide
theorem iK_tuple_list : (["tuple"] : List String).any (isT "list") = false := by decide
theorem iK_tuple_dict : (["tuple"] : List String).any (isT "dict") = false := by decide
theorem iK_dict_NoneType : (["dict"] : List String).any (isT "NoneType") = false := by decide
theorem iK_dict_bool : (["dict"] : List String).any (isT "bool") = false := by decide
theorem iK_dict_int : (["dict"] : List String).any (isT "int") = false := by decide
theorem iK_dict_str : (["dict"] : List String).any (isT "str") = false := by decide
theorem iK_dict_tuple : (["dict"] : List String).any (isT "tuple") = false := by decide
theorem iK_dict_list : (["dict"] : List String).any (isT "list") = false := by decide
theorem iK_dict_dict : (["dict"] : List String).any (isT "dict") = true := by decide
theorem is_non {μ : Sto} : isStr μ .non = some "NoneType" := rfl
theorem is_bl {μ : Sto} {b : Bool} : isStr μ (.bl b) = some "bool" := rfl
theorem is_int {μ : Sto} {i : Int} : isStr μ (.int i) = some "int" := rfl
theorem is_str {μ : Sto} {i : Str} : isStr μ (.str i) = some "str" := rfl
theorem is_tup {μ : Sto} {i : List T} : isStr μ (.tup i) = some "tuple" := rfl
theorem is_lst {μ : Sto} {i : List T} : isStr μ (.lst i) = some "list" := rfl
theorem is_own {μ : Sto} {p : Addr} : isStr μ (.own p) = match μ p with | some (.lst _) => some "list" | some (.dict _) => some "dict" | _ => Option.none := rfl
theorem at_nn {α : Type} {xs : List α} {i : Int} (h : 0 ≤ i) : atI xs i = xs[i.toNat]? := by
  unfold atI ixN
  rw [if_pos h]
  split
  · rfl
  · rename_i z
    rw [List.getElem?_eq_none (by omega)]
    rfl
theorem at_0 {α : Type} {xs : List α} : atI xs 0 = xs[0]? := at_nn (by decide)
theorem at_1 {α : Type} {xs : List α} : atI xs 1 = xs[1]? := at_nn (by decide)
theorem at_2 {α : Type} {xs : List α} : atI xs 2 = xs[2]? := at_nn (by decide)
theorem at_3 {α : Type} {xs : List α} : atI xs 3 = xs[3]? := at_nn (by decide)
theorem at_4 {α : Type} {xs : List α} : atI xs 4 = xs[4]? := at_nn (by decide)
theorem at_nat {α : Type} {xs : List α} {n : Nat} : atI xs (n : Int) = xs[n]? := at_nn (by omega)
theorem at_last {α : Type} {xs : List α} {y : α} : atI (xs ++ [y]) (-1) = some y := atI_last xs y
theorem at_map {α : Type} {xs : List α} {f : α → T} {i : Int} {v : α} (h : 0 ≤ i) (e : xs[i.toNat]? = some v) : atI (xs.map f) i = some (f v) := by
  rw [at_nn h, List.getElem?_map, e]
  rfl
theorem scr_inj {ns ms : List Int} : (T.scr (ns.map T.int) = T.scr (ms.map T.int)) = (ns = ms) := by
  apply propext
  constructor
  · intro h
    injection h with h
    exact (List.map_inj_right (fun _ _ e => by injection e)).mp h
  · intro h
    rw [h]
theorem cdiv_lit {i j : Int} (h : 0 < j) (h2 : j < 10000000000000000000000000000000000000000) : CDivW i j = True := eq_true ⟨h, Nat.lt_of_le_of_lt (m := 140) (by
  have : j.natAbs < 2 ^ 140 := Nat.lt_of_lt_of_le (by omega : j.natAbs < 10000000000000000000000000000000000000000) (by decide)
  exact Nat.le_of_lt ((Nat.log2_lt (by omega)).mpr this)) (by decide)⟩
theorem mul_litR {i j : Int} (h : 0 ≤ j) (h2 : j < 18446744073709551616) : MulOk i j = True := eq_true (.inl (.inr ⟨by omega, h2⟩))
theorem mul_litL {i j : Int} (h : 0 ≤ i) (h2 : i < 18446744073709551616) : MulOk i j = True := eq_true (.inl (.inl ⟨by omega, h2⟩))
end Rh

namespace Rh
open PySem PySem.Spec PyProof.Rows L2
/-! ## 26. How long numbers are -/
def Bt (n : Nat) (a : Int) : Prop := a.natAbs < 2 ^ n
theorem Bt.mono {m n : Nat} {a : Int} (h : Bt m a) (e : m ≤ n) : Bt n a := Nat.lt_of_lt_of_le h (Nat.pow_le_pow_right (by decide) e)
theorem Bt.mul {m n : Nat} {a b : Int} (h : Bt m a) (k : Bt n b) : Bt (m + n) (a * b) := by
  unfold Bt at *
  rw [Int.natAbs_mul, Nat.pow_add]
  exact Nat.mul_lt_mul'' h k
theorem Bt.add {n : Nat} {a b : Int} (h : Bt n a) (k : Bt n b) : Bt (n + 1) (a + b) := by
  unfold Bt at *
  have := Int.natAbs_add_le a b
  rw [Nat.pow_succ]
  omega
theorem Bt.neg {n : Nat} {a : Int} (h : Bt n a) : Bt n (-a) := by
  unfold Bt at *
  rwa [Int.natAbs_neg]
theorem Bt.sub {n : Nat} {a b : Int} (h : Bt n a) (k : Bt n b) : Bt (n + 1) (a - b) := by
  rw [Int.sub_eq_add_neg]
  exact h.add k.neg
theorem Bt.le {n : Nat} {a b : Int} (h : Bt n b) (h0 : 0 ≤ a) (h1 : a ≤ b) : Bt n a := by
  unfold Bt at *
  omega
theorem Bt.of_lt {n : Nat} {a b : Int} (h : Bt n b) (h0 : 0 ≤ a) (h1 : a < b) : Bt n a := h.le h0 (by omega)
theorem Bt.mod {n : Nat} {a b : Int} (h : Bt n b) (h0 : 0 < b) : Bt n (a % b) := h.of_lt (Int.emod_nonneg _ (by omega)) (Int.emod_lt_of_pos _ h0)
theorem Bt.div {n : Nat} {a b : Int} (h : Bt n a) (h0 : 0 ≤ a) (h1 : 0 ≤ b) : Bt n (a / b) := h.le (Int.ediv_nonneg h0 h1) (Int.ediv_le_self _ h0)
theorem Bt.log {n : Nat} {a : Int} (h : Bt n a) : a.natAbs.log2 ≤ n := by
  by_cases h0 : a.natAbs = 0
  · rw [h0]
    exact Nat.zero_le _
  · exact Nat.le_of_lt ((Nat.log2_lt h0).mpr h)
theorem Bt.log' {n : Nat} {a : Int} (h : Bt n a) (h0 : 0 < a) : a.natAbs.log2 < n := (Nat.log2_lt (by omega)).mpr h
theorem Bt.mulOk {m n : Nat} {a b : Int} (h : Bt m a) (k : Bt n b) (e : m + n < 1000000) : MulOk a b := .inr (by
  have := h.log
  have := k.log
  unfold CMulW
  omega)
theorem Bt.divOk {n : Nat} {b : Int} (k : Bt n b) (h0 : 0 < b) (e : n ≤ 9000) (a : Int) : CDivW a b := ⟨h0, Nat.lt_of_lt_of_le (k.log' h0) e⟩
theorem divLit {a b : Int} (h : (0 < b ∧ b.natAbs.log2 < 9000) := by decide) : CDivW a b := h
theorem Bt.gcd {n : Nat} {a b : Int} (h : Bt n a) (h2 : Bt n b) : Bt n (Int.gcd a b) := by
  unfold Bt at *
  have e : ((Int.gcd a b : Nat) : Int).natAbs = Nat.gcd a.natAbs b.natAbs := rfl
  rw [e]
  rcases Nat.eq_zero_or_pos a.natAbs with z | z
  · rw [z, Nat.gcd_zero_left]; exact h2
  · exact Nat.lt_of_le_of_lt (Nat.gcd_le_left _ z) h
theorem gcd_step {a b : Int} (ha : 0 ≤ a) (hb : 0 ≤ b) : Int.gcd b (a % b) = Int.gcd a b := by
  obtain ⟨x, rfl⟩ := Int.eq_ofNat_of_zero_le ha
  obtain ⟨y, rfl⟩ := Int.eq_ofNat_of_zero_le hb
  rw [← Int.natCast_emod]
  show Nat.gcd y (x % y) = Nat.gcd x y
  rw [Nat.gcd_comm, ← Nat.gcd_rec, Nat.gcd_comm]
theorem gcd_pos {a b : Int} (h : a ≠ 0 ∨ b ≠ 0) : 0 < (Int.gcd a b : Int) := by
  have : Int.gcd a b ≠ 0 := fun z => by
    rw [Int.gcd_eq_zero_iff] at z
    rcases h with h | h
    · exact h z.1
    · exact h z.2
  omega
/-- the cell of a script -/
def cel (ns : List Int) (k : Int) : Int := (ns[k.toNat]?).getD 0
/-! ## 27. Loops by places -/
section
variable {g : Tg} {body : SEnds → Ro → Sto → Prop} {us : List T} {gd : Sto → Prop} {D : SEnds} {ρ : Ro} {μ : Sto}
theorem for_idx (I : Nat → Ro → Sto → Prop) (h0 : I 0 ρ μ) (h1 : ∀ ρ μ, I us.length ρ μ → gd μ ∧ D.nx ρ μ) (h2 : ∀ k t ρ μ, us[k]? = some t → I k ρ μ → gd μ ∧ bindT g t ρ μ fun ρ' =>
    body { D with nx := fun ρ2 μ2 => ∃ ρ3 μ3, Wk ρ2 μ2 ρ3 μ3 ∧ I (k + 1) ρ3 μ3, ct := fun ρ2 μ2 => ∃ ρ3 μ3, Wk ρ2 μ2 ρ3 μ3 ∧ I (k + 1) ρ3 μ3, bk := D.nx } ρ' μ) : forD g body us gd D ρ μ := by
  refine ⟨fun r ρ μ => (r.length ≤ us.length ∧ r = us.drop (us.length - r.length)) ∧ I (us.length - r.length) ρ μ, ⟨⟨Nat.le_refl _, by simp⟩, by simpa using h0⟩, fun ρ μ h => h1 ρ μ (by simpa using h.2), fun t r ρ μ h => ?_⟩
  obtain ⟨⟨hl, hd⟩, hI⟩ := h
  simp only [List.length_cons] at hl hd hI
  have e1 : us[us.length - (r.length + 1)]? = some t := by
    have := congrArg (fun l : List T => l[0]?) hd
    simpa [List.getElem?_drop] using this.symm
  have e2 : us.length - r.length = us.length - (r.length + 1) + 1 := by omega
  have e3 : r = us.drop (us.length - r.length) := by
    have := congrArg List.tail hd
    simp only [List.tail_cons, List.tail_drop] at this
    rwa [e2]
  have e4 : (fun (ρ2 : Ro) (μ2 : Sto) => ∃ ρ3 μ3, Wk ρ2 μ2 ρ3 μ3 ∧ (r.length ≤ us.length ∧ r = us.drop (us.length - r.length)) ∧ I (us.length - r.length) ρ3 μ3) = fun ρ2 μ2 => ∃ ρ3 μ3, Wk ρ2 μ2 ρ3 μ3 ∧ I (us.length - (r.length + 1) + 1) ρ3 μ3 := by
    funext ρ2 μ2
    have : (r.length ≤ us.length ∧ r = us.drop (us.length - r.length)) = True := eq_true ⟨by omega, e3⟩
    rw [this, e2]
    simp only [true_and]
  rw [e4]
  exact h2 _ t ρ μ e1 hI
theorem for_map {α : Type} {xs : List α} {f : α → T} (I : Nat → Ro → Sto → Prop) (h0 : I 0 ρ μ) (h1 : ∀ ρ μ, I xs.length ρ μ → gd μ ∧ D.nx ρ μ) (h2 : ∀ k x ρ μ, xs[k]? = some x → I k ρ μ → gd μ ∧ bindT g (f x) ρ μ fun ρ' =>
    body { D with nx := fun ρ2 μ2 => ∃ ρ3 μ3, Wk ρ2 μ2 ρ3 μ3 ∧ I (k + 1) ρ3 μ3, ct := fun ρ2 μ2 => ∃ ρ3 μ3, Wk ρ2 μ2 ρ3 μ3 ∧ I (k + 1) ρ3 μ3, bk := D.nx } ρ' μ) : forD g body (xs.map f) gd D ρ μ :=
  for_idx I h0 (fun ρ μ h => h1 ρ μ (by simpa using h)) fun k t ρ μ e h => by
    rw [List.getElem?_map] at e
    cases q : xs[k]? with
    | none => rw [q] at e; cases e
    | some x =>
      rw [q] at e
      cases e
      exact h2 k x ρ μ q h
theorem for_rng {n : Nat} {f : Nat → T} (I : Nat → Ro → Sto → Prop) (h0 : I 0 ρ μ) (h1 : ∀ ρ μ, I n ρ μ → gd μ ∧ D.nx ρ μ) (h2 : ∀ k ρ μ, k < n → I k ρ μ → gd μ ∧ bindT g (f k) ρ μ fun ρ' =>
    body { D with nx := fun ρ2 μ2 => ∃ ρ3 μ3, Wk ρ2 μ2 ρ3 μ3 ∧ I (k + 1) ρ3 μ3, ct := fun ρ2 μ2 => ∃ ρ3 μ3, Wk ρ2 μ2 ρ3 μ3 ∧ I (k + 1) ρ3 μ3, bk := D.nx } ρ' μ) : forD g body ((List.range n).map f) gd D ρ μ :=
  for_map I h0 (fun ρ μ h => h1 ρ μ (by simpa using h)) fun k x ρ μ e h => by
    have hk : k < n := by
      have := (List.getElem?_eq_some_iff.mp e).1
      simpa using this
    rw [List.getElem?_range hk] at e
    cases e
    exact h2 k ρ μ hk h
theorem comp_pure {own : Bool} {vs : List Nat} {cond elt : TEx × TTe} {R : RP} {ts : List T} (c : T → Bool) (f : T → T) (hg : gd μ) (hl : ts.length ≤ sizeLine)
    (h : ∀ t ∈ ts, ∀ (Y : T → Sto → Prop) (N : Sto → Prop), (c t = true → Y (f t) μ) → (c t = false → N μ) → bindT g t (wipeT ρ vs) μ fun ρ' => cond.2 ρ' μ noX fun b μ3 => if b = true then elt.1 ρ' μ3 noX fun y μ4 => Y y μ4 else N μ3)
    (hR : newL own ((ts.filter c).map f) μ R) : compD own vs g cond elt ρ R ts gd μ := by
  refine ⟨fun acc r μ2 => μ2 = μ ∧ ∃ k, r = ts.drop k ∧ acc = ((ts.take k).filter c).map f ∧ acc.length ≤ k, ⟨rfl, 0, rfl, rfl, Nat.le_refl _⟩, ?_, ?_⟩
  · rintro acc μ2 ⟨rfl, k, e1, rfl, _⟩
    refine ⟨hg, ?_⟩
    have : ts.take k = ts := List.take_of_length_le (List.drop_eq_nil_iff.mp e1.symm)
    rwa [this]
  · rintro acc t r μ2 ⟨rfl, k, e1, rfl, hk⟩
    refine ⟨hg, ?_⟩
    have hk2 : k < ts.length := by
      have := congrArg List.length e1
      simp at this
      omega
    have e2 : ts[k]? = some t := by
      have := congrArg (fun l : List T => l[0]?) e1
      simpa [List.getElem?_drop] using this.symm
    have e3 : r = ts.drop (k + 1) := by
      have := congrArg List.tail e1
      simpa [List.tail_drop] using this
    have e4 : ts.take (k + 1) = ts.take k ++ [t] := by
      rw [List.take_add_one, e2]
      rfl
    refine h t (List.mem_of_getElem? e2) _ _ (fun hc => ⟨by omega, f t, _, .refl _ _, rfl, k + 1, e3, ?_, ?_⟩) fun hc => ⟨rfl, k + 1, e3, ?_, by omega⟩
    · rw [e4, List.filter_append, List.map_append]
      simp [hc]
    · simp only [List.length_append, List.length_cons, List.length_nil]
      omega
    · rw [e4, List.filter_append, List.map_append]
      simp [hc]
end
end Rh

namespace Rh
open PySem PySem.Spec PyProof.Rows L2
/-! ## 28. Things compared -/
class Tt (α : Type) [DecidableEq α] where
  tt : α → T
  dd : α → PyData
  ok : α → Prop
  lv : Nat
  dat : ∀ (μ : Sto) n x, lv < n → dat μ n (tt x) = some (dd x)
  eqv : ∀ x y, PyData.eqv (dd x) (dd y) = decide (x = y)
  lay : ∀ x, ok x → (dd x).canLay0 = true
  dep : ∀ x, (dd x).depth ≤ lv
theorem beqd {α : Type} [BEq α] [LawfulBEq α] [DecidableEq α] (a b : α) : (a == b) = decide (a = b) := by
  rw [Bool.eq_iff_iff, beq_iff_eq, decide_eq_true_eq]
instance : Tt Int where
  tt := .int
  dd := .int
  ok _ := True
  lv := 0
  dat μ n x h := by cases n with | zero => cases h | succ n => rfl
  eqv a b := by simp only [PyData.eqv]; exact beqd a b
  lay _ _ := rfl
  dep _ := Nat.le_refl _
instance : Tt Bool where
  tt := .bl
  dd := .bool
  ok _ := True
  lv := 0
  dat μ n x h := by cases n with | zero => cases h | succ n => rfl
  eqv a b := by simp only [PyData.eqv]; exact beqd a b
  lay _ _ := rfl
  dep _ := Nat.le_refl _
def sOk (s : Str) : Prop := s.cps.all (· < 0x110000) = true
instance : Tt Str where
  tt := .str
  dd := .str
  ok := sOk
  lv := 0
  dat μ n x h := by cases n with | zero => cases h | succ n => rfl
  eqv a b := by simp only [PyData.eqv]; exact beqd a b
  lay _ h := h
  dep _ := Nat.le_refl _
section
variable {α β : Type} [DecidableEq α] [Tt α] [DecidableEq β] [Tt β]
theorem dat_all {μ : Sto} {n : Nat} : ∀ xs : List α, Tt.lv α < n → (xs.map Tt.tt).mapM (dat μ n) = some (xs.map Tt.dd)
  | [], _ => rfl
  | x :: xs, h => by
    rw [List.map_cons, List.mapM_cons, Tt.dat μ n x h, dat_all xs h]
    rfl
theorem eqv_all : ∀ xs ys : List α, PyData.eqvAll (xs.map Tt.dd) (ys.map Tt.dd) = decide (xs = ys)
  | [], [] => by simp only [List.map_nil, PyData.eqvAll, decide_true]
  | [], _ :: _ => by simp [PyData.eqvAll]
  | _ :: _, [] => by simp [PyData.eqvAll]
  | x :: xs, y :: ys => by
    rw [List.map_cons, List.map_cons, PyData.eqvAll, Tt.eqv x y, eqv_all xs ys, ← Bool.decide_and]
    exact decide_eq_decide.mpr (by rw [List.cons.injEq])
theorem lay_all : ∀ xs : List α, (∀ x ∈ xs, Tt.ok x) → PyData.canLayAll0 (xs.map Tt.dd) = true
  | [], _ => rfl
  | x :: xs, h => by
    rw [List.map_cons, PyData.canLayAll0, Tt.lay x (h x List.mem_cons_self), lay_all xs fun y hy => h y (List.mem_cons_of_mem _ hy)]
    rfl
theorem dep_all : ∀ xs : List α, PyData.depthAll (xs.map Tt.dd) ≤ Tt.lv α
  | [] => Nat.zero_le _
  | x :: xs => by
    rw [List.map_cons, PyData.depthAll]
    exact Nat.max_le.mpr ⟨Tt.dep x, dep_all xs⟩
instance : Tt (List α) where
  tt xs := .lst (xs.map Tt.tt)
  dd xs := .list (xs.map Tt.dd)
  ok xs := ∀ x ∈ xs, Tt.ok x
  lv := Tt.lv α + 1
  dat μ n xs h := by
    cases n with
    | zero => cases h
    | succ n =>
      rw [Rh.dat, dat_all xs (by omega)]
      rfl
  eqv xs ys := by simp only [PyData.eqv]; exact eqv_all xs ys
  lay xs h := by simp only [PyData.canLay0]; exact lay_all xs h
  dep xs := by simp only [PyData.depth]; exact Nat.succ_le_succ (dep_all xs)
/-- a tuple of things of one type -/
structure Tp (α : Type) where
  items : List α
  deriving DecidableEq
instance : Tt (Tp α) where
  tt t := .tup (t.items.map Tt.tt)
  dd t := .tuple (t.items.map Tt.dd)
  ok t := ∀ x ∈ t.items, Tt.ok x
  lv := Tt.lv α + 1
  dat μ n t h := by
    cases n with
    | zero => cases h
    | succ n =>
      rw [Rh.dat, dat_all t.items (by omega)]
      rfl
  eqv t u := by
    simp only [PyData.eqv]
    rw [eqv_all]
    exact decide_eq_decide.mpr ⟨fun e => by cases t; cases u; exact congrArg Tp.mk e, fun e => by rw [e]⟩
  lay t h := by simp only [PyData.canLay0]; exact lay_all t.items h
  dep t := by simp only [PyData.depth]; exact Nat.succ_le_succ (dep_all t.items)
instance : Tt (α × β) where
  tt p := .tup [Tt.tt p.1, Tt.tt p.2]
  dd p := .tuple [Tt.dd p.1, Tt.dd p.2]
  ok p := Tt.ok p.1 ∧ Tt.ok p.2
  lv := max (Tt.lv α) (Tt.lv β) + 1
  dat μ n p h := by
    cases n with
    | zero => cases h
    | succ n =>
      have h1 := Nat.le_max_left (Tt.lv α) (Tt.lv β)
      have h2 := Nat.le_max_right (Tt.lv α) (Tt.lv β)
      rw [Rh.dat, List.mapM_cons, List.mapM_cons, Tt.dat μ n p.1 (by omega), Tt.dat μ n p.2 (by omega)]
      rfl
  eqv p q := by
    simp only [PyData.eqv, PyData.eqvAll]
    rw [Tt.eqv, Tt.eqv, Bool.and_true, ← Bool.decide_and]
    exact decide_eq_decide.mpr ⟨fun e => Prod.ext e.1 e.2, fun e => by rw [e]; exact ⟨rfl, rfl⟩⟩
  lay p h := by simp only [PyData.canLay0, PyData.canLayAll0, Tt.lay p.1 h.1, Tt.lay p.2 h.2, Bool.and_self]
  dep p := by
    simp only [PyData.depth, PyData.depthAll]
    exact Nat.succ_le_succ (Nat.max_le.mpr ⟨Nat.le_trans (Tt.dep p.1) (Nat.le_max_left _ _), Nat.max_le.mpr ⟨Nat.le_trans (Tt.dep p.2) (Nat.le_max_right _ _), Nat.zero_le _⟩⟩)
/-- a thing that is told by a tree, wherever it lies -/
def Has (μ : Sto) (t : T) (x : α) : Prop := dat μ 6 t = some (Tt.dd x) ∧ Tt.ok x ∧ Tt.lv α ≤ 5
theorem Has.of {μ : Sto} {x : α} (h : Tt.ok x) (hl : Tt.lv α ≤ 5 := by decide) : Has μ (Tt.tt x) x := ⟨Tt.dat μ 6 x (by omega), h, hl⟩
theorem Has.own {μ : Sto} {p : Addr} {xs : List α} {ts : List T} (e : μ p = some (.lst ts)) (et : ts = xs.map Tt.tt) (h : ∀ x ∈ xs, Tt.ok x) (hl : Tt.lv α ≤ 4 := by decide) : Has μ (.own p) xs := by
  refine ⟨?_, h, Nat.succ_le_succ hl⟩
  rw [dat, e, et]
  dsimp only
  rw [dat_all xs (by omega)]
  rfl
theorem Has.shaped {μ : Sto} {t : T} {x : α} (h : Has μ t x) : SeqAt.shaped (Tt.dd x) = true := by
  unfold SeqAt.shaped
  rw [Tt.lay x h.2.1, Bool.true_and, decide_eq_true_eq]
  exact Nat.le_trans (Tt.dep x) (by have := h.2.2; omega)
theorem eq_has {μ : Sto} {t u : T} {x y : α} (neg : Bool) (R : RP) (h1 : Has μ t x) (h2 : Has μ u y) (hs : scalT t u = none) (h : R (.bl (if neg then !decide (x = y) else decide (x = y))) μ) : tEq neg t u μ R := by
  unfold tEq
  rw [hs]
  refine ⟨_, h1.1, h1.shaped, _, h2.1, h2.shaped, ?_⟩
  show R (.bl (if neg = true then !(PyData.eqv (Tt.dd x) (Tt.dd y)) else PyData.eqv (Tt.dd x) (Tt.dd y))) μ
  rw [Tt.eqv]
  exact h
theorem eq_hasE {μ : Sto} {t u : T} {x y : α} {neg : Bool} {R : RP} (h1 : Has μ t x) (h2 : Has μ u y) (hs : scalT t u = none) : tEq neg t u μ R = R (.bl (if neg = true then !decide (x = y) else decide (x = y))) μ := by
  apply propext
  constructor
  · intro h
    unfold tEq at h
    rw [hs] at h
    obtain ⟨d, e1, _, e, e2, _, h⟩ := h
    rw [h1.1] at e1
    rw [h2.1] at e2
    cases e1
    cases e2
    rw [Tt.eqv] at h
    exact h
  · exact eq_has neg R h1 h2 hs
theorem any_eqv : ∀ (xs : List α) (x : α), ((xs.map Tt.dd).any fun z => PyData.eqv z (Tt.dd x)) = decide (x ∈ xs)
  | [], x => by simp
  | y :: ys, x => by
    rw [List.map_cons, List.any_cons, Tt.eqv, any_eqv ys x, ← Bool.decide_or]
    exact decide_eq_decide.mpr (by rw [List.mem_cons]; exact ⟨fun h => h.imp Eq.symm id, fun h => h.imp Eq.symm id⟩)
theorem in_has {μ : Sto} {t u : T} {x : α} {xs : List α} (neg : Bool) (R : RP) (hd : isDict μ u = false) (hu : ∃ us, slst μ u = some us ∨ vlst μ u = some us) (h1 : Has μ t x) (h2 : Has μ u xs) (h : R (.bl (if neg then !decide (x ∈ xs) else decide (x ∈ xs))) μ) : tIn neg t u μ R := by
  have key : onD μ t fun d => ∃ ds, dat μ 6 u = some (.list ds) ∧ SeqAt.shaped (.list ds) = true ∧ R (.bl (if neg then !(ds.any fun z => PyData.eqv z d) else ds.any fun z => PyData.eqv z d)) μ := by
    refine ⟨_, h1.1, h1.shaped, xs.map Tt.dd, h2.1, h2.shaped, ?_⟩
    rw [any_eqv]
    exact h
  obtain ⟨us, hu⟩ := hu
  unfold tIn
  cases u with
  | str s => rcases hu with h | h <;> cases h
  | tup s => rcases hu with h | h <;> cases h
  | _ => simp only [hd]; exact key
end
theorem eq_int {neg : Bool} {a b : Int} {μ : Sto} {R : RP} : tEq neg (.int a) (.int b) μ R = R (.bl (if neg = true then !decide (a = b) else decide (a = b))) μ := rfl
theorem eq_str {neg : Bool} {a b : Str} {μ : Sto} {R : RP} : tEq neg (.str a) (.str b) μ R = R (.bl (if neg = true then !decide (a = b) else decide (a = b))) μ := rfl
theorem eq_bl {neg : Bool} {a b : Bool} {μ : Sto} {R : RP} : tEq neg (.bl a) (.bl b) μ R = R (.bl (if neg = true then !decide (a = b) else decide (a = b))) μ := rfl
theorem eq_in {neg : Bool} {a : Int} {μ : Sto} {R : RP} : tEq neg (.int a) .non μ R = R (.bl (if neg = true then true else false)) μ := by cases neg <;> rfl
theorem eq_tup2 {neg : Bool} {a b c d : Int} {μ : Sto} {R : RP} : tEq neg (.tup [.int a, .int b]) (.tup [.int c, .int d]) μ R = R (.bl (if neg = true then !decide (a = c ∧ b = d) else decide (a = c ∧ b = d))) μ := by
  have := @eq_hasE (Int × Int) _ _ μ (.tup [.int a, .int b]) (.tup [.int c, .int d]) (a, b) (c, d) neg R (Has.of (x := ((a, b) : Int × Int)) ⟨trivial, trivial⟩) (Has.of (x := ((c, d) : Int × Int)) ⟨trivial, trivial⟩) rfl
  rw [this]
  simp only [Prod.mk.injEq]
theorem in_str {neg : Bool} {a b : Str} {μ : Sto} {R : RP} : tIn neg (.str a) (.str b) μ R = R (.bl (if neg = true then !strIn a b else strIn a b)) μ := by
  simp [tIn]
theorem emod_nn {a b : Int} (h : 0 < b) : (0 ≤ a % b) = True := eq_true (Int.emod_nonneg _ (by omega))
theorem emod_lt {a b : Int} (h : 0 < b) : (a % b < b) = True := eq_true (Int.emod_lt_of_pos _ h)
theorem nat_nn {n : Nat} : (0 ≤ (n : Int)) = True := eq_true (by omega)
theorem sz : sizeLine = 16777216 := rfl
/-! ## 29. A fresh list given back: one's own, or at rest -/
def retL (us : List T) (μ : Sto) (R : RP) : Prop := (∀ p, μ p = none → R (.own p) (μ.set p (.lst us))) ∨ R (.lst us) μ
theorem fin_retL {us : List T} {μ : Sto} {R : RP} {p : Addr} (h : retL us μ R) (hp : μ p = none) : fin_ R (.own p) (μ.set p (.lst us)) := by
  rcases h with h | h
  · exact fin_id (h p hp)
  · exact ⟨.lst us, μ, ⟨[p], .own set_self (List.mem_singleton.mpr rfl) (.refl _), Sub.set_none hp, fun q hq => by cases List.mem_singleton.mp hq; exact hp⟩, h⟩
theorem own_dict {μ : Sto} {p : Addr} {ts : List T} (h : μ p = some (.lst ts)) : isDict μ (.own p) = false := by
  unfold isDict
  simp only [h]
theorem own_slst {μ : Sto} {p : Addr} {ts : List T} (h : μ p = some (.lst ts)) : slst μ (.own p) = some ts := by
  unfold slst
  simp only [h]
theorem in_own {α : Type} [DecidableEq α] [Tt α] {μ : Sto} {p : Addr} {t : T} {x : α} {xs : List α} {neg : Bool} {R : RP} {ts : List T} (e : μ p = some (.lst ts)) (et : ts = xs.map Tt.tt) (hx : Has μ t x) (h : ∀ x ∈ xs, Tt.ok x) (k : R (.bl (if neg then !decide (x ∈ xs) else decide (x ∈ xs))) μ) (hl : Tt.lv α ≤ 4 := by decide) : tIn neg t (.own p) μ R :=
  in_has neg R (own_dict e) ⟨_, .inl (own_slst e)⟩ hx (Has.own e et h hl) k
theorem eq_ints {neg : Bool} {xs ys : List Int} {μ : Sto} {R : RP} : tEq neg (.lst (xs.map T.int)) (.lst (ys.map T.int)) μ R = R (.bl (if neg = true then !decide (xs = ys) else decide (xs = ys))) μ :=
  @eq_hasE (List Int) _ _ μ (.lst (xs.map T.int)) (.lst (ys.map T.int)) xs ys neg R (Has.of (x := (xs : List Int)) fun _ _ => trivial) (Has.of (x := (ys : List Int)) fun _ _ => trivial) rfl
/-- a list, wherever it lies -/
def LstAt (μ : Sto) (t : T) (us : List T) : Prop := t = .lst us ∨ ∃ p, t = .own p ∧ μ p = some (.lst us)
theorem LstAt.lst {μ : Sto} {us : List T} : LstAt μ (.lst us) us := .inl rfl
theorem LstAt.own {μ : Sto} {us : List T} {p : Addr} (h : μ p = some (.lst us)) : LstAt μ (.own p) us := .inr ⟨p, rfl, h⟩
theorem LstAt.set {μ : Sto} {t : T} {us : List T} {p : Addr} {o : Ob} (h : LstAt μ t us) (hp : μ p = Option.none) : LstAt (μ.set p o) t us := by
  rcases h with rfl | ⟨q, rfl, e⟩
  · exact .lst
  · exact .own (by rw [set_ne (nofr e hp)]; exact e)
theorem idx_at {μ : Sto} {t y : T} {us : List T} {R : RP} (h : LstAt μ t us) : tIdx t y μ R = ∃ i x, y = .int i ∧ atI us i = some x ∧ R x μ := by
  rcases h with rfl | ⟨p, rfl, e⟩
  · simp only [tIdx, isDict, onL, vlst, Option.some.injEq, exists_eq_left']
  · simp only [tIdx, isDict, onL, vlst, e, Option.some.injEq, exists_eq_left']
theorem len_at {μ : Sto} {t : T} {us : List T} {R : RP} (h : LstAt μ t us) : tLen t μ R = R (.int us.length) μ := by
  rcases h with rfl | ⟨p, rfl, e⟩
  · simp only [tLen, onL, vlst, Option.some.injEq, exists_eq_left']
  · simp only [tLen, onL, vlst, e, Option.some.injEq, exists_eq_left']
theorem is_at {μ : Sto} {t : T} {us : List T} (h : LstAt μ t us) : isStr μ t = some "list" := by
  rcases h with rfl | ⟨p, rfl, e⟩
  · rfl
  · rw [is_own]
    simp only [e]
def cnt (cs : List Int) (i : Int) : Int := (cs[i.toNat]?).getD 0
theorem at_cnt {cs : List Int} {i : Int} (h : 0 ≤ i) (h2 : i < cs.length) : atI (cs.map T.int) i = some (.int (cnt cs i)) := by
  refine at_map h ?_
  unfold cnt
  rw [List.getElem?_eq_getElem (by omega)]
  rfl
/-! ## 30. The shapes one by one -/
section
variable {μ : Sto} {R : RP} {y : T} {ts us : List T} {p : Addr} {z w : Str} {i j : Int}
theorem ix_tup : tIdx (.tup ts) y μ R = ∃ i t, y = .int i ∧ atI ts i = some t ∧ R t μ := rfl
theorem ix_lst : tIdx (.lst ts) y μ R = ∃ i t, y = .int i ∧ atI ts i = some t ∧ R t μ := idx_at .lst
theorem ix_scr : tIdx (.scr ts) y μ R = ∃ i t, y = .int i ∧ atI ts i = some t ∧ R t μ := by simp only [tIdx, isDict, onL, vlst, Option.some.injEq, exists_eq_left']
theorem ix_str : tIdx (.str z) y μ R = ∃ i c, y = .int i ∧ z.length ≤ sizeLine ∧ atI z.cps.toList i = some c ∧ R (.str ⟨#[c]⟩) μ := rfl
theorem ix_own : tIdx (.own p) y μ R = match isDict μ (.own p) with | true => onK μ (.own p) fun kvs _ => ∃ k t, keyT y = some k ∧ valT kvs k = some t ∧ R t μ | false => onL μ (.own p) fun ts => ∃ i t, y = .int i ∧ atI ts i = some t ∧ R t μ := rfl
theorem ln_str : tLen (.str z) μ R = (z.length ≤ sizeLine ∧ R (.int z.length) μ) := rfl
theorem ln_tup : tLen (.tup ts) μ R = R (.int ts.length) μ := rfl
theorem ln_lst : tLen (.lst ts) μ R = R (.int ts.length) μ := len_at .lst
theorem ln_scr : tLen (.scr ts) μ R = R (.int ts.length) μ := by simp only [tLen, onL, vlst, Option.some.injEq, exists_eq_left']
theorem ln_own : tLen (.own p) μ R = onL μ (.own p) fun ts => R (.int ts.length) μ := rfl
theorem dc_own : isDict μ (.own p) = match μ p with | some (.dict _) => true | _ => false := rfl
theorem dc_lst : isDict μ (.lst ts) = false := rfl
theorem dc_scr : isDict μ (.scr ts) = false := rfl
theorem vl_lst : vlst μ (.lst ts) = some ts := rfl
theorem vl_scr : vlst μ (.scr ts) = some ts := rfl
theorem vl_own : vlst μ (.own p) = match μ p with | some (.lst ts) => some ts | _ => Option.none := rfl
theorem sl_lst : slst μ (.lst ts) = some ts := rfl
theorem sl_own : slst μ (.own p) = match μ p with | some (.lst ts) => some ts | _ => Option.none := rfl
theorem ad_int {o : Bool} : tAdd o (.int i) (.int j) μ R = R (.int (i + j)) μ := rfl
theorem ad_str {o : Bool} : tAdd o (.str z) (.str w) μ R = (z.length + w.length ≤ sizeLine ∧ R (.str (z ++ w)) μ) := rfl
theorem ad_tup {o : Bool} : tAdd o (.tup ts) (.tup us) μ R = (ts ≠ [] ∧ us ≠ [] ∧ ts.length + us.length ≤ sizeLine ∧ R (.tup (ts ++ us)) μ) := rfl
theorem ml_int {o : Bool} : tMulO o (.int i) (.int j) μ R = (MulOk i j ∧ R (.int (i * j)) μ) := rfl
theorem slc_lst {o : Bool} {lo hi : Option Int} : tSlice o (.lst us) lo hi μ R = newL o (cutT us lo hi) μ R := by simp only [tSlice, onL, vlst, Option.some.injEq, exists_eq_left']
theorem slc_scr {o : Bool} {lo hi : Option Int} : tSlice o (.scr us) lo hi μ R = newL o (cutT us lo hi) μ R := by simp only [tSlice, onL, vlst, Option.some.injEq, exists_eq_left']
theorem ml_str {o : Bool} : tMulO o (.str z) (.int i) μ R = (0 ≤ i ∧ i < 16777216 ∧ z.length * i.toNat ≤ sizeLine ∧ R (.str (Txt.mul z i)) μ) := rfl
theorem ml_lst {o : Bool} {xs : List T} : tMulO o (.lst xs) (.int i) μ R = (i < 2 ^ 62 ∧ -(2 ^ 62) ≤ i ∧ xs.length * i.toNat ≤ sizeLine ∧ newL o (List.replicate i.toNat xs).flatten μ R) := by
  simp only [tMulO, onS, slst, Option.some.injEq, exists_eq_left']
theorem tr_non {k : Bool → Prop} : truT μ .non k = k false := rfl
theorem tr_bl {k : Bool → Prop} {b : Bool} : truT μ (.bl b) k = k b := rfl
theorem tr_int {k : Bool → Prop} : truT μ (.int i) k = k (i != 0) := rfl
theorem tr_str {k : Bool → Prop} : truT μ (.str z) k = (z.length ≤ sizeLine ∧ k ((z.length : Int) != 0)) := rfl
theorem tr_tup {k : Bool → Prop} : truT μ (.tup ts) k = k (!ts.isEmpty) := rfl
theorem tr_lst {k : Bool → Prop} : truT μ (.lst ts) k = k (!ts.isEmpty) := by simp only [truT, isDict, onL, vlst, Option.some.injEq, exists_eq_left']
theorem tr_own {k : Bool → Prop} : truT μ (.own p) k = match isDict μ (.own p) with | true => onK μ (.own p) fun kvs _ => k (!kvs.isEmpty) | false => onL μ (.own p) fun ts => k (!ts.isEmpty) := rfl
theorem ag_add : tAugO .Add (.int i) (.int j) μ R = R (.int (i + j)) μ := rfl
theorem ag_sub : tAugO .Sub (.int i) (.int j) μ R = R (.int (i - j)) μ := rfl
theorem up_tup : unp μ (.tup ts) = some ts := rfl
theorem up_lst : unp μ (.lst ts) = some ts := rfl
theorem up_own : unp μ (.own p) = vlst μ (.own p) := rfl
theorem bt_nm {k : Ro → Prop} {n : Nat} {t : T} {ρ : Ro} : bindT (.nm n) t ρ μ k = k (ρ.set n (some t)) := rfl
theorem bt_tup {k : Ro → Prop} {gs : List Tg} {t : T} {ρ : Ro} : bindT (.tup gs) t ρ μ k = ∃ ts, unp μ t = some ts ∧ ts.length = gs.length ∧ bindTs gs ts ρ μ k := rfl
end
theorem rc_join {μ : Sto} {x : T} : rcv .join μ x = ∃ z, x = .str z := rfl
theorem rc_split {μ : Sto} {x : T} : rcv .split μ x = ∃ z, x = .str z := rfl
theorem rc_part {μ : Sto} {x : T} : rcv .partition μ x = ∃ z, x = .str z := rfl
theorem rc_starts {μ : Sto} {x : T} : rcv .startswith μ x = ∃ z, x = .str z := rfl
theorem rc_append {μ : Sto} {x : T} : rcv .append μ x = ∃ us, vlst μ x = some us := rfl
theorem rc_pop {μ : Sto} {x : T} : rcv .pop μ x = ∃ us, vlst μ x = some us := rfl
theorem rc_popAt {μ : Sto} {x : T} : rcv .popAt μ x = ∃ us, vlst μ x = some us := rfl
theorem rc_extend {μ : Sto} {x : T} : rcv .extend μ x = ∃ us, vlst μ x = some us := rfl
theorem rc_index {μ : Sto} {x : T} : rcv .index μ x = ∃ us, vlst μ x = some us := rfl
theorem rc_insert {μ : Sto} {x : T} : rcv .insert μ x = ∃ us, vlst μ x = some us := rfl
theorem rc_remove {μ : Sto} {x : T} : rcv .remove μ x = ∃ us, vlst μ x = some us := rfl
theorem rc_count {μ : Sto} {x : T} : rcv .count μ x = ∃ us, vlst μ x = some us := rfl
theorem onG_at {μ : Sto} {t : T} {us : List T} {k : List T → (Sto → Prop) → Prop} (h : LstAt μ t us) (hk : ∀ gd : Sto → Prop, (∀ μ', LstAt μ' t us → gd μ') → k us gd) : onG μ t k := by
  rcases h with rfl | ⟨p, rfl, e⟩
  · exact hk _ fun _ _ => trivial
  · refine ⟨us, e, hk _ fun μ' h => ?_⟩
    rcases h with h | ⟨q, h, e'⟩
    · cases h
    · cases h
      exact e'
theorem vl_at {μ : Sto} {t : T} {us : List T} (h : LstAt μ t us) : vlst μ t = some us := by
  rcases h with rfl | ⟨p, rfl, e⟩
  · rfl
  · rw [vl_own, e]
theorem sl_at {μ : Sto} {t : T} {us : List T} (h : LstAt μ t us) : slst μ t = some us := by
  rcases h with rfl | ⟨p, rfl, e⟩
  · rfl
  · rw [sl_own, e]
theorem dc_at {μ : Sto} {t : T} {us : List T} (h : LstAt μ t us) : isDict μ t = false := by
  rcases h with rfl | ⟨p, rfl, e⟩
  · rfl
  · rw [dc_own, e]
theorem slc_at {μ : Sto} {t : T} {us : List T} {own : Bool} {lo hi : Option Int} {R : RP} (h : LstAt μ t us) : tSlice own t lo hi μ R = newL own (cutT us lo hi) μ R := by
  rcases h with rfl | ⟨p, rfl, e⟩
  · simp only [tSlice, onL, vlst, Option.some.injEq, exists_eq_left']
  · simp only [tSlice, onL, vlst, e, Option.some.injEq, exists_eq_left']
theorem ad_lst {o : Bool} {ts us : List T} {μ : Sto} {R : RP} : tAdd o (.lst ts) (.lst us) μ R = (ts.length + us.length ≤ sizeLine ∧ newL o (ts ++ us) μ R) := by
  simp only [tAdd, onS, slst, Option.some.injEq, exists_eq_left']
theorem lst_at {μ : Sto} {t : T} {us : List T} {R : RP} {own : Bool} (h : LstAt μ t us) : tBif .list own [t] μ R = newL own us μ R := by
  rcases h with rfl | ⟨p, rfl, e⟩
  · simp only [tBif, onL, vlst, Option.some.injEq, exists_eq_left']
  · simp only [tBif, onL, vlst, e, Option.some.injEq, exists_eq_left']
theorem cut_to {us : List T} {i : Int} (h0 : 0 ≤ i) (h : i.toNat ≤ us.length) : cutT us none (some i) = us.take i.toNat := by
  obtain ⟨n, rfl⟩ := Int.eq_ofNat_of_zero_le h0
  rw [Int.toNat_natCast] at h ⊢
  unfold cutT
  rw [HT.sIx_none, HT.sIx_nat, List.drop_zero, Nat.sub_zero, Nat.min_eq_left h]
theorem cut_from {us : List T} {i : Int} (h0 : 0 ≤ i) (h : i.toNat ≤ us.length) : cutT us (some i) none = us.drop i.toNat := by
  obtain ⟨n, rfl⟩ := Int.eq_ofNat_of_zero_le h0
  rw [Int.toNat_natCast] at h ⊢
  unfold cutT
  rw [HT.sIx_none, HT.sIx_nat, Nat.min_eq_left h]
  exact List.take_of_length_le (by rw [List.length_drop]; omega)
theorem set_parts {α : Type} {us : List α} {n : Nat} {x : α} (h : n < us.length) : us.take n ++ [x] ++ us.drop (n + 1) = us.set n x := by
  rw [List.set_eq_take_append_cons_drop, if_pos h, List.append_assoc]
  rfl
theorem Has.lat {α : Type} [DecidableEq α] [Tt α] {μ : Sto} {t : T} {xs : List α} {ts : List T} (h : LstAt μ t ts) (et : ts = xs.map Tt.tt) (ok : ∀ x ∈ xs, Tt.ok x) (hl : Tt.lv α ≤ 4 := by decide) : Has μ t xs := by
  rcases h with rfl | ⟨p, rfl, e⟩
  · subst et
    exact ⟨Tt.dat μ 6 xs (Nat.lt_of_le_of_lt (Nat.succ_le_succ hl) (by decide)), ok, Nat.succ_le_succ hl⟩
  · exact Has.own e et ok hl
theorem scal_at {μ : Sto} {t u : T} {ts us : List T} (h : LstAt μ t ts) (k : LstAt μ u us) : scalT t u = none := by
  rcases h with rfl | ⟨p, rfl, e⟩ <;> rcases k with rfl | ⟨q, rfl, e2⟩ <;> rfl
theorem eq_at {α : Type} [DecidableEq α] [Tt α] {μ : Sto} {t u : T} {ts us : List T} {neg : Bool} {R : RP} (xs ys : List α) (h : LstAt μ t ts) (k : LstAt μ u us) (e1 : ts = xs.map Tt.tt) (e2 : us = ys.map Tt.tt) (o1 : ∀ x ∈ xs, Tt.ok x) (o2 : ∀ x ∈ ys, Tt.ok x) (hl : Tt.lv α ≤ 4 := by decide) :
    tEq neg t u μ R = R (.bl (if neg = true then !decide (xs = ys) else decide (xs = ys))) μ := eq_hasE (Has.lat h e1 o1 hl) (Has.lat k e2 o2 hl) (scal_at h k)
theorem eq_atI {μ : Sto} {t u : T} {neg : Bool} {R : RP} {xs ys : List Int} (h : LstAt μ t (xs.map T.int)) (k : LstAt μ u (ys.map T.int)) : tEq neg t u μ R = R (.bl (if neg = true then !decide (xs = ys) else decide (xs = ys))) μ :=
  eq_at xs ys h k rfl rfl (fun _ _ => trivial) (fun _ _ => trivial)
theorem fin_retG {us : List T} {μ μ' : Sto} {R : RP} {q : Addr} (h : retL us μ R) (hq : μ q = Option.none) (e : μ' q = some (.lst us)) (s : Sub (μ.set q (.lst us)) μ') : fin_ R (.own q) μ' := by
  rcases h with h | h
  · exact fin_sub _ s (h q hq)
  · refine ⟨.lst us, μ, ⟨[q], .own e (List.mem_singleton.mpr rfl) (.refl _), fun a o z => ?_, fun a ha => by cases List.mem_singleton.mp ha; exact hq⟩, h⟩
    exact s a o (by rw [set_ne (fun y => by subst y; rw [hq] at z; cases z)]; exact z)
theorem Sub.under {μ : Sto} {p q : Addr} {o o' : Ob} (hp : μ p = Option.none) (hne : p ≠ q) : Sub (μ.set q o) ((μ.set p o').set q o) := fun a ob e => by
  by_cases h : a = q
  · subst h
    rw [set_self] at e ⊢
    exact e
  · rw [set_ne h] at e ⊢
    rw [set_ne (fun y => by subst y; rw [hp] at e; cases e)]
    exact e
theorem set4 {μ : Sto} {p q : Addr} {a b a' b' : Ob} (h : p ≠ q) : (((μ.set p a).set q b).set p a').set q b' = (μ.set p a').set q b' := by
  rw [set_comm (p := q) (q := p) h.symm, set_set, set_set]
theorem ixN_nn {n : Nat} {i : Int} (h : 0 ≤ i) (h2 : i < n) : ixN n i = some i.toNat := by
  unfold ixN
  rw [if_pos h, if_pos h2]
theorem e_wk {G : Tab} {Γ : Nat → TSp} {r : List Sx} {D : SEnds} {ρ ρ' : Ro} {μ μ' : Sto} (w : Wk ρ μ ρ' μ') (h : denSs G Γ r D ρ' μ') : denSs G Γ (.wk :: r) D ρ μ := ⟨ρ', μ', w, h⟩
theorem Left.one {μ : Sto} {p : Addr} {o : Ob} (h : μ p = Option.none) : Left (μ.set p o) [p] μ := ⟨Sub.set_none h, fun a ha => by cases List.mem_singleton.mp ha; exact h⟩
theorem View.one {μ : Sto} {p : Addr} {us : List T} : View (μ.set p (.lst us)) [p] (.own p) (.lst us) := .own set_self (List.mem_singleton.mpr rfl) (.refl _)
theorem map_erase {α β : Type} (f : α → β) (l : List α) (n : Nat) : (l.map f).eraseIdx n = (l.eraseIdx n).map f := by
  induction l generalizing n with
  | nil => rfl
  | cons a r ih =>
    cases n with
    | zero => rfl
    | succ n => simp [ih]
section
variable {μ : Sto} {R : RP} {x y z : T} {ts us : List T} {p : Addr} {w b : Str} {i j : Int} {o : Bool}
theorem bf_len : tBif .len o [x] μ R = tLen x μ R := rfl
theorem bf_sum : tBif .sum o [x] μ R = onL μ x fun us => ∃ ns : List Int, us = ns.map T.int ∧ R (.int ns.sum) μ := rfl
theorem bf_max2 : tBif .max2 o [x, y] μ R = ∃ i j, x = .int i ∧ y = .int j ∧ R (.int (if j > i then j else i)) μ := rfl
theorem bf_min2 : tBif .min2 o [x, y] μ R = ∃ i j, x = .int i ∧ y = .int j ∧ R (.int (if j < i then j else i)) μ := rfl
theorem bf_max3 : tBif .max3 o [x, y, z] μ R = ∃ i j k, x = .int i ∧ y = .int j ∧ z = .int k ∧ R (.int (max3 i j k)) μ := rfl
theorem bf_max1 : tBif .max1 o [x] μ R = onL μ x fun us => ∃ ns : List Int, us = ns.map T.int ∧ 0 < ns.length ∧ ∀ m, m ∈ ns → (∀ y, y ∈ ns → y ≤ m) → R (.int m) μ := rfl
theorem bf_min1 : tBif .min1 o [x] μ R = onL μ x fun us => ∃ ns : List Int, us = ns.map T.int ∧ 0 < ns.length ∧ ∀ m, m ∈ ns → (∀ y, y ∈ ns → m ≤ y) → R (.int m) μ := rfl
theorem bf_min3 : tBif .min3 o [x, y, z] μ R = ∃ i j k, x = .int i ∧ y = .int j ∧ z = .int k ∧ R (.int (min3 i j k)) μ := rfl
theorem bf_list_tup : tBif .list o [.tup us] μ R = newL o us μ R := rfl
theorem bf_list_lst : tBif .list o [.lst us] μ R = newL o us μ R := lst_at .lst
theorem bf_list_scr : tBif .list o [.scr us] μ R = newL o us μ R := by simp only [tBif, onL, vlst, Option.some.injEq, exists_eq_left']
theorem bf_list_own : tBif .list o [.own p] μ R = onL μ (.own p) fun us => newL o us μ R := rfl
theorem bf_tuple_tup : tBif .tuple o [.tup us] μ R = R (.tup us) μ := rfl
theorem bf_tuple_lst : tBif .tuple o [.lst us] μ R = onL μ (.lst us) fun us => R (.tup us) μ := rfl
theorem bf_tuple_own : tBif .tuple o [.own p] μ R = onL μ (.own p) fun us => R (.tup us) μ := rfl
theorem bf_sorted : tBif .sorted o [x] μ R = match isDict μ x with
    | true => onK μ x fun kvs _ => ∃ ks : List Int, kvs.map (·.1) = ks.map Sum.inl ∧ ks.length < 64 ∧ ∀ ys : List Int, ys.Perm ks → ys.Pairwise (· ≤ ·) → newL o (ys.map T.int) μ R
    | false => onL μ x fun us => ∃ ns : List Int, us = ns.map T.int ∧ ∀ ys : List Int, ys.Perm ns → ys.Pairwise (· ≤ ·) → newL o (ys.map T.int) μ R := rfl
theorem bf_all : tBif .all o [x] μ R = onL μ x fun us => ∃ bs : List Bool, us = bs.map T.bl ∧ R (.bl (bs.all id)) μ := rfl
theorem bf_any : tBif .any o [x] μ R = onL μ x fun us => ∃ bs : List Bool, us = bs.map T.bl ∧ R (.bl (bs.any id)) μ := rfl
theorem bf_str : tBif .str o [.int i] μ R = (i.natAbs.log2 < 1920 ∧ R (.str (toString i)) μ) := rfl
theorem bf_int : tBif .int o [.int i] μ R = R (.int i) μ := rfl
theorem bf_intb {c : Bool} : tBif .int o [.bl c] μ R = R (.int (if c then 1 else 0)) μ := rfl
theorem lm_append : tLm .append x [y] μ R = onM μ x fun ts p => ts.length < sizeLine ∧ R .non (μ.set p (.lst (ts ++ [y]))) := rfl
theorem lm_pop : tLm .pop x [] μ R = onM μ x fun ts p => ∃ y, ts[ts.length - 1]? = some y ∧ R y (μ.set p (.lst ts.dropLast)) := rfl
theorem lm_popAt : tLm .popAt x [.int i] μ R = onM μ x fun ts p => ∃ k y, -(2 ^ 63) ≤ i ∧ i < 2 ^ 63 ∧ seqIndex? i ts.length = some k ∧ ts[k]? = some y ∧ R y (μ.set p (.lst (ts.eraseIdx k))) := rfl
theorem lm_extend : tLm .extend x [y] μ R = onM μ x fun ts p => onS μ y fun us => ts.length + us.length ≤ sizeLine ∧ R .non (μ.set p (.lst (ts ++ us))) := rfl
theorem lm_index : tLm .index x [y] μ R = onL μ x fun ts => ∃ j z, flatT y = true ∧ ts.all flatT = true ∧ ts[j]? = some z ∧ eqT z y = true ∧ (∀ (n : Nat) (z' : T), n < j → ts[n]? = some z' → eqT z' y = false) ∧ R (.int (j : Nat)) μ := rfl
theorem lm_insert : tLm .insert x [.int i, y] μ R = onM μ x fun ts p => ts.length < sizeLine ∧ 0 ≤ i ∧ i < 2 ^ 63 ∧ R .non (μ.set p (.lst (ts.take i.toNat ++ [y] ++ ts.drop i.toNat))) := rfl
theorem lm_join : tLm .join x [y] μ R = ∃ a, ∃ ys : List Str, x = .str a ∧ (vlst μ y = some (ys.map T.str) ∨ y = .tup (ys.map T.str)) ∧ (ys.map (·.length)).sum + ys.length * a.length ≤ 16777216 ∧ R (.str (Txt.join a ys)) μ := rfl
theorem lm_split : tLm .split x [.str b] μ R = ∃ a, x = .str a ∧ (b.length == 0) = false ∧ a.length + 2 ≤ sizeLine ∧ R (.lst ((Txt.split a b).map T.str)) μ := rfl
theorem lm_part : tLm .partition x [.str b] μ R = ∃ a, x = .str a ∧ (b.length == 0) = false ∧ a.length ≤ sizeLine ∧ R (.tup [.str (Txt.partition a b).1, .str (Txt.partition a b).2.1, .str (Txt.partition a b).2.2]) μ := rfl
theorem lm_starts : tLm .startswith x [.str b] μ R = ∃ a, x = .str a ∧ R (.bl (Txt.startswith a b)) μ := rfl
theorem lm_count : tLm .count x [.int i] μ R = onL μ x fun ts => ∃ ns : List Int, ts = ns.map T.int ∧ R (.int (ns.count i : Nat)) μ := rfl
theorem lm_remove : tLm .remove x [.int i] μ R = onM μ x fun ts p => ∃ (ns : List Int) (j : Nat), ts = ns.map T.int ∧ ns[j]? = some i ∧ (∀ m : Nat, m < j → ns[m]? ≠ some i) ∧ R .non (μ.set p (.lst ((ns.eraseIdx j).map T.int))) := rfl
end
/-! ## 31. Texts by their signs -/
def sgs (s : Str) : List Nat := s.cps.toList
theorem sgs_len {s : Str} : s.length = (sgs s).length := (Array.length_toList).symm
theorem sgs_app {s t : Str} : sgs (s ++ t) = sgs s ++ sgs t := TL.tl_append s t
theorem sgs_one {c : Nat} : sgs ⟨#[c]⟩ = [c] := rfl
theorem sgs_to {s : Str} {i : Int} (h0 : 0 ≤ i) (h : i.toNat ≤ s.length) : sgs (cutS s none (some i)) = (sgs s).take i.toNat := by
  obtain ⟨n, rfl⟩ := Int.eq_ofNat_of_zero_le h0
  rw [Int.toNat_natCast] at h ⊢
  unfold cutS sgs
  rw [HT.sIx_none, HT.sIx_nat, List.drop_zero, Nat.sub_zero, Nat.min_eq_left h]
theorem sgs_from {s : Str} {i : Int} (h0 : 0 ≤ i) (h : i.toNat ≤ s.length) : sgs (cutS s (some i) none) = (sgs s).drop i.toNat := by
  obtain ⟨n, rfl⟩ := Int.eq_ofNat_of_zero_le h0
  rw [Int.toNat_natCast] at h ⊢
  unfold cutS sgs
  rw [HT.sIx_none, HT.sIx_nat, Nat.min_eq_left h]
  exact List.take_of_length_le (by rw [List.length_drop, Array.length_toList]; exact Nat.le_refl _)
theorem sgs_join : ∀ ys : List Str, sgs (Txt.join "" ys) = (ys.map sgs).flatten := fun ys => by
  rw [TL.join_eq]
  show TL.tl (Str.join "" ys) = _
  rw [TL.tl_join]
  have e : TL.tl ("" : Str) = [] := by decide
  rw [e]
  have key : ∀ l : List (List Nat), TL.joinL [] l = l.flatten := fun l => by
    induction l with
    | nil => rfl
    | cons p r ih =>
      cases r with
      | nil => simp [TL.joinL]
      | cons q r => rw [TL.joinL, ih]; simp
  exact key _
theorem sn_Empty : ("Empty" : Str) = ("RateError" : Str) ↔ False := iff_of_false (by decide) id
theorem sn_NoBelt : ("NoBelt" : Str) = ("RateError" : Str) ↔ False := iff_of_false (by decide) id
theorem sn_NoFit : ("NoFit" : Str) = ("RateError" : Str) ↔ False := iff_of_false (by decide) id
theorem sn_NoForm : ("NoForm" : Str) = ("RateError" : Str) ↔ False := iff_of_false (by decide) id
theorem sn_NoLine : ("NoLine" : Str) = ("RateError" : Str) ↔ False := iff_of_false (by decide) id
theorem sn_NoName : ("NoName" : Str) = ("RateError" : Str) ↔ False := iff_of_false (by decide) id
theorem sn_NoPieces : ("NoPieces" : Str) = ("RateError" : Str) ↔ False := iff_of_false (by decide) id
theorem sn_NoRate : ("NoRate" : Str) = ("RateError" : Str) ↔ False := iff_of_false (by decide) id
theorem sn_NoRoom : ("NoRoom" : Str) = ("RateError" : Str) ↔ False := iff_of_false (by decide) id
theorem sn_NoText : ("NoText" : Str) = ("RateError" : Str) ↔ False := iff_of_false (by decide) id
theorem sn_NoWork : ("NoWork" : Str) = ("RateError" : Str) ↔ False := iff_of_false (by decide) id
theorem sn_NotBalanced : ("NotBalanced" : Str) = ("RateError" : Str) ↔ False := iff_of_false (by decide) id
theorem sn_Stuck : ("Stuck" : Str) = ("RateError" : Str) ↔ False := iff_of_false (by decide) id
theorem sn_TooLong : ("TooLong" : Str) = ("RateError" : Str) ↔ False := iff_of_false (by decide) id
theorem sn_TooMuch : ("TooMuch" : Str) = ("RateError" : Str) ↔ False := iff_of_false (by decide) id
theorem sn_Twice : ("Twice" : Str) = ("RateError" : Str) ↔ False := iff_of_false (by decide) id
theorem cur_at {G : Tab} {Γ : Nat → TSp} {p : Addr} {a : Nat} : curG G Γ p a 999999 = S_cur G p a := if_pos rfl
theorem isx_at {G : Tab} {p : Addr} {a : Nat} {k : Int} {μ : Sto} {F : XP} {R : RP} (h : 0 ≤ k) : S_cur G p a [.own p, .int k] μ F R = ((exName G k.toNat).isSome = true ∧ R (.bl (subX G a k.toNat)) μ) := by
  apply propext
  constructor
  · rintro ⟨h', e, h1, h2⟩
    simp only [List.cons.injEq, T.int.injEq, and_true, true_and] at e
    have : k.toNat = h' := by omega
    rw [this]
    exact ⟨h1, h2⟩
  · rintro ⟨h1, h2⟩
    exact ⟨k.toNat, by rw [Int.toNat_of_nonneg h], h1, h2⟩
theorem cut_map {us : List Int} {lo hi : Option Int} : ∃ vs : List Int, cutT (us.map T.int) lo hi = vs.map T.int ∧ vs = (us.drop (HT.sIx us.length 0 lo)).take (HT.sIx us.length us.length hi - HT.sIx us.length 0 lo) := by
  refine ⟨_, ?_, rfl⟩
  unfold cutT
  rw [List.length_map, List.map_take, List.map_drop]
/-! ## 32. Dicts used as sets; loops over numbered things -/
def setD (ks : List Int) : List (Key × T) := ks.map fun k => (.inl k, .bl true)
def addK (ks : List Int) (k : Int) : List Int := if k ∈ ks then ks else ks ++ [k]
theorem mem_addK {ks : List Int} {k x : Int} : x ∈ addK ks k ↔ x ∈ ks ∨ x = k := by
  unfold addK
  split
  · rename_i h
    exact ⟨.inl, fun z => z.elim id fun e => e ▸ h⟩
  · rw [List.mem_append, List.mem_singleton]
theorem nodup_addK {ks : List Int} {k : Int} (h : ks.Nodup) : (addK ks k).Nodup := by
  unfold addK
  split
  · exact h
  · rename_i hk
    refine List.nodup_append.mpr ⟨h, List.pairwise_singleton _ _, fun a ha b hb => ?_⟩
    cases List.mem_singleton.mp hb
    exact fun e => hk (e ▸ ha)
theorem addK_len {ks : List Int} {k : Int} : ks.length ≤ (addK ks k).length := by
  unfold addK
  split
  · exact Nat.le_refl _
  · rw [List.length_append]
    omega
theorem nodup_le : ∀ (n : Nat) (ks : List Int), ks.Nodup → (∀ k ∈ ks, 0 ≤ k ∧ k < n) → ks.length ≤ n
  | 0, [], _, _ => Nat.le_refl _
  | 0, k :: _, _, h => by
    have := h k List.mem_cons_self
    omega
  | n + 1, ks, hn, h => by
    have := nodup_le n (ks.erase (n : Int)) (hn.erase _) fun k hk => by
      obtain ⟨h1, h2⟩ := hn.mem_erase_iff.mp hk
      have := h k h2
      omega
    rw [List.length_erase] at this
    split at this <;> omega
theorem any_setD {ks : List Int} {k : Int} : ((setD ks).any fun kv => decide (kv.1 = (.inl k : Key))) = decide (k ∈ ks) := by
  unfold setD
  rw [List.any_map, Bool.eq_iff_iff, List.any_eq_true, decide_eq_true_eq]
  constructor
  · rintro ⟨x, hx, e⟩
    have e := of_decide_eq_true e
    injection e with e
    exact e ▸ hx
  · intro h
    exact ⟨k, h, decide_eq_true rfl⟩
theorem put_setD {ks : List Int} {k : Int} : putT (setD ks) (.inl k) (.bl true) = setD (addK ks k) := by
  unfold putT
  rw [any_setD]
  unfold addK
  by_cases h : k ∈ ks
  · rw [if_pos (decide_eq_true h), if_pos h]
    unfold setD
    rw [List.map_map]
    refine List.map_congr_left fun x _ => ?_
    show (if (Sum.inl x : Key) = Sum.inl k then ((Sum.inl x : Key), T.bl true) else ((Sum.inl x : Key), T.bl true)) = _
    split <;> rfl
  · rw [if_neg (by rw [decide_eq_true_eq]; exact h), if_neg h]
    unfold setD
    rw [List.map_append]
    rfl
theorem val_setD {ks : List Int} {k : Int} : (valT (setD ks) (.inl k)).isSome = decide (k ∈ ks) := by
  unfold valT
  rw [Option.isSome_map, ← any_setD, Bool.eq_iff_iff, List.find?_isSome, List.any_eq_true]
theorem in_setD {μ : Sto} {p : Addr} {ks : List Int} {i : Int} {neg : Bool} {R : RP} (h : μ p = some (.dict (setD ks))) : tIn neg (.int i) (.own p) μ R = R (.bl (if neg = true then !decide (i ∈ ks) else decide (i ∈ ks))) μ := by
  simp only [tIn, isDict, h, onK, T.own.injEq, Option.some.injEq, Ob.dict.injEq, keyT, exists_eq_left', exists_and_left, val_setD]
theorem set_setD {μ : Sto} {p : Addr} {ks : List Int} {i : Int} {K : Sto → Prop} (h : μ p = some (.dict (setD ks))) : tSet (.own p) (.int i) (.bl true) μ K = (ks.length < sizeLine ∧ K (μ.set p (.dict (setD (addK ks i))))) := by
  have : (setD ks).length = ks.length := List.length_map _
  simp only [tSet, isDict, h, onK, T.own.injEq, Option.some.injEq, Ob.dict.injEq, keyT, exists_eq_left', exists_and_left, put_setD, this]
theorem for_enum {α : Type} {xs : List α} {f : α → T} {g : Tg} {body : SEnds → Ro → Sto → Prop} {gd : Sto → Prop} {D : SEnds} {ρ : Ro} {μ : Sto} (I : Nat → Ro → Sto → Prop) (h0 : I 0 ρ μ) (h1 : ∀ ρ μ, I xs.length ρ μ → gd μ ∧ D.nx ρ μ) (h2 : ∀ k x ρ μ, xs[k]? = some x → I k ρ μ → gd μ ∧ bindT g (.tup [.int (k : Nat), f x]) ρ μ fun ρ' =>
    body { D with nx := fun ρ2 μ2 => ∃ ρ3 μ3, Wk ρ2 μ2 ρ3 μ3 ∧ I (k + 1) ρ3 μ3, ct := fun ρ2 μ2 => ∃ ρ3 μ3, Wk ρ2 μ2 ρ3 μ3 ∧ I (k + 1) ρ3 μ3, bk := D.nx } ρ' μ) : forD g body ((xs.map f).zipIdx.map fun p => .tup [.int (p.2 : Nat), p.1]) gd D ρ μ := by
  have e : ((xs.map f).zipIdx.map fun p => T.tup [.int (p.2 : Nat), p.1]) = xs.zipIdx.map (fun p => T.tup [.int (p.2 : Nat), f p.1]) := by
    rw [List.zipIdx_map, List.map_map]
    rfl
  rw [e]
  refine for_map (xs := xs.zipIdx) I h0 (fun ρ μ h => h1 ρ μ (by rwa [List.length_zipIdx] at h)) fun k p ρ μ hk hI => ?_
  rw [List.getElem?_zipIdx, Option.map_eq_some_iff] at hk
  obtain ⟨x, hx, rfl⟩ := hk
  rw [show (0 + k : Nat) = k from Nat.zero_add k]
  exact h2 k x ρ μ hx hI
end Rh

namespace Lw
open PySem PySem.Spec PyProof.Rows L2 Rh
local macro_rules | `(tactic| simp_arith [$ls,*]) => `(tactic| simp only [Rh.cur_at, Rh.isx_at, Rh.exName, Option.isSome_some, Int.reduceToNat, Rh.subX, Nat.reduceEqDiff, Bool.or_true, Bool.true_or, Bool.or_false, Bool.false_or, Rh.sn_Empty, Rh.sn_NoBelt, Rh.sn_NoFit, Rh.sn_NoForm, Rh.sn_NoLine, Rh.sn_NoName, Rh.sn_NoPieces, Rh.sn_NoRate, Rh.sn_NoRoom, Rh.sn_NoText, Rh.sn_NoWork, Rh.sn_NotBalanced, Rh.sn_Stuck, Rh.sn_TooLong, Rh.sn_TooMuch, Rh.sn_Twice, decide_not, Int.toNat_natCast, Rh.bf_len, Rh.bf_sum, Rh.bf_max2, Rh.bf_min2, Rh.bf_max3, Rh.bf_min3, Rh.bf_max1, Rh.bf_min1, Rh.bf_list_tup, Rh.bf_list_lst, Rh.bf_list_scr, Rh.bf_list_own, Rh.bf_tuple_tup, Rh.bf_tuple_lst, Rh.bf_tuple_own, Rh.bf_sorted, Rh.bf_all, Rh.bf_any, Rh.bf_str, Rh.bf_int, Rh.bf_intb, Rh.lm_append, Rh.lm_pop, Rh.lm_popAt, Rh.lm_extend, Rh.lm_index, Rh.lm_insert, Rh.lm_join, Rh.lm_split, Rh.lm_part, Rh.lm_starts, Rh.lm_count, Rh.lm_remove, Rh.ad_lst, Rh.rc_join, Rh.rc_split, Rh.rc_part, Rh.rc_starts, Rh.rc_append, Rh.rc_pop, Rh.rc_popAt, Rh.rc_extend, Rh.rc_index, Rh.rc_insert, Rh.rc_remove, Rh.rc_count, Nat.reduceSub, List.drop_succ_cons, Rh.set_self, Rh.ix_tup, Rh.ix_lst, Rh.ix_scr, Rh.ix_str, Rh.ix_own, Rh.ln_str, Rh.ln_tup, Rh.ln_lst, Rh.ln_scr, Rh.ln_own, Rh.dc_own, Rh.dc_lst, Rh.dc_scr, Rh.vl_lst, Rh.vl_scr, Rh.vl_own, Rh.sl_lst, Rh.sl_own, Rh.ad_int, Rh.ad_str, Rh.ad_tup, Rh.ml_int, Rh.ml_lst, Rh.slc_lst, Rh.slc_scr, Rh.ml_str, Rh.tr_non, Rh.tr_bl, Rh.tr_int, Rh.tr_str, Rh.tr_tup, Rh.tr_lst, Rh.tr_own, Rh.ag_add, Rh.ag_sub, Rh.up_tup, Rh.up_lst, Rh.up_own, Rh.eq_ints, Rh.T.str.injEq, Rh.eq_tup2, Rh.Ob.lst.injEq, Rh.Ob.dict.injEq, Rh.Ob.obj.injEq, List.length_map, List.length_append, List.length_range, Rh.den, Rh.dens, Rh.plain, Rh.cmpd, Rh.evs, Rh.boV, Rh.boT, Rh.bindT, Rh.bindTs, Rh.tCmp, Rh.eq_int, Rh.eq_str, Rh.eq_bl, Rh.tBin, Rh.in_str, Rh.FnI.rest, Rh.onL, Rh.onS, Rh.is_non, Rh.is_bl, Rh.is_int, Rh.is_str, Rh.is_tup, Rh.is_lst, Rh.is_own, Rh.iK_int_NoneType, Rh.iK_int_bool, Rh.iK_int_int, Rh.iK_int_str, Rh.iK_int_tuple, Rh.iK_int_list, Rh.iK_int_dict, Rh.iK_bool_NoneType, Rh.iK_bool_bool, Rh.iK_bool_int, Rh.iK_bool_str, Rh.iK_bool_tuple, Rh.iK_bool_list, Rh.iK_bool_dict, Rh.iK_str_NoneType, Rh.iK_str_bool, Rh.iK_str_int, Rh.iK_str_str, Rh.iK_str_tuple, Rh.iK_str_list, Rh.iK_str_dict, Rh.iK_list_NoneType, Rh.iK_list_bool, Rh.iK_list_int, Rh.iK_list_str, Rh.iK_list_tuple, Rh.iK_list_list, Rh.iK_list_dict, Rh.iK_tuple_NoneType, Rh.iK_tuple_bool, Rh.iK_tuple_int, Rh.iK_tuple_str, Rh.iK_tuple_tuple, Rh.iK_tuple_list, Rh.iK_tuple_dict, Rh.iK_dict_NoneType, Rh.iK_dict_bool, Rh.iK_dict_int, Rh.iK_dict_str, Rh.iK_dict_tuple, Rh.iK_dict_list, Rh.iK_dict_dict, Rh.at_0, Rh.at_1, Rh.at_2, Rh.at_3, Rh.at_4, Rh.at_last, Rh.scr_inj, Rh.cdiv_lit, Rh.mul_litR, Rh.mul_litL, Int.reduceLT, Int.reduceLE, Int.le_refl, and_assoc, exists_eq, exists_eq', Bool.not_eq_false', Bool.not_eq_true', Bool.not_eq_true, Bool.not_eq_false, decide_eq_true_eq, decide_eq_false_iff_not, Decidable.not_not, Rh.nil_den, Bool.not_true, Bool.not_false, decide_true, decide_false, if_false, Rh.optI, Rh.isNon, Rh.itT, Rh.onM, Rh.newL, Rh.tSet, List.cons_append, List.nil_append, List.append_nil, List.length_cons, List.length_nil, List.getElem?_cons_zero, List.getElem?_cons_succ, List.map_cons, List.map_nil, List.drop_nil, List.drop_zero, List.set_cons_zero, List.set_cons_succ, List.replicate, List.cons.injEq, Option.some.injEq, Rh.T.int.injEq, Rh.T.bl.injEq, Rh.T.own.injEq, Rh.T.tup.injEq, Rh.T.lst.injEq, exists_eq_left, exists_eq_left', exists_eq_right, exists_and_left, and_true, true_and, Rh.xp_mk, Rh.bodyD, if_true, reduceIte, Bool.false_eq_true, not_false_eq_true, not_true_eq_false, Int.natCast_one, Int.natCast_zero, Int.cast_ofNat_Int, Nat.reduceAdd, Nat.reduceLeDiff, Rh.sz, Int.reduceEq, ne_eq, Int.toNat_zero, Rh.emod_nn, Rh.emod_lt, Rh.nat_nn, $ls,*])
theorem gcd_parts {a b : Int} (ha : 0 < a) (hb : 0 < b) : ∃ g x y : Int, (Int.gcd a b : Int) = g ∧ 0 < g ∧ 0 < x ∧ 0 < y ∧ a = g * x ∧ b = g * y ∧ Int.gcd x y = 1 := by
  have hg : 0 < Int.gcd a b := Int.gcd_pos_of_ne_zero_left _ (by omega)
  have hg' : (0:Int) < (Int.gcd a b : Int) := by omega
  obtain ⟨x, hx⟩ := Int.gcd_dvd_left (a := a) (b := b)
  obtain ⟨y, hy⟩ := Int.gcd_dvd_right (a := a) (b := b)
  refine ⟨_, x, y, rfl, hg', ?_, ?_, hx, hy, ?_⟩
  · exact Int.pos_of_mul_pos_right (hx ▸ ha) (by omega)
  · exact Int.pos_of_mul_pos_right (hy ▸ hb) (by omega)
  · have h := Int.gcd_mul_left (Int.gcd a b) x y
    rw [← hx, ← hy] at h
    simp only [Int.natAbs_natCast] at h
    exact Nat.eq_of_mul_eq_mul_left hg (by rw [Nat.mul_one]; exact h.symm)
theorem gcd_last {t a c : Int} (ht : 0 < t) : (Int.gcd (t * a) (t * (a * c + 1)) : Int) = t := by
  rw [Int.gcd_mul_left]
  have : Int.gcd a (a * c + 1) = 1 := by
    have h1 := Int.gcd_dvd_left (a := a) (b := a * c + 1)
    have h2 := Int.gcd_dvd_right (a := a) (b := a * c + 1)
    have h3 : (Int.gcd a (a * c + 1) : Int) ∣ 1 := by
      have := Int.dvd_sub h2 (Int.dvd_mul_of_dvd_left (c := c) h1)
      rwa [show a * c + 1 - a * c = 1 by omega] at this
    exact Int.natCast_dvd_natCast.mp h3 |> Nat.dvd_one.mp
  rw [this]
  omega
def rat (a b : Int) : Int × Int := (a / (Int.gcd a b : Int), b / (Int.gcd a b : Int))
theorem rat_spec {a b : Int} (ha : 0 < a) (hb : 0 < b) : 0 < (rat a b).1 ∧ 0 < (rat a b).2 ∧ Int.gcd (rat a b).1 (rat a b).2 = 1 ∧ (rat a b).1 * b = (rat a b).2 * a ∧ (rat a b).1 ≤ a ∧ (rat a b).2 ≤ b := by
  obtain ⟨g, x, y, e, hg, hx, hy, ea, eb, h1⟩ := gcd_parts ha hb
  unfold rat
  rw [e]
  subst ea eb
  simp only [Int.mul_ediv_cancel_left _ (show g ≠ 0 by omega)]
  refine ⟨hx, hy, h1, by rw [← Int.mul_assoc, ← Int.mul_assoc, Int.mul_comm x g, Int.mul_comm y g, Int.mul_assoc, Int.mul_assoc, Int.mul_comm x y], ?_, ?_⟩
  · exact Int.le_of_dvd (by assumption) ⟨g, Int.mul_comm _ _⟩
  · exact Int.le_of_dvd (by assumption) ⟨g, Int.mul_comm _ _⟩
theorem rat_mul {a b e : Int} (he : 0 < e) : rat (a * e) (b * e) = rat a b := by
  unfold rat
  rw [Int.gcd_mul_right]
  have : ((Int.gcd a b * e.natAbs : Nat) : Int) = (Int.gcd a b : Int) * e := by
    rw [Int.natCast_mul]
    congr 1
    omega
  rw [this]
  rw [Int.mul_ediv_mul_of_pos_left _ _ he, Int.mul_ediv_mul_of_pos_left _ _ he]
theorem rat_inv {x y : Int} (hx : 0 < x) (hy : 0 < y) : rat (x * y) (y * x) = (1, 1) := by
  unfold rat
  rw [Int.mul_comm y x]
  have h : 0 < x * y := Int.mul_pos hx hy
  have e : (Int.gcd (x * y) (x * y) : Int) = x * y := by
    rw [Int.gcd_self]
    omega
  rw [e, Int.ediv_self (by omega)]
theorem times_is {a b c d x y z w : Int} (hx : 0 < x) (hy : 0 < y) (hz : 0 < z) (hw : 0 < w) (h1 : x * b = y * a) (h2 : z * d = w * c) : (rat (x * z) (y * w)).1 * (b * d) = (rat (x * z) (y * w)).2 * (a * c) := by
  obtain ⟨p, q, _, e, _⟩ := rat_spec (Int.mul_pos hx hz) (Int.mul_pos hy hw)
  -- r1 * (y w) = r2 * (x z)
  generalize (rat (x * z) (y * w)).1 = r at *
  generalize (rat (x * z) (y * w)).2 = s at *
  have hyw : y * w ≠ 0 := Int.ne_of_gt (Int.mul_pos hy hw)
  apply Int.eq_of_mul_eq_mul_left hyw
  calc (y * w) * (r * (b * d)) = (r * (y * w)) * (b * d) := by ac_rfl
    _ = (s * (x * z)) * (b * d) := by rw [e]
    _ = s * ((x * b) * (z * d)) := by ac_rfl
    _ = s * ((y * a) * (w * c)) := by rw [h1, h2]
    _ = (y * w) * (s * (a * c)) := by ac_rfl
structure Ln where
  g : Int
  t : Int
  gi : Int
  ta : Int
  st : Int
  deriving DecidableEq
def Ln.tr (l : Ln) : T := .tup [.int l.g, .int l.t, .int l.gi, .int l.ta, .int l.st]
instance : Tt Ln where
  tt := Ln.tr
  dd l := .tuple [.int l.g, .int l.t, .int l.gi, .int l.ta, .int l.st]
  ok _ := True
  lv := 1
  dat μ n l h := by
    match n, h with
    | n + 2, _ => rfl
  eqv a b := by
    simp only [PyData.eqv, PyData.eqvAll, beqd, Bool.and_true, ← Bool.decide_and]
    exact decide_eq_decide.mpr ⟨fun ⟨h1, h2, h3, h4, h5⟩ => by cases a; cases b; simp_all, fun e => by rw [e]; simp⟩
  lay _ _ := rfl
  dep _ := Nat.le_refl _
/-- a hall in the store -/
structure HallAt (μ : Sto) (h l1 l2 : Addr) (ns : List Str) (ls : List Ln) : Prop where
  o : μ h = some (.obj 3 [.own l1, .own l2])
  w : μ l1 = some (.lst (ns.map T.str))
  b : μ l2 = some (.lst (ls.map Ln.tr))
  ne : l1 ≠ l2
theorem HallAt.h1 {μ : Sto} {h l1 l2 : Addr} {ns : List Str} {ls : List Ln} (H : HallAt μ h l1 l2 ns ls) : h ≠ l1 := fun e => by
  have := H.w
  rw [← e, H.o] at this
  cases this
theorem HallAt.h2 {μ : Sto} {h l1 l2 : Addr} {ns : List Str} {ls : List Ln} (H : HallAt μ h l1 l2 ns ls) : h ≠ l2 := fun e => by
  have := H.b
  rw [← e, H.o] at this
  cases this
theorem HallAt.put {μ : Sto} {h l1 l2 p : Addr} {ns : List Str} {ls : List Ln} {ob : Ob} (H : HallAt μ h l1 l2 ns ls) (a : h ≠ p) (b : l1 ≠ p) (c : l2 ≠ p) : HallAt (μ.set p ob) h l1 l2 ns ls :=
  ⟨by rw [set_ne a]; exact H.o, by rw [set_ne b]; exact H.w, by rw [set_ne c]; exact H.b, H.ne⟩
theorem HallAt.fresh {μ : Sto} {h l1 l2 p : Addr} {ns : List Str} {ls : List Ln} {ob : Ob} (H : HallAt μ h l1 l2 ns ls) (hp : μ p = none) : HallAt (μ.set p ob) h l1 l2 ns ls :=
  H.put (nofr H.o hp) (nofr H.w hp) (nofr H.b hp)
theorem HallAt.addW {μ : Sto} {h l1 l2 : Addr} {ns : List Str} {ls : List Ln} (H : HallAt μ h l1 l2 ns ls) (n : Str) : HallAt (μ.set l1 (.lst (ns.map T.str ++ [.str n]))) h l1 l2 (ns ++ [n]) ls :=
  ⟨by rw [set_ne H.h1]; exact H.o, by rw [set_self, List.map_append]; rfl, by rw [set_ne H.ne.symm]; exact H.b, H.ne⟩
theorem HallAt.addB {μ : Sto} {h l1 l2 : Addr} {ns : List Str} {ls : List Ln} (H : HallAt μ h l1 l2 ns ls) (l : Ln) : HallAt (μ.set l2 (.lst (ls.map Ln.tr ++ [l.tr]))) h l1 l2 ns (ls ++ [l]) :=
  ⟨by rw [set_ne H.h2]; exact H.o, by rw [set_ne H.ne]; exact H.w, by rw [set_self, List.map_append]; rfl, H.ne⟩
theorem HallAt.init {μ : Sto} {h l1 l2 : Addr} (e1 : (μ.set h (.obj 3 [])) l1 = none) (e2 : (μ.set h (.obj 3 [])) l2 = none) (ne : ¬ l1 = l2) : HallAt ((((μ.set h (.obj 3 [])).set l1 (.lst [])).set l2 (.lst [])).set h (.obj 3 [.own l1, .own l2])) h l1 l2 [] [] := by
  have n1 : l1 ≠ h := fun e => by
    rw [e, set_self] at e1
    cases e1
  have n2 : l2 ≠ h := fun e => by
    rw [e, set_self] at e2
    cases e2
  exact ⟨set_self, by rw [set_ne n1, set_ne ne, set_self]; rfl, by rw [set_ne n2, set_self]; rfl, ne⟩
def abc : Str := "abcdefghijklmnopqrstuvwxyz"
def isName (s : Str) : Bool := decide (1 ≤ s.length) && decide (s.length ≤ 8) && s.cps.toList.all fun c => decide (c ∈ abc.cps.toList)
def isNameT : T → Bool
  | .str s => isName s
  | _ => false
theorem isName_iff {s : Str} : isName s = true ↔ 1 ≤ s.cps.toList.length ∧ s.cps.toList.length ≤ 8 ∧ ∀ c ∈ s.cps.toList, c ∈ abc.cps.toList := by
  unfold isName
  simp only [Bool.and_eq_true, decide_eq_true_eq, List.all_eq_true, Array.length_toList]
  exact ⟨fun ⟨⟨a, b⟩, c⟩ => ⟨a, b, c⟩, fun ⟨a, b, c⟩ => ⟨⟨a, b⟩, c⟩⟩
theorem abc_ok : ∀ c ∈ abc.cps.toList, c < 0x110000 := by decide +kernel
theorem isName_ok {s : Str} (h : isName s = true) : sOk s ∧ s.length ≤ 8 := by
  obtain ⟨a, b, c⟩ := isName_iff.mp h
  refine ⟨?_, by rw [Array.length_toList] at b; exact b⟩
  unfold sOk
  rw [← Array.all_toList, List.all_eq_true]
  intro x hx
  exact decide_eq_true (abc_ok x (c x hx))
theorem HallAt.setB {μ : Sto} {h l1 l2 : Addr} {ns : List Str} {ls : List Ln} (H : HallAt μ h l1 l2 ns ls) (i : Nat) (l : Ln) : HallAt (μ.set l2 (.lst ((ls.map Ln.tr).set i l.tr))) h l1 l2 ns (ls.set i l) :=
  ⟨by rw [set_ne H.h2]; exact H.o, by rw [set_ne H.ne]; exact H.w, by rw [set_self, List.map_set], H.ne⟩
/-- the places at which something holds, rising -/
def spots (p : Ln → Bool) (ls : List Ln) : List Int := ((List.range ls.length).filter fun i => (ls[i]?).any p).map fun i : Nat => (i : Int)
theorem zip_spots {α : Type} (p : α → Bool) : ∀ (ls : List α) (k : Nat), ((ls.zipIdx k).filter fun x => p x.1).map (·.2) = ((List.range ls.length).filter fun i => (ls[i]?).any p).map (· + k)
  | [], _ => rfl
  | a :: r, k => by
    rw [List.zipIdx_cons, List.length_cons, List.range_succ_eq_map, List.filter_cons, List.filter_cons, List.filter_map]
    have e : ((fun i => ((a :: r)[i]?).any p) ∘ Nat.succ) = fun i => (r[i]?).any p := rfl
    have ih := zip_spots p r (k + 1)
    rw [e]
    show (if p a = true then (a, k) :: ((r.zipIdx (k + 1)).filter fun x => p x.1) else (r.zipIdx (k + 1)).filter fun x => p x.1).map (·.2) = (if p a = true then 0 :: (((List.range r.length).filter fun i => (r[i]?).any p).map Nat.succ) else ((List.range r.length).filter fun i => (r[i]?).any p).map Nat.succ).map (· + k)
    have e2 : (((List.range r.length).filter fun i => (r[i]?).any p).map Nat.succ).map (· + k) = ((List.range r.length).filter fun i => (r[i]?).any p).map (· + (k + 1)) := by
      rw [List.map_map]
      refine List.map_congr_left fun i _ => ?_
      show i + 1 + k = i + (k + 1)
      omega
    split
    · rw [List.map_cons, List.map_cons, ih, e2, Nat.zero_add]
    · rw [ih, e2]
def chg (cs : List Int) (l : Ln) : Int := l.gi * cnt cs l.g - l.ta * cnt cs l.t
def higher (cs : List Int) (l : Ln) : Int := l.st + l.gi * (Rh.cnt cs l.g + 1) - l.ta * Rh.cnt cs l.t
def raise1 (ls : List Ln) (rooms cs : List Int) (n : Int) : Option (List Int) := if 0 ≤ n - ls.length then (ls[(n - ls.length).toNat]?).map fun l => rooms.set (n - ls.length).toNat (higher cs l) else none
def lin (xs : List Int) : T := .lst (xs.map T.int)
structure RaiseOk (ls : List Ln) (rooms cs ring : List Int) : Prop where
  len : rooms.length = ls.length
  r : ∀ n ∈ ring, 0 ≤ n ∧ n < 2 * ls.length
  c : ∀ l ∈ ls, 0 ≤ Ln.g l ∧ l.g < cs.length ∧ 0 ≤ l.t ∧ l.t < cs.length ∧ MulOk l.gi (Rh.cnt cs l.g + 1) ∧ MulOk l.ta (Rh.cnt cs l.t)
  sz : ls.length ≤ 1000
  rl : ring.length ≤ 1000
def rdy (ls : List Ln) (hs : List Int) (w : Int) : Bool := (ls.zip hs).all fun p => !(decide (p.1.t = w) && decide (p.2 < p.1.ta))
def shf (l : Ln) (h w : Int) : Int := (if l.g = w then (if l.t = w then h - l.ta else h) + l.gi else (if l.t = w then h - l.ta else h))
def shiftL (ls : List Ln) (hs : List Int) (w : Int) : List Int := (ls.zip hs).map fun p => shf p.1 p.2 w
def flr (ls : List Ln) (many : Int) (hs : List Int) : Ob := .obj 2 [.lst (ls.map Ln.tr), .int many, .lst (hs.map T.int)]
def goR (ls : List Ln) (many : Int) : List Int → List Int → Except Nat (List Int)
  | [], hs => .ok hs
  | w :: r, hs => if 0 ≤ w ∧ w < many then (if rdy ls hs w = true then goR ls many r (shiftL ls hs w) else .error 0) else .error 10
theorem shiftL_len {ls : List Ln} {hs : List Int} {w : Int} (h : hs.length = ls.length) : (shiftL ls hs w).length = ls.length := by
  unfold shiftL
  rw [List.length_map, List.length_zip, h, Nat.min_self]
theorem goR_err {ls : List Ln} {m : Int} : ∀ {row hs : List Int} {e : Nat}, goR ls m row hs = .error e → e = 10 ∨ e = 0
  | [], _, _, h => by cases h
  | w :: r, hs, e, h => by
    rw [goR] at h
    split at h
    · split at h
      · exact goR_err h
      · cases h
        exact .inr rfl
    · cases h
      exact .inl rfl
theorem goR_app {ls : List Ln} {m : Int} : ∀ {a b hs hs' : List Int}, goR ls m a hs = .ok hs' → goR ls m (a ++ b) hs = goR ls m b hs'
  | [], _, _, _, h => by cases h; rfl
  | w :: r, b, hs, hs', h => by
    rw [goR] at h
    rw [List.cons_append, goR]
    split at h
    · rename_i h0
      rw [if_pos h0]
      split at h
      · rename_i h1
        rw [if_pos h1]
        exact goR_app h
      · cases h
    · cases h
theorem goR_len {ls : List Ln} {m : Int} : ∀ {row hs hs' : List Int}, hs.length = ls.length → goR ls m row hs = .ok hs' → hs'.length = ls.length
  | [], _, _, e, h => by cases h; exact e
  | w :: r, hs, hs', e, h => by
    rw [goR] at h
    split at h
    · split at h
      · exact goR_len (shiftL_len e) h
      · cases h
    · cases h
theorem zip_tr (ls : List Ln) (hs : List Int) : ((ls.map Ln.tr).zip (hs.map T.int)).map (fun p : T × T => T.tup [p.1, p.2]) = (ls.zip hs).map fun p => T.tup [p.1.tr, .int p.2] := by
  rw [List.zip_map, List.map_map]
  rfl
def bmax (a b : Int) : Int := if b > a then b else a
def pk1 (ls : List Ln) (hs ms : List Int) (w : Int) : List Int := ((ls.zip hs).zip ms).map fun p => if p.1.1.g = w then bmax p.2 (p.1.2 + p.1.1.gi) else p.2
def pkL (ls : List Ln) : List Int → List Int → List Int → List Int
  | [], _, ms => ms
  | w :: r, hs, ms => pkL ls r (shiftL ls hs w) (pk1 ls hs ms w)
theorem pk1_len {ls : List Ln} {hs ms : List Int} {w : Int} (h : hs.length = ls.length) (k : ms.length = ls.length) : (pk1 ls hs ms w).length = ls.length := by
  unfold pk1
  rw [List.length_map, List.length_zip, List.length_zip, h, k, Nat.min_self, Nat.min_self]
theorem pk1_at {ls : List Ln} {hs ms : List Int} {w : Int} {i : Nat} {l : Ln} {h m : Int} (el : ls[i]? = some l) (eh : hs[i]? = some h) (em : ms[i]? = some m) : (pk1 ls hs ms w)[i]? = some (if l.g = w then bmax m (h + l.gi) else m) := by
  unfold pk1
  rw [List.getElem?_map, (List.getElem?_zip_eq_some (z := ((l, h), m))).mpr ⟨(List.getElem?_zip_eq_some (z := (l, h))).mpr ⟨el, eh⟩, em⟩]
  rfl
theorem goR_work {ls : List Ln} {m : Int} : ∀ {row hs : List Int} {hs' : List Int}, goR ls m row hs = .ok hs' → ∀ w ∈ row, 0 ≤ w ∧ w < m
  | [], _, _, _, w, hw => by cases hw
  | v :: r, hs, hs', h, w, hw => by
    rw [goR] at h
    split at h
    · rename_i h0
      split at h
      · rcases List.mem_cons.mp hw with rfl | hw
        · exact h0
        · exact goR_work h w hw
      · cases h
    · cases h
theorem spots_mem {p : Ln → Bool} {ls : List Ln} {x : Int} : x ∈ spots p ls ↔ ∃ i : Nat, x = (i : Int) ∧ ∃ l, ls[i]? = some l ∧ p l = true := by
  unfold spots
  rw [List.mem_map]
  constructor
  · rintro ⟨i, hi, rfl⟩
    obtain ⟨h1, h2⟩ := List.mem_filter.mp hi
    have h3 := List.mem_range.mp h1
    rw [List.getElem?_eq_getElem h3] at h2
    exact ⟨i, rfl, _, List.getElem?_eq_getElem h3, h2⟩
  · rintro ⟨i, rfl, l, e, h⟩
    refine ⟨i, List.mem_filter.mpr ⟨List.mem_range.mpr (List.getElem?_eq_some_iff.mp e).1, ?_⟩, rfl⟩
    rw [e]
    exact h
theorem spots_nodup {p : Ln → Bool} {ls : List Ln} : (spots p ls).Nodup := by
  unfold spots
  refine List.Pairwise.map _ (fun a b (h : a ≠ b) => ?_) (List.Pairwise.filter _ List.nodup_range)
  intro z
  exact h (by omega)
theorem nodup_at {xs : List Int} (h : xs.Nodup) {k : Nat} {x : Int} (e : xs[k]? = some x) : x ∉ xs.take k := by
  intro hm
  obtain ⟨j, hj, e2⟩ := List.mem_iff_getElem.mp hm
  rw [List.length_take] at hj
  rw [List.getElem_take] at e2
  obtain ⟨hk, e3⟩ := List.getElem?_eq_some_iff.mp e
  have := (List.getElem_inj (h₀ := by omega) (h₁ := hk) h).mp (e2.trans e3.symm)
  omega
/-- two works joined by an edge -/
def Adj (es : List (Int × Int)) (a b : Int) : Prop := (a, b) ∈ es ∨ (b, a) ∈ es
inductive Con (es : List (Int × Int)) (a : Int) : Int → Prop
  | refl : Con es a a
  | step {b c : Int} : Con es a b → Adj es b c → Con es a c
theorem Adj.symm {es : List (Int × Int)} {a b : Int} (h : Adj es a b) : Adj es b a := Or.symm h
theorem Con.trans {es : List (Int × Int)} {a b c : Int} (h : Con es a b) (k : Con es b c) : Con es a c := by
  induction k with
  | refl => exact h
  | step _ e ih => exact ih.step e
theorem Con.one {es : List (Int × Int)} {a b : Int} (h : Adj es a b) : Con es a b := Con.refl.step h
theorem Con.symm {es : List (Int × Int)} {a b : Int} (h : Con es a b) : Con es b a := by
  induction h with
  | refl => exact .refl
  | step _ e ih => exact (Con.one e.symm).trans ih
/-- an edge's ends lie in their range -/
def Inr (es : List (Int × Int)) (n : Nat) : Prop := ∀ e ∈ es, (0 ≤ e.1 ∧ e.1 < n) ∧ (0 ≤ e.2 ∧ e.2 < n)
theorem Adj.inr {es : List (Int × Int)} {n : Nat} {a b : Int} (hi : Inr es n) (h : Adj es a b) : (0 ≤ a ∧ a < n) ∧ (0 ≤ b ∧ b < n) := by
  rcases h with h | h
  · exact hi _ h
  · exact (hi _ h).symm
theorem Con.inr {es : List (Int × Int)} {n : Nat} {a b : Int} (hi : Inr es n) (h : Con es a b) (ha : 0 ≤ a ∧ a < n) : 0 ≤ b ∧ b < n := by
  cases h with
  | refl => exact ha
  | step _ e => exact (e.inr hi).2
open Classical in
/-- a work's piece, rising -/
noncomputable def compL (es : List (Int × Int)) (n : Nat) (a : Int) : List Int := ((List.range n).map fun i : Nat => (i : Int)).filter fun b => decide (Con es a b)
/-- the first work of its piece -/
def Fst (es : List (Int × Int)) (a : Int) : Prop := ∀ u, Con es a u → a ≤ u
open Classical in
noncomputable def firsts (es : List (Int × Int)) (n : Nat) : List Int := ((List.range n).map fun i : Nat => (i : Int)).filter fun a => decide (Fst es a)
noncomputable def piecesOf (es : List (Int × Int)) (n : Nat) : List (List Int) := (firsts es n).map (compL es n)
theorem rngI_mem {n : Nat} {x : Int} : x ∈ ((List.range n).map fun i : Nat => (i : Int)) ↔ 0 ≤ x ∧ x < n := by
  rw [List.mem_map]
  constructor
  · rintro ⟨i, hi, rfl⟩
    have := List.mem_range.mp hi
    omega
  · intro h
    exact ⟨x.toNat, List.mem_range.mpr (by omega), by omega⟩
theorem rngI_lt {n : Nat} : ((List.range n).map fun i : Nat => (i : Int)).Pairwise (· < ·) := List.Pairwise.map _ (fun a b (h : a < b) => by omega) List.pairwise_lt_range
open Classical in
theorem compL_mem {es : List (Int × Int)} {n : Nat} {a b : Int} (hi : Inr es n) (ha : 0 ≤ a ∧ a < n) : b ∈ compL es n a ↔ Con es a b := by
  unfold compL
  rw [List.mem_filter, rngI_mem, decide_eq_true_eq]
  exact ⟨fun h => h.2, fun h => ⟨h.inr hi ha, h⟩⟩
theorem compL_lt {es : List (Int × Int)} {n : Nat} {a : Int} : (compL es n a).Pairwise (· < ·) := List.Pairwise.filter _ rngI_lt
theorem nodup_of_lt {xs : List Int} (h : xs.Pairwise (· < ·)) : xs.Nodup := h.imp fun h => by omega
theorem rise_eq {xs ys : List Int} (h1 : xs.Nodup) (h2 : xs.Pairwise (· ≤ ·)) (h3 : ys.Pairwise (· < ·)) (h : ∀ a, a ∈ xs ↔ a ∈ ys) : xs = ys :=
  List.Perm.eq_of_pairwise (le := (· ≤ ·)) (fun a b _ _ h1 h2 => Int.le_antisymm h1 h2) h2 (h3.imp fun h => Int.le_of_lt h) ((List.perm_ext_iff_of_nodup h1 (nodup_of_lt h3)).mpr h)
/-- what the search knows -/
structure RInv (es : List (Int × Int)) (n : Nat) (first : Int) (P : Int → Prop) (ks td : List Int) : Prop where
  nd : ks.Nodup
  con : ∀ x ∈ ks, Con es first x
  bd : ∀ x ∈ ks, 0 ≤ x ∧ x < n
  sub : ∀ x ∈ td, x ∈ ks
  f : first ∈ ks
  cl : ∀ x ∈ ks, x ∉ td → ¬ P x → ∀ y, Adj es x y → y ∈ ks
theorem RInv.add {es : List (Int × Int)} {n : Nat} {first w x : Int} {P : Int → Prop} {ks td : List Int} (h : RInv es n first P ks td) (hi : Inr es n) (hx : x ∉ ks) (hw : w ∈ ks) (ha : Adj es w x) : RInv es n first P (ks ++ [x]) (td ++ [x]) where
  nd := by
    have := nodup_addK (k := x) h.nd
    rwa [addK, if_neg hx] at this
  con y hy := by
    rcases List.mem_append.mp hy with hy | hy
    · exact h.con y hy
    · cases List.mem_singleton.mp hy
      exact (h.con w hw).step ha
  bd y hy := by
    rcases List.mem_append.mp hy with hy | hy
    · exact h.bd y hy
    · cases List.mem_singleton.mp hy
      exact (ha.inr hi).2
  sub y hy := by
    rcases List.mem_append.mp hy with hy | hy
    · exact List.mem_append.mpr (.inl (h.sub y hy))
    · exact List.mem_append.mpr (.inr hy)
  f := List.mem_append.mpr (.inl h.f)
  cl y hy hn hp z hz := by
    rcases List.mem_append.mp hy with hy | hy
    · exact List.mem_append.mpr (.inl (h.cl y hy (fun z => hn (List.mem_append.mpr (.inl z))) hp z hz))
    · exact absurd (List.mem_append.mpr (.inr hy)) hn
theorem RInv.end_ {es : List (Int × Int)} {n : Nat} {first : Int} {ks ys : List Int} (h : RInv es n first (fun _ => False) ks []) (hi : Inr es n) (hp : ys.Perm ks) (hs : ys.Pairwise (· ≤ ·)) : ys = compL es n first := by
  refine rise_eq (hp.nodup_iff.mpr h.nd) hs compL_lt fun a => ?_
  rw [hp.mem_iff, compL_mem hi (h.bd _ h.f)]
  refine ⟨h.con a, fun hc => ?_⟩
  induction hc with
  | refl => exact h.f
  | step _ e ih => exact h.cl _ ih List.not_mem_nil id _ e
/-! labels -/
def low (xs : List Int) (e : Int × Int) : Int := if cnt xs e.2 < cnt xs e.1 then cnt xs e.2 else cnt xs e.1
def rlx (xs : List Int) (e : Int × Int) : List Int := (xs.set e.1.toNat (low xs e)).set e.2.toNat (low xs e)
theorem cnt_set {xs : List Int} {i j v : Int} (h0 : 0 ≤ i) (h1 : i < xs.length) (h2 : 0 ≤ j) : cnt (xs.set i.toNat v) j = if i = j then v else cnt xs j := by
  unfold Rh.cnt
  rw [List.getElem?_set]
  by_cases e : i = j
  · subst e
    rw [if_pos rfl, if_pos (by omega), if_pos rfl]
    rfl
  · rw [if_neg (by omega), if_neg e]
structure Lab (es : List (Int × Int)) (n : Nat) (xs : List Int) : Prop where
  len : xs.length = n
  con : ∀ i : Int, 0 ≤ i → i < n → Con es i (cnt xs i)
theorem rlx_len {xs : List Int} {e : Int × Int} : (rlx xs e).length = xs.length := by
  unfold rlx
  rw [List.length_set, List.length_set]
theorem rlx_at {xs : List Int} {e : Int × Int} {n : Nat} (hl : xs.length = n) (he : (0 ≤ e.1 ∧ e.1 < n) ∧ (0 ≤ e.2 ∧ e.2 < n)) {j : Int} (hj : 0 ≤ j) : cnt (rlx xs e) j = if j = e.1 ∨ j = e.2 then (low xs e) else cnt xs j := by
  unfold rlx
  rw [cnt_set he.2.1 (by rw [List.length_set]; omega) hj, cnt_set he.1.1 (by omega) hj]
  by_cases h1 : e.2 = j
  · rw [if_pos h1, if_pos (.inr h1.symm)]
  · rw [if_neg h1]
    by_cases h2 : e.1 = j
    · rw [if_pos h2, if_pos (.inl h2.symm)]
    · rw [if_neg h2, if_neg (fun z => z.elim (fun z => h2 z.symm) (fun z => h1 z.symm))]
theorem Lab.rlx {es : List (Int × Int)} {n : Nat} {xs : List Int} {e : Int × Int} (h : Lab es n xs) (hi : Inr es n) (he : e ∈ es) : Lab es n (rlx xs e) where
  len := rlx_len.trans h.len
  con i h0 h1 := by
    have hr := hi e he
    rw [rlx_at h.len hr h0]
    have e1 : Con es e.1 e.2 := .one (.inl he)
    have c1 := h.con _ hr.1.1 hr.1.2
    have c2 := h.con _ hr.2.1 hr.2.2
    have lo : Con es e.1 (low xs e) := by
      unfold low
      split
      · exact e1.trans c2
      · exact c1
    split
    · rename_i z
      rcases z with rfl | rfl
      · exact lo
      · exact e1.symm.trans lo
    · exact h.con i h0 h1
theorem rlx_keep {es : List (Int × Int)} {n : Nat} {xs : List Int} {e : Int × Int} {m i : Int} (h : Lab es n xs) (hi : Inr es n) (he : e ∈ es) (hm : Fst es m) (h0 : 0 ≤ i) (h1 : i < n) (hx : cnt xs i = m) : cnt (Lw.rlx xs e) i = m := by
  have hl := (h.rlx hi he).con i h0 h1
  have hr := hi e he
  have hc := h.con i h0 h1
  rw [hx] at hc
  have ge := hm _ (hc.symm.trans hl)
  have : cnt (Lw.rlx xs e) i ≤ cnt xs i := by
    rw [rlx_at h.len hr h0]
    split
    · rename_i z
      unfold low
      rcases z with rfl | rfl
      · split <;> omega
      · split <;> omega
    · exact Int.le_refl _
  omega
theorem rlx_both {es : List (Int × Int)} {n : Nat} {xs : List Int} {e : Int × Int} {m : Int} (h : Lab es n xs) (hi : Inr es n) (he : e ∈ es) (hm : Fst es m) (hx : cnt xs e.1 = m ∨ cnt xs e.2 = m) : cnt (Lw.rlx xs e) e.1 = m ∧ cnt (Lw.rlx xs e) e.2 = m := by
  have hr := hi e he
  have e1 := rlx_at (e := e) h.len hr hr.1.1
  have e2 := rlx_at (e := e) h.len hr hr.2.1
  rw [if_pos (.inl rfl)] at e1
  rw [if_pos (.inr rfl)] at e2
  rcases hx with hx | hx
  · have := rlx_keep h hi he hm hr.1.1 hr.1.2 hx
    rw [e2, ← e1]
    exact ⟨this, this⟩
  · have := rlx_keep h hi he hm hr.2.1 hr.2.2 hx
    rw [e1, ← e2]
    exact ⟨this, this⟩
theorem lap_lab {es : List (Int × Int)} {n : Nat} (hi : Inr es n) : ∀ (fs : List (Int × Int)) {xs : List Int}, (∀ e ∈ fs, e ∈ es) → Lab es n xs → Lab es n (fs.foldl rlx xs)
  | [], _, _, h => h
  | e :: fs, _, hs, h => lap_lab hi fs (fun x hx => hs x (List.mem_cons_of_mem _ hx)) (h.rlx hi (hs e List.mem_cons_self))
theorem lap_keep {es : List (Int × Int)} {n : Nat} {m i : Int} (hi : Inr es n) (hm : Fst es m) (h0 : 0 ≤ i) (h1 : i < n) : ∀ (fs : List (Int × Int)) {xs : List Int}, (∀ e ∈ fs, e ∈ es) → Lab es n xs → cnt xs i = m → cnt (fs.foldl rlx xs) i = m
  | [], _, _, _, h => h
  | e :: fs, _, hs, h, hx => lap_keep hi hm h0 h1 fs (fun x hx => hs x (List.mem_cons_of_mem _ hx)) (h.rlx hi (hs e List.mem_cons_self)) (rlx_keep h hi (hs e List.mem_cons_self) hm h0 h1 hx)
theorem lap_both {es : List (Int × Int)} {n : Nat} {m : Int} (hi : Inr es n) (hm : Fst es m) : ∀ (fs : List (Int × Int)) {xs : List Int}, (∀ e ∈ fs, e ∈ es) → Lab es n xs → ∀ e ∈ fs, (cnt xs e.1 = m ∨ cnt xs e.2 = m) → cnt (fs.foldl rlx xs) e.1 = m ∧ cnt (fs.foldl rlx xs) e.2 = m
  | [], _, _, _, _, he, _ => by cases he
  | f :: fs, xs, hs, h, e, he, hx => by
    have hf := hs f List.mem_cons_self
    have hs' : ∀ x ∈ fs, x ∈ es := fun x hx => hs x (List.mem_cons_of_mem _ hx)
    have hr := hi e (hs e he)
    rcases List.mem_cons.mp he with rfl | he'
    · obtain ⟨a, b⟩ := rlx_both h hi hf hm hx
      exact ⟨lap_keep hi hm hr.1.1 hr.1.2 fs hs' (h.rlx hi hf) a, lap_keep hi hm hr.2.1 hr.2.2 fs hs' (h.rlx hi hf) b⟩
    · exact lap_both hi hm fs hs' (h.rlx hi hf) e he' (hx.imp (rlx_keep h hi hf hm hr.1.1 hr.1.2) (rlx_keep h hi hf hm hr.2.1 hr.2.2))
def laps (es : List (Int × Int)) : Nat → List Int → List Int
  | 0, xs => xs
  | k + 1, xs => es.foldl rlx (laps es k xs)
theorem laps_lab {es : List (Int × Int)} {n : Nat} {xs : List Int} (hi : Inr es n) (h : Lab es n xs) : ∀ k, Lab es n (laps es k xs)
  | 0 => h
  | k + 1 => lap_lab hi es (fun _ h => h) (laps_lab hi h k)
theorem laps_grow {es : List (Int × Int)} {n : Nat} {xs : List Int} {m : Int} (hi : Inr es n) (h : Lab es n xs) (hm : Fst es m) (h0 : 0 ≤ m) (h1 : m < n) (hx : cnt xs m = m) : ∀ k, (∀ v, Con es m v → cnt (laps es k xs) v = m) ∨ ∃ L : List Int, L.Nodup ∧ L.length = k + 1 ∧ ∀ x : Int, x ∈ L → (0 ≤ x ∧ x < n) ∧ cnt (laps es k xs) x = m
  | 0 => .inr ⟨[m], List.pairwise_singleton _ _, rfl, fun x hx' => by cases List.mem_singleton.mp hx'; exact ⟨⟨h0, h1⟩, hx⟩⟩
  | k + 1 => by
    have hl := laps_lab hi h k
    rcases laps_grow hi h hm h0 h1 hx k with ih | ⟨L, nd, ln, hL⟩
    · left
      intro v hv
      have := hv.inr hi ⟨h0, h1⟩
      exact lap_keep hi hm this.1 this.2 es (fun _ h => h) hl (ih v hv)
    · by_cases hc : ∃ e ∈ es, (cnt (laps es k xs) e.1 = m ∨ cnt (laps es k xs) e.2 = m) ∧ ¬ (cnt (laps es k xs) e.1 = m ∧ cnt (laps es k xs) e.2 = m)
      · right
        obtain ⟨e, he, h3, h4⟩ := hc
        have hr := hi e he
        obtain ⟨b1, b2⟩ := lap_both hi hm es (fun _ h => h) hl e he h3
        have key : ∃ x : Int, (0 ≤ x ∧ x < n) ∧ x ∉ L ∧ cnt (laps es (k + 1) xs) x = m := by
          by_cases h5 : cnt (laps es k xs) e.1 = m
          · exact ⟨e.2, hr.2, fun z => h4 ⟨h5, (hL _ z).2⟩, b2⟩
          · exact ⟨e.1, hr.1, fun z => h5 (hL _ z).2, b1⟩
        obtain ⟨x, hx1, hx2, hx3⟩ := key
        refine ⟨x :: L, List.nodup_cons.mpr ⟨hx2, nd⟩, by rw [List.length_cons, ln], fun y hy => ?_⟩
        rcases List.mem_cons.mp hy with rfl | hy
        · exact ⟨hx1, hx3⟩
        · obtain ⟨h5, h6⟩ := hL y hy
          exact ⟨h5, lap_keep hi hm h5.1 h5.2 es (fun _ h => h) hl h6⟩
      · left
        have hall : ∀ v, Con es m v → cnt (laps es k xs) v = m := by
          obtain ⟨y, hy⟩ : ∃ y, y ∈ L := by
            cases L with
            | nil => cases ln
            | cons y _ => exact ⟨y, List.mem_cons_self⟩
          have cy := (laps_lab hi h k).con y (hL y hy).1.1 (hL y hy).1.2
          rw [(hL y hy).2] at cy
          intro v hv
          have hv2 := cy.trans hv
          induction hv2 with
          | refl => exact (hL y hy).2
          | step h' e ih =>
            have ih := ih (cy.symm.trans h')
            refine Classical.byContradiction fun hn => hc ?_
            rcases e with e | e
            · exact ⟨_, e, .inl ih, fun z => hn z.2⟩
            · exact ⟨_, e, .inr ih, fun z => hn z.1⟩
        intro v hv
        have := hv.inr hi ⟨h0, h1⟩
        exact lap_keep hi hm this.1 this.2 es (fun _ h => h) hl (hall v hv)
theorem laps_end {es : List (Int × Int)} {n : Nat} {xs : List Int} {m : Int} (hi : Inr es n) (h : Lab es n xs) (hm : Fst es m) (h0 : 0 ≤ m) (h1 : m < n) (hx : cnt xs m = m) (v : Int) (hv : Con es m v) : cnt (laps es n xs) v = m := by
  rcases laps_grow hi h hm h0 h1 hx n with h2 | ⟨L, nd, ln, hL⟩
  · exact h2 v hv
  · have := nodup_le n L nd fun x hx => (hL x hx).1
    omega
theorem fst_ex {es : List (Int × Int)} {n : Nat} (hi : Inr es n) : ∀ (k : Nat) (a : Int), 0 ≤ a → a < n → a ≤ k → ∃ m, Con es a m ∧ Fst es m
  | 0, a, h0, h1, h2 => ⟨a, .refl, fun u hu => by have := hu.inr hi ⟨h0, h1⟩; omega⟩
  | k + 1, a, h0, h1, h2 => by
    by_cases h : Fst es a
    · exact ⟨a, .refl, h⟩
    · obtain ⟨u, hu⟩ := Classical.not_forall.mp h
      obtain ⟨hu, hlt⟩ := Classical.not_imp.mp hu
      have hr := hu.inr hi ⟨h0, h1⟩
      obtain ⟨m, hm, hf⟩ := fst_ex hi k u hr.1 hr.2 (by omega)
      exact ⟨m, hu.trans hm, hf⟩
theorem fst_eq {es : List (Int × Int)} {a b : Int} (ha : Fst es a) (hb : Fst es b) (h : Con es a b) : a = b := Int.le_antisymm (ha _ h) (hb _ h.symm)
/-- the label at the end is the first of the piece -/
theorem laps_lbl {es : List (Int × Int)} {n : Nat} {xs : List Int} (hi : Inr es n) (h : Lab es n xs) (hx : ∀ i : Int, 0 ≤ i → i < n → cnt xs i = i) {v : Int} (h0 : 0 ≤ v) (h1 : v < n) : Fst es (cnt (laps es n xs) v) ∧ Con es v (cnt (laps es n xs) v) := by
  obtain ⟨m, hm, hf⟩ := fst_ex hi v.toNat v h0 h1 (by omega)
  have hr := hm.inr hi ⟨h0, h1⟩
  rw [laps_end hi h hf hr.1 hr.2 (hx m hr.1 hr.2) v hm.symm]
  exact ⟨hf, hm⟩
def ends (ls : List Ln) : List (Int × Int) := ls.map fun l => (l.g, l.t)
theorem ends_mem {ls : List Ln} {l : Ln} (h : l ∈ ls) : (l.g, l.t) ∈ ends ls := List.mem_map.mpr ⟨l, h, rfl⟩
def RS (μ : Sto) (pf pt : Addr) (es : List (Int × Int)) (n : Nat) (first w : Int) (m : Nat) (Q : List Int → Prop) (μ' : Sto) : Prop := ∃ ks td, μ' = (μ.set pf (.dict (setD ks))).set pt (.lst (td.map T.int)) ∧ RInv es n first (· = w) ks td ∧ w ∈ ks ∧ 2 * n + td.length < m + 2 * ks.length ∧ Q ks
def Seen (ls : List Ln) (w : Int) (k : Nat) (ks : List Int) : Prop := ∀ l ∈ ls.take k, (l.g = w → l.t ∈ ks) ∧ (l.t = w → l.g ∈ ks)
theorem Seen.app {ls : List Ln} {w x : Int} {k : Nat} {ks : List Int} (h : Seen ls w k ks) : Seen ls w k (ks ++ [x]) := fun l hl => ⟨fun e => List.mem_append.mpr (.inl ((h l hl).1 e)), fun e => List.mem_append.mpr (.inl ((h l hl).2 e))⟩
theorem Sub.both {μ μ' : Sto} {q : Addr} {o : Ob} (h : Sub μ μ') : Sub (μ.set q o) (μ'.set q o) := fun a x e => by
  by_cases ea : a = q
  · subst ea
    rw [set_self] at e ⊢
    exact e
  · rw [set_ne ea] at e ⊢
    exact h a x e
def Vis (w a b : Int) (ks : List Int) : Prop := a = w → b ∈ ks
theorem RS.mono {μ : Sto} {pf pt : Addr} {es : List (Int × Int)} {n : Nat} {first w : Int} {m : Nat} {Q Q' : List Int → Prop} {μ' : Sto} (h : RS μ pf pt es n first w m Q μ') (k : ∀ ks, Q ks → Q' ks) : RS μ pf pt es n first w m Q' μ' := by
  obtain ⟨ks, td, a, b, c, d, e⟩ := h
  exact ⟨ks, td, a, b, c, d, k _ e⟩
theorem setD_len {ks : List Int} : (setD ks).length = ks.length := List.length_map _
/-- a list of one's own that holds lists of one's own, all made since -/
structure Nest (μ μ' : Sto) (p : Addr) (qs : List Addr) (ps : List (List Int)) : Prop where
  sub : Rh.Sub μ μ'
  fp : μ p = none
  at_ : μ' p = some (.lst (qs.map T.own))
  len : qs.length = ps.length
  it : ∀ (i : Nat) (q : Addr) (x : List Int), qs[i]? = some q → ps[i]? = some x → μ' q = some (.lst (x.map T.int))
  fr : ∀ q ∈ qs, μ q = none
  np : ∀ q ∈ qs, q ≠ p
  nd : qs.Nodup
def lsT (ps : List (List Int)) : T := .lst (ps.map fun x => .lst (x.map T.int))
def nestR (ps : List (List Int)) (μ : Sto) (R : RP) : Prop := (∀ p qs μ', Nest μ μ' p qs ps → R (.own p) μ') ∨ R (lsT ps) μ
theorem Nest.views {μ' : Sto} {fz : List Addr} : ∀ {qs : List Addr} {ps : List (List Int)}, qs.length = ps.length → (∀ (i : Nat) (q : Addr) (x : List Int), qs[i]? = some q → ps[i]? = some x → μ' q = some (.lst (x.map T.int))) → (∀ q ∈ qs, q ∈ fz) → Rh.Views μ' fz (qs.map T.own) (ps.map fun x => .lst (x.map T.int))
  | [], [], _, _, _ => .nil
  | [], _ :: _, h, _, _ => by cases h
  | _ :: _, [], h, _, _ => by cases h
  | q :: qs, x :: ps, h, it, hz => .cons (.own (it 0 q x rfl rfl) (hz q List.mem_cons_self) (.refl _)) (Nest.views (by simpa using h) (fun i q x h1 h2 => it (i + 1) q x h1 h2) fun q hq => hz q (List.mem_cons_of_mem _ hq))
theorem fin_nest {ps : List (List Int)} {μ μ' : Sto} {R : RP} {p : Addr} {qs : List Addr} (h : nestR ps μ R) (N : Nest μ μ' p qs ps) : fin_ R (.own p) μ' := by
  rcases h with h | h
  · exact fin_id (h _ _ _ N)
  · refine ⟨lsT ps, μ, ⟨p :: qs, .own N.at_ List.mem_cons_self (Nest.views N.len N.it fun q hq => List.mem_cons_of_mem _ hq), N.sub, fun a ha => ?_⟩, h⟩
    rcases List.mem_cons.mp ha with rfl | ha
    · exact N.fp
    · exact N.fr a ha
theorem Nest.add {μ μ' : Sto} {p q sd : Addr} {qs : List Addr} {ps : List (List Int)} {x : List Int} {o1 o2 : Ob} (N : Nest μ μ' p qs ps) (hq : μ' q = none) (h1 : μ' sd = some o1) (h2 : μ sd = none) (h3 : sd ≠ p) (h4 : sd ∉ qs) : Nest μ (((μ'.set q (.lst (x.map T.int))).set sd o2).set p (.lst (qs.map T.own ++ [.own q]))) p (qs ++ [q]) (ps ++ [x]) ∧ sd ∉ qs ++ [q] := by
  have nqp : q ≠ p := (nofr N.at_ hq).symm
  have nqs : q ≠ sd := (nofr h1 hq).symm
  have hfq : μ q = none := by
    cases e : μ q with
    | none => rfl
    | some o => rw [N.sub _ _ e] at hq; cases hq
  have nq : q ∉ qs := fun z => by
    obtain ⟨i, hi, e⟩ := List.mem_iff_getElem.mp z
    have := N.it i q _ (by rw [List.getElem?_eq_getElem hi, e]) (List.getElem?_eq_getElem (by rw [← N.len]; exact hi))
    rw [hq] at this
    cases this
  refine ⟨⟨fun a o e => ?_, N.fp, by rw [set_self, List.map_append]; rfl, by rw [List.length_append, List.length_append, N.len]; rfl, fun i a y ha hy => ?_, fun a ha => ?_, fun a ha => ?_, List.nodup_append.mpr ⟨N.nd, List.pairwise_singleton _ _, fun a ha b hb => by cases List.mem_singleton.mp hb; exact fun e => nq (e ▸ ha)⟩⟩, fun z => ?_⟩
  · rw [set_ne (fun z => by subst z; rw [N.fp] at e; cases e), set_ne (fun z => by subst z; rw [h2] at e; cases e), set_ne (fun z => by subst z; rw [hfq] at e; cases e)]
    exact N.sub _ _ e
  · by_cases hi : i < qs.length
    · rw [List.getElem?_append_left hi] at ha
      rw [List.getElem?_append_left (by rw [← N.len]; exact hi)] at hy
      have hm := List.mem_of_getElem? ha
      rw [set_ne (N.np a hm), set_ne (fun z : a = sd => h4 (z ▸ hm)), set_ne (fun z : a = q => nq (z ▸ hm))]
      exact N.it i a y ha hy
    · rw [List.getElem?_append_right (by omega)] at ha
      rw [List.getElem?_append_right (by rw [← N.len]; omega), ← N.len] at hy
      obtain ⟨e1, e2⟩ := List.getElem?_eq_some_iff.mp ha
      obtain ⟨e3, e4⟩ := List.getElem?_eq_some_iff.mp hy
      rw [List.getElem_singleton] at e2 e4
      subst e2 e4
      rw [set_ne nqp, set_ne nqs, set_self]
  · rcases List.mem_append.mp ha with ha | ha
    · exact N.fr a ha
    · cases List.mem_singleton.mp ha
      exact hfq
  · rcases List.mem_append.mp ha with ha | ha
    · exact N.np a ha
    · cases List.mem_singleton.mp ha
      exact nqp
  · rcases List.mem_append.mp z with z | z
    · exact h4 z
    · cases List.mem_singleton.mp z
      exact nqs rfl
theorem HallAt.sub {μ μ' : Sto} {h l1 l2 : Addr} {ns : List Str} {ls : List Ln} (H : HallAt μ h l1 l2 ns ls) (s : Rh.Sub μ μ') : HallAt μ' h l1 l2 ns ls := ⟨s _ _ H.o, s _ _ H.w, s _ _ H.b, H.ne⟩
theorem piecesOf_succ {es : List (Int × Int)} {n k : Nat} : (firsts es (k + 1)).map (compL es n) = (firsts es k).map (compL es n) ++ (open Classical in if Fst es (k : Int) then [compL es n k] else []) := by
  classical
  unfold firsts
  rw [List.range_succ, List.map_append, List.filter_append, List.map_append]
  congr 1
  by_cases h : Fst es (k : Int)
  · simp [h]
  · simp [h]
theorem cop_dvd {x y k : Int} (h : Int.gcd x y = 1) (d : x ∣ y * k) : x ∣ k := by
  have h' : Nat.Coprime x.natAbs y.natAbs := h
  have d' := Int.natAbs_dvd_natAbs.mpr d
  rw [Int.natAbs_mul, Nat.mul_comm] at d'
  exact Int.natAbs_dvd_natAbs.mp (h'.dvd_of_dvd_mul_right d')
/-- reduced ratios that are the same -/
theorem red_eq {x y u v : Int} (hx : 0 < x) (hy : 0 < y) (hu : 0 < u) (hv : 0 < v) (h1 : Int.gcd x y = 1) (h2 : Int.gcd u v = 1) (h : x * v = y * u) : x = u ∧ y = v := by
  have a1 : x ∣ u := cop_dvd h1 ⟨v, h.symm⟩
  have a2 : u ∣ x := cop_dvd h2 ⟨y, by rw [Int.mul_comm v x, h, Int.mul_comm]⟩
  have e : x = u := Int.dvd_antisymm (by omega) (by omega) a1 a2
  subst e
  refine ⟨rfl, ?_⟩
  have : x * v = x * y := by rw [h, Int.mul_comm]
  exact (Int.eq_of_mul_eq_mul_left (by omega) this).symm
/-! ways along belts -/
abbrev Pace := Int × Bool
def Path (ls : List Ln) : Int → List Pace → Int → Prop
  | a, [], c => a = c
  | a, (b, d) :: r, c => ∃ l, 0 ≤ b ∧ ls[b.toNat]? = some l ∧ (if d = true then l.g = a ∧ Path ls l.t r c else l.t = a ∧ Path ls l.g r c)
def fac (ls : List Ln) (b : Int) (d : Bool) : Int := match ls[b.toNat]? with
  | some l => if d = true then l.gi else l.ta
  | none => 1
def topP (ls : List Ln) : List Pace → Int
  | [] => 1
  | (b, d) :: r => fac ls b d * topP ls r
def botP (ls : List Ln) : List Pace → Int
  | [] => 1
  | (b, d) :: r => fac ls b (!d) * botP ls r
theorem topP_app {ls : List Ln} : ∀ {p q : List Pace}, topP ls (p ++ q) = topP ls p * topP ls q
  | [], q => (Int.one_mul _).symm
  | (b, d) :: r, q => by rw [List.cons_append, topP, topP, topP_app, Int.mul_assoc]
theorem botP_app {ls : List Ln} : ∀ {p q : List Pace}, botP ls (p ++ q) = botP ls p * botP ls q
  | [], q => (Int.one_mul _).symm
  | (b, d) :: r, q => by rw [List.cons_append, botP, botP, botP_app, Int.mul_assoc]
def inv (p : List Pace) : List Pace := p.reverse.map fun x => (x.1, !x.2)
theorem inv_cons {b : Int} {d : Bool} {r : List Pace} : inv ((b, d) :: r) = inv r ++ [(b, !d)] := by
  unfold inv
  rw [List.reverse_cons, List.map_append]
  rfl
theorem topP_inv {ls : List Ln} : ∀ {p : List Pace}, topP ls (inv p) = botP ls p
  | [] => rfl
  | (b, d) :: r => by rw [inv_cons, topP_app, topP_inv, botP, topP, topP, Int.mul_one, Int.mul_comm]
theorem botP_inv {ls : List Ln} : ∀ {p : List Pace}, botP ls (inv p) = topP ls p
  | [] => rfl
  | (b, d) :: r => by rw [inv_cons, botP_app, botP_inv, topP, botP, botP, Int.mul_one, Bool.not_not, Int.mul_comm]
theorem Path.app {ls : List Ln} {c e : Int} {q : List Pace} : ∀ {p : List Pace} {a : Int}, Path ls a p c → Path ls c q e → Path ls a (p ++ q) e
  | [], a, h, k => by cases h; exact k
  | (b, d) :: r, a, ⟨l, h0, h1, h2⟩, k => by
    refine ⟨l, h0, h1, ?_⟩
    cases d
    · exact ⟨h2.1, Path.app h2.2 k⟩
    · exact ⟨h2.1, Path.app h2.2 k⟩
theorem Path.split {ls : List Ln} {e : Int} {q : List Pace} : ∀ {p : List Pace} {a : Int}, Path ls a (p ++ q) e → ∃ c, Path ls a p c ∧ Path ls c q e
  | [], a, h => ⟨a, rfl, h⟩
  | (b, d) :: r, a, ⟨l, h0, h1, h2⟩ => by
    cases d
    · obtain ⟨c, k1, k2⟩ := Path.split h2.2
      exact ⟨c, ⟨l, h0, h1, h2.1, k1⟩, k2⟩
    · obtain ⟨c, k1, k2⟩ := Path.split h2.2
      exact ⟨c, ⟨l, h0, h1, h2.1, k1⟩, k2⟩
theorem Path.fn {ls : List Ln} {c e : Int} : ∀ {p : List Pace} {a : Int}, Path ls a p c → Path ls a p e → c = e
  | [], a, h, k => h.symm.trans k
  | (b, d) :: r, a, ⟨l, h0, h1, h2⟩, ⟨l', k0, k1, k2⟩ => by
    rw [h1] at k1
    cases k1
    cases d
    · exact Path.fn h2.2 k2.2
    · exact Path.fn h2.2 k2.2
theorem Path.inv {ls : List Ln} {c : Int} : ∀ {p : List Pace} {a : Int}, Path ls a p c → Path ls c (inv p) a
  | [], a, h => h.symm
  | (b, d) :: r, a, ⟨l, h0, h1, h2⟩ => by
    rw [inv_cons]
    cases d
    · exact (Path.inv h2.2).app ⟨l, h0, h1, rfl, h2.1⟩
    · exact (Path.inv h2.2).app ⟨l, h0, h1, rfl, h2.1⟩
theorem Path.con {ls : List Ln} {c : Int} : ∀ {p : List Pace} {a : Int}, Path ls a p c → Con (ends ls) a c
  | [], a, h => h ▸ .refl
  | (b, d) :: r, a, ⟨l, h0, h1, h2⟩ => by
    have hl := List.mem_of_getElem? h1
    cases d
    · obtain ⟨rfl, h3⟩ := h2
      exact (Con.one (Or.inr (ends_mem hl))).trans h3.con
    · obtain ⟨rfl, h3⟩ := h2
      exact (Con.one (Or.inl (ends_mem hl))).trans h3.con
def PosL (ls : List Ln) : Prop := ∀ l ∈ ls, 1 ≤ Ln.gi l ∧ 1 ≤ l.ta
theorem fac_pos {ls : List Ln} (h : PosL ls) {b : Int} {d : Bool} : 0 < fac ls b d := by
  unfold fac
  split
  · rename_i l e
    have := h l (List.mem_of_getElem? e)
    split <;> omega
  · decide
theorem topP_pos {ls : List Ln} (h : PosL ls) : ∀ {p : List Pace}, 0 < topP ls p
  | [] => show (0 : Int) < 1 by decide
  | (b, d) :: r => Int.mul_pos (fac_pos h) (topP_pos h)
theorem botP_pos {ls : List Ln} (h : PosL ls) : ∀ {p : List Pace}, 0 < botP ls p
  | [] => show (0 : Int) < 1 by decide
  | (b, d) :: r => Int.mul_pos (fac_pos h) (botP_pos h)
/-- rates that keep every belt as it is -/
structure Sol (ls : List Ln) (n : Nat) (rs : List Int) : Prop where
  len : rs.length = n
  pos : ∀ w : Int, 0 ≤ w → w < n → 0 < cnt rs w
  bal : ∀ l ∈ ls, Ln.gi l * cnt rs l.g = l.ta * cnt rs l.t
structure Bal (ls : List Ln) (n : Nat) (rs : List Int) : Prop extends Sol ls n rs where
  one : ∀ a : Int, 0 ≤ a → a < n → ∀ d : Int, 0 ≤ d → (∀ w, Con (ends ls) a w → d ∣ cnt rs w) → d = 1
theorem Sol.path {ls : List Ln} {n : Nat} {rs : List Int} (S : Sol ls n rs) {c : Int} : ∀ {p : List Pace} {a : Int}, Path ls a p c → cnt rs a * topP ls p = cnt rs c * botP ls p
  | [], a, h => by cases h; rfl
  | (b, d) :: r, a, ⟨l, h0, h1, h2⟩ => by
    have hl := S.bal l (List.mem_of_getElem? h1)
    have ih : ∀ x, Path ls x r c → cnt rs x * topP ls r = cnt rs c * botP ls r := fun x h => S.path h
    rw [topP, botP]
    cases d
    · have h3 := ih _ h2.2
      obtain ⟨rfl, _⟩ := h2
      simp only [fac, h1, Bool.not_false, if_true, Bool.false_eq_true, if_false]
      calc cnt rs l.t * (l.ta * topP ls r) = (l.ta * cnt rs l.t) * topP ls r := by ac_rfl
        _ = l.gi * (cnt rs l.g * topP ls r) := by rw [← hl]; ac_rfl
        _ = cnt rs c * (l.gi * botP ls r) := by rw [h3]; ac_rfl
    · have h3 := ih _ h2.2
      obtain ⟨rfl, _⟩ := h2
      simp only [fac, h1, Bool.not_true, if_true, Bool.false_eq_true, if_false]
      calc cnt rs l.g * (l.gi * topP ls r) = (l.gi * cnt rs l.g) * topP ls r := by ac_rfl
        _ = l.ta * (cnt rs l.t * topP ls r) := by rw [hl]; ac_rfl
        _ = cnt rs c * (l.ta * botP ls r) := by rw [h3]; ac_rfl
/-- a ring that shows that there are no rates -/
structure OddRing (ls : List Ln) (ring : List Pace) : Prop where
  ne : ring ≠ []
  path : ∃ a, Path ls a ring a
  nd : (ring.map (·.1)).Nodup
  odd : topP ls ring ≠ botP ls ring
theorem OddRing.no {ls : List Ln} {n : Nat} {ring : List Pace} (O : OddRing ls ring) {rs : List Int} (S : Sol ls n rs) (hi : Inr (ends ls) n) : False := by
  obtain ⟨a, hp⟩ := O.path
  have h := S.path hp
  have ha : 0 ≤ a ∧ a < n := by
    cases hr : ring with
    | nil => exact absurd hr O.ne
    | cons x r =>
      obtain ⟨b, d⟩ := x
      rw [hr] at hp
      obtain ⟨l, _, h1, h2⟩ := hp
      have := hi _ (ends_mem (List.mem_of_getElem? h1))
      cases d
      · obtain ⟨rfl, _⟩ := h2
        exact this.2
      · obtain ⟨rfl, _⟩ := h2
        exact this.1
  exact O.odd (Int.eq_of_mul_eq_mul_left (Int.ne_of_gt (S.pos a ha.1 ha.2)) h)
theorem con_path {ls : List Ln} {a c : Int} (h : Con (ends ls) a c) : ∃ p, Path ls a p c := by
  induction h with
  | refl => exact ⟨[], rfl⟩
  | step _ e ih =>
    obtain ⟨p, hp⟩ := ih
    rcases e with e | e
    · obtain ⟨l, hl, e⟩ := List.mem_map.mp e
      obtain ⟨i, hi, e2⟩ := List.mem_iff_getElem.mp hl
      cases e
      refine ⟨p ++ [((i : Int), true)], hp.app ⟨l, Int.natCast_nonneg i, ?_, rfl, rfl⟩⟩
      rw [Int.toNat_natCast, List.getElem?_eq_getElem hi, e2]
    · obtain ⟨l, hl, e⟩ := List.mem_map.mp e
      obtain ⟨i, hi, e2⟩ := List.mem_iff_getElem.mp hl
      cases e
      refine ⟨p ++ [((i : Int), false)], hp.app ⟨l, Int.natCast_nonneg i, ?_, rfl, rfl⟩⟩
      rw [Int.toNat_natCast, List.getElem?_eq_getElem hi, e2]
theorem sol_prop {ls : List Ln} {n : Nat} {rs qs : List Int} (hp : PosL ls) (S : Sol ls n rs) (Q : Sol ls n qs) {a c : Int} (h : Con (ends ls) a c) : cnt rs a * cnt qs c = cnt rs c * cnt qs a := by
  obtain ⟨p, h⟩ := con_path h
  have h1 := S.path h
  have h2 := Q.path h
  have ht := topP_pos hp (p := p)
  have hb := botP_pos hp (p := p)
  apply Int.eq_of_mul_eq_mul_left (Int.ne_of_gt (Int.mul_pos ht hb))
  calc topP ls p * botP ls p * (cnt rs a * cnt qs c) = (cnt rs a * topP ls p) * (cnt qs c * botP ls p) := by ac_rfl
    _ = (cnt rs c * botP ls p) * (cnt qs a * topP ls p) := by rw [h1, h2]
    _ = topP ls p * botP ls p * (cnt rs c * cnt qs a) := by ac_rfl
theorem bal_uniq {ls : List Ln} {n : Nat} {rs qs : List Int} (hp : PosL ls) (hi : Inr (ends ls) n) (S : Bal ls n rs) (Q : Bal ls n qs) : rs = qs := by
  have key : ∀ a : Int, 0 ≤ a → a < n → cnt rs a = cnt qs a := fun a h0 h1 => by
    obtain ⟨g, x, y, e, hg, hx, hy, e1, e2, h3⟩ := gcd_parts (S.pos a h0 h1) (Q.pos a h0 h1)
    have hx1 : x = 1 := S.one a h0 h1 x (by omega) fun w hw => by
      have h := sol_prop hp S.toSol Q.toSol hw
      rw [e1, e2] at h
      have h : x * cnt qs w = y * cnt rs w := by
        apply Int.eq_of_mul_eq_mul_left (Int.ne_of_gt hg)
        rw [← Int.mul_assoc, h]
        ac_rfl
      exact cop_dvd h3 ⟨_, h.symm⟩
    have hy1 : y = 1 := Q.one a h0 h1 y (by omega) fun w hw => by
      have h := sol_prop hp S.toSol Q.toSol hw
      rw [e1, e2] at h
      have h : x * cnt qs w = y * cnt rs w := by
        apply Int.eq_of_mul_eq_mul_left (Int.ne_of_gt hg)
        rw [← Int.mul_assoc, h]
        ac_rfl
      exact cop_dvd (by rw [Int.gcd_comm]; exact h3) ⟨_, h⟩
    rw [e1, e2, hx1, hy1]
  refine List.ext_getElem (S.len.trans Q.len.symm) fun i h1 h2 => ?_
  have := key i (by omega) (by rw [← S.len]; omega)
  unfold Rh.cnt at this
  rw [Int.toNat_natCast, List.getElem?_eq_getElem h1, List.getElem?_eq_getElem h2] at this
  exact this
structure Ent where
  v : Int
  p : Int
  q : Int
  w : List Pace
  r : Int
def paceT (x : Pace) : T := .tup [.int x.1, .bl x.2]
def entD (f : Ent → T) (es : List Ent) : List (Key × T) := es.map fun e => (.inl e.v, f e)
def ratT (e : Ent) : T := .tup [.int e.p, .int e.q]
def wayT (e : Ent) : T := .lst (e.w.map paceT)
def keysE (es : List Ent) : List Int := es.map Ent.v
theorem ent_same {es : List Ent} (nd : (keysE es).Nodup) {e f : Ent} (he : e ∈ es) (hf : f ∈ es) (h : e.v = f.v) : e = f := by
  obtain ⟨i, hi, rfl⟩ := List.mem_iff_getElem.mp he
  obtain ⟨j, hj, rfl⟩ := List.mem_iff_getElem.mp hf
  have := (List.getElem_inj (xs := keysE es) (i := i) (j := j) (h₀ := by unfold keysE; rw [List.length_map]; exact hi) (h₁ := by unfold keysE; rw [List.length_map]; exact hj) nd).mp (by unfold keysE; rw [List.getElem_map, List.getElem_map]; exact h)
  subst this
  rfl
theorem val_ent {f : Ent → T} {es : List Ent} {e : Ent} (nd : (keysE es).Nodup) (h : e ∈ es) : valT (entD f es) (.inl e.v) = some (f e) := by
  unfold valT entD
  rw [List.find?_map, Option.map_map]
  cases q : es.find? ((fun kv : Key × T => decide (kv.1 = (.inl e.v : Key))) ∘ fun e => ((.inl e.v : Key), f e)) with
  | none =>
    have := List.find?_eq_none.mp q e h
    simp at this
  | some e' =>
    have h1 := List.find?_some q
    have h2 := List.mem_of_find?_eq_some q
    have h1 := of_decide_eq_true h1
    injection h1 with h1
    rw [ent_same nd h2 h h1]
    rfl
theorem any_ent {f : Ent → T} {es : List Ent} {k : Int} : ((entD f es).any fun kv => decide (kv.1 = (.inl k : Key))) = decide (k ∈ keysE es) := by
  unfold entD
  rw [List.any_map, Bool.eq_iff_iff, List.any_eq_true, decide_eq_true_eq]
  constructor
  · rintro ⟨x, hx, e⟩
    have e := of_decide_eq_true e
    injection e with e
    exact e ▸ List.mem_map.mpr ⟨x, hx, rfl⟩
  · intro h
    obtain ⟨x, hx, rfl⟩ := List.mem_map.mp h
    exact ⟨x, hx, decide_eq_true rfl⟩
theorem put_ent {f : Ent → T} {es : List Ent} {e : Ent} (h : e.v ∉ keysE es) : putT (entD f es) (.inl e.v) (f e) = entD f (es ++ [e]) := by
  unfold putT
  rw [any_ent, if_neg (by rw [decide_eq_true_eq]; exact h)]
  unfold entD
  rw [List.map_append]
  rfl
theorem in_ent {f : Ent → T} {μ : Sto} {p : Addr} {es : List Ent} {i : Int} {neg : Bool} {R : RP} (h : μ p = some (.dict (entD f es))) : tIn neg (.int i) (.own p) μ R = R (.bl (if neg = true then !decide (i ∈ keysE es) else decide (i ∈ keysE es))) μ := by
  have : (valT (entD f es) (.inl i)).isSome = decide (i ∈ keysE es) := by
    unfold valT
    rw [Option.isSome_map, ← any_ent (f := f), Bool.eq_iff_iff, List.find?_isSome, List.any_eq_true]
  simp only [tIn, isDict, h, onK, T.own.injEq, Option.some.injEq, Ob.dict.injEq, keyT, exists_eq_left', exists_and_left, this]
theorem ix_ent {f : Ent → T} {μ : Sto} {p : Addr} {es : List Ent} {e : Ent} {R : RP} (h : μ p = some (.dict (entD f es))) (nd : (keysE es).Nodup) (he : e ∈ es) : tIdx (.own p) (.int e.v) μ R = R (f e) μ := by
  simp only [tIdx, isDict, h, onK, T.own.injEq, Option.some.injEq, Ob.dict.injEq, keyT, exists_eq_left', exists_and_left, val_ent nd he]
theorem entD_len {f : Ent → T} {es : List Ent} : (entD f es).length = es.length := List.length_map _
theorem keysE_add {es : List Ent} {e : Ent} : keysE (es ++ [e]) = keysE es ++ [e.v] := by
  unfold keysE
  rw [List.map_append]
  rfl
/-- what is known of the ways found -/
structure TI (ls : List Ln) (n : Nat) (es : List Ent) : Prop where
  nd : (keysE es).Nodup
  bd : ∀ e ∈ es, 0 ≤ e.v ∧ e.v < n
  pos : ∀ e ∈ es, 0 < e.p ∧ 0 < e.q ∧ Int.gcd e.p e.q = 1
  bt : ∀ e ∈ es, Bt (128 * e.w.length + 1) e.p ∧ Bt (128 * e.w.length + 1) e.q
  wl : ∀ e ∈ es, e.w.length < es.length
  path : ∀ e ∈ es, Path ls e.r e.w e.v ∧ Fst (ends ls) e.r
  val : ∀ e ∈ es, e.p * botP ls e.w = e.q * topP ls e.w
  pre : ∀ e ∈ es, ∀ P, P <+: e.w → ∃ g ∈ es, g.w = P ∧ g.r = e.r
  uni : ∀ e ∈ es, ∀ f ∈ es, ∀ P Q b d d', e.w = P ++ [(b, d)] → f.w = Q ++ [(b, d')] → P ++ [(b, d)] = Q ++ [(b, d')]
theorem TI.nil {ls : List Ln} {n : Nat} : TI ls n [] := by
  constructor <;> first | exact List.nodup_nil | (intro e he; cases he)
theorem TI.len {ls : List Ln} {n : Nat} {es : List Ent} (h : TI ls n es) : es.length ≤ n := by
  have := nodup_le n (keysE es) h.nd fun k hk => by
    obtain ⟨e, he, rfl⟩ := List.mem_map.mp hk
    exact h.bd e he
  unfold keysE at this
  rwa [List.length_map] at this
theorem TI.root {ls : List Ln} {n : Nat} {es : List Ent} (h : TI ls n es) {a : Int} (ha : a ∉ keysE es) (hb : 0 ≤ a ∧ a < n) (hf : Fst (ends ls) a) : TI ls n (es ++ [⟨a, 1, 1, [], a⟩]) := by
  have key : ∀ {Q : Ent → Prop}, (∀ e ∈ es, Q e) → Q ⟨a, 1, 1, [], a⟩ → ∀ e ∈ es ++ [⟨a, 1, 1, [], a⟩], Q e := fun h1 h2 e he => by
    rcases List.mem_append.mp he with he | he
    · exact h1 e he
    · cases List.mem_singleton.mp he
      exact h2
  refine ⟨?_, key h.bd hb, key h.pos ⟨show (0 : Int) < 1 by decide, show (0 : Int) < 1 by decide, show Int.gcd 1 1 = 1 by decide⟩, key h.bt ⟨show Bt 1 1 by unfold Bt; decide, show Bt 1 1 by unfold Bt; decide⟩, key (fun e he => ?_) ?_, key h.path ⟨rfl, hf⟩, key h.val rfl, key (fun e he P hP => ?_) fun P hP => ?_, ?_⟩
  · rw [keysE_add]
    exact List.nodup_append.mpr ⟨h.nd, List.pairwise_singleton _ _, fun x hx y hy => by cases List.mem_singleton.mp hy; exact fun z : x = a => ha (z ▸ hx)⟩
  · have := h.wl e he
    rw [List.length_append, List.length_singleton]
    omega
  · rw [List.length_append, List.length_singleton]
    exact Nat.succ_pos _
  · obtain ⟨g, hg, h1⟩ := h.pre e he P hP
    exact ⟨g, List.mem_append.mpr (.inl hg), h1⟩
  · have : P = [] := List.prefix_nil.mp hP
    subst this
    exact ⟨_, List.mem_append.mpr (.inr List.mem_cons_self), rfl, rfl⟩
  · intro e he f hf' P Q b d d' e1 e2
    rcases List.mem_append.mp he with he | he
    · rcases List.mem_append.mp hf' with hf' | hf'
      · exact h.uni e he f hf' P Q b d d' e1 e2
      · cases List.mem_singleton.mp hf'
        cases Q <;> cases e2
    · cases List.mem_singleton.mp he
      cases P <;> cases e1
/-- a belt's two ends stand for a pace -/
def Leads (ls : List Ln) (b : Int) (d : Bool) (u x : Int) : Prop := ∃ l, 0 ≤ b ∧ ls[b.toNat]? = some l ∧ (if d = true then l.g = u ∧ l.t = x else l.t = u ∧ l.g = x)
theorem Leads.path {ls : List Ln} {b u x : Int} {d : Bool} (h : Leads ls b d u x) : Path ls u [(b, d)] x := by
  obtain ⟨l, h0, h1, h2⟩ := h
  refine ⟨l, h0, h1, ?_⟩
  cases d
  · exact h2
  · exact h2
theorem Path.leads {ls : List Ln} {b u x : Int} {d : Bool} (h : Path ls u [(b, d)] x) : Leads ls b d u x := by
  obtain ⟨l, h0, h1, h2⟩ := h
  refine ⟨l, h0, h1, ?_⟩
  cases d
  · exact h2
  · exact h2
theorem Leads.both {ls : List Ln} {b u x u' x' : Int} {d d' : Bool} (h : Leads ls b d u x) (k : Leads ls b d' u' x') : (x = x' ∨ x = u') ∧ (u = u' ∨ u = x') := by
  obtain ⟨l, _, h1, h2⟩ := h
  obtain ⟨l', _, k1, k2⟩ := k
  rw [h1] at k1
  cases k1
  cases d <;> cases d' <;> simp only [if_true, Bool.false_eq_true, if_false] at h2 k2
  · exact ⟨.inl (h2.2.symm.trans k2.2), .inl (h2.1.symm.trans k2.1)⟩
  · exact ⟨.inr (h2.2.symm.trans k2.1), .inr (h2.1.symm.trans k2.2)⟩
  · exact ⟨.inr (h2.2.symm.trans k2.1), .inr (h2.1.symm.trans k2.2)⟩
  · exact ⟨.inl (h2.2.symm.trans k2.2), .inl (h2.1.symm.trans k2.1)⟩
theorem Leads.fac {ls : List Ln} {b u x : Int} {d : Bool} (h : Leads ls b d u x) {l : Ln} (e : ls[b.toNat]? = some l) : Lw.fac ls b d = (if d = true then l.gi else l.ta) := by
  unfold Lw.fac
  rw [e]
/-- both ends of a way's last belt are there -/
theorem TI.ends_in {ls : List Ln} {n : Nat} {es : List Ent} (h : TI ls n es) {f : Ent} (hf : f ∈ es) {Q : List Pace} {b : Int} {d : Bool} (e : f.w = Q ++ [(b, d)]) : ∃ g ∈ es, g.w = Q ∧ g.r = f.r ∧ Leads ls b d g.v f.v := by
  obtain ⟨g, hg, h1, h2⟩ := h.pre f hf Q (by rw [e]; exact List.prefix_append _ _)
  refine ⟨g, hg, h1, h2, ?_⟩
  have p1 := (h.path f hf).1
  rw [e] at p1
  obtain ⟨c, p2, p3⟩ := p1.split
  have p4 := (h.path g hg).1
  rw [h1, h2] at p4
  rw [p2.fn p4] at p3
  exact p3.leads
def goE (ls : List Ln) (e : Ent) (b : Int) (d : Bool) (x : Int) : Ent :=
  ⟨x, (rat (e.p * (rat (fac ls b d) (fac ls b (!d))).1) (e.q * (rat (fac ls b d) (fac ls b (!d))).2)).1, (rat (e.p * (rat (fac ls b d) (fac ls b (!d))).1) (e.q * (rat (fac ls b d) (fac ls b (!d))).2)).2, e.w ++ [(b, d)], e.r⟩
theorem TI.step {ls : List Ln} {n : Nat} {es : List Ent} (h : TI ls n es) (hp : PosL ls) (hz : ∀ l ∈ ls, Bt 128 (Ln.gi l) ∧ Bt 128 l.ta) (hi : Inr (ends ls) n) {e : Ent} (he : e ∈ es) {b x : Int} {d : Bool} (hl : Leads ls b d e.v x) (hx : x ∉ keysE es) : TI ls n (es ++ [goE ls e b d x]) := by
  have key : ∀ {Q : Ent → Prop}, (∀ e ∈ es, Q e) → Q (goE ls e b d x) → ∀ f ∈ es ++ [goE ls e b d x], Q f := fun h1 h2 f hf => by
    rcases List.mem_append.mp hf with hf | hf
    · exact h1 f hf
    · cases List.mem_singleton.mp hf
      exact h2
  have f1 : 0 < fac ls b d := fac_pos hp
  have f2 : 0 < fac ls b (!d) := fac_pos hp
  have fz : ∀ d, Bt 128 (fac ls b d) := fun d => by
    unfold fac
    split
    · rename_i l e
      have := hz l (List.mem_of_getElem? e)
      split
      · exact this.1
      · exact this.2
    · unfold Bt; decide
  obtain ⟨a1, a2, a3, a4, a5, a6⟩ := rat_spec f1 f2
  obtain ⟨q1, q2, q3⟩ := h.pos e he
  obtain ⟨t1, t2⟩ := h.bt e he
  have za := (fz d).le (Int.le_of_lt a1) a5
  have zb := (fz (!d)).le (Int.le_of_lt a2) a6
  have hval := times_is q1 q2 a1 a2 (h.val e he) a4
  unfold goE at *
  generalize (rat (fac ls b d) (fac ls b (!d))).1 = A at *
  generalize (rat (fac ls b d) (fac ls b (!d))).2 = C at *
  obtain ⟨r1, r2, r3, r4, r5, r6⟩ := rat_spec (Int.mul_pos q1 a1) (Int.mul_pos q2 a2)
  obtain ⟨p1, p2⟩ := h.path e he
  have hxb : 0 ≤ x ∧ x < n := (p1.app hl.path).con.inr hi (p1.inv.con.inr hi (h.bd e he))
  refine ⟨?_, key h.bd hxb, key h.pos ⟨r1, r2, r3⟩, key h.bt ?_, key (fun f hf => ?_) ?_, key h.path ⟨p1.app hl.path, p2⟩, key h.val ?_, key (fun f hf P hP => ?_) fun P hP => ?_, ?_⟩
  · rw [keysE_add]
    exact List.nodup_append.mpr ⟨h.nd, List.pairwise_singleton _ _, fun y hy z hz' => by cases List.mem_singleton.mp hz'; exact fun z : y = x => hx (z ▸ hy)⟩
  · have b1 : Bt (128 * (e.w ++ [(b, d)]).length + 1) (e.p * A) := (t1.mul za).mono (by rw [List.length_append, List.length_singleton]; omega)
    have b2 : Bt (128 * (e.w ++ [(b, d)]).length + 1) (e.q * C) := (t2.mul zb).mono (by rw [List.length_append, List.length_singleton]; omega)
    exact ⟨b1.le (Int.le_of_lt r1) r5, b2.le (Int.le_of_lt r2) r6⟩
  · have := h.wl f hf
    rw [List.length_append, List.length_singleton]
    omega
  · have := h.wl e he
    rw [List.length_append, List.length_append, List.length_singleton, List.length_singleton]
    omega
  · show _ * botP ls (e.w ++ [(b, d)]) = _ * topP ls (e.w ++ [(b, d)])
    rw [botP_app, topP_app, botP, topP, botP, topP, Int.mul_one, Int.mul_one]
    exact hval
  · obtain ⟨g, hg, h1⟩ := h.pre f hf P hP
    exact ⟨g, List.mem_append.mpr (.inl hg), h1⟩
  · rcases List.prefix_concat_iff.mp hP with rfl | hP
    · exact ⟨_, List.mem_append.mpr (.inr List.mem_cons_self), rfl, rfl⟩
    · obtain ⟨g, hg, h1⟩ := h.pre e he P hP
      exact ⟨g, List.mem_append.mpr (.inl hg), h1⟩
  · have old : ∀ f ∈ es, ∀ Q d', f.w = Q ++ [(b, d')] → False := fun f hf Q d' e2 => by
      obtain ⟨g, hg, _, _, h3⟩ := h.ends_in hf e2
      rcases (hl.both h3).1 with z | z
      · exact hx (z ▸ List.mem_map.mpr ⟨f, hf, rfl⟩)
      · exact hx (z ▸ List.mem_map.mpr ⟨g, hg, rfl⟩)
    intro f hf g hg P Q b' d1 d2 e1 e2
    rcases List.mem_append.mp hf with hf | hf <;> rcases List.mem_append.mp hg with hg | hg
    · exact h.uni f hf g hg P Q b' d1 d2 e1 e2
    · cases List.mem_singleton.mp hg
      obtain ⟨_, z⟩ := List.append_inj' e2 rfl
      cases z
      exact absurd e1 (fun z => old f hf _ _ z)
    · cases List.mem_singleton.mp hf
      obtain ⟨_, z⟩ := List.append_inj' e1 rfl
      cases z
      exact absurd e2 (fun z => old g hg _ _ z)
    · cases List.mem_singleton.mp hf
      cases List.mem_singleton.mp hg
      exact e1.symm.trans e2
theorem rev_ind {α : Type} {M : List α → Prop} (nil : M []) (snoc : ∀ P x, M P → M (P ++ [x])) (l : List α) : M l := by
  have : ∀ l : List α, M l.reverse := fun l => by
    induction l with
    | nil => exact nil
    | cons x l ih =>
      rw [List.reverse_cons]
      exact snoc _ _ ih
  have h := this l.reverse
  rwa [List.reverse_reverse] at h
theorem TI.way_nd {ls : List Ln} {n : Nat} {es : List Ent} (h : TI ls n es) {e : Ent} (he : e ∈ es) : ∀ P, P <+: e.w → (P.map (·.1)).Nodup := by
  intro P
  induction P using rev_ind with
  | nil => intro _; exact List.nodup_nil
  | snoc P x ih =>
    intro hP
    obtain ⟨b, d⟩ := x
    have hP' : P <+: e.w := (List.prefix_append P [(b, d)]).trans hP
    obtain ⟨g, hg, g1, _⟩ := h.pre e he _ hP
    rw [List.map_append]
    refine List.nodup_append.mpr ⟨ih hP', List.pairwise_singleton _ _, fun y hy z hz e1 => ?_⟩
    cases List.mem_singleton.mp hz
    obtain ⟨⟨b', d'⟩, hm, rfl⟩ := List.mem_map.mp hy
    obtain ⟨A, B, rfl⟩ := List.append_of_mem hm
    have e1 : b' = b := e1
    subst e1
    have hA : A ++ [(b', d')] <+: e.w := List.IsPrefix.trans ⟨B, by simp⟩ hP'
    obtain ⟨f, hf, f1, _⟩ := h.pre e he _ hA
    have := congrArg List.length (h.uni f hf g hg _ _ _ _ _ f1 g1)
    simp at this
theorem mem_split {α : Type} {x : α} {l : List α} (h : x ∈ l) : ∃ A, A ++ [x] <+: l := by
  obtain ⟨A, B, rfl⟩ := List.append_of_mem h
  exact ⟨A, B, by simp⟩
/-- the ring that an odd belt closes -/
theorem TI.ring {ls : List Ln} {n : Nat} {es : List Ent} (h : TI ls n es) (hp : PosL ls) {i : Int} {l : Ln} {eg et : Ent} (h0 : 0 ≤ i) (el : ls[i.toNat]? = some l) (hg : eg ∈ es) (ht : et ∈ es) (vg : eg.v = l.g) (vt : et.v = l.t) (odd : eg.p * l.gi * et.q ≠ eg.q * l.ta * et.p)
    {c th he : List Pace} (wt : et.w = c ++ th) (wg : eg.w = c ++ he) (stop : ∀ x P Q, th = x :: P → he = x :: Q → False) : OddRing ls ((i, true) :: (inv th ++ he)) := by
  obtain ⟨pg1, pg2⟩ := h.path eg hg
  obtain ⟨pt1, pt2⟩ := h.path et ht
  have hlm := List.mem_of_getElem? el
  have hr : et.r = eg.r := fst_eq pt2 pg2 (pt1.con.trans (by rw [vt]; exact (Con.one (Or.inr (ends_mem hlm))).trans (by rw [← vg]; exact pg1.con.symm)))
  rw [wt] at pt1
  rw [wg] at pg1
  obtain ⟨u, a1, a2⟩ := pt1.split
  obtain ⟨u', a3, a4⟩ := pg1.split
  rw [hr] at a1
  have := a1.fn a3
  subst this
  have hpath : Path ls l.g ((i, true) :: (inv th ++ he)) l.g := ⟨l, h0, el, rfl, by rw [← vt, ← vg]; exact a2.inv.app a4⟩
  -- the odd belt is on no way
  have noi : ∀ e ∈ es, ∀ d, (i, d) ∉ e.w := fun e he' d hm => by
    obtain ⟨A, hA⟩ := mem_split hm
    obtain ⟨x, hx, x1, _⟩ := h.pre e he' _ hA
    obtain ⟨f, hf, f1, _, f3⟩ := h.ends_in hx x1
    have v1 := h.val x hx
    have v2 := h.val f hf
    rw [x1, botP_app, topP_app, botP, topP, botP, topP, Int.mul_one, Int.mul_one] at v1
    rw [f1] at v2
    have k1 := f3.fac el
    have k2 : fac ls i (!d) = (if d = true then l.ta else l.gi) := by
      unfold fac
      rw [el]
      cases d <;> rfl
    rw [k1, k2] at v1
    obtain ⟨l', _, q1, q2⟩ := f3
    rw [el] at q1
    cases q1
    have B := botP_pos hp (p := A)
    have T := topP_pos hp (p := A)
    have BT : botP ls A * topP ls A ≠ 0 := Int.ne_of_gt (Int.mul_pos B T)
    cases d
    · simp only [Bool.false_eq_true, if_false] at q2 v1
      have e1 : f = et := ent_same h.nd hf ht (q2.1.symm.trans vt.symm)
      have e2 : x = eg := ent_same h.nd hx hg (q2.2.symm.trans vg.symm)
      subst e1 e2
      apply odd
      apply Int.eq_of_mul_eq_mul_left BT
      calc botP ls A * topP ls A * (x.p * l.gi * f.q) = (x.p * (botP ls A * l.gi)) * (f.q * topP ls A) := by ac_rfl
        _ = (x.q * (topP ls A * l.ta)) * (f.p * botP ls A) := by rw [v1, v2]
        _ = botP ls A * topP ls A * (x.q * l.ta * f.p) := by ac_rfl
    · simp only [if_true] at q2 v1
      have e1 : f = eg := ent_same h.nd hf hg (q2.1.symm.trans vg.symm)
      have e2 : x = et := ent_same h.nd hx ht (q2.2.symm.trans vt.symm)
      subst e1 e2
      apply odd
      apply Int.eq_of_mul_eq_mul_left BT
      calc botP ls A * topP ls A * (f.p * l.gi * x.q) = (f.p * botP ls A) * (x.q * (topP ls A * l.gi)) := by ac_rfl
        _ = (f.q * topP ls A) * (x.p * (botP ls A * l.ta)) := by rw [← v1, v2]
        _ = botP ls A * topP ls A * (f.q * l.ta * x.p) := by ac_rfl
  have ndt := h.way_nd ht _ (List.prefix_refl _)
  have ndg := h.way_nd hg _ (List.prefix_refl _)
  rw [wt, List.map_append] at ndt
  rw [wg, List.map_append] at ndg
  have ndt := (List.nodup_append.mp ndt).2.1
  have ndg := (List.nodup_append.mp ndg).2.1
  have einv : (inv th).map (·.1) = (th.map (·.1)).reverse := by
    unfold inv
    rw [List.map_map, ← List.map_reverse]
    rfl
  refine ⟨List.cons_ne_nil _ _, ⟨_, hpath⟩, ?_, ?_⟩
  · rw [List.map_cons, List.map_append, einv]
    refine List.nodup_cons.mpr ⟨fun hm => ?_, List.nodup_append.mpr ⟨List.pairwise_reverse.mpr (ndt.imp fun z => Ne.symm z), ndg, fun y hy z hz e1 => ?_⟩⟩
    · rcases List.mem_append.mp hm with hm | hm
      · obtain ⟨⟨b, d⟩, hm2, e⟩ := List.mem_map.mp (List.mem_reverse.mp hm)
        have e : b = i := e
        subst e
        exact noi et ht d (by rw [wt]; exact List.mem_append.mpr (.inr hm2))
      · obtain ⟨⟨b, d⟩, hm2, e⟩ := List.mem_map.mp hm
        have e : b = i := e
        subst e
        exact noi eg hg d (by rw [wg]; exact List.mem_append.mpr (.inr hm2))
    · subst e1
      obtain ⟨⟨b, d⟩, hm1, e⟩ := List.mem_map.mp (List.mem_reverse.mp hy)
      obtain ⟨⟨b', d'⟩, hm2, e'⟩ := List.mem_map.mp hz
      have e : b = y := e
      have e' : b' = y := e'
      subst e e'
      obtain ⟨A, hA⟩ := mem_split hm1
      obtain ⟨B, hB⟩ := mem_split hm2
      obtain ⟨x, hx, x1, _⟩ := h.pre et ht (c ++ (A ++ [(b', d)])) (by rw [wt]; exact (List.prefix_append_right_inj c).mpr hA)
      obtain ⟨f, hf, f1, _⟩ := h.pre eg hg (c ++ (B ++ [(b', d')])) (by rw [wg]; exact (List.prefix_append_right_inj c).mpr hB)
      rw [← List.append_assoc] at x1 f1
      have e3 := h.uni x hx f hf _ _ _ _ _ x1 f1
      rw [List.append_assoc, List.append_assoc] at e3
      have e3 := List.append_cancel_left e3
      obtain ⟨A', hA'⟩ := hA
      obtain ⟨B', hB'⟩ := hB
      rw [← e3] at hB'
      cases hq : A ++ [(b', d)] with
      | nil => simp at hq
      | cons z r =>
        rw [hq] at hA' hB'
        exact stop z (r ++ A') (r ++ B') hA'.symm hB'.symm
  · intro e
    apply odd
    rw [topP, botP, topP_app, botP_app, topP_inv, botP_inv] at e
    have k1 : fac ls i true = l.gi := by unfold fac; rw [el]; rfl
    have k2 : fac ls i (!true) = l.ta := by unfold fac; rw [el]; rfl
    rw [k1, k2] at e
    have v1 := h.val eg hg
    have v2 := h.val et ht
    rw [wg, botP_app, topP_app] at v1
    rw [wt, botP_app, topP_app] at v2
    have p1 := botP_pos hp (p := c)
    have p2 := topP_pos hp (p := c)
    have p3 := botP_pos hp (p := he)
    have p4 := topP_pos hp (p := th)
    generalize botP ls c = B at *
    generalize topP ls c = T at *
    generalize botP ls he = bh at *
    generalize topP ls he = th' at *
    generalize botP ls th = bt at *
    generalize topP ls th = tt at *
    apply Int.eq_of_mul_eq_mul_left (Int.ne_of_gt (Int.mul_pos (Int.mul_pos p1 p3) (Int.mul_pos p2 p4)))
    calc B * bh * (T * tt) * (eg.p * l.gi * et.q) = (eg.p * (B * bh)) * l.gi * (et.q * (T * tt)) := by ac_rfl
      _ = (eg.q * (T * th')) * l.gi * (et.p * (B * bt)) := by rw [v1, v2]
      _ = eg.q * et.p * T * B * (l.gi * (bt * th')) := by ac_rfl
      _ = eg.q * et.p * T * B * (l.ta * (tt * bh)) := by rw [e]
      _ = B * bh * (T * tt) * (eg.q * l.ta * et.p) := by ac_rfl
def lcm1 (a b : Int) : Int := a / (Int.gcd a b : Int) * b
theorem lcm1_spec {a b : Int} (ha : 0 < a) (hb : 0 < b) : 0 < lcm1 a b ∧ a ∣ lcm1 a b ∧ b ∣ lcm1 a b ∧ (∀ x, a ∣ x → b ∣ x → lcm1 a b ∣ x) ∧ lcm1 a b ≤ a * b := by
  obtain ⟨g, x, y, e, hg, hx, hy, e1, e2, h3⟩ := gcd_parts ha hb
  unfold lcm1
  rw [e]
  subst e1 e2
  rw [Int.mul_ediv_cancel_left _ (Int.ne_of_gt hg)]
  refine ⟨Int.mul_pos hx hb, ⟨y, by ac_rfl⟩, ⟨x, by ac_rfl⟩, fun z hz1 hz2 => ?_, ?_⟩
  · obtain ⟨k, rfl⟩ := hz1
    obtain ⟨m, hm⟩ := hz2
    have : x * k = y * m := by
      apply Int.eq_of_mul_eq_mul_left (Int.ne_of_gt hg)
      rw [← Int.mul_assoc, hm, Int.mul_assoc]
    obtain ⟨j, rfl⟩ := cop_dvd (by rw [Int.gcd_comm]; exact h3) ⟨m, this⟩
    exact ⟨j, by ac_rfl⟩
  · have : x ≤ g * x := by
      have := Int.mul_le_mul_of_nonneg_right (show 1 ≤ g by omega) (show 0 ≤ x by omega)
      rwa [Int.one_mul] at this
    exact Int.mul_le_mul_of_nonneg_right this (Int.le_of_lt hb)
theorem lcmF_spec : ∀ (qs : List Int) {c : Int}, 0 < c → (∀ q ∈ qs, 0 < q) → 0 < qs.foldl lcm1 c ∧ c ∣ qs.foldl lcm1 c ∧ (∀ q ∈ qs, q ∣ qs.foldl lcm1 c) ∧ (∀ x, c ∣ x → (∀ q ∈ qs, q ∣ x) → qs.foldl lcm1 c ∣ x)
  | [], c, hc, _ => ⟨hc, Int.dvd_refl _, (fun q hq => by cases hq), fun x h _ => h⟩
  | q :: qs, c, hc, hq => by
    obtain ⟨a1, a2, a3, a4, _⟩ := lcm1_spec hc (hq q List.mem_cons_self)
    obtain ⟨b1, b2, b3, b4⟩ := lcmF_spec qs a1 fun x hx => hq x (List.mem_cons_of_mem _ hx)
    refine ⟨b1, Int.dvd_trans a2 b2, fun x hx => ?_, fun x h1 h2 => b4 x (a4 x h1 (h2 q List.mem_cons_self)) fun y hy => h2 y (List.mem_cons_of_mem _ hy)⟩
    rcases List.mem_cons.mp hx with rfl | hx
    · exact Int.dvd_trans a3 b2
    · exact b3 x hx
theorem lcmF_bt {k : Nat} : ∀ (qs : List Int) {c : Int} {m : Nat}, 0 < c → Bt m c → (∀ q ∈ qs, 0 < q ∧ Bt k q) → Bt (m + k * qs.length) (qs.foldl lcm1 c)
  | [], c, m, _, h, _ => h.mono (by simp)
  | q :: qs, c, m, hc, h, hq => by
    obtain ⟨q1, q2⟩ := hq q List.mem_cons_self
    obtain ⟨a1, _, _, _, a5⟩ := lcm1_spec hc q1
    have := lcmF_bt qs a1 ((h.mul q2).le (Int.le_of_lt a1) a5) fun x hx => hq x (List.mem_cons_of_mem _ hx)
    refine this.mono ?_
    rw [List.length_cons, Nat.mul_succ]
    omega
def gcdF (ns : List Int) : Int := ns.foldl (fun a b => (Int.gcd a b : Int)) 0
theorem gcdF_dvd : ∀ (ns : List Int) (c : Int), ns.foldl (fun a b => (Int.gcd a b : Int)) c ∣ c ∧ ∀ x ∈ ns, ns.foldl (fun a b => (Int.gcd a b : Int)) c ∣ x
  | [], c => ⟨Int.dvd_refl _, fun x hx => by cases hx⟩
  | y :: ns, c => by
    obtain ⟨h1, h2⟩ := gcdF_dvd ns (Int.gcd c y : Int)
    refine ⟨Int.dvd_trans h1 (Int.gcd_dvd_left _ _), fun x hx => ?_⟩
    rcases List.mem_cons.mp hx with rfl | hx
    · exact Int.dvd_trans h1 (Int.gcd_dvd_right _ _)
    · exact h2 x hx
theorem gcdF_nn : ∀ (ns : List Int) (c : Int), 0 ≤ c → 0 ≤ ns.foldl (fun a b => (Int.gcd a b : Int)) c
  | [], _, h => h
  | y :: ns, _, _ => gcdF_nn ns _ (Int.natCast_nonneg _)
def lcmE (pe : List Ent) : Int := (pe.map Ent.q).foldl lcm1 1
def rateE (pe : List Ent) (e : Ent) : Int := e.p * (lcmE pe / e.q)
structure PE (pe : List Ent) : Prop where
  pos : ∀ e ∈ pe, 0 < e.p ∧ 0 < e.q ∧ Int.gcd e.p e.q = 1
  bt : ∀ e ∈ pe, Bt 4500 e.p ∧ Bt 4500 e.q
  len : pe.length ≤ 40
  root : ∃ e ∈ pe, e.p = 1 ∧ e.q = 1
theorem PE.spec {pe : List Ent} (h : PE pe) : 0 < lcmE pe ∧ (∀ e ∈ pe, e.q ∣ lcmE pe) ∧ (∀ x, (∀ e ∈ pe, e.q ∣ x) → lcmE pe ∣ x) := by
  obtain ⟨a, _, b, c⟩ := lcmF_spec (pe.map Ent.q) (c := 1) (by decide) fun q hq => by
    obtain ⟨e, he, rfl⟩ := List.mem_map.mp hq
    exact (h.pos e he).2.1
  exact ⟨a, fun e he => b _ (List.mem_map.mpr ⟨e, he, rfl⟩), fun x hx => c x (Int.one_dvd _) fun q hq => by
    obtain ⟨e, he, rfl⟩ := List.mem_map.mp hq
    exact hx e he⟩
theorem PE.rate_pos {pe : List Ent} (h : PE pe) {e : Ent} (he : e ∈ pe) : 0 < rateE pe e := by
  obtain ⟨a, b, _⟩ := h.spec
  obtain ⟨m, hm⟩ := b e he
  obtain ⟨p1, p2, _⟩ := h.pos e he
  unfold rateE
  rw [hm, Int.mul_ediv_cancel_left _ (Int.ne_of_gt p2)]
  refine Int.mul_pos p1 ?_
  rw [hm] at a
  exact Int.pos_of_mul_pos_right a p2
theorem PE.one {pe : List Ent} (h : PE pe) {d : Int} (hd : 0 ≤ d) (hk : ∀ e ∈ pe, d ∣ rateE pe e) : d = 1 := by
  obtain ⟨a, b, c⟩ := h.spec
  obtain ⟨r, hr, r1, r2⟩ := h.root
  have hC : d ∣ lcmE pe := by
    have := hk r hr
    unfold rateE at this
    rwa [r1, r2, Int.ediv_one, Int.one_mul] at this
  generalize hl : lcmE pe = C at *
  obtain ⟨C', rfl⟩ := hC
  have hd0 : d ≠ 0 := fun z => by
    rw [z, Int.zero_mul] at a
    exact absurd a (by decide)
  have hd1 : 0 < d := by omega
  have key : d * C' ∣ C' := c C' fun e he => by
    obtain ⟨m, hm⟩ := b e he
    obtain ⟨p1, p2, p3⟩ := h.pos e he
    obtain ⟨k, hk⟩ := hk e he
    unfold rateE at hk
    rw [hl, hm, Int.mul_ediv_cancel_left _ (Int.ne_of_gt p2)] at hk
    refine cop_dvd (by rw [Int.gcd_comm]; exact p3) ⟨k, ?_⟩
    apply Int.eq_of_mul_eq_mul_left (Int.ne_of_gt hd1)
    calc d * (e.p * C') = e.p * (d * C') := by ac_rfl
      _ = e.q * (e.p * m) := by rw [hm]; ac_rfl
      _ = d * (e.q * k) := by rw [hk]; ac_rfl
  have hC' : 0 < C' := Int.pos_of_mul_pos_right a hd1
  obtain ⟨j, hj⟩ := key
  have : C' * (d * j) = C' * 1 := by
    rw [Int.mul_one]
    calc C' * (d * j) = d * C' * j := by ac_rfl
      _ = C' := hj.symm
  have := Int.eq_of_mul_eq_mul_left (Int.ne_of_gt hC') this
  exact Int.eq_one_of_dvd_one hd ⟨j, this.symm⟩
def wholeL (pe : List Ent) : List Int := pe.map (rateE pe)
theorem PE.gcd {pe : List Ent} (h : PE pe) : gcdF (wholeL pe) = 1 := h.one (gcdF_nn _ _ (by decide)) fun e he => (gcdF_dvd _ _).2 _ (List.mem_map.mpr ⟨e, he, rfl⟩)
theorem PE.lcm_bt {pe : List Ent} (h : PE pe) : Bt 180001 (lcmE pe) := by
  have := lcmF_bt (k := 4500) (pe.map Ent.q) (c := 1) (m := 1) (by decide) (by unfold Bt; decide) fun q hq => by
    obtain ⟨e, he, rfl⟩ := List.mem_map.mp hq
    exact ⟨(h.pos e he).2.1, (h.bt e he).2⟩
  refine this.mono ?_
  have := h.len
  rw [List.length_map]
  omega
def entOf (es : List Ent) (v : Int) : Ent := (es.find? fun e => decide (e.v = v)).getD ⟨0, 1, 1, [], 0⟩
theorem entOf_mem {es : List Ent} {v : Int} (h : v ∈ keysE es) : entOf es v ∈ es ∧ (entOf es v).v = v := by
  unfold entOf
  cases q : es.find? fun e => decide (e.v = v) with
  | none =>
    obtain ⟨e, he, rfl⟩ := List.mem_map.mp h
    have := List.find?_eq_none.mp q e he
    simp at this
  | some e =>
    have h1 := List.find?_some q
    exact ⟨List.mem_of_find?_eq_some q, of_decide_eq_true h1⟩
noncomputable def peOf (ls : List Ln) (n : Nat) (es : List Ent) (a : Int) : List Ent := (compL (ends ls) n a).map (entOf es)
theorem peOf_keys {ls : List Ln} {n : Nat} {es : List Ent} {a : Int} (hi : Inr (ends ls) n) (ha : 0 ≤ a ∧ a < n) (hk : ∀ v, Con (ends ls) a v → v ∈ keysE es) : keysE (peOf ls n es a) = compL (ends ls) n a := by
  unfold keysE peOf
  rw [List.map_map]
  refine (List.map_congr_left fun v hv => ?_).trans (List.map_id _)
  exact (entOf_mem (hk v ((compL_mem hi ha).mp hv))).2
theorem peOf_mem {ls : List Ln} {n : Nat} {es : List Ent} {a : Int} (hi : Inr (ends ls) n) (ha : 0 ≤ a ∧ a < n) (hk : ∀ v, Con (ends ls) a v → v ∈ keysE es) (nd : (keysE es).Nodup) {f : Ent} : f ∈ peOf ls n es a ↔ f ∈ es ∧ Con (ends ls) a f.v := by
  unfold peOf
  rw [List.mem_map]
  constructor
  · rintro ⟨v, hv, rfl⟩
    have hc := (compL_mem hi ha).mp hv
    obtain ⟨h1, h2⟩ := entOf_mem (hk v hc)
    exact ⟨h1, by rw [h2]; exact hc⟩
  · rintro ⟨hf, hc⟩
    obtain ⟨h1, h2⟩ := entOf_mem (hk _ hc)
    exact ⟨f.v, (compL_mem hi ha).mpr hc, ent_same nd h1 hf h2⟩
theorem TI.pe {ls : List Ln} {n : Nat} {es : List Ent} {a : Int} (h : TI ls n es) (hn : n ≤ 31) (hi : Inr (ends ls) n) (ha : 0 ≤ a ∧ a < n) (hk : ∀ v, Con (ends ls) a v → v ∈ keysE es) : PE (peOf ls n es a) := by
  have hm := fun f => peOf_mem (f := f) hi ha hk h.nd
  have hl := h.len
  refine ⟨fun e he => h.pos e ((hm e).mp he).1, fun e he => ?_, ?_, ?_⟩
  · have he := ((hm e).mp he).1
    have := h.wl e he
    obtain ⟨b1, b2⟩ := h.bt e he
    exact ⟨b1.mono (by omega), b2.mono (by omega)⟩
  · unfold peOf
    rw [List.length_map]
    have : (compL (ends ls) n a).length ≤ n := by
      classical
      unfold compL
      refine Nat.le_trans (List.length_filter_le _ _) ?_
      rw [List.length_map, List.length_range]
      exact Nat.le_refl _
    omega
  · obtain ⟨h1, h2⟩ := entOf_mem (hk a .refl)
    generalize entOf es a = e at h1 h2
    obtain ⟨g, hg, g1, g2⟩ := h.pre e h1 [] (List.nil_prefix)
    have v := h.val g hg
    rw [g1, botP, topP, Int.mul_one, Int.mul_one] at v
    obtain ⟨p1, p2, p3⟩ := h.pos g hg
    obtain ⟨g3, _⟩ := h.path g hg
    rw [g1] at g3
    have g3 : g.r = g.v := g3
    refine ⟨g, (hm g).mpr ⟨hg, ?_⟩, ?_⟩
    · rw [← g3, g2, ← h2]
      exact (h.path e h1).1.con.symm
    · rw [v, Int.gcd_self] at p3
      omega
/-- rates told by the ratios keep the belts, and nothing divides them -/
theorem TI.bal {ls : List Ln} {n : Nat} {es : List Ent} (h : TI ls n es) (hn : n ≤ 31) (hi : Inr (ends ls) n) (hp : PosL ls) (hk : ∀ v : Int, 0 ≤ v → v < n → v ∈ keysE es) (ag : ∀ l ∈ ls, ∀ eg ∈ es, ∀ et ∈ es, eg.v = l.g → et.v = l.t → eg.p * l.gi * et.q = eg.q * l.ta * et.p) {rs : List Int} (hl : rs.length = n)
    (hr : ∀ a : Int, 0 ≤ a → a < n → Fst (ends ls) a → ∀ e ∈ peOf ls n es a, cnt rs e.v = rateE (peOf ls n es a) e) : Bal ls n rs := by
  have hk' : ∀ a : Int, 0 ≤ a ∧ a < n → ∀ v, Con (ends ls) a v → v ∈ keysE es := fun a ha v hv => by
    have := hv.inr hi ha
    exact hk v this.1 this.2
  have hm := fun a (ha : 0 ≤ a ∧ a < (n : Int)) f => peOf_mem (f := f) hi ha (hk' a ha) h.nd
  have hpe := fun a (ha : 0 ≤ a ∧ a < (n : Int)) => h.pe hn hi ha (hk' a ha)
  have fex : ∀ a : Int, 0 ≤ a ∧ a < n → ∃ m, Con (ends ls) a m ∧ Fst (ends ls) m ∧ 0 ≤ m ∧ m < n := fun a ha => by
    obtain ⟨m, h1, h2⟩ := fst_ex hi a.toNat a ha.1 ha.2 (by omega)
    have := h1.inr hi ha
    exact ⟨m, h1, h2, this⟩
  refine ⟨⟨hl, fun w h0 h1 => ?_, fun l hl' => ?_⟩, fun a h0 h1 d hd hw => ?_⟩
  · obtain ⟨m, c1, c2, c3⟩ := fex w ⟨h0, h1⟩
    obtain ⟨e1, e2⟩ := entOf_mem (hk w h0 h1)
    have hmem := (hm m c3 (entOf es w)).mpr ⟨e1, by rw [e2]; exact c1.symm⟩
    have := hr m c3.1 c3.2 c2 _ hmem
    rw [e2] at this
    rw [this]
    exact (hpe m c3).rate_pos hmem
  · obtain ⟨r1, r2⟩ := hi _ (ends_mem hl')
    obtain ⟨m, c1, c2, c3⟩ := fex l.g r1
    obtain ⟨e1, e2⟩ := entOf_mem (hk l.g r1.1 r1.2)
    obtain ⟨f1, f2⟩ := entOf_mem (hk l.t r2.1 r2.2)
    have m1 := (hm m c3 (entOf es l.g)).mpr ⟨e1, by rw [e2]; exact c1.symm⟩
    have m2 := (hm m c3 (entOf es l.t)).mpr ⟨f1, by rw [f2]; exact c1.symm.trans (Con.one (Or.inl (ends_mem hl')))⟩
    have v1 := hr m c3.1 c3.2 c2 _ m1
    have v2 := hr m c3.1 c3.2 c2 _ m2
    have a := ag l hl' _ e1 _ f1 e2 f2
    rw [e2] at v1
    rw [f2] at v2
    rw [v1, v2]
    obtain ⟨s1, s2, _⟩ := (hpe m c3).spec
    obtain ⟨x, hx⟩ := s2 _ m1
    obtain ⟨y, hy⟩ := s2 _ m2
    have q1 := ((hpe m c3).pos _ m1).2.1
    have q2 := ((hpe m c3).pos _ m2).2.1
    have d1 : lcmE (peOf ls n es m) / (entOf es l.g).q = x := by rw [hx, Int.mul_ediv_cancel_left _ (Int.ne_of_gt q1)]
    have d2 : lcmE (peOf ls n es m) / (entOf es l.t).q = y := by rw [hy, Int.mul_ediv_cancel_left _ (Int.ne_of_gt q2)]
    unfold rateE
    rw [d1, d2]
    generalize lcmE (peOf ls n es m) = C at *
    generalize entOf es l.g = eg at *
    generalize entOf es l.t = et at *
    apply Int.eq_of_mul_eq_mul_left (Int.ne_of_gt (Int.mul_pos q1 q2))
    calc eg.q * et.q * (l.gi * (eg.p * x)) = (eg.p * l.gi * et.q) * (eg.q * x) := by ac_rfl
      _ = (eg.q * l.ta * et.p) * (et.q * y) := by rw [a, ← hx, ← hy]
      _ = eg.q * et.q * (l.ta * (et.p * y)) := by ac_rfl
  · obtain ⟨m, c1, c2, c3⟩ := fex a ⟨h0, h1⟩
    refine (hpe m c3).one hd fun e he => ?_
    rw [← hr m c3.1 c3.2 c2 e he]
    exact hw _ (c1.trans ((hm m c3 e).mp he).2)
/-- a search in the store -/
structure SpAt (μ : Sto) (s rd wd : Addr) (ls : List Ln) (es : List Ent) : Prop where
  o : μ s = some (.obj 6 [.lst (ls.map Ln.tr), .own rd, .own wd])
  r : μ rd = some (.dict (entD ratT es))
  w : μ wd = some (.dict (entD wayT es))
  ne : rd ≠ wd
theorem SpAt.n1 {μ : Sto} {s rd wd : Addr} {ls : List Ln} {es : List Ent} (S : SpAt μ s rd wd ls es) : s ≠ rd := fun e => by
  have := S.r
  rw [← e, S.o] at this
  cases this
theorem SpAt.n2 {μ : Sto} {s rd wd : Addr} {ls : List Ln} {es : List Ent} (S : SpAt μ s rd wd ls es) : s ≠ wd := fun e => by
  have := S.w
  rw [← e, S.o] at this
  cases this
theorem SpAt.upd {μ : Sto} {s rd wd : Addr} {ls : List Ln} {es fs : List Ent} (S : SpAt μ s rd wd ls es) : SpAt ((μ.set rd (.dict (entD ratT fs))).set wd (.dict (entD wayT fs))) s rd wd ls fs :=
  ⟨by rw [set_ne S.n2, set_ne S.n1]; exact S.o, by rw [set_ne S.ne, set_self], set_self, S.ne⟩
theorem SpAt.put {μ : Sto} {s rd wd p : Addr} {ls : List Ln} {es : List Ent} {ob : Ob} (S : SpAt μ s rd wd ls es) (a : s ≠ p) (b : rd ≠ p) (c : wd ≠ p) : SpAt (μ.set p ob) s rd wd ls es :=
  ⟨by rw [set_ne a]; exact S.o, by rw [set_ne b]; exact S.r, by rw [set_ne c]; exact S.w, S.ne⟩
theorem SpAt.fresh {μ : Sto} {s rd wd p : Addr} {ls : List Ln} {es : List Ent} {ob : Ob} (S : SpAt μ s rd wd ls es) (h : μ p = none) : SpAt (μ.set p ob) s rd wd ls es := S.put (nofr S.o h) (nofr S.r h) (nofr S.w h)
/-- what a walk from a piece's first work brings -/
structure Walked (ls : List Ln) (n : Nat) (es : List Ent) (a : Int) (fs : List Ent) : Prop where
  ti : TI ls n fs
  keys : ∀ v, v ∈ keysE fs ↔ v ∈ keysE es ∨ Con (ends ls) a v
/-- what is known on the way -/
structure WInv (ls : List Ln) (n : Nat) (es : List Ent) (a : Int) (P : Int → Prop) (fs : List Ent) (td : List Int) : Prop where
  ti : TI ls n fs
  old : ∀ v ∈ keysE es, v ∈ keysE fs
  new : ∀ v ∈ keysE fs, v ∈ keysE es ∨ Con (ends ls) a v
  sub : ∀ x ∈ td, x ∈ keysE fs ∧ Con (ends ls) a x
  f : a ∈ keysE fs
  cl : ∀ x ∈ keysE fs, x ∉ keysE es → x ∉ td → ¬ P x → ∀ y, Adj (ends ls) x y → y ∈ keysE fs
theorem WInv.add {ls : List Ln} {n : Nat} {es : List Ent} {a : Int} {P : Int → Prop} {fs : List Ent} {td : List Int} (h : WInv ls n es a P fs td) (hp : PosL ls) (hz : ∀ l ∈ ls, Bt 128 (Ln.gi l) ∧ Bt 128 l.ta) (hi : Inr (ends ls) n) {e : Ent} (he : e ∈ fs) (hw : Con (ends ls) a e.v) {b x : Int} {d : Bool} (hl : Leads ls b d e.v x) (hx : x ∉ keysE fs) : WInv ls n es a P (fs ++ [goE ls e b d x]) (td ++ [x]) := by
  have ek : keysE (fs ++ [goE ls e b d x]) = keysE fs ++ [x] := keysE_add
  have hc : Con (ends ls) a x := hw.trans hl.path.con
  refine ⟨h.ti.step hp hz hi he hl hx, ?_, ?_, ?_, ?_, ?_⟩ <;> rw [ek]
  · exact fun v hv => List.mem_append.mpr (.inl (h.old v hv))
  · intro v hv
    rcases List.mem_append.mp hv with hv | hv
    · exact h.new v hv
    · cases List.mem_singleton.mp hv
      exact .inr hc
  · intro y hy
    rcases List.mem_append.mp hy with hy | hy
    · exact ⟨List.mem_append.mpr (.inl (h.sub y hy).1), (h.sub y hy).2⟩
    · cases List.mem_singleton.mp hy
      exact ⟨List.mem_append.mpr (.inr hy), hc⟩
  · exact List.mem_append.mpr (.inl h.f)
  · intro y hy hn ht hP z hz'
    rcases List.mem_append.mp hy with hy | hy
    · exact List.mem_append.mpr (.inl (h.cl y hy hn (fun q => ht (List.mem_append.mpr (.inl q))) hP z hz'))
    · exact absurd (List.mem_append.mpr (.inr hy)) ht
theorem WInv.end_ {ls : List Ln} {n : Nat} {es : List Ent} {a : Int} {fs : List Ent} (h : WInv ls n es a (fun _ => False) fs []) (hes : ∀ v ∈ keysE es, ¬ Con (ends ls) a v) : Walked ls n es a fs := by
  refine ⟨h.ti, fun v => ⟨h.new v, fun z => ?_⟩⟩
  rcases z with z | z
  · exact h.old v z
  · have : ∀ u, Con (ends ls) a u → u ∈ keysE fs := fun u hu => by
      induction hu with
      | refl => exact h.f
      | step h' e ih => exact h.cl _ ih (fun q => hes _ q h') List.not_mem_nil id _ e
    exact this v z
/-- the store on the way -/
def WS (μ : Sto) (rd wd pt : Addr) (ls : List Ln) (n : Nat) (es : List Ent) (a w : Int) (m : Nat) (Q : List Ent → Prop) (μ' : Sto) : Prop := ∃ fs td, μ' = (((μ.set rd (.dict (entD ratT fs))).set wd (.dict (entD wayT fs))).set pt (.lst (td.map T.int))) ∧ WInv ls n es a (· = w) fs td ∧ (w ∈ keysE fs ∧ Con (ends ls) a w) ∧ 2 * n + td.length < m + 2 * fs.length ∧ Q fs
theorem set3 {μ : Sto} {p q t : Addr} {a b c a' b' c' : Ob} : (((((μ.set p a).set q b).set t c).set p a').set q b').set t c' = ((μ.set p a').set q b').set t c' := by
  funext x
  unfold Sto.set
  by_cases h1 : x = t
  · simp [h1]
  · by_cases h2 : x = q
    · simp [h1, h2]
    · by_cases h3 : x = p
      · simp [h1, h2, h3]
      · simp [h1, h2, h3]
def SeenE (ls : List Ln) (w : Int) (k : Nat) (fs : List Ent) : Prop := ∀ l ∈ ls.take k, (l.g = w → l.t ∈ keysE fs) ∧ (l.t = w → l.g ∈ keysE fs)
def VisE (w a b : Int) (fs : List Ent) : Prop := a = w → b ∈ keysE fs
theorem SeenE.app {ls : List Ln} {w : Int} {k : Nat} {fs : List Ent} {e : Ent} (h : SeenE ls w k fs) : SeenE ls w k (fs ++ [e]) := fun l hl => by
  rw [keysE_add]
  exact ⟨fun e => List.mem_append.mpr (.inl ((h l hl).1 e)), fun e => List.mem_append.mpr (.inl ((h l hl).2 e))⟩
theorem WS.mono {μ : Sto} {rd wd pt : Addr} {ls : List Ln} {n : Nat} {es : List Ent} {a w : Int} {m : Nat} {Q Q' : List Ent → Prop} {μ' : Sto} (h : WS μ rd wd pt ls n es a w m Q μ') (k : ∀ fs, Q fs → Q' fs) : WS μ rd wd pt ls n es a w m Q' μ' := by
  obtain ⟨fs, td, h1, h2, h3, h4, h5⟩ := h
  exact ⟨fs, td, h1, h2, h3, h4, k _ h5⟩
theorem ad_own {o : Bool} {ts us : List T} {p : Addr} {μ : Sto} {R : RP} (h : μ p = some (.lst us)) : tAdd o (.lst ts) (.own p) μ R = (ts.length + us.length ≤ sizeLine ∧ newL o (ts ++ us) μ R) := by
  simp only [Rh.tAdd, Rh.onS, Rh.slst, h, Option.some.injEq, exists_eq_left']
theorem sq0 {n : Nat} : seqIndex? 0 (n + 1) = some 0 := by
  unfold seqIndex?
  simp
def Agr (es : List Ent) (l : Ln) : Prop := ∀ eg ∈ es, ∀ et ∈ es, eg.v = l.g → et.v = l.t → eg.p * l.gi * et.q = eg.q * l.ta * et.p
theorem agr_iff {p q gi ta u v : Int} (hp : 0 < p) (hq : 0 < q) (hg : 0 < gi) (ht : 0 < ta) (hu : 0 < u) (hv : 0 < v) (h1 : Int.gcd u v = 1) : ((rat (p * (rat gi ta).1) (q * (rat gi ta).2)).1 = u ∧ (rat (p * (rat gi ta).1) (q * (rat gi ta).2)).2 = v) ↔ p * gi * v = q * ta * u := by
  obtain ⟨a1, a2, a3, a4, a5, a6⟩ := rat_spec hg ht
  have e := times_is hp hq a1 a2 (Int.mul_comm p q) a4
  obtain ⟨r1, r2, r3, _⟩ := rat_spec (Int.mul_pos hp a1) (Int.mul_pos hq a2)
  generalize (rat (p * (rat gi ta).1) (q * (rat gi ta).2)).1 = r at *
  generalize (rat (p * (rat gi ta).1) (q * (rat gi ta).2)).2 = s at *
  constructor
  · rintro ⟨rfl, rfl⟩
    calc p * gi * s = s * (p * gi) := Int.mul_comm _ _
      _ = r * (q * ta) := e.symm
      _ = q * ta * r := Int.mul_comm _ _
  · intro h
    refine red_eq r1 r2 hu hv r3 h1 ?_
    apply Int.eq_of_mul_eq_mul_left (Int.ne_of_gt (Int.mul_pos hq ht))
    calc q * ta * (r * v) = (r * (q * ta)) * v := by ac_rfl
      _ = s * (p * gi * v) := by rw [e]; ac_rfl
      _ = q * ta * (s * u) := by rw [h]; ac_rfl
/-- all that a search through all pieces has brought -/
structure Full (ls : List Ln) (n : Nat) (es : List Ent) : Prop where
  ti : TI ls n es
  pos : PosL ls
  bt : ∀ l ∈ ls, Bt 128 (Ln.gi l) ∧ Bt 128 l.ta
  inr : Inr (ends ls) n
  n31 : n ≤ 31
  all : ∀ v : Int, 0 ≤ v → v < n → v ∈ keysE es
theorem Full.ent {ls : List Ln} {n : Nat} {es : List Ent} (h : Full ls n es) {v : Int} (h0 : 0 ≤ v) (h1 : v < n) : ∃ e ∈ es, e.v = v ∧ 0 < e.p ∧ 0 < e.q ∧ Int.gcd e.p e.q = 1 ∧ Bt 4500 e.p ∧ Bt 4500 e.q ∧ e.w.length ≤ 31 := by
  obtain ⟨e, he, rfl⟩ := List.mem_map.mp (h.all v h0 h1)
  have a := h.ti.pos e he
  have b := h.ti.bt e he
  have c := h.ti.wl e he
  have d := h.ti.len
  have := h.n31
  exact ⟨e, he, rfl, a.1, a.2.1, a.2.2, b.1.mono (by omega), b.2.mono (by omega), by omega⟩
theorem eq_pace {neg : Bool} {x y : Pace} {μ : Sto} {R : RP} : tEq neg (paceT x) (paceT y) μ R = R (.bl (if neg = true then !decide (x = y) else decide (x = y))) μ :=
  @eq_hasE (Int × Bool) _ _ μ (paceT x) (paceT y) x y neg R (Has.of (x := (x : Int × Bool)) ⟨trivial, trivial⟩) (Has.of (x := (y : Int × Bool)) ⟨trivial, trivial⟩) rfl
/-- rates told, one's own or at rest -/
def ratR (rs : List Int) (μ : Sto) (R : RP) : Prop := (∀ p, μ p = none → R (.tup [.own p, .non]) (μ.set p (.lst (rs.map T.int)))) ∨ R (.tup [.lst (rs.map T.int), .non]) μ
theorem fin_ratR {rs : List Int} {μ μ' : Sto} {R : RP} {q : Addr} (h : ratR rs μ R) (hq : μ q = Option.none) (e : μ' q = some (.lst (rs.map T.int))) (s : Rh.Sub (μ.set q (.lst (rs.map T.int))) μ') : fin_ R (.tup [.own q, .non]) μ' := by
  rcases h with h | h
  · exact fin_sub _ s (h q hq)
  · refine ⟨.tup [.lst (rs.map T.int), .non], μ, ⟨[q], .tup (.cons (.own e (List.mem_singleton.mpr rfl) (.refl _)) (.cons (.refl _) .nil)), fun a o z => ?_, fun a ha => by cases List.mem_singleton.mp ha; exact hq⟩, h⟩
    exact s a o (by rw [set_ne (fun y => by subst y; rw [hq] at z; cases z)]; exact z)
theorem compL_head {es : List (Int × Int)} {n : Nat} {a : Int} (hi : Inr es n) (h0 : 0 ≤ a) (h1 : a < n) (hf : Fst es a) : (compL es n a)[0]? = some a := by
  have hm := (compL_mem (b := a) hi ⟨h0, h1⟩).mpr .refl
  have hlt := compL_lt (es := es) (n := n) (a := a)
  have hc := fun b => (compL_mem (b := b) hi ⟨h0, h1⟩).mp
  cases e : compL es n a with
  | nil => rw [e] at hm; cases hm
  | cons y r =>
    rw [e] at hm hlt hc
    have h2 := hf y (hc y List.mem_cons_self)
    rcases List.mem_cons.mp hm with rfl | hm
    · rfl
    · have := (List.pairwise_cons.mp hlt).1 a hm
      omega
theorem firsts_mem {es : List (Int × Int)} {n : Nat} {a : Int} : a ∈ firsts es n ↔ (0 ≤ a ∧ a < n) ∧ Fst es a := by
  classical
  unfold firsts
  rw [List.mem_filter, rngI_mem, decide_eq_true_eq]
theorem firsts_nd {es : List (Int × Int)} {n : Nat} : (firsts es n).Nodup := by
  classical
  unfold firsts
  exact nodup_of_lt (List.Pairwise.filter _ rngI_lt)
theorem Sub.none' {μ μ' : Sto} (h : Rh.Sub μ μ') {p : Addr} (e : μ' p = none) : μ p = none := by
  cases q : μ p with
  | none => rfl
  | some o => rw [h _ _ q] at e; cases e
theorem Sub.put' {μ μ' : Sto} {q : Addr} {o : Ob} (sb : Rh.Sub μ μ') (hq : μ q = none) : Rh.Sub μ (μ'.set q o) := fun a ob e => by
  rw [set_ne (fun y => by subst y; rw [hq] at e; cases e)]
  exact sb a ob e
def cL (n : Nat) (row : List Int) : List Int := ((List.range n).map fun i : Nat => (i : Int)).map fun w => (row.count w : Int)
theorem cL_len {n : Nat} {row : List Int} : (cL n row).length = n := by
  unfold cL
  rw [List.length_map, List.length_map, List.length_range]
theorem cL_at {n : Nat} {row : List Int} {w : Int} (h0 : 0 ≤ w) (h1 : w < n) : cnt (cL n row) w = row.count w := by
  unfold Rh.cnt cL
  rw [List.getElem?_map, List.getElem?_map, List.getElem?_range (by omega)]
  show ((row.count ((w.toNat : Nat) : Int) : Nat) : Int) = _
  rw [Int.toNat_of_nonneg h0]
theorem cnt_ext {xs ys : List Int} {n : Nat} (h1 : xs.length = n) (h2 : ys.length = n) (h : ∀ w : Int, 0 ≤ w → w < n → cnt xs w = cnt ys w) : xs = ys := by
  refine List.ext_getElem (h1.trans h2.symm) fun i a b => ?_
  have := h i (by omega) (by omega)
  unfold Rh.cnt at this
  rw [Int.toNat_natCast, List.getElem?_eq_getElem a, List.getElem?_eq_getElem b] at this
  exact this
theorem count_app {row : List Int} {w x : Int} : (row ++ [w]).count x = row.count x + if w = x then 1 else 0 := by
  rw [List.count_append, List.count_singleton]
  by_cases h : w = x
  · simp [h]
  · have h' : ¬ x = w := fun z => h z.symm
    simp [h, h']
theorem cL_app {n : Nat} {row : List Int} {w : Int} (h0 : 0 ≤ w) (h1 : w < n) : cL n (row ++ [w]) = (cL n row).set w.toNat (cnt (cL n row) w + 1) := by
  refine cnt_ext cL_len (by rw [List.length_set]; exact cL_len) fun x x0 x1 => ?_
  rw [cnt_set h0 (by rw [cL_len]; exact h1) x0, cL_at x0 x1, count_app, cL_at h0 h1]
  by_cases e : w = x
  · subst e
    rw [if_pos rfl, if_pos rfl]
    omega
  · rw [if_neg e, if_neg e, cL_at x0 x1]
    omega
theorem cL_nil {n : Nat} : cL n [] = List.replicate n 0 := by
  refine cnt_ext cL_len List.length_replicate fun x x0 x1 => ?_
  rw [cL_at x0 x1]
  unfold Rh.cnt
  rw [List.getElem?_replicate, if_pos (by omega)]
  rfl
def hpOf (row : List Int) (l : Ln) : Int := l.st + l.gi * row.count l.g - l.ta * row.count l.t
def hps (ls : List Ln) (row : List Int) : List Int := ls.map (hpOf row)
theorem hps_nil {ls : List Ln} : hps ls [] = ls.map Ln.st := by
  unfold hps
  refine List.map_congr_left fun l _ => ?_
  unfold hpOf
  rw [List.count_nil, List.count_nil]
  simp
theorem shf_hp {l : Ln} {row : List Int} {w : Int} : shf l (hpOf row l) w = hpOf (row ++ [w]) l := by
  unfold shf hpOf
  rw [count_app, count_app, Int.natCast_add, Int.natCast_add, Int.mul_add, Int.mul_add]
  by_cases a : l.g = w <;> by_cases b : l.t = w
  · rw [if_pos a, if_pos b, if_pos a.symm, if_pos b.symm]
    simp
    omega
  · rw [if_pos a, if_neg b, if_pos a.symm, if_neg (fun z => b z.symm)]
    simp
    omega
  · rw [if_neg a, if_pos b, if_neg (fun z => a z.symm), if_pos b.symm]
    simp
    omega
  · rw [if_neg a, if_neg b, if_neg (fun z => a z.symm), if_neg (fun z => b z.symm)]
    simp
theorem zip_self_map {α β : Type} (f : α → β) : ∀ ls : List α, ls.zip (ls.map f) = ls.map fun l => (l, f l)
  | [] => rfl
  | a :: r => by rw [List.map_cons, List.zip_cons_cons, zip_self_map f r, List.map_cons]
theorem shift_hps {ls : List Ln} {row : List Int} {w : Int} : shiftL ls (hps ls row) w = hps ls (row ++ [w]) := by
  unfold shiftL hps
  rw [zip_self_map, List.map_map]
  refine List.map_congr_left fun l _ => shf_hp
theorem rdy_hps {ls : List Ln} {row : List Int} {w : Int} : rdy ls (hps ls row) w = true ↔ ∀ l ∈ ls, l.t = w → l.ta ≤ hpOf row l := by
  unfold rdy hps
  rw [zip_self_map, List.all_map, List.all_eq_true]
  constructor
  · intro h l hl e
    have := h l hl
    simp only [Function.comp, e, decide_true, Bool.true_and, Bool.not_eq_true', decide_eq_false_iff_not] at this
    omega
  · intro h l hl
    simp only [Function.comp, Bool.not_eq_true', Bool.and_eq_false_iff, decide_eq_false_iff_not]
    by_cases e : l.t = w
    · right
      have := h l hl e
      omega
    · exact .inl e
def Can (ls : List Ln) (gl row : List Int) (w : Int) : Prop := (row.count w : Int) < cnt gl w ∧ rdy ls (hps ls row) w = true
def Turns (ls : List Ln) (gl : List Int) (n : Nat) (row : List Int) : Prop := ∀ (k : Nat) w, row[k]? = some w → (0 ≤ w ∧ w < n) ∧ Can ls gl (row.take k) w
def Least (ls : List Ln) (gl row : List Int) : Prop := ∀ (k : Nat) w, row[k]? = some w → ∀ v : Int, 0 ≤ v → v < w → ¬ Can ls gl (row.take k) v
def Stuck (ls : List Ln) (gl : List Int) (n : Nat) (row : List Int) : Prop := ∀ w : Int, 0 ≤ w → w < n → ¬ Can ls gl row w
theorem Turns.nil {ls : List Ln} {gl : List Int} {n : Nat} : Turns ls gl n [] := fun k w h => by simp at h
theorem Least.nil {ls : List Ln} {gl : List Int} : Least ls gl [] := fun k w h => by simp at h
theorem get_app {row : List Int} {w x : Int} {k : Nat} (h : (row ++ [w])[k]? = some x) : (row[k]? = some x ∧ (row ++ [w]).take k = row.take k) ∨ (x = w ∧ (row ++ [w]).take k = row) := by
  by_cases hk : k < row.length
  · rw [List.getElem?_append_left hk] at h
    exact .inl ⟨h, List.take_append_of_le_length (by omega)⟩
  · rw [List.getElem?_append_right (by omega)] at h
    obtain ⟨h1, h2⟩ := List.getElem?_eq_some_iff.mp h
    rw [List.length_singleton] at h1
    have : k = row.length := by omega
    subst this
    refine .inr ⟨?_, by simp⟩
    simpa using h2.symm
theorem Turns.app {ls : List Ln} {gl : List Int} {n : Nat} {row : List Int} {w : Int} (h : Turns ls gl n row) (h0 : 0 ≤ w ∧ w < n) (hc : Can ls gl row w) : Turns ls gl n (row ++ [w]) := fun k x e => by
  rcases get_app e with ⟨e1, e2⟩ | ⟨rfl, e2⟩
  · rw [e2]
    exact h k x e1
  · rw [e2]
    exact ⟨h0, hc⟩
theorem Least.app {ls : List Ln} {gl : List Int} {row : List Int} {w : Int} (h : Least ls gl row) (hc : ∀ v : Int, 0 ≤ v → v < w → ¬ Can ls gl row v) : Least ls gl (row ++ [w]) := fun k x e => by
  rcases get_app e with ⟨e1, e2⟩ | ⟨rfl, e2⟩
  · rw [e2]
    exact h k x e1
  · rw [e2]
    exact hc
theorem Turns.take {ls : List Ln} {gl : List Int} {n : Nat} {row : List Int} (h : Turns ls gl n row) (j : Nat) : Turns ls gl n (row.take j) := fun k w e => by
  rw [List.getElem?_take] at e
  split at e
  · have := h k w e
    rwa [List.take_take, Nat.min_eq_left (by omega)]
  · cases e
theorem Turns.mem {ls : List Ln} {gl : List Int} {n : Nat} {row : List Int} (h : Turns ls gl n row) : ∀ w ∈ row, 0 ≤ w ∧ w < n := fun w hw => by
  obtain ⟨k, hk, e⟩ := List.mem_iff_getElem.mp hw
  exact (h k w (by rw [← e]; exact List.getElem?_eq_getElem hk)).1
theorem Turns.le {ls : List Ln} {gl : List Int} {n : Nat} {row : List Int} (h : Turns ls gl n row) (hg : ∀ w : Int, 0 ≤ w → w < n → 0 ≤ cnt gl w) : ∀ (k : Nat) (w : Int), 0 ≤ w → w < n → ((row.take k).count w : Int) ≤ cnt gl w
  | 0, w, h0, h1 => by
    rw [List.take_zero, List.count_nil]
    exact hg w h0 h1
  | k + 1, w, h0, h1 => by
    have ih := Turns.le h hg k w h0 h1
    rw [List.take_add_one]
    cases e : row[k]? with
    | none => simpa using ih
    | some x =>
      have hc := (h k x e).2.1
      show ((row.take k ++ [x]).count w : Int) ≤ _
      rw [count_app]
      by_cases ex : x = w
      · subst ex
        rw [if_pos rfl]
        omega
      · rw [if_neg ex]
        exact ih
theorem Turns.le' {ls : List Ln} {gl : List Int} {n : Nat} {row : List Int} (h : Turns ls gl n row) (hg : ∀ w : Int, 0 ≤ w → w < n → 0 ≤ cnt gl w) {w : Int} (h0 : 0 ≤ w) (h1 : w < n) : (row.count w : Int) ≤ cnt gl w := by
  have := h.le hg row.length w h0 h1
  rwa [List.take_length] at this
/-- nobody turns oftener than in a row that sticks -/
theorem dom {ls : List Ln} {gl : List Int} {n : Nat} {r1 r2 : List Int} (hp : PosL ls) (s : Stuck ls gl n r1) (h : Turns ls gl n r2) : ∀ (k : Nat) (w : Int), (r2.take k).count w ≤ r1.count w
  | 0, w => by
    rw [List.take_zero, List.count_nil]
    exact Nat.zero_le _
  | k + 1, w => by
    have ih := fun w => dom hp s h k w
    rw [List.take_add_one]
    cases e : r2[k]? with
    | none => simpa using ih w
    | some x =>
      obtain ⟨⟨x0, x1⟩, hc, hr⟩ := h k x e
      show ((r2.take k ++ [x]).count w) ≤ _
      rw [count_app]
      by_cases ex : x = w
      · subst ex
        rw [if_pos rfl]
        refine Nat.lt_of_le_of_ne (ih x) fun q => s x x0 x1 ⟨by rw [← q]; exact hc, rdy_hps.mpr fun l hl et => ?_⟩
        have h1 := rdy_hps.mp hr l hl et
        have h2 := Int.mul_le_mul_of_nonneg_left (show ((r2.take k).count l.g : Int) ≤ (r1.count l.g : Int) by have := ih l.g; omega) (show 0 ≤ l.gi by have := (hp l hl).1; omega)
        unfold hpOf at h1 ⊢
        rw [et] at h1 ⊢
        rw [← q]
        omega
      · rw [if_neg ex]
        exact ih w
theorem dom' {ls : List Ln} {gl : List Int} {n : Nat} {r1 r2 : List Int} (hp : PosL ls) (s : Stuck ls gl n r1) (h : Turns ls gl n r2) (w : Int) : r2.count w ≤ r1.count w := by
  have := dom hp s h r2.length w
  rwa [List.take_length] at this
/-- all rows that stick have the same counts -/
theorem stuck_same {ls : List Ln} {gl : List Int} {n : Nat} {r1 r2 : List Int} (hp : PosL ls) (s1 : Stuck ls gl n r1) (h1 : Turns ls gl n r1) (s2 : Stuck ls gl n r2) (h2 : Turns ls gl n r2) : cL n r1 = cL n r2 := by
  refine cnt_ext cL_len cL_len fun w a b => ?_
  rw [cL_at a b, cL_at a b]
  have := dom' hp s1 h2 w
  have := dom' hp s2 h1 w
  omega
theorem sum_set {xs : List Int} : ∀ {i : Nat} {v : Int}, i < xs.length → (xs.set i v).sum = xs.sum - (xs[i]?).getD 0 + v := by
  induction xs with
  | nil => intro i v h; simp at h
  | cons a r ih =>
    intro i v h
    cases i with
    | zero =>
      simp only [List.set_cons_zero, List.sum_cons, List.getElem?_cons_zero, Option.getD_some]
      omega
    | succ i =>
      simp only [List.set_cons_succ, List.sum_cons, List.getElem?_cons_succ]
      rw [ih (by simpa using h)]
      omega
theorem sum_repl {n : Nat} : (List.replicate n (0 : Int)).sum = 0 := by
  induction n with
  | zero => rfl
  | succ n ih => rw [List.replicate_succ, List.sum_cons, ih]; rfl
theorem len_sum {n : Nat} : ∀ row : List Int, (∀ w ∈ row, 0 ≤ w ∧ w < n) → (row.length : Int) = (cL n row).sum := fun row => by
  induction row using rev_ind with
  | nil =>
    intro _
    rw [cL_nil, sum_repl]
    rfl
  | snoc row w ih =>
    intro h
    have hw := h w (by simp)
    have ih := ih fun x hx => h x (by simp [hx])
    rw [cL_app hw.1 hw.2, sum_set (by rw [cL_len]; omega), ← ih, List.length_append, List.length_singleton]
    unfold Rh.cnt
    omega
theorem sum_le {xs : List Int} : ∀ {ys : List Int}, xs.length = ys.length → (∀ i : Nat, (xs[i]?).getD 0 ≤ (ys[i]?).getD 0) → xs.sum ≤ ys.sum := by
  induction xs with
  | nil => intro ys h _; have : ys = [] := List.eq_nil_of_length_eq_zero h.symm; rw [this]; exact Int.le_refl _
  | cons a r ih =>
    intro ys h k
    cases ys with
    | nil => cases h
    | cons b s =>
      have h0 := k 0
      have := ih (ys := s) (by simpa using h) fun i => k (i + 1)
      simp only [List.sum_cons]
      simp at h0
      omega
theorem Turns.len {ls : List Ln} {gl : List Int} {n : Nat} {row : List Int} (h : Turns ls gl n row) (hl : gl.length = n) (hg : ∀ w : Int, 0 ≤ w → w < n → 0 ≤ cnt gl w) : (row.length : Int) ≤ gl.sum := by
  rw [len_sum row h.mem]
  refine sum_le (cL_len.trans hl.symm) fun i => ?_
  by_cases hi : i < n
  · have := h.le' hg (w := i) (by omega) (by omega)
    rw [← cL_at (n := n) (row := row) (by omega) (by omega)] at this
    unfold Rh.cnt at this
    rwa [Int.toNat_natCast] at this
  · rw [List.getElem?_eq_none (by rw [cL_len]; omega), List.getElem?_eq_none (by omega)]
    exact Int.le_refl _
/-- a belt that is short for a work with turns left has a giver with turns left -/
theorem short_giver {ls : List Ln} {gl : List Int} {n : Nat} {row : List Int} (S : Sol ls n gl) (hi : Inr (ends ls) n) (hp : PosL ls) (h : Turns ls gl n row) {l : Ln} (hl : l ∈ ls) (h0 : 0 ≤ l.st) (hc : (row.count l.t : Int) < cnt gl l.t) (hs : hpOf row l < l.ta) : (row.count l.g : Int) < cnt gl l.g := by
  obtain ⟨⟨g0, g1⟩, t0, t1⟩ := hi _ (ends_mem hl)
  have le := h.le' (fun w a b => Int.le_of_lt (S.pos w a b)) g0 g1
  refine Int.lt_iff_le_and_ne.mpr ⟨le, fun e => ?_⟩
  have e : (row.count l.g : Int) = cnt gl l.g := e
  unfold hpOf at hs
  rw [e, S.bal l hl] at hs
  have ht := (hp l hl).2
  have : l.ta * (row.count l.t : Int) + l.ta ≤ l.ta * cnt gl l.t := by
    have := Int.mul_le_mul_of_nonneg_left (show (row.count l.t : Int) + 1 ≤ cnt gl l.t by omega) (show 0 ≤ l.ta by omega)
    rwa [Int.mul_add, Int.mul_one] at this
  omega
/-- a ring of short belts -/
structure StopR (ls : List Ln) (gl row ring : List Int) : Prop where
  ne : ring ≠ []
  nd : ring.Nodup
  at_ : ∀ i ∈ ring, ∃ l, 0 ≤ i ∧ ls[i.toNat]? = some l ∧ (row.count l.t : Int) < cnt gl l.t ∧ hpOf row l < l.ta
  ch : ∀ (k : Nat) i j l l', ring[k]? = some i → ring[k + 1]? = some j → ls[i.toNat]? = some l → ls[j.toNat]? = some l' → l.g = l'.t
  cl : ∀ i j l l', ring[ring.length - 1]? = some i → ring[0]? = some j → ls[i.toNat]? = some l → ls[j.toNat]? = some l' → l.g = l'.t
theorem LstAt.put' {μ : Sto} {t : T} {us : List T} {p : Addr} {o : Ob} (h : LstAt μ t us) (hn : t ≠ .own p) : LstAt (μ.set p o) t us := by
  rcases h with rfl | ⟨q, rfl, e⟩
  · exact .lst
  · exact .own (by rw [set_ne (fun z => hn (by rw [z]))]; exact e)
/-- an attempt in the store -/
structure AtSt (μ : Sto) (a p3 p4 : Addr) (th : T) (ls : List Ln) (gl : List Int) (n : Nat) (row : List Int) : Prop where
  o : μ a = some (.obj 0 [.lst (ls.map Ln.tr), .lst (gl.map T.int), th, .own p3, .own p4])
  h : LstAt μ th ((hps ls row).map T.int)
  c : μ p3 = some (.lst ((cL n row).map T.int))
  r : μ p4 = some (.lst (row.map T.int))
  hn : th ≠ .own a ∧ th ≠ .own p3 ∧ th ≠ .own p4
  gl : gl.length = n
  n1 : p3 ≠ p4
theorem AtSt.n3 {μ : Sto} {a p3 p4 : Addr} {th : T} {ls : List Ln} {gl : List Int} {n : Nat} {row : List Int} (S : AtSt μ a p3 p4 th ls gl n row) : a ≠ p3 := fun e => by
  have := S.c
  rw [← e, S.o] at this
  cases this
theorem AtSt.n4 {μ : Sto} {a p3 p4 : Addr} {th : T} {ls : List Ln} {gl : List Int} {n : Nat} {row : List Int} (S : AtSt μ a p3 p4 th ls gl n row) : a ≠ p4 := fun e => by
  have := S.r
  rw [← e, S.o] at this
  cases this
/-- the belts back, with the room that is left -/
def bk (p : Ln × Int) : Ln := ⟨p.1.t, p.1.g, p.1.ta, p.1.gi, p.2 - p.1.st⟩
def bkL (ls : List Ln) (rm : List Int) : List Ln := (ls.zip rm).map bk
structure NmL (ns : List Str) : Prop where
  nm : ∀ n ∈ ns, isName n = true
  nd : ns.Nodup
  le : ns.length ≤ 30
theorem NmL.at_ {nl : List Str} (h : NmL nl) {k : Nat} {x : Str} (e : nl[k]? = some x) : isName x = true ∧ x.length ≤ sizeLine ∧ sOk x ∧ x ∉ nl.take k := by
  have hm := List.mem_of_getElem? e
  obtain ⟨c, d⟩ := isName_ok (h.nm x hm)
  refine ⟨h.nm x hm, Nat.le_trans d (by decide), c, fun z => ?_⟩
  have hd := h.nd
  rw [← List.take_append_drop k nl] at hd
  refine (List.nodup_append.mp hd).2.2 _ z _ ?_ rfl
  rw [List.drop_eq_getElem_cons (List.getElem?_eq_some_iff.mp e).1]
  rw [(List.getElem?_eq_some_iff.mp e).2]
  exact List.mem_cons_self
theorem NmL.ok {nl : List Str} (h : NmL nl) : ∀ x ∈ nl, sOk x := fun x hx => (isName_ok (h.nm x hx)).1
theorem LstAt.sb {μ μ' : Sto} {t : T} {us : List T} (h : LstAt μ t us) (s : Rh.Sub μ μ') : LstAt μ' t us := by
  rcases h with rfl | ⟨q, rfl, e⟩
  · exact .lst
  · exact .own (s _ _ e)
theorem zip_lr {ls : List Ln} {rm : List Int} : ((ls.map Ln.tr).zip (rm.map T.int)).map (fun p => T.tup [p.1, p.2]) = (ls.zip rm).map fun p => T.tup [p.1.tr, .int p.2] := by
  rw [List.zip_map, List.map_map]
  rfl
/-! what a backed hall is -/
theorem bk_hp {row : List Int} {l : Ln} {r : Int} : hpOf row (bk (l, r)) = r - hpOf row l := by
  unfold hpOf bk
  dsimp only
  omega
theorem zip_fst {ls : List Ln} {rm : List Int} (h : rm.length = ls.length) {l : Ln} (hl : l ∈ ls) : ∃ r, (l, r) ∈ ls.zip rm := by
  obtain ⟨i, hi, e⟩ := List.mem_iff_getElem.mp hl
  refine ⟨rm[i]'(by omega), ?_⟩
  rw [← e, ← List.getElem_zip (h := by rw [List.length_zip]; omega)]
  exact List.getElem_mem _
theorem bkL_len {ls : List Ln} {rm : List Int} (h : rm.length = ls.length) : (bkL ls rm).length = ls.length := by
  unfold bkL
  rw [List.length_map, List.length_zip, h, Nat.min_self]
theorem bkL_mem {ls : List Ln} {rm : List Int} {x : Ln} : x ∈ bkL ls rm ↔ ∃ l r, (l, r) ∈ ls.zip rm ∧ x = bk (l, r) := by
  unfold bkL
  rw [List.mem_map]
  constructor
  · rintro ⟨⟨l, r⟩, h, e⟩
    exact ⟨l, r, h, e.symm⟩
  · rintro ⟨l, r, h, e⟩
    exact ⟨(l, r), h, e.symm⟩
theorem mem_zipL {ls : List Ln} {rm : List Int} {l : Ln} {r : Int} (h : (l, r) ∈ ls.zip rm) : l ∈ ls := (List.of_mem_zip h).1
theorem back_inr {ls : List Ln} {rm : List Int} {n : Nat} (h : Inr (ends ls) n) : Inr (ends (ls ++ bkL ls rm)) n := fun e he => by
  obtain ⟨x, hx, rfl⟩ := List.mem_map.mp he
  rcases List.mem_append.mp hx with hx | hx
  · exact h _ (ends_mem hx)
  · obtain ⟨l, r, hl, rfl⟩ := bkL_mem.mp hx
    have := h _ (ends_mem (mem_zipL hl))
    exact ⟨this.2, this.1⟩
theorem back_pos {ls : List Ln} {rm : List Int} (h : PosL ls) : PosL (ls ++ bkL ls rm) := fun x hx => by
  rcases List.mem_append.mp hx with hx | hx
  · exact h x hx
  · obtain ⟨l, r, hl, rfl⟩ := bkL_mem.mp hx
    have := h l (mem_zipL hl)
    exact ⟨this.2, this.1⟩
theorem back_bt {ls : List Ln} {rm : List Int} {k : Nat} (h : ∀ l ∈ ls, Bt k (Ln.gi l) ∧ Bt k l.ta) : ∀ l ∈ ls ++ bkL ls rm, Bt k (Ln.gi l) ∧ Bt k l.ta := fun x hx => by
  rcases List.mem_append.mp hx with hx | hx
  · exact h x hx
  · obtain ⟨l, r, hl, rfl⟩ := bkL_mem.mp hx
    have := h l (mem_zipL hl)
    exact ⟨this.2, this.1⟩
theorem back_st {ls : List Ln} {rm : List Int} (h : ∀ l ∈ ls, 0 ≤ Ln.st l) (hr : ∀ p ∈ ls.zip rm, Ln.st p.1 ≤ p.2) : ∀ l ∈ ls ++ bkL ls rm, 0 ≤ Ln.st l := fun x hx => by
  rcases List.mem_append.mp hx with hx | hx
  · exact h x hx
  · obtain ⟨l, r, hl, rfl⟩ := bkL_mem.mp hx
    have := hr _ hl
    show 0 ≤ r - l.st
    dsimp only at this
    omega
theorem back_con {ls : List Ln} {rm : List Int} {a b : Int} : Con (ends (ls ++ bkL ls rm)) a b ↔ Con (ends ls) a b := by
  have key : ∀ u v : Int, ((u, v) ∈ ends (ls ++ bkL ls rm) ∨ (v, u) ∈ ends (ls ++ bkL ls rm)) ↔ ((u, v) ∈ ends ls ∨ (v, u) ∈ ends ls) := fun u v => by
    have one : ∀ u v : Int, (u, v) ∈ ends (ls ++ bkL ls rm) → ((u, v) ∈ ends ls ∨ (v, u) ∈ ends ls) := fun u v h => by
      obtain ⟨x, hx, e⟩ := List.mem_map.mp h
      rcases List.mem_append.mp hx with hx | hx
      · exact .inl (e ▸ ends_mem hx)
      · obtain ⟨l, r, hl, rfl⟩ := bkL_mem.mp hx
        have := ends_mem (mem_zipL hl)
        cases e
        exact .inr this
    have two : ∀ u v : Int, (u, v) ∈ ends ls → (u, v) ∈ ends (ls ++ bkL ls rm) := fun u v h => by
      obtain ⟨x, hx, e⟩ := List.mem_map.mp h
      exact e ▸ ends_mem (List.mem_append_left _ hx)
    constructor
    · rintro (h | h)
      · exact one u v h
      · exact (one v u h).symm
    · exact fun h => h.imp (two u v) (two v u)
  exact ⟨fun c => by
    induction c with
    | refl => exact .refl
    | step _ h ih => exact ih.step ((key _ _).mp h), fun c => by
    induction c with
    | refl => exact .refl
    | step _ h ih => exact ih.step ((key _ _).mpr h)⟩
theorem back_sol {ls : List Ln} {rm rs : List Int} {n : Nat} : Sol (ls ++ bkL ls rm) n rs ↔ Sol ls n rs := by
  constructor
  · exact fun S => ⟨S.len, S.pos, fun l hl => S.bal l (List.mem_append_left _ hl)⟩
  · refine fun S => ⟨S.len, S.pos, fun x hx => ?_⟩
    rcases List.mem_append.mp hx with hx | hx
    · exact S.bal x hx
    · obtain ⟨l, r, hl, rfl⟩ := bkL_mem.mp hx
      exact (S.bal l (mem_zipL hl)).symm
theorem back_bal {ls : List Ln} {rm rs : List Int} {n : Nat} : Bal (ls ++ bkL ls rm) n rs ↔ Bal ls n rs := by
  constructor
  · exact fun S => ⟨back_sol.mp S.toSol, fun a h0 h1 d hd h => S.one a h0 h1 d hd fun w c => h w (back_con.mp c)⟩
  · exact fun S => ⟨back_sol.mpr S.toSol, fun a h0 h1 d hd h => S.one a h0 h1 d hd fun w c => h w (back_con.mpr c)⟩
/-- how often each member turns, as a dict -/
def tD (ms rs : List Int) (c : Int) : List (Key × T) := ms.map fun m => (Sum.inl m, T.int (cnt rs m / c))
structure JoAt (μ : Sto) (j pt : Addr) (row : List Int) (fst : Int) (kept : List Int) (called : List Str) (tied : List Ln) : Prop where
  o : μ j = some (.obj 4 [.lst (row.map T.int), .int fst, .lst (kept.map T.int), .lst (called.map T.str), .own pt])
  t : μ pt = some (.lst (tied.map Ln.tr))
def gM (ms rs : List Int) : Int := (ms.map (cnt rs)).foldl (fun a b => (Int.gcd a b : Int)) 0
/-! rooms that cannot be less -/
def wR (ls : List Ln) (rm : List Int) : List Ln := ls ++ bkL ls rm
def HasR (ls : List Ln) (rs : List Int) (n : Nat) (rm : List Int) : Prop := ∃ row, Turns (wR ls rm) rs n row ∧ cL n row = rs
theorem stuck_of_done {ls : List Ln} {gl : List Int} {n : Nat} {row : List Int} (h : cL n row = gl) : Stuck ls gl n row := fun w a b hc => by
  have := hc.1
  rw [← h, cL_at a b] at this
  omega
theorem HasR.done {ls : List Ln} {rs rm : List Int} {n : Nat} (hp : PosL ls) (h : HasR ls rs n rm) {row : List Int} (hT : Turns (wR ls rm) rs n row) (hS : Stuck (wR ls rm) rs n row) : cL n row = rs := by
  obtain ⟨r0, t0, d0⟩ := h
  rw [← d0]
  exact stuck_same (back_pos hp) hS hT (stuck_of_done d0) t0
theorem can_back {ls : List Ln} {rm rs row : List Int} {w : Int} (hl : rm.length = ls.length) : Can (wR ls rm) rs row w ↔ (row.count w : Int) < cnt rs w ∧ (∀ l ∈ ls, l.t = w → l.ta ≤ hpOf row l) ∧ ∀ (i : Nat) l, ls[i]? = some l → l.g = w → hpOf row l + l.gi ≤ cnt rm i := by
  unfold Can wR
  rw [rdy_hps]
  have hz : ∀ (i : Nat) l, ls[i]? = some l → (l, cnt rm i) ∈ ls.zip rm := fun i l e => by
    have hi := (List.getElem?_eq_some_iff.mp e).1
    have e2 := (List.getElem?_eq_some_iff.mp e).2
    have e3 : cnt rm (i : Nat) = rm[i]'(by omega) := by
      unfold Rh.cnt
      rw [Int.toNat_natCast, List.getElem?_eq_getElem (by omega)]
      rfl
    rw [e3, ← e2, ← List.getElem_zip (h := by rw [List.length_zip]; omega)]
    exact List.getElem_mem _
  constructor
  · rintro ⟨h1, h2⟩
    refine ⟨h1, fun l h e => h2 l (List.mem_append_left _ h) e, fun i l e eg => ?_⟩
    have := h2 (bk (l, cnt rm i)) (List.mem_append_right _ (bkL_mem.mpr ⟨_, _, hz i l e, rfl⟩)) eg
    rw [bk_hp] at this
    have : l.gi ≤ cnt rm i - hpOf row l := this
    omega
  · rintro ⟨h1, h2, h3⟩
    refine ⟨h1, fun x hx e => ?_⟩
    rcases List.mem_append.mp hx with hx | hx
    · exact h2 x hx e
    · obtain ⟨l, r, hlr, rfl⟩ := bkL_mem.mp hx
      obtain ⟨i, hi, e9⟩ := List.mem_iff_getElem.mp hlr
      rw [List.length_zip] at hi
      rw [List.getElem_zip, Prod.mk.injEq] at e9
      obtain ⟨e7, e8⟩ := e9
      have := h3 i l (by rw [List.getElem?_eq_getElem (by omega), e7]) e
      have e3 : cnt rm (i : Nat) = r := by
        unfold Rh.cnt
        rw [Int.toNat_natCast, List.getElem?_eq_getElem (by omega), e8]
        rfl
      rw [e3] at this
      rw [bk_hp]
      show l.gi ≤ r - hpOf row l
      omega
theorem turns_up {ls : List Ln} {rm rm' rs : List Int} {n : Nat} {row : List Int} (hl : rm.length = ls.length) (hl' : rm'.length = ls.length) (hle : ∀ i : Nat, i < ls.length → cnt rm i ≤ cnt rm' i) (h : Turns (wR ls rm) rs n row) : Turns (wR ls rm') rs n row := fun k w e => by
  obtain ⟨h1, h2⟩ := h k w e
  obtain ⟨a, b, c⟩ := (can_back hl).mp h2
  exact ⟨h1, (can_back hl').mpr ⟨a, b, fun i l e eg => Int.le_trans (c i l e eg) (hle i (List.getElem?_eq_some_iff.mp e).1)⟩⟩
theorem HasR.up {ls : List Ln} {rm rm' rs : List Int} {n : Nat} (hl : rm.length = ls.length) (hl' : rm'.length = ls.length) (hle : ∀ i : Nat, i < ls.length → cnt rm i ≤ cnt rm' i) (h : HasR ls rs n rm) : HasR ls rs n rm' := by
  obtain ⟨row, t, d⟩ := h
  exact ⟨row, turns_up hl hl' hle t, d⟩
theorem cnt_setR {xs : List Int} {b i : Nat} {v : Int} (hb : b < xs.length) : cnt (xs.set b v) (i : Int) = if i = b then v else cnt xs (i : Int) := by
  unfold Rh.cnt
  rw [Int.toNat_natCast]
  by_cases e : i = b
  · subst e
    rw [if_pos rfl, List.getElem?_set_self hb]
    rfl
  · rw [if_neg e, List.getElem?_set_ne (fun z => e z.symm)]
/-- where a row sticks, the room must be raised at least so far -/
theorem raise_one {ls : List Ln} {rm rs : List Int} {n b : Nat} {l : Ln} {r R' : Int} {row : List Int} (hp : PosL ls) (hl : rm.length = ls.length) (hb : ls[b]? = some l) (hT : Turns (wR ls (rm.set b r)) rs n row) (hS : Stuck (wR ls (rm.set b r)) rs n row) (hne : cL n row ≠ rs) (hR : HasR ls rs n (rm.set b R')) (hle : r ≤ R') : r < hpOf row l + l.gi ∧ hpOf row l + l.gi ≤ R' := by
  have hbl := (List.getElem?_eq_some_iff.mp hb).1
  have l1 : (rm.set b r).length = ls.length := by rw [List.length_set]; exact hl
  have l2 : (rm.set b R').length = ls.length := by rw [List.length_set]; exact hl
  have hle' : ∀ i : Nat, i < ls.length → cnt (rm.set b r) i ≤ cnt (rm.set b R') i := fun i hi => by
    rw [cnt_setR (by omega), cnt_setR (by omega)]
    split
    · exact hle
    · exact Int.le_refl _
  have hT2 := turns_up l1 l2 hle' hT
  have hns : ¬ Stuck (wR ls (rm.set b R')) rs n row := fun z => hne (hR.done hp hT2 z)
  have : ∃ w : Int, 0 ≤ w ∧ w < n ∧ Can (wR ls (rm.set b R')) rs row w := by
    apply Classical.byContradiction
    intro h
    exact hns fun w a b c => h ⟨w, a, b, c⟩
  obtain ⟨w, w0, w1, hc⟩ := this
  have hnc := hS w w0 w1
  obtain ⟨c1, c2, c3⟩ := (can_back l2).mp hc
  have h4 : l.g = w := by
    apply Classical.byContradiction
    intro hg
    refine hnc ((can_back l1).mpr ⟨c1, c2, fun i x e eg => ?_⟩)
    have hib : i ≠ b := fun z => by
      subst z
      rw [hb] at e
      cases e
      exact hg eg
    have := c3 i x e eg
    rw [cnt_setR (by omega), if_neg hib] at this ⊢
    exact this
  have h5 := c3 b l hb h4
  rw [cnt_setR (by omega), if_pos rfl] at h5
  refine ⟨?_, h5⟩
  apply Classical.byContradiction
  intro h6
  refine hnc ((can_back l1).mpr ⟨c1, c2, fun i x e eg => ?_⟩)
  rw [cnt_setR (by omega)]
  by_cases hib : i = b
  · subst hib
    rw [hb] at e
    cases e
    rw [if_pos rfl]
    omega
  · have := c3 i x e eg
    rw [cnt_setR (by omega), if_neg hib] at this
    rw [if_neg hib]
    exact this
theorem zip_st {ls : List Ln} {rm : List Int} (hl : rm.length = ls.length) (h : ∀ (i : Nat) l, ls[i]? = some l → Ln.st l ≤ cnt rm i) : ∀ p ∈ ls.zip rm, Ln.st p.1 ≤ p.2 := fun p hp => by
  obtain ⟨i, hi, rfl⟩ := List.mem_iff_getElem.mp hp
  rw [List.length_zip] at hi
  rw [List.getElem_zip]
  have := h i _ (List.getElem?_eq_getElem (by omega))
  unfold Rh.cnt at this
  rw [Int.toNat_natCast, List.getElem?_eq_getElem (by omega)] at this
  exact this
theorem cut_mid {us : List T} {b : Nat} (hb : b < us.length) : cutT us (some ((b : Int) + 1)) none = us.drop (b + 1) := by
  have := cut_from (us := us) (i := ((b + 1 : Nat) : Int)) (by omega) (by rw [Int.toNat_natCast]; omega)
  rw [Int.toNat_natCast] at this
  exact this
/-! the peaks are rooms enough -/
theorem cnt_get {xs : List Int} {i : Nat} {x : Int} (e : xs[i]? = some x) : cnt xs (i : Int) = x := by
  unfold Rh.cnt
  rw [Int.toNat_natCast, e]
  rfl
theorem cnt_hps {ls : List Ln} {row : List Int} {i : Nat} {l : Ln} (e : ls[i]? = some l) : cnt (hps ls row) (i : Int) = hpOf row l := by
  refine cnt_get ?_
  unfold hps
  rw [List.getElem?_map, e]
  rfl
theorem cnt_sts {ls : List Ln} {i : Nat} {l : Ln} (e : ls[i]? = some l) : cnt (ls.map Ln.st) (i : Int) = l.st := by
  refine cnt_get ?_
  rw [List.getElem?_map, e]
  rfl
theorem some_cnt {xs : List Int} {i : Nat} (h : i < xs.length) : xs[i]? = some (cnt xs (i : Int)) := by
  unfold Rh.cnt
  rw [Int.toNat_natCast, List.getElem?_eq_getElem h]
  rfl
theorem pk1_c {ls : List Ln} {hs ms : List Int} {w : Int} {i : Nat} {l : Ln} (h1 : hs.length = ls.length) (h2 : ms.length = ls.length) (el : ls[i]? = some l) : cnt (pk1 ls hs ms w) (i : Int) = if l.g = w then bmax (cnt ms (i : Int)) (cnt hs (i : Int) + l.gi) else cnt ms (i : Int) := by
  have hi := (List.getElem?_eq_some_iff.mp el).1
  exact cnt_get (pk1_at el (some_cnt (by omega)) (some_cnt (by omega)))
theorem pkc_len {ls : List Ln} : ∀ {row hs ms : List Int}, hs.length = ls.length → ms.length = ls.length → (pkL ls row hs ms).length = ls.length
  | [], _, _, _, h => h
  | w :: r, _, _, h1, h2 => pkc_len (row := r) (shiftL_len (w := w) h1) (pk1_len (w := w) h1 h2)
theorem pkc_ge {ls : List Ln} {i : Nat} (hi : i < ls.length) : ∀ {row hs ms : List Int}, hs.length = ls.length → ms.length = ls.length → cnt ms (i : Int) ≤ cnt (pkL ls row hs ms) (i : Int)
  | [], _, _, _, _ => Int.le_refl _
  | w :: row, hs, ms, h1, h2 => by
    have h3 := pkc_ge hi (row := row) (shiftL_len (w := w) h1) (pk1_len (w := w) h1 h2)
    refine Int.le_trans ?_ h3
    rw [pk1_c h1 h2 (List.getElem?_eq_getElem hi)]
    split
    · unfold bmax
      split <;> omega
    · exact Int.le_refl _
theorem pkc_fit {ls : List Ln} {i : Nat} {l : Ln} (el : ls[i]? = some l) : ∀ (row pre ms : List Int) (k : Nat) (w : Int), ms.length = ls.length → row[k]? = some w → l.g = w → hpOf (pre ++ row.take k) l + l.gi ≤ cnt (pkL ls row (hps ls pre) ms) (i : Int)
  | [], _, _, _, _, _, h, _ => by simp at h
  | v :: row, pre, ms, 0, w, hm, h, hg => by
    have hv : v = w := by simpa using h
    subst hv
    have hl : (hps ls pre).length = ls.length := List.length_map _
    have h3 := pkc_ge (List.getElem?_eq_some_iff.mp el).1 (row := row) (shiftL_len (w := v) hl) (pk1_len (w := v) hl hm)
    refine Int.le_trans ?_ h3
    rw [pk1_c hl hm el, if_pos hg, cnt_hps el, List.take_zero, List.append_nil]
    unfold bmax
    split <;> omega
  | v :: row, pre, ms, k + 1, w, hm, h, hg => by
    have hl : (hps ls pre).length = ls.length := List.length_map _
    have := pkc_fit el row (pre ++ [v]) (pk1 ls (hps ls pre) ms v) k w (pk1_len hl hm) (by simpa using h) hg
    rw [pkL, shift_hps, List.take_succ_cons]
    rw [List.append_assoc] at this
    exact this
theorem goR_turns {ls : List Ln} {rs : List Int} {n : Nat} {row : List Int} (h : Turns ls rs n row) : ∀ (post pre : List Int), pre ++ post = row → goR ls n post (hps ls pre) = .ok (hps ls row)
  | [], pre, e => by
    rw [List.append_nil] at e
    rw [e]
    rfl
  | w :: post, pre, e => by
    have e1 : row[pre.length]? = some w := by
      rw [← e, List.getElem?_append_right (Nat.le_refl _), Nat.sub_self]
      rfl
    have e2 : row.take pre.length = pre := by rw [← e, List.take_left]
    obtain ⟨h1, h2⟩ := h _ _ e1
    rw [e2] at h2
    rw [goR, if_pos h1, if_pos h2.2, shift_hps]
    exact goR_turns h post (pre ++ [w]) (by rw [List.append_assoc]; exact e)
theorem has_peaks {ls : List Ln} {rs : List Int} {n : Nat} {row : List Int} (h : Turns ls rs n row) (d : cL n row = rs) : HasR ls rs n (pkL ls row (ls.map Ln.st) (ls.map Ln.st)) := by
  have hst : (ls.map Ln.st).length = ls.length := List.length_map _
  refine ⟨row, fun k w e => ?_, d⟩
  obtain ⟨h1, h2⟩ := h k w e
  refine ⟨h1, (can_back (pkc_len hst hst)).mpr ⟨h2.1, (rdy_hps.mp h2.2), fun i l el hg => ?_⟩⟩
  have := pkc_fit el row [] (ls.map Ln.st) k w hst e hg
  rw [hps_nil, List.nil_append] at this
  exact this
def StpR (ls : List Ln) (rs : List Int) (n : Nat) (rm : List Int) (i : Nat) (l : Ln) (s : T) : Prop := if cnt rm (i : Int) = Ln.st l then s = .non else ∃ row ring : List Int, s = .tup [.lst ((cL n row).map T.int), .lst (ring.map T.int)] ∧ Turns (wR ls (rm.set i (cnt rm (i : Int) - 1))) rs n row ∧ Least (wR ls (rm.set i (cnt rm (i : Int) - 1))) rs row ∧ Stuck (wR ls (rm.set i (cnt rm (i : Int) - 1))) rs n row ∧ cL n row ≠ rs ∧ StopR (wR ls (rm.set i (cnt rm (i : Int) - 1))) rs row ring ∧ ring.length ≤ 31
theorem fin_tl {us : List T} {μ μ' : Sto} {R : RP} {q : Addr} {t : T} (e : μ' q = some (.lst us)) (hq : μ q = Option.none) (s : Rh.Sub μ μ') (h : R (.tup [t, .lst us]) μ) : fin_ R (.tup [t, .own q]) μ' :=
  ⟨.tup [t, .lst us], μ, ⟨[q], .tup (.cons (.refl _) (.cons (.own e (List.mem_singleton.mpr rfl) (.refl _)) .nil)), s, fun a ha => by cases List.mem_singleton.mp ha; exact hq⟩, h⟩
structure LeanR (ls : List Ln) (rs : List Int) (n : Nat) (most rm : List Int) (sts : List T) : Prop where
  len : rm.length = ls.length
  lo : ∀ (i : Nat) l, ls[i]? = some l → Ln.st l ≤ cnt rm (i : Int)
  has : HasR ls rs n rm
  min : ∀ (i : Nat) l, ls[i]? = some l → cnt rm (i : Int) ≠ Ln.st l → ¬ HasR ls rs n (rm.take i ++ [cnt rm (i : Int) - 1] ++ most.drop (i + 1))
  slen : sts.length = ls.length
  stp : ∀ (i : Nat) l s, ls[i]? = some l → sts[i]? = some s → StpR ls rs n rm i l s
abbrev n_is_ready : Nat := 1
def i_is_ready : FnI := ⟨"is_ready", none, 1, 3, []⟩
def N_is_ready : List Str := ["lines", "heap", "work", "line", "lies"]
def c_is_ready : List Sx := [.for_ (.tup [(.nm 3), (.nm 4)]) .zip [(.var 0), (.var 1)] [.ife (.andor true [(.cmp .Eq (.idx (.var 3) (.cint 1)) (.var 2)), (.cmp .Lt (.var 4) (.idx (.var 3) (.cint 3)))]) [.ret (.cbl false)] []],
 .ret (.cbl true)]
abbrev n_Hall_init : Nat := 7
def i_Hall_init : FnI := ⟨"__init__", (some 3), 1, 1, []⟩
def N_Hall_init : List Str := ["self"]
def c_Hall_init : List Sx := [.asgF 3 0 (.var 0) (.lst true []),
 .asgF 3 1 (.var 0) (.lst true [])]
abbrev n_Hall_names : Nat := 9
def i_Hall_names : FnI := ⟨"names", (some 3), 1, 1, []⟩
def N_Hall_names : List Str := ["self"]
def c_Hall_names : List Sx := [.ret (.bif .list true [(.fld 3 0 (.var 0))])]
abbrev n_Hall_belts : Nat := 10
def i_Hall_belts : FnI := ⟨"belts", (some 3), 1, 1, []⟩
def N_Hall_belts : List Str := ["self"]
def c_Hall_belts : List Sx := [.ret (.bif .list true [(.fld 3 1 (.var 0))])]
abbrev n_Spread_init : Nat := 11
def i_Spread_init : FnI := ⟨"__init__", (some 6), 1, 2, []⟩
def N_Spread_init : List Str := ["self", "belts"]
def c_Spread_init : List Sx := [.asgF 6 0 (.var 0) (.var 1),
 .asgF 6 1 (.var 0) (.dict [] []),
 .asgF 6 2 (.var 0) (.dict [] [])]
abbrev n_divisor : Nat := 12
def i_divisor : FnI := ⟨"divisor", none, 1, 2, []⟩
def N_divisor : List Str := ["one", "other"]
def c_divisor : List Sx := [.while_ (.cmp .NotEq (.var 1) (.cint 0)) [.par 0 1 (.var 1) (.bin .Mod false (.var 0) (.var 1))],
 .ret (.var 0)]
abbrev n_ratio : Nat := 13
def i_ratio : FnI := ⟨"ratio", none, 2, 2, []⟩
def N_ratio : List Str := ["top", "bottom", "both"]
def c_ratio : List Sx := [.asg (.nm 2) (.call n_divisor 0 [(.var 0), (.var 1)]),
 .ret (.tup [(.bin .FloorDiv true (.var 0) (.var 2)), (.bin .FloorDiv true (.var 1) (.var 2))])]
abbrev n_times : Nat := 14
def i_times : FnI := ⟨"times", none, 3, 2, []⟩
def N_times : List Str := ["one", "other"]
def c_times : List Sx := [.ret (.call n_ratio 0 [(.bin .Mult false (.idx (.var 0) (.cint 0)) (.idx (.var 1) (.cint 0))), (.bin .Mult false (.idx (.var 0) (.cint 1)) (.idx (.var 1) (.cint 1)))])]
abbrev n_Spread_odd_belt : Nat := 15
def i_Spread_odd_belt : FnI := ⟨"odd_belt", (some 6), 4, 1, []⟩
def N_Spread_odd_belt : List Str := ["self", "number", "giver", "taker", "give", "take", "start"]
def c_Spread_odd_belt : List Sx := [.for_ (.tup [(.nm 1), (.tup [(.nm 2), (.nm 3), (.nm 4), (.nm 5), (.nm 6)])]) .enum [(.fld 6 0 (.var 0))] [.ife (.cmp .NotEq (.call n_times 0 [(.idx (.fld 6 1 (.var 0)) (.var 2)), (.call n_ratio 0 [(.var 4), (.var 5)])]) (.idx (.fld 6 1 (.var 0)) (.var 3))) [.ret (.var 1)] []],
 .ret .cnon]
abbrev n_Spread_ring_by : Nat := 16
def i_Spread_ring_by : FnI := ⟨"ring_by", (some 6), 1, 2, []⟩
def N_Spread_ring_by : List Str := ["self", "number", "giver", "taker", "give", "take", "start", "there", "here", "back", "belt", "along"]
def c_Spread_ring_by : List Sx := [.asg (.tup [(.nm 2), (.nm 3), (.nm 4), (.nm 5), (.nm 6)]) (.idx (.fld 6 0 (.var 0)) (.var 1)),
 .asg (.nm 7) (.bif .list true [(.idx (.fld 6 2 (.var 0)) (.var 3))]),
 .asg (.nm 8) (.bif .list true [(.idx (.fld 6 2 (.var 0)) (.var 2))]),
 .while_ (.andor true [(.var 7), (.var 8), (.cmp .Eq (.idx (.var 7) (.cint 0)) (.idx (.var 8) (.cint 0)))]) [.expr (.lm .popAt (.var 7) [(.cint 0)]),
 .expr (.lm .popAt (.var 8) [(.cint 0)])],
 .asg (.nm 9) (.comp false [10, 11] (.tup [(.nm 10), (.nm 11)]) .rev [(.var 7)] (.cbl true) (.tup [(.var 10), (.not (.var 11))])),
 .ret (.bin .Add true (.bin .Add false (.lst false [(.tup [(.var 1), (.cbl true)])]) (.var 9)) (.var 8))]
abbrev n_Spread_come_to : Nat := 17
def i_Spread_come_to : FnI := ⟨"come_to", (some 6), 4, 5, []⟩
def N_Spread_come_to : List Str := ["self", "work", "other", "factor", "pace"]
def c_Spread_come_to : List Sx := [.asgI (.fld 6 1 (.var 0)) (.var 2) (.call n_times 0 [(.idx (.fld 6 1 (.var 0)) (.var 1)), (.var 3)]),
 .asgI (.fld 6 2 (.var 0)) (.var 2) (.bin .Add false (.idx (.fld 6 2 (.var 0)) (.var 1)) (.lst false [(.var 4)]))]
abbrev n_Spread_walk_from : Nat := 18
def i_Spread_walk_from : FnI := ⟨"walk_from", (some 6), 5, 2, []⟩
def N_Spread_walk_from : List Str := ["self", "first", "todo", "work", "number", "giver", "taker", "give", "take", "start"]
def c_Spread_walk_from : List Sx := [.asgI (.fld 6 1 (.var 0)) (.var 1) (.tup [(.cint 1), (.cint 1)]),
 .asgI (.fld 6 2 (.var 0)) (.var 1) (.lst false []),
 .asg (.nm 2) (.lst true [(.var 1)]),
 .while_ (.var 2) [.asg (.nm 3) (.lm .pop (.var 2) []),
 .for_ (.tup [(.nm 4), (.tup [(.nm 5), (.nm 6), (.nm 7), (.nm 8), (.nm 9)])]) .enum [(.fld 6 0 (.var 0))] [.ife (.andor true [(.cmp .Eq (.var 5) (.var 3)), (.cmp .NotIn (.var 6) (.fld 6 1 (.var 0)))]) [.expr (.meth n_Spread_come_to 0 (.var 0) [(.var 3), (.var 6), (.call n_ratio 0 [(.var 7), (.var 8)]), (.tup [(.var 4), (.cbl true)])]),
 .expr (.lm .append (.var 2) [(.var 6)])] [],
 .ife (.andor true [(.cmp .Eq (.var 6) (.var 3)), (.cmp .NotIn (.var 5) (.fld 6 1 (.var 0)))]) [.expr (.meth n_Spread_come_to 0 (.var 0) [(.var 3), (.var 5), (.call n_ratio 0 [(.var 8), (.var 7)]), (.tup [(.var 4), (.cbl false)])]),
 .expr (.lm .append (.var 2) [(.var 5)])] []]]]
abbrev n_reached : Nat := 19
def i_reached : FnI := ⟨"reached", none, 1, 2, []⟩
def N_reached : List Str := ["belts", "first", "found", "todo", "work", "giver", "taker", "give", "take", "start"]
def c_reached : List Sx := [.asg (.nm 2) (.dict [(.var 1)] [(.cbl true)]),
 .asg (.nm 3) (.lst true [(.var 1)]),
 .while_ (.var 3) [.asg (.nm 4) (.lm .pop (.var 3) []),
 .for_ (.tup [(.nm 5), (.nm 6), (.nm 7), (.nm 8), (.nm 9)]) .val [(.var 0)] [.ife (.andor true [(.cmp .Eq (.var 5) (.var 4)), (.cmp .NotIn (.var 6) (.var 2))]) [.asgI (.var 2) (.var 6) (.cbl true),
 .expr (.lm .append (.var 3) [(.var 6)])] [],
 .ife (.andor true [(.cmp .Eq (.var 6) (.var 4)), (.cmp .NotIn (.var 5) (.var 2))]) [.asgI (.var 2) (.var 5) (.cbl true),
 .expr (.lm .append (.var 3) [(.var 5)])] []]],
 .ret (.bif .sorted true [(.var 2)])]
abbrev n_pieces_of : Nat := 20
def i_pieces_of : FnI := ⟨"pieces_of", none, 2, 1, []⟩
def N_pieces_of : List Str := ["hall", "belts", "told", "seen", "work", "piece", "one"]
def c_pieces_of : List Sx := [.asg (.nm 1) (.meth n_Hall_belts 0 (.var 0) []),
 .asg (.nm 2) (.lst true []),
 .asg (.nm 3) (.dict [] []),
 .for_ (.nm 4) .rng1 [(.bif .len false [(.meth n_Hall_names 0 (.var 0) [])])] [.ife (.cmp .NotIn (.var 4) (.var 3)) [.asg (.nm 5) (.call n_reached 0 [(.var 1), (.var 4)]),
 .for_ (.nm 6) .val [(.var 5)] [.asgI (.var 3) (.var 6) (.cbl true)],
 .expr (.lm .append (.var 2) [(.var 5)])] []],
 .ret (.var 2)]
abbrev n_multiple : Nat := 21
def i_multiple : FnI := ⟨"multiple", none, 2, 2, []⟩
def N_multiple : List Str := ["one", "other"]
def c_multiple : List Sx := [.ret (.bin .Mult true (.bin .FloorDiv false (.var 0) (.call n_divisor 0 [(.var 0), (.var 1)])) (.var 1))]
abbrev n_whole_rates : Nat := 22
def i_whole_rates : FnI := ⟨"whole_rates", none, 3, 2, []⟩
def N_whole_rates : List Str := ["ratios", "piece", "common", "work", "numbers", "both", "number"]
def c_whole_rates : List Sx := [.asg (.nm 2) (.cint 1),
 .for_ (.nm 3) .val [(.var 1)] [.asg (.nm 2) (.call n_multiple 0 [(.var 2), (.idx (.idx (.var 0) (.var 3)) (.cint 1))])],
 .asg (.nm 4) (.comp false [3] (.nm 3) .val [(.var 1)] (.cbl true) (.bin .Mult false (.idx (.idx (.var 0) (.var 3)) (.cint 0)) (.bin .FloorDiv false (.var 2) (.idx (.idx (.var 0) (.var 3)) (.cint 1))))),
 .asg (.nm 5) (.cint 0),
 .for_ (.nm 6) .val [(.var 4)] [.asg (.nm 5) (.call n_divisor 0 [(.var 5), (.var 6)])],
 .ret (.comp true [6] (.nm 6) .val [(.var 4)] (.cbl true) (.bin .FloorDiv false (.var 6) (.var 5)))]
abbrev n_rates_of : Nat := 23
def i_rates_of : FnI := ⟨"rates_of", none, 6, 1, []⟩
def N_rates_of : List Str := ["hall", "spread", "pieces", "piece", "odd", "rates", "name", "work", "rate"]
def c_rates_of : List Sx := [.asg (.nm 1) (.make 6 [(.meth n_Hall_belts 0 (.var 0) [])]),
 .asg (.nm 2) (.call n_pieces_of 0 [(.var 0)]),
 .for_ (.nm 3) .val [(.var 2)] [.expr (.meth n_Spread_walk_from 0 (.var 1) [(.idx (.var 3) (.cint 0))])],
 .asg (.nm 4) (.meth n_Spread_odd_belt 0 (.var 1) []),
 .ife (.cmp .IsNot (.var 4) .cnon) [.ret (.tup [.cnon, (.meth n_Spread_ring_by 0 (.var 1) [(.var 4)])])] [],
 .asg (.nm 5) (.comp true [6] (.nm 6) .val [(.meth n_Hall_names 0 (.var 0) [])] (.cbl true) (.cint 1)),
 .for_ (.nm 3) .val [(.var 2)] [.for_ (.tup [(.nm 7), (.nm 8)]) .zip [(.var 3), (.call n_whole_rates 0 [(.fld 6 1 (.var 1)), (.var 3)])] [.asgI (.var 5) (.var 7) (.var 8)]],
 .ret (.tup [(.var 5), .cnon])]
abbrev n_Hall_belt_at : Nat := 28
def i_Hall_belt_at : FnI := ⟨"belt_at", (some 3), 1, 2, []⟩
def N_Hall_belt_at : List Str := ["self", "belt"]
def c_Hall_belt_at : List Sx := [.ife (.not (.chain .LtE .Lt (.cint 0) (.var 1) (.bif .len false [(.fld 3 1 (.var 0))]))) [.raise 1] [],
 .ret (.idx (.fld 3 1 (.var 0)) (.var 1))]
abbrev n_Hall_lay : Nat := 29
def i_Hall_lay : FnI := ⟨"lay", (some 3), 1, 6, []⟩
def N_Hall_lay : List Str := ["self", "giver", "taker", "give", "take", "start"]
def c_Hall_lay : List Sx := [.expr (.lm .append (.fld 3 1 (.var 0)) [(.tup [(.var 1), (.var 2), (.var 3), (.var 4), (.var 5)])]),
 .ret (.bin .Sub true (.bif .len false [(.fld 3 1 (.var 0))]) (.cint 1))]
abbrev n_is_name : Nat := 30
def i_is_name : FnI := ⟨"is_name", none, 1, 1, []⟩
def N_is_name : List Str := ["thing", "sign"]
def c_is_name : List Sx := [.ife (.andor false [(.not (.isi ["str"] (.var 0))), (.cmp .Lt (.bif .len false [(.var 0)]) (.cint 1)), (.cmp .Gt (.bif .len false [(.var 0)]) (.cint 8))]) [.ret (.cbl false)] [],
 .ret (.bif .all true [(.comp false [1] (.nm 1) .strg [(.var 0)] (.cbl true) (.cmp .In (.var 1) (.glob 2)))])]
abbrev n_Hall_work : Nat := 31
def i_Hall_work : FnI := ⟨"work", (some 3), 2, 2, []⟩
def N_Hall_work : List Str := ["self", "name"]
def c_Hall_work : List Sx := [.ife (.not (.call n_is_name 0 [(.var 1)])) [.raise 5] [],
 .ife (.cmp .In (.var 1) (.fld 3 0 (.var 0))) [.raise 16] [],
 .ife (.cmp .GtE (.bif .len false [(.fld 3 0 (.var 0))]) (.glob 7)) [.raise 15] [],
 .expr (.lm .append (.fld 3 0 (.var 0)) [(.var 1)]),
 .ret (.bin .Sub true (.bif .len false [(.fld 3 0 (.var 0))]) (.cint 1))]
abbrev n_backed : Nat := 32
def i_backed : FnI := ⟨"backed", none, 3, 2, []⟩
def N_backed : List Str := ["hall", "rooms", "lines", "made", "name", "giver", "taker", "give", "take", "start", "line", "room"]
def c_backed : List Sx := [.asg (.nm 2) (.meth n_Hall_belts 0 (.var 0) []),
 .ife (.cmp .NotEq (.bif .len false [(.var 1)]) (.bif .len false [(.var 2)])) [.raise 8] [],
 .asg (.nm 3) (.make 3 []),
 .for_ (.nm 4) .val [(.meth n_Hall_names 0 (.var 0) [])] [.expr (.meth n_Hall_work 0 (.var 3) [(.var 4)])],
 .for_ (.tup [(.nm 5), (.nm 6), (.nm 7), (.nm 8), (.nm 9)]) .val [(.var 2)] [.expr (.meth n_Hall_lay 0 (.var 3) [(.var 5), (.var 6), (.var 7), (.var 8), (.var 9)])],
 .for_ (.tup [(.nm 10), (.nm 11)]) .zip [(.var 2), (.var 1)] [.asg (.tup [(.nm 5), (.nm 6), (.nm 7), (.nm 8), (.nm 9)]) (.var 10),
 .ife (.cmp .Lt (.var 11) (.var 9)) [.raise 8] [],
 .expr (.meth n_Hall_lay 0 (.var 3) [(.var 6), (.var 5), (.var 8), (.var 7), (.bin .Sub false (.var 11) (.var 9))])],
 .ret (.var 3)]
abbrev n_Floor_init : Nat := 38
def i_Floor_init : FnI := ⟨"__init__", (some 2), 2, 2, []⟩
def N_Floor_init : List Str := ["self", "hall", "line"]
def c_Floor_init : List Sx := [.asgF 2 0 (.var 0) (.meth n_Hall_belts 0 (.var 1) []),
 .asgF 2 1 (.var 0) (.bif .len true [(.meth n_Hall_names 0 (.var 1) [])]),
 .asgF 2 2 (.var 0) (.comp false [2] (.nm 2) .val [(.fld 2 0 (.var 0))] (.cbl true) (.idx (.var 2) (.cint 4)))]
abbrev n_Floor_need_work : Nat := 39
def i_Floor_need_work : FnI := ⟨"need_work", (some 2), 1, 2, []⟩
def N_Floor_need_work : List Str := ["self", "work"]
def c_Floor_need_work : List Sx := [.ife (.not (.chain .LtE .Lt (.cint 0) (.var 1) (.fld 2 1 (.var 0)))) [.raise 10] []]
abbrev n_Floor_lying : Nat := 41
def i_Floor_lying : FnI := ⟨"lying", (some 2), 1, 1, []⟩
def N_Floor_lying : List Str := ["self"]
def c_Floor_lying : List Sx := [.ret (.bif .list true [(.fld 2 2 (.var 0))])]
abbrev n_Hall_need : Nat := 43
def i_Hall_need : FnI := ⟨"need", (some 3), 1, 2, []⟩
def N_Hall_need : List Str := ["self", "work"]
def c_Hall_need : List Sx := [.ife (.not (.chain .LtE .Lt (.cint 0) (.var 1) (.bif .len false [(.fld 3 0 (.var 0))]))) [.raise 10] []]
abbrev n_Hall_leaving : Nat := 44
def i_Hall_leaving : FnI := ⟨"leaving", (some 3), 2, 2, []⟩
def N_Hall_leaving : List Str := ["self", "work", "number", "line"]
def c_Hall_leaving : List Sx := [.expr (.meth n_Hall_need 0 (.var 0) [(.var 1)]),
 .ret (.comp true [2, 3] (.tup [(.nm 2), (.nm 3)]) .enum [(.fld 3 1 (.var 0))] (.cmp .Eq (.idx (.var 3) (.cint 0)) (.var 1)) (.var 2))]
abbrev n_Floor_ready : Nat := 55
def i_Floor_ready : FnI := ⟨"ready", (some 2), 2, 2, []⟩
def N_Floor_ready : List Str := ["self", "work"]
def c_Floor_ready : List Sx := [.expr (.meth n_Floor_need_work 0 (.var 0) [(.var 1)]),
 .ret (.call n_is_ready 0 [(.fld 2 0 (.var 0)), (.fld 2 2 (.var 0)), (.var 1)])]
abbrev n_Hall_belt : Nat := 56
def i_Hall_belt : FnI := ⟨"belt", (some 3), 2, 6, [0]⟩
def N_Hall_belt : List Str := ["self", "giver", "taker", "give", "take", "start"]
def c_Hall_belt : List Sx := [.expr (.meth n_Hall_need 0 (.var 0) [(.var 1)]),
 .expr (.meth n_Hall_need 0 (.var 0) [(.var 2)]),
 .ife (.andor false [(.cmp .Lt (.var 3) (.cint 1)), (.cmp .Lt (.var 4) (.cint 1)), (.cmp .Lt (.var 5) (.cint 0))]) [.raise 7] [],
 .ife (.cmp .GtE (.bif .len false [(.fld 3 1 (.var 0))]) (.glob 3)) [.raise 15] [],
 .ret (.meth n_Hall_lay 0 (.var 0) [(.var 1), (.var 2), (.var 3), (.var 4), (.var 5)])]
abbrev n_Hall_entering : Nat := 66
def i_Hall_entering : FnI := ⟨"entering", (some 3), 2, 2, []⟩
def N_Hall_entering : List Str := ["self", "work", "number", "line"]
def c_Hall_entering : List Sx := [.expr (.meth n_Hall_need 0 (.var 0) [(.var 1)]),
 .ret (.comp true [2, 3] (.tup [(.nm 2), (.nm 3)]) .enum [(.fld 3 1 (.var 0))] (.cmp .Eq (.idx (.var 3) (.cint 1)) (.var 1)) (.var 2))]
abbrev n_Hall_fill : Nat := 88
def i_Hall_fill : FnI := ⟨"fill", (some 3), 2, 3, []⟩
def N_Hall_fill : List Str := ["self", "belt", "start", "giver", "taker", "give", "take", "before"]
def c_Hall_fill : List Sx := [.asg (.tup [(.nm 3), (.nm 4), (.nm 5), (.nm 6), (.nm 7)]) (.meth n_Hall_belt_at 0 (.var 0) [(.var 1)]),
 .ife (.cmp .Lt (.var 2) (.cint 0)) [.raise 7] [],
 .asgI (.fld 3 1 (.var 0)) (.var 1) (.tup [(.var 3), (.var 4), (.var 5), (.var 6), (.var 2)]),
 .ret (.cmp .NotEq (.var 2) (.var 7))]
def S_is_ready : TSp := fun ts μ F R => ∃ tl th ls hs w, ts = [tl, th, .int w] ∧ LstAt μ tl (ls.map Ln.tr) ∧ LstAt μ th (List.map T.int hs) ∧ R (.bl (rdy ls hs w)) μ
structure A_is_ready (G : Tab) (Γ : Nat → TSp) : Prop where
  triv : True
abbrev B_is_ready (G : Tab) (Γ : Nat → TSp) : Prop := ∀ ts μ F R, S_is_ready ts μ F R → denSs G Γ c_is_ready (bodyD R F) (startT N_is_ready.length ts) μ
theorem body_is_ready {G : Tab} {Γ : Nat → TSp} (A : A_is_ready G Γ) : B_is_ready G Γ := by
  rintro ts μ F R ⟨tl, th, ls, hs, w, rfl, hl, hh, hR⟩
  unfold c_is_ready
  simp only [Rh.startT, List.length_cons, List.length_nil, List.map_cons, List.map_nil, List.replicate, List.cons_append, List.nil_append, Nat.reduceAdd, Nat.reduceSub, N_is_ready]
  apply e_cons; simp only [denS]; (try simp_arith []); repeat ((with_reducible refine And.intro ?_ ?_); omega)
  refine onG_at hl fun g1 k1 => onG_at hh fun g2 k2 => ?_
  rw [zip_tr]
  refine for_map (fun k ρ μ' => (∃ o3 o4, ρ = [some tl, some th, some (.int w), o3, o4]) ∧ μ' = μ ∧ ∀ j < k, ∀ p, (ls.zip hs)[j]? = some p → (decide (p.1.t = w) && decide (p.2 < p.1.ta)) = false) ⟨⟨_, _, rfl⟩, rfl, fun j hj => absurd hj (Nat.not_lt_zero j)⟩ ?_ ?_
  · rintro ρ μ' ⟨⟨o3, o4, rfl⟩, rfl, hj⟩
    refine ⟨⟨k1 _ hl, k2 _ hh⟩, ?_⟩
    apply e_cons; simp only [denS]; (try simp_arith []); repeat ((with_reducible refine And.intro ?_ ?_); omega)
    have : rdy ls hs w = true := by
      unfold rdy
      rw [List.all_eq_true]
      intro p hp
      obtain ⟨j, hj', e⟩ := List.mem_iff_getElem.mp hp
      rw [hj j hj' p (by rw [List.getElem?_eq_getElem hj', e])]
      rfl
    rw [this] at hR
    exact fin_id hR
  rintro k p ρ μ' hk ⟨⟨o3, o4, rfl⟩, rfl, hj⟩
  refine ⟨⟨k1 _ hl, k2 _ hh⟩, ?_⟩
  simp_arith [Ln.tr]
  apply e_cons; apply e_ife; simp_arith []; repeat ((with_reducible refine And.intro ?_ ?_); omega)
  have fin : (decide (p.1.t = w) && decide (p.2 < p.1.ta)) = false → ∀ j < k + 1, ∀ q, (ls.zip hs)[j]? = some q → (decide (q.1.t = w) && decide (q.2 < q.1.ta)) = false := fun hp j hj' q hq => by
    rcases Nat.lt_succ_iff_lt_or_eq.mp hj' with z | rfl
    · exact hj j z q hq
    · rw [hk] at hq
      cases hq
      exact hp
  by_cases e1 : p.1.t = w
  · simp only [e1, if_true]
    by_cases e2 : p.2 < p.1.ta
    · simp only [e2, if_true]
      apply e_cons; simp only [denS]; (try simp_arith []); repeat ((with_reducible refine And.intro ?_ ?_); omega)
      have : rdy ls hs w = false := by
        unfold rdy
        rw [List.all_eq_false]
        exact ⟨p, List.mem_of_getElem? hk, by simp [e1, e2]⟩
      rw [this] at hR
      exact fin_id hR
    · simp only [e2, if_false]
      exact ⟨_, _, .refl _ _, ⟨_, _, rfl⟩, rfl, fin (by simp [e2])⟩
  · simp only [e1, if_false]
    exact ⟨_, _, .refl _ _, ⟨_, _, rfl⟩, rfl, fin (by simp [e1])⟩
def S_Hall_init : TSp := fun ts μ F R => ∃ h, ts = [.own h] ∧ μ h = some (.obj 3 []) ∧ ∀ l1 l2, μ l1 = none → μ l2 = none → l1 ≠ l2 → R .non (((μ.set l1 (.lst [])).set l2 (.lst [])).set h (.obj 3 [.own l1, .own l2]))
structure A_Hall_init (G : Tab) (Γ : Nat → TSp) : Prop where
  triv : True
abbrev B_Hall_init (G : Tab) (Γ : Nat → TSp) : Prop := ∀ ts μ F R, S_Hall_init ts μ F R → denSs G Γ c_Hall_init (bodyD R F) (startT N_Hall_init.length ts) μ
theorem body_Hall_init {G : Tab} {Γ : Nat → TSp} (A : A_Hall_init G Γ) : B_Hall_init G Γ := by
  rintro ts μ F R ⟨h, rfl, ho, hR⟩
  unfold c_Hall_init
  simp only [Rh.startT, List.length_cons, List.length_nil, List.map_cons, List.map_nil, List.replicate, List.cons_append, List.nil_append, Nat.reduceAdd, Nat.reduceSub, N_Hall_init]
  apply e_cons; simp only [denS]; (try simp_arith []); repeat ((with_reducible refine And.intro ?_ ?_); omega)
  intro l1 e1
  have n1 : l1 ≠ h := fun e => by
    rw [e, ho] at e1
    cases e1
  refine ⟨[], by rw [set_ne n1.symm]; exact ho, by decide, ?_⟩
  apply e_cons; simp only [denS]; (try simp_arith []); repeat ((with_reducible refine And.intro ?_ ?_); omega)
  intro l2 e2
  have n2 : l2 ≠ h := fun e => by
    rw [e, set_self] at e2
    cases e2
  rw [set_ne n2] at e2
  have n3 : l1 ≠ l2 := fun e => by
    rw [← e, set_self] at e2
    cases e2
  rw [set_ne n3.symm] at e2
  refine ⟨[.own l1], by rw [set_ne n2.symm, set_self]; rfl, Nat.le_refl _, ?_⟩
  refine fin_id ?_
  have : ((((μ.set l1 (.lst [])).set h (.obj 3 (setF [] 0 (.own l1)))).set l2 (.lst [])).set h (.obj 3 (setF [.own l1] 1 (.own l2)))) = (((μ.set l1 (.lst [])).set l2 (.lst [])).set h (.obj 3 [.own l1, .own l2])) := by
    rw [set_comm (p := h) (q := l2) n2.symm, set_set]
    rfl
  rw [this]
  exact hR l1 l2 e1 e2 n3
def S_Hall_names : TSp := fun ts μ F R => ∃ h l1 l2 ns ls, ts = [.own h] ∧ HallAt μ h l1 l2 ns ls ∧ retL (ns.map T.str) μ R
structure A_Hall_names (G : Tab) (Γ : Nat → TSp) : Prop where
  triv : True
abbrev B_Hall_names (G : Tab) (Γ : Nat → TSp) : Prop := ∀ ts μ F R, S_Hall_names ts μ F R → denSs G Γ c_Hall_names (bodyD R F) (startT N_Hall_names.length ts) μ
theorem body_Hall_names {G : Tab} {Γ : Nat → TSp} (A : A_Hall_names G Γ) : B_Hall_names G Γ := by
  rintro ts μ F R ⟨h, l1, l2, ns, ls, rfl, H, hR⟩
  unfold c_Hall_names
  simp only [Rh.startT, List.length_cons, List.length_nil, List.map_cons, List.map_nil, List.replicate, List.cons_append, List.nil_append, Nat.reduceAdd, Nat.reduceSub, N_Hall_names]
  apply e_cons; simp only [denS]; (try simp_arith [H.o, H.w]); repeat ((with_reducible refine And.intro ?_ ?_); omega)
  intro p hp
  exact fin_retL hR hp
def S_Hall_belts : TSp := fun ts μ F R => ∃ h l1 l2 ns ls, ts = [.own h] ∧ HallAt μ h l1 l2 ns ls ∧ retL (ls.map Ln.tr) μ R
structure A_Hall_belts (G : Tab) (Γ : Nat → TSp) : Prop where
  triv : True
abbrev B_Hall_belts (G : Tab) (Γ : Nat → TSp) : Prop := ∀ ts μ F R, S_Hall_belts ts μ F R → denSs G Γ c_Hall_belts (bodyD R F) (startT N_Hall_belts.length ts) μ
theorem body_Hall_belts {G : Tab} {Γ : Nat → TSp} (A : A_Hall_belts G Γ) : B_Hall_belts G Γ := by
  rintro ts μ F R ⟨h, l1, l2, ns, ls, rfl, H, hR⟩
  unfold c_Hall_belts
  simp only [Rh.startT, List.length_cons, List.length_nil, List.map_cons, List.map_nil, List.replicate, List.cons_append, List.nil_append, Nat.reduceAdd, Nat.reduceSub, N_Hall_belts]
  apply e_cons; simp only [denS]; (try simp_arith [H.o, H.b]); repeat ((with_reducible refine And.intro ?_ ?_); omega)
  intro p hp
  exact fin_retL hR hp
def S_Spread_init : TSp := fun ts μ F R => ∃ (s : Addr) (t : T), ts = [.own s, t] ∧ μ s = some (.obj 6 []) ∧ ∀ a1 a2, μ a1 = none → μ a2 = none → a1 ≠ a2 → R .non (((μ.set a1 (.dict [])).set a2 (.dict [])).set s (.obj 6 [t, .own a1, .own a2]))
structure A_Spread_init (G : Tab) (Γ : Nat → TSp) : Prop where
  triv : True
abbrev B_Spread_init (G : Tab) (Γ : Nat → TSp) : Prop := ∀ ts μ F R, S_Spread_init ts μ F R → denSs G Γ c_Spread_init (bodyD R F) (startT N_Spread_init.length ts) μ
theorem body_Spread_init {G : Tab} {Γ : Nat → TSp} (A : A_Spread_init G Γ) : B_Spread_init G Γ := by
  rintro ts μ F R ⟨s, t, rfl, ho, hR⟩
  unfold c_Spread_init
  simp only [Rh.startT, List.length_cons, List.length_nil, List.map_cons, List.map_nil, List.replicate, List.cons_append, List.nil_append, Nat.reduceAdd, Nat.reduceSub, N_Spread_init]
  apply e_cons; simp only [denS]; (try simp_arith []); repeat ((with_reducible refine And.intro ?_ ?_); omega)
  refine ⟨[], ho, by decide, ?_⟩
  apply e_cons; simp only [denS]; (try simp_arith []); repeat ((with_reducible refine And.intro ?_ ?_); omega)
  intro l1 e1
  have n1 : l1 ≠ s := fun e => by
    rw [e, set_self] at e1
    cases e1
  rw [set_ne n1] at e1
  refine ⟨[t], by rw [set_ne n1.symm, set_self]; rfl, Nat.le_refl _, ?_⟩
  apply e_cons; simp only [denS]; (try simp_arith []); repeat ((with_reducible refine And.intro ?_ ?_); omega)
  intro l2 e2
  have n2 : l2 ≠ s := fun e => by
    rw [e, set_self] at e2
    cases e2
  rw [set_ne n2] at e2
  have n3 : l1 ≠ l2 := fun e => by
    rw [← e, set_self] at e2
    cases e2
  rw [set_ne n3.symm, set_ne n2] at e2
  refine ⟨[t, .own l1], by rw [set_ne n2.symm, set_self]; rfl, Nat.le_refl _, ?_⟩
  refine fin_id ?_
  have e : (((((μ.set s (.obj 6 (setF [] 0 t))).set l1 (.dict [])).set s (.obj 6 (setF [t] 1 (.own l1)))).set l2 (.dict [])).set s (.obj 6 (setF [t, .own l1] 2 (.own l2)))) = (((μ.set l1 (.dict [])).set l2 (.dict [])).set s (.obj 6 [t, .own l1, .own l2])) := by
    rw [set_comm (p := s) (q := l1) n1.symm, set_set, set_comm (p := s) (q := l2) n2.symm, set_set]
    rfl
  rw [e]
  exact hR l1 l2 e1 e2 n3
def S_divisor : TSp := fun ts μ F R => ∃ a b : Int, ts = [.int a, .int b] ∧ 0 ≤ a ∧ 0 ≤ b ∧ R (.int (Int.gcd a b)) μ
structure A_divisor (G : Tab) (Γ : Nat → TSp) : Prop where
  triv : True
abbrev B_divisor (G : Tab) (Γ : Nat → TSp) : Prop := ∀ ts μ F R, S_divisor ts μ F R → denSs G Γ c_divisor (bodyD R F) (startT N_divisor.length ts) μ
theorem body_divisor {G : Tab} {Γ : Nat → TSp} (A : A_divisor G Γ) : B_divisor G Γ := by
  rintro ts μ F R ⟨a, b, rfl, ha, hb, h⟩
  unfold c_divisor
  simp only [Rh.startT, List.length_cons, List.length_nil, List.map_cons, List.map_nil, List.replicate, List.cons_append, List.nil_append, Nat.reduceAdd, Nat.reduceSub, N_divisor]
  apply e_cons
  refine e_while (fun m ρ μ' => ∃ x y : Int, ρ = [some (.int x), some (.int y)] ∧ 0 ≤ x ∧ 0 ≤ y ∧ Int.gcd x y = Int.gcd a b ∧ m = y.toNat ∧ μ' = μ) b.toNat ⟨a, b, rfl, ha, hb, rfl, rfl, rfl⟩ ?_
  rintro m ρ μ' ⟨x, y, rfl, hx, hy, e, rfl, rfl⟩
  simp_arith []
  by_cases hy0 : y = 0
  · subst hy0
    simp only [decide_true, Bool.not_true, Bool.false_eq_true, if_false]
    apply e_cons; simp only [denS]; (try simp_arith []); repeat ((with_reducible refine And.intro ?_ ?_); omega)
    refine fin_id ?_
    have : (Int.gcd x 0 : Int) = x := by rw [Int.gcd_zero_right]; omega
    rw [← e, this] at h
    exact h
  · simp only [hy0, decide_false, Bool.not_false, if_true]
    apply e_cons; simp only [denS]; (try simp_arith []); repeat ((with_reducible refine And.intro ?_ ?_); omega)
    have h1 := Int.emod_lt_of_pos x (show 0 < y by omega)
    have h2 := Int.emod_nonneg x (show y ≠ 0 by omega)
    exact ⟨_, _, Wk.refl _ _, _, (by omega : (x % y).toNat < y.toNat), y, x % y, rfl, hy, h2, (gcd_step hx hy).trans e, rfl, rfl⟩
def S_ratio : TSp := fun ts μ F R => ∃ a b : Int, ts = [.int a, .int b] ∧ 0 ≤ a ∧ 0 ≤ b ∧ CDivW a (Int.gcd a b) ∧ CDivW b (Int.gcd a b) ∧ R (.tup [.int (rat a b).1, .int (rat a b).2]) μ
structure A_ratio (G : Tab) (Γ : Nat → TSp) : Prop where
  f_divisor : G.fn n_divisor = some i_divisor
  g_divisor : Γ n_divisor = S_divisor
abbrev B_ratio (G : Tab) (Γ : Nat → TSp) : Prop := ∀ ts μ F R, S_ratio ts μ F R → denSs G Γ c_ratio (bodyD R F) (startT N_ratio.length ts) μ
theorem body_ratio {G : Tab} {Γ : Nat → TSp} (A : A_ratio G Γ) : B_ratio G Γ := by
  rintro ts μ F R ⟨a, b, rfl, ha, hb, h1, h2, h⟩
  unfold c_ratio
  simp only [Rh.startT, List.length_cons, List.length_nil, List.map_cons, List.map_nil, List.replicate, List.cons_append, List.nil_append, Nat.reduceAdd, Nat.reduceSub, N_ratio]
  apply e_cons; simp only [denS]; (try simp_arith [A.f_divisor, A.g_divisor, S_divisor, i_divisor]); repeat ((with_reducible refine And.intro ?_ ?_); omega)
  apply e_cons; simp only [denS]; (try simp_arith []); repeat ((with_reducible refine And.intro ?_ ?_); omega)
  exact fin_id h
def S_times : TSp := fun ts μ F R => ∃ a b c d : Int, ts = [.tup [.int a, .int b], .tup [.int c, .int d]] ∧ 0 < a ∧ 0 < b ∧ 0 < c ∧ 0 < d ∧ (∃ n, Bt n a ∧ Bt n b ∧ Bt n c ∧ Bt n d ∧ n + n ≤ 9000) ∧ R (.tup [.int (rat (a * c) (b * d)).1, .int (rat (a * c) (b * d)).2]) μ
structure A_times (G : Tab) (Γ : Nat → TSp) : Prop where
  f_ratio : G.fn n_ratio = some i_ratio
  g_ratio : Γ n_ratio = S_ratio
abbrev B_times (G : Tab) (Γ : Nat → TSp) : Prop := ∀ ts μ F R, S_times ts μ F R → denSs G Γ c_times (bodyD R F) (startT N_times.length ts) μ
theorem body_times {G : Tab} {Γ : Nat → TSp} (A : A_times G Γ) : B_times G Γ := by
  rintro ts μ F R ⟨a, b, c, d, rfl, ha, hb, hc, hd, ⟨n, ta, tb, tc, td, hn⟩, h⟩
  unfold c_times
  simp only [Rh.startT, List.length_cons, List.length_nil, List.map_cons, List.map_nil, List.replicate, List.cons_append, List.nil_append, Nat.reduceAdd, Nat.reduceSub, N_times]
  apply e_cons; simp only [denS]; (try simp_arith [A.f_ratio, A.g_ratio, S_ratio, i_ratio]); repeat ((with_reducible refine And.intro ?_ ?_); omega)
  have p1 := Int.mul_pos ha hc
  have p2 := Int.mul_pos hb hd
  have g := (ta.mul tc).gcd (tb.mul td)
  have g0 := gcd_pos (a := a * c) (b := b * d) (.inl (by omega))
  exact ⟨ta.mulOk tc (by omega), tb.mulOk td (by omega), by omega, by omega, g.divOk g0 hn _, g.divOk g0 hn _, fin_id h⟩
def S_Spread_odd_belt : TSp := fun ts μ F R => ∃ s rd wd ls es n, ts = [.own s] ∧ SpAt μ s rd wd ls es ∧ Full ls n es ∧ ((∀ l ∈ ls, Agr es l) → R .non μ) ∧ (∀ (i : Nat) l, ls[i]? = some l → ¬ Agr es l → R (.int i) μ)
structure A_Spread_odd_belt (G : Tab) (Γ : Nat → TSp) : Prop where
  f_times : G.fn n_times = some i_times
  g_times : Γ n_times = S_times
  f_ratio : G.fn n_ratio = some i_ratio
  g_ratio : Γ n_ratio = S_ratio
abbrev B_Spread_odd_belt (G : Tab) (Γ : Nat → TSp) : Prop := ∀ ts μ F R, S_Spread_odd_belt ts μ F R → denSs G Γ c_Spread_odd_belt (bodyD R F) (startT N_Spread_odd_belt.length ts) μ
theorem body_Spread_odd_belt {G : Tab} {Γ : Nat → TSp} (A : A_Spread_odd_belt G Γ) : B_Spread_odd_belt G Γ := by
  rintro ts μ F R ⟨s, rd, wd, ls, es, n, rfl, S, fl, hA, hO⟩
  unfold c_Spread_odd_belt
  simp only [Rh.startT, List.length_cons, List.length_nil, List.map_cons, List.map_nil, List.replicate, List.cons_append, List.nil_append, Nat.reduceAdd, Nat.reduceSub, N_Spread_odd_belt]
  apply e_cons; simp only [denS]; (try simp_arith [A.f_times, A.g_times, S_times, i_times, A.f_ratio, A.g_ratio, S_ratio, i_ratio, S.o]); repeat ((with_reducible refine And.intro ?_ ?_); omega)
  refine onG_at .lst fun gd hgd => ?_
  refine for_enum (fun k ρ μ' => (∃ o1 o2 o3 o4 o5 o6, ρ = [some (.own s), o1, o2, o3, o4, o5, o6]) ∧ μ' = μ ∧ ∀ l ∈ ls.take k, Agr es l) ⟨⟨_, _, _, _, _, _, rfl⟩, rfl, fun l hl => by simp at hl⟩ ?_ ?_
  · rintro ρ μ' ⟨⟨o1, o2, o3, o4, o5, o6, rfl⟩, rfl, h⟩
    refine ⟨hgd _ .lst, ?_⟩
    rw [List.take_length] at h
    apply e_cons; simp only [denS]; (try simp_arith [A.f_times, A.g_times, S_times, i_times, A.f_ratio, A.g_ratio, S_ratio, i_ratio]); repeat ((with_reducible refine And.intro ?_ ?_); omega)
    exact fin_id (hA h)
  rintro k l ρ μ' el ⟨⟨o1, o2, o3, o4, o5, o6, rfl⟩, rfl, h⟩
  refine ⟨hgd _ .lst, ?_⟩
  have hl := List.mem_of_getElem? el
  obtain ⟨g1, g2⟩ := fl.pos l hl
  obtain ⟨z1, z2⟩ := fl.bt l hl
  have gg := z1.gcd z2
  have gg0 := gcd_pos (a := l.gi) (b := l.ta) (.inl (by omega))
  have c1 := gg.divOk gg0 (by decide) l.gi
  have c2 := gg.divOk gg0 (by decide) l.ta
  obtain ⟨ra, rb, rc, rd', re, rf⟩ := rat_spec (a := l.gi) (b := l.ta) (by omega) (by omega)
  have b1 := (z1.le (Int.le_of_lt ra) re).mono (show 128 ≤ 4500 by decide)
  have b2 := (z2.le (Int.le_of_lt rb) rf).mono (show 128 ≤ 4500 by decide)
  obtain ⟨i1, i2⟩ := fl.inr _ (ends_mem hl)
  obtain ⟨eg, hg, vg, p1, p2, p3, p4, p5, _⟩ := fl.ent i1.1 i1.2
  obtain ⟨et, ht, vt, q1, q2, q3, q4, q5, _⟩ := fl.ent i2.1 i2.2
  have vg : eg.v = l.g := vg
  have vt : et.v = l.t := vt
  have x1 : ∀ R : RP, tIdx (.own rd) (.int l.g) μ' R = R (ratT eg) μ' := fun R => by rw [← vg]; exact ix_ent S.r fl.ti.nd hg
  have x2 : ∀ R : RP, tIdx (.own rd) (.int l.t) μ' R = R (ratT et) μ' := fun R => by rw [← vt]; exact ix_ent S.r fl.ti.nd ht
  have hag : Agr es l ↔ eg.p * l.gi * et.q = eg.q * l.ta * et.p := by
    constructor
    · exact fun h => h eg hg et ht vg vt
    · intro h a ha b hb va vb
      rw [ent_same fl.ti.nd ha hg (va.trans vg.symm), ent_same fl.ti.nd hb ht (vb.trans vt.symm)]
      exact h
  have hif := agr_iff p1 p2 (show 0 < l.gi by omega) (show 0 < l.ta by omega) q1 q2 q3
  simp_arith [A.f_times, A.g_times, S_times, i_times, A.f_ratio, A.g_ratio, S_ratio, i_ratio, Ln.tr]
  apply e_cons; apply e_ife; simp_arith [A.f_times, A.g_times, S_times, i_times, A.f_ratio, A.g_ratio, S_ratio, i_ratio, S.o, x1, x2, ratT]; repeat ((with_reducible refine And.intro ?_ ?_); omega)
  refine ⟨⟨4500, p4, p5, b1, b2, by decide⟩, ?_⟩
  by_cases hA' : Agr es l
  · rw [if_neg (fun z => z (hif.mpr (hag.mp hA')))]
    refine ⟨_, _, .refl _ _, ⟨_, _, _, _, _, _, rfl⟩, rfl, fun l' hl' => ?_⟩
    rw [show ls.take (k + 1) = ls.take k ++ [l] by rw [List.take_add_one, el]; rfl] at hl'
    rcases List.mem_append.mp hl' with z | z
    · exact h l' z
    · cases List.mem_singleton.mp z
      exact hA'
  · rw [if_pos (fun z => hA' (hag.mpr (hif.mp z)))]
    apply e_cons; simp only [denS]; (try simp_arith [A.f_times, A.g_times, S_times, i_times, A.f_ratio, A.g_ratio, S_ratio, i_ratio]); repeat ((with_reducible refine And.intro ?_ ?_); omega)
    exact fin_id (hO k l el hA')
def S_Spread_ring_by : TSp := fun ts μ F R => ∃ s rd wd ls es n, ∃ (i : Nat) (l : Ln), ts = [.own s, .int i] ∧ SpAt μ s rd wd ls es ∧ Full ls n es ∧ ls[i]? = some l ∧ ¬ Agr es l ∧ ls.length < 1000 ∧ ∀ ring : List Pace, OddRing ls ring → ring.length ≤ 100 → retL (ring.map paceT) μ R
structure A_Spread_ring_by (G : Tab) (Γ : Nat → TSp) : Prop where
  triv : True
abbrev B_Spread_ring_by (G : Tab) (Γ : Nat → TSp) : Prop := ∀ ts μ F R, S_Spread_ring_by ts μ F R → denSs G Γ c_Spread_ring_by (bodyD R F) (startT N_Spread_ring_by.length ts) μ
theorem body_Spread_ring_by {G : Tab} {Γ : Nat → TSp} (A : A_Spread_ring_by G Γ) : B_Spread_ring_by G Γ := by
  rintro ts μ F R ⟨s, rd, wd, ls, es, n, i, l, rfl, S, fl, el, hA, hz, hR⟩
  unfold c_Spread_ring_by
  simp only [Rh.startT, List.length_cons, List.length_nil, List.map_cons, List.map_nil, List.replicate, List.cons_append, List.nil_append, Nat.reduceAdd, Nat.reduceSub, N_Spread_ring_by]
  have hl := List.mem_of_getElem? el
  obtain ⟨i1, i2⟩ := fl.inr _ (ends_mem hl)
  obtain ⟨eg, hg, vg, p1, p2, p3, p4, p5, p6⟩ := fl.ent i1.1 i1.2
  obtain ⟨et, ht, vt, q1, q2, q3, q4, q5, q6⟩ := fl.ent i2.1 i2.2
  have vg : eg.v = l.g := vg
  have vt : et.v = l.t := vt
  have x1 : ∀ (μ' : Sto) (R : RP), μ' wd = some (.dict (entD wayT es)) → tIdx (.own wd) (.int l.g) μ' R = R (wayT eg) μ' := fun μ' R h => by rw [← vg]; exact ix_ent h fl.ti.nd hg
  have x2 : ∀ (μ' : Sto) (R : RP), μ' wd = some (.dict (entD wayT es)) → tIdx (.own wd) (.int l.t) μ' R = R (wayT et) μ' := fun μ' R h => by rw [← vt]; exact ix_ent h fl.ti.nd ht
  have a1 := at_map (f := Ln.tr) (show (0 : Int) ≤ (i : Int) by omega) (show ls[(i : Int).toNat]? = some l from el)
  have odd : eg.p * l.gi * et.q ≠ eg.q * l.ta * et.p := fun z => hA fun a ha b hb va vb => by
    rw [ent_same fl.ti.nd ha hg (va.trans vg.symm), ent_same fl.ti.nd hb ht (vb.trans vt.symm)]
    exact z
  apply e_cons; simp only [denS]; (try simp_arith [S.o, a1, Ln.tr]); repeat ((with_reducible refine And.intro ?_ ?_); omega)
  apply e_cons; simp only [denS]; (try simp_arith [S.o, x2 μ _ S.w, wayT]); repeat ((with_reducible refine And.intro ?_ ?_); omega)
  intro pt hpt
  have S1 := S.fresh (ob := .lst (et.w.map paceT)) hpt
  apply e_cons; simp only [denS]; (try simp_arith [S1.o, x1 _ _ S1.w, wayT]); repeat ((with_reducible refine And.intro ?_ ?_); omega)
  intro ph hph
  have np : ph ≠ pt := (nofr set_self hph).symm
  have hph' : μ ph = none := by rwa [set_ne np] at hph
  apply e_cons
  refine e_while (fun m ρ μ' => ∃ c th he, ρ = [some (.own s), some (.int i), some (.int l.g), some (.int l.t), some (.int l.gi), some (.int l.ta), some (.int l.st), some (.own pt), some (.own ph), none, none, none] ∧ μ' = (μ.set pt (.lst (th.map paceT))).set ph (.lst (he.map paceT)) ∧ et.w = c ++ th ∧ eg.w = c ++ he ∧ m = th.length) et.w.length ⟨[], et.w, eg.w, rfl, rfl, rfl, rfl, rfl⟩ ?_
  rintro m ρ μ' ⟨c, th, he, rfl, rfl, wt, wg, rfl⟩
  have gt' : ((μ.set pt (.lst (th.map paceT))).set ph (.lst (he.map paceT))) pt = some (.lst (th.map paceT)) := by rw [set_ne np.symm, set_self]
  have tl : th.length ≤ 31 := by
    have := congrArg List.length wt
    rw [List.length_append] at this
    omega
  have hl31 : he.length ≤ 31 := by
    have := congrArg List.length wg
    rw [List.length_append] at this
    omega
  have fin : (∀ x P Q, th = x :: P → he = x :: Q → False) → OddRing ls (((i : Int), true) :: (inv th ++ he)) := fun stop => fl.ti.ring fl.pos (by omega) (show ls[((i : Int)).toNat]? = some l from el) hg ht vg vt odd wt wg stop
  have hend : OddRing ls (((i : Int), true) :: (inv th ++ he)) → denSs G Γ [Sx.asg (Tg.nm 9) (Ex.comp false [10, 11] (.tup [(.nm 10), (.nm 11)]) .rev [(.var 7)] (.cbl true) (.tup [(.var 10), (.not (.var 11))])), .ret (.bin .Add true (.bin .Add false (.lst false [(.tup [(.var 1), (.cbl true)])]) (.var 9)) (.var 8))] (bodyD R F) [some (.own s), some (.int i), some (.int l.g), some (.int l.t), some (.int l.gi), some (.int l.ta), some (.int l.st), some (.own pt), some (.own ph), none, none, none] ((μ.set pt (.lst (th.map paceT))).set ph (.lst (he.map paceT))) := fun O => by
    have hR := hR _ O (by rw [List.length_cons, List.length_append]; unfold inv; rw [List.length_map, List.length_reverse]; omega)
    apply e_cons; simp only [denS]; (try simp_arith []); repeat ((with_reducible refine And.intro ?_ ?_); omega)
    refine onG_at (.own gt') fun gd hgd => ?_
    rw [← List.map_reverse]
    refine comp_pure (fun _ => true) (fun t => match t with | .tup [.int b, .bl d] => .tup [.int b, .bl (!d)] | t => t) (hgd _ (.own gt')) (by rw [List.length_map, List.length_reverse, sz]; omega) ?_ ?_
    · intro u hu Y N hY _
      obtain ⟨⟨b, d⟩, hm, rfl⟩ := List.mem_map.mp hu
      simp only [wipeT]
      simp_arith [paceT]
      exact hY rfl
    rw [List.filter_eq_self.mpr (fun _ _ => rfl), List.map_map, show ((fun t : T => match t with | .tup [.int b, .bl d] => T.tup [.int b, .bl (!d)] | t => t) ∘ paceT) = paceT ∘ (fun x : Pace => (x.1, !x.2)) from rfl, ← List.map_map]
    have einv : th.reverse.map (fun x : Pace => (x.1, !x.2)) = inv th := rfl
    rw [einv]
    have il : (inv th).length ≤ 31 := by
      rw [← einv, List.length_map, List.length_reverse]
      exact tl
    simp only [newL]
    apply e_cons; simp only [denS]; (try simp_arith []); repeat ((with_reducible refine And.intro ?_ ?_); omega)
    rw [ad_own set_self]
    refine ⟨by simp only [List.length_cons, List.length_map, sz]; omega, ?_⟩
    intro p hp
    have e2 : T.tup [T.int i, T.bl true] :: ((inv th).map paceT ++ he.map paceT) = (((i : Int), true) :: (inv th ++ he)).map paceT := by
      rw [List.map_cons, List.map_append]
      rfl
    rw [List.cons_append, e2]
    have npp : p ≠ ph := (nofr set_self hp).symm
    rw [set_ne npp] at hp
    have npt : p ≠ pt := (nofr set_self hp).symm
    rw [set_ne npt] at hp
    refine fin_retG hR hp set_self ?_
    exact Lw.Sub.both ((Rh.Sub.set_none hpt).trans (Rh.Sub.set_none (by rw [set_ne np]; exact hph')))
  have hpe : ∀ (b : Bool) (x y : Pace) (μ : Sto) (R : RP), tEq b (paceT x) (paceT y) μ R = R (.bl (if b = true then !decide (x = y) else decide (x = y))) μ := fun _ _ _ _ _ => eq_pace
  have gtf : ∀ a b : Ob, ((μ.set pt a).set ph b) pt = some a := fun a b => by rw [set_ne np.symm, set_self]
  cases hth : th with
  | nil =>
    subst hth
    simp_arith [gtf]
    rw [if_neg (by simp)]
    exact hend (fin fun x P Q h _ => by cases h)
  | cons x P =>
    cases hhe : he with
    | nil =>
      subst hth hhe
      simp_arith [gtf]
      rw [if_pos (by simp), if_neg (by simp)]
      exact hend (fin fun x P Q _ h => by cases h)
    | cons y Q =>
      subst hth hhe
      simp_arith [gtf, hpe]
      rw [if_pos (by simp), if_pos (by simp)]
      by_cases hxy : x = y
      · subst hxy
        simp_arith []
        apply e_cons; simp only [denS]; (try simp_arith [gtf]); repeat ((with_reducible refine And.intro ?_ ?_); omega)
        refine ⟨0, sq0, paceT x, rfl, ?_⟩
        rw [set_comm (p := ph) (q := pt) np, set_set, List.eraseIdx_cons_zero]
        apply e_cons; simp only [denS]; (try simp_arith []); repeat ((with_reducible refine And.intro ?_ ?_); omega)
        refine ⟨0, sq0, paceT x, rfl, ?_⟩
        rw [set_set, List.eraseIdx_cons_zero]
        exact ⟨_, _, .refl _ _, _, Nat.lt_succ_self _, rfl, c ++ [x], P, Q, rfl, by rw [wt]; simp, by rw [wg]; simp, rfl⟩
      · simp only [hxy, if_false]
        exact hend (fin fun z A B h1 h2 => by cases h1; cases h2; exact hxy rfl)
def S_Spread_come_to : TSp := fun ts μ F R => ∃ s rd wd ls es e x a c b d, ts = [.own s, .int (Ent.v e), .int x, .tup [.int a, .int c], .tup [.int b, .bl d]] ∧ SpAt μ s rd wd ls es ∧ (keysE es).Nodup ∧ es.length < 1000 ∧ e ∈ es ∧ x ∉ keysE es ∧ 0 < e.p ∧ 0 < e.q ∧ 0 < a ∧ 0 < c ∧ (∃ n, Bt n e.p ∧ Bt n e.q ∧ Bt n a ∧ Bt n c ∧ n + n ≤ 9000) ∧ e.w.length < 1000 ∧
  ∀ e', e' = (⟨x, (rat (e.p * a) (e.q * c)).1, (rat (e.p * a) (e.q * c)).2, e.w ++ [(b, d)], e.r⟩ : Ent) → R .non ((μ.set rd (.dict (entD ratT (es ++ [e'])))).set wd (.dict (entD wayT (es ++ [e']))))
structure A_Spread_come_to (G : Tab) (Γ : Nat → TSp) : Prop where
  f_times : G.fn n_times = some i_times
  g_times : Γ n_times = S_times
abbrev B_Spread_come_to (G : Tab) (Γ : Nat → TSp) : Prop := ∀ ts μ F R, S_Spread_come_to ts μ F R → denSs G Γ c_Spread_come_to (bodyD R F) (startT N_Spread_come_to.length ts) μ
theorem body_Spread_come_to {G : Tab} {Γ : Nat → TSp} (A : A_Spread_come_to G Γ) : B_Spread_come_to G Γ := by
  rintro ts μ F R ⟨s, rd, wd, ls, es, e, x, a, c, b, d, rfl, S, nd, hl, he, hx, p1, p2, p3, p4, hB, hw, hR⟩
  unfold c_Spread_come_to
  simp only [Rh.startT, List.length_cons, List.length_nil, List.map_cons, List.map_nil, List.replicate, List.cons_append, List.nil_append, Nat.reduceAdd, Nat.reduceSub, N_Spread_come_to]
  have hR := hR _ rfl
  apply e_cons; simp only [denS]; (try simp_arith [A.f_times, A.g_times, S_times, i_times, S.o, ix_ent S.r nd he, ratT]); repeat ((with_reducible refine And.intro ?_ ?_); omega)
  have er := put_ent (f := ratT) (es := es) (e := ⟨x, (rat (e.p * a) (e.q * c)).1, (rat (e.p * a) (e.q * c)).2, e.w ++ [(b, d)], e.r⟩) hx
  have ew := put_ent (f := wayT) (es := es) (e := ⟨x, (rat (e.p * a) (e.q * c)).1, (rat (e.p * a) (e.q * c)).2, e.w ++ [(b, d)], e.r⟩) hx
  simp only [ratT] at er
  simp only [wayT, List.map_append, List.map_cons, List.map_nil, paceT] at ew
  simp only [S.r]
  refine ⟨rd, _, rfl, S.r, _, rfl, by rw [entD_len]; omega, ?_⟩
  rw [er]
  have go : (μ.set rd (.dict (entD ratT (es ++ [⟨x, (rat (e.p * a) (e.q * c)).1, (rat (e.p * a) (e.q * c)).2, e.w ++ [(b, d)], e.r⟩])))) s = some (.obj 6 [.lst (ls.map Ln.tr), .own rd, .own wd]) := by rw [set_ne S.n1]; exact S.o
  have gw : (μ.set rd (.dict (entD ratT (es ++ [⟨x, (rat (e.p * a) (e.q * c)).1, (rat (e.p * a) (e.q * c)).2, e.w ++ [(b, d)], e.r⟩])))) wd = some (.dict (entD wayT es)) := by rw [set_ne S.ne.symm]; exact S.w
  apply e_cons; simp only [denS]; (try simp_arith [A.f_times, A.g_times, S_times, i_times, go, ix_ent gw nd he, wayT]); repeat ((with_reducible refine And.intro ?_ ?_); omega)
  simp only [gw]
  refine ⟨wd, _, rfl, gw, _, rfl, by rw [entD_len]; omega, ?_⟩
  rw [ew]
  exact fin_id hR
def S_Spread_walk_from : TSp := fun ts μ F R => ∃ s rd wd ls es a n, ts = [.own s, .int a] ∧ SpAt μ s rd wd ls es ∧ TI ls n es ∧ PosL ls ∧ (∀ l ∈ ls, Bt 128 (Ln.gi l) ∧ Bt 128 l.ta) ∧ Inr (ends ls) n ∧ n ≤ 31 ∧ 0 ≤ a ∧ a < n ∧ Fst (ends ls) a ∧ (∀ v ∈ keysE es, ¬ Con (ends ls) a v) ∧
  ∀ fs, Walked ls n es a fs → R .non ((μ.set rd (.dict (entD ratT fs))).set wd (.dict (entD wayT fs)))
structure A_Spread_walk_from (G : Tab) (Γ : Nat → TSp) : Prop where
  f_Spread_come_to : G.fn n_Spread_come_to = some i_Spread_come_to
  g_Spread_come_to : Γ n_Spread_come_to = S_Spread_come_to
  f_ratio : G.fn n_ratio = some i_ratio
  g_ratio : Γ n_ratio = S_ratio
abbrev B_Spread_walk_from (G : Tab) (Γ : Nat → TSp) : Prop := ∀ ts μ F R, S_Spread_walk_from ts μ F R → denSs G Γ c_Spread_walk_from (bodyD R F) (startT N_Spread_walk_from.length ts) μ
theorem body_Spread_walk_from {G : Tab} {Γ : Nat → TSp} (A : A_Spread_walk_from G Γ) : B_Spread_walk_from G Γ := by
  rintro ts μ F R ⟨s, rd, wd, ls, es, a, n, rfl, S, ti, hp, hz, hi, hn, a0, a1, hf, hes, hR⟩
  unfold c_Spread_walk_from
  simp only [Rh.startT, List.length_cons, List.length_nil, List.map_cons, List.map_nil, List.replicate, List.cons_append, List.nil_append, Nat.reduceAdd, Nat.reduceSub, N_Spread_walk_from]
  have ha : a ∉ keysE es := fun z => hes a z .refl
  have tr := ti.root ha ⟨a0, a1⟩ hf
  have hln := ti.len
  have er := put_ent (f := ratT) (es := es) (e := ⟨a, 1, 1, [], a⟩) ha
  have ew := put_ent (f := wayT) (es := es) (e := ⟨a, 1, 1, [], a⟩) ha
  simp only [ratT] at er
  simp only [wayT, List.map_nil] at ew
  apply e_cons; simp only [denS]; (try simp_arith [A.f_Spread_come_to, A.g_Spread_come_to, S_Spread_come_to, i_Spread_come_to, A.f_ratio, A.g_ratio, S_ratio, i_ratio, S.o, S.r]); repeat ((with_reducible refine And.intro ?_ ?_); omega)
  refine ⟨rd, _, rfl, S.r, _, rfl, by rw [entD_len]; omega, ?_⟩
  rw [er]
  have go : ∀ o, (μ.set rd o) s = some (.obj 6 [.lst (ls.map Ln.tr), .own rd, .own wd]) := fun o => by rw [set_ne S.n1]; exact S.o
  have gw : ∀ o, (μ.set rd o) wd = some (.dict (entD wayT es)) := fun o => by rw [set_ne S.ne.symm]; exact S.w
  apply e_cons; simp only [denS]; (try simp_arith [A.f_Spread_come_to, A.g_Spread_come_to, S_Spread_come_to, i_Spread_come_to, A.f_ratio, A.g_ratio, S_ratio, i_ratio, go, gw]); repeat ((with_reducible refine And.intro ?_ ?_); omega)
  refine ⟨wd, _, rfl, gw _, _, rfl, by rw [entD_len]; omega, ?_⟩
  rw [ew]
  have W0 : WInv ls n es a (fun _ => False) (es ++ [⟨a, 1, 1, [], a⟩]) [a] := by
    have ek : keysE (es ++ [(⟨a, 1, 1, [], a⟩ : Ent)]) = keysE es ++ [a] := keysE_add
    refine ⟨tr, ?_, ?_, ?_, ?_, ?_⟩ <;> rw [ek]
    · exact fun v hv => List.mem_append.mpr (.inl hv)
    · intro v hv
      rcases List.mem_append.mp hv with hv | hv
      · exact .inl hv
      · cases List.mem_singleton.mp hv
        exact .inr .refl
    · intro x hx
      exact ⟨List.mem_append.mpr (.inr hx), by cases List.mem_singleton.mp hx; exact .refl⟩
    · exact List.mem_append.mpr (.inr (List.mem_singleton.mpr rfl))
    · intro x hx h1 h2
      rcases List.mem_append.mp hx with hx | hx
      · exact absurd hx h1
      · exact absurd hx h2
  generalize es ++ [(⟨a, 1, 1, [], a⟩ : Ent)] = fs0 at W0
  apply e_cons; simp only [denS]; (try simp_arith [A.f_Spread_come_to, A.g_Spread_come_to, S_Spread_come_to, i_Spread_come_to, A.f_ratio, A.g_ratio, S_ratio, i_ratio]); repeat ((with_reducible refine And.intro ?_ ?_); omega)
  intro pt ht
  have np2 : pt ≠ wd := (nofr set_self ht).symm
  rw [set_ne np2] at ht
  have np1 : pt ≠ rd := (nofr set_self ht).symm
  rw [set_ne np1] at ht
  have np0 : pt ≠ s := (nofr S.o ht).symm
  have hSp : ∀ (fs : List Ent) (td : List Int), SpAt (((μ.set rd (.dict (entD ratT fs))).set wd (.dict (entD wayT fs))).set pt (.lst (td.map T.int))) s rd wd ls fs := fun fs td => S.upd.put np0.symm np1.symm np2.symm
  apply e_cons
  refine e_while (fun m ρ μ' => ∃ fs td, (∃ o3 o4 o5 o6 o7 o8 o9, ρ = [some (.own s), some (.int a), some (.own pt), o3, o4, o5, o6, o7, o8, o9]) ∧ μ' = ((μ.set rd (.dict (entD ratT fs))).set wd (.dict (entD wayT fs))).set pt (.lst (td.map T.int)) ∧ WInv ls n es a (fun _ => False) fs td ∧ 2 * n + td.length = m + 2 * fs.length ∧ m ≤ 200) (2 * n + 1 - 2 * fs0.length) ⟨fs0, [a], ⟨_, _, _, _, _, _, _, rfl⟩, rfl, W0, by have := W0.ti.len; simp; omega, by omega⟩ ?_
  rintro m ρ μ' ⟨fs, td, ⟨o3, o4, o5, o6, o7, o8, o9, rfl⟩, rfl, hv, hm, hm2⟩
  rcases List.eq_nil_or_concat td with rfl | ⟨td', w, rfl⟩
  · simp_arith [A.f_Spread_come_to, A.g_Spread_come_to, S_Spread_come_to, i_Spread_come_to, A.f_ratio, A.g_ratio, S_ratio, i_ratio]
    rw [if_neg (by decide)]
    refine fin_sub _ ?_ (hR fs (hv.end_ hes))
    exact Rh.Sub.set_none (by rw [set_ne np2, set_ne np1]; exact ht)
  rw [List.concat_eq_append] at *
  have e1 : ((td' ++ [w]).map T.int)[td'.length + 1 - 1]? = some (.int w) := by simp
  have e2 : ((td' ++ [w]).map T.int).dropLast = td'.map T.int := by simp
  simp_arith [A.f_Spread_come_to, A.g_Spread_come_to, S_Spread_come_to, i_Spread_come_to, A.f_ratio, A.g_ratio, S_ratio, i_ratio]
  rw [if_pos (by simp)]
  apply e_cons; simp only [denS]; (try simp_arith [A.f_Spread_come_to, A.g_Spread_come_to, S_Spread_come_to, i_Spread_come_to, A.f_ratio, A.g_ratio, S_ratio, i_ratio]); repeat ((with_reducible refine And.intro ?_ ?_); omega)
  refine ⟨_, e1, ?_⟩
  rw [e2, set_set]
  have hwk := hv.sub w (by simp)
  have hS0 := hSp fs td'
  apply e_cons; simp only [denS]; (try simp_arith [A.f_Spread_come_to, A.g_Spread_come_to, S_Spread_come_to, i_Spread_come_to, A.f_ratio, A.g_ratio, S_ratio, i_ratio, hS0.o]); repeat ((with_reducible refine And.intro ?_ ?_); omega)
  refine onG_at .lst fun gd hgd => ?_
  refine for_enum (fun k ρ μ' => (∃ o4 o5 o6 o7 o8 o9, ρ = [some (.own s), some (.int a), some (.own pt), some (.int w), o4, o5, o6, o7, o8, o9]) ∧ WS μ rd wd pt ls n es a w m (SeenE ls w k) μ') ⟨⟨_, _, _, _, _, _, rfl⟩, fs, td', rfl, ⟨hv.ti, hv.old, hv.new, fun x hx => hv.sub x (by simp [hx]), hv.f, fun x h1 h2 h3 h4 => hv.cl x h1 h2 (by simp [h3, h4]) id⟩, hwk, by simp at hm; omega, fun l hl => by simp at hl⟩ ?_ ?_
  · rintro ρ μ' ⟨⟨o4, o5, o6, o7, o8, o9, rfl⟩, fs, td, rfl, hv, hwk, hm, hs⟩
    refine ⟨hgd _ .lst, ?_⟩
    simp_arith []
    rw [SeenE, List.take_length] at hs
    have hcw : ∀ y, Adj (ends ls) w y → y ∈ keysE fs := fun y hy => by
      rcases hy with hy | hy
      · obtain ⟨l, hl, e⟩ := List.mem_map.mp hy
        cases e
        exact (hs l hl).1 rfl
      · obtain ⟨l, hl, e⟩ := List.mem_map.mp hy
        cases e
        exact (hs l hl).2 rfl
    have hv' : WInv ls n es a (fun _ => False) fs td := ⟨hv.ti, hv.old, hv.new, hv.sub, hv.f, fun x h1 h2 h3 _ => by
      by_cases e : x = w
      · subst e
        exact hcw
      · exact hv.cl x h1 h2 h3 e⟩
    have hl := hv.ti.len
    exact ⟨_, _, .refl _ _, 2 * n + td.length - 2 * fs.length, by omega, ⟨_, _, _, _, _, _, _, rfl⟩, fs, td, rfl, hv', by omega, by omega⟩
  rintro k l ρ μ' el ⟨⟨o4, o5, o6, o7, o8, o9, rfl⟩, hRS⟩
  refine ⟨hgd _ .lst, ?_⟩
  have hl := List.mem_of_getElem? el
  have ek : ls[((k : Int)).toNat]? = some l := el
  have lt : Leads ls k true l.g l.t := ⟨l, Int.natCast_nonneg k, ek, rfl, rfl⟩
  have lf : Leads ls k false l.t l.g := ⟨l, Int.natCast_nonneg k, ek, rfl, rfl⟩
  have ft : fac ls k true = l.gi := lt.fac ek
  have ff : fac ls k false = l.ta := lf.fac ek
  obtain ⟨g1, g2⟩ := hp l hl
  obtain ⟨z1, z2⟩ := hz l hl
  have gg := z1.gcd z2
  have gg0 := gcd_pos (a := l.gi) (b := l.ta) (.inl (by omega))
  have c1 := gg.divOk gg0 (by decide) l.gi
  have c2 := gg.divOk gg0 (by decide) l.ta
  have gh := z2.gcd z1
  have gh0 := gcd_pos (a := l.ta) (b := l.gi) (.inl (by omega))
  have c3 := gh.divOk gh0 (by decide) l.ta
  have c4 := gh.divOk gh0 (by decide) l.gi
  have step : ∀ (x : Int) (d : Bool) (Q : List Ent → Prop) μ', WS μ rd wd pt ls n es a w m Q μ' → Leads ls k d w x → (∀ fs e, Q fs → Q (fs ++ [e])) → ∃ fs, SpAt μ' s rd wd ls fs ∧ (x ∈ keysE fs → WS μ rd wd pt ls n es a w m (fun fs => Q fs ∧ x ∈ keysE fs) μ') ∧ (x ∉ keysE fs → fs.length < 1000 ∧ ∃ e, e ∈ fs ∧ w = e.v ∧ (keysE fs).Nodup ∧ 0 < e.p ∧ 0 < e.q ∧ Bt 4500 e.p ∧ Bt 4500 e.q ∧ e.w.length < 1000 ∧
      ∃ td : List Int, td.length < 1000 ∧ ∀ o1 o2, (((μ'.set rd o1).set wd o2) pt = some (.lst (td.map T.int))) ∧
        (o1 = .dict (entD ratT (fs ++ [goE ls e k d x])) → o2 = .dict (entD wayT (fs ++ [goE ls e k d x])) → WS μ rd wd pt ls n es a w m (fun fs => Q fs ∧ x ∈ keysE fs) (((μ'.set rd o1).set wd o2).set pt (.lst (td.map T.int ++ [.int x]))))) := by
    rintro x d Q μ' ⟨fs, td, rfl, hv, hw, hm, hq⟩ hld hmono
    have hl := hv.ti.len
    refine ⟨fs, hSp fs td, fun h => ⟨fs, td, rfl, hv, hw, hm, hq, h⟩, fun h => ⟨by omega, ?_⟩⟩
    obtain ⟨e, he, rfl⟩ := List.mem_map.mp hw.1
    have p := hv.ti.pos e he
    have b := hv.ti.bt e he
    have wl := hv.ti.wl e he
    refine ⟨e, he, rfl, hv.ti.nd, p.1, p.2.1, b.1.mono (by omega), b.2.mono (by omega), by omega, td, by omega, fun o1 o2 => ⟨by rw [set_ne np2, set_ne np1, set_self], fun q1 q2 => ?_⟩⟩
    subst q1 q2
    refine ⟨fs ++ [goE ls e k d x], td ++ [x], ?_, hv.add hp hz hi he hw.2 hld h, ⟨?_, hw.2⟩, by simp only [List.length_append, List.length_singleton]; omega, hmono _ _ hq, ?_⟩
    · rw [set3, List.map_append]
      rfl
    · rw [keysE_add]
      exact List.mem_append.mpr (.inl hw.1)
    · rw [keysE_add]
      exact List.mem_append.mpr (.inr (List.mem_singleton.mpr rfl))
  simp_arith [A.f_Spread_come_to, A.g_Spread_come_to, S_Spread_come_to, i_Spread_come_to, A.f_ratio, A.g_ratio, S_ratio, i_ratio, Ln.tr]
  apply e_cons
  refine e_join (fun ρ μ' => ρ = [some (.own s), some (.int a), some (.own pt), some (.int w), some (.int k), some (.int l.g), some (.int l.t), some (.int l.gi), some (.int l.ta), some (.int l.st)] ∧ WS μ rd wd pt ls n es a w m (fun fs => SeenE ls w k fs ∧ VisE w l.g l.t fs) μ') (fun ρ μ' => ?_) ?_
  case refine_2 =>
    by_cases e : l.g = w
    · obtain ⟨fs, S2, g2, g3⟩ := step l.t true _ μ' hRS (e ▸ lt) fun fs e => SeenE.app
      by_cases hx : l.t ∈ keysE fs
      · simp_arith [A.f_Spread_come_to, A.g_Spread_come_to, S_Spread_come_to, i_Spread_come_to, A.f_ratio, A.g_ratio, S_ratio, i_ratio, S2.o, in_ent S2.r, e, hx]
        exact (g2 hx).mono fun fs h => ⟨h.1, fun _ => h.2⟩
      · obtain ⟨h1, en, h2, h3, h4, h5, h6, h7, h8, h9, td, h10, h11⟩ := g3 hx
        simp_arith [A.f_Spread_come_to, A.g_Spread_come_to, S_Spread_come_to, i_Spread_come_to, A.f_ratio, A.g_ratio, S_ratio, i_ratio, S2.o, in_ent S2.r, e, hx]
        apply e_cons; simp only [denS]; (try simp_arith [A.f_Spread_come_to, A.g_Spread_come_to, S_Spread_come_to, i_Spread_come_to, A.f_ratio, A.g_ratio, S_ratio, i_ratio, S2.o]); repeat ((with_reducible refine And.intro ?_ ?_); omega)
        obtain ⟨ra, rb, rc, rd', re, rf⟩ := rat_spec (a := l.gi) (b := l.ta) (by omega) (by omega)
        have b1 := (z1.le (Int.le_of_lt ra) re).mono (show 128 ≤ 4500 by decide)
        have b2 := (z2.le (Int.le_of_lt rb) rf).mono (show 128 ≤ 4500 by decide)
        refine ⟨rd, wd, ls, fs, en, h3, S2, h4, h1, h2, hx, h5, h6, ra, rb, ⟨4500, h7, h8, b1, b2, by decide⟩, h9, fun e' he' => ?_⟩
        have he2 : e' = goE ls en k true l.t := by
          rw [he', goE, ft, show fac ls k (!true) = l.ta from ff]
        subst he2
        obtain ⟨h12, h13⟩ := h11 (.dict (entD ratT (fs ++ [goE ls en k true l.t]))) (.dict (entD wayT (fs ++ [goE ls en k true l.t])))
        apply e_cons; simp only [denS]; (try simp_arith [A.f_Spread_come_to, A.g_Spread_come_to, S_Spread_come_to, i_Spread_come_to, A.f_ratio, A.g_ratio, S_ratio, i_ratio, h12]); repeat ((with_reducible refine And.intro ?_ ?_); omega)
        exact (h13 rfl rfl).mono fun fs h => ⟨h.1, fun _ => h.2⟩
    · simp_arith [A.f_Spread_come_to, A.g_Spread_come_to, S_Spread_come_to, i_Spread_come_to, A.f_ratio, A.g_ratio, S_ratio, i_ratio, e]
      exact hRS.mono fun ks h => ⟨h, fun z => absurd z e⟩
  rintro ⟨rfl, hRS⟩
  dsimp only
  apply e_cons; apply e_ife; simp_arith [A.f_Spread_come_to, A.g_Spread_come_to, S_Spread_come_to, i_Spread_come_to, A.f_ratio, A.g_ratio, S_ratio, i_ratio, Ln.tr]; repeat ((with_reducible refine And.intro ?_ ?_); omega)
  have hfin : ∀ μ', WS μ rd wd pt ls n es a w m (fun fs => (SeenE ls w k fs ∧ VisE w l.g l.t fs) ∧ VisE w l.t l.g fs) μ' → WS μ rd wd pt ls n es a w m (SeenE ls w (k + 1)) μ' := fun μ' h => h.mono fun fs h => by
    have et : ls.take (k + 1) = ls.take k ++ [l] := by
      rw [List.take_add_one, el]
      rfl
    unfold SeenE
    rw [et]
    intro l' hl'
    rcases List.mem_append.mp hl' with z | z
    · exact h.1.1 l' z
    · cases List.mem_singleton.mp z
      exact ⟨h.1.2, h.2⟩
  by_cases e : l.t = w
  · obtain ⟨fs, S2, g2, g3⟩ := step l.g false _ μ' hRS (e ▸ lf) fun fs e h => ⟨h.1.app, fun z => by rw [keysE_add]; exact List.mem_append.mpr (.inl (h.2 z))⟩
    by_cases hx : l.g ∈ keysE fs
    · simp_arith [A.f_Spread_come_to, A.g_Spread_come_to, S_Spread_come_to, i_Spread_come_to, A.f_ratio, A.g_ratio, S_ratio, i_ratio, S2.o, in_ent S2.r, e, hx]
      exact ⟨_, _, .refl _ _, ⟨_, _, _, _, _, _, rfl⟩, hfin _ ((g2 hx).mono fun fs h => ⟨h.1, fun _ => h.2⟩)⟩
    · obtain ⟨h1, en, h2, h3, h4, h5, h6, h7, h8, h9, td, h10, h11⟩ := g3 hx
      simp_arith [A.f_Spread_come_to, A.g_Spread_come_to, S_Spread_come_to, i_Spread_come_to, A.f_ratio, A.g_ratio, S_ratio, i_ratio, S2.o, in_ent S2.r, e, hx]
      apply e_cons; simp only [denS]; (try simp_arith [A.f_Spread_come_to, A.g_Spread_come_to, S_Spread_come_to, i_Spread_come_to, A.f_ratio, A.g_ratio, S_ratio, i_ratio, S2.o]); repeat ((with_reducible refine And.intro ?_ ?_); omega)
      obtain ⟨ra, rb, rc, rd', re, rf⟩ := rat_spec (a := l.ta) (b := l.gi) (by omega) (by omega)
      have b1 := (z2.le (Int.le_of_lt ra) re).mono (show 128 ≤ 4500 by decide)
      have b2 := (z1.le (Int.le_of_lt rb) rf).mono (show 128 ≤ 4500 by decide)
      refine ⟨rd, wd, ls, fs, en, h3, S2, h4, h1, h2, hx, h5, h6, ra, rb, ⟨4500, h7, h8, b1, b2, by decide⟩, h9, fun e' he' => ?_⟩
      have he2 : e' = goE ls en k false l.g := by
        rw [he', goE, ff, show fac ls k (!false) = l.gi from ft]
      subst he2
      obtain ⟨h12, h13⟩ := h11 (.dict (entD ratT (fs ++ [goE ls en k false l.g]))) (.dict (entD wayT (fs ++ [goE ls en k false l.g])))
      apply e_cons; simp only [denS]; (try simp_arith [A.f_Spread_come_to, A.g_Spread_come_to, S_Spread_come_to, i_Spread_come_to, A.f_ratio, A.g_ratio, S_ratio, i_ratio, h12]); repeat ((with_reducible refine And.intro ?_ ?_); omega)
      exact ⟨_, _, .refl _ _, ⟨_, _, _, _, _, _, rfl⟩, hfin _ ((h13 rfl rfl).mono fun fs h => ⟨h.1, fun _ => h.2⟩)⟩
  · simp_arith [A.f_Spread_come_to, A.g_Spread_come_to, S_Spread_come_to, i_Spread_come_to, A.f_ratio, A.g_ratio, S_ratio, i_ratio, e]
    exact ⟨_, _, .refl _ _, ⟨_, _, _, _, _, _, rfl⟩, hfin _ (hRS.mono fun ks h => ⟨h, fun z => absurd z e⟩)⟩
def S_reached : TSp := fun ts μ F R => ∃ ls n first, ts = [.lst (ls.map Ln.tr), .int first] ∧ Inr (ends ls) n ∧ n < 64 ∧ 0 ≤ first ∧ first < n ∧ retL ((compL (ends ls) n first).map T.int) μ R
structure A_reached (G : Tab) (Γ : Nat → TSp) : Prop where
  triv : True
abbrev B_reached (G : Tab) (Γ : Nat → TSp) : Prop := ∀ ts μ F R, S_reached ts μ F R → denSs G Γ c_reached (bodyD R F) (startT N_reached.length ts) μ
theorem body_reached {G : Tab} {Γ : Nat → TSp} (A : A_reached G Γ) : B_reached G Γ := by
  rintro ts μ F R ⟨ls, n, first, rfl, hi, hn, f0, f1, hR⟩
  unfold c_reached
  simp only [Rh.startT, List.length_cons, List.length_nil, List.map_cons, List.map_nil, List.replicate, List.cons_append, List.nil_append, Nat.reduceAdd, Nat.reduceSub, N_reached]
  apply e_cons; simp only [denS]; (try simp_arith []); repeat ((with_reducible refine And.intro ?_ ?_); omega)
  refine ⟨_, rfl, ?_⟩
  intro pf hf
  rw [show [((.inl first : Key), T.bl true)] = setD [first] from rfl]
  apply e_cons; simp only [denS]; (try simp_arith []); repeat ((with_reducible refine And.intro ?_ ?_); omega)
  intro pt ht
  have npt : pt ≠ pf := (nofr set_self ht).symm
  have ht' : μ pt = none := by rwa [set_ne npt] at ht
  apply e_cons
  refine e_while (fun m ρ μ' => ∃ ks td, (∃ o4 o5 o6 o7 o8 o9, ρ = [some (.lst (ls.map Ln.tr)), some (.int first), some (.own pf), some (.own pt), o4, o5, o6, o7, o8, o9]) ∧ μ' = (μ.set pf (.dict (setD ks))).set pt (.lst (td.map T.int)) ∧ RInv (ends ls) n first (fun _ => False) ks td ∧ 2 * n + td.length = m + 2 * ks.length ∧ m ≤ 200) (2 * n + 1 - 2) ⟨[first], [first], ⟨_, _, _, _, _, _, rfl⟩, rfl, ⟨List.pairwise_singleton _ _, ?_, ?_, fun _ h => h, List.mem_singleton.mpr rfl, fun x h1 h2 => absurd h1 h2⟩, by simp; omega, by omega⟩ ?_
  · intro x hx
    cases List.mem_singleton.mp hx
    exact .refl
  · intro x hx
    cases List.mem_singleton.mp hx
    exact ⟨f0, f1⟩
  rintro m ρ μ' ⟨ks, td, ⟨o4, o5, o6, o7, o8, o9, rfl⟩, rfl, hv, hm, hm2⟩
  rcases List.eq_nil_or_concat td with rfl | ⟨td', w, rfl⟩
  · have gf : ((μ.set pf (.dict (setD ks))).set pt (.lst [])) pf = some (.dict (setD ks)) := by rw [set_ne npt.symm, set_self]
    have hl := nodup_le n ks hv.nd hv.bd
    simp_arith []
    rw [if_neg (by decide)]
    apply e_cons; simp only [denS]; (try simp_arith [gf]); repeat ((with_reducible refine And.intro ?_ ?_); omega)
    refine ⟨_, _, rfl, gf, ks, by simp [setD], by omega, fun ys hp hs p hq => ?_⟩
    rw [hv.end_ hi hp hs]
    have npt2 : p ≠ pt := (nofr set_self hq).symm
    have hq1 : (μ.set pf (.dict (setD ks))) p = none := by rwa [set_ne npt2] at hq
    have npf2 : p ≠ pf := (nofr set_self hq1).symm
    have hq2 : μ p = none := by rwa [set_ne npf2] at hq1
    refine fin_retG hR hq2 set_self ?_
    exact Lw.Sub.both (Rh.Sub.trans (Rh.Sub.set_none hf) (Rh.Sub.set_none (by rw [set_ne npt]; exact ht')))
  rw [List.concat_eq_append] at *
  have e1 : ((td' ++ [w]).map T.int)[td'.length + 1 - 1]? = some (.int w) := by simp
  have e2 : ((td' ++ [w]).map T.int).dropLast = td'.map T.int := by simp
  simp_arith []
  rw [if_pos (by simp)]
  apply e_cons; simp only [denS]; (try simp_arith []); repeat ((with_reducible refine And.intro ?_ ?_); omega)
  refine ⟨_, e1, ?_⟩
  rw [e2, set_set]
  have hwk : w ∈ ks := hv.sub w (by simp)
  apply e_cons; simp only [denS]; (try simp_arith []); repeat ((with_reducible refine And.intro ?_ ?_); omega)
  refine onG_at .lst fun gd hgd => ?_
  refine for_map (fun k ρ μ' => (∃ o5 o6 o7 o8 o9, ρ = [some (.lst (ls.map Ln.tr)), some (.int first), some (.own pf), some (.own pt), some (.int w), o5, o6, o7, o8, o9]) ∧ RS μ pf pt (ends ls) n first w m (Seen ls w k) μ') ⟨⟨_, _, _, _, _, rfl⟩, ks, td', rfl, ⟨hv.nd, hv.con, hv.bd, fun x hx => hv.sub x (by simp [hx]), hv.f, fun x h1 h2 h3 => hv.cl x h1 (by simp [h2, h3]) id⟩, hwk, by simp at hm; omega, fun l hl => by simp at hl⟩ ?_ ?_
  · rintro ρ μ' ⟨⟨o5, o6, o7, o8, o9, rfl⟩, ks, td, rfl, hv, hwk, hm, hs⟩
    refine ⟨hgd _ .lst, ?_⟩
    simp_arith []
    rw [Seen, List.take_length] at hs
    have hcw : ∀ y, Adj (ends ls) w y → y ∈ ks := fun y hy => by
      rcases hy with hy | hy
      · obtain ⟨l, hl, e⟩ := List.mem_map.mp hy
        cases e
        exact (hs l hl).1 rfl
      · obtain ⟨l, hl, e⟩ := List.mem_map.mp hy
        cases e
        exact (hs l hl).2 rfl
    have hv' : RInv (ends ls) n first (fun _ => False) ks td := ⟨hv.nd, hv.con, hv.bd, hv.sub, hv.f, fun x h1 h2 _ => by
      by_cases e : x = w
      · subst e
        exact hcw
      · exact hv.cl x h1 h2 e⟩
    have hl := nodup_le n ks hv.nd hv.bd
    exact ⟨_, _, .refl _ _, 2 * n + td.length - 2 * ks.length, by omega, ⟨_, _, _, _, _, _, rfl⟩, ks, td, rfl, hv', by omega, by omega⟩
  rintro k l ρ μ' el ⟨⟨o5, o6, o7, o8, o9, rfl⟩, hRS⟩
  refine ⟨hgd _ .lst, ?_⟩
  have hl := List.mem_of_getElem? el
  have a1 : Adj (ends ls) l.g l.t := .inl (ends_mem hl)
  have step : ∀ (x : Int) (Q : List Int → Prop) μ' , RS μ pf pt (ends ls) n first w m Q μ' → Adj (ends ls) w x → (∀ ks x, Q ks → Q (ks ++ [x])) → ∃ ks, μ' pf = some (.dict (setD ks)) ∧ (x ∈ ks → RS μ pf pt (ends ls) n first w m (fun ks => Q ks ∧ x ∈ ks) μ') ∧ (x ∉ ks → ks.length < 1000 ∧ ∃ td : List Int, td.length < 1000 ∧ ((μ'.set pf (.dict (setD (addK ks x)))) pt = some (.lst (td.map T.int))) ∧ RS μ pf pt (ends ls) n first w m (fun ks => Q ks ∧ x ∈ ks) ((μ'.set pf (.dict (setD (addK ks x)))).set pt (.lst (td.map T.int ++ [.int x])))) := by
    rintro x Q μ' ⟨ks, td, rfl, hv, hw, hm, hq⟩ ha hmono
    have hl := nodup_le n ks hv.nd hv.bd
    refine ⟨ks, by rw [set_ne npt.symm, set_self], fun h => ⟨ks, td, rfl, hv, hw, hm, hq, h⟩, fun h => ⟨by omega, td, by omega, by rw [set_ne npt, set_self], ks ++ [x], td ++ [x], ?_, hv.add hi h hw ha, List.mem_append.mpr (.inl hw), by simp only [List.length_append, List.length_singleton]; omega, hmono _ _ hq, by simp⟩⟩
    rw [set_comm (p := pt) (q := pf) npt, set_set, set_set, List.map_append, addK, if_neg h]
    rfl
  simp_arith [Ln.tr]
  apply e_cons
  refine e_join (fun ρ μ' => ρ = [some (.lst (ls.map Ln.tr)), some (.int first), some (.own pf), some (.own pt), some (.int w), some (.int l.g), some (.int l.t), some (.int l.gi), some (.int l.ta), some (.int l.st)] ∧ RS μ pf pt (ends ls) n first w m (fun ks => Seen ls w k ks ∧ Vis w l.g l.t ks) μ') (fun ρ μ' => ?_) ?_
  case refine_2 =>
    by_cases e : l.g = w
    · obtain ⟨ks, g1, g2, g3⟩ := step l.t _ μ' hRS (e ▸ a1) fun ks x => Seen.app
      by_cases hx : l.t ∈ ks
      · simp_arith [in_setD g1, e, hx]
        exact (g2 hx).mono fun ks h => ⟨h.1, fun _ => h.2⟩
      · obtain ⟨h1, td, h2, h3, h4⟩ := g3 hx
        simp_arith [in_setD g1, e, hx]
        apply e_cons; simp only [denS]; (try simp_arith [g1]); repeat ((with_reducible refine And.intro ?_ ?_); omega)
        refine ⟨pf, _, rfl, g1, _, rfl, by rw [setD_len]; omega, ?_⟩
        rw [put_setD]
        apply e_cons; simp only [denS]; (try simp_arith [h3]); repeat ((with_reducible refine And.intro ?_ ?_); omega)
        exact h4.mono fun ks h => ⟨h.1, fun _ => h.2⟩
    · simp_arith [e]
      exact hRS.mono fun ks h => ⟨h, fun z => absurd z e⟩
  rintro ⟨rfl, hRS⟩
  dsimp only
  apply e_cons; apply e_ife; simp_arith []; repeat ((with_reducible refine And.intro ?_ ?_); omega)
  have hfin : ∀ μ', RS μ pf pt (ends ls) n first w m (fun ks => (Seen ls w k ks ∧ Vis w l.g l.t ks) ∧ Vis w l.t l.g ks) μ' → RS μ pf pt (ends ls) n first w m (Seen ls w (k + 1)) μ' := fun μ' h => h.mono fun ks h => by
    have et : ls.take (k + 1) = ls.take k ++ [l] := by
      rw [List.take_add_one, el]
      rfl
    unfold Seen
    rw [et]
    intro l' hl'
    rcases List.mem_append.mp hl' with z | z
    · exact h.1.1 l' z
    · cases List.mem_singleton.mp z
      exact ⟨h.1.2, h.2⟩
  by_cases e : l.t = w
  · obtain ⟨ks, g1, g2, g3⟩ := step l.g _ μ' hRS (e ▸ a1.symm) fun ks x h => ⟨h.1.app, fun z => List.mem_append.mpr (.inl (h.2 z))⟩
    by_cases hx : l.g ∈ ks
    · simp_arith [in_setD g1, e, hx]
      exact ⟨_, _, .refl _ _, ⟨_, _, _, _, _, rfl⟩, hfin _ ((g2 hx).mono fun ks h => ⟨h.1, fun _ => h.2⟩)⟩
    · obtain ⟨h1, td, h2, h3, h4⟩ := g3 hx
      simp_arith [in_setD g1, e, hx]
      apply e_cons; simp only [denS]; (try simp_arith [g1]); repeat ((with_reducible refine And.intro ?_ ?_); omega)
      refine ⟨pf, _, rfl, g1, _, rfl, by rw [setD_len]; omega, ?_⟩
      rw [put_setD]
      apply e_cons; simp only [denS]; (try simp_arith [h3]); repeat ((with_reducible refine And.intro ?_ ?_); omega)
      exact ⟨_, _, .refl _ _, ⟨_, _, _, _, _, rfl⟩, hfin _ (h4.mono fun ks h => ⟨h.1, fun _ => h.2⟩)⟩
  · simp_arith [e]
    exact ⟨_, _, .refl _ _, ⟨_, _, _, _, _, rfl⟩, hfin _ (hRS.mono fun ks h => ⟨h, fun z => absurd z e⟩)⟩
def S_pieces_of : TSp := fun ts μ F R => ∃ h l1 l2 ns ls, ts = [.own h] ∧ HallAt μ h l1 l2 ns ls ∧ Inr (ends ls) ns.length ∧ ns.length < 64 ∧ nestR (piecesOf (ends ls) ns.length) μ R
structure A_pieces_of (G : Tab) (Γ : Nat → TSp) : Prop where
  f_Hall_belts : G.fn n_Hall_belts = some i_Hall_belts
  g_Hall_belts : Γ n_Hall_belts = S_Hall_belts
  f_Hall_names : G.fn n_Hall_names = some i_Hall_names
  g_Hall_names : Γ n_Hall_names = S_Hall_names
  f_reached : G.fn n_reached = some i_reached
  g_reached : Γ n_reached = S_reached
abbrev B_pieces_of (G : Tab) (Γ : Nat → TSp) : Prop := ∀ ts μ F R, S_pieces_of ts μ F R → denSs G Γ c_pieces_of (bodyD R F) (startT N_pieces_of.length ts) μ
theorem body_pieces_of {G : Tab} {Γ : Nat → TSp} (A : A_pieces_of G Γ) : B_pieces_of G Γ := by
  rintro ts μ F R ⟨h, l1, l2, ns, ls, rfl, H, hi, hn, hR⟩
  unfold c_pieces_of
  simp only [Rh.startT, List.length_cons, List.length_nil, List.map_cons, List.map_nil, List.replicate, List.cons_append, List.nil_append, Nat.reduceAdd, Nat.reduceSub, N_pieces_of]
  apply e_cons; simp only [denS]; (try simp_arith [A.f_Hall_belts, A.g_Hall_belts, S_Hall_belts, i_Hall_belts, A.f_Hall_names, A.g_Hall_names, S_Hall_names, i_Hall_names, A.f_reached, A.g_reached, S_reached, i_reached, H.o]); repeat ((with_reducible refine And.intro ?_ ?_); omega)
  refine ⟨l1, l2, ns, ls, H, .inr ?_⟩
  simp_arith []
  apply e_cons; simp only [denS]; (try simp_arith [A.f_Hall_belts, A.g_Hall_belts, S_Hall_belts, i_Hall_belts, A.f_Hall_names, A.g_Hall_names, S_Hall_names, i_Hall_names, A.f_reached, A.g_reached, S_reached, i_reached]); repeat ((with_reducible refine And.intro ?_ ?_); omega)
  intro p hp
  apply e_cons; simp only [denS]; (try simp_arith [A.f_Hall_belts, A.g_Hall_belts, S_Hall_belts, i_Hall_belts, A.f_Hall_names, A.g_Hall_names, S_Hall_names, i_Hall_names, A.f_reached, A.g_reached, S_reached, i_reached]); repeat ((with_reducible refine And.intro ?_ ?_); omega)
  intro sd hsd
  have nsp : sd ≠ p := (nofr set_self hsd).symm
  have hsd' : μ sd = none := by rwa [set_ne nsp] at hsd
  have H1 := (H.fresh (ob := .lst []) hp).fresh (ob := .dict []) hsd
  apply e_cons; simp only [denS]; (try simp_arith [A.f_Hall_belts, A.g_Hall_belts, S_Hall_belts, i_Hall_belts, A.f_Hall_names, A.g_Hall_names, S_Hall_names, i_Hall_names, A.f_reached, A.g_reached, S_reached, i_reached, H1.o]); repeat ((with_reducible refine And.intro ?_ ?_); omega)
  refine ⟨l1, l2, ns, ls, H1, .inr ?_⟩
  simp_arith []
  refine ⟨by omega, by omega, ?_⟩
  generalize hes : ends ls = es at hi hR
  have hcl : ∀ (a x : Int), 0 ≤ a → a < ns.length → (x ∈ compL es ns.length a ↔ Con es a x) := fun a x h0 h1 => compL_mem hi ⟨h0, h1⟩
  refine for_rng (fun k ρ μ' => ∃ qs seen, (∃ o4 o5 o6, ρ = [some (.own h), some (.lst (ls.map Ln.tr)), some (.own p), some (.own sd), o4, o5, o6]) ∧ Nest μ μ' p qs ((firsts es k).map (compL es ns.length)) ∧ sd ∉ qs ∧ μ' sd = some (.dict (setD seen)) ∧ seen.Nodup ∧ (∀ x ∈ seen, 0 ≤ x ∧ x < ns.length) ∧ ∀ x : Int, x ∈ seen ↔ ∃ a : Int, (0 ≤ a ∧ a < k) ∧ Con es a x) ⟨[], [], ⟨_, _, _, rfl⟩, ⟨(Rh.Sub.set_none hp).trans (Rh.Sub.set_none hsd), hp, by rw [set_ne nsp.symm, set_self]; rfl, rfl, fun i q x h => by simp at h, (fun q hq => by cases hq), (fun q hq => by cases hq), List.nodup_nil⟩, List.not_mem_nil, set_self, List.nodup_nil, (fun x hx => by cases hx), fun x => ⟨fun z => by simp at z, fun ⟨a, z, _⟩ => by omega⟩⟩ ?_ ?_
  · rintro ρ μ' ⟨qs, seen, ⟨o4, o5, o6, rfl⟩, N, -, -, -, -, -⟩
    refine ⟨trivial, ?_⟩
    apply e_cons; simp only [denS]; (try simp_arith [A.f_Hall_belts, A.g_Hall_belts, S_Hall_belts, i_Hall_belts, A.f_Hall_names, A.g_Hall_names, S_Hall_names, i_Hall_names, A.f_reached, A.g_reached, S_reached, i_reached]); repeat ((with_reducible refine And.intro ?_ ?_); omega)
    exact fin_nest hR N
  rintro k ρ μ' hk ⟨qs, seen, ⟨o4, o5, o6, rfl⟩, N, hsq, gsd, snd, sbd, hsn⟩
  refine ⟨trivial, ?_⟩
  have gp := N.at_
  have hkn : (k : Int) < ns.length := by omega
  simp_arith [A.f_Hall_belts, A.g_Hall_belts, S_Hall_belts, i_Hall_belts, A.f_Hall_names, A.g_Hall_names, S_Hall_names, i_Hall_names, A.f_reached, A.g_reached, S_reached, i_reached]
  apply e_cons; apply e_ife; simp_arith [A.f_Hall_belts, A.g_Hall_belts, S_Hall_belts, i_Hall_belts, A.f_Hall_names, A.g_Hall_names, S_Hall_names, i_Hall_names, A.f_reached, A.g_reached, S_reached, i_reached, in_setD gsd]; repeat ((with_reducible refine And.intro ?_ ?_); omega)
  by_cases hks : (k : Int) ∈ seen
  · simp only [hks, not_true_eq_false, if_false]
    obtain ⟨a, ha, hc⟩ := (hsn k).mp hks
    have hnf : ¬ Fst es (k : Int) := fun z => by
      have := z a hc.symm
      omega
    refine ⟨_, _, .refl _ _, ⟨_, _, _, rfl⟩, qs, ?_, hsq, seen, gsd, snd, sbd, fun x => ?_⟩
    · rw [piecesOf_succ, if_neg hnf, List.append_nil]
      exact N
    · rw [hsn x]
      constructor
      · rintro ⟨a, ha, hc⟩
        exact ⟨a, by omega, by omega, hc⟩
      · rintro ⟨b, hb, hb2, hcb⟩
        by_cases e : b = k
        · subst e
          exact ⟨a, ha, hc.trans hcb⟩
        · exact ⟨b, by omega, hcb⟩
  simp only [hks, not_false_eq_true, if_true]
  have hfk : Fst es (k : Int) := fun u hu => by
    have := hu.inr hi ⟨by omega, hkn⟩
    refine Int.not_lt.mp fun hlt => hks ((hsn k).mpr ⟨u, ⟨this.1, hlt⟩, hu.symm⟩)
  apply e_cons; simp only [denS]; (try simp_arith [A.f_Hall_belts, A.g_Hall_belts, S_Hall_belts, i_Hall_belts, A.f_Hall_names, A.g_Hall_names, S_Hall_names, i_Hall_names, A.f_reached, A.g_reached, S_reached, i_reached]); repeat ((with_reducible refine And.intro ?_ ?_); omega)
  refine ⟨ls, rfl, ns.length, by rw [hes]; exact hi, by omega, hkn, .inl fun q hq => ?_⟩
  rw [hes]
  have nqp : q ≠ p := (nofr gp hq).symm
  have nqs : q ≠ sd := (nofr gsd hq).symm
  have hcm := hcl k
  have hcd := nodup_of_lt (compL_lt (es := es) (n := ns.length) (a := k))
  generalize hpc : compL es ns.length k = pc at hcm hcd
  have hpb : ∀ x ∈ pc, 0 ≤ x ∧ x < ns.length := fun x hx => ((hcm x (by omega) hkn).mp hx).inr hi ⟨by omega, hkn⟩
  apply e_cons; simp only [denS]; (try simp_arith [A.f_Hall_belts, A.g_Hall_belts, S_Hall_belts, i_Hall_belts, A.f_Hall_names, A.g_Hall_names, S_Hall_names, i_Hall_names, A.f_reached, A.g_reached, S_reached, i_reached]); repeat ((with_reducible refine And.intro ?_ ?_); omega)
  refine onG_at (.own set_self) fun gd hgd => ?_
  refine for_map (fun j ρ μ2 => ∃ seen', (∃ o6, ρ = [some (.own h), some (.lst (ls.map Ln.tr)), some (.own p), some (.own sd), some (.int k), some (.own q), o6]) ∧ μ2 = (μ'.set q (.lst (pc.map T.int))).set sd (.dict (setD seen')) ∧ seen'.Nodup ∧ (∀ x ∈ seen', 0 ≤ x ∧ x < ns.length) ∧ ∀ x : Int, x ∈ seen' ↔ x ∈ seen ∨ x ∈ pc.take j) ⟨seen, ⟨_, rfl⟩, (set_same (by rw [set_ne nqs.symm]; exact gsd)).symm, snd, sbd, fun x => by simp⟩ ?_ ?_
  · rintro ρ μ2 ⟨seen', ⟨o6, rfl⟩, rfl, h1, h2, h3⟩
    refine ⟨hgd _ (.own (by rw [set_ne nqs, set_self])), ?_⟩
    rw [List.take_length] at h3
    have gp2 : ((μ'.set q (.lst (pc.map T.int))).set sd (.dict (setD seen'))) p = some (.lst (qs.map T.own)) := by rw [set_ne nsp.symm, set_ne nqp.symm]; exact gp
    have hql : qs.length < 16777216 := by
      rw [N.len, List.length_map]
      have := List.length_filter_le (fun a => @decide (Fst es a) (Classical.propDecidable _)) ((List.range k).map fun i : Nat => (i : Int))
      rw [List.length_map, List.length_range] at this
      unfold firsts
      omega
    simp_arith []
    apply e_cons; simp only [denS]; (try simp_arith [A.f_Hall_belts, A.g_Hall_belts, S_Hall_belts, i_Hall_belts, A.f_Hall_names, A.g_Hall_names, S_Hall_names, i_Hall_names, A.f_reached, A.g_reached, S_reached, i_reached, gp2]); repeat ((with_reducible refine And.intro ?_ ?_); omega)
    obtain ⟨N2, h4⟩ := N.add (x := pc) (o2 := .dict (setD seen')) hq gsd hsd' nsp hsq
    refine ⟨_, _, .refl _ _, ⟨_, _, _, rfl⟩, qs ++ [q], ?_, h4, seen', by rw [set_ne nsp, set_self], h1, h2, fun x => ?_⟩
    · rw [piecesOf_succ, if_pos hfk, hpc]
      exact N2
    · rw [h3, hcm x (by omega) hkn, hsn x]
      constructor
      · rintro (⟨a, ha, hc⟩ | hc)
        · exact ⟨a, by omega, by omega, hc⟩
        · exact ⟨k, by omega, by omega, hc⟩
      · rintro ⟨a, ha, ha2, hc⟩
        by_cases e : a = k
        · subst e
          exact .inr hc
        · exact .inl ⟨a, by omega, hc⟩
  rintro j x ρ μ2 hj ⟨seen', ⟨o6, rfl⟩, rfl, h1, h2, h3⟩
  refine ⟨hgd _ (.own (by rw [set_ne nqs, set_self])), ?_⟩
  have gs2 : ((μ'.set q (.lst (pc.map T.int))).set sd (.dict (setD seen'))) sd = some (.dict (setD seen')) := set_self
  have hsl := nodup_le _ _ h1 h2
  simp_arith [A.f_Hall_belts, A.g_Hall_belts, S_Hall_belts, i_Hall_belts, A.f_Hall_names, A.g_Hall_names, S_Hall_names, i_Hall_names, A.f_reached, A.g_reached, S_reached, i_reached]
  apply e_cons; simp only [denS]; (try simp_arith [A.f_Hall_belts, A.g_Hall_belts, S_Hall_belts, i_Hall_belts, A.f_Hall_names, A.g_Hall_names, S_Hall_names, i_Hall_names, A.f_reached, A.g_reached, S_reached, i_reached]); repeat ((with_reducible refine And.intro ?_ ?_); omega)
  refine ⟨sd, _, rfl, gs2, _, rfl, by rw [setD_len]; omega, _, _, .refl _ _, ⟨_, rfl⟩, addK seen' x, by rw [set_set, put_setD], nodup_addK h1, fun y hy => ?_, fun y => ?_⟩
  · rcases mem_addK.mp hy with z | rfl
    · exact h2 y z
    · exact hpb _ (List.mem_of_getElem? hj)
  · rw [mem_addK, h3, show pc.take (j + 1) = pc.take j ++ [x] by rw [List.take_add_one, hj]; rfl, List.mem_append, List.mem_singleton, or_assoc]

def S_multiple : TSp := fun ts μ F R => ∃ a b : Int, ts = [.int a, .int b] ∧ 0 ≤ a ∧ 0 ≤ b ∧ CDivW a (Int.gcd a b) ∧ MulOk (a / (Int.gcd a b : Int)) b ∧ R (.int (a / (Int.gcd a b : Int) * b)) μ
structure A_multiple (G : Tab) (Γ : Nat → TSp) : Prop where
  f_divisor : G.fn n_divisor = some i_divisor
  g_divisor : Γ n_divisor = S_divisor
abbrev B_multiple (G : Tab) (Γ : Nat → TSp) : Prop := ∀ ts μ F R, S_multiple ts μ F R → denSs G Γ c_multiple (bodyD R F) (startT N_multiple.length ts) μ
theorem body_multiple {G : Tab} {Γ : Nat → TSp} (A : A_multiple G Γ) : B_multiple G Γ := by
  rintro ts μ F R ⟨a, b, rfl, ha, hb, h1, h2, h⟩
  unfold c_multiple
  simp only [Rh.startT, List.length_cons, List.length_nil, List.map_cons, List.map_nil, List.replicate, List.cons_append, List.nil_append, Nat.reduceAdd, Nat.reduceSub, N_multiple]
  apply e_cons; simp only [denS]; (try simp_arith [A.f_divisor, A.g_divisor, S_divisor, i_divisor]); repeat ((with_reducible refine And.intro ?_ ?_); omega)
  exact fin_id h
def S_whole_rates : TSp := fun ts μ F R => ∃ rd es pe, ts = [.own rd, .lst ((keysE pe).map T.int)] ∧ μ rd = some (.dict (entD ratT es)) ∧ (keysE es).Nodup ∧ (∀ e ∈ pe, e ∈ es) ∧ PE pe ∧ retL ((wholeL pe).map T.int) μ R
structure A_whole_rates (G : Tab) (Γ : Nat → TSp) : Prop where
  f_multiple : G.fn n_multiple = some i_multiple
  g_multiple : Γ n_multiple = S_multiple
  f_divisor : G.fn n_divisor = some i_divisor
  g_divisor : Γ n_divisor = S_divisor
abbrev B_whole_rates (G : Tab) (Γ : Nat → TSp) : Prop := ∀ ts μ F R, S_whole_rates ts μ F R → denSs G Γ c_whole_rates (bodyD R F) (startT N_whole_rates.length ts) μ
theorem body_whole_rates {G : Tab} {Γ : Nat → TSp} (A : A_whole_rates G Γ) : B_whole_rates G Γ := by
  rintro ts μ F R ⟨rd, es, pe, rfl, hr, nd, hm, P, hR⟩
  unfold c_whole_rates
  simp only [Rh.startT, List.length_cons, List.length_nil, List.map_cons, List.map_nil, List.replicate, List.cons_append, List.nil_append, Nat.reduceAdd, Nat.reduceSub, N_whole_rates]
  have ek : (keysE pe).map T.int = pe.map (fun e => T.int e.v) := by
    unfold keysE
    rw [List.map_map]
    rfl
  have hx : ∀ e ∈ pe, ∀ R : RP, tIdx (.own rd) (.int e.v) μ R = R (.tup [.int e.p, .int e.q]) μ := fun e he R => ix_ent hr nd (hm e he)
  obtain ⟨s1, s2, s3⟩ := P.spec
  have hlb := P.lcm_bt
  rw [ek]
  apply e_cons; simp only [denS]; (try simp_arith [A.f_multiple, A.g_multiple, S_multiple, i_multiple, A.f_divisor, A.g_divisor, S_divisor, i_divisor]); repeat ((with_reducible refine And.intro ?_ ?_); omega)
  apply e_cons; simp only [denS]; (try simp_arith [A.f_multiple, A.g_multiple, S_multiple, i_multiple, A.f_divisor, A.g_divisor, S_divisor, i_divisor]); repeat ((with_reducible refine And.intro ?_ ?_); omega)
  refine onG_at .lst fun gd hgd => ?_
  have hgd := hgd μ .lst
  refine for_map (fun k ρ μ' => (∃ o3, ρ = [some (.own rd), some (.lst (pe.map fun e => T.int e.v)), some (.int (((pe.take k).map Ent.q).foldl lcm1 1)), o3, none, none, none]) ∧ μ' = μ) ⟨⟨_, rfl⟩, rfl⟩ ?_ ?_
  case refine_2 =>
    rintro k e ρ μ' hk ⟨⟨o3, rfl⟩, rfl⟩
    refine ⟨hgd, ?_⟩
    have he := List.mem_of_getElem? hk
    have et : ((pe.take (k + 1)).map Ent.q).foldl lcm1 1 = lcm1 (((pe.take k).map Ent.q).foldl lcm1 1) e.q := by
      rw [List.take_add_one, hk, List.map_append, List.foldl_append]
      rfl
    have q0 := (P.pos e he).2.1
    have qb := (P.bt e he).2
    have hq : ∀ q ∈ (pe.take k).map Ent.q, 0 < q ∧ Bt 4500 q := fun q hq => by
      obtain ⟨f, hf, rfl⟩ := List.mem_map.mp hq
      have hf := List.mem_of_mem_take hf
      exact ⟨(P.pos f hf).2.1, (P.bt f hf).2⟩
    have c0 := (lcmF_spec ((pe.take k).map Ent.q) (c := 1) (by decide) fun q z => (hq q z).1).1
    have cb := lcmF_bt (k := 4500) ((pe.take k).map Ent.q) (c := 1) (m := 1) (by decide) (by unfold Bt; decide) hq
    have hpl := P.len
    have cb : Bt 180001 (((pe.take k).map Ent.q).foldl lcm1 1) := cb.mono (by rw [List.length_map, List.length_take]; omega)
    generalize ((pe.take k).map Ent.q).foldl lcm1 1 = c at *
    have g0 := gcd_pos (a := c) (b := e.q) (.inl (by omega))
    have gq : Bt 4500 (Int.gcd c e.q : Int) := qb.le (Int.le_of_lt g0) (Int.le_of_dvd q0 (Int.gcd_dvd_right _ _))
    have d1 := gq.divOk g0 (by decide) c
    have d2 := (cb.div (Int.le_of_lt c0) (Int.le_of_lt g0)).mulOk qb (by decide)
    simp_arith [A.f_multiple, A.g_multiple, S_multiple, i_multiple, A.f_divisor, A.g_divisor, S_divisor, i_divisor]
    apply e_cons; simp only [denS]; (try simp_arith [A.f_multiple, A.g_multiple, S_multiple, i_multiple, A.f_divisor, A.g_divisor, S_divisor, i_divisor, hx e he]); repeat ((with_reducible refine And.intro ?_ ?_); omega)
    exact ⟨_, _, .refl _ _, ⟨_, by rw [et]; rfl⟩, rfl⟩
  rintro ρ μ' ⟨⟨o3, rfl⟩, rfl⟩
  refine ⟨hgd, ?_⟩
  rw [List.take_length, show (pe.map Ent.q).foldl lcm1 1 = lcmE pe from rfl]
  have hent : ∀ e ∈ pe, entOf pe e.v = e := fun e he => by
    obtain ⟨h1, h2⟩ := entOf_mem (es := pe) (v := e.v) (List.mem_map.mpr ⟨e, he, rfl⟩)
    exact ent_same nd (hm _ h1) (hm _ he) h2
  have hpl := P.len
  apply e_cons; simp only [denS]; (try simp_arith [A.f_multiple, A.g_multiple, S_multiple, i_multiple, A.f_divisor, A.g_divisor, S_divisor, i_divisor]); repeat ((with_reducible refine And.intro ?_ ?_); omega)
  refine onG_at .lst fun gd2 hgd2 => ?_
  refine comp_pure (fun _ => true) (fun t => match t with | .int v => .int (rateE pe (entOf pe v)) | t => t) (hgd2 _ .lst) (by rw [List.length_map, sz]; omega) ?_ ?_
  · intro u hu Y N hY _
    obtain ⟨e, he, rfl⟩ := List.mem_map.mp hu
    have q0 := (P.pos e he).2.1
    obtain ⟨pb, qb⟩ := P.bt e he
    have d1 := qb.divOk q0 (by decide) (lcmE pe)
    have d2 := pb.mulOk (hlb.div (Int.le_of_lt s1) (Int.le_of_lt q0)) (by decide)
    simp only [wipeT]
    simp_arith [A.f_multiple, A.g_multiple, S_multiple, i_multiple, A.f_divisor, A.g_divisor, S_divisor, i_divisor, hx e he]
    simp only [hr]
    refine ⟨rd, _, rfl, hr, _, rfl, _, val_ent nd (hm e he), ?_⟩
    simp_arith [A.f_multiple, A.g_multiple, S_multiple, i_multiple, A.f_divisor, A.g_divisor, S_divisor, i_divisor, ratT]
    refine ⟨d1, d2, ?_⟩
    have this : Y (T.int (rateE pe (entOf pe e.v))) _ := hY rfl
    rw [hent e he] at this
    exact this
  rw [List.filter_eq_self.mpr (fun _ _ => rfl), List.map_map]
  have en : pe.map ((fun t : T => match t with | .int v => T.int (rateE pe (entOf pe v)) | t => t) ∘ fun e => T.int e.v) = (wholeL pe).map T.int := by
    unfold wholeL
    rw [List.map_map]
    refine List.map_congr_left fun e he => ?_
    show T.int (rateE pe (entOf pe e.v)) = T.int (rateE pe e)
    rw [hent e he]
  rw [en]
  simp only [newL]
  have hwp : ∀ x ∈ wholeL pe, 0 < x := fun x hx => by
    obtain ⟨e, he, rfl⟩ := List.mem_map.mp hx
    exact P.rate_pos he
  have hwl : (wholeL pe).length ≤ 40 := by
    unfold wholeL
    rw [List.length_map]
    exact hpl
  have hg1 := P.gcd
  unfold gcdF at hg1
  generalize wholeL pe = ws at *
  apply e_cons; simp only [denS]; (try simp_arith [A.f_multiple, A.g_multiple, S_multiple, i_multiple, A.f_divisor, A.g_divisor, S_divisor, i_divisor]); repeat ((with_reducible refine And.intro ?_ ?_); omega)
  apply e_cons; simp only [denS]; (try simp_arith [A.f_multiple, A.g_multiple, S_multiple, i_multiple, A.f_divisor, A.g_divisor, S_divisor, i_divisor]); repeat ((with_reducible refine And.intro ?_ ?_); omega)
  refine onG_at .lst fun gd3 hgd3 => ?_
  refine for_map (fun k ρ μ2 => (∃ o6, ρ = [some (.own rd), some (.lst (pe.map fun e => T.int e.v)), some (.int (lcmE pe)), o3, some (.lst (ws.map T.int)), some (.int ((ws.take k).foldl (fun a b => (Int.gcd a b : Int)) 0)), o6]) ∧ μ' = μ2) ⟨⟨_, rfl⟩, rfl⟩ ?_ ?_
  case refine_2 =>
    rintro k x ρ μ2 hk ⟨⟨o6, rfl⟩, rfl⟩
    refine ⟨hgd3 _ .lst, ?_⟩
    have x0 := hwp x (List.mem_of_getElem? hk)
    have n0 := gcdF_nn (ws.take k) 0 (by decide)
    have et : (ws.take (k + 1)).foldl (fun a b => (Int.gcd a b : Int)) 0 = (Int.gcd ((ws.take k).foldl (fun a b => (Int.gcd a b : Int)) 0) x : Int) := by
      rw [List.take_add_one, hk, List.foldl_append]
      rfl
    simp_arith [A.f_multiple, A.g_multiple, S_multiple, i_multiple, A.f_divisor, A.g_divisor, S_divisor, i_divisor]
    apply e_cons; simp only [denS]; (try simp_arith [A.f_multiple, A.g_multiple, S_multiple, i_multiple, A.f_divisor, A.g_divisor, S_divisor, i_divisor]); repeat ((with_reducible refine And.intro ?_ ?_); omega)
    refine ⟨_, _, .refl _ _, ⟨_, by rw [et]⟩, rfl⟩
  rintro ρ μ2 ⟨⟨o6, rfl⟩, rfl⟩
  refine ⟨hgd3 _ .lst, ?_⟩
  rw [List.take_length, hg1]
  apply e_cons; simp only [denS]; (try simp_arith [A.f_multiple, A.g_multiple, S_multiple, i_multiple, A.f_divisor, A.g_divisor, S_divisor, i_divisor]); repeat ((with_reducible refine And.intro ?_ ?_); omega)
  refine onG_at .lst fun gd4 hgd4 => ?_
  refine comp_pure (fun _ => true) (fun t => t) (hgd4 _ .lst) (by rw [List.length_map, sz]; omega) ?_ ?_
  · intro u hu Y N hY _
    obtain ⟨x, hx, rfl⟩ := List.mem_map.mp hu
    simp only [wipeT]
    simp_arith [A.f_multiple, A.g_multiple, S_multiple, i_multiple, A.f_divisor, A.g_divisor, S_divisor, i_divisor, Int.ediv_one]
    exact hY rfl
  rw [List.filter_eq_self.mpr (fun _ _ => rfl), List.map_id']
  intro p hq
  exact fin_retL hR hq
def S_rates_of : TSp := fun ts μ F R => ∃ h l1 l2 ns ls, ts = [.own h] ∧ HallAt μ h l1 l2 ns ls ∧ Inr (ends ls) ns.length ∧ ns.length ≤ 31 ∧ PosL ls ∧ (∀ l ∈ ls, Bt 128 (Ln.gi l) ∧ Bt 128 l.ta) ∧ ls.length < 1000 ∧
  (∀ rs, Bal ls ns.length rs → (∀ x ∈ rs, Bt 184502 x) → ratR rs μ R) ∧ (∀ ring : List Pace, OddRing ls ring → ring.length ≤ 100 → R (.tup [.non, .lst (ring.map paceT)]) μ)
structure A_rates_of (G : Tab) (Γ : Nat → TSp) : Prop where
  f_Spread_init : G.fn n_Spread_init = some i_Spread_init
  g_Spread_init : Γ n_Spread_init = S_Spread_init
  c_Spread : G.cl 6 = some ⟨"Spread", n_Spread_init⟩
  f_Hall_belts : G.fn n_Hall_belts = some i_Hall_belts
  g_Hall_belts : Γ n_Hall_belts = S_Hall_belts
  f_pieces_of : G.fn n_pieces_of = some i_pieces_of
  g_pieces_of : Γ n_pieces_of = S_pieces_of
  f_Spread_walk_from : G.fn n_Spread_walk_from = some i_Spread_walk_from
  g_Spread_walk_from : Γ n_Spread_walk_from = S_Spread_walk_from
  f_Spread_odd_belt : G.fn n_Spread_odd_belt = some i_Spread_odd_belt
  g_Spread_odd_belt : Γ n_Spread_odd_belt = S_Spread_odd_belt
  f_Spread_ring_by : G.fn n_Spread_ring_by = some i_Spread_ring_by
  g_Spread_ring_by : Γ n_Spread_ring_by = S_Spread_ring_by
  f_Hall_names : G.fn n_Hall_names = some i_Hall_names
  g_Hall_names : Γ n_Hall_names = S_Hall_names
  f_whole_rates : G.fn n_whole_rates = some i_whole_rates
  g_whole_rates : Γ n_whole_rates = S_whole_rates
abbrev B_rates_of (G : Tab) (Γ : Nat → TSp) : Prop := ∀ ts μ F R, S_rates_of ts μ F R → denSs G Γ c_rates_of (bodyD R F) (startT N_rates_of.length ts) μ
theorem body_rates_of {G : Tab} {Γ : Nat → TSp} (A : A_rates_of G Γ) : B_rates_of G Γ := by
  rintro ts μ F R ⟨h, l1, l2, ns, ls, rfl, H, hi, hn, hp, hz, hll, hA, hO⟩
  unfold c_rates_of
  simp only [Rh.startT, List.length_cons, List.length_nil, List.map_cons, List.map_nil, List.replicate, List.cons_append, List.nil_append, Nat.reduceAdd, Nat.reduceSub, N_rates_of]
  apply e_cons; simp only [denS]; (try simp_arith [A.f_Spread_init, A.g_Spread_init, S_Spread_init, i_Spread_init, A.c_Spread, A.f_Hall_belts, A.g_Hall_belts, S_Hall_belts, i_Hall_belts, A.f_pieces_of, A.g_pieces_of, S_pieces_of, i_pieces_of, A.f_Spread_walk_from, A.g_Spread_walk_from, S_Spread_walk_from, i_Spread_walk_from, A.f_Spread_odd_belt, A.g_Spread_odd_belt, S_Spread_odd_belt, i_Spread_odd_belt, A.f_Spread_ring_by, A.g_Spread_ring_by, S_Spread_ring_by, i_Spread_ring_by, A.f_Hall_names, A.g_Hall_names, S_Hall_names, i_Hall_names, A.f_whole_rates, A.g_whole_rates, S_whole_rates, i_whole_rates, H.o]); repeat ((with_reducible refine And.intro ?_ ?_); omega)
  refine ⟨l1, l2, ns, ls, H, .inr ?_⟩
  simp_arith []
  intro p q0 a1 a2 q1 q2 n12'
  have n12 : a1 ≠ a2 := n12'
  have np1 : a1 ≠ p := fun e => by
    rw [e, set_self] at q1
    cases q1
  have np2 : a2 ≠ p := fun e => by
    rw [e, set_self] at q2
    cases q2
  rw [set_ne np1] at q1
  rw [set_ne np2] at q2
  have sb1 : Rh.Sub μ ((((μ.set p (.obj 6 [])).set a1 (.dict [])).set a2 (.dict [])).set p (.obj 6 [.lst (ls.map Ln.tr), .own a1, .own a2])) := Lw.Sub.put' (Lw.Sub.put' (Lw.Sub.put' (Lw.Sub.put' (Rh.Sub.refl _) q0) q1) q2) q0
  have S1 : SpAt ((((μ.set p (.obj 6 [])).set a1 (.dict [])).set a2 (.dict [])).set p (.obj 6 [.lst (ls.map Ln.tr), .own a1, .own a2])) p a1 a2 ls [] := ⟨set_self, by rw [set_ne np1, set_ne n12, set_self]; rfl, by rw [set_ne np2, set_self]; rfl, n12⟩
  generalize ((((μ.set p (.obj 6 [])).set a1 (.dict [])).set a2 (.dict [])).set p (.obj 6 [.lst (ls.map Ln.tr), .own a1, .own a2])) = μ1 at sb1 S1 ⊢
  have H1 := HallAt.sub H sb1
  apply e_cons; simp only [denS]; (try simp_arith [A.f_Spread_init, A.g_Spread_init, S_Spread_init, i_Spread_init, A.c_Spread, A.f_Hall_belts, A.g_Hall_belts, S_Hall_belts, i_Hall_belts, A.f_pieces_of, A.g_pieces_of, S_pieces_of, i_pieces_of, A.f_Spread_walk_from, A.g_Spread_walk_from, S_Spread_walk_from, i_Spread_walk_from, A.f_Spread_odd_belt, A.g_Spread_odd_belt, S_Spread_odd_belt, i_Spread_odd_belt, A.f_Spread_ring_by, A.g_Spread_ring_by, S_Spread_ring_by, i_Spread_ring_by, A.f_Hall_names, A.g_Hall_names, S_Hall_names, i_Hall_names, A.f_whole_rates, A.g_whole_rates, S_whole_rates, i_whole_rates]); repeat ((with_reducible refine And.intro ?_ ?_); omega)
  refine ⟨l1, l2, ns, ls, H1, hi, by omega, .inr ?_⟩
  generalize hnn : ns.length = n at *
  apply e_cons; simp only [denS]; (try simp_arith [A.f_Spread_init, A.g_Spread_init, S_Spread_init, i_Spread_init, A.c_Spread, A.f_Hall_belts, A.g_Hall_belts, S_Hall_belts, i_Hall_belts, A.f_pieces_of, A.g_pieces_of, S_pieces_of, i_pieces_of, A.f_Spread_walk_from, A.g_Spread_walk_from, S_Spread_walk_from, i_Spread_walk_from, A.f_Spread_odd_belt, A.g_Spread_odd_belt, S_Spread_odd_belt, i_Spread_odd_belt, A.f_Spread_ring_by, A.g_Spread_ring_by, S_Spread_ring_by, i_Spread_ring_by, A.f_Hall_names, A.g_Hall_names, S_Hall_names, i_Hall_names, A.f_whole_rates, A.g_whole_rates, S_whole_rates, i_whole_rates]); repeat ((with_reducible refine And.intro ?_ ?_); omega)
  refine onG_at .lst fun gd hgd => ?_
  refine for_map (fun k ρ μ' => ∃ fs, (∃ o3, ρ = [some (.own h), some (.own p), some (lsT (piecesOf (ends ls) n)), o3, none, none, none, none, none]) ∧ μ' = (μ1.set a1 (.dict (entD ratT fs))).set a2 (.dict (entD wayT fs)) ∧ TI ls n fs ∧ ∀ v, v ∈ keysE fs ↔ ∃ a ∈ (firsts (ends ls) n).take k, Con (ends ls) a v) ⟨[], ⟨_, rfl⟩, ?_, TI.nil, fun v => ⟨fun z => by simp [keysE] at z, fun ⟨a, z, _⟩ => by simp at z⟩⟩ ?_ ?_
  · rw [set_same (by rw [set_ne n12.symm]; exact S1.w), set_same S1.r]
  case refine_3 =>
    rintro k x ρ μ' hk ⟨fs, ⟨o3, rfl⟩, rfl, ti, hks⟩
    refine ⟨hgd _ .lst, ?_⟩
    unfold piecesOf at hk
    rw [List.getElem?_map, Option.map_eq_some_iff] at hk
    obtain ⟨a, ha, rfl⟩ := hk
    obtain ⟨⟨a0, a1'⟩, hf⟩ := firsts_mem.mp (List.mem_of_getElem? ha)
    have h0 := at_map (f := T.int) (show (0 : Int) ≤ 0 by decide) (compL_head hi a0 a1' hf)
    have S2 := S1.upd (fs := fs)
    have hti : (firsts (ends ls) n).take (k + 1) = (firsts (ends ls) n).take k ++ [a] := by
      rw [List.take_add_one, ha]
      rfl
    have hnew : ∀ v ∈ keysE fs, ¬ Con (ends ls) a v := fun v hv hc => by
      obtain ⟨b, hb, hbc⟩ := (hks v).mp hv
      have hbf := (firsts_mem.mp (List.mem_of_mem_take hb)).2
      have e := fst_eq hbf hf (hbc.trans hc.symm)
      subst e
      exact nodup_at firsts_nd ha hb
    simp_arith [A.f_Spread_init, A.g_Spread_init, S_Spread_init, i_Spread_init, A.c_Spread, A.f_Hall_belts, A.g_Hall_belts, S_Hall_belts, i_Hall_belts, A.f_pieces_of, A.g_pieces_of, S_pieces_of, i_pieces_of, A.f_Spread_walk_from, A.g_Spread_walk_from, S_Spread_walk_from, i_Spread_walk_from, A.f_Spread_odd_belt, A.g_Spread_odd_belt, S_Spread_odd_belt, i_Spread_odd_belt, A.f_Spread_ring_by, A.g_Spread_ring_by, S_Spread_ring_by, i_Spread_ring_by, A.f_Hall_names, A.g_Hall_names, S_Hall_names, i_Hall_names, A.f_whole_rates, A.g_whole_rates, S_whole_rates, i_whole_rates]
    rw [at_0] at h0
    apply e_cons; simp only [denS]; (try simp_arith [A.f_Spread_init, A.g_Spread_init, S_Spread_init, i_Spread_init, A.c_Spread, A.f_Hall_belts, A.g_Hall_belts, S_Hall_belts, i_Hall_belts, A.f_pieces_of, A.g_pieces_of, S_pieces_of, i_pieces_of, A.f_Spread_walk_from, A.g_Spread_walk_from, S_Spread_walk_from, i_Spread_walk_from, A.f_Spread_odd_belt, A.g_Spread_odd_belt, S_Spread_odd_belt, i_Spread_odd_belt, A.f_Spread_ring_by, A.g_Spread_ring_by, S_Spread_ring_by, i_Spread_ring_by, A.f_Hall_names, A.g_Hall_names, S_Hall_names, i_Hall_names, A.f_whole_rates, A.g_whole_rates, S_whole_rates, i_whole_rates, S2.o, h0]); repeat ((with_reducible refine And.intro ?_ ?_); omega)
    refine ⟨a1, a2, ls, fs, S2, n, ti, hp, hz, hi, hn, a0, a1', hf, hnew, fun gs W => ?_⟩
    refine ⟨_, _, .refl _ _, ⟨_, rfl⟩, gs, ?_, W.ti, fun v => ?_⟩
    · funext y
      unfold Sto.set
      by_cases h1 : y = a2
      · simp [h1]
      · by_cases h2 : y = a1
        · simp [h1, h2]
        · simp [h1, h2]
    · rw [W.keys, hks, hti]
      constructor
      · rintro (⟨b, hb, hc⟩ | hc)
        · exact ⟨b, List.mem_append.mpr (.inl hb), hc⟩
        · exact ⟨a, List.mem_append.mpr (.inr (List.mem_singleton.mpr rfl)), hc⟩
      · rintro ⟨b, hb, hc⟩
        rcases List.mem_append.mp hb with hb | hb
        · exact .inl ⟨b, hb, hc⟩
        · cases List.mem_singleton.mp hb
          exact .inr hc
  rintro ρ μ' ⟨fs, ⟨o3, rfl⟩, rfl, ti, hks⟩
  refine ⟨hgd _ .lst, ?_⟩
  have hpl : (piecesOf (ends ls) n).length = (firsts (ends ls) n).length := List.length_map _
  rw [hpl, List.take_length] at hks
  have fl : Full ls n fs := ⟨ti, hp, hz, hi, hn, fun v h0 h1 => by
    obtain ⟨m, c1, c2⟩ := fst_ex hi v.toNat v h0 h1 (by omega)
    have := c1.inr hi ⟨h0, h1⟩
    exact (hks v).mpr ⟨m, firsts_mem.mpr ⟨this, c2⟩, c1.symm⟩⟩
  have S2 := S1.upd (fs := fs)
  have sb2 : Rh.Sub μ ((μ1.set a1 (.dict (entD ratT fs))).set a2 (.dict (entD wayT fs))) := Lw.Sub.put' (Lw.Sub.put' sb1 q1) q2
  generalize ((μ1.set a1 (.dict (entD ratT fs))).set a2 (.dict (entD wayT fs))) = μ2 at S2 sb2 ⊢
  have H2 := HallAt.sub H sb2
  apply e_cons; simp only [denS]; (try simp_arith [A.f_Spread_init, A.g_Spread_init, S_Spread_init, i_Spread_init, A.c_Spread, A.f_Hall_belts, A.g_Hall_belts, S_Hall_belts, i_Hall_belts, A.f_pieces_of, A.g_pieces_of, S_pieces_of, i_pieces_of, A.f_Spread_walk_from, A.g_Spread_walk_from, S_Spread_walk_from, i_Spread_walk_from, A.f_Spread_odd_belt, A.g_Spread_odd_belt, S_Spread_odd_belt, i_Spread_odd_belt, A.f_Spread_ring_by, A.g_Spread_ring_by, S_Spread_ring_by, i_Spread_ring_by, A.f_Hall_names, A.g_Hall_names, S_Hall_names, i_Hall_names, A.f_whole_rates, A.g_whole_rates, S_whole_rates, i_whole_rates, S2.o]); repeat ((with_reducible refine And.intro ?_ ?_); omega)
  refine ⟨a1, a2, ls, fs, S2, n, fl, fun hall => ?_, fun i l el hna => ?_⟩
  case refine_2 =>
    apply e_cons; apply e_ife; simp_arith [A.f_Spread_init, A.g_Spread_init, S_Spread_init, i_Spread_init, A.c_Spread, A.f_Hall_belts, A.g_Hall_belts, S_Hall_belts, i_Hall_belts, A.f_pieces_of, A.g_pieces_of, S_pieces_of, i_pieces_of, A.f_Spread_walk_from, A.g_Spread_walk_from, S_Spread_walk_from, i_Spread_walk_from, A.f_Spread_odd_belt, A.g_Spread_odd_belt, S_Spread_odd_belt, i_Spread_odd_belt, A.f_Spread_ring_by, A.g_Spread_ring_by, S_Spread_ring_by, i_Spread_ring_by, A.f_Hall_names, A.g_Hall_names, S_Hall_names, i_Hall_names, A.f_whole_rates, A.g_whole_rates, S_whole_rates, i_whole_rates]; repeat ((with_reducible refine And.intro ?_ ?_); omega)
    apply e_cons; simp only [denS]; (try simp_arith [A.f_Spread_init, A.g_Spread_init, S_Spread_init, i_Spread_init, A.c_Spread, A.f_Hall_belts, A.g_Hall_belts, S_Hall_belts, i_Hall_belts, A.f_pieces_of, A.g_pieces_of, S_pieces_of, i_pieces_of, A.f_Spread_walk_from, A.g_Spread_walk_from, S_Spread_walk_from, i_Spread_walk_from, A.f_Spread_odd_belt, A.g_Spread_odd_belt, S_Spread_odd_belt, i_Spread_odd_belt, A.f_Spread_ring_by, A.g_Spread_ring_by, S_Spread_ring_by, i_Spread_ring_by, A.f_Hall_names, A.g_Hall_names, S_Hall_names, i_Hall_names, A.f_whole_rates, A.g_whole_rates, S_whole_rates, i_whole_rates, S2.o]); repeat ((with_reducible refine And.intro ?_ ?_); omega)
    refine ⟨a1, a2, ls, fs, n, i, rfl, S2, fl, l, el, hna, hll, fun ring O hr => .inr ?_⟩
    exact fin_sub μ sb2 (hO ring O hr)
  apply e_cons; apply e_ife; simp_arith [A.f_Spread_init, A.g_Spread_init, S_Spread_init, i_Spread_init, A.c_Spread, A.f_Hall_belts, A.g_Hall_belts, S_Hall_belts, i_Hall_belts, A.f_pieces_of, A.g_pieces_of, S_pieces_of, i_pieces_of, A.f_Spread_walk_from, A.g_Spread_walk_from, S_Spread_walk_from, i_Spread_walk_from, A.f_Spread_odd_belt, A.g_Spread_odd_belt, S_Spread_odd_belt, i_Spread_odd_belt, A.f_Spread_ring_by, A.g_Spread_ring_by, S_Spread_ring_by, i_Spread_ring_by, A.f_Hall_names, A.g_Hall_names, S_Hall_names, i_Hall_names, A.f_whole_rates, A.g_whole_rates, S_whole_rates, i_whole_rates]; repeat ((with_reducible refine And.intro ?_ ?_); omega)
  rw [if_neg (by decide)]
  apply e_cons; simp only [denS]; (try simp_arith [A.f_Spread_init, A.g_Spread_init, S_Spread_init, i_Spread_init, A.c_Spread, A.f_Hall_belts, A.g_Hall_belts, S_Hall_belts, i_Hall_belts, A.f_pieces_of, A.g_pieces_of, S_pieces_of, i_pieces_of, A.f_Spread_walk_from, A.g_Spread_walk_from, S_Spread_walk_from, i_Spread_walk_from, A.f_Spread_odd_belt, A.g_Spread_odd_belt, S_Spread_odd_belt, i_Spread_odd_belt, A.f_Spread_ring_by, A.g_Spread_ring_by, S_Spread_ring_by, i_Spread_ring_by, A.f_Hall_names, A.g_Hall_names, S_Hall_names, i_Hall_names, A.f_whole_rates, A.g_whole_rates, S_whole_rates, i_whole_rates, H2.o]); repeat ((with_reducible refine And.intro ?_ ?_); omega)
  refine ⟨l1, l2, ns, ls, H2, .inr ?_⟩
  simp_arith []
  refine onG_at .lst fun gd2 hgd2 => ?_
  refine comp_pure (fun _ => true) (fun _ => .int 1) (hgd2 _ .lst) (by rw [List.length_map, sz]; omega) ?_ ?_
  · intro u hu Y N hY _
    obtain ⟨x, hx, rfl⟩ := List.mem_map.mp hu
    simp only [wipeT]
    simp_arith [A.f_Spread_init, A.g_Spread_init, S_Spread_init, i_Spread_init, A.c_Spread, A.f_Hall_belts, A.g_Hall_belts, S_Hall_belts, i_Hall_belts, A.f_pieces_of, A.g_pieces_of, S_pieces_of, i_pieces_of, A.f_Spread_walk_from, A.g_Spread_walk_from, S_Spread_walk_from, i_Spread_walk_from, A.f_Spread_odd_belt, A.g_Spread_odd_belt, S_Spread_odd_belt, i_Spread_odd_belt, A.f_Spread_ring_by, A.g_Spread_ring_by, S_Spread_ring_by, i_Spread_ring_by, A.f_Hall_names, A.g_Hall_names, S_Hall_names, i_Hall_names, A.f_whole_rates, A.g_whole_rates, S_whole_rates, i_whole_rates]
    exact hY rfl
  rw [List.filter_eq_self.mpr (fun _ _ => rfl), List.map_map]
  have eones : ns.map ((fun _ => T.int 1) ∘ T.str) = (ns.map fun _ => (1 : Int)).map T.int := by
    rw [List.map_map]
    rfl
  rw [eones]
  have hol : (ns.map fun _ => (1 : Int)).length = n := by rw [List.length_map]; exact hnn
  generalize (ns.map fun _ => (1 : Int)) = ones at hol ⊢
  intro p5 hp5
  have hp5' := Lw.Sub.none' sb2 hp5
  have n5a : a1 ≠ p5 := nofr S2.r hp5
  have n5p : p ≠ p5 := nofr S2.o hp5
  apply e_cons; simp only [denS]; (try simp_arith [A.f_Spread_init, A.g_Spread_init, S_Spread_init, i_Spread_init, A.c_Spread, A.f_Hall_belts, A.g_Hall_belts, S_Hall_belts, i_Hall_belts, A.f_pieces_of, A.g_pieces_of, S_pieces_of, i_pieces_of, A.f_Spread_walk_from, A.g_Spread_walk_from, S_Spread_walk_from, i_Spread_walk_from, A.f_Spread_odd_belt, A.g_Spread_odd_belt, S_Spread_odd_belt, i_Spread_odd_belt, A.f_Spread_ring_by, A.g_Spread_ring_by, S_Spread_ring_by, i_Spread_ring_by, A.f_Hall_names, A.g_Hall_names, S_Hall_names, i_Hall_names, A.f_whole_rates, A.g_whole_rates, S_whole_rates, i_whole_rates]); repeat ((with_reducible refine And.intro ?_ ?_); omega)
  refine onG_at .lst fun gd3 hgd3 => ?_
  have hfx : ∀ a ∈ firsts (ends ls) n, (0 ≤ a ∧ a < (n : Int)) ∧ Fst (ends ls) a := fun a h => firsts_mem.mp h
  have hkc : ∀ a : Int, 0 ≤ a ∧ a < n → ∀ v, Con (ends ls) a v → v ∈ keysE fs := fun a ha v hv => by
    have := hv.inr hi ha
    exact fl.all v this.1 this.2
  refine for_map (fun k ρ μ' => ∃ xs : List Int, (∃ o3 o7 o8, ρ = [some (.own h), some (.own p), some (lsT (piecesOf (ends ls) n)), o3, some .non, some (.own p5), none, o7, o8]) ∧ μ' = μ2.set p5 (.lst (xs.map T.int)) ∧ xs.length = n ∧ ∀ a ∈ (firsts (ends ls) n).take k, ∀ e ∈ peOf ls n fs a, cnt xs e.v = rateE (peOf ls n fs a) e) ⟨ones, ⟨_, _, _, rfl⟩, rfl, hol, fun a ha => by simp at ha⟩ ?_ ?_
  · rintro ρ μ' ⟨xs, ⟨o3, o7, o8, rfl⟩, rfl, hxl, hx⟩
    refine ⟨hgd3 _ .lst, ?_⟩
    rw [hpl, List.take_length] at hx
    have B : Bal ls n xs := fl.ti.bal hn hi hp fl.all hall hxl fun a h0 h1 h2 e he => hx a (firsts_mem.mpr ⟨⟨h0, h1⟩, h2⟩) e he
    apply e_cons; simp only [denS]; (try simp_arith [A.f_Spread_init, A.g_Spread_init, S_Spread_init, i_Spread_init, A.c_Spread, A.f_Hall_belts, A.g_Hall_belts, S_Hall_belts, i_Hall_belts, A.f_pieces_of, A.g_pieces_of, S_pieces_of, i_pieces_of, A.f_Spread_walk_from, A.g_Spread_walk_from, S_Spread_walk_from, i_Spread_walk_from, A.f_Spread_odd_belt, A.g_Spread_odd_belt, S_Spread_odd_belt, i_Spread_odd_belt, A.f_Spread_ring_by, A.g_Spread_ring_by, S_Spread_ring_by, i_Spread_ring_by, A.f_Hall_names, A.g_Hall_names, S_Hall_names, i_Hall_names, A.f_whole_rates, A.g_whole_rates, S_whole_rates, i_whole_rates]); repeat ((with_reducible refine And.intro ?_ ?_); omega)
    have hbx : ∀ x ∈ xs, Bt 184502 x := fun x hxm => by
      obtain ⟨i, hi', rfl⟩ := List.mem_iff_getElem.mp hxm
      have i1 : (i : Int) < n := by omega
      obtain ⟨m, c1, c2⟩ := fst_ex hi i (i : Int) (by omega) i1 (by omega)
      have mr := c1.inr hi ⟨by omega, i1⟩
      obtain ⟨e, he, ev⟩ := List.mem_map.mp (fl.all (i : Int) (by omega) i1)
      have hpe := (peOf_mem (f := e) hi mr (hkc m mr) fl.ti.nd).mpr ⟨he, by rw [ev]; exact c1.symm⟩
      have P := fl.ti.pe hn hi mr (hkc m mr)
      have h1 := hx m (firsts_mem.mpr ⟨mr, c2⟩) e hpe
      obtain ⟨s1, _, _⟩ := P.spec
      have q0 := (P.pos e hpe).2.1
      obtain ⟨pb, qb⟩ := P.bt e hpe
      have h2 := (pb.mul (P.lcm_bt.div (Int.le_of_lt s1) (Int.le_of_lt q0))).mono (show 4500 + 180001 ≤ 184502 by decide)
      rw [show e.p * (lcmE (peOf ls n fs m) / e.q) = rateE (peOf ls n fs m) e from rfl, ← h1, ev] at h2
      unfold Rh.cnt at h2
      rw [Int.toNat_natCast, List.getElem?_eq_getElem hi'] at h2
      exact h2
    refine fin_ratR (hA xs B hbx) hp5' set_self (Lw.Sub.both sb2)
  rintro k x ρ μ' hk ⟨xs, ⟨o3, o7, o8, rfl⟩, rfl, hxl, hx⟩
  refine ⟨hgd3 _ .lst, ?_⟩
  unfold piecesOf at hk
  rw [List.getElem?_map, Option.map_eq_some_iff] at hk
  obtain ⟨a, ha, rfl⟩ := hk
  obtain ⟨har, haf⟩ := hfx a (List.mem_of_getElem? ha)
  have hek := peOf_keys hi har (hkc a har)
  have hem := fun f => peOf_mem (f := f) hi har (hkc a har) fl.ti.nd
  have hPE := fl.ti.pe hn hi har (hkc a har)
  have gp : (μ2.set p5 (.lst (xs.map T.int))) p = some (.obj 6 [.lst (ls.map Ln.tr), .own a1, .own a2]) := by rw [set_ne n5p]; exact S2.o
  have ga : (μ2.set p5 (.lst (xs.map T.int))) a1 = some (.dict (entD ratT fs)) := by rw [set_ne n5a]; exact S2.r
  rw [← hek]
  have hti : (firsts (ends ls) n).take (k + 1) = (firsts (ends ls) n).take k ++ [a] := by
    rw [List.take_add_one, ha]
    rfl
  simp_arith [A.f_Spread_init, A.g_Spread_init, S_Spread_init, i_Spread_init, A.c_Spread, A.f_Hall_belts, A.g_Hall_belts, S_Hall_belts, i_Hall_belts, A.f_pieces_of, A.g_pieces_of, S_pieces_of, i_pieces_of, A.f_Spread_walk_from, A.g_Spread_walk_from, S_Spread_walk_from, i_Spread_walk_from, A.f_Spread_odd_belt, A.g_Spread_odd_belt, S_Spread_odd_belt, i_Spread_odd_belt, A.f_Spread_ring_by, A.g_Spread_ring_by, S_Spread_ring_by, i_Spread_ring_by, A.f_Hall_names, A.g_Hall_names, S_Hall_names, i_Hall_names, A.f_whole_rates, A.g_whole_rates, S_whole_rates, i_whole_rates]
  apply e_cons; simp only [denS]; (try simp_arith [A.f_Spread_init, A.g_Spread_init, S_Spread_init, i_Spread_init, A.c_Spread, A.f_Hall_belts, A.g_Hall_belts, S_Hall_belts, i_Hall_belts, A.f_pieces_of, A.g_pieces_of, S_pieces_of, i_pieces_of, A.f_Spread_walk_from, A.g_Spread_walk_from, S_Spread_walk_from, i_Spread_walk_from, A.f_Spread_odd_belt, A.g_Spread_odd_belt, S_Spread_odd_belt, i_Spread_odd_belt, A.f_Spread_ring_by, A.g_Spread_ring_by, S_Spread_ring_by, i_Spread_ring_by, A.f_Hall_names, A.g_Hall_names, S_Hall_names, i_Hall_names, A.f_whole_rates, A.g_whole_rates, S_whole_rates, i_whole_rates, gp]); repeat ((with_reducible refine And.intro ?_ ?_); omega)
  refine ⟨fs, peOf ls n fs a, rfl, ga, fl.ti.nd, fun e he => ((hem e).mp he).1, hPE, .inr ?_⟩
  simp_arith []
  refine onG_at .lst fun gd4 hgd4 => ?_
  refine onG_at .lst fun gd5 hgd5 => ?_
  have ez : (((keysE (peOf ls n fs a)).map T.int).zip ((wholeL (peOf ls n fs a)).map T.int)).map (fun p => T.tup [p.1, p.2]) = (peOf ls n fs a).map fun e => .tup [.int e.v, .int (rateE (peOf ls n fs a) e)] := by
    unfold wholeL keysE
    rw [List.map_map, List.map_map, List.zip_map', List.map_map]
    rfl
  rw [ez]
  refine for_map (fun j ρ μ' => ∃ xs : List Int, (∃ o7 o8, ρ = [some (.own h), some (.own p), some (lsT (piecesOf (ends ls) n)), some (.lst ((keysE (peOf ls n fs a)).map T.int)), some .non, some (.own p5), none, o7, o8]) ∧ μ' = μ2.set p5 (.lst (xs.map T.int)) ∧ xs.length = n ∧ (∀ b ∈ (firsts (ends ls) n).take k, ∀ e ∈ peOf ls n fs b, cnt xs e.v = rateE (peOf ls n fs b) e) ∧ ∀ e ∈ (peOf ls n fs a).take j, cnt xs e.v = rateE (peOf ls n fs a) e) ⟨xs, ⟨_, _, rfl⟩, rfl, hxl, hx, fun e he => by simp at he⟩ ?_ ?_
  · rintro ρ μ' ⟨xs, ⟨o7, o8, rfl⟩, rfl, hxl, hx, hx2⟩
    refine ⟨⟨hgd4 _ .lst, hgd5 _ .lst⟩, ?_⟩
    rw [List.take_length] at hx2
    refine ⟨_, _, .refl _ _, ⟨_, _, _, rfl⟩, xs, rfl, hxl, fun b hb e he => ?_⟩
    rw [hti] at hb
    rcases List.mem_append.mp hb with hb | hb
    · exact hx b hb e he
    · cases List.mem_singleton.mp hb
      exact hx2 e he
  rintro j e ρ μ' hj ⟨xs, ⟨o7, o8, rfl⟩, rfl, hxl, hx, hx2⟩
  refine ⟨⟨hgd4 _ .lst, hgd5 _ .lst⟩, ?_⟩
  have hme := List.mem_of_getElem? hj
  obtain ⟨he1, he2⟩ := (hem e).mp hme
  obtain ⟨v0, v1⟩ := fl.ti.bd e he1
  simp_arith [A.f_Spread_init, A.g_Spread_init, S_Spread_init, i_Spread_init, A.c_Spread, A.f_Hall_belts, A.g_Hall_belts, S_Hall_belts, i_Hall_belts, A.f_pieces_of, A.g_pieces_of, S_pieces_of, i_pieces_of, A.f_Spread_walk_from, A.g_Spread_walk_from, S_Spread_walk_from, i_Spread_walk_from, A.f_Spread_odd_belt, A.g_Spread_odd_belt, S_Spread_odd_belt, i_Spread_odd_belt, A.f_Spread_ring_by, A.g_Spread_ring_by, S_Spread_ring_by, i_Spread_ring_by, A.f_Hall_names, A.g_Hall_names, S_Hall_names, i_Hall_names, A.f_whole_rates, A.g_whole_rates, S_whole_rates, i_whole_rates]
  apply e_cons; simp only [denS]; (try simp_arith [A.f_Spread_init, A.g_Spread_init, S_Spread_init, i_Spread_init, A.c_Spread, A.f_Hall_belts, A.g_Hall_belts, S_Hall_belts, i_Hall_belts, A.f_pieces_of, A.g_pieces_of, S_pieces_of, i_pieces_of, A.f_Spread_walk_from, A.g_Spread_walk_from, S_Spread_walk_from, i_Spread_walk_from, A.f_Spread_odd_belt, A.g_Spread_odd_belt, S_Spread_odd_belt, i_Spread_odd_belt, A.f_Spread_ring_by, A.g_Spread_ring_by, S_Spread_ring_by, i_Spread_ring_by, A.f_Hall_names, A.g_Hall_names, S_Hall_names, i_Hall_names, A.f_whole_rates, A.g_whole_rates, S_whole_rates, i_whole_rates]); repeat ((with_reducible refine And.intro ?_ ?_); omega)
  refine ⟨e.v.toNat, ixN_nn v0 (by omega), _, _, .refl _ _, ⟨_, _, rfl⟩, xs.set e.v.toNat (rateE (peOf ls n fs a) e), ?_, by rw [List.length_set]; exact hxl, fun b hb f hf => ?_, fun f hf => ?_⟩
  · rw [set_set, List.map_set]
  · obtain ⟨hbr, hbf⟩ := hfx b (List.mem_of_mem_take hb)
    have hfm := (peOf_mem (f := f) hi hbr (hkc b hbr) fl.ti.nd).mp hf
    have f0 := fl.ti.bd f hfm.1
    rw [cnt_set v0 (by omega) f0.1]
    by_cases ev : e.v = f.v
    · have : e = f := ent_same fl.ti.nd he1 hfm.1 ev
      subst this
      have : b = a := fst_eq hbf haf (hfm.2.trans he2.symm)
      subst this
      rw [if_pos rfl]
    · rw [if_neg ev]
      exact hx b hb f hf
  · have hfm := (hem f).mp (by
      exact List.mem_of_mem_take hf)
    have f0 := fl.ti.bd f hfm.1
    rw [cnt_set v0 (by omega) f0.1]
    by_cases ev : e.v = f.v
    · have : e = f := ent_same fl.ti.nd he1 hfm.1 ev
      subst this
      rw [if_pos rfl]
    · rw [if_neg ev]
      rw [show (peOf ls n fs a).take (j + 1) = (peOf ls n fs a).take j ++ [e] by rw [List.take_add_one, hj]; rfl] at hf
      rcases List.mem_append.mp hf with hf | hf
      · exact hx2 f hf
      · cases List.mem_singleton.mp hf
        exact absurd rfl ev

def S_Hall_belt_at : TSp := fun ts μ F R => ∃ h l1 l2 ns ls b, ts = [.own h, .int b] ∧ HallAt μ h l1 l2 ns ls ∧ ((∃ l, 0 ≤ b ∧ ls[b.toNat]? = some l ∧ R (Ln.tr l) μ) ∨ (¬ (0 ≤ b ∧ b < ls.length) ∧ F 1 μ))
structure A_Hall_belt_at (G : Tab) (Γ : Nat → TSp) : Prop where
  triv : True
abbrev B_Hall_belt_at (G : Tab) (Γ : Nat → TSp) : Prop := ∀ ts μ F R, S_Hall_belt_at ts μ F R → denSs G Γ c_Hall_belt_at (bodyD R F) (startT N_Hall_belt_at.length ts) μ
theorem body_Hall_belt_at {G : Tab} {Γ : Nat → TSp} (A : A_Hall_belt_at G Γ) : B_Hall_belt_at G Γ := by
  rintro ts μ F R ⟨h, l1, l2, ns, ls, b, rfl, H, hR⟩
  unfold c_Hall_belt_at
  simp only [Rh.startT, List.length_cons, List.length_nil, List.map_cons, List.map_nil, List.replicate, List.cons_append, List.nil_append, Nat.reduceAdd, Nat.reduceSub, N_Hall_belt_at]
  apply e_cons; apply e_ife; simp_arith [H.o, H.b]; repeat ((with_reducible refine And.intro ?_ ?_); omega)
  rcases hR with ⟨l, h0, el, hR⟩ | ⟨hn, hR⟩
  · have h1 : b < ls.length := by
      have := (List.getElem?_eq_some_iff.mp el).1
      omega
    simp only [h0, h1, if_true, not_true_eq_false, if_false]
    apply e_cons; simp only [denS]; (try simp_arith [H.o, H.b]); repeat ((with_reducible refine And.intro ?_ ?_); omega)
    exact ⟨_, at_map h0 el, fin_id hR⟩
  · by_cases h0 : 0 ≤ b
    · have h1 : ¬ b < ls.length := fun z => hn ⟨h0, z⟩
      simp only [h0, h1, if_true, not_false_eq_true]
      apply e_cons; simp only [denS]; (try simp_arith []); repeat ((with_reducible refine And.intro ?_ ?_); omega)
      exact hR
    · simp only [h0, if_false]
      apply e_cons; simp only [denS]; (try simp_arith []); repeat ((with_reducible refine And.intro ?_ ?_); omega)
      exact hR
def S_Hall_lay : TSp := fun ts μ F R => ∃ h l1 l2 ns ls l, ts = [.own h, .int (Ln.g l), .int l.t, .int l.gi, .int l.ta, .int l.st] ∧ HallAt μ h l1 l2 ns ls ∧ ls.length < sizeLine ∧ R (.int ls.length) (μ.set l2 (.lst (ls.map Ln.tr ++ [l.tr])))
structure A_Hall_lay (G : Tab) (Γ : Nat → TSp) : Prop where
  triv : True
abbrev B_Hall_lay (G : Tab) (Γ : Nat → TSp) : Prop := ∀ ts μ F R, S_Hall_lay ts μ F R → denSs G Γ c_Hall_lay (bodyD R F) (startT N_Hall_lay.length ts) μ
theorem body_Hall_lay {G : Tab} {Γ : Nat → TSp} (A : A_Hall_lay G Γ) : B_Hall_lay G Γ := by
  rintro ts μ F R ⟨h, l1, l2, ns, ls, l, rfl, H, hl, hR⟩
  unfold c_Hall_lay
  have hl : ls.length < 16777216 := hl
  simp only [Rh.startT, List.length_cons, List.length_nil, List.map_cons, List.map_nil, List.replicate, List.cons_append, List.nil_append, Nat.reduceAdd, Nat.reduceSub, N_Hall_lay]
  apply e_cons; simp only [denS]; (try simp_arith [H.o, H.b]); repeat ((with_reducible refine And.intro ?_ ?_); omega)
  have H' : HallAt (μ.set l2 (.lst (ls.map Ln.tr ++ [T.tup [.int l.g, .int l.t, .int l.gi, .int l.ta, .int l.st]]))) h l1 l2 ns (ls ++ [l]) := H.addB l
  apply e_cons; simp only [denS]; (try simp_arith [H'.o, H'.b, Int.natCast_add, Int.add_sub_cancel]); repeat ((with_reducible refine And.intro ?_ ?_); omega)
  exact fin_id hR
def S_is_name : TSp := fun ts μ F R => ∃ t, ts = [t] ∧ (∃ n, isStr μ t = some n) ∧ (∀ s, t = .str s → s.length ≤ sizeLine) ∧ R (.bl (isNameT t)) μ
structure A_is_name (G : Tab) (Γ : Nat → TSp) : Prop where
  k_LETTERS : G.con 2 = some (("LETTERS" : Str), T.str "abcdefghijklmnopqrstuvwxyz")
abbrev B_is_name (G : Tab) (Γ : Nat → TSp) : Prop := ∀ ts μ F R, S_is_name ts μ F R → denSs G Γ c_is_name (bodyD R F) (startT N_is_name.length ts) μ
theorem body_is_name {G : Tab} {Γ : Nat → TSp} (A : A_is_name G Γ) : B_is_name G Γ := by
  rintro ts μ F R ⟨t, rfl, ⟨n, hn⟩, hs, hR⟩
  unfold c_is_name
  simp only [Rh.startT, List.length_cons, List.length_nil, List.map_cons, List.map_nil, List.replicate, List.cons_append, List.nil_append, Nat.reduceAdd, Nat.reduceSub, N_is_name]
  cases t with
  | own p =>
    have hc : (∃ ts, μ p = some (.lst ts)) ∨ (∃ d, μ p = some (.dict d)) := by
      rw [is_own] at hn
      revert hn
      split <;> intro hn
      · exact .inl ⟨_, by assumption⟩
      · exact .inr ⟨_, by assumption⟩
      · cases hn
    rcases hc with ⟨us, e⟩ | ⟨us, e⟩
    · apply e_cons; apply e_ife; simp_arith [A.k_LETTERS, e]; repeat ((with_reducible refine And.intro ?_ ?_); omega)
      apply e_cons; simp only [denS]; (try simp_arith [A.k_LETTERS]); repeat ((with_reducible refine And.intro ?_ ?_); omega)
      exact fin_id hR
    · apply e_cons; apply e_ife; simp_arith [A.k_LETTERS, e]; repeat ((with_reducible refine And.intro ?_ ?_); omega)
      apply e_cons; simp only [denS]; (try simp_arith [A.k_LETTERS]); repeat ((with_reducible refine And.intro ?_ ?_); omega)
      exact fin_id hR
  | str s =>
    apply e_cons; apply e_ife; simp_arith [A.k_LETTERS]; repeat ((with_reducible refine And.intro ?_ ?_); omega)
    have hz : s.length ≤ 16777216 := hs s rfl
    refine ⟨hz, ?_⟩
    have hw : isNameT (.str s) = (decide (1 ≤ s.length) && decide (s.length ≤ 8) && s.cps.toList.all fun c => decide (c ∈ abc.cps.toList)) := rfl
    by_cases h1 : s.length < 1
    · have : isNameT (.str s) = false := by
        rw [hw, decide_eq_false (by omega : ¬ 1 ≤ s.length)]
        rfl
      rw [this] at hR
      simp only [show ((s.length : Nat) : Int) < 1 by omega, not_true_eq_false, if_true, if_false]
      apply e_cons; simp only [denS]; (try simp_arith [A.k_LETTERS]); repeat ((with_reducible refine And.intro ?_ ?_); omega)
      exact fin_id hR
    · simp only [show ¬ ((s.length : Nat) : Int) < 1 by omega, not_false_eq_true, if_true]
      refine ⟨hz, ?_⟩
      by_cases h8 : 8 < s.length
      · have : isNameT (.str s) = false := by
          rw [hw, decide_eq_false (by omega : ¬ s.length ≤ 8), Bool.and_false]
          rfl
        rw [this] at hR
        simp only [show (8 : Int) < (s.length : Nat) by omega, if_true]
        apply e_cons; simp only [denS]; (try simp_arith [A.k_LETTERS]); repeat ((with_reducible refine And.intro ?_ ?_); omega)
        exact fin_id hR
      · simp only [show ¬ (8 : Int) < (s.length : Nat) by omega, if_false]
        apply e_cons; simp only [denS]; (try simp_arith [A.k_LETTERS]); repeat ((with_reducible refine And.intro ?_ ?_); omega)
        refine comp_pure (fun _ => true) (fun t => match t with | .str a => .bl (strIn a abc) | t => t) ?_ ?_ ?_ ?_
        · trivial
        · show (s.cps.toList.map fun c => T.str ⟨#[c]⟩).length ≤ sizeLine
          rw [List.length_map]
          exact hs s rfl
        · intro t ht Y N hY _
          obtain ⟨c, hc, rfl⟩ := List.mem_map.mp ht
          simp_arith [A.k_LETTERS]
          simp only [wipeT]
          simp_arith [A.k_LETTERS]
          exact hY rfl
        · simp_arith [A.k_LETTERS]
          refine ⟨s.cps.toList.map fun c => decide (c ∈ abc.cps.toList), ?_, ?_⟩
          · rw [List.filter_eq_self.mpr (fun _ _ => rfl), Rh.signs, List.map_map, List.map_map]
            refine List.map_congr_left fun c _ => ?_
            show T.bl (strIn ⟨#[c]⟩ abc) = T.bl (decide (c ∈ abc.cps.toList))
            rw [strIn_sign]
          · rw [hw, decide_eq_true (by omega : 1 ≤ s.length), decide_eq_true (by omega : s.length ≤ 8)] at hR
            refine fin_id ?_
            rw [List.all_map]
            exact hR
  | scr ts => cases hn
  | _ => 
    apply e_cons; apply e_ife; simp_arith [A.k_LETTERS]; repeat ((with_reducible refine And.intro ?_ ?_); omega)
    apply e_cons; simp only [denS]; (try simp_arith [A.k_LETTERS]); repeat ((with_reducible refine And.intro ?_ ?_); omega)
    exact fin_id hR
def S_Hall_work : TSp := fun ts μ F R => ∃ h l1 l2 ns ls n, ts = [.own h, .str n] ∧ HallAt μ h l1 l2 ns ls ∧ n.length ≤ sizeLine ∧ sOk n ∧ (∀ x ∈ ns, sOk x) ∧
  if isName n = false then F 5 μ else if n ∈ ns then F 16 μ else if 30 ≤ ns.length then F 15 μ else R (.int ns.length) (μ.set l1 (.lst (ns.map T.str ++ [.str n])))
structure A_Hall_work (G : Tab) (Γ : Nat → TSp) : Prop where
  f_is_name : G.fn n_is_name = some i_is_name
  g_is_name : Γ n_is_name = S_is_name
  k_MOST_WORKS : G.con 7 = some (("MOST_WORKS" : Str), T.int 30)
abbrev B_Hall_work (G : Tab) (Γ : Nat → TSp) : Prop := ∀ ts μ F R, S_Hall_work ts μ F R → denSs G Γ c_Hall_work (bodyD R F) (startT N_Hall_work.length ts) μ
theorem body_Hall_work {G : Tab} {Γ : Nat → TSp} (A : A_Hall_work G Γ) : B_Hall_work G Γ := by
  rintro ts μ F R ⟨h, l1, l2, ns, ls, n, rfl, H, hz, hk, hks, hR⟩
  unfold c_Hall_work
  simp only [Rh.startT, List.length_cons, List.length_nil, List.map_cons, List.map_nil, List.replicate, List.cons_append, List.nil_append, Nat.reduceAdd, Nat.reduceSub, N_Hall_work]
  apply e_cons; apply e_ife; simp_arith [A.f_is_name, A.g_is_name, S_is_name, i_is_name, A.k_MOST_WORKS, isNameT]; repeat ((with_reducible refine And.intro ?_ ?_); omega)
  refine ⟨fun s e => by cases e; exact hz, ?_⟩
  by_cases hn : isName n = false
  · simp only [hn, if_true] at hR ⊢
    apply e_cons; simp only [denS]; (try simp_arith [A.f_is_name, A.g_is_name, S_is_name, i_is_name, A.k_MOST_WORKS]); repeat ((with_reducible refine And.intro ?_ ?_); omega)
    exact hR
  simp only [hn, if_false] at hR ⊢
  apply e_cons; apply e_ife; simp_arith [A.f_is_name, A.g_is_name, S_is_name, i_is_name, A.k_MOST_WORKS, H.o]; repeat ((with_reducible refine And.intro ?_ ?_); omega)
  refine in_own (xs := ns) H.w rfl (Has.of (x := n) hk) hks ?_
  simp_arith []
  by_cases hm : n ∈ ns
  · simp only [hm, if_true] at hR ⊢
    apply e_cons; simp only [denS]; (try simp_arith [A.f_is_name, A.g_is_name, S_is_name, i_is_name, A.k_MOST_WORKS]); repeat ((with_reducible refine And.intro ?_ ?_); omega)
    exact hR
  simp only [hm, if_false] at hR ⊢
  apply e_cons; apply e_ife; simp_arith [A.f_is_name, A.g_is_name, S_is_name, i_is_name, A.k_MOST_WORKS, H.o, H.w]; repeat ((with_reducible refine And.intro ?_ ?_); omega)
  by_cases hl : 30 ≤ ns.length
  · simp only [hl, show (30 : Int) ≤ (ns.length : Nat) by omega, if_true] at hR ⊢
    apply e_cons; simp only [denS]; (try simp_arith [A.f_is_name, A.g_is_name, S_is_name, i_is_name, A.k_MOST_WORKS]); repeat ((with_reducible refine And.intro ?_ ?_); omega)
    exact hR
  simp only [hl, show ¬ (30 : Int) ≤ (ns.length : Nat) by omega, if_false] at hR ⊢
  apply e_cons; simp only [denS]; (try simp_arith [A.f_is_name, A.g_is_name, S_is_name, i_is_name, A.k_MOST_WORKS, H.o, H.w]); repeat ((with_reducible refine And.intro ?_ ?_); omega)
  have H' := H.addW n
  apply e_cons; simp only [denS]; (try simp_arith [A.f_is_name, A.g_is_name, S_is_name, i_is_name, A.k_MOST_WORKS, H'.o, H'.w, Int.natCast_add, Int.add_sub_cancel]); repeat ((with_reducible refine And.intro ?_ ?_); omega)
  exact fin_id hR
def S_backed : TSp := fun ts μ F R => ∃ h l1 l2 ns ls t rm, ts = [.own h, t] ∧ HallAt μ h l1 l2 ns ls ∧ LstAt μ t (List.map T.int rm) ∧ NmL ns ∧ ls.length ≤ 1000 ∧
  (rm.length = ls.length → (∀ p ∈ ls.zip rm, Ln.st p.1 ≤ p.2) → ∀ μ' h' k1 k2, Rh.Sub μ μ' → HallAt μ' h' k1 k2 ns (ls ++ bkL ls rm) → μ h' = none → μ k1 = none → μ k2 = none → R (.own h') μ') ∧
  ((rm.length ≠ ls.length ∨ ∃ p ∈ ls.zip rm, p.2 < Ln.st p.1) → ∀ μ', Rh.Sub μ μ' → F 8 μ')
structure A_backed (G : Tab) (Γ : Nat → TSp) : Prop where
  f_Hall_belts : G.fn n_Hall_belts = some i_Hall_belts
  g_Hall_belts : Γ n_Hall_belts = S_Hall_belts
  f_Hall_init : G.fn n_Hall_init = some i_Hall_init
  g_Hall_init : Γ n_Hall_init = S_Hall_init
  c_Hall : G.cl 3 = some ⟨"Hall", n_Hall_init⟩
  f_Hall_names : G.fn n_Hall_names = some i_Hall_names
  g_Hall_names : Γ n_Hall_names = S_Hall_names
  f_Hall_work : G.fn n_Hall_work = some i_Hall_work
  g_Hall_work : Γ n_Hall_work = S_Hall_work
  f_Hall_lay : G.fn n_Hall_lay = some i_Hall_lay
  g_Hall_lay : Γ n_Hall_lay = S_Hall_lay
abbrev B_backed (G : Tab) (Γ : Nat → TSp) : Prop := ∀ ts μ F R, S_backed ts μ F R → denSs G Γ c_backed (bodyD R F) (startT N_backed.length ts) μ
theorem body_backed {G : Tab} {Γ : Nat → TSp} (A : A_backed G Γ) : B_backed G Γ := by
  rintro ts μ F R ⟨h, l1, l2, ns, ls, t, rm, rfl, H, ht, hn, hll, hR, hF⟩
  unfold c_backed
  simp only [Rh.startT, List.length_cons, List.length_nil, List.map_cons, List.map_nil, List.replicate, List.cons_append, List.nil_append, Nat.reduceAdd, Nat.reduceSub, N_backed]
  apply e_cons; simp only [denS]; (try simp_arith [A.f_Hall_belts, A.g_Hall_belts, S_Hall_belts, i_Hall_belts, A.f_Hall_init, A.g_Hall_init, S_Hall_init, i_Hall_init, A.c_Hall, A.f_Hall_names, A.g_Hall_names, S_Hall_names, i_Hall_names, A.f_Hall_work, A.g_Hall_work, S_Hall_work, i_Hall_work, A.f_Hall_lay, A.g_Hall_lay, S_Hall_lay, i_Hall_lay, H.o]); repeat ((with_reducible refine And.intro ?_ ?_); omega)
  refine ⟨l1, l2, ns, ls, H, .inr ?_⟩
  apply e_cons; apply e_ife; simp_arith [A.f_Hall_belts, A.g_Hall_belts, S_Hall_belts, i_Hall_belts, A.f_Hall_init, A.g_Hall_init, S_Hall_init, i_Hall_init, A.c_Hall, A.f_Hall_names, A.g_Hall_names, S_Hall_names, i_Hall_names, A.f_Hall_work, A.g_Hall_work, S_Hall_work, i_Hall_work, A.f_Hall_lay, A.g_Hall_lay, S_Hall_lay, i_Hall_lay, len_at ht]; repeat ((with_reducible refine And.intro ?_ ?_); omega)
  by_cases hne : rm.length = ls.length
  case neg =>
    rw [if_pos (by omega)]
    apply e_cons; simp only [denS]; (try simp_arith [A.f_Hall_belts, A.g_Hall_belts, S_Hall_belts, i_Hall_belts, A.f_Hall_init, A.g_Hall_init, S_Hall_init, i_Hall_init, A.c_Hall, A.f_Hall_names, A.g_Hall_names, S_Hall_names, i_Hall_names, A.f_Hall_work, A.g_Hall_work, S_Hall_work, i_Hall_work, A.f_Hall_lay, A.g_Hall_lay, S_Hall_lay, i_Hall_lay]); repeat ((with_reducible refine And.intro ?_ ?_); omega)
    exact hF (.inl hne) μ (fun _ _ e => e)
  rw [if_neg (by omega)]
  apply e_cons; simp only [denS]; (try simp_arith [A.f_Hall_belts, A.g_Hall_belts, S_Hall_belts, i_Hall_belts, A.f_Hall_init, A.g_Hall_init, S_Hall_init, i_Hall_init, A.c_Hall, A.f_Hall_names, A.g_Hall_names, S_Hall_names, i_Hall_names, A.f_Hall_work, A.g_Hall_work, S_Hall_work, i_Hall_work, A.f_Hall_lay, A.g_Hall_lay, S_Hall_lay, i_Hall_lay]); repeat ((with_reducible refine And.intro ?_ ?_); omega)
  intro hh e0
  intro k1 k2 e1 e2 ne
  have H2 := HallAt.init e1 e2 ne
  have n1 : k1 ≠ hh := fun e => by
    rw [e, set_self] at e1
    cases e1
  have n2 : k2 ≠ hh := fun e => by
    rw [e, set_self] at e2
    cases e2
  rw [set_ne n1] at e1
  rw [set_ne n2] at e2
  have sb : Rh.Sub μ ((((μ.set hh (.obj 3 [])).set k1 (.lst [])).set k2 (.lst [])).set hh (.obj 3 [.own k1, .own k2])) := Lw.Sub.put' (Lw.Sub.put' (Lw.Sub.put' (Rh.Sub.set_none e0) e1) e2) e0
  generalize ((((μ.set hh (.obj 3 [])).set k1 (.lst [])).set k2 (.lst [])).set hh (.obj 3 [.own k1, .own k2])) = μ1 at H2 sb ⊢
  have H1 : HallAt μ1 h l1 l2 ns ls := ⟨sb _ _ H.o, sb _ _ H.w, sb _ _ H.b, H.ne⟩
  apply e_cons; simp only [denS]; (try simp_arith [A.f_Hall_belts, A.g_Hall_belts, S_Hall_belts, i_Hall_belts, A.f_Hall_init, A.g_Hall_init, S_Hall_init, i_Hall_init, A.c_Hall, A.f_Hall_names, A.g_Hall_names, S_Hall_names, i_Hall_names, A.f_Hall_work, A.g_Hall_work, S_Hall_work, i_Hall_work, A.f_Hall_lay, A.g_Hall_lay, S_Hall_lay, i_Hall_lay, H1.o]); repeat ((with_reducible refine And.intro ?_ ?_); omega)
  refine ⟨l1, l2, ns, ls, H1, .inr ?_⟩
  refine onG_at .lst fun gd hgd => ?_
  refine for_map (fun k ρ μ' => (∃ o4, ρ = [some (.own h), some t, some (.lst (ls.map Ln.tr)), some (.own hh), o4, none, none, none, none, none, none, none]) ∧ HallAt μ' hh k1 k2 (ns.take k) [] ∧ Rh.Sub μ μ') ⟨⟨_, rfl⟩, H2, sb⟩ ?_ ?_
  case refine_2 =>
    rintro k n ρ μ' hk ⟨⟨o4, rfl⟩, H2, sb⟩
    refine ⟨hgd _ .lst, ?_⟩
    obtain ⟨a1, a2, a3, a4⟩ := hn.at_ hk
    have hk' := (List.getElem?_eq_some_iff.mp hk).1
    have hle := hn.le
    have et : ns.take (k + 1) = ns.take k ++ [n] := by
      rw [List.take_add_one, hk]
      rfl
    simp_arith [A.f_Hall_belts, A.g_Hall_belts, S_Hall_belts, i_Hall_belts, A.f_Hall_init, A.g_Hall_init, S_Hall_init, i_Hall_init, A.c_Hall, A.f_Hall_names, A.g_Hall_names, S_Hall_names, i_Hall_names, A.f_Hall_work, A.g_Hall_work, S_Hall_work, i_Hall_work, A.f_Hall_lay, A.g_Hall_lay, S_Hall_lay, i_Hall_lay]
    apply e_cons; simp only [denS]; (try simp_arith [A.f_Hall_belts, A.g_Hall_belts, S_Hall_belts, i_Hall_belts, A.f_Hall_init, A.g_Hall_init, S_Hall_init, i_Hall_init, A.c_Hall, A.f_Hall_names, A.g_Hall_names, S_Hall_names, i_Hall_names, A.f_Hall_work, A.g_Hall_work, S_Hall_work, i_Hall_work, A.f_Hall_lay, A.g_Hall_lay, S_Hall_lay, i_Hall_lay, H2.o]); repeat ((with_reducible refine And.intro ?_ ?_); omega)
    refine ⟨k1, k2, ns.take k, [], H2, a2, a3, fun x hx => hn.ok x (List.mem_of_mem_take hx), ?_⟩
    simp only [a1, a4, show ¬ 30 ≤ (ns.take k).length by rw [List.length_take]; omega, Bool.true_eq_false, if_false]
    exact ⟨_, _, .refl _ _, ⟨_, rfl⟩, by rw [et]; exact H2.addW n, Lw.Sub.put' sb e1⟩
  clear H1 H2 sb μ1
  rintro ρ μ1 ⟨⟨o4, rfl⟩, H2, sb⟩
  rw [List.take_length] at H2
  refine ⟨hgd _ .lst, ?_⟩
  apply e_cons; simp only [denS]; (try simp_arith [A.f_Hall_belts, A.g_Hall_belts, S_Hall_belts, i_Hall_belts, A.f_Hall_init, A.g_Hall_init, S_Hall_init, i_Hall_init, A.c_Hall, A.f_Hall_names, A.g_Hall_names, S_Hall_names, i_Hall_names, A.f_Hall_work, A.g_Hall_work, S_Hall_work, i_Hall_work, A.f_Hall_lay, A.g_Hall_lay, S_Hall_lay, i_Hall_lay]); repeat ((with_reducible refine And.intro ?_ ?_); omega)
  refine onG_at .lst fun gd hgd => ?_
  refine for_map (fun k ρ μ' => (∃ o5 o6 o7 o8 o9, ρ = [some (.own h), some t, some (.lst (ls.map Ln.tr)), some (.own hh), o4, o5, o6, o7, o8, o9, none, none]) ∧ HallAt μ' hh k1 k2 ns (ls.take k) ∧ Rh.Sub μ μ') ⟨⟨_, _, _, _, _, rfl⟩, H2, sb⟩ ?_ ?_
  case refine_2 =>
    rintro k l ρ μ' hk ⟨⟨o5, o6, o7, o8, o9, rfl⟩, H2, sb⟩
    refine ⟨hgd _ .lst, ?_⟩
    have hk' := (List.getElem?_eq_some_iff.mp hk).1
    have et : ls.take (k + 1) = ls.take k ++ [l] := by
      rw [List.take_add_one, hk]
      rfl
    simp_arith [A.f_Hall_belts, A.g_Hall_belts, S_Hall_belts, i_Hall_belts, A.f_Hall_init, A.g_Hall_init, S_Hall_init, i_Hall_init, A.c_Hall, A.f_Hall_names, A.g_Hall_names, S_Hall_names, i_Hall_names, A.f_Hall_work, A.g_Hall_work, S_Hall_work, i_Hall_work, A.f_Hall_lay, A.g_Hall_lay, S_Hall_lay, i_Hall_lay, Ln.tr]
    apply e_cons; simp only [denS]; (try simp_arith [A.f_Hall_belts, A.g_Hall_belts, S_Hall_belts, i_Hall_belts, A.f_Hall_init, A.g_Hall_init, S_Hall_init, i_Hall_init, A.c_Hall, A.f_Hall_names, A.g_Hall_names, S_Hall_names, i_Hall_names, A.f_Hall_work, A.g_Hall_work, S_Hall_work, i_Hall_work, A.f_Hall_lay, A.g_Hall_lay, S_Hall_lay, i_Hall_lay, H2.o]); repeat ((with_reducible refine And.intro ?_ ?_); omega)
    refine ⟨k1, k2, ns, ls.take k, l, rfl, rfl, rfl, rfl, rfl, H2, by rw [List.length_take]; omega, ?_⟩
    exact ⟨_, _, .refl _ _, ⟨_, _, _, _, _, rfl⟩, by rw [et]; exact H2.addB l, Lw.Sub.put' sb e2⟩
  clear H2 sb μ1
  rintro ρ μ1 ⟨⟨o5, o6, o7, o8, o9, rfl⟩, H2, sb⟩
  rw [List.take_length] at H2
  refine ⟨hgd _ .lst, ?_⟩
  have ht1 := Lw.LstAt.sb ht sb
  apply e_cons; simp only [denS]; (try simp_arith [A.f_Hall_belts, A.g_Hall_belts, S_Hall_belts, i_Hall_belts, A.f_Hall_init, A.g_Hall_init, S_Hall_init, i_Hall_init, A.c_Hall, A.f_Hall_names, A.g_Hall_names, S_Hall_names, i_Hall_names, A.f_Hall_work, A.g_Hall_work, S_Hall_work, i_Hall_work, A.f_Hall_lay, A.g_Hall_lay, S_Hall_lay, i_Hall_lay]); repeat ((with_reducible refine And.intro ?_ ?_); omega)
  refine onG_at .lst fun gd hgd => ?_
  refine onG_at ht1 fun gd2 hgd2 => ?_
  rw [zip_lr]
  refine for_map (fun k ρ μ' => (∃ o5 o6 o7 o8 o9 o10 o11, ρ = [some (.own h), some t, some (.lst (ls.map Ln.tr)), some (.own hh), o4, o5, o6, o7, o8, o9, o10, o11]) ∧ HallAt μ' hh k1 k2 ns (ls ++ ((ls.zip rm).take k).map bk) ∧ Rh.Sub μ μ' ∧ ∀ p ∈ (ls.zip rm).take k, Ln.st p.1 ≤ p.2) ⟨⟨_, _, _, _, _, _, _, rfl⟩, by rw [List.take_zero, List.map_nil, List.append_nil]; exact H2, sb, fun p hp => by simp at hp⟩ ?_ ?_
  · rintro ρ μ' ⟨⟨o5, o6, o7, o8, o9, o10, o11, rfl⟩, H3, sb3, h3⟩
    refine ⟨⟨hgd _ .lst, hgd2 _ (Lw.LstAt.sb ht sb3)⟩, ?_⟩
    rw [List.take_length] at H3 h3
    apply e_cons; simp only [denS]; (try simp_arith [A.f_Hall_belts, A.g_Hall_belts, S_Hall_belts, i_Hall_belts, A.f_Hall_init, A.g_Hall_init, S_Hall_init, i_Hall_init, A.c_Hall, A.f_Hall_names, A.g_Hall_names, S_Hall_names, i_Hall_names, A.f_Hall_work, A.g_Hall_work, S_Hall_work, i_Hall_work, A.f_Hall_lay, A.g_Hall_lay, S_Hall_lay, i_Hall_lay]); repeat ((with_reducible refine And.intro ?_ ?_); omega)
    exact fin_id (hR hne h3 _ _ _ _ sb3 H3 e0 e1 e2)
  rintro k ⟨l, r⟩ ρ μ' hk ⟨⟨o5, o6, o7, o8, o9, o10, o11, rfl⟩, H3, sb3, h3⟩
  refine ⟨⟨hgd _ .lst, hgd2 _ (Lw.LstAt.sb ht sb3)⟩, ?_⟩
  have hk' := (List.getElem?_eq_some_iff.mp hk).1
  have hm := List.mem_of_getElem? hk
  have hzl : (ls.zip rm).length = ls.length := by rw [List.length_zip, hne, Nat.min_self]
  have et : (ls.zip rm).take (k + 1) = (ls.zip rm).take k ++ [(l, r)] := by
    rw [List.take_add_one, hk]
    rfl
  simp_arith [A.f_Hall_belts, A.g_Hall_belts, S_Hall_belts, i_Hall_belts, A.f_Hall_init, A.g_Hall_init, S_Hall_init, i_Hall_init, A.c_Hall, A.f_Hall_names, A.g_Hall_names, S_Hall_names, i_Hall_names, A.f_Hall_work, A.g_Hall_work, S_Hall_work, i_Hall_work, A.f_Hall_lay, A.g_Hall_lay, S_Hall_lay, i_Hall_lay, Ln.tr]
  apply e_cons; simp only [denS]; (try simp_arith [A.f_Hall_belts, A.g_Hall_belts, S_Hall_belts, i_Hall_belts, A.f_Hall_init, A.g_Hall_init, S_Hall_init, i_Hall_init, A.c_Hall, A.f_Hall_names, A.g_Hall_names, S_Hall_names, i_Hall_names, A.f_Hall_work, A.g_Hall_work, S_Hall_work, i_Hall_work, A.f_Hall_lay, A.g_Hall_lay, S_Hall_lay, i_Hall_lay]); repeat ((with_reducible refine And.intro ?_ ?_); omega)
  apply e_cons; apply e_ife; simp_arith [A.f_Hall_belts, A.g_Hall_belts, S_Hall_belts, i_Hall_belts, A.f_Hall_init, A.g_Hall_init, S_Hall_init, i_Hall_init, A.c_Hall, A.f_Hall_names, A.g_Hall_names, S_Hall_names, i_Hall_names, A.f_Hall_work, A.g_Hall_work, S_Hall_work, i_Hall_work, A.f_Hall_lay, A.g_Hall_lay, S_Hall_lay, i_Hall_lay]; repeat ((with_reducible refine And.intro ?_ ?_); omega)
  by_cases hlt : r < l.st
  · simp only [hlt, if_true]
    apply e_cons; simp only [denS]; (try simp_arith [A.f_Hall_belts, A.g_Hall_belts, S_Hall_belts, i_Hall_belts, A.f_Hall_init, A.g_Hall_init, S_Hall_init, i_Hall_init, A.c_Hall, A.f_Hall_names, A.g_Hall_names, S_Hall_names, i_Hall_names, A.f_Hall_work, A.g_Hall_work, S_Hall_work, i_Hall_work, A.f_Hall_lay, A.g_Hall_lay, S_Hall_lay, i_Hall_lay]); repeat ((with_reducible refine And.intro ?_ ?_); omega)
    exact hF (.inr ⟨_, hm, hlt⟩) _ sb3
  simp only [hlt, if_false]
  apply e_cons; simp only [denS]; (try simp_arith [A.f_Hall_belts, A.g_Hall_belts, S_Hall_belts, i_Hall_belts, A.f_Hall_init, A.g_Hall_init, S_Hall_init, i_Hall_init, A.c_Hall, A.f_Hall_names, A.g_Hall_names, S_Hall_names, i_Hall_names, A.f_Hall_work, A.g_Hall_work, S_Hall_work, i_Hall_work, A.f_Hall_lay, A.g_Hall_lay, S_Hall_lay, i_Hall_lay, H3.o]); repeat ((with_reducible refine And.intro ?_ ?_); omega)
  refine ⟨k1, k2, ns, _, bk (l, r), rfl, rfl, rfl, rfl, rfl, H3, by rw [List.length_append, List.length_map, List.length_take]; omega, ?_⟩
  refine ⟨_, _, .refl _ _, ⟨_, _, _, _, _, _, _, rfl⟩, ?_, Lw.Sub.put' sb3 e2, fun p hp => ?_⟩
  · have e9 : ls ++ List.map bk ((ls.zip rm).take k ++ [(l, r)]) = (ls ++ List.map bk ((ls.zip rm).take k)) ++ [bk (l, r)] := by rw [List.map_append, List.append_assoc]; rfl
    rw [et, e9]
    exact H3.addB (bk (l, r))
  · rw [et] at hp
    rcases List.mem_append.mp hp with z | z
    · exact h3 p z
    · cases List.mem_singleton.mp z
      show l.st ≤ r
      omega
def S_Floor_init : TSp := fun ts μ F R => ∃ f h l1 l2 ns ls, ts = [.own f, .own h] ∧ μ f = some (.obj 2 []) ∧ HallAt μ h l1 l2 ns ls ∧ ls.length ≤ sizeLine ∧ R .non (μ.set f (flr ls ns.length (ls.map Ln.st)))
structure A_Floor_init (G : Tab) (Γ : Nat → TSp) : Prop where
  f_Hall_belts : G.fn n_Hall_belts = some i_Hall_belts
  g_Hall_belts : Γ n_Hall_belts = S_Hall_belts
  f_Hall_names : G.fn n_Hall_names = some i_Hall_names
  g_Hall_names : Γ n_Hall_names = S_Hall_names
abbrev B_Floor_init (G : Tab) (Γ : Nat → TSp) : Prop := ∀ ts μ F R, S_Floor_init ts μ F R → denSs G Γ c_Floor_init (bodyD R F) (startT N_Floor_init.length ts) μ
theorem body_Floor_init {G : Tab} {Γ : Nat → TSp} (A : A_Floor_init G Γ) : B_Floor_init G Γ := by
  rintro ts μ F R ⟨f, h, l1, l2, ns, ls, rfl, hf, H, hz, hR⟩
  have n1 : h ≠ f := fun e => by
    have := H.o
    rw [e, hf] at this
    cases this
  have n2 : l1 ≠ f := fun e => by
    have := H.w
    rw [e, hf] at this
    cases this
  have n3 : l2 ≠ f := fun e => by
    have := H.b
    rw [e, hf] at this
    cases this
  unfold c_Floor_init
  simp only [Rh.startT, List.length_cons, List.length_nil, List.map_cons, List.map_nil, List.replicate, List.cons_append, List.nil_append, Nat.reduceAdd, Nat.reduceSub, N_Floor_init]
  apply e_cons; simp only [denS]; (try simp_arith [A.f_Hall_belts, A.g_Hall_belts, S_Hall_belts, i_Hall_belts, A.f_Hall_names, A.g_Hall_names, S_Hall_names, i_Hall_names, H.o]); repeat ((with_reducible refine And.intro ?_ ?_); omega)
  refine ⟨l1, l2, ns, ls, H, .inr ?_⟩
  simp_arith [hf]
  have H1 : HallAt (μ.set f (.obj 2 (setF [] 0 (.lst (ls.map Ln.tr))))) h l1 l2 ns ls := H.put n1 n2 n3
  have hz : ls.length ≤ 16777216 := hz
  apply e_cons; simp only [denS]; (try simp_arith [A.f_Hall_belts, A.g_Hall_belts, S_Hall_belts, i_Hall_belts, A.f_Hall_names, A.g_Hall_names, S_Hall_names, i_Hall_names, H1.o]); repeat ((with_reducible refine And.intro ?_ ?_); omega)
  refine ⟨l1, l2, ns, ls, H1, .inr ?_⟩
  simp_arith []
  refine ⟨Nat.le_refl _, ?_⟩
  rw [set_set]
  apply e_cons; simp only [denS]; (try simp_arith [A.f_Hall_belts, A.g_Hall_belts, S_Hall_belts, i_Hall_belts, A.f_Hall_names, A.g_Hall_names, S_Hall_names, i_Hall_names]); repeat ((with_reducible refine And.intro ?_ ?_); omega)
  refine ⟨.lst (ls.map Ln.tr), rfl, ?_⟩
  refine comp_pure (fun _ => true) (fun t => match t with | .tup [.int g, .int t, .int gi, .int ta, .int s5] => .int s5 | t => t) ?_ ?_ ?_ ?_
  · trivial
  · rw [List.length_map]
    exact hz
  · intro u hu Y N hY _
    obtain ⟨l, hl, rfl⟩ := List.mem_map.mp hu
    simp only [wipeT]
    simp_arith [A.f_Hall_belts, A.g_Hall_belts, S_Hall_belts, i_Hall_belts, A.f_Hall_names, A.g_Hall_names, S_Hall_names, i_Hall_names, Ln.tr]
    exact hY rfl
  rw [List.filter_eq_self.mpr (fun _ _ => rfl), List.map_map]
  have e : ((fun t : T => match t with | .tup [.int g, .int t, .int gi, .int ta, .int s5] => T.int s5 | t => t) ∘ Ln.tr) = T.int ∘ Ln.st := rfl
  rw [e, ← List.map_map]
  simp_arith []
  refine ⟨Nat.le_refl _, ?_⟩
  rw [set_set]
  exact fin_id hR
def S_Floor_need_work : TSp := fun ts μ F R => ∃ f ls m hs w, ts = [.own f, .int w] ∧ μ f = some (flr ls m hs) ∧ ((0 ≤ w ∧ w < m ∧ R .non μ) ∨ (¬ (0 ≤ w ∧ w < m) ∧ F 10 μ))
structure A_Floor_need_work (G : Tab) (Γ : Nat → TSp) : Prop where
  triv : True
abbrev B_Floor_need_work (G : Tab) (Γ : Nat → TSp) : Prop := ∀ ts μ F R, S_Floor_need_work ts μ F R → denSs G Γ c_Floor_need_work (bodyD R F) (startT N_Floor_need_work.length ts) μ
theorem body_Floor_need_work {G : Tab} {Γ : Nat → TSp} (A : A_Floor_need_work G Γ) : B_Floor_need_work G Γ := by
  rintro ts μ F R ⟨f, ls, m, hs, w, rfl, hf, hR⟩
  unfold c_Floor_need_work
  simp only [Rh.startT, List.length_cons, List.length_nil, List.map_cons, List.map_nil, List.replicate, List.cons_append, List.nil_append, Nat.reduceAdd, Nat.reduceSub, N_Floor_need_work]
  apply e_cons; apply e_ife; simp_arith [hf, flr]; repeat ((with_reducible refine And.intro ?_ ?_); omega)
  rcases hR with ⟨h0, h1, hR⟩ | ⟨hn, hR⟩
  · simp only [h0, h1, if_true, not_true_eq_false, if_false]
    exact fin_id hR
  · by_cases h0 : 0 ≤ w
    · have h1 : ¬ w < m := fun z => hn ⟨h0, z⟩
      simp only [h0, h1, if_true, not_false_eq_true]
      apply e_cons; simp only [denS]; (try simp_arith []); repeat ((with_reducible refine And.intro ?_ ?_); omega)
      exact hR
    · simp only [h0, if_false]
      apply e_cons; simp only [denS]; (try simp_arith []); repeat ((with_reducible refine And.intro ?_ ?_); omega)
      exact hR
def S_Floor_lying : TSp := fun ts μ F R => ∃ f ls m hs, ts = [.own f] ∧ μ f = some (flr ls m hs) ∧ retL (List.map T.int hs) μ R
structure A_Floor_lying (G : Tab) (Γ : Nat → TSp) : Prop where
  triv : True
abbrev B_Floor_lying (G : Tab) (Γ : Nat → TSp) : Prop := ∀ ts μ F R, S_Floor_lying ts μ F R → denSs G Γ c_Floor_lying (bodyD R F) (startT N_Floor_lying.length ts) μ
theorem body_Floor_lying {G : Tab} {Γ : Nat → TSp} (A : A_Floor_lying G Γ) : B_Floor_lying G Γ := by
  rintro ts μ F R ⟨f, ls, m, hs, rfl, hf, hR⟩
  unfold c_Floor_lying
  simp only [Rh.startT, List.length_cons, List.length_nil, List.map_cons, List.map_nil, List.replicate, List.cons_append, List.nil_append, Nat.reduceAdd, Nat.reduceSub, N_Floor_lying]
  unfold flr at hf
  apply e_cons; simp only [denS]; (try simp_arith [hf]); repeat ((with_reducible refine And.intro ?_ ?_); omega)
  intro p hp
  exact fin_retL hR hp

def S_Hall_need : TSp := fun ts μ F R => ∃ h l1 l2 ns ls w, ts = [.own h, .int w] ∧ HallAt μ h l1 l2 ns ls ∧ if 0 ≤ w ∧ w < ns.length then R .non μ else F 10 μ
structure A_Hall_need (G : Tab) (Γ : Nat → TSp) : Prop where
  triv : True
abbrev B_Hall_need (G : Tab) (Γ : Nat → TSp) : Prop := ∀ ts μ F R, S_Hall_need ts μ F R → denSs G Γ c_Hall_need (bodyD R F) (startT N_Hall_need.length ts) μ
theorem body_Hall_need {G : Tab} {Γ : Nat → TSp} (A : A_Hall_need G Γ) : B_Hall_need G Γ := by
  rintro ts μ F R ⟨h, l1, l2, ns, ls, w, rfl, H, hR⟩
  unfold c_Hall_need
  simp only [Rh.startT, List.length_cons, List.length_nil, List.map_cons, List.map_nil, List.replicate, List.cons_append, List.nil_append, Nat.reduceAdd, Nat.reduceSub, N_Hall_need]
  apply e_cons; apply e_ife; simp_arith [H.o, H.w]; repeat ((with_reducible refine And.intro ?_ ?_); omega)
  by_cases h0 : 0 ≤ w
  · by_cases h1 : w < ns.length
    · simp only [h0, h1, and_self, if_true, not_true_eq_false, if_false] at hR ⊢
      exact fin_id hR
    · simp only [h0, h1, and_false, if_true, not_false_eq_true, if_false] at hR ⊢
      apply e_cons; simp only [denS]; (try simp_arith []); repeat ((with_reducible refine And.intro ?_ ?_); omega)
      exact hR
  · simp only [h0, false_and, if_false] at hR ⊢
    apply e_cons; simp only [denS]; (try simp_arith []); repeat ((with_reducible refine And.intro ?_ ?_); omega)
    exact hR
def S_Hall_leaving : TSp := fun ts μ F R => ∃ h l1 l2 ns ls w, ts = [.own h, .int w] ∧ HallAt μ h l1 l2 ns ls ∧ ls.length ≤ sizeLine ∧ ((0 ≤ w ∧ w < ns.length ∧ retL ((spots (fun l => decide (Ln.g l = w)) ls).map T.int) μ R) ∨ (¬ (0 ≤ w ∧ w < ns.length) ∧ F 10 μ))
structure A_Hall_leaving (G : Tab) (Γ : Nat → TSp) : Prop where
  f_Hall_need : G.fn n_Hall_need = some i_Hall_need
  g_Hall_need : Γ n_Hall_need = S_Hall_need
abbrev B_Hall_leaving (G : Tab) (Γ : Nat → TSp) : Prop := ∀ ts μ F R, S_Hall_leaving ts μ F R → denSs G Γ c_Hall_leaving (bodyD R F) (startT N_Hall_leaving.length ts) μ
theorem body_Hall_leaving {G : Tab} {Γ : Nat → TSp} (A : A_Hall_leaving G Γ) : B_Hall_leaving G Γ := by
  rintro ts μ F R ⟨h, l1, l2, ns, ls, w, rfl, H, hz, hR⟩
  unfold c_Hall_leaving
  simp only [Rh.startT, List.length_cons, List.length_nil, List.map_cons, List.map_nil, List.replicate, List.cons_append, List.nil_append, Nat.reduceAdd, Nat.reduceSub, N_Hall_leaving]
  apply e_cons; simp only [denS]; (try simp_arith [A.f_Hall_need, A.g_Hall_need, S_Hall_need, i_Hall_need, H.o]); repeat ((with_reducible refine And.intro ?_ ?_); omega)
  refine ⟨l1, l2, ns, ls, H, ?_⟩
  rcases hR with ⟨h0, h1, hR⟩ | ⟨hn, hR⟩
  case inr => rw [if_neg hn]; exact hR
  rw [if_pos ⟨h0, h1⟩]
  apply e_cons; simp only [denS]; (try simp_arith [A.f_Hall_need, A.g_Hall_need, S_Hall_need, i_Hall_need, H.o]); repeat ((with_reducible refine And.intro ?_ ?_); omega)
  refine onG_at (.own H.b) fun gd hgd => ?_
  rw [List.zipIdx_map, List.map_map]
  refine comp_pure (fun t => match t with | .tup [_, .tup [.int g, .int t, .int gi, .int ta, .int s5]] => decide (g = w) | _ => false) (fun t => match t with | .tup [i, _] => i | t => t) (hgd _ (.own H.b)) ?_ ?_ ?_
  · rw [List.length_map, List.length_zipIdx]
    exact hz
  · intro u hu Y N hY hN
    obtain ⟨⟨l, i⟩, hm, rfl⟩ := List.mem_map.mp hu
    simp only [wipeT, Function.comp] at hY hN ⊢
    simp_arith [A.f_Hall_need, A.g_Hall_need, S_Hall_need, i_Hall_need, Ln.tr, Prod.map]
    by_cases e : l.g = w
    · simp only [e, if_true]
      exact hY (decide_eq_true e)
    · simp only [e, if_false]
      exact hN (decide_eq_false e)
  · intro p hp
    have e : (List.map ((fun p : T × Nat => T.tup [.int (p.2 : Nat), p.1]) ∘ Prod.map Ln.tr id) ls.zipIdx).filter (fun t => match t with | .tup [_, .tup [.int g, .int t, .int gi, .int ta, .int s5]] => decide (g = w) | _ => false) = (ls.zipIdx.filter fun x => decide (x.1.g = w)).map ((fun p : T × Nat => T.tup [.int (p.2 : Nat), p.1]) ∘ Prod.map Ln.tr id) := by
      rw [List.filter_map]
      rfl
    rw [e, List.map_map]
    have e2 : ((fun t : T => match t with | .tup [i, _] => i | t => t) ∘ (fun p : T × Nat => T.tup [.int (p.2 : Nat), p.1]) ∘ Prod.map Ln.tr id) = (fun i : Nat => T.int (i : Int)) ∘ (fun x : Ln × Nat => x.2) := rfl
    rw [e2, ← List.map_map, zip_spots (fun l : Ln => decide (l.g = w))]
    have e3 : (spots (fun l => decide (Ln.g l = w)) ls).map T.int = List.map (fun i : Nat => T.int (i : Int)) (List.map (· + 0) ((List.range ls.length).filter fun i => (ls[i]?).any fun l : Ln => decide (l.g = w))) := by
      unfold spots
      simp [List.map_map, Function.comp_def]
    rw [← e3]
    exact fin_retL hR hp
def S_Floor_ready : TSp := fun ts μ F R => ∃ f ls m hs w, ts = [.own f, .int w] ∧ μ f = some (flr ls m hs) ∧ ((0 ≤ w ∧ w < m ∧ R (.bl (rdy ls hs w)) μ) ∨ (¬ (0 ≤ w ∧ w < m) ∧ F 10 μ))
structure A_Floor_ready (G : Tab) (Γ : Nat → TSp) : Prop where
  f_Floor_need_work : G.fn n_Floor_need_work = some i_Floor_need_work
  g_Floor_need_work : Γ n_Floor_need_work = S_Floor_need_work
  f_is_ready : G.fn n_is_ready = some i_is_ready
  g_is_ready : Γ n_is_ready = S_is_ready
abbrev B_Floor_ready (G : Tab) (Γ : Nat → TSp) : Prop := ∀ ts μ F R, S_Floor_ready ts μ F R → denSs G Γ c_Floor_ready (bodyD R F) (startT N_Floor_ready.length ts) μ
theorem body_Floor_ready {G : Tab} {Γ : Nat → TSp} (A : A_Floor_ready G Γ) : B_Floor_ready G Γ := by
  rintro ts μ F R ⟨f, ls, m, hs, w, rfl, hf, hR⟩
  unfold c_Floor_ready
  simp only [Rh.startT, List.length_cons, List.length_nil, List.map_cons, List.map_nil, List.replicate, List.cons_append, List.nil_append, Nat.reduceAdd, Nat.reduceSub, N_Floor_ready]
  have hf' := hf
  unfold flr at hf'
  apply e_cons; simp only [denS]; (try simp_arith [A.f_Floor_need_work, A.g_Floor_need_work, S_Floor_need_work, i_Floor_need_work, A.f_is_ready, A.g_is_ready, S_is_ready, i_is_ready, hf']); repeat ((with_reducible refine And.intro ?_ ?_); omega)
  refine ⟨ls, m, hs, rfl, ?_⟩
  rcases hR with ⟨h0, h1, hR⟩ | hR
  case inr => exact .inr hR
  refine .inl ⟨h0, h1, ?_⟩
  apply e_cons; simp only [denS]; (try simp_arith [A.f_Floor_need_work, A.g_Floor_need_work, S_Floor_need_work, i_Floor_need_work, A.f_is_ready, A.g_is_ready, S_is_ready, i_is_ready, hf']); repeat ((with_reducible refine And.intro ?_ ?_); omega)
  exact ⟨ls, .lst, hs, .lst, fin_id hR⟩
def S_Hall_belt : TSp := fun ts μ F R => ∃ h l1 l2 ns ls l, ts = [.own h, .int (Ln.g l), .int l.t, .int l.gi, .int l.ta, .int l.st] ∧ HallAt μ h l1 l2 ns ls ∧
  if ¬ (0 ≤ l.g ∧ l.g < ns.length) then F 10 μ else if ¬ (0 ≤ l.t ∧ l.t < ns.length) then F 10 μ else if l.gi < 1 ∨ l.ta < 1 ∨ l.st < 0 then F 7 μ else if 60 ≤ ls.length then F 15 μ else
    R (.int ls.length) (μ.set l2 (.lst (ls.map Ln.tr ++ [l.tr])))
structure A_Hall_belt (G : Tab) (Γ : Nat → TSp) : Prop where
  f_Hall_need : G.fn n_Hall_need = some i_Hall_need
  g_Hall_need : Γ n_Hall_need = S_Hall_need
  k_MOST_BELTS : G.con 3 = some (("MOST_BELTS" : Str), T.int 60)
  f_Hall_lay : G.fn n_Hall_lay = some i_Hall_lay
  g_Hall_lay : Γ n_Hall_lay = S_Hall_lay
abbrev B_Hall_belt (G : Tab) (Γ : Nat → TSp) : Prop := ∀ ts μ F R, S_Hall_belt ts μ F R → denSs G Γ c_Hall_belt (bodyD R F) (startT N_Hall_belt.length ts) μ
theorem body_Hall_belt {G : Tab} {Γ : Nat → TSp} (A : A_Hall_belt G Γ) : B_Hall_belt G Γ := by
  rintro ts μ F R ⟨h, l1, l2, ns, ls, l, rfl, H, hR⟩
  unfold c_Hall_belt
  simp only [Rh.startT, List.length_cons, List.length_nil, List.map_cons, List.map_nil, List.replicate, List.cons_append, List.nil_append, Nat.reduceAdd, Nat.reduceSub, N_Hall_belt]
  apply e_cons; simp only [denS]; (try simp_arith [A.f_Hall_need, A.g_Hall_need, S_Hall_need, i_Hall_need, A.k_MOST_BELTS, A.f_Hall_lay, A.g_Hall_lay, S_Hall_lay, i_Hall_lay, H.o]); repeat ((with_reducible refine And.intro ?_ ?_); omega)
  refine ⟨l1, l2, ns, ls, H, ?_⟩
  by_cases h1 : 0 ≤ l.g ∧ l.g < ns.length
  case neg =>
    simp only [h1, not_false_eq_true, if_true, if_false] at hR ⊢
    exact hR
  simp only [h1, and_self, not_true_eq_false, if_true, if_false] at hR ⊢
  apply e_cons; simp only [denS]; (try simp_arith [A.f_Hall_need, A.g_Hall_need, S_Hall_need, i_Hall_need, A.k_MOST_BELTS, A.f_Hall_lay, A.g_Hall_lay, S_Hall_lay, i_Hall_lay, H.o]); repeat ((with_reducible refine And.intro ?_ ?_); omega)
  refine ⟨l1, l2, ns, ls, H, ?_⟩
  by_cases h2 : 0 ≤ l.t ∧ l.t < ns.length
  case neg =>
    simp only [h2, not_false_eq_true, if_true, if_false] at hR ⊢
    exact hR
  simp only [h2, and_self, not_true_eq_false, if_true, if_false] at hR ⊢
  apply e_cons; apply e_ife; simp_arith [A.f_Hall_need, A.g_Hall_need, S_Hall_need, i_Hall_need, A.k_MOST_BELTS, A.f_Hall_lay, A.g_Hall_lay, S_Hall_lay, i_Hall_lay, H.o]; repeat ((with_reducible refine And.intro ?_ ?_); omega)
  by_cases h3 : l.gi < 1
  · simp only [h3, true_or, if_true, not_true_eq_false, if_false] at hR ⊢
    apply e_cons; simp only [denS]; (try simp_arith [A.f_Hall_need, A.g_Hall_need, S_Hall_need, i_Hall_need, A.k_MOST_BELTS, A.f_Hall_lay, A.g_Hall_lay, S_Hall_lay, i_Hall_lay]); repeat ((with_reducible refine And.intro ?_ ?_); omega)
    exact hR
  by_cases h4 : l.ta < 1
  · simp only [h3, h4, or_true, true_or, if_true, not_true_eq_false, not_false_eq_true, if_false] at hR ⊢
    apply e_cons; simp only [denS]; (try simp_arith [A.f_Hall_need, A.g_Hall_need, S_Hall_need, i_Hall_need, A.k_MOST_BELTS, A.f_Hall_lay, A.g_Hall_lay, S_Hall_lay, i_Hall_lay]); repeat ((with_reducible refine And.intro ?_ ?_); omega)
    exact hR
  by_cases h5 : l.st < 0
  · simp only [h3, h4, h5, or_true, if_true, not_true_eq_false, not_false_eq_true, if_false] at hR ⊢
    apply e_cons; simp only [denS]; (try simp_arith [A.f_Hall_need, A.g_Hall_need, S_Hall_need, i_Hall_need, A.k_MOST_BELTS, A.f_Hall_lay, A.g_Hall_lay, S_Hall_lay, i_Hall_lay]); repeat ((with_reducible refine And.intro ?_ ?_); omega)
    exact hR
  simp only [h3, h4, h5, or_false, if_true, not_false_eq_true, if_false] at hR ⊢
  apply e_cons; apply e_ife; simp_arith [A.f_Hall_need, A.g_Hall_need, S_Hall_need, i_Hall_need, A.k_MOST_BELTS, A.f_Hall_lay, A.g_Hall_lay, S_Hall_lay, i_Hall_lay, H.o, H.b]; repeat ((with_reducible refine And.intro ?_ ?_); omega)
  by_cases h6 : 60 ≤ ls.length
  · simp only [h6, show (60 : Int) ≤ (ls.length : Nat) by omega, if_true] at hR ⊢
    apply e_cons; simp only [denS]; (try simp_arith [A.f_Hall_need, A.g_Hall_need, S_Hall_need, i_Hall_need, A.k_MOST_BELTS, A.f_Hall_lay, A.g_Hall_lay, S_Hall_lay, i_Hall_lay]); repeat ((with_reducible refine And.intro ?_ ?_); omega)
    exact hR
  simp only [h6, show ¬ (60 : Int) ≤ (ls.length : Nat) by omega, if_false] at hR ⊢
  apply e_cons; simp only [denS]; (try simp_arith [A.f_Hall_need, A.g_Hall_need, S_Hall_need, i_Hall_need, A.k_MOST_BELTS, A.f_Hall_lay, A.g_Hall_lay, S_Hall_lay, i_Hall_lay, H.o]); repeat ((with_reducible refine And.intro ?_ ?_); omega)
  exact ⟨l1, l2, ns, ls, l, rfl, rfl, rfl, rfl, rfl, H, Nat.lt_of_lt_of_le (by omega : ls.length < 60) (by decide), fin_id hR⟩
def S_Hall_entering : TSp := fun ts μ F R => ∃ h l1 l2 ns ls w, ts = [.own h, .int w] ∧ HallAt μ h l1 l2 ns ls ∧ ls.length ≤ sizeLine ∧ ((0 ≤ w ∧ w < ns.length ∧ retL ((spots (fun l => decide (Ln.t l = w)) ls).map T.int) μ R) ∨ (¬ (0 ≤ w ∧ w < ns.length) ∧ F 10 μ))
structure A_Hall_entering (G : Tab) (Γ : Nat → TSp) : Prop where
  f_Hall_need : G.fn n_Hall_need = some i_Hall_need
  g_Hall_need : Γ n_Hall_need = S_Hall_need
abbrev B_Hall_entering (G : Tab) (Γ : Nat → TSp) : Prop := ∀ ts μ F R, S_Hall_entering ts μ F R → denSs G Γ c_Hall_entering (bodyD R F) (startT N_Hall_entering.length ts) μ
theorem body_Hall_entering {G : Tab} {Γ : Nat → TSp} (A : A_Hall_entering G Γ) : B_Hall_entering G Γ := by
  rintro ts μ F R ⟨h, l1, l2, ns, ls, w, rfl, H, hz, hR⟩
  unfold c_Hall_entering
  simp only [Rh.startT, List.length_cons, List.length_nil, List.map_cons, List.map_nil, List.replicate, List.cons_append, List.nil_append, Nat.reduceAdd, Nat.reduceSub, N_Hall_entering]
  apply e_cons; simp only [denS]; (try simp_arith [A.f_Hall_need, A.g_Hall_need, S_Hall_need, i_Hall_need, H.o]); repeat ((with_reducible refine And.intro ?_ ?_); omega)
  refine ⟨l1, l2, ns, ls, H, ?_⟩
  rcases hR with ⟨h0, h1, hR⟩ | ⟨hn, hR⟩
  case inr => rw [if_neg hn]; exact hR
  rw [if_pos ⟨h0, h1⟩]
  apply e_cons; simp only [denS]; (try simp_arith [A.f_Hall_need, A.g_Hall_need, S_Hall_need, i_Hall_need, H.o]); repeat ((with_reducible refine And.intro ?_ ?_); omega)
  refine onG_at (.own H.b) fun gd hgd => ?_
  rw [List.zipIdx_map, List.map_map]
  refine comp_pure (fun t => match t with | .tup [_, .tup [.int g, .int t, .int gi, .int ta, .int s5]] => decide (t = w) | _ => false) (fun t => match t with | .tup [i, _] => i | t => t) (hgd _ (.own H.b)) ?_ ?_ ?_
  · rw [List.length_map, List.length_zipIdx]
    exact hz
  · intro u hu Y N hY hN
    obtain ⟨⟨l, i⟩, hm, rfl⟩ := List.mem_map.mp hu
    simp only [wipeT, Function.comp] at hY hN ⊢
    simp_arith [A.f_Hall_need, A.g_Hall_need, S_Hall_need, i_Hall_need, Ln.tr, Prod.map]
    by_cases e : l.t = w
    · simp only [e, if_true]
      exact hY (decide_eq_true e)
    · simp only [e, if_false]
      exact hN (decide_eq_false e)
  · intro p hp
    have e : (List.map ((fun p : T × Nat => T.tup [.int (p.2 : Nat), p.1]) ∘ Prod.map Ln.tr id) ls.zipIdx).filter (fun t => match t with | .tup [_, .tup [.int g, .int t, .int gi, .int ta, .int s5]] => decide (t = w) | _ => false) = (ls.zipIdx.filter fun x => decide (x.1.t = w)).map ((fun p : T × Nat => T.tup [.int (p.2 : Nat), p.1]) ∘ Prod.map Ln.tr id) := by
      rw [List.filter_map]
      rfl
    rw [e, List.map_map]
    have e2 : ((fun t : T => match t with | .tup [i, _] => i | t => t) ∘ (fun p : T × Nat => T.tup [.int (p.2 : Nat), p.1]) ∘ Prod.map Ln.tr id) = (fun i : Nat => T.int (i : Int)) ∘ (fun x : Ln × Nat => x.2) := rfl
    rw [e2, ← List.map_map, zip_spots (fun l : Ln => decide (l.t = w))]
    have e3 : (spots (fun l => decide (Ln.t l = w)) ls).map T.int = List.map (fun i : Nat => T.int (i : Int)) (List.map (· + 0) ((List.range ls.length).filter fun i => (ls[i]?).any fun l : Ln => decide (l.t = w))) := by
      unfold spots
      simp [List.map_map, Function.comp_def]
    rw [← e3]
    exact fin_retL hR hp
def S_Hall_fill : TSp := fun ts μ F R => ∃ h l1 l2 ns ls b st, ts = [.own h, .int b, .int st] ∧ HallAt μ h l1 l2 ns ls ∧ ((∃ l, 0 ≤ b ∧ ls[b.toNat]? = some l ∧ ((0 ≤ st ∧ R (.bl (decide (st ≠ Ln.st l))) (μ.set l2 (.lst ((ls.map Ln.tr).set b.toNat (Ln.tr ⟨l.g, l.t, l.gi, l.ta, st⟩))))) ∨ (st < 0 ∧ F 7 μ))) ∨ (¬ (0 ≤ b ∧ b < ls.length) ∧ F 1 μ))
structure A_Hall_fill (G : Tab) (Γ : Nat → TSp) : Prop where
  f_Hall_belt_at : G.fn n_Hall_belt_at = some i_Hall_belt_at
  g_Hall_belt_at : Γ n_Hall_belt_at = S_Hall_belt_at
abbrev B_Hall_fill (G : Tab) (Γ : Nat → TSp) : Prop := ∀ ts μ F R, S_Hall_fill ts μ F R → denSs G Γ c_Hall_fill (bodyD R F) (startT N_Hall_fill.length ts) μ
theorem body_Hall_fill {G : Tab} {Γ : Nat → TSp} (A : A_Hall_fill G Γ) : B_Hall_fill G Γ := by
  rintro ts μ F R ⟨h, l1, l2, ns, ls, b, s5, rfl, H, hR⟩
  unfold c_Hall_fill
  simp only [Rh.startT, List.length_cons, List.length_nil, List.map_cons, List.map_nil, List.replicate, List.cons_append, List.nil_append, Nat.reduceAdd, Nat.reduceSub, N_Hall_fill]
  apply e_cons; simp only [denS]; (try simp_arith [A.f_Hall_belt_at, A.g_Hall_belt_at, S_Hall_belt_at, i_Hall_belt_at, H.o]); repeat ((with_reducible refine And.intro ?_ ?_); omega)
  refine ⟨l1, l2, ns, ls, H, ?_⟩
  rcases hR with ⟨l, h0, el, hR⟩ | hR
  case inr => exact .inr hR
  have h1 : b.toNat < ls.length := (List.getElem?_eq_some_iff.mp el).1
  refine .inl ⟨h0, l, el, ?_⟩
  simp_arith [A.f_Hall_belt_at, A.g_Hall_belt_at, S_Hall_belt_at, i_Hall_belt_at, Ln.tr]
  apply e_cons; apply e_ife; simp_arith [A.f_Hall_belt_at, A.g_Hall_belt_at, S_Hall_belt_at, i_Hall_belt_at]; repeat ((with_reducible refine And.intro ?_ ?_); omega)
  rcases hR with ⟨hs, hR⟩ | ⟨hs, hR⟩
  · simp only [show ¬ s5 < 0 by omega, if_false]
    apply e_cons; simp only [denS]; (try simp_arith [A.f_Hall_belt_at, A.g_Hall_belt_at, S_Hall_belt_at, i_Hall_belt_at, H.o, H.b]); repeat ((with_reducible refine And.intro ?_ ?_); omega)
    refine ⟨_, ixN_nn h0 (by omega), ?_⟩
    apply e_cons; simp only [denS]; (try simp_arith [A.f_Hall_belt_at, A.g_Hall_belt_at, S_Hall_belt_at, i_Hall_belt_at]); repeat ((with_reducible refine And.intro ?_ ?_); omega)
    have hR : R (.bl (!decide (s5 = l.st))) (μ.set l2 (.lst ((ls.map Ln.tr).set b.toNat (Ln.tr ⟨l.g, l.t, l.gi, l.ta, s5⟩)))) := by simpa only [decide_not] using hR
    exact fin_id hR
  · simp only [hs, if_true]
    apply e_cons; simp only [denS]; (try simp_arith [A.f_Hall_belt_at, A.g_Hall_belt_at, S_Hall_belt_at, i_Hall_belt_at]); repeat ((with_reducible refine And.intro ?_ ?_); omega)
    exact hR

def mixW (c w : Int) : Int := (c * 48271 + w * 7919) % 2147483647 * (16807 + 2 * w) % 1000003
theorem mixW_nn {c w : Int} : 0 ≤ mixW c w := Int.emod_nonneg _ (by decide)
theorem mixW_lt {c w : Int} : mixW c w < 1000003 := Int.emod_lt_of_pos _ (by decide)
def rmT : Option (List Int) → T
  | none => .non
  | some rs => .lst (rs.map T.int)
def over (rm : Option (List Int)) (i : Nat) (x : Int) : Bool := match rm with
  | none => false
  | some rs => decide (((rs[i]?).getD 0) < x)
def okAt (ls : List Ln) (hs : List Int) (rm : Option (List Int)) (w : Int) (i : Nat) : Bool :=
  match ls[i]?, hs[i]? with
  | some l, some h => !(decide (l.t = w) && decide (h < l.ta)) && !(decide (l.g = w) && over rm i (h + l.gi))
  | _, _ => true
def rdyM (ls : List Ln) (hs : List Int) (rm : Option (List Int)) (w : Int) : Bool := (List.range ls.length).all (okAt ls hs rm w)
theorem rdyM_none {ls : List Ln} {hs : List Int} {w : Int} (he : hs.length = ls.length) : rdyM ls hs none w = rdy ls hs w := by
  rw [Bool.eq_iff_iff]
  unfold rdyM rdy
  rw [List.all_eq_true, List.all_eq_true]
  constructor
  · intro h p hp
    obtain ⟨i, hi, e⟩ := List.mem_iff_getElem.mp hp
    rw [List.length_zip] at hi
    have := h i (List.mem_range.mpr (by omega))
    unfold okAt at this
    rw [List.getElem?_eq_getElem (show i < ls.length by omega), List.getElem?_eq_getElem (show i < hs.length by omega)] at this
    rw [List.getElem_zip] at e
    subst e
    simpa [over] using this
  · intro h i hi
    have hi := List.mem_range.mp hi
    have := h (ls[i], hs[i]) (by rw [← List.getElem_zip (h := by rw [List.length_zip]; omega)]; exact List.getElem_mem _)
    unfold okAt
    rw [List.getElem?_eq_getElem (show i < ls.length by omega), List.getElem?_eq_getElem (show i < hs.length by omega)]
    simpa [over] using this
structure L17 (m : Int) (l : Ln) : Prop where
  g0 : 0 ≤ l.g
  g1 : l.g < m
  t0 : 0 ≤ l.t
  t1 : l.t < m
  gi : 1 ≤ l.gi
  ta : 1 ≤ l.ta
  st : 0 ≤ l.st
def sgn (c : Nat) : Str := ⟨#[c]⟩
def ab (i : Int) : Nat := ((abc.cps.toList)[i.toNat]?).getD 0
theorem ab_at {i : Int} (h0 : 0 ≤ i) (h1 : i < 26) : atI abc.cps.toList i = some (ab i) := by
  rw [at_nn h0]
  have e : abc.cps.toList.length = 26 := by decide +kernel
  unfold ab
  rw [List.getElem?_eq_getElem (by omega)]
  rfl
def nw (k : Int) : Str := sgn (ab (7 * k % 26)) ++ sgn (ab (11 * k % 26)) ++ Txt.mul "x" (k / 26)
theorem nw_ok : ∀ k : Fin 30, isName (nw (k.val : Int)) = true ∧ (nw (k.val : Int)).length ≤ 8 ∧ (nw (k.val : Int)).cps.all (· < 0x110000) = true := by decide +kernel
theorem nw_inj : ∀ i j : Fin 30, nw (i.val : Int) = nw (j.val : Int) → i = j := by decide +kernel
def nws (k : Nat) : List Str := (List.range k).map fun i : Nat => nw (i : Int)
theorem nw_at {k : Nat} (h : k < 30) : isName (nw (k : Int)) = true ∧ (nw (k : Int)).length ≤ sizeLine ∧ sOk (nw (k : Int)) := by
  obtain ⟨a, b, c⟩ := nw_ok ⟨k, h⟩
  exact ⟨a, Nat.le_trans b (by decide), c⟩
theorem nws_new {k : Nat} (h : k < 30) : nw (k : Int) ∉ nws k := fun z => by
  obtain ⟨i, hi, e⟩ := List.mem_map.mp z
  have hi := List.mem_range.mp hi
  have := nw_inj ⟨i, by omega⟩ ⟨k, h⟩ e
  cases this
  omega
theorem nws_ok {k : Nat} (h : k ≤ 30) : ∀ x ∈ nws k, sOk x := fun x hx => by
  obtain ⟨i, hi, e⟩ := List.mem_map.mp hx
  have hi := List.mem_range.mp hi
  subst e
  exact (nw_ok ⟨i, by omega⟩).2.2
theorem nws_succ {k : Nat} : nws (k + 1) = nws k ++ [nw (k : Int)] := by
  unfold nws
  rw [List.range_succ, List.map_append]
  rfl
theorem nws_len {k : Nat} : (nws k).length = k := by
  unfold nws
  rw [List.length_map, List.length_range]
def gt (xs : List Int) (i : Nat) : Int := (xs[i]?).getD 0
theorem gt_at {xs : List Int} {i : Nat} (h : i < xs.length) : xs[i]? = some (gt xs i) := by
  unfold gt
  rw [List.getElem?_eq_getElem h]
  rfl
theorem pk1_gt {ls : List Ln} {hs ms : List Int} {w : Int} {i : Nat} {l : Ln} (he : hs.length = ls.length) (hm : ms.length = ls.length) (el : ls[i]? = some l) : gt (pk1 ls hs ms w) i = if l.g = w then bmax (gt ms i) (gt hs i + l.gi) else gt ms i := by
  have hi := (List.getElem?_eq_some_iff.mp el).1
  have := pk1_at (w := w) el (gt_at (xs := hs) (by omega)) (gt_at (xs := ms) (by omega))
  rw [show gt (pk1 ls hs ms w) i = ((pk1 ls hs ms w)[i]?).getD 0 from rfl, this]
  rfl
theorem bmax_l {a b : Int} : a ≤ bmax a b := by unfold bmax; split <;> omega
theorem bmax_r {a b : Int} : b ≤ bmax a b := by unfold bmax; split <;> omega
theorem bmax_or {a b : Int} : bmax a b = a ∨ bmax a b = b := by unfold bmax; split <;> simp
theorem pkL_len {ls : List Ln} : ∀ {row hs ms : List Int}, hs.length = ls.length → ms.length = ls.length → (pkL ls row hs ms).length = ls.length
  | [], _, _, _, h => h
  | w :: r, _, _, h1, h2 => pkL_len (row := r) (shiftL_len (w := w) h1) (pk1_len (w := w) h1 h2)
theorem pkL_ge {ls : List Ln} {i : Nat} (hi : i < ls.length) : ∀ {row hs ms : List Int}, hs.length = ls.length → ms.length = ls.length → gt ms i ≤ gt (pkL ls row hs ms) i
  | [], _, _, _, _ => Int.le_refl _
  | w :: row, hs, ms, h1, h2 => by
    have h3 := pkL_ge hi (row := row) (shiftL_len (w := w) h1) (pk1_len (w := w) h1 h2)
    have h4 := pk1_gt (w := w) h1 h2 (List.getElem?_eq_getElem hi)
    have : gt ms i ≤ gt (pk1 ls hs ms w) i := by
      rw [h4]
      split
      · exact bmax_l
      · exact Int.le_refl _
    exact Int.le_trans this h3
theorem pkL_fit {ls : List Ln} {i : Nat} {l : Ln} {w : Int} {row hs ms : List Int} (el : ls[i]? = some l) (hg : l.g = w) (h1 : hs.length = ls.length) (h2 : ms.length = ls.length) : gt hs i + l.gi ≤ gt (pkL ls (w :: row) hs ms) i := by
  have h3 := pkL_ge (List.getElem?_eq_some_iff.mp el).1 (row := row) (shiftL_len (w := w) h1) (pk1_len (w := w) h1 h2)
  rw [pk1_gt h1 h2 el, if_pos hg] at h3
  exact Int.le_trans bmax_r h3
def lnP (l : Ln) : Tp Int := ⟨[l.g, l.t, l.gi, l.ta, l.st]⟩
theorem eq_lns {μ : Sto} {t u : T} {neg : Bool} {R : RP} {ls : List Ln} (h : LstAt μ t (ls.map Ln.tr)) (k : LstAt μ u (ls.map Ln.tr)) : tEq neg t u μ R = R (.bl (!neg)) μ := by
  have e : ls.map Ln.tr = (ls.map lnP).map Tt.tt := by
    rw [List.map_map]
    rfl
  rw [eq_at (ls.map lnP) (ls.map lnP) h k e e (fun _ _ _ _ => trivial) (fun _ _ _ _ => trivial)]
  cases neg <;> simp
theorem eq_bls {μ : Sto} {neg : Bool} {R : RP} {xs ys : List Bool} : tEq neg (.lst (xs.map T.bl)) (.lst (ys.map T.bl)) μ R = R (.bl (if neg = true then !decide (xs = ys) else decide (xs = ys))) μ :=
  eq_at xs ys .lst .lst rfl rfl (fun _ _ => trivial) (fun _ _ => trivial)
def iota (n : Nat) : List Int := (List.range n).map fun i : Nat => (i : Int)
theorem iota_at {n : Nat} {i : Int} (h0 : 0 ≤ i) (h1 : i < n) : cnt (iota n) i = i := by
  unfold Rh.cnt iota
  rw [List.getElem?_map, List.getElem?_range (by omega)]
  show ((i.toNat : Nat) : Int) = i
  omega
theorem iota_lab {es : List (Int × Int)} {n : Nat} : Lab es n (iota n) := ⟨by unfold iota; simp, fun i h0 h1 => by rw [iota_at h0 h1]; exact .refl⟩
theorem iota_T (n : Nat) : (List.range n).map (fun i => T.int (i : Nat)) = (iota n).map T.int := by
  unfold iota
  rw [List.map_map]
  rfl
theorem two_of {c : Prop} [Decidable c] {X : T → Prop} {a b : T} (h : X (if c then a else b)) : (c → X a) ∧ (¬ c → X b) :=
  ⟨fun k => by rwa [if_pos k] at h, fun k => by rwa [if_neg k] at h⟩
theorem comp_any {own : Bool} {vs : List Nat} {g : Tg} {cond elt : TEx × TTe} {R : RP} {ρ : Ro} {μ : Sto} {gd : Sto → Prop} {n : Nat} {f : Nat → T} (P : Int → Prop) (hg : gd μ) (hl : n ≤ sizeLine)
    (h : ∀ k : Nat, k < n → ∀ (Y : T → Sto → Prop) (N : Sto → Prop), (∀ x : Int, P x → Y (.int x) μ) → bindT g (f k) (wipeT ρ vs) μ fun ρ' => cond.2 ρ' μ noX fun b μ3 => if b = true then elt.1 ρ' μ3 noX fun y μ4 => Y y μ4 else N μ3)
    (hR : ∀ xs : List Int, xs.length = n → (∀ x ∈ xs, P x) → newL own (xs.map T.int) μ R) : compD own vs g cond elt ρ R ((List.range n).map f) gd μ := by
  refine ⟨fun acc r μ2 => μ2 = μ ∧ ∃ (k : Nat) (xs : List Int), r = ((List.range n).map f).drop k ∧ acc = xs.map T.int ∧ xs.length = k ∧ k ≤ n ∧ ∀ x ∈ xs, P x, ⟨rfl, 0, [], rfl, rfl, rfl, Nat.zero_le _, fun _ z => nomatch z⟩, ?_, ?_⟩
  · rintro acc μ2 ⟨rfl, k, xs, e1, rfl, e2, hk, hP⟩
    have := List.drop_eq_nil_iff.mp e1.symm
    rw [List.length_map, List.length_range] at this
    exact ⟨hg, hR xs (by omega) hP⟩
  · rintro acc t r μ2 ⟨rfl, k, xs, e1, rfl, e2, hk, hP⟩
    refine ⟨hg, ?_⟩
    have hk2 : k < n := by
      have := congrArg List.length e1
      simp at this
      omega
    have e4 : t = f k := by
      have := congrArg (fun l : List T => l[0]?) e1
      simpa [List.getElem?_drop, List.getElem?_range hk2] using this
    have e3 : r = ((List.range n).map f).drop (k + 1) := by
      have := congrArg List.tail e1
      simpa [List.tail_drop] using this
    subst e4
    refine h k hk2 _ _ fun x hx => ?_
    refine ⟨by rw [List.length_map]; omega, .int x, _, .refl _ _, rfl, k + 1, xs ++ [x], e3, by rw [List.map_append]; rfl, by rw [List.length_append, e2]; rfl, hk2, fun z hz => ?_⟩
    rcases List.mem_append.mp hz with q | q
    · exact hP z q
    · cases List.mem_singleton.mp q
      exact hx
theorem iota_lenR {n : Nat} : (iota n).length = n := by unfold iota; rw [List.length_map, List.length_range]
theorem iota_memR {n : Nat} {w : Int} : w ∈ iota n ↔ 0 ≤ w ∧ w < n := rngI_mem
theorem fm_lenR {xs : List Int} (h : xs.Nodup) : (PyProof.Rows.firstMet (fun i => xs.getD i 0) xs.length).length = xs.length := by
  rw [RZ.firstMet_nodup h xs.length (Nat.le_refl _), List.take_length]
theorem li {μ : Sto} {t : T} {sz : List Int} (h : LstAt μ t (sz.map T.int)) {i : Int} (h0 : 0 ≤ i) (h1 : i < sz.length) (R : RP) : tIdx t (.int i) μ R = R (.int (cnt sz i)) μ := by
  rw [idx_at h]
  simp only [T.int.injEq, exists_and_left, exists_eq_left', at_cnt h0 h1, Option.some.injEq]

structure L16 (m : Int) (l : Ln) : Prop extends L17 m l where
  gb : l.gi ≤ 1000000000000000000000000000000
  tb : l.ta ≤ 1000000000000000000000000000000
theorem L16.bt {m : Int} {l : Ln} (h : L16 m l) : Bt 128 (Ln.gi l) ∧ Bt 128 l.ta := by
  have h1 := h.gi
  have h2 := h.ta
  have h3 := h.gb
  have h4 := h.tb
  unfold Bt
  refine ⟨Nat.lt_of_le_of_lt (show l.gi.natAbs ≤ 1000000000000000000000000000000 by omega) (by decide), Nat.lt_of_le_of_lt (show l.ta.natAbs ≤ 1000000000000000000000000000000 by omega) (by decide)⟩
theorem L16.inr {m : Nat} {ls : List Ln} (h : ∀ l ∈ ls, L16 m l) : Inr (ends ls) m := fun x hx => by
  obtain ⟨l, hl, rfl⟩ := List.mem_map.mp hx
  have := h l hl
  exact ⟨⟨this.g0, this.g1⟩, this.t0, this.t1⟩
/-! pieces by filling up -/
def add1 (p : List Int) (a b : Int) : List Int := if a ∈ p ∧ b ∉ p then p ++ [b] else p
def Cl1 (p : List Int) (l : Ln) : Prop := l.g ∈ p ↔ l.t ∈ p
structure GI (es : List (Int × Int)) (w : Int) (p : List Int) : Prop where
  nd : p.Nodup
  mem : w ∈ p
  con : ∀ x ∈ p, Con es w x
theorem add1_gi {es : List (Int × Int)} {w a b : Int} {p : List Int} (h : GI es w p) (hab : Adj es a b) : GI es w (add1 p a b) := by
  unfold add1
  split
  · rename_i z
    refine ⟨List.nodup_append.mpr ⟨h.nd, List.pairwise_singleton _ _, fun x hx y hy e => ?_⟩, List.mem_append_left _ h.mem, fun x hx => ?_⟩
    · cases List.mem_singleton.mp hy
      exact z.2 (e ▸ hx)
    · rcases List.mem_append.mp hx with q | q
      · exact h.con x q
      · cases List.mem_singleton.mp q
        exact (h.con a z.1).step hab
  · exact h
theorem add1_or {p : List Int} {a b : Int} : (a ∈ p ∧ b ∉ p ∧ add1 p a b = p ++ [b]) ∨ (¬ (a ∈ p ∧ b ∉ p) ∧ add1 p a b = p) := by
  unfold add1
  split
  · rename_i z
    exact .inl ⟨z.1, z.2, rfl⟩
  · rename_i z
    exact .inr ⟨z, rfl⟩
theorem add1_len {p : List Int} {a b : Int} : p.length ≤ (add1 p a b).length ∧ (add1 p a b).length ≤ p.length + 1 := by
  rcases add1_or (p := p) (a := a) (b := b) with ⟨-, -, e⟩ | ⟨-, e⟩ <;> rw [e]
  · rw [List.length_append, List.length_singleton]
    omega
  · omega
def stp (p : List Int) (l : Ln) : List Int := add1 (add1 p l.g l.t) l.t l.g
theorem stp_same {p : List Int} {l : Ln} (h : Cl1 p l) : stp p l = p := by
  unfold stp Cl1 at *
  have e : add1 p l.g l.t = p := by
    unfold add1
    rw [if_neg (fun z => z.2 (h.mp z.1))]
  rw [e]
  unfold add1
  rw [if_neg (fun z => z.2 (h.mpr z.1))]
theorem stp_len {p : List Int} {l : Ln} : p.length ≤ (stp p l).length := Nat.le_trans add1_len.1 add1_len.1
theorem stp_or {p : List Int} {l : Ln} : p.length < (stp p l).length ∨ (stp p l = p ∧ Cl1 p l) := by
  by_cases h : Cl1 p l
  · exact .inr ⟨stp_same h, h⟩
  · left
    unfold stp
    rcases add1_or (p := p) (a := l.g) (b := l.t) with ⟨h1, h2, e⟩ | ⟨h1, e⟩
    · refine Nat.lt_of_lt_of_le ?_ add1_len.1
      rw [e, List.length_append, List.length_singleton]
      omega
    · rw [e]
      rcases add1_or (p := p) (a := l.t) (b := l.g) with ⟨h3, h4, e3⟩ | ⟨h3, e3⟩
      · rw [e3, List.length_append, List.length_singleton]
        omega
      · exfalso
        refine h ⟨fun z => ?_, fun z => ?_⟩
        · exact Classical.byContradiction fun y => h1 ⟨z, y⟩
        · exact Classical.byContradiction fun y => h3 ⟨z, y⟩
theorem closed_con {ls : List Ln} {w : Int} {p : List Int} (h : GI (ends ls) w p) (hc : ∀ l ∈ ls, Cl1 p l) : ∀ x, Con (ends ls) w x → x ∈ p := fun x c => by
  induction c with
  | refl => exact h.mem
  | step _ ha ih =>
    rcases ha with z | z
    · obtain ⟨l, hl, e⟩ := List.mem_map.mp z
      have := hc l hl
      cases e
      exact this.mp ih
    · obtain ⟨l, hl, e⟩ := List.mem_map.mp z
      have := hc l hl
      cases e
      exact this.mpr ih
theorem filled_comp {ls : List Ln} {n : Nat} {w : Int} {p ys : List Int} (hi : Inr (ends ls) n) (w0 : 0 ≤ w) (w1 : w < n) (h : GI (ends ls) w p) (hc : ∀ l ∈ ls, Cl1 p l) (hp : ys.Perm p) (hs : ys.Pairwise (· ≤ ·)) : ys = compL (ends ls) n w := by
  refine rise_eq (hp.nodup_iff.mpr h.nd) hs compL_lt fun a => ?_
  rw [hp.mem_iff, compL_mem hi ⟨w0, w1⟩]
  exact ⟨h.con a, closed_con h hc a⟩
theorem in_lstK {neg : Bool} {i : Int} {xs : List Int} {μ : Sto} {R : RP} : Rh.tIn neg (.int i) (.lst (xs.map T.int)) μ R = R (.bl (if neg = true then !decide (i ∈ xs) else decide (i ∈ xs))) μ := by
  apply propext
  constructor
  · intro hh
    unfold Rh.tIn at hh
    simp only [Rh.dc_lst] at hh
    obtain ⟨d, e1, _, ds, e2, _, hR⟩ := hh
    have h1 := (Has.of (μ := μ) (x := i) trivial).1
    have h2 := (Has.of (μ := μ) (x := xs) (fun _ _ => trivial)).1
    rw [show Tt.tt i = T.int i from rfl] at h1
    rw [show Tt.tt xs = T.lst (xs.map T.int) from rfl] at h2
    rw [h1] at e1
    rw [h2] at e2
    cases e1
    cases e2
    rw [any_eqv] at hR
    exact hR
  · intro hR
    exact in_has neg R rfl ⟨_, .inl rfl⟩ (Has.of trivial) (Has.of (x := xs) fun _ _ => trivial) hR
theorem in_ownK {neg : Bool} {i : Int} {xs : List Int} {μ : Sto} {p : Addr} {R : RP} (h : μ p = some (.lst (xs.map T.int))) : Rh.tIn neg (.int i) (.own p) μ R = R (.bl (if neg = true then !decide (i ∈ xs) else decide (i ∈ xs))) μ := by
  apply propext
  constructor
  · intro hh
    unfold Rh.tIn at hh
    simp only [own_dict h] at hh
    obtain ⟨d, e1, _, ds, e2, _, hR⟩ := hh
    have h1 := (Has.of (μ := μ) (x := i) trivial).1
    have h2 := (Has.own (μ := μ) (xs := xs) h rfl (fun _ _ => trivial)).1
    rw [show Tt.tt i = T.int i from rfl] at h1
    rw [h1] at e1
    rw [h2] at e2
    cases e1
    cases e2
    rw [any_eqv] at hR
    exact hR
  · intro hR
    exact in_own (xs := xs) h rfl (Has.of trivial) (fun _ _ => trivial) hR
theorem firsts_len {es : List (Int × Int)} {n k : Nat} : ((firsts es k).map (compL es n)).length ≤ k := by
  classical
  unfold firsts
  rw [List.length_map]
  refine Nat.le_trans (List.length_filter_le _ _) ?_
  rw [List.length_map, List.length_range]
  exact Nat.le_refl _
def hasB (k : Int) (us : List T) : Bool := us.any fun u => match u with | .int i => decide (i = k) | _ => false
theorem hasB_map {k : Int} {xs : List Int} : hasB k (xs.map T.int) = decide (k ∈ xs) := by
  rw [Bool.eq_iff_iff, decide_eq_true_eq]
  unfold hasB
  rw [List.any_map, List.any_eq_true]
  constructor
  · rintro ⟨x, hx, e⟩
    have := of_decide_eq_true e
    exact this ▸ hx
  · exact fun h => ⟨k, h, decide_eq_true rfl⟩
theorem fst_not {es : List (Int × Int)} {n : Nat} (hi : Inr es n) {k : Nat} (hk : k < n) : Fst es (k : Int) ↔ ∀ x ∈ (firsts es k).map (compL es n), (k : Int) ∉ x := by
  constructor
  · intro hf x hx hk2
    obtain ⟨a, ha, rfl⟩ := List.mem_map.mp hx
    obtain ⟨⟨a0, a1⟩, -⟩ := firsts_mem.mp ha
    have := (compL_mem hi ⟨a0, by omega⟩).mp hk2
    have := hf a this.symm
    omega
  · intro h
    obtain ⟨m, hm, hf⟩ := fst_ex hi k (k : Int) (by omega) (by omega) (Int.le_refl _)
    have hmr := hm.inr hi ⟨by omega, by omega⟩
    have hle := hf k hm.symm
    by_cases e : m = k
    · subst e
      exact hf
    · exact absurd ((compL_mem hi hmr).mpr hm.symm) (h _ (List.mem_map_of_mem (firsts_mem.mpr ⟨⟨hmr.1, by omega⟩, hf⟩)))
theorem at3 {a b c i : Int} (h0 : 0 ≤ i) (h1 : i < 3) (p : 0 ≤ a) (q : 0 ≤ b) (r : 0 ≤ c) : ∃ x : Int, atI [T.int a, T.int b, T.int c] i = some (.int x) ∧ 0 ≤ x := by
  have : i = 0 ∨ i = 1 ∨ i = 2 := by omega
  rcases this with rfl | rfl | rfl
  · exact ⟨a, rfl, p⟩
  · exact ⟨b, rfl, q⟩
  · exact ⟨c, rfl, r⟩
theorem zip_snoc16 {ls : List Ln} {rm : List Int} {k : Nat} {l : Ln} {x : Int} (e : ls[k]? = some l) (hk : rm.length = k) {q : Ln × Int} (h : q ∈ ls.zip (rm ++ [x])) : q ∈ ls.zip rm ∨ q = (l, x) := by
  obtain ⟨i, hi, rfl⟩ := List.mem_iff_getElem.mp h
  rw [List.length_zip, List.length_append, List.length_singleton] at hi
  rw [List.getElem_zip]
  by_cases c : i < rm.length
  · left
    rw [List.getElem_append_left c, ← List.getElem_zip (h := by rw [List.length_zip]; omega)]
    exact List.getElem_mem _
  · right
    have e1 : i = k := by omega
    subst e1
    rw [List.getElem_append_right (by omega)]
    have := (List.getElem?_eq_some_iff.mp e).2
    simp [this]
theorem nws_nml16 {k : Nat} (h : k ≤ 30) : NmL (nws k) := ⟨fun x hx => by
    obtain ⟨i, hi, rfl⟩ := List.mem_map.mp hx
    have hi := List.mem_range.mp hi
    exact (nw_ok ⟨i, by omega⟩).1, by
    refine List.pairwise_iff_getElem.mpr fun i j hi hj hij e => ?_
    have key : ∀ (i : Nat) (h : i < (nws k).length), (nws k)[i] = nw (i : Int) := fun i h => by simp [nws]
    rw [key i hi, key j hj] at e
    rw [nws_len] at hi hj
    have := nw_inj ⟨i, by omega⟩ ⟨j, by omega⟩ e
    have := congrArg Fin.val this
    dsimp only at this
    omega, by rw [nws_len]; exact h⟩
theorem eq_strs {xs ys : List Str} {neg : Bool} {μ : Sto} {R : RP} (hx : ∀ x ∈ xs, sOk x) (hy : ∀ x ∈ ys, sOk x) : tEq neg (.lst (xs.map T.str)) (.lst (ys.map T.str)) μ R = R (.bl (if neg = true then !decide (xs = ys) else decide (xs = ys))) μ :=
  eq_at xs ys .lst .lst rfl rfl hx hy
theorem eq_nons {neg : Bool} {μ : Sto} {R : RP} (h : R (.bl (!neg)) μ) : tEq neg .non .non μ R := by
  unfold tEq
  have e : PyData.eqv PyData.none PyData.none = true := rfl
  cases neg
  · first | exact h | exact ⟨.none, rfl, rfl, .none, rfl, rfl, h⟩
  · first | exact h | exact ⟨.none, rfl, rfl, .none, rfl, rfl, h⟩
/-- belts filled anew, one by one -/
def fl1 (f : Int → Int) (l : Ln) : Ln := ⟨l.g, l.t, l.gi, l.ta, f l.st⟩
def fillL (f : Int → Int) (k : Nat) (ls : List Ln) : List Ln := (ls.take k).map (fl1 f) ++ ls.drop k
theorem fillL_len {f : Int → Int} {k : Nat} {ls : List Ln} : (fillL f k ls).length = ls.length := by
  unfold fillL
  rw [List.length_append, List.length_map, ← List.length_append, List.take_append_drop]
theorem fillL_ends {f : Int → Int} {k : Nat} {ls : List Ln} : ends (fillL f k ls) = ends ls := by
  unfold fillL ends
  rw [List.map_append, List.map_map]
  rw [show ((fun l : Ln => (l.g, l.t)) ∘ fl1 f) = (fun l : Ln => (l.g, l.t)) from rfl, ← List.map_append, List.take_append_drop]
theorem fillL_at {f : Int → Int} {k : Nat} {ls : List Ln} {l : Ln} (e : ls[k]? = some l) : (fillL f k ls)[k]? = some l := by
  have hk := (List.getElem?_eq_some_iff.mp e).1
  unfold fillL
  rw [List.getElem?_append_right (by rw [List.length_map, List.length_take]; omega), List.length_map, List.length_take, show k - min k ls.length = 0 by omega, List.getElem?_drop, Nat.add_zero]
  exact e
theorem fillL_set {f : Int → Int} {k : Nat} {ls : List Ln} {l : Ln} (e : ls[k]? = some l) : (fillL f k ls).set k (fl1 f l) = fillL f (k + 1) ls := by
  obtain ⟨hk, e2⟩ := List.getElem?_eq_some_iff.mp e
  unfold fillL
  have h1 : ((ls.take k).map (fl1 f)).length = k := by rw [List.length_map, List.length_take]; omega
  rw [List.set_append_right _ _ (by omega), h1, Nat.sub_self, List.drop_eq_getElem_cons hk, e2, List.set_cons_zero, List.take_add_one, e, List.map_append, List.append_assoc]
  rfl
theorem fillL_all {f : Int → Int} {ls : List Ln} : fillL f ls.length ls = ls.map (fl1 f) := by
  unfold fillL
  rw [List.take_length, List.drop_length, List.append_nil]
theorem fill_bal {f : Int → Int} {ls : List Ln} {n : Nat} {rs : List Int} : Bal (ls.map (fl1 f)) n rs ↔ Bal ls n rs := by
  have he : ends (ls.map (fl1 f)) = ends ls := by
    rw [← fillL_all]
    exact fillL_ends
  constructor
  · intro B
    refine ⟨⟨B.len, B.pos, fun l hl => B.bal (fl1 f l) (List.mem_map_of_mem hl)⟩, ?_⟩
    have := B.one
    rwa [he] at this
  · intro B
    refine ⟨⟨B.len, B.pos, fun x hx => ?_⟩, ?_⟩
    · obtain ⟨l, hl, rfl⟩ := List.mem_map.mp hx
      exact B.bal l hl
    · have := B.one
      rwa [he]
theorem nw_lates : isName (Str.ofString "latework") = true ∧ isName (Str.ofString "workless") = true ∧ ∀ k : Fin 30, nw (k.val : Int) ≠ Str.ofString "latework" ∧ nw (k.val : Int) ≠ Str.ofString "workless" := by decide +kernel
theorem nws_lates {n : Nat} (h : n ≤ 30) : Str.ofString "latework" ∉ nws n ∧ Str.ofString "workless" ∉ nws n := by
  refine ⟨fun z => ?_, fun z => ?_⟩
  · obtain ⟨i, hi, e⟩ := List.mem_map.mp z
    have hi := List.mem_range.mp hi
    exact (nw_lates.2.2 ⟨i, by omega⟩).1 e
  · obtain ⟨i, hi, e⟩ := List.mem_map.mp z
    have hi := List.mem_range.mp hi
    exact (nw_lates.2.2 ⟨i, by omega⟩).2 e
abbrev n__law_cell : Nat := 1000
def i__law_cell : FnI := ⟨"_law_cell", none, 1, 2, []⟩
def N__law_cell : List Str := ["_law_script", "_law_k"]
def c__law_cell : List Sx := [.ife (.cmp .Lt (.var 1) (.bif .len false [(.var 0)])) [.ret (.idx (.var 0) (.var 1))] [],
 .ret (.cint 0)]
abbrev n__law_is_ready : Nat := 1001
def i__law_is_ready : FnI := ⟨"_law_is_ready", none, 1, 2, []⟩
def N__law_is_ready : List Str := ["_law_due", "_law_work", "_law_line"]
def c__law_is_ready : List Sx := [.ret (.bif .all false [(.comp false [2] (.nm 2) .val [(.var 0)] (.cmp .Eq (.idx (.var 2) (.cint 1)) (.var 1)) (.cmp .GtE (.idx (.var 2) (.cint 4)) (.idx (.var 2) (.cint 3))))])]
abbrev n__law_pieces : Nat := 1002
def i__law_pieces : FnI := ⟨"_law_pieces", none, 1, 2, []⟩
def N__law_pieces : List Str := ["_law_many", "_law_lines_here", "_law_found", "_law_work", "_law_part", "_law_step", "_law_line"]
def c__law_pieces : List Sx := [.asg (.nm 2) (.lst true []),
 .for_ (.nm 3) .rng1 [(.var 0)] [.ife (.bif .all false [(.comp false [4] (.nm 4) .val [(.var 2)] (.cbl true) (.cmp .NotIn (.var 3) (.var 4)))]) [.asg (.nm 4) (.lst true [(.var 3)]),
 .for_ (.nm 5) .rng1 [(.var 0)] [.for_ (.nm 6) .val [(.var 1)] [.ife (.andor true [(.cmp .In (.idx (.var 6) (.cint 0)) (.var 4)), (.cmp .NotIn (.idx (.var 6) (.cint 1)) (.var 4))]) [.expr (.lm .append (.var 4) [(.idx (.var 6) (.cint 1))])] [],
 .ife (.andor true [(.cmp .In (.idx (.var 6) (.cint 1)) (.var 4)), (.cmp .NotIn (.idx (.var 6) (.cint 0)) (.var 4))]) [.expr (.lm .append (.var 4) [(.idx (.var 6) (.cint 0))])] []]],
 .expr (.lm .append (.var 2) [(.bif .sorted false [(.var 4)])])] []],
 .ret (.var 2)]
abbrev n__law_hall_like : Nat := 1003
def i__law_hall_like : FnI := ⟨"_law_hall_like", none, 4, 3, []⟩
def N__law_hall_like : List Str := ["_law_made_here", "_law_due", "_law_many", "_law_work", "_law_k", "_law_floor", "_law_line"]
def c__law_hall_like : List Sx := [.for_ (.nm 3) .rng1 [(.var 2)] [.ife (.cmp .NotEq (.meth n_Hall_entering 0 (.var 0) [(.var 3)]) (.comp false [4] (.nm 4) .rng1 [(.bif .len false [(.var 1)])] (.cmp .Eq (.idx (.idx (.var 1) (.var 4)) (.cint 1)) (.var 3)) (.var 4))) [.ret (.cbl false)] [],
 .ife (.cmp .NotEq (.meth n_Hall_leaving 0 (.var 0) [(.var 3)]) (.comp false [4] (.nm 4) .rng1 [(.bif .len false [(.var 1)])] (.cmp .Eq (.idx (.idx (.var 1) (.var 4)) (.cint 0)) (.var 3)) (.var 4))) [.ret (.cbl false)] []],
 .for_ (.nm 4) .rng1 [(.bif .len false [(.var 1)])] [.ife (.cmp .NotEq (.meth n_Hall_belt_at 0 (.var 0) [(.var 4)]) (.idx (.var 1) (.var 4))) [.ret (.cbl false)] []],
 .asg (.nm 5) (.make 2 [(.var 0)]),
 .ife (.andor false [(.cmp .NotEq (.meth n_Floor_lying 0 (.var 5) []) (.comp false [6] (.nm 6) .val [(.var 1)] (.cbl true) (.idx (.var 6) (.cint 4)))), (.cmp .NotEq (.call n_pieces_of 0 [(.var 0)]) (.call n__law_pieces 0 [(.var 2), (.var 1)]))]) [.ret (.cbl false)] [],
 .ret (.cmp .Eq (.comp false [3] (.nm 3) .rng1 [(.var 2)] (.cbl true) (.meth n_Floor_ready 0 (.var 5) [(.var 3)])) (.comp false [3] (.nm 3) .rng1 [(.var 2)] (.cbl true) (.call n__law_is_ready 0 [(.var 1), (.var 3)])))]
abbrev n__law_mix : Nat := 1004
def i__law_mix : FnI := ⟨"_law_mix", none, 1, 2, []⟩
def N__law_mix : List Str := ["_law_cell_here", "_law_way", "_law_first"]
def c__law_mix : List Sx := [.asg (.nm 2) (.bin .Mod false (.bin .Add false (.bin .Mult false (.var 0) (.cint 48271)) (.bin .Mult false (.var 1) (.cint 7919))) (.cint 2147483647)),
 .ret (.bin .Mod false (.bin .Mult false (.var 2) (.bin .Add false (.cint 16807) (.bin .Mult false (.cint 2) (.var 1)))) (.cint 1000003))]
abbrev n__law_lines : Nat := 1005
def i__law_lines : FnI := ⟨"_law_lines", none, 2, 2, []⟩
def N__law_lines : List Str := ["_law_script", "_law_many", "_law_lines_here", "_law_size", "_law_k", "_law_cell_here", "_law_draw", "_law_line"]
def c__law_lines : List Sx := [.asg (.nm 2) (.lst true []),
 .asg (.nm 3) (.bin .Mod false (.bin .FloorDiv false (.call n__law_cell 0 [(.var 0), (.cint 1)]) (.cint 6)) (.cint 9)),
 .ife (.cmp .Eq (.bin .Mod false (.call n__law_mix 0 [(.call n__law_cell 0 [(.var 0), (.cint 1)]), (.cint 2)]) (.cint 8)) (.cint 1)) [.asg (.nm 3) (.bin .Add false (.cint 31) (.bin .Mod false (.bin .FloorDiv false (.call n__law_mix 0 [(.call n__law_cell 0 [(.var 0), (.cint 1)]), (.cint 2)]) (.cint 8)) (.cint 30)))] [],
 .for_ (.nm 4) .rng1 [(.var 3)] [.asg (.nm 5) (.call n__law_cell 0 [(.var 0), (.bin .Add false (.cint 4) (.var 4))]),
 .asg (.nm 6) (.call n__law_mix 0 [(.var 5), (.var 4)]),
 .asg (.nm 7) (.lst false [(.bin .Mod false (.var 6) (.var 1)), (.bin .Mod false (.bin .FloorDiv false (.var 6) (.cint 6)) (.var 1)), (.bin .Add false (.cint 1) (.bin .Mod false (.var 5) (.bin .Sub false (.cpow 10 30 1000000000000000000000000000000) (.cint 1)))), (.bin .Add false (.cint 1) (.bin .Mod false (.bin .FloorDiv false (.var 6) (.cint 36)) (.cint 9))), (.bin .Mod false (.bin .FloorDiv false (.var 6) (.cint 324)) (.cint 12))]),
 .ife (.cmp .Eq (.bin .Mod false (.bin .FloorDiv false (.var 6) (.cint 3888)) (.cint 3)) (.cint 1)) [.asg (.nm 7) (.bin .Add false (.slice false (.var 7) .cnon (.cint 2)) (.lst false [(.idx (.var 7) (.cint 3)), (.idx (.var 7) (.cint 2)), (.bin .Mod false (.bin .FloorDiv false (.var 5) (.cint 5)) (.cpow 10 29 100000000000000000000000000000))]))] [],
 .expr (.lm .append (.var 2) [(.bif .tuple false [(.var 7)])])],
 .ret (.var 2)]
abbrev n__law_made : Nat := 1006
def i__law_made : FnI := ⟨"_law_made", none, 3, 2, []⟩
def N__law_made : List Str := ["_law_many", "_law_lines_here", "_law_letters", "_law_hall", "_law_k", "_law_line"]
def c__law_made : List Sx := [.asg (.nm 2) (.cstr "abcdefghijklmnopqrstuvwxyz"),
 .asg (.nm 3) (.make 3 []),
 .for_ (.nm 4) .rng1 [(.var 0)] [.expr (.meth n_Hall_work 0 (.var 3) [(.bin .Add false (.bin .Add false (.idx (.var 2) (.bin .Mod false (.bin .Mult false (.cint 7) (.var 4)) (.cint 26))) (.idx (.var 2) (.bin .Mod false (.bin .Mult false (.cint 11) (.var 4)) (.cint 26)))) (.bin .Mult false (.cstr "x") (.bin .FloorDiv false (.var 4) (.cint 26))))])],
 .for_ (.nm 5) .val [(.var 1)] [.expr (.meth n_Hall_belt 0 (.var 3) [(.idx (.var 5) (.cint 0)), (.idx (.var 5) (.cint 1)), (.idx (.var 5) (.cint 2)), (.idx (.var 5) (.cint 3)), (.idx (.var 5) (.cint 4))])],
 .ret (.var 3)]
abbrev n__law_refused : Nat := 1007
def i__law_refused : FnI := ⟨"_law_refused", none, 4, 2, []⟩
def N__law_refused : List Str := ["_law_hall", "_law_rooms", "_law_refused_here", "e"]
def c__law_refused : List Sx := [.asg (.nm 2) (.cbl false),
 .tryA [.expr (.call n_backed 0 [(.var 0), (.var 1)])] 12 3 [.asg (.nm 2) (.andor true [(.isx 3 8), (.isx 3 999), (.not (.isx2 3 7 15))])],
 .ret (.var 2)]
abbrev n__law_spoilt : Nat := 1008
def i__law_spoilt : FnI := ⟨"_law_spoilt", none, 2, 3, []⟩
def N__law_spoilt : List Str := ["_law_script", "_law_lines_here", "_law_rooms", "_law_draw", "_law_at"]
def c__law_spoilt : List Sx := [.asg (.nm 3) (.call n__law_mix 0 [(.call n__law_cell 0 [(.var 0), (.cint 2)]), (.cint 8)]),
 .ife (.andor true [(.cmp .Eq (.bin .Mod false (.var 3) (.cint 9)) (.cint 0)), (.cmp .Gt (.bif .len false [(.var 1)]) (.cint 0))]) [.asg (.nm 4) (.bin .Mod false (.bin .FloorDiv false (.var 3) (.cint 9)) (.bif .len false [(.var 1)])),
 .ret (.bin .Add false (.bin .Add false (.slice false (.var 2) .cnon (.var 4)) (.lst false [(.bin .Sub false (.bin .Sub false (.idx (.idx (.var 1) (.var 4)) (.cint 4)) (.cint 1)) (.bin .Mod false (.bin .FloorDiv false (.var 3) (.cint 90)) (.cint 3)))])) (.slice false (.var 2) (.bin .Add false (.var 4) (.cint 1)) .cnon))] [],
 .ife (.andor true [(.cmp .Eq (.bin .Mod false (.var 3) (.cint 9)) (.cint 1)), (.cmp .Gt (.bif .len false [(.var 1)]) (.cint 0))]) [.ret (.slice false (.var 2) (.cint 1) .cnon)] [],
 .ret (.bin .Add false (.var 2) (.lst false [(.bin .Mod false (.bin .FloorDiv false (.var 3) (.cint 9)) (.cint 50))]))]
abbrev n__law_with_back : Nat := 1009
def i__law_with_back : FnI := ⟨"_law_with_back", none, 1, 2, []⟩
def N__law_with_back : List Str := ["_law_lines_here", "_law_rooms", "_law_back", "_law_line", "_law_room"]
def c__law_with_back : List Sx := [.asg (.nm 2) (.comp false [3, 4] (.tup [(.nm 3), (.nm 4)]) .zip [(.var 0), (.var 1)] (.cbl true) (.tup [(.idx (.var 3) (.cint 1)), (.idx (.var 3) (.cint 0)), (.idx (.var 3) (.cint 3)), (.idx (.var 3) (.cint 2)), (.bin .Sub false (.var 4) (.idx (.var 3) (.cint 4)))])),
 .ret (.bin .Add false (.var 0) (.var 2))]
abbrev n_law : Nat := 1010
def i_law : FnI := ⟨"law", none, 7, 1, []⟩
def N_law : List Str := ["_law_script", "_law_many", "_law_lines_here", "_law_hall", "_law_names", "_law_rooms", "_law_k", "_law_line", "_law_draw", "_law_handed", "_law_made_here", "_law_due"]
def c_law : List Sx := [.asg (.nm 1) (.bin .Add false (.cint 1) (.bin .Mod false (.call n__law_cell 0 [(.var 0), (.cint 1)]) (.cint 6))),
 .ife (.cmp .Eq (.bin .Mod false (.call n__law_mix 0 [(.call n__law_cell 0 [(.var 0), (.cint 1)]), (.cint 4)]) (.cint 8)) (.cint 1)) [.asg (.nm 1) (.bin .Add false (.cint 7) (.bin .Mod false (.bin .FloorDiv false (.call n__law_mix 0 [(.call n__law_cell 0 [(.var 0), (.cint 1)]), (.cint 4)]) (.cint 8)) (.cint 23)))] [],
 .asg (.nm 2) (.call n__law_lines 0 [(.var 0), (.var 1)]),
 .asg (.nm 3) (.call n__law_made 0 [(.var 1), (.var 2)]),
 .asg (.nm 4) (.meth n_Hall_names 0 (.var 3) []),
 .asg (.nm 5) (.lst true []),
 .for_ (.tup [(.nm 6), (.nm 7)]) .enum [(.var 2)] [.asg (.nm 8) (.call n__law_mix 0 [(.call n__law_cell 0 [(.var 0), (.bin .Add false (.cint 12) (.var 6))]), (.cint 9)]),
 .expr (.lm .append (.var 5) [(.bin .Add false (.idx (.var 7) (.cint 4)) (.idx (.lst false [(.cint 0), (.bin .Mod false (.var 8) (.cint 40)), (.bin .Mod false (.call n__law_cell 0 [(.var 0), (.bin .Add false (.cint 12) (.var 6))]) (.cpow 10 29 100000000000000000000000000000))]) (.bin .Mod false (.bin .FloorDiv false (.var 8) (.cint 40)) (.cint 3))))])],
 .wk,
 .ife (.cmp .Lt (.bin .Mod false (.call n__law_mix 0 [(.call n__law_cell 0 [(.var 0), (.cint 2)]), (.cint 8)]) (.cint 9)) (.cint 3)) [.ret (.andor true [(.call n__law_refused 0 [(.var 3), (.call n__law_spoilt 0 [(.var 0), (.var 2), (.var 5)])]), (.cmp .Eq (.meth n_Hall_belts 0 (.var 3) []) (.var 2))])] [],
 .asg (.nm 9) (.bif .list false [(.var 5)]),
 .asg (.nm 10) (.call n_backed 0 [(.var 3), (.var 9)]),
 .asg (.nm 11) (.call n__law_with_back 0 [(.var 2), (.var 5)]),
 .ife (.andor false [(.not (.isc 3 (.var 10))), (.cmp .NotEq (.meth n_Hall_names 0 (.var 10) []) (.var 4)), (.cmp .NotEq (.meth n_Hall_belts 0 (.var 10) []) (.var 11))]) [.ret (.cbl false)] [],
 .ife (.andor false [(.cmp .NotEq (.var 9) (.var 5)), (.cmp .NotEq (.meth n_Hall_belts 0 (.var 3) []) (.var 2)), (.cmp .NotEq (.meth n_Hall_names 0 (.var 3) []) (.var 4)), (.not (.call n__law_hall_like 0 [(.var 10), (.var 11), (.var 1)]))]) [.ret (.cbl false)] [],
 .for_ (.nm 6) .rng1 [(.bif .len false [(.var 2)])] [.expr (.meth n_Hall_fill 0 (.var 3) [(.var 6), (.bin .Add false (.bin .FloorDiv false (.idx (.idx (.var 2) (.var 6)) (.cint 4)) (.cint 2)) (.cint 1))])],
 .ife (.andor false [(.cmp .NotEq (.meth n_Hall_belts 0 (.var 10) []) (.var 11)), (.cmp .NotEq (.idx (.call n_rates_of 0 [(.var 10)]) (.cint 0)) (.idx (.call n_rates_of 0 [(.var 3)]) (.cint 0)))]) [.ret (.cbl false)] [],
 .for_ (.nm 6) .rng1 [(.bif .len false [(.var 11)])] [.expr (.meth n_Hall_fill 0 (.var 10) [(.var 6), (.bin .Add false (.bin .FloorDiv false (.idx (.idx (.var 11) (.var 6)) (.cint 4)) (.cint 3)) (.cint 2))])],
 .expr (.meth n_Hall_work 0 (.var 10) [(.cstr "latework")]),
 .expr (.meth n_Hall_work 0 (.var 3) [(.cstr "workless")]),
 .ife (.andor false [(.cmp .NotEq (.meth n_Hall_names 0 (.var 10) []) (.bin .Add false (.var 4) (.lst false [(.cstr "latework")]))), (.cmp .NotEq (.meth n_Hall_names 0 (.var 3) []) (.bin .Add false (.var 4) (.lst false [(.cstr "workless")])))]) [.ret (.cbl false)] [],
 .ife (.andor false [(.cmp .NotEq (.call n_pieces_of 0 [(.var 10)]) (.call n__law_pieces 0 [(.bin .Add false (.var 1) (.cint 1)), (.var 11)])), (.cmp .NotEq (.call n_pieces_of 0 [(.var 3)]) (.call n__law_pieces 0 [(.bin .Add false (.var 1) (.cint 1)), (.var 2)]))]) [.ret (.cbl false)] [],
 .ret (.cmp .Eq (.meth n_Hall_belts 0 (.var 3) []) (.comp false [7] (.nm 7) .val [(.var 2)] (.cbl true) (.bin .Add false (.slice false (.var 7) .cnon (.cint 4)) (.tup [(.bin .Add false (.bin .FloorDiv false (.idx (.var 7) (.cint 4)) (.cint 2)) (.cint 1))]))))]

def S__law_cell : TSp := fun ts μ F R => ∃ (ns : List Int) (k : Int), ts = [.scr (ns.map T.int), .int k] ∧ 0 ≤ k ∧ R (.int (cel ns k)) μ
structure A__law_cell (G : Tab) (Γ : Nat → TSp) : Prop where
  triv : True
abbrev B__law_cell (G : Tab) (Γ : Nat → TSp) : Prop := ∀ ts μ F R, S__law_cell ts μ F R → denSs G Γ c__law_cell (bodyD R F) (startT N__law_cell.length ts) μ
theorem body__law_cell {G : Tab} {Γ : Nat → TSp} (A : A__law_cell G Γ) : B__law_cell G Γ := by
  rintro ts μ F R ⟨ns, k, rfl, hk, hR⟩
  unfold c__law_cell
  simp only [Rh.startT, List.length_cons, List.length_nil, List.map_cons, List.map_nil, List.replicate, List.cons_append, List.nil_append, Nat.reduceAdd, Nat.reduceSub, N__law_cell]
  apply e_cons; apply e_ife; simp_arith []; repeat ((with_reducible refine And.intro ?_ ?_); omega)
  by_cases h : k < ns.length
  · simp only [h, if_true]
    have e : ns[k.toNat]? = some (cel ns k) := by
      unfold cel
      rw [List.getElem?_eq_getElem (by omega)]
      rfl
    apply e_cons; simp only [denS]; (try simp_arith [at_map hk e]); repeat ((with_reducible refine And.intro ?_ ?_); omega)
    exact fin_id hR
  · simp only [h, if_false]
    apply e_cons; simp only [denS]; (try simp_arith []); repeat ((with_reducible refine And.intro ?_ ?_); omega)
    have e : cel ns k = 0 := by
      unfold cel
      rw [List.getElem?_eq_none (by omega)]
      rfl
    rw [e] at hR
    exact fin_id hR
def S__law_is_ready : TSp := fun ts μ F R => ∃ (ls : List Ln) (w : Int), ts = [.lst (ls.map Ln.tr), .int w] ∧ ls.length ≤ 1000 ∧ R (.bl (rdy ls (ls.map Ln.st) w)) μ
structure A__law_is_ready (G : Tab) (Γ : Nat → TSp) : Prop where
  triv : True
abbrev B__law_is_ready (G : Tab) (Γ : Nat → TSp) : Prop := ∀ ts μ F R, S__law_is_ready ts μ F R → denSs G Γ c__law_is_ready (bodyD R F) (startT N__law_is_ready.length ts) μ
theorem body__law_is_ready {G : Tab} {Γ : Nat → TSp} (A : A__law_is_ready G Γ) : B__law_is_ready G Γ := by
  rintro ts μ F R ⟨ls, w, rfl, hz, hR⟩
  unfold c__law_is_ready
  simp only [Rh.startT, List.length_cons, List.length_nil, List.map_cons, List.map_nil, List.replicate, List.cons_append, List.nil_append, Nat.reduceAdd, Nat.reduceSub, N__law_is_ready]
  apply e_cons; simp only [denS]; (try simp_arith []); repeat ((with_reducible refine And.intro ?_ ?_); omega)
  refine onG_at .lst fun gd hgd => ?_
  refine comp_pure (fun t => match t with | .tup [.int g, .int t, .int gi, .int ta, .int s5] => decide (t = w) | _ => false) (fun t => match t with | .tup [.int g, .int t, .int gi, .int ta, .int s5] => .bl (decide (s5 ≥ ta)) | t => t) (hgd _ .lst) (by rw [List.length_map, sz]; omega) ?_ ?_
  · intro u hu Y N hY hN
    obtain ⟨l, hl, rfl⟩ := List.mem_map.mp hu
    have hY : decide (l.t = w) = true → Y (.bl (decide (l.st ≥ l.ta))) μ := hY
    have hN : decide (l.t = w) = false → N μ := hN
    simp only [wipeT]
    simp_arith [Ln.tr]
    by_cases e : l.t = w
    · rw [if_pos e]
      exact hY (decide_eq_true e)
    · rw [if_neg e]
      exact hN (decide_eq_false e)
  have e1 : (((ls.map Ln.tr).filter (fun t => match t with | .tup [.int g, .int t, .int gi, .int ta, .int s5] => decide (t = w) | _ => false)).map (fun t => match t with | .tup [.int g, .int t, .int gi, .int ta, .int s5] => .bl (decide (s5 ≥ ta)) | t => t)) = (((ls.filter fun l => decide (l.t = w)).map fun l => decide (l.st ≥ l.ta)).map T.bl) := by
    rw [List.filter_map, List.map_map, List.map_map]
    rfl
  rw [e1]
  simp only [newL]
  refine ⟨_, rfl, _, rfl, ?_⟩
  have e2 : ((ls.filter fun l => decide (l.t = w)).map fun l => decide (l.st ≥ l.ta)).all id = rdy ls (ls.map Ln.st) w := by
    rw [Bool.eq_iff_iff, ← hps_nil, rdy_hps, List.all_eq_true]
    constructor
    · intro h l hl e
      have := h _ (List.mem_map_of_mem (List.mem_filter.mpr ⟨hl, decide_eq_true e⟩))
      have := of_decide_eq_true this
      unfold hpOf
      simp
      omega
    · intro h x hx
      obtain ⟨l, hl, rfl⟩ := List.mem_map.mp hx
      obtain ⟨h1, h2⟩ := List.mem_filter.mp hl
      have := h l h1 (of_decide_eq_true h2)
      unfold hpOf at this
      simp at this
      exact decide_eq_true (by omega)
  rw [e2]
  exact fin_id hR
def S__law_pieces : TSp := fun ts μ F R => ∃ (ls : List Ln) (n : Nat), ts = [.int n, .lst (ls.map Ln.tr)] ∧ Inr (ends ls) n ∧ n < 64 ∧ ls.length ≤ 1000 ∧ R (lsT (piecesOf (ends ls) n)) μ
structure A__law_pieces (G : Tab) (Γ : Nat → TSp) : Prop where
  triv : True
abbrev B__law_pieces (G : Tab) (Γ : Nat → TSp) : Prop := ∀ ts μ F R, S__law_pieces ts μ F R → denSs G Γ c__law_pieces (bodyD R F) (startT N__law_pieces.length ts) μ
theorem body__law_pieces {G : Tab} {Γ : Nat → TSp} (A : A__law_pieces G Γ) : B__law_pieces G Γ := by
  rintro ts μ F R ⟨ls, n, rfl, hi, hn, hz, hR⟩
  unfold c__law_pieces
  simp only [Rh.startT, List.length_cons, List.length_nil, List.map_cons, List.map_nil, List.replicate, List.cons_append, List.nil_append, Nat.reduceAdd, Nat.reduceSub, N__law_pieces]
  apply e_cons; simp only [denS]; (try simp_arith []); repeat ((with_reducible refine And.intro ?_ ?_); omega)
  intro q hq
  apply e_cons; simp only [denS]; (try simp_arith []); repeat ((with_reducible refine And.intro ?_ ?_); omega)
  refine for_rng (fun k ρ μ' => (∃ o3 o4 o5 o6, ρ = [some (.int n), some (.lst (ls.map Ln.tr)), some (.own q), o3, o4, o5, o6]) ∧ μ' = μ.set q (.lst (((firsts (ends ls) k).map (compL (ends ls) n)).map fun x => .lst (x.map T.int)))) ⟨⟨_, _, _, _, rfl⟩, rfl⟩ ?_ ?_
  · rintro ρ μ' ⟨⟨o3, o4, o5, o6, rfl⟩, rfl⟩
    refine ⟨trivial, ?_⟩
    apply e_cons; simp only [denS]; (try simp_arith []); repeat ((with_reducible refine And.intro ?_ ?_); omega)
    exact ⟨lsT (piecesOf (ends ls) n), μ, ⟨[q], .own set_self (List.mem_singleton.mpr rfl) (.refl _), Rh.Sub.set_none hq, fun a ha => by cases List.mem_singleton.mp ha; exact hq⟩, hR⟩
  rintro k ρ μ' hk ⟨⟨o3, o4, o5, o6, rfl⟩, rfl⟩
  refine ⟨trivial, ?_⟩
  have hlen := firsts_len (es := ends ls) (n := n) (k := k)
  have hfn := fst_not hi hk
  have hsuc := piecesOf_succ (es := ends ls) (n := n) (k := k)
  generalize (firsts (ends ls) k).map (compL (ends ls) n) = ps at hlen hfn hsuc ⊢
  simp_arith []
  apply e_cons; apply e_ife; simp_arith []; repeat ((with_reducible refine And.intro ?_ ?_); omega)
  refine onG_at (.own set_self) fun gd hgd => ?_
  refine comp_pure (fun _ => true) (fun t => match t with | .lst us => .bl (!hasB k us) | t => t) (hgd _ (.own set_self)) (by rw [List.length_map, sz]; omega) ?_ ?_
  · intro u hu Y N hY _
    obtain ⟨x, hx, rfl⟩ := List.mem_map.mp hu
    have hY := hY rfl
    dsimp only at hY
    rw [hasB_map] at hY
    simp only [wipeT]
    simp_arith [in_lstK]
    exact hY
  have e1 : ((ps.map fun x => T.lst (x.map T.int)).filter (fun _ => true)).map (fun t => match t with | .lst us => .bl (!hasB k us) | t => t) = (ps.map fun x => !decide ((k : Int) ∈ x)).map T.bl := by
    rw [List.filter_eq_self.mpr (fun _ _ => rfl), List.map_map, List.map_map]
    refine List.map_congr_left fun x hx => ?_
    show T.bl (!hasB k (x.map T.int)) = _
    rw [hasB_map]
    rfl
  rw [e1]
  simp only [newL]
  refine ⟨_, rfl, _, rfl, ?_⟩
  have e2 : (ps.map fun x => !decide ((k : Int) ∈ x)).all id = true ↔ Fst (ends ls) (k : Int) := by
    rw [hfn, List.all_eq_true]
    constructor
    · intro h x hx hk
      have := h _ (List.mem_map_of_mem hx)
      simp [hk] at this
    · intro h b hb
      obtain ⟨x, hx, rfl⟩ := List.mem_map.mp hb
      simp [h x hx]
  by_cases hf : Fst (ends ls) (k : Int)
  case neg =>
    rw [if_neg (fun z => hf (e2.mp z))]
    rw [if_neg hf, List.append_nil] at hsuc
    exact ⟨_, _, .refl _ _, ⟨_, _, _, _, rfl⟩, by rw [hsuc]⟩
  rw [if_pos (e2.mpr hf)]
  rw [if_pos hf] at hsuc
  clear e1 e2 hgd gd
  apply e_cons; simp only [denS]; (try simp_arith []); repeat ((with_reducible refine And.intro ?_ ?_); omega)
  intro p hp
  have npq : p ≠ q := (nofr set_self hp).symm
  have hp' : μ p = none := by rwa [set_ne npq] at hp
  apply e_cons; simp only [denS]; (try simp_arith []); repeat ((with_reducible refine And.intro ?_ ?_); omega)
  generalize hPS : (ps.map fun x => T.lst (x.map T.int)) = PS at hp ⊢
  refine for_rng (fun j ρ μ' => ∃ pt : List Int, (∃ o5 o6, ρ = [some (.int n), some (.lst (ls.map Ln.tr)), some (.own q), some (.int k), some (.own p), o5, o6]) ∧ μ' = (μ.set q (.lst PS)).set p (.lst (pt.map T.int)) ∧ GI (ends ls) k pt ∧ ((∀ l ∈ ls, Cl1 pt l) ∨ j + 1 ≤ pt.length)) ⟨[(k : Int)], ⟨_, _, rfl⟩, rfl, ⟨List.pairwise_singleton _ _, List.mem_singleton.mpr rfl, fun x hx => by cases List.mem_singleton.mp hx; exact .refl⟩, .inr (Nat.le_refl _)⟩ ?_ ?_
  · rintro ρ μ' ⟨pt, ⟨o5, o6, rfl⟩, rfl, hg, hc⟩
    refine ⟨trivial, ?_⟩
    have hle := nodup_le n pt hg.nd fun x hx => (hg.con x hx).inr hi ⟨by omega, by omega⟩
    have hc : ∀ l ∈ ls, Cl1 pt l := hc.resolve_right (by omega)
    have hPl : PS.length ≤ 64 := by rw [← hPS, List.length_map]; omega
    have gq : ((μ.set q (.lst PS)).set p (.lst (pt.map T.int))) q = some (.lst PS) := by rw [set_ne npq.symm, set_self]
    apply e_cons; simp only [denS]; (try simp_arith [gq]); repeat ((with_reducible refine And.intro ?_ ?_); omega)
    refine ⟨pt, rfl, fun ys y1 y2 => ⟨by omega, [some (.int n), some (.lst (ls.map Ln.tr)), some (.own q), some (.int k), none, none, none], μ.set q (.lst (PS ++ [.lst (ys.map T.int)])), ⟨[], .keep (.refl _) (.keep (.refl _) (.keep (.refl _) (.keep (.refl _) (.gone (.gone (.gone .nil)))))), fun a o z => ?_, fun _ z => nomatch z⟩, ⟨_, _, _, _, rfl⟩, ?_⟩⟩
    · by_cases e : a = q
      · subst e
        rw [set_self] at z ⊢
        exact z
      · rw [set_ne e] at z ⊢
        rw [set_ne (nofr z hp'), set_ne e]
        exact z
    · have := filled_comp hi (by omega) (by omega) hg hc y1 y2
      rw [hsuc, this, List.map_append, hPS]
      rfl
  rintro j ρ μ' hj ⟨pt, ⟨o5, o6, rfl⟩, rfl, hg, hc⟩
  refine ⟨trivial, ?_⟩
  simp_arith []
  apply e_cons; simp only [denS]; (try simp_arith []); repeat ((with_reducible refine And.intro ?_ ?_); omega)
  refine onG_at .lst fun gd hgd => ?_
  refine for_map (fun i ρ μ' => ∃ p2 : List Int, (∃ o6, ρ = [some (.int n), some (.lst (ls.map Ln.tr)), some (.own q), some (.int k), some (.own p), some (.int j), o6]) ∧ μ' = (μ.set q (.lst PS)).set p (.lst (p2.map T.int)) ∧ GI (ends ls) k p2 ∧ (pt.length < p2.length ∨ (p2 = pt ∧ ∀ (a : Nat) l, a < i → ls[a]? = some l → Cl1 pt l)) ∧ ((∀ l ∈ ls, Cl1 pt l) → p2 = pt)) ⟨pt, ⟨_, rfl⟩, rfl, hg, .inr ⟨rfl, fun a l z => absurd z (Nat.not_lt_zero a)⟩, fun _ => rfl⟩ ?_ ?_
  · rintro ρ μ' ⟨p2, ⟨o6, rfl⟩, rfl, g1, g2, g3⟩
    refine ⟨hgd _ .lst, ?_⟩
    refine ⟨_, _, .refl _ _, ⟨_, _, rfl⟩, p2, rfl, g1, ?_⟩
    rcases g2 with z | ⟨rfl, z⟩
    · rcases hc with y | y
      · rw [g3 y] at z
        omega
      · right
        omega
    · left
      intro l hl
      obtain ⟨a, ha, rfl⟩ := List.mem_iff_getElem.mp hl
      exact z a _ ha (List.getElem?_eq_getElem ha)
  rintro i l ρ μ' hi2 ⟨p2, ⟨o6, rfl⟩, rfl, g1, g2, g3⟩
  refine ⟨hgd _ .lst, ?_⟩
  have hlm := List.mem_of_getElem? hi2
  have hle := nodup_le n p2 g1.nd fun x hx => (g1.con x hx).inr hi ⟨by omega, by omega⟩
  have step : ∃ p3, p3 = stp p2 l ∧ GI (ends ls) k p3 ∧ (pt.length < p3.length ∨ (p3 = pt ∧ ∀ (a : Nat) l, a < i + 1 → ls[a]? = some l → Cl1 pt l)) ∧ ((∀ l ∈ ls, Cl1 pt l) → p3 = pt) := by
    refine ⟨_, rfl, add1_gi (add1_gi g1 (Or.inl (ends_mem hlm))) (Or.inr (ends_mem hlm)), ?_, fun h => ?_⟩
    · rcases g2 with z | ⟨rfl, z⟩
      · exact .inl (Nat.lt_of_lt_of_le z stp_len)
      · rcases stp_or (p := p2) (l := l) with y | ⟨y, y2⟩
        · exact .inl y
        · refine .inr ⟨y, fun a x ha ex => ?_⟩
          by_cases e : a = i
          · subst e
            rw [hi2] at ex
            cases ex
            exact y2
          · exact z a x (by omega) ex
    · rw [g3 h]
      exact stp_same (h l hlm)
  obtain ⟨p3, e3, st⟩ := step
  have gp : ∀ ys : List Int, ((μ.set q (.lst PS)).set p (.lst (ys.map T.int))) p = some (.lst (ys.map T.int)) := fun ys => set_self
  simp_arith [Ln.tr]
  apply e_cons
  refine e_join (fun ρ μ3 => ρ = [some (.int n), some (.lst (ls.map Ln.tr)), some (.own q), some (.int k), some (.own p), some (.int j), some (.tup [.int l.g, .int l.t, .int l.gi, .int l.ta, .int l.st])] ∧ μ3 = (μ.set q (.lst PS)).set p (.lst ((add1 p2 l.g l.t).map T.int))) ?_ ?_
  case refine_2 =>
    simp_arith [in_ownK (gp p2)]
    rcases add1_or (p := p2) (a := l.g) (b := l.t) with ⟨h1, h2, e⟩ | ⟨h1, e⟩
    · rw [e]
      simp only [h1, h2, if_true, not_false_eq_true]
      have := gp p2
      apply e_cons; simp only [denS]; (try simp_arith [this]); repeat ((with_reducible refine And.intro ?_ ?_); omega)
      rw [set_set, List.map_append]
      rfl
    · rw [e]
      by_cases h2 : l.g ∈ p2
      · have h3 : l.t ∈ p2 := Classical.byContradiction fun z => h1 ⟨h2, z⟩
        simp only [h2, h3, if_true, not_true_eq_false, if_false]
      · simp only [h2, if_false]
  rintro ρ μ3 ⟨rfl, rfl⟩
  have hle2 := (add1_len (p := p2) (a := l.g) (b := l.t)).2
  have e4 : p3 = add1 (add1 p2 l.g l.t) l.t l.g := e3
  generalize add1 p2 l.g l.t = p4 at hle2 e4 ⊢
  apply e_cons; apply e_ife; simp_arith [in_ownK (gp p4)]; repeat ((with_reducible refine And.intro ?_ ?_); omega)
  rcases add1_or (p := p4) (a := l.t) (b := l.g) with ⟨h1, h2, e⟩ | ⟨h1, e⟩
  · rw [e] at e4
    simp only [h1, h2, if_true, not_false_eq_true]
    have := gp p4
    apply e_cons; simp only [denS]; (try simp_arith [this]); repeat ((with_reducible refine And.intro ?_ ?_); omega)
    exact ⟨_, _, .refl _ _, ⟨_, rfl⟩, p3, by rw [set_set, e4, List.map_append]; rfl, st⟩
  · rw [e] at e4
    subst e4
    by_cases h2 : l.t ∈ p3
    · have h3 : l.g ∈ p3 := Classical.byContradiction fun z => h1 ⟨h2, z⟩
      simp only [h2, h3, if_true, not_true_eq_false, if_false]
      exact ⟨_, _, .refl _ _, ⟨_, rfl⟩, p3, rfl, st⟩
    · simp only [h2, if_false]
      exact ⟨_, _, .refl _ _, ⟨_, rfl⟩, p3, rfl, st⟩
theorem eq_trR {l : Ln} {neg : Bool} {μ : Sto} {R : RP} : tEq neg l.tr l.tr μ R = R (.bl (!neg)) μ := by
  have h := @eq_hasE (Tp Int) _ _ μ l.tr l.tr (lnP l) (lnP l) neg R (Has.of (x := lnP l) fun _ _ => trivial) (Has.of (x := lnP l) fun _ _ => trivial) rfl
  rw [h]
  cases neg <;> simp
theorem eq_lsT {a b : List (List Int)} {neg : Bool} {μ : Sto} {R : RP} : tEq neg (lsT a) (lsT b) μ R = R (.bl (if neg = true then !decide (a = b) else decide (a = b))) μ :=
  @eq_hasE (List (List Int)) _ _ μ (lsT a) (lsT b) a b neg R (Has.of (x := (a : List (List Int))) fun _ _ _ _ => trivial) (Has.of (x := (b : List (List Int))) fun _ _ _ _ => trivial) rfl
def S__law_hall_like : TSp := fun ts μ F R => ∃ (h l1 l2 : Addr) (ns : List Str) (W : List Ln) (n : Nat), ts = [.own h, .lst (W.map Ln.tr), .int n] ∧ HallAt μ h l1 l2 ns W ∧ ns.length = n ∧ n < 64 ∧ Inr (ends W) n ∧ W.length ≤ 400 ∧ R (.bl true) μ
structure A__law_hall_like (G : Tab) (Γ : Nat → TSp) : Prop where
  f_Hall_entering : G.fn n_Hall_entering = some i_Hall_entering
  g_Hall_entering : Γ n_Hall_entering = S_Hall_entering
  f_Hall_leaving : G.fn n_Hall_leaving = some i_Hall_leaving
  g_Hall_leaving : Γ n_Hall_leaving = S_Hall_leaving
  f_Hall_belt_at : G.fn n_Hall_belt_at = some i_Hall_belt_at
  g_Hall_belt_at : Γ n_Hall_belt_at = S_Hall_belt_at
  f_Floor_init : G.fn n_Floor_init = some i_Floor_init
  g_Floor_init : Γ n_Floor_init = S_Floor_init
  c_Floor : G.cl 2 = some ⟨"Floor", n_Floor_init⟩
  f_Floor_lying : G.fn n_Floor_lying = some i_Floor_lying
  g_Floor_lying : Γ n_Floor_lying = S_Floor_lying
  f_pieces_of : G.fn n_pieces_of = some i_pieces_of
  g_pieces_of : Γ n_pieces_of = S_pieces_of
  f__law_pieces : G.fn n__law_pieces = some i__law_pieces
  g__law_pieces : Γ n__law_pieces = S__law_pieces
  f_Floor_ready : G.fn n_Floor_ready = some i_Floor_ready
  g_Floor_ready : Γ n_Floor_ready = S_Floor_ready
  f__law_is_ready : G.fn n__law_is_ready = some i__law_is_ready
  g__law_is_ready : Γ n__law_is_ready = S__law_is_ready
abbrev B__law_hall_like (G : Tab) (Γ : Nat → TSp) : Prop := ∀ ts μ F R, S__law_hall_like ts μ F R → denSs G Γ c__law_hall_like (bodyD R F) (startT N__law_hall_like.length ts) μ
theorem body__law_hall_like {G : Tab} {Γ : Nat → TSp} (A : A__law_hall_like G Γ) : B__law_hall_like G Γ := by
  rintro ts μ F R ⟨h, l1, l2, ns, W, n, rfl, H, hnl, hn, hi, hz, hR⟩
  unfold c__law_hall_like
  simp only [Rh.startT, List.length_cons, List.length_nil, List.map_cons, List.map_nil, List.replicate, List.cons_append, List.nil_append, Nat.reduceAdd, Nat.reduceSub, N__law_hall_like]
  apply e_cons; simp only [denS]; (try simp_arith [A.f_Hall_entering, A.g_Hall_entering, S_Hall_entering, i_Hall_entering, A.f_Hall_leaving, A.g_Hall_leaving, S_Hall_leaving, i_Hall_leaving, A.f_Hall_belt_at, A.g_Hall_belt_at, S_Hall_belt_at, i_Hall_belt_at, A.f_Floor_init, A.g_Floor_init, S_Floor_init, i_Floor_init, A.c_Floor, A.f_Floor_lying, A.g_Floor_lying, S_Floor_lying, i_Floor_lying, A.f_pieces_of, A.g_pieces_of, S_pieces_of, i_pieces_of, A.f__law_pieces, A.g__law_pieces, S__law_pieces, i__law_pieces, A.f_Floor_ready, A.g_Floor_ready, S_Floor_ready, i_Floor_ready, A.f__law_is_ready, A.g__law_is_ready, S__law_is_ready, i__law_is_ready]); repeat ((with_reducible refine And.intro ?_ ?_); omega)
  refine for_rng (fun k ρ μ' => (∃ o3 o4, ρ = [some (.own h), some (.lst (W.map Ln.tr)), some (.int n), o3, o4, none, none]) ∧ μ' = μ) ⟨⟨_, _, rfl⟩, rfl⟩ ?_ ?_
  case refine_2 =>
    rintro k ρ μ' hk ⟨⟨o3, o4, rfl⟩, rfl⟩
    refine ⟨trivial, ?_⟩
    simp_arith [A.f_Hall_entering, A.g_Hall_entering, S_Hall_entering, i_Hall_entering, A.f_Hall_leaving, A.g_Hall_leaving, S_Hall_leaving, i_Hall_leaving, A.f_Hall_belt_at, A.g_Hall_belt_at, S_Hall_belt_at, i_Hall_belt_at, A.f_Floor_init, A.g_Floor_init, S_Floor_init, i_Floor_init, A.c_Floor, A.f_Floor_lying, A.g_Floor_lying, S_Floor_lying, i_Floor_lying, A.f_pieces_of, A.g_pieces_of, S_pieces_of, i_pieces_of, A.f__law_pieces, A.g__law_pieces, S__law_pieces, i__law_pieces, A.f_Floor_ready, A.g_Floor_ready, S_Floor_ready, i_Floor_ready, A.f__law_is_ready, A.g__law_is_ready, S__law_is_ready, i__law_is_ready]
    apply e_cons; apply e_ife; simp_arith [A.f_Hall_entering, A.g_Hall_entering, S_Hall_entering, i_Hall_entering, A.f_Hall_leaving, A.g_Hall_leaving, S_Hall_leaving, i_Hall_leaving, A.f_Hall_belt_at, A.g_Hall_belt_at, S_Hall_belt_at, i_Hall_belt_at, A.f_Floor_init, A.g_Floor_init, S_Floor_init, i_Floor_init, A.c_Floor, A.f_Floor_lying, A.g_Floor_lying, S_Floor_lying, i_Floor_lying, A.f_pieces_of, A.g_pieces_of, S_pieces_of, i_pieces_of, A.f__law_pieces, A.g__law_pieces, S__law_pieces, i__law_pieces, A.f_Floor_ready, A.g_Floor_ready, S_Floor_ready, i_Floor_ready, A.f__law_is_ready, A.g__law_is_ready, S__law_is_ready, i__law_is_ready, H.o]; repeat ((with_reducible refine And.intro ?_ ?_); omega)
    have key : ∀ p : Ln → Bool, (((List.range W.length).map fun i => T.int (i : Nat)).filter (fun t => match t with | .int i => (W[i.toNat]?).any p | _ => false)).map (fun t => t) = (spots p W).map T.int := fun p => by
      rw [List.map_id', List.filter_map]
      unfold spots
      rw [List.map_map]
      rfl
    refine ⟨l1, l2, ns, W, H, by omega, .inl ⟨by omega, .inr ?_⟩⟩
    dsimp only
    refine ⟨by omega, by omega, ?_⟩
    refine comp_pure (fun t => match t with | .int i => (W[i.toNat]?).any (fun l => decide (Ln.t l = (k : Int))) | _ => false) (fun t => t) trivial (by rw [List.length_map, List.length_range, sz]; omega) ?_ ?_
    · intro u hu Y N hY hN
      obtain ⟨i, hi2, rfl⟩ := List.mem_map.mp hu
      have hi2 := List.mem_range.mp hi2
      obtain ⟨l, el⟩ : ∃ l, W[i]? = some l := ⟨_, List.getElem?_eq_getElem hi2⟩
      have b1 := at_map (f := Ln.tr) (show (0 : Int) ≤ (i : Int) by omega) el
      have e5 : (W[((i : Nat) : Int).toNat]?).any (fun l => decide (Ln.t l = (k : Int))) = decide (l.t = (k : Int)) := by
        rw [Int.toNat_natCast, el]
        rfl
      dsimp only at hY hN
      rw [e5] at hY hN
      simp only [wipeT]
      simp_arith [A.f_Hall_entering, A.g_Hall_entering, S_Hall_entering, i_Hall_entering, A.f_Hall_leaving, A.g_Hall_leaving, S_Hall_leaving, i_Hall_leaving, A.f_Hall_belt_at, A.g_Hall_belt_at, S_Hall_belt_at, i_Hall_belt_at, A.f_Floor_init, A.g_Floor_init, S_Floor_init, i_Floor_init, A.c_Floor, A.f_Floor_lying, A.g_Floor_lying, S_Floor_lying, i_Floor_lying, A.f_pieces_of, A.g_pieces_of, S_pieces_of, i_pieces_of, A.f__law_pieces, A.g__law_pieces, S__law_pieces, i__law_pieces, A.f_Floor_ready, A.g_Floor_ready, S_Floor_ready, i_Floor_ready, A.f__law_is_ready, A.g__law_is_ready, S__law_is_ready, i__law_is_ready, b1, Ln.tr]
      by_cases e : l.t = (k : Int)
      · rw [if_pos e]
        exact hY (decide_eq_true e)
      · rw [if_neg e]
        exact hN (decide_eq_false e)
    rw [key]
    simp only [newL]
    rw [eq_ints]
    simp_arith [A.f_Hall_entering, A.g_Hall_entering, S_Hall_entering, i_Hall_entering, A.f_Hall_leaving, A.g_Hall_leaving, S_Hall_leaving, i_Hall_leaving, A.f_Hall_belt_at, A.g_Hall_belt_at, S_Hall_belt_at, i_Hall_belt_at, A.f_Floor_init, A.g_Floor_init, S_Floor_init, i_Floor_init, A.c_Floor, A.f_Floor_lying, A.g_Floor_lying, S_Floor_lying, i_Floor_lying, A.f_pieces_of, A.g_pieces_of, S_pieces_of, i_pieces_of, A.f__law_pieces, A.g__law_pieces, S__law_pieces, i__law_pieces, A.f_Floor_ready, A.g_Floor_ready, S_Floor_ready, i_Floor_ready, A.f__law_is_ready, A.g__law_is_ready, S__law_is_ready, i__law_is_ready]
    apply e_cons; apply e_ife; simp_arith [A.f_Hall_entering, A.g_Hall_entering, S_Hall_entering, i_Hall_entering, A.f_Hall_leaving, A.g_Hall_leaving, S_Hall_leaving, i_Hall_leaving, A.f_Hall_belt_at, A.g_Hall_belt_at, S_Hall_belt_at, i_Hall_belt_at, A.f_Floor_init, A.g_Floor_init, S_Floor_init, i_Floor_init, A.c_Floor, A.f_Floor_lying, A.g_Floor_lying, S_Floor_lying, i_Floor_lying, A.f_pieces_of, A.g_pieces_of, S_pieces_of, i_pieces_of, A.f__law_pieces, A.g__law_pieces, S__law_pieces, i__law_pieces, A.f_Floor_ready, A.g_Floor_ready, S_Floor_ready, i_Floor_ready, A.f__law_is_ready, A.g__law_is_ready, S__law_is_ready, i__law_is_ready, H.o]; repeat ((with_reducible refine And.intro ?_ ?_); omega)
    refine ⟨l1, l2, ns, W, H, by omega, .inl ⟨by omega, .inr ?_⟩⟩
    dsimp only
    refine ⟨by omega, by omega, ?_⟩
    refine comp_pure (fun t => match t with | .int i => (W[i.toNat]?).any (fun l => decide (Ln.g l = (k : Int))) | _ => false) (fun t => t) trivial (by rw [List.length_map, List.length_range, sz]; omega) ?_ ?_
    · intro u hu Y N hY hN
      obtain ⟨i, hi2, rfl⟩ := List.mem_map.mp hu
      have hi2 := List.mem_range.mp hi2
      obtain ⟨l, el⟩ : ∃ l, W[i]? = some l := ⟨_, List.getElem?_eq_getElem hi2⟩
      have b1 := at_map (f := Ln.tr) (show (0 : Int) ≤ (i : Int) by omega) el
      have e5 : (W[((i : Nat) : Int).toNat]?).any (fun l => decide (Ln.g l = (k : Int))) = decide (l.g = (k : Int)) := by
        rw [Int.toNat_natCast, el]
        rfl
      dsimp only at hY hN
      rw [e5] at hY hN
      simp only [wipeT]
      simp_arith [A.f_Hall_entering, A.g_Hall_entering, S_Hall_entering, i_Hall_entering, A.f_Hall_leaving, A.g_Hall_leaving, S_Hall_leaving, i_Hall_leaving, A.f_Hall_belt_at, A.g_Hall_belt_at, S_Hall_belt_at, i_Hall_belt_at, A.f_Floor_init, A.g_Floor_init, S_Floor_init, i_Floor_init, A.c_Floor, A.f_Floor_lying, A.g_Floor_lying, S_Floor_lying, i_Floor_lying, A.f_pieces_of, A.g_pieces_of, S_pieces_of, i_pieces_of, A.f__law_pieces, A.g__law_pieces, S__law_pieces, i__law_pieces, A.f_Floor_ready, A.g_Floor_ready, S_Floor_ready, i_Floor_ready, A.f__law_is_ready, A.g__law_is_ready, S__law_is_ready, i__law_is_ready, b1, Ln.tr]
      by_cases e : l.g = (k : Int)
      · rw [if_pos e]
        exact hY (decide_eq_true e)
      · rw [if_neg e]
        exact hN (decide_eq_false e)
    rw [key]
    simp only [newL]
    rw [eq_ints]
    simp_arith [A.f_Hall_entering, A.g_Hall_entering, S_Hall_entering, i_Hall_entering, A.f_Hall_leaving, A.g_Hall_leaving, S_Hall_leaving, i_Hall_leaving, A.f_Hall_belt_at, A.g_Hall_belt_at, S_Hall_belt_at, i_Hall_belt_at, A.f_Floor_init, A.g_Floor_init, S_Floor_init, i_Floor_init, A.c_Floor, A.f_Floor_lying, A.g_Floor_lying, S_Floor_lying, i_Floor_lying, A.f_pieces_of, A.g_pieces_of, S_pieces_of, i_pieces_of, A.f__law_pieces, A.g__law_pieces, S__law_pieces, i__law_pieces, A.f_Floor_ready, A.g_Floor_ready, S_Floor_ready, i_Floor_ready, A.f__law_is_ready, A.g__law_is_ready, S__law_is_ready, i__law_is_ready]
    exact ⟨_, _, .refl _ _, ⟨_, _, rfl⟩, rfl⟩
  rintro ρ μ' ⟨⟨o3, o4, rfl⟩, rfl⟩
  refine ⟨trivial, ?_⟩
  apply e_cons; simp only [denS]; (try simp_arith [A.f_Hall_entering, A.g_Hall_entering, S_Hall_entering, i_Hall_entering, A.f_Hall_leaving, A.g_Hall_leaving, S_Hall_leaving, i_Hall_leaving, A.f_Hall_belt_at, A.g_Hall_belt_at, S_Hall_belt_at, i_Hall_belt_at, A.f_Floor_init, A.g_Floor_init, S_Floor_init, i_Floor_init, A.c_Floor, A.f_Floor_lying, A.g_Floor_lying, S_Floor_lying, i_Floor_lying, A.f_pieces_of, A.g_pieces_of, S_pieces_of, i_pieces_of, A.f__law_pieces, A.g__law_pieces, S__law_pieces, i__law_pieces, A.f_Floor_ready, A.g_Floor_ready, S_Floor_ready, i_Floor_ready, A.f__law_is_ready, A.g__law_is_ready, S__law_is_ready, i__law_is_ready]); repeat ((with_reducible refine And.intro ?_ ?_); omega)
  refine for_rng (fun k ρ μ2 => (∃ o4, ρ = [some (.own h), some (.lst (W.map Ln.tr)), some (.int n), o3, o4, none, none]) ∧ μ2 = μ') ⟨⟨_, rfl⟩, rfl⟩ ?_ ?_
  case refine_2 =>
    rintro k ρ μ2 hk ⟨⟨o4, rfl⟩, rfl⟩
    refine ⟨trivial, ?_⟩
    obtain ⟨l, el⟩ : ∃ l, W[k]? = some l := ⟨_, List.getElem?_eq_getElem hk⟩
    have b1 := at_map (f := Ln.tr) (show (0 : Int) ≤ (k : Int) by omega) el
    simp_arith [A.f_Hall_entering, A.g_Hall_entering, S_Hall_entering, i_Hall_entering, A.f_Hall_leaving, A.g_Hall_leaving, S_Hall_leaving, i_Hall_leaving, A.f_Hall_belt_at, A.g_Hall_belt_at, S_Hall_belt_at, i_Hall_belt_at, A.f_Floor_init, A.g_Floor_init, S_Floor_init, i_Floor_init, A.c_Floor, A.f_Floor_lying, A.g_Floor_lying, S_Floor_lying, i_Floor_lying, A.f_pieces_of, A.g_pieces_of, S_pieces_of, i_pieces_of, A.f__law_pieces, A.g__law_pieces, S__law_pieces, i__law_pieces, A.f_Floor_ready, A.g_Floor_ready, S_Floor_ready, i_Floor_ready, A.f__law_is_ready, A.g__law_is_ready, S__law_is_ready, i__law_is_ready]
    apply e_cons; apply e_ife; simp_arith [A.f_Hall_entering, A.g_Hall_entering, S_Hall_entering, i_Hall_entering, A.f_Hall_leaving, A.g_Hall_leaving, S_Hall_leaving, i_Hall_leaving, A.f_Hall_belt_at, A.g_Hall_belt_at, S_Hall_belt_at, i_Hall_belt_at, A.f_Floor_init, A.g_Floor_init, S_Floor_init, i_Floor_init, A.c_Floor, A.f_Floor_lying, A.g_Floor_lying, S_Floor_lying, i_Floor_lying, A.f_pieces_of, A.g_pieces_of, S_pieces_of, i_pieces_of, A.f__law_pieces, A.g__law_pieces, S__law_pieces, i__law_pieces, A.f_Floor_ready, A.g_Floor_ready, S_Floor_ready, i_Floor_ready, A.f__law_is_ready, A.g__law_is_ready, S__law_is_ready, i__law_is_ready, H.o, b1]; repeat ((with_reducible refine And.intro ?_ ?_); omega)
    refine ⟨l1, l2, ns, W, H, .inl ⟨l, el, ?_⟩⟩
    rw [eq_trR]
    simp_arith [A.f_Hall_entering, A.g_Hall_entering, S_Hall_entering, i_Hall_entering, A.f_Hall_leaving, A.g_Hall_leaving, S_Hall_leaving, i_Hall_leaving, A.f_Hall_belt_at, A.g_Hall_belt_at, S_Hall_belt_at, i_Hall_belt_at, A.f_Floor_init, A.g_Floor_init, S_Floor_init, i_Floor_init, A.c_Floor, A.f_Floor_lying, A.g_Floor_lying, S_Floor_lying, i_Floor_lying, A.f_pieces_of, A.g_pieces_of, S_pieces_of, i_pieces_of, A.f__law_pieces, A.g__law_pieces, S__law_pieces, i__law_pieces, A.f_Floor_ready, A.g_Floor_ready, S_Floor_ready, i_Floor_ready, A.f__law_is_ready, A.g__law_is_ready, S__law_is_ready, i__law_is_ready]
    exact ⟨_, _, .refl _ _, ⟨_, rfl⟩, rfl⟩
  rintro ρ μ2 ⟨⟨o4, rfl⟩, rfl⟩
  refine ⟨trivial, ?_⟩
  apply e_cons; simp only [denS]; (try simp_arith [A.f_Hall_entering, A.g_Hall_entering, S_Hall_entering, i_Hall_entering, A.f_Hall_leaving, A.g_Hall_leaving, S_Hall_leaving, i_Hall_leaving, A.f_Hall_belt_at, A.g_Hall_belt_at, S_Hall_belt_at, i_Hall_belt_at, A.f_Floor_init, A.g_Floor_init, S_Floor_init, i_Floor_init, A.c_Floor, A.f_Floor_lying, A.g_Floor_lying, S_Floor_lying, i_Floor_lying, A.f_pieces_of, A.g_pieces_of, S_pieces_of, i_pieces_of, A.f__law_pieces, A.g__law_pieces, S__law_pieces, i__law_pieces, A.f_Floor_ready, A.g_Floor_ready, S_Floor_ready, i_Floor_ready, A.f__law_is_ready, A.g__law_is_ready, S__law_is_ready, i__law_is_ready]); repeat ((with_reducible refine And.intro ?_ ?_); omega)
  intro p hp
  have H0 := H.fresh (ob := .obj 2 []) hp
  refine ⟨l1, l2, ns, W, H0, by omega, ?_⟩
  rw [set_set]
  have g0 : (μ2.set p (flr W ns.length (W.map Ln.st))) p = some (flr W ns.length (W.map Ln.st)) := set_self
  have H1 := H.fresh (ob := flr W ns.length (W.map Ln.st)) hp
  have sb1 : Rh.Sub μ2 (μ2.set p (flr W ns.length (W.map Ln.st))) := Rh.Sub.set_none hp
  generalize μ2.set p (flr W ns.length (W.map Ln.st)) = μ1 at g0 H1 sb1 ⊢
  have g0' := g0
  unfold flr at g0'
  apply e_cons; apply e_ife; simp_arith [A.f_Hall_entering, A.g_Hall_entering, S_Hall_entering, i_Hall_entering, A.f_Hall_leaving, A.g_Hall_leaving, S_Hall_leaving, i_Hall_leaving, A.f_Hall_belt_at, A.g_Hall_belt_at, S_Hall_belt_at, i_Hall_belt_at, A.f_Floor_init, A.g_Floor_init, S_Floor_init, i_Floor_init, A.c_Floor, A.f_Floor_lying, A.g_Floor_lying, S_Floor_lying, i_Floor_lying, A.f_pieces_of, A.g_pieces_of, S_pieces_of, i_pieces_of, A.f__law_pieces, A.g__law_pieces, S__law_pieces, i__law_pieces, A.f_Floor_ready, A.g_Floor_ready, S_Floor_ready, i_Floor_ready, A.f__law_is_ready, A.g__law_is_ready, S__law_is_ready, i__law_is_ready, g0', H1.o]; repeat ((with_reducible refine And.intro ?_ ?_); omega)
  refine ⟨W, ns.length, W.map Ln.st, rfl, .inr ?_⟩
  dsimp only
  refine onG_at .lst fun gd hgd => ?_
  refine comp_pure (fun _ => true) (fun t => match t with | .tup [.int g, .int t, .int gi, .int ta, .int s5] => .int s5 | t => t) (hgd _ .lst) (by rw [List.length_map, sz]; omega) ?_ ?_
  · intro u hu Y N hY _
    obtain ⟨l, hl, rfl⟩ := List.mem_map.mp hu
    simp only [wipeT]
    simp_arith [A.f_Hall_entering, A.g_Hall_entering, S_Hall_entering, i_Hall_entering, A.f_Hall_leaving, A.g_Hall_leaving, S_Hall_leaving, i_Hall_leaving, A.f_Hall_belt_at, A.g_Hall_belt_at, S_Hall_belt_at, i_Hall_belt_at, A.f_Floor_init, A.g_Floor_init, S_Floor_init, i_Floor_init, A.c_Floor, A.f_Floor_lying, A.g_Floor_lying, S_Floor_lying, i_Floor_lying, A.f_pieces_of, A.g_pieces_of, S_pieces_of, i_pieces_of, A.f__law_pieces, A.g__law_pieces, S__law_pieces, i__law_pieces, A.f_Floor_ready, A.g_Floor_ready, S_Floor_ready, i_Floor_ready, A.f__law_is_ready, A.g__law_is_ready, S__law_is_ready, i__law_is_ready, Ln.tr]
    exact hY rfl
  rw [List.filter_eq_self.mpr (fun _ _ => rfl), List.map_map, show ((fun t : T => match t with | .tup [.int g, .int t, .int gi, .int ta, .int s5] => T.int s5 | t => t) ∘ Ln.tr) = T.int ∘ Ln.st from rfl, ← List.map_map]
  simp only [newL]
  rw [eq_ints]
  simp_arith [A.f_Hall_entering, A.g_Hall_entering, S_Hall_entering, i_Hall_entering, A.f_Hall_leaving, A.g_Hall_leaving, S_Hall_leaving, i_Hall_leaving, A.f_Hall_belt_at, A.g_Hall_belt_at, S_Hall_belt_at, i_Hall_belt_at, A.f_Floor_init, A.g_Floor_init, S_Floor_init, i_Floor_init, A.c_Floor, A.f_Floor_lying, A.g_Floor_lying, S_Floor_lying, i_Floor_lying, A.f_pieces_of, A.g_pieces_of, S_pieces_of, i_pieces_of, A.f__law_pieces, A.g__law_pieces, S__law_pieces, i__law_pieces, A.f_Floor_ready, A.g_Floor_ready, S_Floor_ready, i_Floor_ready, A.f__law_is_ready, A.g__law_is_ready, S__law_is_ready, i__law_is_ready]
  refine ⟨l1, l2, ns, W, H1, by rw [hnl]; exact hi, by omega, .inr ⟨W, n, rfl, rfl, hi, hn, by omega, ?_⟩⟩
  rw [hnl, eq_lsT]
  simp_arith [A.f_Hall_entering, A.g_Hall_entering, S_Hall_entering, i_Hall_entering, A.f_Hall_leaving, A.g_Hall_leaving, S_Hall_leaving, i_Hall_leaving, A.f_Hall_belt_at, A.g_Hall_belt_at, S_Hall_belt_at, i_Hall_belt_at, A.f_Floor_init, A.g_Floor_init, S_Floor_init, i_Floor_init, A.c_Floor, A.f_Floor_lying, A.g_Floor_lying, S_Floor_lying, i_Floor_lying, A.f_pieces_of, A.g_pieces_of, S_pieces_of, i_pieces_of, A.f__law_pieces, A.g__law_pieces, S__law_pieces, i__law_pieces, A.f_Floor_ready, A.g_Floor_ready, S_Floor_ready, i_Floor_ready, A.f__law_is_ready, A.g__law_is_ready, S__law_is_ready, i__law_is_ready]
  apply e_cons; simp only [denS]; (try simp_arith [A.f_Hall_entering, A.g_Hall_entering, S_Hall_entering, i_Hall_entering, A.f_Hall_leaving, A.g_Hall_leaving, S_Hall_leaving, i_Hall_leaving, A.f_Hall_belt_at, A.g_Hall_belt_at, S_Hall_belt_at, i_Hall_belt_at, A.f_Floor_init, A.g_Floor_init, S_Floor_init, i_Floor_init, A.c_Floor, A.f_Floor_lying, A.g_Floor_lying, S_Floor_lying, i_Floor_lying, A.f_pieces_of, A.g_pieces_of, S_pieces_of, i_pieces_of, A.f__law_pieces, A.g__law_pieces, S__law_pieces, i__law_pieces, A.f_Floor_ready, A.g_Floor_ready, S_Floor_ready, i_Floor_ready, A.f__law_is_ready, A.g__law_is_ready, S__law_is_ready, i__law_is_ready]); repeat ((with_reducible refine And.intro ?_ ?_); omega)
  have rk : ((((List.range n).map fun i => T.int (i : Nat)).filter (fun _ => true)).map (fun t => match t with | .int i => .bl (rdy W (W.map Ln.st) i) | t => t)) = ((List.range n).map fun i : Nat => rdy W (W.map Ln.st) (i : Int)).map T.bl := by
    rw [List.filter_eq_self.mpr (fun _ _ => rfl), List.map_map, List.map_map]
    rfl
  have hrg : ∀ u ∈ (List.range n).map (fun i => T.int (i : Nat)), ∃ i : Nat, i < n ∧ u = .int i := fun u hu => by
    obtain ⟨i, hi2, rfl⟩ := List.mem_map.mp hu
    exact ⟨i, List.mem_range.mp hi2, rfl⟩
  have hrl : ((List.range n).map fun i => T.int (i : Nat)).length ≤ sizeLine := by rw [List.length_map, List.length_range, sz]; omega
  refine comp_pure (fun _ => true) (fun t => match t with | .int i => .bl (rdy W (W.map Ln.st) i) | t => t) trivial hrl ?_ ?_
  · intro u hu Y N hY _
    obtain ⟨i, hi2, rfl⟩ := hrg u hu
    have hY := hY rfl
    simp only [wipeT]
    simp_arith [A.f_Hall_entering, A.g_Hall_entering, S_Hall_entering, i_Hall_entering, A.f_Hall_leaving, A.g_Hall_leaving, S_Hall_leaving, i_Hall_leaving, A.f_Hall_belt_at, A.g_Hall_belt_at, S_Hall_belt_at, i_Hall_belt_at, A.f_Floor_init, A.g_Floor_init, S_Floor_init, i_Floor_init, A.c_Floor, A.f_Floor_lying, A.g_Floor_lying, S_Floor_lying, i_Floor_lying, A.f_pieces_of, A.g_pieces_of, S_pieces_of, i_pieces_of, A.f__law_pieces, A.g__law_pieces, S__law_pieces, i__law_pieces, A.f_Floor_ready, A.g_Floor_ready, S_Floor_ready, i_Floor_ready, A.f__law_is_ready, A.g__law_is_ready, S__law_is_ready, i__law_is_ready, g0']
    exact ⟨W, ns.length, W.map Ln.st, rfl, .inl ⟨by omega, hY⟩⟩
  rw [rk]
  simp only [newL]
  refine ⟨by omega, by omega, ?_⟩
  refine comp_pure (fun _ => true) (fun t => match t with | .int i => .bl (rdy W (W.map Ln.st) i) | t => t) trivial hrl ?_ ?_
  · intro u hu Y N hY _
    obtain ⟨i, hi2, rfl⟩ := hrg u hu
    have hY := hY rfl
    simp only [wipeT]
    simp_arith [A.f_Hall_entering, A.g_Hall_entering, S_Hall_entering, i_Hall_entering, A.f_Hall_leaving, A.g_Hall_leaving, S_Hall_leaving, i_Hall_leaving, A.f_Hall_belt_at, A.g_Hall_belt_at, S_Hall_belt_at, i_Hall_belt_at, A.f_Floor_init, A.g_Floor_init, S_Floor_init, i_Floor_init, A.c_Floor, A.f_Floor_lying, A.g_Floor_lying, S_Floor_lying, i_Floor_lying, A.f_pieces_of, A.g_pieces_of, S_pieces_of, i_pieces_of, A.f__law_pieces, A.g__law_pieces, S__law_pieces, i__law_pieces, A.f_Floor_ready, A.g_Floor_ready, S_Floor_ready, i_Floor_ready, A.f__law_is_ready, A.g__law_is_ready, S__law_is_ready, i__law_is_ready]
    exact ⟨W, rfl, by omega, hY⟩
  rw [rk]
  simp only [newL]
  rw [eq_bls]
  simp only [decide_true, if_false, Bool.false_eq_true]
  exact fin_sub _ sb1 hR
def S__law_mix : TSp := fun ts μ F R => ∃ c w : Int, ts = [.int c, .int w] ∧ 0 ≤ w ∧ R (.int (mixW c w)) μ
structure A__law_mix (G : Tab) (Γ : Nat → TSp) : Prop where
  triv : True
abbrev B__law_mix (G : Tab) (Γ : Nat → TSp) : Prop := ∀ ts μ F R, S__law_mix ts μ F R → denSs G Γ c__law_mix (bodyD R F) (startT N__law_mix.length ts) μ
theorem body__law_mix {G : Tab} {Γ : Nat → TSp} (A : A__law_mix G Γ) : B__law_mix G Γ := by
  rintro ts μ F R ⟨c, w, rfl, hw, hR⟩
  unfold c__law_mix
  simp only [Rh.startT, List.length_cons, List.length_nil, List.map_cons, List.map_nil, List.replicate, List.cons_append, List.nil_append, Nat.reduceAdd, Nat.reduceSub, N__law_mix]
  apply e_cons; simp only [denS]; (try simp_arith []); repeat ((with_reducible refine And.intro ?_ ?_); omega)
  have h1 := Int.emod_nonneg (c * 48271 + w * 7919) (show (2147483647 : Int) ≠ 0 by decide)
  have h2 := Int.emod_lt_of_pos (c * 48271 + w * 7919) (show (0 : Int) < 2147483647 by decide)
  have mk : Rh.MulOk ((c * 48271 + w * 7919) % 2147483647) (16807 + 2 * w) := .inl (.inl ⟨by omega, by omega⟩)
  apply e_cons; simp only [denS]; (try simp_arith [mk]); repeat ((with_reducible refine And.intro ?_ ?_); omega)
  exact fin_id hR
def S__law_lines : TSp := fun ts μ F R => ∃ (ns : List Int) (m : Int), ts = [.scr (ns.map T.int), .int m] ∧ 1 ≤ m ∧ ∀ ls : List Ln, ls.length ≤ 60 → (∀ l ∈ ls, L16 m l) → R (.lst (ls.map Ln.tr)) μ
structure A__law_lines (G : Tab) (Γ : Nat → TSp) : Prop where
  f__law_cell : G.fn n__law_cell = some i__law_cell
  g__law_cell : Γ n__law_cell = S__law_cell
  f__law_mix : G.fn n__law_mix = some i__law_mix
  g__law_mix : Γ n__law_mix = S__law_mix
abbrev B__law_lines (G : Tab) (Γ : Nat → TSp) : Prop := ∀ ts μ F R, S__law_lines ts μ F R → denSs G Γ c__law_lines (bodyD R F) (startT N__law_lines.length ts) μ
theorem body__law_lines {G : Tab} {Γ : Nat → TSp} (A : A__law_lines G Γ) : B__law_lines G Γ := by
  rintro ts μ F R ⟨ns, m, rfl, m1, hR⟩
  unfold c__law_lines
  simp only [Rh.startT, List.length_cons, List.length_nil, List.map_cons, List.map_nil, List.replicate, List.cons_append, List.nil_append, Nat.reduceAdd, Nat.reduceSub, N__law_lines]
  apply e_cons; simp only [denS]; (try simp_arith [A.f__law_cell, A.g__law_cell, S__law_cell, i__law_cell, A.f__law_mix, A.g__law_mix, S__law_mix, i__law_mix]); repeat ((with_reducible refine And.intro ?_ ?_); omega)
  intro p hp
  apply e_cons; simp only [denS]; (try simp_arith [A.f__law_cell, A.g__law_cell, S__law_cell, i__law_cell, A.f__law_mix, A.g__law_mix, S__law_mix, i__law_mix]); repeat ((with_reducible refine And.intro ?_ ?_); omega)
  have hd := @mixW_nn (cel ns 1) 2
  generalize mixW (cel ns 1) 2 = d at hd ⊢
  have q0 := Int.emod_nonneg (cel ns 1 / 6) (show (9 : Int) ≠ 0 by decide)
  have q1 := Int.emod_lt_of_pos (cel ns 1 / 6) (show (0 : Int) < 9 by decide)
  generalize cel ns 1 / 6 % 9 = z0 at q0 q1 ⊢
  apply e_cons
  refine e_join (fun ρ μ2 => ∃ z : Int, ρ = [some (.scr (ns.map T.int)), some (.int m), some (.own p), some (.int z), none, none, none, none] ∧ z ≤ 60 ∧ 0 ≤ z ∧ μ2 = μ.set p (.lst [])) ?_ ?_
  case refine_2 =>
    simp_arith [A.f__law_cell, A.g__law_cell, S__law_cell, i__law_cell, A.f__law_mix, A.g__law_mix, S__law_mix, i__law_mix]
    split
    · apply e_cons; simp only [denS]; (try simp_arith [A.f__law_cell, A.g__law_cell, S__law_cell, i__law_cell, A.f__law_mix, A.g__law_mix, S__law_mix, i__law_mix]); repeat ((with_reducible refine And.intro ?_ ?_); omega)
      have h3 := Int.emod_lt_of_pos (mixW (cel ns 1) 2 / 8) (show (0 : Int) < 30 by decide)
      have h4 := Int.emod_nonneg (mixW (cel ns 1) 2 / 8) (show (30 : Int) ≠ 0 by decide)
      omega
    · omega
  rintro ρ μ2 ⟨z, rfl, z1, z0, rfl⟩
  apply e_cons; simp only [denS]; (try simp_arith [A.f__law_cell, A.g__law_cell, S__law_cell, i__law_cell, A.f__law_mix, A.g__law_mix, S__law_mix, i__law_mix]); repeat ((with_reducible refine And.intro ?_ ?_); omega)
  refine for_rng (fun k ρ μ2 => ∃ ls : List Ln, (∃ o4 o5 o6 o7, ρ = [some (.scr (ns.map T.int)), some (.int m), some (.own p), some (.int z), o4, o5, o6, o7]) ∧ μ2 = μ.set p (.lst (ls.map Ln.tr)) ∧ ls.length = k ∧ ∀ l ∈ ls, L16 m l) ⟨[], ⟨_, _, _, _, rfl⟩, rfl, rfl, by simp⟩ ?_ ?_
  · rintro ρ μ2 ⟨ls, ⟨o4, o5, o6, o7, rfl⟩, rfl, hl, hok⟩
    refine ⟨trivial, ?_⟩
    apply e_cons; simp only [denS]; (try simp_arith [A.f__law_cell, A.g__law_cell, S__law_cell, i__law_cell, A.f__law_mix, A.g__law_mix, S__law_mix, i__law_mix]); repeat ((with_reducible refine And.intro ?_ ?_); omega)
    exact ⟨.lst (ls.map Ln.tr), μ, ⟨[p], .own set_self (List.mem_singleton.mpr rfl) (.refl _), Rh.Sub.set_none hp, fun a ha => by cases List.mem_singleton.mp ha; exact hp⟩, hR ls (by omega) hok⟩
  rintro k ρ μ2 hk ⟨ls, ⟨o4, o5, o6, o7, rfl⟩, rfl, hl, hok⟩
  refine ⟨trivial, ?_⟩
  simp_arith [A.f__law_cell, A.g__law_cell, S__law_cell, i__law_cell, A.f__law_mix, A.g__law_mix, S__law_mix, i__law_mix]
  apply e_cons; simp only [denS]; (try simp_arith [A.f__law_cell, A.g__law_cell, S__law_cell, i__law_cell, A.f__law_mix, A.g__law_mix, S__law_mix, i__law_mix]); repeat ((with_reducible refine And.intro ?_ ?_); omega)
  have hq := @mixW_nn (cel ns (4 + k)) k
  generalize cel ns (4 + k) = c at hq ⊢
  apply e_cons; simp only [denS]; (try simp_arith [A.f__law_cell, A.g__law_cell, S__law_cell, i__law_cell, A.f__law_mix, A.g__law_mix, S__law_mix, i__law_mix]); repeat ((with_reducible refine And.intro ?_ ?_); omega)
  generalize mixW c k = d2 at hq ⊢
  have x1 := Int.emod_nonneg d2 (show m ≠ 0 by omega)
  have x2 := Int.emod_lt_of_pos d2 (show 0 < m by omega)
  have x3 := Int.emod_nonneg (d2 / 6) (show m ≠ 0 by omega)
  have x4 := Int.emod_lt_of_pos (d2 / 6) (show 0 < m by omega)
  have y1 := Int.emod_nonneg c (show (999999999999999999999999999999 : Int) ≠ 0 by decide)
  have y2 := Int.emod_lt_of_pos c (show (0 : Int) < 999999999999999999999999999999 by decide)
  have y3 := Int.emod_nonneg (d2 / 36) (show (9 : Int) ≠ 0 by decide)
  have y4 := Int.emod_lt_of_pos (d2 / 36) (show (0 : Int) < 9 by decide)
  have y5 := Int.emod_nonneg (d2 / 324) (show (12 : Int) ≠ 0 by decide)
  have y6 := Int.emod_nonneg (c / 5) (show (100000000000000000000000000000 : Int) ≠ 0 by decide)
  apply e_cons; simp only [denS]; (try simp_arith [A.f__law_cell, A.g__law_cell, S__law_cell, i__law_cell, A.f__law_mix, A.g__law_mix, S__law_mix, i__law_mix]); repeat ((with_reducible refine And.intro ?_ ?_); omega)
  apply e_cons
  refine e_join (fun ρ μ3 => ∃ l : Ln, ρ = [some (.scr (ns.map T.int)), some (.int m), some (.own p), some (.int z), some (.int k), some (.int c), some (.int d2), some (.lst [.int l.g, .int l.t, .int l.gi, .int l.ta, .int l.st])] ∧ μ3 = μ.set p (.lst (ls.map Ln.tr)) ∧ L16 m l) ?_ ?_
  case refine_2 =>
    simp_arith [A.f__law_cell, A.g__law_cell, S__law_cell, i__law_cell, A.f__law_mix, A.g__law_mix, S__law_mix, i__law_mix]
    split
    · apply e_cons; simp only [denS]; (try simp_arith [A.f__law_cell, A.g__law_cell, S__law_cell, i__law_cell, A.f__law_mix, A.g__law_mix, S__law_mix, i__law_mix]); repeat ((with_reducible refine And.intro ?_ ?_); omega)
      refine ⟨by show (2 : Nat) ≤ 16777213; decide, ⟨d2 % m, d2 / 6 % m, 1 + d2 / 36 % 9, 1 + c % (1000000000000000000000000000000 - 1), c / 5 % 100000000000000000000000000000⟩, rfl, ⟨x1, x2, x3, x4, ?_, ?_, y6⟩, ?_, ?_⟩
      · show 1 ≤ 1 + d2 / 36 % 9; omega
      · show 1 ≤ 1 + c % (1000000000000000000000000000000 - 1); omega
      · show 1 + d2 / 36 % 9 ≤ 1000000000000000000000000000000; omega
      · show 1 + c % (1000000000000000000000000000000 - 1) ≤ 1000000000000000000000000000000; omega
    · refine ⟨⟨d2 % m, d2 / 6 % m, 1 + c % (1000000000000000000000000000000 - 1), 1 + d2 / 36 % 9, d2 / 324 % 12⟩, rfl, rfl, rfl, rfl, rfl, ⟨x1, x2, x3, x4, ?_, ?_, y5⟩, ?_, ?_⟩
      · show 1 ≤ 1 + c % (1000000000000000000000000000000 - 1); omega
      · show 1 ≤ 1 + d2 / 36 % 9; omega
      · show 1 + c % (1000000000000000000000000000000 - 1) ≤ 1000000000000000000000000000000; omega
      · show 1 + d2 / 36 % 9 ≤ 1000000000000000000000000000000; omega
  rintro ρ μ3 ⟨l, rfl, rfl, hL⟩
  apply e_cons; simp only [denS]; (try simp_arith [A.f__law_cell, A.g__law_cell, S__law_cell, i__law_cell, A.f__law_mix, A.g__law_mix, S__law_mix, i__law_mix]); repeat ((with_reducible refine And.intro ?_ ?_); omega)
  refine ⟨_, _, .refl _ _, ⟨_, _, _, _, rfl⟩, ls ++ [l], by rw [set_set, List.map_append]; rfl, by rw [List.length_append, hl]; rfl, fun x hx => ?_⟩
  rcases List.mem_append.mp hx with h' | h'
  · exact hok x h'
  · cases List.mem_singleton.mp h'
    exact hL
def S__law_made : TSp := fun ts μ F R => ∃ (m : Int) (ls : List Ln), ts = [.int m, .lst (ls.map Ln.tr)] ∧ 1 ≤ m ∧ m ≤ 30 ∧ ls.length ≤ 60 ∧ (∀ l ∈ ls, L17 m l) ∧ ∀ μ' h l1 l2, HallAt μ' h l1 l2 (nws m.toNat) ls → R (.own h) μ'
structure A__law_made (G : Tab) (Γ : Nat → TSp) : Prop where
  f_Hall_init : G.fn n_Hall_init = some i_Hall_init
  g_Hall_init : Γ n_Hall_init = S_Hall_init
  c_Hall : G.cl 3 = some ⟨"Hall", n_Hall_init⟩
  f_Hall_work : G.fn n_Hall_work = some i_Hall_work
  g_Hall_work : Γ n_Hall_work = S_Hall_work
  f_Hall_belt : G.fn n_Hall_belt = some i_Hall_belt
  g_Hall_belt : Γ n_Hall_belt = S_Hall_belt
abbrev B__law_made (G : Tab) (Γ : Nat → TSp) : Prop := ∀ ts μ F R, S__law_made ts μ F R → denSs G Γ c__law_made (bodyD R F) (startT N__law_made.length ts) μ
theorem body__law_made {G : Tab} {Γ : Nat → TSp} (A : A__law_made G Γ) : B__law_made G Γ := by
  rintro ts μ F R ⟨m, ls, rfl, m1, m2, hz, hok, hR⟩
  unfold c__law_made
  simp only [Rh.startT, List.length_cons, List.length_nil, List.map_cons, List.map_nil, List.replicate, List.cons_append, List.nil_append, Nat.reduceAdd, Nat.reduceSub, N__law_made]
  apply e_cons; simp only [denS]; (try simp_arith [A.f_Hall_init, A.g_Hall_init, S_Hall_init, i_Hall_init, A.c_Hall, A.f_Hall_work, A.g_Hall_work, S_Hall_work, i_Hall_work, A.f_Hall_belt, A.g_Hall_belt, S_Hall_belt, i_Hall_belt]); repeat ((with_reducible refine And.intro ?_ ?_); omega)
  apply e_cons; simp only [denS]; (try simp_arith [A.f_Hall_init, A.g_Hall_init, S_Hall_init, i_Hall_init, A.c_Hall, A.f_Hall_work, A.g_Hall_work, S_Hall_work, i_Hall_work, A.f_Hall_belt, A.g_Hall_belt, S_Hall_belt, i_Hall_belt]); repeat ((with_reducible refine And.intro ?_ ?_); omega)
  intro hh
  intro _
  intro l1 l2 e1 e2 ne
  have H := HallAt.init e1 e2 ne
  generalize ((((μ.set hh (.obj 3 [])).set l1 (.lst [])).set l2 (.lst [])).set hh (.obj 3 [.own l1, .own l2])) = μ at H ⊢
  apply e_cons; simp only [denS]; (try simp_arith [A.f_Hall_init, A.g_Hall_init, S_Hall_init, i_Hall_init, A.c_Hall, A.f_Hall_work, A.g_Hall_work, S_Hall_work, i_Hall_work, A.f_Hall_belt, A.g_Hall_belt, S_Hall_belt, i_Hall_belt]); repeat ((with_reducible refine And.intro ?_ ?_); omega)
  refine for_rng (fun k ρ μ => (∃ o4 o5, ρ = [some (.int m), some (.lst (ls.map Ln.tr)), some (.str abc), some (.own hh), o4, o5]) ∧ HallAt μ hh l1 l2 (nws k) []) ⟨⟨_, _, rfl⟩, H⟩ ?_ ?_
  case refine_2 =>
    rintro k ρ μ hk ⟨⟨o4, o5, rfl⟩, H⟩
    refine ⟨trivial, ?_⟩
    have hk' : k < 30 := by omega
    obtain ⟨a1, a2, a3⟩ := nw_at hk'
    have b1 := ab_at (i := 7 * (k : Int) % 26) (by omega) (by omega)
    have b2 := ab_at (i := 11 * (k : Int) % 26) (by omega) (by omega)
    simp_arith [A.f_Hall_init, A.g_Hall_init, S_Hall_init, i_Hall_init, A.c_Hall, A.f_Hall_work, A.g_Hall_work, S_Hall_work, i_Hall_work, A.f_Hall_belt, A.g_Hall_belt, S_Hall_belt, i_Hall_belt]
    have la : abc.length = 26 := by decide +kernel
    have l1' : ∀ c, (⟨#[c]⟩ : Str).length = 1 := fun _ => rfl
    have lx : ("x" : Str).length = 1 := by decide +kernel
    have ln := (nw_ok ⟨k, hk'⟩).2.1
    unfold nw sgn at ln
    simp only [Str.length_append, l1'] at ln
    have c1 : (⟨#[ab (7 * (k : Int) % 26)]⟩ : Str).length + (⟨#[ab (11 * (k : Int) % 26)]⟩ : Str).length ≤ 16777216 := by rw [l1', l1']; decide
    have c2 : ("x" : Str).length * ((k : Int) / 26).toNat ≤ 16777216 := by rw [lx]; omega
    have c3 : ((⟨#[ab (7 * (k : Int) % 26)]⟩ : Str) ++ ⟨#[ab (11 * (k : Int) % 26)]⟩).length + (Txt.mul "x" ((k : Int) / 26)).length ≤ 16777216 := by rw [Str.length_append, l1', l1']; omega
    apply e_cons; simp only [denS]; (try simp_arith [A.f_Hall_init, A.g_Hall_init, S_Hall_init, i_Hall_init, A.c_Hall, A.f_Hall_work, A.g_Hall_work, S_Hall_work, i_Hall_work, A.f_Hall_belt, A.g_Hall_belt, S_Hall_belt, i_Hall_belt, H.o, b1, b2]); repeat ((with_reducible refine And.intro ?_ ?_); omega)
    refine ⟨l1, l2, nws k, [], H, a2, a3, nws_ok (by omega), ?_⟩
    have en : (⟨#[ab (7 * (k : Int) % 26)]⟩ : Str) ++ ⟨#[ab (11 * (k : Int) % 26)]⟩ ++ Txt.mul "x" ((k : Int) / 26) = nw k := rfl
    rw [en]
    simp only [a1, nws_new hk', nws_len, show ¬ 30 ≤ k by omega, Bool.true_eq_false, if_false]
    exact ⟨_, _, .refl _ _, ⟨_, _, rfl⟩, by rw [nws_succ]; exact H.addW _⟩
  clear H μ
  rintro ρ μ ⟨⟨o4, o5, rfl⟩, H⟩
  refine ⟨trivial, ?_⟩
  have hm : ((m.toNat : Nat) : Int) = m := by omega
  have hnl : (((nws m.toNat).length : Nat) : Int) = m := by rw [nws_len, hm]
  apply e_cons; simp only [denS]; (try simp_arith [A.f_Hall_init, A.g_Hall_init, S_Hall_init, i_Hall_init, A.c_Hall, A.f_Hall_work, A.g_Hall_work, S_Hall_work, i_Hall_work, A.f_Hall_belt, A.g_Hall_belt, S_Hall_belt, i_Hall_belt]); repeat ((with_reducible refine And.intro ?_ ?_); omega)
  refine onG_at .lst fun gd hgd => ?_
  refine for_map (fun k ρ μ => (∃ o4 o5, ρ = [some (.int m), some (.lst (ls.map Ln.tr)), some (.str abc), some (.own hh), o4, o5]) ∧ HallAt μ hh l1 l2 (nws m.toNat) (ls.take k)) ⟨⟨_, _, rfl⟩, H⟩ ?_ ?_
  case refine_2 =>
    rintro k l ρ μ hk ⟨⟨o4, o5, rfl⟩, H⟩
    refine ⟨hgd _ .lst, ?_⟩
    have ok := hok l (List.mem_of_getElem? hk)
    have hkl := (List.getElem?_eq_some_iff.mp hk).1
    have et : ls.take (k + 1) = ls.take k ++ [l] := by
      rw [List.take_add_one, hk]
      rfl
    simp_arith [A.f_Hall_init, A.g_Hall_init, S_Hall_init, i_Hall_init, A.c_Hall, A.f_Hall_work, A.g_Hall_work, S_Hall_work, i_Hall_work, A.f_Hall_belt, A.g_Hall_belt, S_Hall_belt, i_Hall_belt, Ln.tr]
    apply e_cons; simp only [denS]; (try simp_arith [A.f_Hall_init, A.g_Hall_init, S_Hall_init, i_Hall_init, A.c_Hall, A.f_Hall_work, A.g_Hall_work, S_Hall_work, i_Hall_work, A.f_Hall_belt, A.g_Hall_belt, S_Hall_belt, i_Hall_belt, H.o, Ln.tr]); repeat ((with_reducible refine And.intro ?_ ?_); omega)
    refine ⟨l1, l2, nws m.toNat, ls.take k, l, rfl, rfl, rfl, rfl, rfl, H, ?_⟩
    rw [hnl]
    simp only [ok.g0, ok.g1, ok.t0, ok.t1, and_self, not_true_eq_false, if_false, show ¬ (l.gi < 1 ∨ l.ta < 1 ∨ l.st < 0) by have := ok.gi; have := ok.ta; have := ok.st; omega, show ¬ 60 ≤ (ls.take k).length by rw [List.length_take]; omega]
    exact ⟨_, _, .refl _ _, ⟨_, _, rfl⟩, by rw [et]; exact H.addB l⟩
  clear H μ
  rintro ρ μ ⟨⟨o4, o5, rfl⟩, H⟩
  rw [List.take_length] at H
  refine ⟨hgd _ .lst, ?_⟩
  apply e_cons; simp only [denS]; (try simp_arith [A.f_Hall_init, A.g_Hall_init, S_Hall_init, i_Hall_init, A.c_Hall, A.f_Hall_work, A.g_Hall_work, S_Hall_work, i_Hall_work, A.f_Hall_belt, A.g_Hall_belt, S_Hall_belt, i_Hall_belt]); repeat ((with_reducible refine And.intro ?_ ?_); omega)
  exact fin_id (hR _ _ _ _ H)
def S__law_refused : TSp := fun ts μ F R => ∃ h l1 l2 ns ls rm, ts = [.own h, .lst (rm.map T.int)] ∧ HallAt μ h l1 l2 ns ls ∧ NmL ns ∧ ls.length ≤ 1000 ∧ (rm.length ≠ ls.length ∨ ∃ p ∈ ls.zip rm, p.2 < Ln.st p.1) ∧ R (.bl true) μ
structure A__law_refused (G : Tab) (Γ : Nat → TSp) : Prop where
  f_backed : G.fn n_backed = some i_backed
  g_backed : Γ n_backed = S_backed
  x_NoBelt : G.ex 1 = some ("NoBelt" : Str)
  x_NoName : G.ex 5 = some ("NoName" : Str)
  x_NoRate : G.ex 7 = some ("NoRate" : Str)
  x_NoRoom : G.ex 8 = some ("NoRoom" : Str)
  x_NoWork : G.ex 10 = some ("NoWork" : Str)
  x_RateError : G.ex 12 = some ("RateError" : Str)
  x_TooMuch : G.ex 15 = some ("TooMuch" : Str)
  x_Twice : G.ex 16 = some ("Twice" : Str)
abbrev B__law_refused (G : Tab) (Γ : Nat → TSp) : Prop := ∀ ts μ F R, S__law_refused ts μ F R → denSs G Γ c__law_refused (bodyD R F) (startT N__law_refused.length ts) μ
theorem body__law_refused {G : Tab} {Γ : Nat → TSp} (A : A__law_refused G Γ) : B__law_refused G Γ := by
  rintro ts μ F R ⟨h, l1, l2, ns, ls, rm, rfl, H, hN, hz, hbad, hR⟩
  unfold c__law_refused
  simp only [Rh.startT, List.length_cons, List.length_nil, List.map_cons, List.map_nil, List.replicate, List.cons_append, List.nil_append, Nat.reduceAdd, Nat.reduceSub, N__law_refused]
  apply e_cons; simp only [denS]; (try simp_arith [A.f_backed, A.g_backed, S_backed, i_backed, A.x_NoBelt, A.x_NoName, A.x_NoRate, A.x_NoRoom, A.x_NoWork, A.x_RateError, A.x_TooMuch, A.x_Twice]); repeat ((with_reducible refine And.intro ?_ ?_); omega)
  apply e_cons; simp only [denS]; (try simp_arith [A.f_backed, A.g_backed, S_backed, i_backed, A.x_NoBelt, A.x_NoName, A.x_NoRate, A.x_NoRoom, A.x_NoWork, A.x_RateError, A.x_TooMuch, A.x_Twice]); repeat ((with_reducible refine And.intro ?_ ?_); omega)
  apply e_cons; simp only [denS]; (try simp_arith [A.f_backed, A.g_backed, S_backed, i_backed, A.x_NoBelt, A.x_NoName, A.x_NoRate, A.x_NoRoom, A.x_NoWork, A.x_RateError, A.x_TooMuch, A.x_Twice]); repeat ((with_reducible refine And.intro ?_ ?_); omega)
  refine ⟨l1, l2, ns, ls, H, rm, .lst, hN, hz, fun hl hr => ?_, fun _ μ2 sb => ?_⟩
  · exfalso
    rcases hbad with z | ⟨p, hp, z⟩
    · exact z hl
    · have := hr p hp
      omega
  intro p hp
  apply e_cons; simp only [denS]; (try simp_arith [A.f_backed, A.g_backed, S_backed, i_backed, A.x_NoBelt, A.x_NoName, A.x_NoRate, A.x_NoRoom, A.x_NoWork, A.x_RateError, A.x_TooMuch, A.x_Twice]); repeat ((with_reducible refine And.intro ?_ ?_); omega)
  apply e_cons; simp only [denS]; (try simp_arith [A.f_backed, A.g_backed, S_backed, i_backed, A.x_NoBelt, A.x_NoName, A.x_NoRate, A.x_NoRoom, A.x_NoWork, A.x_RateError, A.x_TooMuch, A.x_Twice]); repeat ((with_reducible refine And.intro ?_ ?_); omega)
  exact fin_sub _ sb hR
def S__law_spoilt : TSp := fun ts μ F R => ∃ (ns : List Int) (ls : List Ln) (rm : List Int), ts = [.scr (ns.map T.int), .lst (ls.map Ln.tr), .lst (rm.map T.int)] ∧ rm.length = ls.length ∧ ls.length ≤ 60 ∧ ∀ rm2 : List Int, (rm2.length ≠ ls.length ∨ ∃ p ∈ ls.zip rm2, p.2 < Ln.st p.1) → R (.lst (rm2.map T.int)) μ
structure A__law_spoilt (G : Tab) (Γ : Nat → TSp) : Prop where
  f__law_mix : G.fn n__law_mix = some i__law_mix
  g__law_mix : Γ n__law_mix = S__law_mix
  f__law_cell : G.fn n__law_cell = some i__law_cell
  g__law_cell : Γ n__law_cell = S__law_cell
abbrev B__law_spoilt (G : Tab) (Γ : Nat → TSp) : Prop := ∀ ts μ F R, S__law_spoilt ts μ F R → denSs G Γ c__law_spoilt (bodyD R F) (startT N__law_spoilt.length ts) μ
theorem body__law_spoilt {G : Tab} {Γ : Nat → TSp} (A : A__law_spoilt G Γ) : B__law_spoilt G Γ := by
  rintro ts μ F R ⟨ns, ls, rm, rfl, hl, hz, hR⟩
  unfold c__law_spoilt
  simp only [Rh.startT, List.length_cons, List.length_nil, List.map_cons, List.map_nil, List.replicate, List.cons_append, List.nil_append, Nat.reduceAdd, Nat.reduceSub, N__law_spoilt]
  apply e_cons; simp only [denS]; (try simp_arith [A.f__law_mix, A.g__law_mix, S__law_mix, i__law_mix, A.f__law_cell, A.g__law_cell, S__law_cell, i__law_cell]); repeat ((with_reducible refine And.intro ?_ ?_); omega)
  have hd := @mixW_nn (cel ns 2) 8
  generalize mixW (cel ns 2) 8 = d at hd ⊢
  apply e_cons; apply e_ife; simp_arith [A.f__law_mix, A.g__law_mix, S__law_mix, i__law_mix, A.f__law_cell, A.g__law_cell, S__law_cell, i__law_cell]; repeat ((with_reducible refine And.intro ?_ ?_); omega)
  have hat : ∀ (d : Int), 0 ≤ d → 0 < ls.length → ∃ (k : Nat) (l : Ln), d % (ls.length : Int) = k ∧ k < ls.length ∧ ls[k]? = some l := fun d h0 h => by
    have q0 := Int.emod_nonneg d (show (ls.length : Int) ≠ 0 by omega)
    have q1 := Int.emod_lt_of_pos d (show 0 < (ls.length : Int) by omega)
    exact ⟨(d % (ls.length : Int)).toNat, ls[(d % (ls.length : Int)).toNat]'(by omega), by omega, by omega, List.getElem?_eq_getElem (by omega)⟩
  have hend : ∀ x : Int, R (.lst ((rm ++ [x]).map T.int)) μ := fun x => hR _ (.inl (by rw [List.length_append, List.length_singleton]; omega))
  have y0 := Int.emod_nonneg (d / 90) (show (3 : Int) ≠ 0 by decide)
  by_cases h0 : d % 9 = 0
  · rw [if_pos h0]
    by_cases hn : 0 < ls.length
    · rw [if_pos (by omega)]
      obtain ⟨k, l, e1, e2, e3⟩ := hat (d / 9) (by omega) hn
      have b1 := at_map (f := Ln.tr) (show (0 : Int) ≤ (k : Int) by omega) e3
      have s1 : ∀ R : RP, tSlice false (.lst (rm.map T.int)) none (some (k : Int)) μ R = R (.lst ((rm.take k).map T.int)) μ := fun R => by
        rw [slc_at .lst, cut_to (by omega) (by rw [Int.toNat_natCast, List.length_map]; omega), Int.toNat_natCast, List.map_take]
        rfl
      have s2 : ∀ R : RP, tSlice false (.lst (rm.map T.int)) (some ((k : Int) + 1)) none μ R = R (.lst ((rm.drop (k + 1)).map T.int)) μ := fun R => by
        rw [slc_at .lst, cut_mid (by rw [List.length_map]; omega), List.map_drop]
        rfl
      apply e_cons; simp only [denS]; (try simp_arith [A.f__law_mix, A.g__law_mix, S__law_mix, i__law_mix, A.f__law_cell, A.g__law_cell, S__law_cell, i__law_cell]); repeat ((with_reducible refine And.intro ?_ ?_); omega)
      rw [e1]
      apply e_cons; simp only [denS]; (try simp_arith [A.f__law_mix, A.g__law_mix, S__law_mix, i__law_mix, A.f__law_cell, A.g__law_cell, S__law_cell, i__law_cell, s1, s2, b1, Ln.tr]); repeat ((with_reducible refine And.intro ?_ ?_); omega)
      rw [cut_mid (by rw [List.length_map]; omega)]
      refine ⟨by rw [List.length_take]; omega, by rw [List.length_take, List.length_drop, List.length_map]; omega, ?_⟩
      have e9 : (rm.take k).map T.int ++ [T.int (l.st - 1 - d / 90 % 3)] ++ (rm.map T.int).drop (k + 1) = (rm.set k (l.st - 1 - d / 90 % 3)).map T.int := by
        rw [← set_parts (by omega)]
        simp
      rw [e9]
      refine fin_id (hR _ (.inr ⟨(l, l.st - 1 - d / 90 % 3), ?_, by show l.st - 1 - d / 90 % 3 < l.st; omega⟩))
      refine List.mem_of_getElem? (i := k) ?_
      rw [List.getElem?_zip_eq_some]
      exact ⟨e3, List.getElem?_set_self (by omega)⟩
    · have hn' : ¬ (0 : Int) < (ls.length : Int) := by omega
      simp only [hn', if_false]
      apply e_cons; apply e_ife; simp_arith [A.f__law_mix, A.g__law_mix, S__law_mix, i__law_mix, A.f__law_cell, A.g__law_cell, S__law_cell, i__law_cell]; repeat ((with_reducible refine And.intro ?_ ?_); omega)
      simp only [show (d % 9 = 1) = False from eq_false (by omega), if_false]
      apply e_cons; simp only [denS]; (try simp_arith [A.f__law_mix, A.g__law_mix, S__law_mix, i__law_mix, A.f__law_cell, A.g__law_cell, S__law_cell, i__law_cell]); repeat ((with_reducible refine And.intro ?_ ?_); omega)
      rw [show rm.map T.int ++ [T.int (d / 9 % 50)] = (rm ++ [d / 9 % 50]).map T.int by simp]
      exact fin_id (hend _)
  simp only [h0, if_false]
  apply e_cons; apply e_ife; simp_arith [A.f__law_mix, A.g__law_mix, S__law_mix, i__law_mix, A.f__law_cell, A.g__law_cell, S__law_cell, i__law_cell]; repeat ((with_reducible refine And.intro ?_ ?_); omega)
  by_cases h1 : d % 9 = 1
  · simp only [h1, if_true]
    by_cases hn : 0 < ls.length
    · have hn' : (0 : Int) < (ls.length : Int) := by omega
      simp only [hn', if_true]
      apply e_cons; simp only [denS]; (try simp_arith [A.f__law_mix, A.g__law_mix, S__law_mix, i__law_mix, A.f__law_cell, A.g__law_cell, S__law_cell, i__law_cell]); repeat ((with_reducible refine And.intro ?_ ?_); omega)
      rw [cut_from (by omega) (by rw [List.length_map]; omega), ← List.map_drop]
      exact fin_id (hR _ (.inl (by rw [List.length_drop]; omega)))
    · have hn' : ¬ (0 : Int) < (ls.length : Int) := by omega
      simp only [hn', if_false]
      apply e_cons; simp only [denS]; (try simp_arith [A.f__law_mix, A.g__law_mix, S__law_mix, i__law_mix, A.f__law_cell, A.g__law_cell, S__law_cell, i__law_cell]); repeat ((with_reducible refine And.intro ?_ ?_); omega)
      rw [show rm.map T.int ++ [T.int (d / 9 % 50)] = (rm ++ [d / 9 % 50]).map T.int by simp]
      exact fin_id (hend _)
  · simp only [h1, if_false]
    apply e_cons; simp only [denS]; (try simp_arith [A.f__law_mix, A.g__law_mix, S__law_mix, i__law_mix, A.f__law_cell, A.g__law_cell, S__law_cell, i__law_cell]); repeat ((with_reducible refine And.intro ?_ ?_); omega)
    rw [show rm.map T.int ++ [T.int (d / 9 % 50)] = (rm ++ [d / 9 % 50]).map T.int by simp]
    exact fin_id (hend _)
def S__law_with_back : TSp := fun ts μ F R => ∃ (ls : List Ln) (rm : List Int), ts = [.lst (ls.map Ln.tr), .lst (rm.map T.int)] ∧ rm.length = ls.length ∧ ls.length ≤ 1000 ∧ R (.lst ((ls ++ bkL ls rm).map Ln.tr)) μ
structure A__law_with_back (G : Tab) (Γ : Nat → TSp) : Prop where
  triv : True
abbrev B__law_with_back (G : Tab) (Γ : Nat → TSp) : Prop := ∀ ts μ F R, S__law_with_back ts μ F R → denSs G Γ c__law_with_back (bodyD R F) (startT N__law_with_back.length ts) μ
theorem body__law_with_back {G : Tab} {Γ : Nat → TSp} (A : A__law_with_back G Γ) : B__law_with_back G Γ := by
  rintro ts μ F R ⟨ls, rm, rfl, hl, hll, hR⟩
  unfold c__law_with_back
  simp only [Rh.startT, List.length_cons, List.length_nil, List.map_cons, List.map_nil, List.replicate, List.cons_append, List.nil_append, Nat.reduceAdd, Nat.reduceSub, N__law_with_back]
  apply e_cons; simp only [denS]; (try simp_arith []); repeat ((with_reducible refine And.intro ?_ ?_); omega)
  refine onG_at .lst fun ga hga => onG_at .lst fun gb hgb => ?_
  rw [zip_lr]
  refine comp_pure (fun _ => true) (fun t => match t with | .tup [.tup [a, b, c, d, .int e], .int r] => .tup [b, a, d, c, .int (r - e)] | t => t) ⟨hga _ .lst, hgb _ .lst⟩ (by rw [List.length_map, List.length_zip, sz]; omega) ?_ ?_
  · intro u hu Y N hY _
    obtain ⟨⟨l, r⟩, hp, rfl⟩ := List.mem_map.mp hu
    have hY : Y (.tup [.int l.t, .int l.g, .int l.ta, .int l.gi, .int (r - l.st)]) μ := hY rfl
    simp only [wipeT]
    simp_arith [Ln.tr]
    exact hY
  rw [List.filter_eq_self.mpr (fun _ _ => rfl), List.map_map]
  have e : (ls.zip rm).map ((fun t => match t with | .tup [.tup [a, b, c, d, .int e], .int r] => .tup [b, a, d, c, .int (r - e)] | t => t) ∘ fun p : Ln × Int => T.tup [p.1.tr, .int p.2]) = (bkL ls rm).map Ln.tr := by
    unfold bkL
    rw [List.map_map]
    rfl
  rw [e]
  simp only [newL]
  have hbl := bkL_len hl
  apply e_cons; simp only [denS]; (try simp_arith []); repeat ((with_reducible refine And.intro ?_ ?_); omega)
  rw [← List.map_append]
  exact fin_id hR
def S_law : TSp := sLawT
structure A_law (G : Tab) (Γ : Nat → TSp) : Prop where
  f__law_cell : G.fn n__law_cell = some i__law_cell
  g__law_cell : Γ n__law_cell = S__law_cell
  f__law_mix : G.fn n__law_mix = some i__law_mix
  g__law_mix : Γ n__law_mix = S__law_mix
  f__law_lines : G.fn n__law_lines = some i__law_lines
  g__law_lines : Γ n__law_lines = S__law_lines
  f__law_made : G.fn n__law_made = some i__law_made
  g__law_made : Γ n__law_made = S__law_made
  f_Hall_names : G.fn n_Hall_names = some i_Hall_names
  g_Hall_names : Γ n_Hall_names = S_Hall_names
  f__law_refused : G.fn n__law_refused = some i__law_refused
  g__law_refused : Γ n__law_refused = S__law_refused
  f__law_spoilt : G.fn n__law_spoilt = some i__law_spoilt
  g__law_spoilt : Γ n__law_spoilt = S__law_spoilt
  f_Hall_belts : G.fn n_Hall_belts = some i_Hall_belts
  g_Hall_belts : Γ n_Hall_belts = S_Hall_belts
  f_backed : G.fn n_backed = some i_backed
  g_backed : Γ n_backed = S_backed
  f__law_with_back : G.fn n__law_with_back = some i__law_with_back
  g__law_with_back : Γ n__law_with_back = S__law_with_back
  f__law_hall_like : G.fn n__law_hall_like = some i__law_hall_like
  g__law_hall_like : Γ n__law_hall_like = S__law_hall_like
  f_Hall_fill : G.fn n_Hall_fill = some i_Hall_fill
  g_Hall_fill : Γ n_Hall_fill = S_Hall_fill
  f_rates_of : G.fn n_rates_of = some i_rates_of
  g_rates_of : Γ n_rates_of = S_rates_of
  f_Hall_work : G.fn n_Hall_work = some i_Hall_work
  g_Hall_work : Γ n_Hall_work = S_Hall_work
  f_pieces_of : G.fn n_pieces_of = some i_pieces_of
  g_pieces_of : Γ n_pieces_of = S_pieces_of
  f__law_pieces : G.fn n__law_pieces = some i__law_pieces
  g__law_pieces : Γ n__law_pieces = S__law_pieces
abbrev B_law (G : Tab) (Γ : Nat → TSp) : Prop := ∀ ts μ F R, S_law ts μ F R → denSs G Γ c_law (bodyD R F) (startT N_law.length ts) μ
theorem law_tail {G : Tab} {Γ : Nat → TSp} (A : A_law G Γ) {F : XP} {R : RP} (hR : ∀ μ', R (.bl true) μ') {ns : List Int} {n : Nat} {ls W : List Ln} {rm : List Int} {o6 : Option T} {h l1 l2 h2 k1 k2 : Addr} {μ : Sto} (n1 : 1 ≤ n) (n2 : n ≤ 29) (hz : ls.length ≤ 60) (hi : Inr (ends ls) n) (hiW : Inr (ends W) n) (hWl : W.length ≤ 120) (hsW : ∀ l ∈ W, 0 ≤ Ln.st l) (d1 : h ≠ h2 ∧ h ≠ k1 ∧ h ≠ k2) (d2 : l1 ≠ h2 ∧ l1 ≠ k1 ∧ l1 ≠ k2) (d3 : l2 ≠ h2 ∧ l2 ≠ k1 ∧ l2 ≠ k2) (G1 : HallAt μ h l1 l2 (nws n) (ls.map (fl1 fun s => s / 2 + 1))) (G2 : HallAt μ h2 k1 k2 (nws n) W) :
    denSs G Γ (c_law.drop 16) (bodyD R F) [some (.scr (ns.map T.int)), some (.int n), some (.lst (ls.map Ln.tr)), some (.own h), some (.lst ((nws n).map T.str)), some (.lst (rm.map T.int)), o6, none, none, some (.lst (rm.map T.int)), some (.own h2), some (.lst (W.map Ln.tr))] μ := by
  unfold c_law
  simp only [List.drop_succ_cons, List.drop_zero]
  have hnl : (nws n).length = n := nws_len
  have hN := nws_nml16 (k := n) (by omega)
  have hok := hN.ok
  apply e_cons; simp only [denS]; (try simp_arith [A.f__law_cell, A.g__law_cell, S__law_cell, i__law_cell, A.f__law_mix, A.g__law_mix, S__law_mix, i__law_mix, A.f__law_lines, A.g__law_lines, S__law_lines, i__law_lines, A.f__law_made, A.g__law_made, S__law_made, i__law_made, A.f_Hall_names, A.g_Hall_names, S_Hall_names, i_Hall_names, A.f__law_refused, A.g__law_refused, S__law_refused, i__law_refused, A.f__law_spoilt, A.g__law_spoilt, S__law_spoilt, i__law_spoilt, A.f_Hall_belts, A.g_Hall_belts, S_Hall_belts, i_Hall_belts, A.f_backed, A.g_backed, S_backed, i_backed, A.f__law_with_back, A.g__law_with_back, S__law_with_back, i__law_with_back, A.f__law_hall_like, A.g__law_hall_like, S__law_hall_like, i__law_hall_like, A.f_Hall_fill, A.g_Hall_fill, S_Hall_fill, i_Hall_fill, A.f_rates_of, A.g_rates_of, S_rates_of, i_rates_of, A.f_Hall_work, A.g_Hall_work, S_Hall_work, i_Hall_work, A.f_pieces_of, A.g_pieces_of, S_pieces_of, i_pieces_of, A.f__law_pieces, A.g__law_pieces, S__law_pieces, i__law_pieces]); repeat ((with_reducible refine And.intro ?_ ?_); omega)
  refine for_rng (fun k ρ μ' => (∃ o6, ρ = [some (.scr (ns.map T.int)), some (.int n), some (.lst (ls.map Ln.tr)), some (.own h), some (.lst ((nws n).map T.str)), some (.lst (rm.map T.int)), o6, none, none, some (.lst (rm.map T.int)), some (.own h2), some (.lst (W.map Ln.tr))]) ∧ HallAt μ' h l1 l2 (nws n) (ls.map (fl1 fun s => s / 2 + 1)) ∧ HallAt μ' h2 k1 k2 (nws n) (fillL (fun s => s / 3 + 2) k W)) ⟨⟨_, rfl⟩, G1, G2⟩ ?_ ?_
  case refine_2 =>
    rintro k ρ μ' hk ⟨⟨o6, rfl⟩, G1, G2⟩
    refine ⟨trivial, ?_⟩
    obtain ⟨l, el⟩ : ∃ l, W[k]? = some l := ⟨_, List.getElem?_eq_getElem hk⟩
    have b1 := at_map (f := Ln.tr) (show (0 : Int) ≤ (k : Int) by omega) el
    have hl0 := hsW l (List.mem_of_getElem? el)
    simp_arith [A.f__law_cell, A.g__law_cell, S__law_cell, i__law_cell, A.f__law_mix, A.g__law_mix, S__law_mix, i__law_mix, A.f__law_lines, A.g__law_lines, S__law_lines, i__law_lines, A.f__law_made, A.g__law_made, S__law_made, i__law_made, A.f_Hall_names, A.g_Hall_names, S_Hall_names, i_Hall_names, A.f__law_refused, A.g__law_refused, S__law_refused, i__law_refused, A.f__law_spoilt, A.g__law_spoilt, S__law_spoilt, i__law_spoilt, A.f_Hall_belts, A.g_Hall_belts, S_Hall_belts, i_Hall_belts, A.f_backed, A.g_backed, S_backed, i_backed, A.f__law_with_back, A.g__law_with_back, S__law_with_back, i__law_with_back, A.f__law_hall_like, A.g__law_hall_like, S__law_hall_like, i__law_hall_like, A.f_Hall_fill, A.g_Hall_fill, S_Hall_fill, i_Hall_fill, A.f_rates_of, A.g_rates_of, S_rates_of, i_rates_of, A.f_Hall_work, A.g_Hall_work, S_Hall_work, i_Hall_work, A.f_pieces_of, A.g_pieces_of, S_pieces_of, i_pieces_of, A.f__law_pieces, A.g__law_pieces, S__law_pieces, i__law_pieces]
    apply e_cons; simp only [denS]; (try simp_arith [A.f__law_cell, A.g__law_cell, S__law_cell, i__law_cell, A.f__law_mix, A.g__law_mix, S__law_mix, i__law_mix, A.f__law_lines, A.g__law_lines, S__law_lines, i__law_lines, A.f__law_made, A.g__law_made, S__law_made, i__law_made, A.f_Hall_names, A.g_Hall_names, S_Hall_names, i_Hall_names, A.f__law_refused, A.g__law_refused, S__law_refused, i__law_refused, A.f__law_spoilt, A.g__law_spoilt, S__law_spoilt, i__law_spoilt, A.f_Hall_belts, A.g_Hall_belts, S_Hall_belts, i_Hall_belts, A.f_backed, A.g_backed, S_backed, i_backed, A.f__law_with_back, A.g__law_with_back, S__law_with_back, i__law_with_back, A.f__law_hall_like, A.g__law_hall_like, S__law_hall_like, i__law_hall_like, A.f_Hall_fill, A.g_Hall_fill, S_Hall_fill, i_Hall_fill, A.f_rates_of, A.g_rates_of, S_rates_of, i_rates_of, A.f_Hall_work, A.g_Hall_work, S_Hall_work, i_Hall_work, A.f_pieces_of, A.g_pieces_of, S_pieces_of, i_pieces_of, A.f__law_pieces, A.g__law_pieces, S__law_pieces, i__law_pieces, G2.o, b1, Ln.tr]); repeat ((with_reducible refine And.intro ?_ ?_); omega)
    refine ⟨k1, k2, nws n, _, G2, .inl ⟨l, fillL_at el, .inl ⟨by omega, ?_⟩⟩⟩
    have G3 := G2.setB k (fl1 (fun s => s / 3 + 2) l)
    rw [fillL_set el] at G3
    exact ⟨_, _, .refl _ _, ⟨_, rfl⟩, G1.put d1.2.2 d2.2.2 d3.2.2, G3⟩
  rintro ρ μ4 ⟨⟨o6, rfl⟩, G1, G2⟩
  refine ⟨trivial, ?_⟩
  rw [fillL_all] at G2
  have hE2 : ends (W.map (fl1 fun s => s / 3 + 2)) = ends W := by rw [← fillL_all]; exact fillL_ends
  obtain ⟨ok1, len1⟩ := isName_ok nw_lates.1
  obtain ⟨ok2, len2⟩ := isName_ok nw_lates.2.1
  have il1 := nw_lates.1
  have il2 := nw_lates.2.1
  obtain ⟨nl1, nl2⟩ := nws_lates (n := n) (by omega)
  apply e_cons; simp only [denS]; (try simp_arith [A.f__law_cell, A.g__law_cell, S__law_cell, i__law_cell, A.f__law_mix, A.g__law_mix, S__law_mix, i__law_mix, A.f__law_lines, A.g__law_lines, S__law_lines, i__law_lines, A.f__law_made, A.g__law_made, S__law_made, i__law_made, A.f_Hall_names, A.g_Hall_names, S_Hall_names, i_Hall_names, A.f__law_refused, A.g__law_refused, S__law_refused, i__law_refused, A.f__law_spoilt, A.g__law_spoilt, S__law_spoilt, i__law_spoilt, A.f_Hall_belts, A.g_Hall_belts, S_Hall_belts, i_Hall_belts, A.f_backed, A.g_backed, S_backed, i_backed, A.f__law_with_back, A.g__law_with_back, S__law_with_back, i__law_with_back, A.f__law_hall_like, A.g__law_hall_like, S__law_hall_like, i__law_hall_like, A.f_Hall_fill, A.g_Hall_fill, S_Hall_fill, i_Hall_fill, A.f_rates_of, A.g_rates_of, S_rates_of, i_rates_of, A.f_Hall_work, A.g_Hall_work, S_Hall_work, i_Hall_work, A.f_pieces_of, A.g_pieces_of, S_pieces_of, i_pieces_of, A.f__law_pieces, A.g__law_pieces, S__law_pieces, i__law_pieces, G2.o]); repeat ((with_reducible refine And.intro ?_ ?_); omega)
  refine ⟨k1, k2, nws n, _, G2, by omega, ok1, hok, ?_⟩
  simp only [il1, nl1, Bool.true_eq_false, if_false, show ¬ 30 ≤ (nws n).length by omega]
  have G3 := G2.addW (Str.ofString "latework")
  have G4 := G1.put (ob := .lst ((nws n).map T.str ++ [.str (Str.ofString "latework")])) d1.2.1 d2.2.1 d3.2.1
  generalize μ4.set k1 (.lst ((nws n).map T.str ++ [.str (Str.ofString "latework")])) = μ5 at G3 G4 ⊢
  clear G1 G2
  apply e_cons; simp only [denS]; (try simp_arith [A.f__law_cell, A.g__law_cell, S__law_cell, i__law_cell, A.f__law_mix, A.g__law_mix, S__law_mix, i__law_mix, A.f__law_lines, A.g__law_lines, S__law_lines, i__law_lines, A.f__law_made, A.g__law_made, S__law_made, i__law_made, A.f_Hall_names, A.g_Hall_names, S_Hall_names, i_Hall_names, A.f__law_refused, A.g__law_refused, S__law_refused, i__law_refused, A.f__law_spoilt, A.g__law_spoilt, S__law_spoilt, i__law_spoilt, A.f_Hall_belts, A.g_Hall_belts, S_Hall_belts, i_Hall_belts, A.f_backed, A.g_backed, S_backed, i_backed, A.f__law_with_back, A.g__law_with_back, S__law_with_back, i__law_with_back, A.f__law_hall_like, A.g__law_hall_like, S__law_hall_like, i__law_hall_like, A.f_Hall_fill, A.g_Hall_fill, S_Hall_fill, i_Hall_fill, A.f_rates_of, A.g_rates_of, S_rates_of, i_rates_of, A.f_Hall_work, A.g_Hall_work, S_Hall_work, i_Hall_work, A.f_pieces_of, A.g_pieces_of, S_pieces_of, i_pieces_of, A.f__law_pieces, A.g__law_pieces, S__law_pieces, i__law_pieces, G4.o]); repeat ((with_reducible refine And.intro ?_ ?_); omega)
  refine ⟨l1, l2, nws n, _, G4, by omega, ok2, hok, ?_⟩
  simp only [il2, nl2, Bool.true_eq_false, if_false, show ¬ 30 ≤ (nws n).length by omega]
  have G5 := G4.addW (Str.ofString "workless")
  have G6 := G3.put (ob := .lst ((nws n).map T.str ++ [.str (Str.ofString "workless")])) d2.1.symm d2.2.1.symm d2.2.2.symm
  generalize μ5.set l1 (.lst ((nws n).map T.str ++ [.str (Str.ofString "workless")])) = μ6 at G5 G6 ⊢
  clear G3 G4
  have hok1 : ∀ x ∈ nws n ++ [Str.ofString "latework"], sOk x := fun x hx' => (List.mem_append.mp hx').elim (hok x) fun z => by rw [List.mem_singleton.mp z]; exact ok1
  have hok2 : ∀ x ∈ nws n ++ [Str.ofString "workless"], sOk x := fun x hx' => (List.mem_append.mp hx').elim (hok x) fun z => by rw [List.mem_singleton.mp z]; exact ok2
  have em1 : (nws n).map T.str ++ [T.str (Str.ofString "latework")] = (nws n ++ [Str.ofString "latework"]).map T.str := by rw [List.map_append]; rfl
  have em2 : (nws n).map T.str ++ [T.str (Str.ofString "workless")] = (nws n ++ [Str.ofString "workless"]).map T.str := by rw [List.map_append]; rfl
  apply e_cons; apply e_ife; simp_arith [A.f__law_cell, A.g__law_cell, S__law_cell, i__law_cell, A.f__law_mix, A.g__law_mix, S__law_mix, i__law_mix, A.f__law_lines, A.g__law_lines, S__law_lines, i__law_lines, A.f__law_made, A.g__law_made, S__law_made, i__law_made, A.f_Hall_names, A.g_Hall_names, S_Hall_names, i_Hall_names, A.f__law_refused, A.g__law_refused, S__law_refused, i__law_refused, A.f__law_spoilt, A.g__law_spoilt, S__law_spoilt, i__law_spoilt, A.f_Hall_belts, A.g_Hall_belts, S_Hall_belts, i_Hall_belts, A.f_backed, A.g_backed, S_backed, i_backed, A.f__law_with_back, A.g__law_with_back, S__law_with_back, i__law_with_back, A.f__law_hall_like, A.g__law_hall_like, S__law_hall_like, i__law_hall_like, A.f_Hall_fill, A.g_Hall_fill, S_Hall_fill, i_Hall_fill, A.f_rates_of, A.g_rates_of, S_rates_of, i_rates_of, A.f_Hall_work, A.g_Hall_work, S_Hall_work, i_Hall_work, A.f_pieces_of, A.g_pieces_of, S_pieces_of, i_pieces_of, A.f__law_pieces, A.g__law_pieces, S__law_pieces, i__law_pieces, G6.o]; repeat ((with_reducible refine And.intro ?_ ?_); omega)
  refine ⟨k1, k2, _, _, G6, .inr ?_⟩
  dsimp only
  refine ⟨by omega, ?_⟩
  rw [em1, eq_strs hok1 hok1]
  simp_arith [A.f__law_cell, A.g__law_cell, S__law_cell, i__law_cell, A.f__law_mix, A.g__law_mix, S__law_mix, i__law_mix, A.f__law_lines, A.g__law_lines, S__law_lines, i__law_lines, A.f__law_made, A.g__law_made, S__law_made, i__law_made, A.f_Hall_names, A.g_Hall_names, S_Hall_names, i_Hall_names, A.f__law_refused, A.g__law_refused, S__law_refused, i__law_refused, A.f__law_spoilt, A.g__law_spoilt, S__law_spoilt, i__law_spoilt, A.f_Hall_belts, A.g_Hall_belts, S_Hall_belts, i_Hall_belts, A.f_backed, A.g_backed, S_backed, i_backed, A.f__law_with_back, A.g__law_with_back, S__law_with_back, i__law_with_back, A.f__law_hall_like, A.g__law_hall_like, S__law_hall_like, i__law_hall_like, A.f_Hall_fill, A.g_Hall_fill, S_Hall_fill, i_Hall_fill, A.f_rates_of, A.g_rates_of, S_rates_of, i_rates_of, A.f_Hall_work, A.g_Hall_work, S_Hall_work, i_Hall_work, A.f_pieces_of, A.g_pieces_of, S_pieces_of, i_pieces_of, A.f__law_pieces, A.g__law_pieces, S__law_pieces, i__law_pieces, G5.o]
  refine ⟨l1, l2, _, _, G5, .inr ?_⟩
  dsimp only
  refine ⟨by omega, ?_⟩
  rw [em2, eq_strs hok2 hok2]
  simp_arith [A.f__law_cell, A.g__law_cell, S__law_cell, i__law_cell, A.f__law_mix, A.g__law_mix, S__law_mix, i__law_mix, A.f__law_lines, A.g__law_lines, S__law_lines, i__law_lines, A.f__law_made, A.g__law_made, S__law_made, i__law_made, A.f_Hall_names, A.g_Hall_names, S_Hall_names, i_Hall_names, A.f__law_refused, A.g__law_refused, S__law_refused, i__law_refused, A.f__law_spoilt, A.g__law_spoilt, S__law_spoilt, i__law_spoilt, A.f_Hall_belts, A.g_Hall_belts, S_Hall_belts, i_Hall_belts, A.f_backed, A.g_backed, S_backed, i_backed, A.f__law_with_back, A.g__law_with_back, S__law_with_back, i__law_with_back, A.f__law_hall_like, A.g__law_hall_like, S__law_hall_like, i__law_hall_like, A.f_Hall_fill, A.g_Hall_fill, S_Hall_fill, i_Hall_fill, A.f_rates_of, A.g_rates_of, S_rates_of, i_rates_of, A.f_Hall_work, A.g_Hall_work, S_Hall_work, i_Hall_work, A.f_pieces_of, A.g_pieces_of, S_pieces_of, i_pieces_of, A.f__law_pieces, A.g__law_pieces, S__law_pieces, i__law_pieces]
  have hE1 : ends (ls.map (fl1 fun s => s / 2 + 1)) = ends ls := by rw [← fillL_all]; exact fillL_ends
  have hnl1 : (nws n ++ [Str.ofString "latework"]).length = n + 1 := by rw [List.length_append, hnl]; rfl
  have hnl2 : (nws n ++ [Str.ofString "workless"]).length = n + 1 := by rw [List.length_append, hnl]; rfl
  have hi3 : Inr (ends ls) (n + 1) := fun e he => by have := hi e he; omega
  have hiW3 : Inr (ends W) (n + 1) := fun e he => by have := hiW e he; omega
  apply e_cons; apply e_ife; simp_arith [A.f__law_cell, A.g__law_cell, S__law_cell, i__law_cell, A.f__law_mix, A.g__law_mix, S__law_mix, i__law_mix, A.f__law_lines, A.g__law_lines, S__law_lines, i__law_lines, A.f__law_made, A.g__law_made, S__law_made, i__law_made, A.f_Hall_names, A.g_Hall_names, S_Hall_names, i_Hall_names, A.f__law_refused, A.g__law_refused, S__law_refused, i__law_refused, A.f__law_spoilt, A.g__law_spoilt, S__law_spoilt, i__law_spoilt, A.f_Hall_belts, A.g_Hall_belts, S_Hall_belts, i_Hall_belts, A.f_backed, A.g_backed, S_backed, i_backed, A.f__law_with_back, A.g__law_with_back, S__law_with_back, i__law_with_back, A.f__law_hall_like, A.g__law_hall_like, S__law_hall_like, i__law_hall_like, A.f_Hall_fill, A.g_Hall_fill, S_Hall_fill, i_Hall_fill, A.f_rates_of, A.g_rates_of, S_rates_of, i_rates_of, A.f_Hall_work, A.g_Hall_work, S_Hall_work, i_Hall_work, A.f_pieces_of, A.g_pieces_of, S_pieces_of, i_pieces_of, A.f__law_pieces, A.g__law_pieces, S__law_pieces, i__law_pieces, G6.o]; repeat ((with_reducible refine And.intro ?_ ?_); omega)
  refine ⟨k1, k2, _, _, G6, by rw [hE2, hnl1]; exact hiW3, by omega, .inr ?_⟩
  dsimp only
  refine ⟨W, n + 1, by omega, rfl, hiW3, by omega, by omega, ?_⟩
  rw [hE2, hnl1, eq_lsT]
  simp_arith [A.f__law_cell, A.g__law_cell, S__law_cell, i__law_cell, A.f__law_mix, A.g__law_mix, S__law_mix, i__law_mix, A.f__law_lines, A.g__law_lines, S__law_lines, i__law_lines, A.f__law_made, A.g__law_made, S__law_made, i__law_made, A.f_Hall_names, A.g_Hall_names, S_Hall_names, i_Hall_names, A.f__law_refused, A.g__law_refused, S__law_refused, i__law_refused, A.f__law_spoilt, A.g__law_spoilt, S__law_spoilt, i__law_spoilt, A.f_Hall_belts, A.g_Hall_belts, S_Hall_belts, i_Hall_belts, A.f_backed, A.g_backed, S_backed, i_backed, A.f__law_with_back, A.g__law_with_back, S__law_with_back, i__law_with_back, A.f__law_hall_like, A.g__law_hall_like, S__law_hall_like, i__law_hall_like, A.f_Hall_fill, A.g_Hall_fill, S_Hall_fill, i_Hall_fill, A.f_rates_of, A.g_rates_of, S_rates_of, i_rates_of, A.f_Hall_work, A.g_Hall_work, S_Hall_work, i_Hall_work, A.f_pieces_of, A.g_pieces_of, S_pieces_of, i_pieces_of, A.f__law_pieces, A.g__law_pieces, S__law_pieces, i__law_pieces]
  refine ⟨l1, l2, _, _, G5, by rw [hE1, hnl2]; exact hi3, by omega, .inr ?_⟩
  dsimp only
  refine ⟨ls, n + 1, by omega, rfl, hi3, by omega, by omega, ?_⟩
  rw [hE1, hnl2, eq_lsT]
  simp_arith [A.f__law_cell, A.g__law_cell, S__law_cell, i__law_cell, A.f__law_mix, A.g__law_mix, S__law_mix, i__law_mix, A.f__law_lines, A.g__law_lines, S__law_lines, i__law_lines, A.f__law_made, A.g__law_made, S__law_made, i__law_made, A.f_Hall_names, A.g_Hall_names, S_Hall_names, i_Hall_names, A.f__law_refused, A.g__law_refused, S__law_refused, i__law_refused, A.f__law_spoilt, A.g__law_spoilt, S__law_spoilt, i__law_spoilt, A.f_Hall_belts, A.g_Hall_belts, S_Hall_belts, i_Hall_belts, A.f_backed, A.g_backed, S_backed, i_backed, A.f__law_with_back, A.g__law_with_back, S__law_with_back, i__law_with_back, A.f__law_hall_like, A.g__law_hall_like, S__law_hall_like, i__law_hall_like, A.f_Hall_fill, A.g_Hall_fill, S_Hall_fill, i_Hall_fill, A.f_rates_of, A.g_rates_of, S_rates_of, i_rates_of, A.f_Hall_work, A.g_Hall_work, S_Hall_work, i_Hall_work, A.f_pieces_of, A.g_pieces_of, S_pieces_of, i_pieces_of, A.f__law_pieces, A.g__law_pieces, S__law_pieces, i__law_pieces]
  apply e_cons; simp only [denS]; (try simp_arith [A.f__law_cell, A.g__law_cell, S__law_cell, i__law_cell, A.f__law_mix, A.g__law_mix, S__law_mix, i__law_mix, A.f__law_lines, A.g__law_lines, S__law_lines, i__law_lines, A.f__law_made, A.g__law_made, S__law_made, i__law_made, A.f_Hall_names, A.g_Hall_names, S_Hall_names, i_Hall_names, A.f__law_refused, A.g__law_refused, S__law_refused, i__law_refused, A.f__law_spoilt, A.g__law_spoilt, S__law_spoilt, i__law_spoilt, A.f_Hall_belts, A.g_Hall_belts, S_Hall_belts, i_Hall_belts, A.f_backed, A.g_backed, S_backed, i_backed, A.f__law_with_back, A.g__law_with_back, S__law_with_back, i__law_with_back, A.f__law_hall_like, A.g__law_hall_like, S__law_hall_like, i__law_hall_like, A.f_Hall_fill, A.g_Hall_fill, S_Hall_fill, i_Hall_fill, A.f_rates_of, A.g_rates_of, S_rates_of, i_rates_of, A.f_Hall_work, A.g_Hall_work, S_Hall_work, i_Hall_work, A.f_pieces_of, A.g_pieces_of, S_pieces_of, i_pieces_of, A.f__law_pieces, A.g__law_pieces, S__law_pieces, i__law_pieces, G5.o]); repeat ((with_reducible refine And.intro ?_ ?_); omega)
  refine ⟨l1, l2, _, _, G5, .inr ?_⟩
  dsimp only
  have slc4 : ∀ (a b c d e : T) (μ : Sto) (R : RP), tSlice false (.tup [a, b, c, d, e]) none (some 4) μ R = R (.tup [a, b, c, d]) μ := fun a b c d e μ R => by
    simp only [tSlice]
    rw [show cutT [a, b, c, d, e] none (some 4) = [a, b, c, d] from rfl]
    apply propext
    constructor
    · exact fun h => h.2
    · exact fun h => ⟨fun z => absurd (show HT.sIx 5 5 (some 4) = 5 from z.2) (by decide), h⟩
  refine onG_at .lst fun gd hgd => ?_
  refine comp_pure (fun _ => true) (fun t => match t with | .tup [a, b, c, d, .int e] => .tup [a, b, c, d, .int (e / 2 + 1)] | t => t) (hgd _ .lst) (by rw [List.length_map, sz]; omega) ?_ ?_
  · intro u hu Y N hY _
    obtain ⟨l, hl, rfl⟩ := List.mem_map.mp hu
    have hY : Y (.tup [.int l.g, .int l.t, .int l.gi, .int l.ta, .int (l.st / 2 + 1)]) μ6 := hY rfl
    simp only [wipeT]
    simp_arith [A.f__law_cell, A.g__law_cell, S__law_cell, i__law_cell, A.f__law_mix, A.g__law_mix, S__law_mix, i__law_mix, A.f__law_lines, A.g__law_lines, S__law_lines, i__law_lines, A.f__law_made, A.g__law_made, S__law_made, i__law_made, A.f_Hall_names, A.g_Hall_names, S_Hall_names, i_Hall_names, A.f__law_refused, A.g__law_refused, S__law_refused, i__law_refused, A.f__law_spoilt, A.g__law_spoilt, S__law_spoilt, i__law_spoilt, A.f_Hall_belts, A.g_Hall_belts, S_Hall_belts, i_Hall_belts, A.f_backed, A.g_backed, S_backed, i_backed, A.f__law_with_back, A.g__law_with_back, S__law_with_back, i__law_with_back, A.f__law_hall_like, A.g__law_hall_like, S__law_hall_like, i__law_hall_like, A.f_Hall_fill, A.g_Hall_fill, S_Hall_fill, i_Hall_fill, A.f_rates_of, A.g_rates_of, S_rates_of, i_rates_of, A.f_Hall_work, A.g_Hall_work, S_Hall_work, i_Hall_work, A.f_pieces_of, A.g_pieces_of, S_pieces_of, i_pieces_of, A.f__law_pieces, A.g__law_pieces, S__law_pieces, i__law_pieces, Ln.tr, slc4]
    exact ⟨by simp, by simp, hY⟩
  rw [List.filter_eq_self.mpr (fun _ _ => rfl), List.map_map]
  rw [show ls.map ((fun t => match t with | .tup [a, b, c, d, .int e] => .tup [a, b, c, d, .int (e / 2 + 1)] | t => t) ∘ Ln.tr) = (ls.map (fl1 fun s => s / 2 + 1)).map Ln.tr by rw [List.map_map]; rfl]
  simp only [newL]
  rw [eq_lns .lst .lst]
  exact fin_id (hR _)
theorem body_law {G : Tab} {Γ : Nat → TSp} (A : A_law G Γ) : B_law G Γ := by
  rintro ts μ F R ⟨ns, rfl, hl, hb, hR⟩
  unfold c_law
  simp only [Rh.startT, List.length_cons, List.length_nil, List.map_cons, List.map_nil, List.replicate, List.cons_append, List.nil_append, Nat.reduceAdd, Nat.reduceSub, N_law]
  have q0 := Int.emod_nonneg (cel ns 1) (show (6 : Int) ≠ 0 by decide)
  have q1 := Int.emod_lt_of_pos (cel ns 1) (show (0 : Int) < 6 by decide)
  apply e_cons; simp only [denS]; (try simp_arith [A.f__law_cell, A.g__law_cell, S__law_cell, i__law_cell, A.f__law_mix, A.g__law_mix, S__law_mix, i__law_mix, A.f__law_lines, A.g__law_lines, S__law_lines, i__law_lines, A.f__law_made, A.g__law_made, S__law_made, i__law_made, A.f_Hall_names, A.g_Hall_names, S_Hall_names, i_Hall_names, A.f__law_refused, A.g__law_refused, S__law_refused, i__law_refused, A.f__law_spoilt, A.g__law_spoilt, S__law_spoilt, i__law_spoilt, A.f_Hall_belts, A.g_Hall_belts, S_Hall_belts, i_Hall_belts, A.f_backed, A.g_backed, S_backed, i_backed, A.f__law_with_back, A.g__law_with_back, S__law_with_back, i__law_with_back, A.f__law_hall_like, A.g__law_hall_like, S__law_hall_like, i__law_hall_like, A.f_Hall_fill, A.g_Hall_fill, S_Hall_fill, i_Hall_fill, A.f_rates_of, A.g_rates_of, S_rates_of, i_rates_of, A.f_Hall_work, A.g_Hall_work, S_Hall_work, i_Hall_work, A.f_pieces_of, A.g_pieces_of, S_pieces_of, i_pieces_of, A.f__law_pieces, A.g__law_pieces, S__law_pieces, i__law_pieces]); repeat ((with_reducible refine And.intro ?_ ?_); omega)
  have hd := @mixW_nn (cel ns 1) 4
  generalize mixW (cel ns 1) 4 = d at hd ⊢
  apply e_cons
  refine e_join (fun ρ μ2 => ∃ n : Nat, ρ = [some (.scr (ns.map T.int)), some (.int n), none, none, none, none, none, none, none, none, none, none] ∧ 1 ≤ n ∧ n ≤ 29 ∧ μ2 = μ) ?_ ?_
  case refine_2 =>
    simp_arith [A.f__law_cell, A.g__law_cell, S__law_cell, i__law_cell, A.f__law_mix, A.g__law_mix, S__law_mix, i__law_mix, A.f__law_lines, A.g__law_lines, S__law_lines, i__law_lines, A.f__law_made, A.g__law_made, S__law_made, i__law_made, A.f_Hall_names, A.g_Hall_names, S_Hall_names, i_Hall_names, A.f__law_refused, A.g__law_refused, S__law_refused, i__law_refused, A.f__law_spoilt, A.g__law_spoilt, S__law_spoilt, i__law_spoilt, A.f_Hall_belts, A.g_Hall_belts, S_Hall_belts, i_Hall_belts, A.f_backed, A.g_backed, S_backed, i_backed, A.f__law_with_back, A.g__law_with_back, S__law_with_back, i__law_with_back, A.f__law_hall_like, A.g__law_hall_like, S__law_hall_like, i__law_hall_like, A.f_Hall_fill, A.g_Hall_fill, S_Hall_fill, i_Hall_fill, A.f_rates_of, A.g_rates_of, S_rates_of, i_rates_of, A.f_Hall_work, A.g_Hall_work, S_Hall_work, i_Hall_work, A.f_pieces_of, A.g_pieces_of, S_pieces_of, i_pieces_of, A.f__law_pieces, A.g__law_pieces, S__law_pieces, i__law_pieces]
    have h3 := Int.emod_lt_of_pos (mixW (cel ns 1) 4 / 8) (show (0 : Int) < 23 by decide)
    have h4 := Int.emod_nonneg (mixW (cel ns 1) 4 / 8) (show (23 : Int) ≠ 0 by decide)
    split
    · apply e_cons; simp only [denS]; (try simp_arith [A.f__law_cell, A.g__law_cell, S__law_cell, i__law_cell, A.f__law_mix, A.g__law_mix, S__law_mix, i__law_mix, A.f__law_lines, A.g__law_lines, S__law_lines, i__law_lines, A.f__law_made, A.g__law_made, S__law_made, i__law_made, A.f_Hall_names, A.g_Hall_names, S_Hall_names, i_Hall_names, A.f__law_refused, A.g__law_refused, S__law_refused, i__law_refused, A.f__law_spoilt, A.g__law_spoilt, S__law_spoilt, i__law_spoilt, A.f_Hall_belts, A.g_Hall_belts, S_Hall_belts, i_Hall_belts, A.f_backed, A.g_backed, S_backed, i_backed, A.f__law_with_back, A.g__law_with_back, S__law_with_back, i__law_with_back, A.f__law_hall_like, A.g__law_hall_like, S__law_hall_like, i__law_hall_like, A.f_Hall_fill, A.g_Hall_fill, S_Hall_fill, i_Hall_fill, A.f_rates_of, A.g_rates_of, S_rates_of, i_rates_of, A.f_Hall_work, A.g_Hall_work, S_Hall_work, i_Hall_work, A.f_pieces_of, A.g_pieces_of, S_pieces_of, i_pieces_of, A.f__law_pieces, A.g__law_pieces, S__law_pieces, i__law_pieces]); repeat ((with_reducible refine And.intro ?_ ?_); omega)
      exact ⟨(7 + mixW (cel ns 1) 4 / 8 % 23).toNat, by omega, by omega, by omega⟩
    · exact ⟨(1 + cel ns 1 % 6).toNat, by omega, by omega, by omega⟩
  rintro ρ μ2 ⟨n, rfl, n1, n2, rfl⟩
  apply e_cons; simp only [denS]; (try simp_arith [A.f__law_cell, A.g__law_cell, S__law_cell, i__law_cell, A.f__law_mix, A.g__law_mix, S__law_mix, i__law_mix, A.f__law_lines, A.g__law_lines, S__law_lines, i__law_lines, A.f__law_made, A.g__law_made, S__law_made, i__law_made, A.f_Hall_names, A.g_Hall_names, S_Hall_names, i_Hall_names, A.f__law_refused, A.g__law_refused, S__law_refused, i__law_refused, A.f__law_spoilt, A.g__law_spoilt, S__law_spoilt, i__law_spoilt, A.f_Hall_belts, A.g_Hall_belts, S_Hall_belts, i_Hall_belts, A.f_backed, A.g_backed, S_backed, i_backed, A.f__law_with_back, A.g__law_with_back, S__law_with_back, i__law_with_back, A.f__law_hall_like, A.g__law_hall_like, S__law_hall_like, i__law_hall_like, A.f_Hall_fill, A.g_Hall_fill, S_Hall_fill, i_Hall_fill, A.f_rates_of, A.g_rates_of, S_rates_of, i_rates_of, A.f_Hall_work, A.g_Hall_work, S_Hall_work, i_Hall_work, A.f_pieces_of, A.g_pieces_of, S_pieces_of, i_pieces_of, A.f__law_pieces, A.g__law_pieces, S__law_pieces, i__law_pieces]); repeat ((with_reducible refine And.intro ?_ ?_); omega)
  intro ls hz hls
  have hi := L16.inr hls
  apply e_cons; simp only [denS]; (try simp_arith [A.f__law_cell, A.g__law_cell, S__law_cell, i__law_cell, A.f__law_mix, A.g__law_mix, S__law_mix, i__law_mix, A.f__law_lines, A.g__law_lines, S__law_lines, i__law_lines, A.f__law_made, A.g__law_made, S__law_made, i__law_made, A.f_Hall_names, A.g_Hall_names, S_Hall_names, i_Hall_names, A.f__law_refused, A.g__law_refused, S__law_refused, i__law_refused, A.f__law_spoilt, A.g__law_spoilt, S__law_spoilt, i__law_spoilt, A.f_Hall_belts, A.g_Hall_belts, S_Hall_belts, i_Hall_belts, A.f_backed, A.g_backed, S_backed, i_backed, A.f__law_with_back, A.g__law_with_back, S__law_with_back, i__law_with_back, A.f__law_hall_like, A.g__law_hall_like, S__law_hall_like, i__law_hall_like, A.f_Hall_fill, A.g_Hall_fill, S_Hall_fill, i_Hall_fill, A.f_rates_of, A.g_rates_of, S_rates_of, i_rates_of, A.f_Hall_work, A.g_Hall_work, S_Hall_work, i_Hall_work, A.f_pieces_of, A.g_pieces_of, S_pieces_of, i_pieces_of, A.f__law_pieces, A.g__law_pieces, S__law_pieces, i__law_pieces]); repeat ((with_reducible refine And.intro ?_ ?_); omega)
  refine ⟨ls, rfl, by omega, by omega, hz, fun l hl => (hls l hl).toL17, fun μ1 h l1 l2 H => ?_⟩
  apply e_cons; simp only [denS]; (try simp_arith [A.f__law_cell, A.g__law_cell, S__law_cell, i__law_cell, A.f__law_mix, A.g__law_mix, S__law_mix, i__law_mix, A.f__law_lines, A.g__law_lines, S__law_lines, i__law_lines, A.f__law_made, A.g__law_made, S__law_made, i__law_made, A.f_Hall_names, A.g_Hall_names, S_Hall_names, i_Hall_names, A.f__law_refused, A.g__law_refused, S__law_refused, i__law_refused, A.f__law_spoilt, A.g__law_spoilt, S__law_spoilt, i__law_spoilt, A.f_Hall_belts, A.g_Hall_belts, S_Hall_belts, i_Hall_belts, A.f_backed, A.g_backed, S_backed, i_backed, A.f__law_with_back, A.g__law_with_back, S__law_with_back, i__law_with_back, A.f__law_hall_like, A.g__law_hall_like, S__law_hall_like, i__law_hall_like, A.f_Hall_fill, A.g_Hall_fill, S_Hall_fill, i_Hall_fill, A.f_rates_of, A.g_rates_of, S_rates_of, i_rates_of, A.f_Hall_work, A.g_Hall_work, S_Hall_work, i_Hall_work, A.f_pieces_of, A.g_pieces_of, S_pieces_of, i_pieces_of, A.f__law_pieces, A.g__law_pieces, S__law_pieces, i__law_pieces, H.o]); repeat ((with_reducible refine And.intro ?_ ?_); omega)
  refine ⟨l1, l2, nws n, ls, H, .inr ?_⟩
  dsimp only
  apply e_cons; simp only [denS]; (try simp_arith [A.f__law_cell, A.g__law_cell, S__law_cell, i__law_cell, A.f__law_mix, A.g__law_mix, S__law_mix, i__law_mix, A.f__law_lines, A.g__law_lines, S__law_lines, i__law_lines, A.f__law_made, A.g__law_made, S__law_made, i__law_made, A.f_Hall_names, A.g_Hall_names, S_Hall_names, i_Hall_names, A.f__law_refused, A.g__law_refused, S__law_refused, i__law_refused, A.f__law_spoilt, A.g__law_spoilt, S__law_spoilt, i__law_spoilt, A.f_Hall_belts, A.g_Hall_belts, S_Hall_belts, i_Hall_belts, A.f_backed, A.g_backed, S_backed, i_backed, A.f__law_with_back, A.g__law_with_back, S__law_with_back, i__law_with_back, A.f__law_hall_like, A.g__law_hall_like, S__law_hall_like, i__law_hall_like, A.f_Hall_fill, A.g_Hall_fill, S_Hall_fill, i_Hall_fill, A.f_rates_of, A.g_rates_of, S_rates_of, i_rates_of, A.f_Hall_work, A.g_Hall_work, S_Hall_work, i_Hall_work, A.f_pieces_of, A.g_pieces_of, S_pieces_of, i_pieces_of, A.f__law_pieces, A.g__law_pieces, S__law_pieces, i__law_pieces]); repeat ((with_reducible refine And.intro ?_ ?_); omega)
  intro p hp
  apply e_cons; simp only [denS]; (try simp_arith [A.f__law_cell, A.g__law_cell, S__law_cell, i__law_cell, A.f__law_mix, A.g__law_mix, S__law_mix, i__law_mix, A.f__law_lines, A.g__law_lines, S__law_lines, i__law_lines, A.f__law_made, A.g__law_made, S__law_made, i__law_made, A.f_Hall_names, A.g_Hall_names, S_Hall_names, i_Hall_names, A.f__law_refused, A.g__law_refused, S__law_refused, i__law_refused, A.f__law_spoilt, A.g__law_spoilt, S__law_spoilt, i__law_spoilt, A.f_Hall_belts, A.g_Hall_belts, S_Hall_belts, i_Hall_belts, A.f_backed, A.g_backed, S_backed, i_backed, A.f__law_with_back, A.g__law_with_back, S__law_with_back, i__law_with_back, A.f__law_hall_like, A.g__law_hall_like, S__law_hall_like, i__law_hall_like, A.f_Hall_fill, A.g_Hall_fill, S_Hall_fill, i_Hall_fill, A.f_rates_of, A.g_rates_of, S_rates_of, i_rates_of, A.f_Hall_work, A.g_Hall_work, S_Hall_work, i_Hall_work, A.f_pieces_of, A.g_pieces_of, S_pieces_of, i_pieces_of, A.f__law_pieces, A.g__law_pieces, S__law_pieces, i__law_pieces]); repeat ((with_reducible refine And.intro ?_ ?_); omega)
  refine onG_at .lst fun gd hgd => ?_
  refine for_enum (fun k ρ μ' => ∃ rm : List Int, (∃ o6 o7 o8, ρ = [some (.scr (ns.map T.int)), some (.int n), some (.lst (ls.map Ln.tr)), some (.own h), some (.lst ((nws n).map T.str)), some (.own p), o6, o7, o8, none, none, none]) ∧ μ' = μ1.set p (.lst (rm.map T.int)) ∧ rm.length = k ∧ ∀ q ∈ ls.zip rm, Ln.st q.1 ≤ q.2) ⟨[], ⟨_, _, _, rfl⟩, rfl, rfl, fun q hq => by simp at hq⟩ ?_ ?_
  case refine_2 =>
    rintro k l ρ μ' hk ⟨rm, ⟨o6, o7, o8, rfl⟩, rfl, hrm, hst⟩
    refine ⟨hgd _ .lst, ?_⟩
    have hkl := (List.getElem?_eq_some_iff.mp hk).1
    simp_arith [A.f__law_cell, A.g__law_cell, S__law_cell, i__law_cell, A.f__law_mix, A.g__law_mix, S__law_mix, i__law_mix, A.f__law_lines, A.g__law_lines, S__law_lines, i__law_lines, A.f__law_made, A.g__law_made, S__law_made, i__law_made, A.f_Hall_names, A.g_Hall_names, S_Hall_names, i_Hall_names, A.f__law_refused, A.g__law_refused, S__law_refused, i__law_refused, A.f__law_spoilt, A.g__law_spoilt, S__law_spoilt, i__law_spoilt, A.f_Hall_belts, A.g_Hall_belts, S_Hall_belts, i_Hall_belts, A.f_backed, A.g_backed, S_backed, i_backed, A.f__law_with_back, A.g__law_with_back, S__law_with_back, i__law_with_back, A.f__law_hall_like, A.g__law_hall_like, S__law_hall_like, i__law_hall_like, A.f_Hall_fill, A.g_Hall_fill, S_Hall_fill, i_Hall_fill, A.f_rates_of, A.g_rates_of, S_rates_of, i_rates_of, A.f_Hall_work, A.g_Hall_work, S_Hall_work, i_Hall_work, A.f_pieces_of, A.g_pieces_of, S_pieces_of, i_pieces_of, A.f__law_pieces, A.g__law_pieces, S__law_pieces, i__law_pieces, Ln.tr]
    apply e_cons; simp only [denS]; (try simp_arith [A.f__law_cell, A.g__law_cell, S__law_cell, i__law_cell, A.f__law_mix, A.g__law_mix, S__law_mix, i__law_mix, A.f__law_lines, A.g__law_lines, S__law_lines, i__law_lines, A.f__law_made, A.g__law_made, S__law_made, i__law_made, A.f_Hall_names, A.g_Hall_names, S_Hall_names, i_Hall_names, A.f__law_refused, A.g__law_refused, S__law_refused, i__law_refused, A.f__law_spoilt, A.g__law_spoilt, S__law_spoilt, i__law_spoilt, A.f_Hall_belts, A.g_Hall_belts, S_Hall_belts, i_Hall_belts, A.f_backed, A.g_backed, S_backed, i_backed, A.f__law_with_back, A.g__law_with_back, S__law_with_back, i__law_with_back, A.f__law_hall_like, A.g__law_hall_like, S__law_hall_like, i__law_hall_like, A.f_Hall_fill, A.g_Hall_fill, S_Hall_fill, i_Hall_fill, A.f_rates_of, A.g_rates_of, S_rates_of, i_rates_of, A.f_Hall_work, A.g_Hall_work, S_Hall_work, i_Hall_work, A.f_pieces_of, A.g_pieces_of, S_pieces_of, i_pieces_of, A.f__law_pieces, A.g__law_pieces, S__law_pieces, i__law_pieces]); repeat ((with_reducible refine And.intro ?_ ?_); omega)
    have w0 := mixW_nn (c := cel ns (12 + k)) (w := 9)
    generalize mixW (cel ns (12 + k)) 9 = m at w0 ⊢
    have y1 := Int.emod_nonneg m (show (40 : Int) ≠ 0 by decide)
    have y2 := Int.emod_nonneg (cel ns (12 + k)) (show (100000000000000000000000000000 : Int) ≠ 0 by decide)
    have y3 := Int.emod_nonneg (m / 40) (show (3 : Int) ≠ 0 by decide)
    have y4 := Int.emod_lt_of_pos (m / 40) (show (0 : Int) < 3 by decide)
    obtain ⟨x, hx, hx0⟩ := at3 y3 y4 (show (0 : Int) ≤ 0 by decide) y1 y2
    apply e_cons; simp only [denS]; (try simp_arith [A.f__law_cell, A.g__law_cell, S__law_cell, i__law_cell, A.f__law_mix, A.g__law_mix, S__law_mix, i__law_mix, A.f__law_lines, A.g__law_lines, S__law_lines, i__law_lines, A.f__law_made, A.g__law_made, S__law_made, i__law_made, A.f_Hall_names, A.g_Hall_names, S_Hall_names, i_Hall_names, A.f__law_refused, A.g__law_refused, S__law_refused, i__law_refused, A.f__law_spoilt, A.g__law_spoilt, S__law_spoilt, i__law_spoilt, A.f_Hall_belts, A.g_Hall_belts, S_Hall_belts, i_Hall_belts, A.f_backed, A.g_backed, S_backed, i_backed, A.f__law_with_back, A.g__law_with_back, S__law_with_back, i__law_with_back, A.f__law_hall_like, A.g__law_hall_like, S__law_hall_like, i__law_hall_like, A.f_Hall_fill, A.g_Hall_fill, S_Hall_fill, i_Hall_fill, A.f_rates_of, A.g_rates_of, S_rates_of, i_rates_of, A.f_Hall_work, A.g_Hall_work, S_Hall_work, i_Hall_work, A.f_pieces_of, A.g_pieces_of, S_pieces_of, i_pieces_of, A.f__law_pieces, A.g__law_pieces, S__law_pieces, i__law_pieces, hx]); repeat ((with_reducible refine And.intro ?_ ?_); omega)
    refine ⟨_, _, .refl _ _, ⟨_, _, _, rfl⟩, rm ++ [l.st + x], by rw [set_set, List.map_append]; rfl, by rw [List.length_append, hrm]; rfl, fun q hq => ?_⟩
    rcases zip_snoc16 hk hrm hq with z | rfl
    · exact hst q z
    · show l.st ≤ l.st + x
      omega
  rintro ρ μ' ⟨rm, ⟨o6, o7, o8, rfl⟩, rfl, hrm, hst⟩
  refine ⟨hgd _ .lst, ?_⟩
  dsimp only
  refine e_wk (ρ' := [some (.scr (ns.map T.int)), some (.int n), some (.lst (ls.map Ln.tr)), some (.own h), some (.lst ((nws n).map T.str)), some (.lst (rm.map T.int)), none, none, none, none, none, none]) (μ' := μ1) ⟨[p], .keep (.refl _) (.keep (.refl _) (.keep (.refl _) (.keep (.refl _) (.keep (.refl _) (.keep .one (.gone (.gone (.gone (.gone (.gone (.gone .nil))))))))))), .one hp⟩ ?_
  clear hgd gd hp p
  have hnl : (nws n).length = n := nws_len
  have hN := nws_nml16 (k := n) (by omega)
  apply e_cons; apply e_ife; simp_arith [A.f__law_cell, A.g__law_cell, S__law_cell, i__law_cell, A.f__law_mix, A.g__law_mix, S__law_mix, i__law_mix, A.f__law_lines, A.g__law_lines, S__law_lines, i__law_lines, A.f__law_made, A.g__law_made, S__law_made, i__law_made, A.f_Hall_names, A.g_Hall_names, S_Hall_names, i_Hall_names, A.f__law_refused, A.g__law_refused, S__law_refused, i__law_refused, A.f__law_spoilt, A.g__law_spoilt, S__law_spoilt, i__law_spoilt, A.f_Hall_belts, A.g_Hall_belts, S_Hall_belts, i_Hall_belts, A.f_backed, A.g_backed, S_backed, i_backed, A.f__law_with_back, A.g__law_with_back, S__law_with_back, i__law_with_back, A.f__law_hall_like, A.g__law_hall_like, S__law_hall_like, i__law_hall_like, A.f_Hall_fill, A.g_Hall_fill, S_Hall_fill, i_Hall_fill, A.f_rates_of, A.g_rates_of, S_rates_of, i_rates_of, A.f_Hall_work, A.g_Hall_work, S_Hall_work, i_Hall_work, A.f_pieces_of, A.g_pieces_of, S_pieces_of, i_pieces_of, A.f__law_pieces, A.g__law_pieces, S__law_pieces, i__law_pieces]; repeat ((with_reducible refine And.intro ?_ ?_); omega)
  by_cases h3 : mixW (cel ns 2) 8 % 9 < 3
  · rw [if_pos h3]
    apply e_cons; simp only [denS]; (try simp_arith [A.f__law_cell, A.g__law_cell, S__law_cell, i__law_cell, A.f__law_mix, A.g__law_mix, S__law_mix, i__law_mix, A.f__law_lines, A.g__law_lines, S__law_lines, i__law_lines, A.f__law_made, A.g__law_made, S__law_made, i__law_made, A.f_Hall_names, A.g_Hall_names, S_Hall_names, i_Hall_names, A.f__law_refused, A.g__law_refused, S__law_refused, i__law_refused, A.f__law_spoilt, A.g__law_spoilt, S__law_spoilt, i__law_spoilt, A.f_Hall_belts, A.g_Hall_belts, S_Hall_belts, i_Hall_belts, A.f_backed, A.g_backed, S_backed, i_backed, A.f__law_with_back, A.g__law_with_back, S__law_with_back, i__law_with_back, A.f__law_hall_like, A.g__law_hall_like, S__law_hall_like, i__law_hall_like, A.f_Hall_fill, A.g_Hall_fill, S_Hall_fill, i_Hall_fill, A.f_rates_of, A.g_rates_of, S_rates_of, i_rates_of, A.f_Hall_work, A.g_Hall_work, S_Hall_work, i_Hall_work, A.f_pieces_of, A.g_pieces_of, S_pieces_of, i_pieces_of, A.f__law_pieces, A.g__law_pieces, S__law_pieces, i__law_pieces]); repeat ((with_reducible refine And.intro ?_ ?_); omega)
    refine ⟨ls, rfl, rm, rfl, hrm, hz, fun rm2 hbad => ⟨l1, l2, nws n, ls, rm2, rfl, H, hN, by omega, hbad, _, H.o, l1, l2, nws n, ls, H, .inr ?_⟩⟩
    dsimp only
    rw [eq_lns .lst .lst]
    exact fin_id (hR _)
  rw [if_neg h3]
  apply e_cons; simp only [denS]; (try simp_arith [A.f__law_cell, A.g__law_cell, S__law_cell, i__law_cell, A.f__law_mix, A.g__law_mix, S__law_mix, i__law_mix, A.f__law_lines, A.g__law_lines, S__law_lines, i__law_lines, A.f__law_made, A.g__law_made, S__law_made, i__law_made, A.f_Hall_names, A.g_Hall_names, S_Hall_names, i_Hall_names, A.f__law_refused, A.g__law_refused, S__law_refused, i__law_refused, A.f__law_spoilt, A.g__law_spoilt, S__law_spoilt, i__law_spoilt, A.f_Hall_belts, A.g_Hall_belts, S_Hall_belts, i_Hall_belts, A.f_backed, A.g_backed, S_backed, i_backed, A.f__law_with_back, A.g__law_with_back, S__law_with_back, i__law_with_back, A.f__law_hall_like, A.g__law_hall_like, S__law_hall_like, i__law_hall_like, A.f_Hall_fill, A.g_Hall_fill, S_Hall_fill, i_Hall_fill, A.f_rates_of, A.g_rates_of, S_rates_of, i_rates_of, A.f_Hall_work, A.g_Hall_work, S_Hall_work, i_Hall_work, A.f_pieces_of, A.g_pieces_of, S_pieces_of, i_pieces_of, A.f__law_pieces, A.g__law_pieces, S__law_pieces, i__law_pieces]); repeat ((with_reducible refine And.intro ?_ ?_); omega)
  apply e_cons; simp only [denS]; (try simp_arith [A.f__law_cell, A.g__law_cell, S__law_cell, i__law_cell, A.f__law_mix, A.g__law_mix, S__law_mix, i__law_mix, A.f__law_lines, A.g__law_lines, S__law_lines, i__law_lines, A.f__law_made, A.g__law_made, S__law_made, i__law_made, A.f_Hall_names, A.g_Hall_names, S_Hall_names, i_Hall_names, A.f__law_refused, A.g__law_refused, S__law_refused, i__law_refused, A.f__law_spoilt, A.g__law_spoilt, S__law_spoilt, i__law_spoilt, A.f_Hall_belts, A.g_Hall_belts, S_Hall_belts, i_Hall_belts, A.f_backed, A.g_backed, S_backed, i_backed, A.f__law_with_back, A.g__law_with_back, S__law_with_back, i__law_with_back, A.f__law_hall_like, A.g__law_hall_like, S__law_hall_like, i__law_hall_like, A.f_Hall_fill, A.g_Hall_fill, S_Hall_fill, i_Hall_fill, A.f_rates_of, A.g_rates_of, S_rates_of, i_rates_of, A.f_Hall_work, A.g_Hall_work, S_Hall_work, i_Hall_work, A.f_pieces_of, A.g_pieces_of, S_pieces_of, i_pieces_of, A.f__law_pieces, A.g__law_pieces, S__law_pieces, i__law_pieces]); repeat ((with_reducible refine And.intro ?_ ?_); omega)
  refine ⟨l1, l2, nws n, ls, H, rm, .lst, hN, by omega, fun _ _ μ3 h2 k1 k2 sb H2 f1 f2 f3 => ?_, fun hbad => ?_⟩
  case refine_2 =>
    exfalso
    rcases hbad with z | ⟨q, hq, z⟩
    · exact z hrm
    · have := hst q hq
      omega
  have Hh : HallAt μ3 h l1 l2 (nws n) ls := ⟨sb _ _ H.o, sb _ _ H.w, sb _ _ H.b, H.ne⟩
  have nb := bkL_len (ls := ls) hrm
  have hiW := back_inr (rm := rm) hi
  apply e_cons; simp only [denS]; (try simp_arith [A.f__law_cell, A.g__law_cell, S__law_cell, i__law_cell, A.f__law_mix, A.g__law_mix, S__law_mix, i__law_mix, A.f__law_lines, A.g__law_lines, S__law_lines, i__law_lines, A.f__law_made, A.g__law_made, S__law_made, i__law_made, A.f_Hall_names, A.g_Hall_names, S_Hall_names, i_Hall_names, A.f__law_refused, A.g__law_refused, S__law_refused, i__law_refused, A.f__law_spoilt, A.g__law_spoilt, S__law_spoilt, i__law_spoilt, A.f_Hall_belts, A.g_Hall_belts, S_Hall_belts, i_Hall_belts, A.f_backed, A.g_backed, S_backed, i_backed, A.f__law_with_back, A.g__law_with_back, S__law_with_back, i__law_with_back, A.f__law_hall_like, A.g__law_hall_like, S__law_hall_like, i__law_hall_like, A.f_Hall_fill, A.g_Hall_fill, S_Hall_fill, i_Hall_fill, A.f_rates_of, A.g_rates_of, S_rates_of, i_rates_of, A.f_Hall_work, A.g_Hall_work, S_Hall_work, i_Hall_work, A.f_pieces_of, A.g_pieces_of, S_pieces_of, i_pieces_of, A.f__law_pieces, A.g__law_pieces, S__law_pieces, i__law_pieces]); repeat ((with_reducible refine And.intro ?_ ?_); omega)
  refine ⟨ls, rfl, rm, rfl, hrm, by omega, ?_⟩
  apply e_cons; apply e_ife; simp_arith [A.f__law_cell, A.g__law_cell, S__law_cell, i__law_cell, A.f__law_mix, A.g__law_mix, S__law_mix, i__law_mix, A.f__law_lines, A.g__law_lines, S__law_lines, i__law_lines, A.f__law_made, A.g__law_made, S__law_made, i__law_made, A.f_Hall_names, A.g_Hall_names, S_Hall_names, i_Hall_names, A.f__law_refused, A.g__law_refused, S__law_refused, i__law_refused, A.f__law_spoilt, A.g__law_spoilt, S__law_spoilt, i__law_spoilt, A.f_Hall_belts, A.g_Hall_belts, S_Hall_belts, i_Hall_belts, A.f_backed, A.g_backed, S_backed, i_backed, A.f__law_with_back, A.g__law_with_back, S__law_with_back, i__law_with_back, A.f__law_hall_like, A.g__law_hall_like, S__law_hall_like, i__law_hall_like, A.f_Hall_fill, A.g_Hall_fill, S_Hall_fill, i_Hall_fill, A.f_rates_of, A.g_rates_of, S_rates_of, i_rates_of, A.f_Hall_work, A.g_Hall_work, S_Hall_work, i_Hall_work, A.f_pieces_of, A.g_pieces_of, S_pieces_of, i_pieces_of, A.f__law_pieces, A.g__law_pieces, S__law_pieces, i__law_pieces, H2.o]; repeat ((with_reducible refine And.intro ?_ ?_); omega)
  have hok := hN.ok
  refine ⟨k1, k2, _, _, H2, .inr ?_⟩
  dsimp only
  rw [eq_strs hok hok]
  simp_arith [A.f__law_cell, A.g__law_cell, S__law_cell, i__law_cell, A.f__law_mix, A.g__law_mix, S__law_mix, i__law_mix, A.f__law_lines, A.g__law_lines, S__law_lines, i__law_lines, A.f__law_made, A.g__law_made, S__law_made, i__law_made, A.f_Hall_names, A.g_Hall_names, S_Hall_names, i_Hall_names, A.f__law_refused, A.g__law_refused, S__law_refused, i__law_refused, A.f__law_spoilt, A.g__law_spoilt, S__law_spoilt, i__law_spoilt, A.f_Hall_belts, A.g_Hall_belts, S_Hall_belts, i_Hall_belts, A.f_backed, A.g_backed, S_backed, i_backed, A.f__law_with_back, A.g__law_with_back, S__law_with_back, i__law_with_back, A.f__law_hall_like, A.g__law_hall_like, S__law_hall_like, i__law_hall_like, A.f_Hall_fill, A.g_Hall_fill, S_Hall_fill, i_Hall_fill, A.f_rates_of, A.g_rates_of, S_rates_of, i_rates_of, A.f_Hall_work, A.g_Hall_work, S_Hall_work, i_Hall_work, A.f_pieces_of, A.g_pieces_of, S_pieces_of, i_pieces_of, A.f__law_pieces, A.g__law_pieces, S__law_pieces, i__law_pieces, H2.o]
  refine ⟨k1, k2, _, _, H2, .inr ?_⟩
  dsimp only
  rw [eq_lns .lst .lst]
  simp_arith [A.f__law_cell, A.g__law_cell, S__law_cell, i__law_cell, A.f__law_mix, A.g__law_mix, S__law_mix, i__law_mix, A.f__law_lines, A.g__law_lines, S__law_lines, i__law_lines, A.f__law_made, A.g__law_made, S__law_made, i__law_made, A.f_Hall_names, A.g_Hall_names, S_Hall_names, i_Hall_names, A.f__law_refused, A.g__law_refused, S__law_refused, i__law_refused, A.f__law_spoilt, A.g__law_spoilt, S__law_spoilt, i__law_spoilt, A.f_Hall_belts, A.g_Hall_belts, S_Hall_belts, i_Hall_belts, A.f_backed, A.g_backed, S_backed, i_backed, A.f__law_with_back, A.g__law_with_back, S__law_with_back, i__law_with_back, A.f__law_hall_like, A.g__law_hall_like, S__law_hall_like, i__law_hall_like, A.f_Hall_fill, A.g_Hall_fill, S_Hall_fill, i_Hall_fill, A.f_rates_of, A.g_rates_of, S_rates_of, i_rates_of, A.f_Hall_work, A.g_Hall_work, S_Hall_work, i_Hall_work, A.f_pieces_of, A.g_pieces_of, S_pieces_of, i_pieces_of, A.f__law_pieces, A.g__law_pieces, S__law_pieces, i__law_pieces]
  apply e_cons; apply e_ife; simp_arith [A.f__law_cell, A.g__law_cell, S__law_cell, i__law_cell, A.f__law_mix, A.g__law_mix, S__law_mix, i__law_mix, A.f__law_lines, A.g__law_lines, S__law_lines, i__law_lines, A.f__law_made, A.g__law_made, S__law_made, i__law_made, A.f_Hall_names, A.g_Hall_names, S_Hall_names, i_Hall_names, A.f__law_refused, A.g__law_refused, S__law_refused, i__law_refused, A.f__law_spoilt, A.g__law_spoilt, S__law_spoilt, i__law_spoilt, A.f_Hall_belts, A.g_Hall_belts, S_Hall_belts, i_Hall_belts, A.f_backed, A.g_backed, S_backed, i_backed, A.f__law_with_back, A.g__law_with_back, S__law_with_back, i__law_with_back, A.f__law_hall_like, A.g__law_hall_like, S__law_hall_like, i__law_hall_like, A.f_Hall_fill, A.g_Hall_fill, S_Hall_fill, i_Hall_fill, A.f_rates_of, A.g_rates_of, S_rates_of, i_rates_of, A.f_Hall_work, A.g_Hall_work, S_Hall_work, i_Hall_work, A.f_pieces_of, A.g_pieces_of, S_pieces_of, i_pieces_of, A.f__law_pieces, A.g__law_pieces, S__law_pieces, i__law_pieces, Hh.o]; repeat ((with_reducible refine And.intro ?_ ?_); omega)
  refine ⟨l1, l2, _, _, Hh, .inr ?_⟩
  dsimp only
  rw [eq_lns .lst .lst]
  simp_arith [A.f__law_cell, A.g__law_cell, S__law_cell, i__law_cell, A.f__law_mix, A.g__law_mix, S__law_mix, i__law_mix, A.f__law_lines, A.g__law_lines, S__law_lines, i__law_lines, A.f__law_made, A.g__law_made, S__law_made, i__law_made, A.f_Hall_names, A.g_Hall_names, S_Hall_names, i_Hall_names, A.f__law_refused, A.g__law_refused, S__law_refused, i__law_refused, A.f__law_spoilt, A.g__law_spoilt, S__law_spoilt, i__law_spoilt, A.f_Hall_belts, A.g_Hall_belts, S_Hall_belts, i_Hall_belts, A.f_backed, A.g_backed, S_backed, i_backed, A.f__law_with_back, A.g__law_with_back, S__law_with_back, i__law_with_back, A.f__law_hall_like, A.g__law_hall_like, S__law_hall_like, i__law_hall_like, A.f_Hall_fill, A.g_Hall_fill, S_Hall_fill, i_Hall_fill, A.f_rates_of, A.g_rates_of, S_rates_of, i_rates_of, A.f_Hall_work, A.g_Hall_work, S_Hall_work, i_Hall_work, A.f_pieces_of, A.g_pieces_of, S_pieces_of, i_pieces_of, A.f__law_pieces, A.g__law_pieces, S__law_pieces, i__law_pieces, Hh.o]
  refine ⟨l1, l2, _, _, Hh, .inr ?_⟩
  dsimp only
  rw [eq_strs hok hok]
  simp_arith [A.f__law_cell, A.g__law_cell, S__law_cell, i__law_cell, A.f__law_mix, A.g__law_mix, S__law_mix, i__law_mix, A.f__law_lines, A.g__law_lines, S__law_lines, i__law_lines, A.f__law_made, A.g__law_made, S__law_made, i__law_made, A.f_Hall_names, A.g_Hall_names, S_Hall_names, i_Hall_names, A.f__law_refused, A.g__law_refused, S__law_refused, i__law_refused, A.f__law_spoilt, A.g__law_spoilt, S__law_spoilt, i__law_spoilt, A.f_Hall_belts, A.g_Hall_belts, S_Hall_belts, i_Hall_belts, A.f_backed, A.g_backed, S_backed, i_backed, A.f__law_with_back, A.g__law_with_back, S__law_with_back, i__law_with_back, A.f__law_hall_like, A.g__law_hall_like, S__law_hall_like, i__law_hall_like, A.f_Hall_fill, A.g_Hall_fill, S_Hall_fill, i_Hall_fill, A.f_rates_of, A.g_rates_of, S_rates_of, i_rates_of, A.f_Hall_work, A.g_Hall_work, S_Hall_work, i_Hall_work, A.f_pieces_of, A.g_pieces_of, S_pieces_of, i_pieces_of, A.f__law_pieces, A.g__law_pieces, S__law_pieces, i__law_pieces]
  have d1 : h ≠ h2 ∧ h ≠ k1 ∧ h ≠ k2 := ⟨nofr H.o f1, nofr H.o f2, nofr H.o f3⟩
  have d2 : l1 ≠ h2 ∧ l1 ≠ k1 ∧ l1 ≠ k2 := ⟨nofr H.w f1, nofr H.w f2, nofr H.w f3⟩
  have d3 : l2 ≠ h2 ∧ l2 ≠ k1 ∧ l2 ≠ k2 := ⟨nofr H.b f1, nofr H.b f2, nofr H.b f3⟩
  have hbal : ∀ rs, Bal (ls ++ bkL ls rm) n rs ↔ Bal ls n rs := fun rs => back_bal
  have hWl : (ls ++ bkL ls rm).length ≤ 120 := by rw [List.length_append]; omega
  have hps : PosL ls := fun l hl => ⟨(hls l hl).gi, (hls l hl).ta⟩
  have hpW := back_pos (rm := rm) hps
  have hbt : ∀ l ∈ ls, Bt 128 (Ln.gi l) ∧ Bt 128 l.ta := fun l hl => (hls l hl).bt
  have hbW := back_bt (rm := rm) hbt
  have hsl : ∀ l ∈ ls, 0 ≤ Ln.st l := fun l hl => (hls l hl).st
  have hsW := back_st (rm := rm) hsl hst
  generalize ls ++ bkL ls rm = W at H2 hiW hbal hWl hpW hbW hsW ⊢
  refine ⟨k1, k2, _, W, rfl, n, rfl, H2, hnl, by omega, hiW, by omega, ?_⟩
  apply e_cons; simp only [denS]; (try simp_arith [A.f__law_cell, A.g__law_cell, S__law_cell, i__law_cell, A.f__law_mix, A.g__law_mix, S__law_mix, i__law_mix, A.f__law_lines, A.g__law_lines, S__law_lines, i__law_lines, A.f__law_made, A.g__law_made, S__law_made, i__law_made, A.f_Hall_names, A.g_Hall_names, S_Hall_names, i_Hall_names, A.f__law_refused, A.g__law_refused, S__law_refused, i__law_refused, A.f__law_spoilt, A.g__law_spoilt, S__law_spoilt, i__law_spoilt, A.f_Hall_belts, A.g_Hall_belts, S_Hall_belts, i_Hall_belts, A.f_backed, A.g_backed, S_backed, i_backed, A.f__law_with_back, A.g__law_with_back, S__law_with_back, i__law_with_back, A.f__law_hall_like, A.g__law_hall_like, S__law_hall_like, i__law_hall_like, A.f_Hall_fill, A.g_Hall_fill, S_Hall_fill, i_Hall_fill, A.f_rates_of, A.g_rates_of, S_rates_of, i_rates_of, A.f_Hall_work, A.g_Hall_work, S_Hall_work, i_Hall_work, A.f_pieces_of, A.g_pieces_of, S_pieces_of, i_pieces_of, A.f__law_pieces, A.g__law_pieces, S__law_pieces, i__law_pieces]); repeat ((with_reducible refine And.intro ?_ ?_); omega)
  refine for_rng (fun k ρ μ' => (∃ o6, ρ = [some (.scr (ns.map T.int)), some (.int n), some (.lst (ls.map Ln.tr)), some (.own h), some (.lst ((nws n).map T.str)), some (.lst (rm.map T.int)), o6, none, none, some (.lst (rm.map T.int)), some (.own h2), some (.lst (W.map Ln.tr))]) ∧ HallAt μ' h l1 l2 (nws n) (fillL (fun s => s / 2 + 1) k ls) ∧ HallAt μ' h2 k1 k2 (nws n) W) ⟨⟨_, rfl⟩, Hh, H2⟩ ?_ ?_
  case refine_2 =>
    rintro k ρ μ' hk ⟨⟨o6, rfl⟩, G1, G2⟩
    refine ⟨trivial, ?_⟩
    obtain ⟨l, el⟩ : ∃ l, ls[k]? = some l := ⟨_, List.getElem?_eq_getElem hk⟩
    have b1 := at_map (f := Ln.tr) (show (0 : Int) ≤ (k : Int) by omega) el
    have hl0 := hsl l (List.mem_of_getElem? el)
    simp_arith [A.f__law_cell, A.g__law_cell, S__law_cell, i__law_cell, A.f__law_mix, A.g__law_mix, S__law_mix, i__law_mix, A.f__law_lines, A.g__law_lines, S__law_lines, i__law_lines, A.f__law_made, A.g__law_made, S__law_made, i__law_made, A.f_Hall_names, A.g_Hall_names, S_Hall_names, i_Hall_names, A.f__law_refused, A.g__law_refused, S__law_refused, i__law_refused, A.f__law_spoilt, A.g__law_spoilt, S__law_spoilt, i__law_spoilt, A.f_Hall_belts, A.g_Hall_belts, S_Hall_belts, i_Hall_belts, A.f_backed, A.g_backed, S_backed, i_backed, A.f__law_with_back, A.g__law_with_back, S__law_with_back, i__law_with_back, A.f__law_hall_like, A.g__law_hall_like, S__law_hall_like, i__law_hall_like, A.f_Hall_fill, A.g_Hall_fill, S_Hall_fill, i_Hall_fill, A.f_rates_of, A.g_rates_of, S_rates_of, i_rates_of, A.f_Hall_work, A.g_Hall_work, S_Hall_work, i_Hall_work, A.f_pieces_of, A.g_pieces_of, S_pieces_of, i_pieces_of, A.f__law_pieces, A.g__law_pieces, S__law_pieces, i__law_pieces]
    apply e_cons; simp only [denS]; (try simp_arith [A.f__law_cell, A.g__law_cell, S__law_cell, i__law_cell, A.f__law_mix, A.g__law_mix, S__law_mix, i__law_mix, A.f__law_lines, A.g__law_lines, S__law_lines, i__law_lines, A.f__law_made, A.g__law_made, S__law_made, i__law_made, A.f_Hall_names, A.g_Hall_names, S_Hall_names, i_Hall_names, A.f__law_refused, A.g__law_refused, S__law_refused, i__law_refused, A.f__law_spoilt, A.g__law_spoilt, S__law_spoilt, i__law_spoilt, A.f_Hall_belts, A.g_Hall_belts, S_Hall_belts, i_Hall_belts, A.f_backed, A.g_backed, S_backed, i_backed, A.f__law_with_back, A.g__law_with_back, S__law_with_back, i__law_with_back, A.f__law_hall_like, A.g__law_hall_like, S__law_hall_like, i__law_hall_like, A.f_Hall_fill, A.g_Hall_fill, S_Hall_fill, i_Hall_fill, A.f_rates_of, A.g_rates_of, S_rates_of, i_rates_of, A.f_Hall_work, A.g_Hall_work, S_Hall_work, i_Hall_work, A.f_pieces_of, A.g_pieces_of, S_pieces_of, i_pieces_of, A.f__law_pieces, A.g__law_pieces, S__law_pieces, i__law_pieces, G1.o, b1, Ln.tr]); repeat ((with_reducible refine And.intro ?_ ?_); omega)
    refine ⟨l1, l2, nws n, _, G1, .inl ⟨l, fillL_at el, .inl ⟨by omega, ?_⟩⟩⟩
    have G3 := G1.setB k (fl1 (fun s => s / 2 + 1) l)
    rw [fillL_set el] at G3
    exact ⟨_, _, .refl _ _, ⟨_, rfl⟩, G3, G2.put d3.1.symm d3.2.1.symm d3.2.2.symm⟩
  rintro ρ μ4 ⟨⟨o6, rfl⟩, G1, G2⟩
  refine ⟨trivial, ?_⟩
  rw [fillL_all] at G1
  have hE1 : ends (ls.map (fl1 fun s => s / 2 + 1)) = ends ls := by rw [← fillL_all]; exact fillL_ends
  apply e_cons; apply e_ife; simp_arith [A.f__law_cell, A.g__law_cell, S__law_cell, i__law_cell, A.f__law_mix, A.g__law_mix, S__law_mix, i__law_mix, A.f__law_lines, A.g__law_lines, S__law_lines, i__law_lines, A.f__law_made, A.g__law_made, S__law_made, i__law_made, A.f_Hall_names, A.g_Hall_names, S_Hall_names, i_Hall_names, A.f__law_refused, A.g__law_refused, S__law_refused, i__law_refused, A.f__law_spoilt, A.g__law_spoilt, S__law_spoilt, i__law_spoilt, A.f_Hall_belts, A.g_Hall_belts, S_Hall_belts, i_Hall_belts, A.f_backed, A.g_backed, S_backed, i_backed, A.f__law_with_back, A.g__law_with_back, S__law_with_back, i__law_with_back, A.f__law_hall_like, A.g__law_hall_like, S__law_hall_like, i__law_hall_like, A.f_Hall_fill, A.g_Hall_fill, S_Hall_fill, i_Hall_fill, A.f_rates_of, A.g_rates_of, S_rates_of, i_rates_of, A.f_Hall_work, A.g_Hall_work, S_Hall_work, i_Hall_work, A.f_pieces_of, A.g_pieces_of, S_pieces_of, i_pieces_of, A.f__law_pieces, A.g__law_pieces, S__law_pieces, i__law_pieces, G2.o]; repeat ((with_reducible refine And.intro ?_ ?_); omega)
  refine ⟨k1, k2, _, W, G2, .inr ?_⟩
  dsimp only
  rw [eq_lns .lst .lst]
  simp_arith [A.f__law_cell, A.g__law_cell, S__law_cell, i__law_cell, A.f__law_mix, A.g__law_mix, S__law_mix, i__law_mix, A.f__law_lines, A.g__law_lines, S__law_lines, i__law_lines, A.f__law_made, A.g__law_made, S__law_made, i__law_made, A.f_Hall_names, A.g_Hall_names, S_Hall_names, i_Hall_names, A.f__law_refused, A.g__law_refused, S__law_refused, i__law_refused, A.f__law_spoilt, A.g__law_spoilt, S__law_spoilt, i__law_spoilt, A.f_Hall_belts, A.g_Hall_belts, S_Hall_belts, i_Hall_belts, A.f_backed, A.g_backed, S_backed, i_backed, A.f__law_with_back, A.g__law_with_back, S__law_with_back, i__law_with_back, A.f__law_hall_like, A.g__law_hall_like, S__law_hall_like, i__law_hall_like, A.f_Hall_fill, A.g_Hall_fill, S_Hall_fill, i_Hall_fill, A.f_rates_of, A.g_rates_of, S_rates_of, i_rates_of, A.f_Hall_work, A.g_Hall_work, S_Hall_work, i_Hall_work, A.f_pieces_of, A.g_pieces_of, S_pieces_of, i_pieces_of, A.f__law_pieces, A.g__law_pieces, S__law_pieces, i__law_pieces]
  have hps1 : PosL (ls.map (fl1 fun s => s / 2 + 1)) := fun x hx => by
    obtain ⟨l, hl, rfl⟩ := List.mem_map.mp hx
    exact hps l hl
  have hbt1 : ∀ l ∈ ls.map (fl1 fun s => s / 2 + 1), Bt 128 (Ln.gi l) ∧ Bt 128 l.ta := fun x hx => by
    obtain ⟨l, hl, rfl⟩ := List.mem_map.mp hx
    exact hbt l hl
  have hi1 : Inr (ends (ls.map (fl1 fun s => s / 2 + 1))) n := by rw [hE1]; exact hi
  have hll1 : (ls.map (fl1 fun s => s / 2 + 1)).length < 1000 := by rw [List.length_map]; omega
  have TL := fun (o6 : Option T) (μ : Sto) G1 G2 => law_tail (F := F) (μ := μ) (ns := ns) (rm := rm) (o6 := o6) A hR n1 n2 hz hi hiW hWl hsW d1 d2 d3 G1 G2
  refine ⟨k1, k2, _, W, G2, by rw [hnl]; exact hiW, by omega, hpW, hbW, by omega, fun rs B2 _ => .inr ?_, fun ring O _ => ?_⟩
  · rw [hnl] at B2
    simp_arith [A.f__law_cell, A.g__law_cell, S__law_cell, i__law_cell, A.f__law_mix, A.g__law_mix, S__law_mix, i__law_mix, A.f__law_lines, A.g__law_lines, S__law_lines, i__law_lines, A.f__law_made, A.g__law_made, S__law_made, i__law_made, A.f_Hall_names, A.g_Hall_names, S_Hall_names, i_Hall_names, A.f__law_refused, A.g__law_refused, S__law_refused, i__law_refused, A.f__law_spoilt, A.g__law_spoilt, S__law_spoilt, i__law_spoilt, A.f_Hall_belts, A.g_Hall_belts, S_Hall_belts, i_Hall_belts, A.f_backed, A.g_backed, S_backed, i_backed, A.f__law_with_back, A.g__law_with_back, S__law_with_back, i__law_with_back, A.f__law_hall_like, A.g__law_hall_like, S__law_hall_like, i__law_hall_like, A.f_Hall_fill, A.g_Hall_fill, S_Hall_fill, i_Hall_fill, A.f_rates_of, A.g_rates_of, S_rates_of, i_rates_of, A.f_Hall_work, A.g_Hall_work, S_Hall_work, i_Hall_work, A.f_pieces_of, A.g_pieces_of, S_pieces_of, i_pieces_of, A.f__law_pieces, A.g__law_pieces, S__law_pieces, i__law_pieces]
    refine ⟨l1, l2, _, _, G1, by rw [hnl]; exact hi1, by omega, hps1, hbt1, hll1, fun rs2 B1 _ => .inr ?_, fun ring O _ => (O.no (fill_bal.mpr ((hbal _).mp B2)).toSol hi1).elim⟩
    rw [hnl] at B1
    have e : rs2 = rs := bal_uniq hps hi (fill_bal.mp B1) ((hbal _).mp B2)
    subst e
    simp_arith [A.f__law_cell, A.g__law_cell, S__law_cell, i__law_cell, A.f__law_mix, A.g__law_mix, S__law_mix, i__law_mix, A.f__law_lines, A.g__law_lines, S__law_lines, i__law_lines, A.f__law_made, A.g__law_made, S__law_made, i__law_made, A.f_Hall_names, A.g_Hall_names, S_Hall_names, i_Hall_names, A.f__law_refused, A.g__law_refused, S__law_refused, i__law_refused, A.f__law_spoilt, A.g__law_spoilt, S__law_spoilt, i__law_spoilt, A.f_Hall_belts, A.g_Hall_belts, S_Hall_belts, i_Hall_belts, A.f_backed, A.g_backed, S_backed, i_backed, A.f__law_with_back, A.g__law_with_back, S__law_with_back, i__law_with_back, A.f__law_hall_like, A.g__law_hall_like, S__law_hall_like, i__law_hall_like, A.f_Hall_fill, A.g_Hall_fill, S_Hall_fill, i_Hall_fill, A.f_rates_of, A.g_rates_of, S_rates_of, i_rates_of, A.f_Hall_work, A.g_Hall_work, S_Hall_work, i_Hall_work, A.f_pieces_of, A.g_pieces_of, S_pieces_of, i_pieces_of, A.f__law_pieces, A.g__law_pieces, S__law_pieces, i__law_pieces]
    exact TL _ _ G1 G2
  · refine ⟨l1, l2, _, _, G1, by rw [hnl]; exact hi1, by omega, hps1, hbt1, hll1, fun rs2 B1 _ => ?_, fun ring O _ => ?_⟩
    · rw [hnl] at B1
      exact (O.no ((hbal _).mpr (fill_bal.mp B1)).toSol hiW).elim
    refine eq_nons ?_
    simp_arith [A.f__law_cell, A.g__law_cell, S__law_cell, i__law_cell, A.f__law_mix, A.g__law_mix, S__law_mix, i__law_mix, A.f__law_lines, A.g__law_lines, S__law_lines, i__law_lines, A.f__law_made, A.g__law_made, S__law_made, i__law_made, A.f_Hall_names, A.g_Hall_names, S_Hall_names, i_Hall_names, A.f__law_refused, A.g__law_refused, S__law_refused, i__law_refused, A.f__law_spoilt, A.g__law_spoilt, S__law_spoilt, i__law_spoilt, A.f_Hall_belts, A.g_Hall_belts, S_Hall_belts, i_Hall_belts, A.f_backed, A.g_backed, S_backed, i_backed, A.f__law_with_back, A.g__law_with_back, S__law_with_back, i__law_with_back, A.f__law_hall_like, A.g__law_hall_like, S__law_hall_like, i__law_hall_like, A.f_Hall_fill, A.g_Hall_fill, S_Hall_fill, i_Hall_fill, A.f_rates_of, A.g_rates_of, S_rates_of, i_rates_of, A.f_Hall_work, A.g_Hall_work, S_Hall_work, i_Hall_work, A.f_pieces_of, A.g_pieces_of, S_pieces_of, i_pieces_of, A.f__law_pieces, A.g__law_pieces, S__law_pieces, i__law_pieces]
    exact TL _ _ G1 G2

def top (i : Nat) : Stmt := PySem.Challenge.pw_ratehall_k16_backed_halls.main.body.getD i (.Pass ⟨0, 0, 0, 0⟩)
abbrev s_is_ready : Stmt := top 12
abbrev s_Hall_init : Stmt := inClass (top 21) 0
abbrev s_Hall_names : Stmt := inClass (top 21) 6
abbrev s_Hall_belts : Stmt := inClass (top 21) 8
abbrev s_Spread_init : Stmt := inClass (top 31) 0
abbrev s_divisor : Stmt := top 23
abbrev s_ratio : Stmt := top 25
abbrev s_times : Stmt := top 26
abbrev s_Spread_odd_belt : Stmt := inClass (top 31) 3
abbrev s_Spread_ring_by : Stmt := inClass (top 31) 4
abbrev s_Spread_come_to : Stmt := inClass (top 31) 2
abbrev s_Spread_walk_from : Stmt := inClass (top 31) 1
abbrev s_reached : Stmt := top 28
abbrev s_pieces_of : Stmt := top 29
abbrev s_multiple : Stmt := top 24
abbrev s_whole_rates : Stmt := top 32
abbrev s_rates_of : Stmt := top 33
abbrev s_Hall_belt_at : Stmt := inClass (top 21) 9
abbrev s_Hall_lay : Stmt := inClass (top 21) 4
abbrev s_is_name : Stmt := top 17
abbrev s_Hall_work : Stmt := inClass (top 21) 2
abbrev s_backed : Stmt := top 35
abbrev s_Floor_init : Stmt := inClass (top 14) 0
abbrev s_Floor_need_work : Stmt := inClass (top 14) 1
abbrev s_Floor_lying : Stmt := inClass (top 14) 5
abbrev s_Hall_need : Stmt := inClass (top 21) 1
abbrev s_Hall_leaving : Stmt := inClass (top 21) 11
abbrev s_Floor_ready : Stmt := inClass (top 14) 2
abbrev s_Hall_belt : Stmt := inClass (top 21) 3
abbrev s_Hall_entering : Stmt := inClass (top 21) 10
abbrev s_Hall_fill : Stmt := inClass (top 21) 5
abbrev s__law_cell : Stmt := top 37
abbrev s__law_is_ready : Stmt := top 45
abbrev s__law_pieces : Stmt := top 44
abbrev s__law_hall_like : Stmt := top 46
abbrev s__law_mix : Stmt := top 38
abbrev s__law_lines : Stmt := top 41
abbrev s__law_made : Stmt := top 39
abbrev s__law_refused : Stmt := top 43
abbrev s__law_spoilt : Stmt := top 42
abbrev s__law_with_back : Stmt := top 40
abbrev s_law : Stmt := top 47
def tFn : Nat → Option FnI
  | 1 => some i_is_ready
  | 7 => some i_Hall_init
  | 9 => some i_Hall_names
  | 10 => some i_Hall_belts
  | 11 => some i_Spread_init
  | 12 => some i_divisor
  | 13 => some i_ratio
  | 14 => some i_times
  | 15 => some i_Spread_odd_belt
  | 16 => some i_Spread_ring_by
  | 17 => some i_Spread_come_to
  | 18 => some i_Spread_walk_from
  | 19 => some i_reached
  | 20 => some i_pieces_of
  | 21 => some i_multiple
  | 22 => some i_whole_rates
  | 23 => some i_rates_of
  | 28 => some i_Hall_belt_at
  | 29 => some i_Hall_lay
  | 30 => some i_is_name
  | 31 => some i_Hall_work
  | 32 => some i_backed
  | 38 => some i_Floor_init
  | 39 => some i_Floor_need_work
  | 41 => some i_Floor_lying
  | 43 => some i_Hall_need
  | 44 => some i_Hall_leaving
  | 55 => some i_Floor_ready
  | 56 => some i_Hall_belt
  | 66 => some i_Hall_entering
  | 88 => some i_Hall_fill
  | 1000 => some i__law_cell
  | 1001 => some i__law_is_ready
  | 1002 => some i__law_pieces
  | 1003 => some i__law_hall_like
  | 1004 => some i__law_mix
  | 1005 => some i__law_lines
  | 1006 => some i__law_made
  | 1007 => some i__law_refused
  | 1008 => some i__law_spoilt
  | 1009 => some i__law_with_back
  | 1010 => some i_law
  | _ => none
def tCl : Nat → Option ClI
  | 2 => some ⟨"Floor", 38⟩
  | 3 => some ⟨"Hall", 7⟩
  | 6 => some ⟨"Spread", 11⟩
  | _ => none
def tEx : Nat → Option Str
  | 1 => some "NoBelt"
  | 5 => some "NoName"
  | 7 => some "NoRate"
  | 8 => some "NoRoom"
  | 10 => some "NoWork"
  | 12 => some "RateError"
  | 15 => some "TooMuch"
  | 16 => some "Twice"
  | _ => none
def tCon : Nat → Option (Str × T)
  | 2 => some ("LETTERS", .str "abcdefghijklmnopqrstuvwxyz")
  | 3 => some ("MOST_BELTS", .int 60)
  | 7 => some ("MOST_WORKS", .int 30)
  | _ => none
def tFl : Nat → List Str
  | 2 => ["lines", "many", "heap"]
  | 3 => ["called", "lines"]
  | 6 => ["lines", "ratios", "ways"]
  | _ => []
def G : Tab := ⟨tFn, tCl, tEx, tCon, tFl, true, true⟩
theorem tEx_cases {x : Nat} {y : Str} (h : tEx x = some y) : x = 1 ∨ x = 5 ∨ x = 7 ∨ x = 8 ∨ x = 10 ∨ x = 12 ∨ x = 15 ∨ x = 16 := by
  unfold tEx at h
  split at h <;> first | (cases h; done) | simp
theorem sx_NoBelt_NoBelt : subX G 1 1 = true := by decide +kernel
theorem sx_NoBelt_NoName : subX G 1 5 = false := by decide +kernel
theorem sx_NoBelt_NoRate : subX G 1 7 = false := by decide +kernel
theorem sx_NoBelt_NoRoom : subX G 1 8 = false := by decide +kernel
theorem sx_NoBelt_NoWork : subX G 1 10 = false := by decide +kernel
theorem sx_NoBelt_RateError : subX G 1 12 = true := by decide +kernel
theorem sx_NoBelt_TooMuch : subX G 1 15 = false := by decide +kernel
theorem sx_NoBelt_Twice : subX G 1 16 = false := by decide +kernel
theorem sx_NoName_NoBelt : subX G 5 1 = false := by decide +kernel
theorem sx_NoName_NoName : subX G 5 5 = true := by decide +kernel
theorem sx_NoName_NoRate : subX G 5 7 = false := by decide +kernel
theorem sx_NoName_NoRoom : subX G 5 8 = false := by decide +kernel
theorem sx_NoName_NoWork : subX G 5 10 = false := by decide +kernel
theorem sx_NoName_RateError : subX G 5 12 = true := by decide +kernel
theorem sx_NoName_TooMuch : subX G 5 15 = false := by decide +kernel
theorem sx_NoName_Twice : subX G 5 16 = false := by decide +kernel
theorem sx_NoRate_NoBelt : subX G 7 1 = false := by decide +kernel
theorem sx_NoRate_NoName : subX G 7 5 = false := by decide +kernel
theorem sx_NoRate_NoRate : subX G 7 7 = true := by decide +kernel
theorem sx_NoRate_NoRoom : subX G 7 8 = false := by decide +kernel
theorem sx_NoRate_NoWork : subX G 7 10 = false := by decide +kernel
theorem sx_NoRate_RateError : subX G 7 12 = true := by decide +kernel
theorem sx_NoRate_TooMuch : subX G 7 15 = false := by decide +kernel
theorem sx_NoRate_Twice : subX G 7 16 = false := by decide +kernel
theorem sx_NoRoom_NoBelt : subX G 8 1 = false := by decide +kernel
theorem sx_NoRoom_NoName : subX G 8 5 = false := by decide +kernel
theorem sx_NoRoom_NoRate : subX G 8 7 = false := by decide +kernel
theorem sx_NoRoom_NoRoom : subX G 8 8 = true := by decide +kernel
theorem sx_NoRoom_NoWork : subX G 8 10 = false := by decide +kernel
theorem sx_NoRoom_RateError : subX G 8 12 = true := by decide +kernel
theorem sx_NoRoom_TooMuch : subX G 8 15 = false := by decide +kernel
theorem sx_NoRoom_Twice : subX G 8 16 = false := by decide +kernel
theorem sx_NoWork_NoBelt : subX G 10 1 = false := by decide +kernel
theorem sx_NoWork_NoName : subX G 10 5 = false := by decide +kernel
theorem sx_NoWork_NoRate : subX G 10 7 = false := by decide +kernel
theorem sx_NoWork_NoRoom : subX G 10 8 = false := by decide +kernel
theorem sx_NoWork_NoWork : subX G 10 10 = true := by decide +kernel
theorem sx_NoWork_RateError : subX G 10 12 = true := by decide +kernel
theorem sx_NoWork_TooMuch : subX G 10 15 = false := by decide +kernel
theorem sx_NoWork_Twice : subX G 10 16 = false := by decide +kernel
theorem sx_RateError_NoBelt : subX G 12 1 = false := by decide +kernel
theorem sx_RateError_NoName : subX G 12 5 = false := by decide +kernel
theorem sx_RateError_NoRate : subX G 12 7 = false := by decide +kernel
theorem sx_RateError_NoRoom : subX G 12 8 = false := by decide +kernel
theorem sx_RateError_NoWork : subX G 12 10 = false := by decide +kernel
theorem sx_RateError_RateError : subX G 12 12 = true := by decide +kernel
theorem sx_RateError_TooMuch : subX G 12 15 = false := by decide +kernel
theorem sx_RateError_Twice : subX G 12 16 = false := by decide +kernel
theorem sx_TooMuch_NoBelt : subX G 15 1 = false := by decide +kernel
theorem sx_TooMuch_NoName : subX G 15 5 = false := by decide +kernel
theorem sx_TooMuch_NoRate : subX G 15 7 = false := by decide +kernel
theorem sx_TooMuch_NoRoom : subX G 15 8 = false := by decide +kernel
theorem sx_TooMuch_NoWork : subX G 15 10 = false := by decide +kernel
theorem sx_TooMuch_RateError : subX G 15 12 = true := by decide +kernel
theorem sx_TooMuch_TooMuch : subX G 15 15 = true := by decide +kernel
theorem sx_TooMuch_Twice : subX G 15 16 = false := by decide +kernel
theorem sx_Twice_NoBelt : subX G 16 1 = false := by decide +kernel
theorem sx_Twice_NoName : subX G 16 5 = false := by decide +kernel
theorem sx_Twice_NoRate : subX G 16 7 = false := by decide +kernel
theorem sx_Twice_NoRoom : subX G 16 8 = false := by decide +kernel
theorem sx_Twice_NoWork : subX G 16 10 = false := by decide +kernel
theorem sx_Twice_RateError : subX G 16 12 = true := by decide +kernel
theorem sx_Twice_TooMuch : subX G 16 15 = false := by decide +kernel
theorem sx_Twice_Twice : subX G 16 16 = true := by decide +kernel
theorem tabOk : TabOk G := by
  refine ⟨fun f i d h hc => ?_, fun d f h => ?_⟩
  · have h' : tFn f = some i := h
    revert h'
    unfold tFn
    split <;> intro h' <;> first | (cases h'; done) | (cases h'; first | (cases hc; done) | (cases hc; exact ⟨_, rfl⟩))
  · have h' : f ∈ tFl d := h
    revert h'
    unfold tFl
    split <;> intro h' <;> first | (cases h'; done) | exact ⟨_, rfl⟩
theorem chk_is_ready : ChkF G 1 i_is_ready s_is_ready N_is_ready ["lines", "heap", "work"] c_is_ready := ⟨⟨rfl, rfl, rfl, by decide +kernel, rfl, by decide +kernel, by decide +kernel⟩, rfl, by decide, by decide +kernel⟩
theorem chk_Hall_init : ChkF G 7 i_Hall_init s_Hall_init N_Hall_init ["self"] c_Hall_init := ⟨⟨rfl, rfl, rfl, by decide +kernel, rfl, by decide +kernel, by decide +kernel⟩, rfl, by decide, by decide +kernel⟩
theorem chk_Hall_names : ChkF G 9 i_Hall_names s_Hall_names N_Hall_names ["self"] c_Hall_names := ⟨⟨rfl, rfl, rfl, by decide +kernel, rfl, by decide +kernel, by decide +kernel⟩, rfl, by decide, by decide +kernel⟩
theorem chk_Hall_belts : ChkF G 10 i_Hall_belts s_Hall_belts N_Hall_belts ["self"] c_Hall_belts := ⟨⟨rfl, rfl, rfl, by decide +kernel, rfl, by decide +kernel, by decide +kernel⟩, rfl, by decide, by decide +kernel⟩
theorem chk_Spread_init : ChkF G 11 i_Spread_init s_Spread_init N_Spread_init ["self", "belts"] c_Spread_init := ⟨⟨rfl, rfl, rfl, by decide +kernel, rfl, by decide +kernel, by decide +kernel⟩, rfl, by decide, by decide +kernel⟩
theorem chk_divisor : ChkF G 12 i_divisor s_divisor N_divisor ["one", "other"] c_divisor := ⟨⟨rfl, rfl, rfl, by decide +kernel, rfl, by decide +kernel, by decide +kernel⟩, rfl, by decide, by decide +kernel⟩
theorem chk_ratio : ChkF G 13 i_ratio s_ratio N_ratio ["top", "bottom"] c_ratio := ⟨⟨rfl, rfl, rfl, by decide +kernel, rfl, by decide +kernel, by decide +kernel⟩, rfl, by decide, by decide +kernel⟩
theorem chk_times : ChkF G 14 i_times s_times N_times ["one", "other"] c_times := ⟨⟨rfl, rfl, rfl, by decide +kernel, rfl, by decide +kernel, by decide +kernel⟩, rfl, by decide, by decide +kernel⟩
theorem chk_Spread_odd_belt : ChkF G 15 i_Spread_odd_belt s_Spread_odd_belt N_Spread_odd_belt ["self"] c_Spread_odd_belt := ⟨⟨rfl, rfl, rfl, by decide +kernel, rfl, by decide +kernel, by decide +kernel⟩, rfl, by decide, by decide +kernel⟩
theorem chk_Spread_ring_by : ChkF G 16 i_Spread_ring_by s_Spread_ring_by N_Spread_ring_by ["self", "number"] c_Spread_ring_by := ⟨⟨rfl, rfl, rfl, by decide +kernel, rfl, by decide +kernel, by decide +kernel⟩, rfl, by decide, by decide +kernel⟩
theorem chk_Spread_come_to : ChkF G 17 i_Spread_come_to s_Spread_come_to N_Spread_come_to ["self", "work", "other", "factor", "pace"] c_Spread_come_to := ⟨⟨rfl, rfl, rfl, by decide +kernel, rfl, by decide +kernel, by decide +kernel⟩, rfl, by decide, by decide +kernel⟩
theorem chk_Spread_walk_from : ChkF G 18 i_Spread_walk_from s_Spread_walk_from N_Spread_walk_from ["self", "first"] c_Spread_walk_from := ⟨⟨rfl, rfl, rfl, by decide +kernel, rfl, by decide +kernel, by decide +kernel⟩, rfl, by decide, by decide +kernel⟩
theorem chk_reached : ChkF G 19 i_reached s_reached N_reached ["belts", "first"] c_reached := ⟨⟨rfl, rfl, rfl, by decide +kernel, rfl, by decide +kernel, by decide +kernel⟩, rfl, by decide, by decide +kernel⟩
theorem chk_pieces_of : ChkF G 20 i_pieces_of s_pieces_of N_pieces_of ["hall"] c_pieces_of := ⟨⟨rfl, rfl, rfl, by decide +kernel, rfl, by decide +kernel, by decide +kernel⟩, rfl, by decide, by decide +kernel⟩
theorem chk_multiple : ChkF G 21 i_multiple s_multiple N_multiple ["one", "other"] c_multiple := ⟨⟨rfl, rfl, rfl, by decide +kernel, rfl, by decide +kernel, by decide +kernel⟩, rfl, by decide, by decide +kernel⟩
theorem chk_whole_rates : ChkF G 22 i_whole_rates s_whole_rates N_whole_rates ["ratios", "piece"] c_whole_rates := ⟨⟨rfl, rfl, rfl, by decide +kernel, rfl, by decide +kernel, by decide +kernel⟩, rfl, by decide, by decide +kernel⟩
theorem chk_rates_of : ChkF G 23 i_rates_of s_rates_of N_rates_of ["hall"] c_rates_of := ⟨⟨rfl, rfl, rfl, by decide +kernel, rfl, by decide +kernel, by decide +kernel⟩, rfl, by decide, by decide +kernel⟩
theorem chk_Hall_belt_at : ChkF G 28 i_Hall_belt_at s_Hall_belt_at N_Hall_belt_at ["self", "belt"] c_Hall_belt_at := ⟨⟨rfl, rfl, rfl, by decide +kernel, rfl, by decide +kernel, by decide +kernel⟩, rfl, by decide, by decide +kernel⟩
theorem chk_Hall_lay : ChkF G 29 i_Hall_lay s_Hall_lay N_Hall_lay ["self", "giver", "taker", "give", "take", "start"] c_Hall_lay := ⟨⟨rfl, rfl, rfl, by decide +kernel, rfl, by decide +kernel, by decide +kernel⟩, rfl, by decide, by decide +kernel⟩
theorem chk_is_name : ChkF G 30 i_is_name s_is_name N_is_name ["thing"] c_is_name := ⟨⟨rfl, rfl, rfl, by decide +kernel, rfl, by decide +kernel, by decide +kernel⟩, rfl, by decide, by decide +kernel⟩
theorem chk_Hall_work : ChkF G 31 i_Hall_work s_Hall_work N_Hall_work ["self", "name"] c_Hall_work := ⟨⟨rfl, rfl, rfl, by decide +kernel, rfl, by decide +kernel, by decide +kernel⟩, rfl, by decide, by decide +kernel⟩
theorem chk_backed : ChkF G 32 i_backed s_backed N_backed ["hall", "rooms"] c_backed := ⟨⟨rfl, rfl, rfl, by decide +kernel, rfl, by decide +kernel, by decide +kernel⟩, rfl, by decide, by decide +kernel⟩
theorem chk_Floor_init : ChkF G 38 i_Floor_init s_Floor_init N_Floor_init ["self", "hall"] c_Floor_init := ⟨⟨rfl, rfl, rfl, by decide +kernel, rfl, by decide +kernel, by decide +kernel⟩, rfl, by decide, by decide +kernel⟩
theorem chk_Floor_need_work : ChkF G 39 i_Floor_need_work s_Floor_need_work N_Floor_need_work ["self", "work"] c_Floor_need_work := ⟨⟨rfl, rfl, rfl, by decide +kernel, rfl, by decide +kernel, by decide +kernel⟩, rfl, by decide, by decide +kernel⟩
theorem chk_Floor_lying : ChkF G 41 i_Floor_lying s_Floor_lying N_Floor_lying ["self"] c_Floor_lying := ⟨⟨rfl, rfl, rfl, by decide +kernel, rfl, by decide +kernel, by decide +kernel⟩, rfl, by decide, by decide +kernel⟩
theorem chk_Hall_need : ChkF G 43 i_Hall_need s_Hall_need N_Hall_need ["self", "work"] c_Hall_need := ⟨⟨rfl, rfl, rfl, by decide +kernel, rfl, by decide +kernel, by decide +kernel⟩, rfl, by decide, by decide +kernel⟩
theorem chk_Hall_leaving : ChkF G 44 i_Hall_leaving s_Hall_leaving N_Hall_leaving ["self", "work"] c_Hall_leaving := ⟨⟨rfl, rfl, rfl, by decide +kernel, rfl, by decide +kernel, by decide +kernel⟩, rfl, by decide, by decide +kernel⟩
theorem chk_Floor_ready : ChkF G 55 i_Floor_ready s_Floor_ready N_Floor_ready ["self", "work"] c_Floor_ready := ⟨⟨rfl, rfl, rfl, by decide +kernel, rfl, by decide +kernel, by decide +kernel⟩, rfl, by decide, by decide +kernel⟩
theorem chk_Hall_belt : ChkF G 56 i_Hall_belt s_Hall_belt N_Hall_belt ["self", "giver", "taker", "give", "take", "start"] c_Hall_belt := ⟨⟨rfl, rfl, rfl, by decide +kernel, rfl, by decide +kernel, by decide +kernel⟩, rfl, by decide, by decide +kernel⟩
theorem chk_Hall_entering : ChkF G 66 i_Hall_entering s_Hall_entering N_Hall_entering ["self", "work"] c_Hall_entering := ⟨⟨rfl, rfl, rfl, by decide +kernel, rfl, by decide +kernel, by decide +kernel⟩, rfl, by decide, by decide +kernel⟩
theorem chk_Hall_fill : ChkF G 88 i_Hall_fill s_Hall_fill N_Hall_fill ["self", "belt", "start"] c_Hall_fill := ⟨⟨rfl, rfl, rfl, by decide +kernel, rfl, by decide +kernel, by decide +kernel⟩, rfl, by decide, by decide +kernel⟩
theorem chk__law_cell : ChkF G 1000 i__law_cell s__law_cell N__law_cell ["_law_script", "_law_k"] c__law_cell := ⟨⟨rfl, rfl, rfl, by decide +kernel, rfl, by decide +kernel, by decide +kernel⟩, rfl, by decide, by decide +kernel⟩
theorem chk__law_is_ready : ChkF G 1001 i__law_is_ready s__law_is_ready N__law_is_ready ["_law_due", "_law_work"] c__law_is_ready := ⟨⟨rfl, rfl, rfl, by decide +kernel, rfl, by decide +kernel, by decide +kernel⟩, rfl, by decide, by decide +kernel⟩
theorem chk__law_pieces : ChkF G 1002 i__law_pieces s__law_pieces N__law_pieces ["_law_many", "_law_lines_here"] c__law_pieces := ⟨⟨rfl, rfl, rfl, by decide +kernel, rfl, by decide +kernel, by decide +kernel⟩, rfl, by decide, by decide +kernel⟩
theorem chk__law_hall_like : ChkF G 1003 i__law_hall_like s__law_hall_like N__law_hall_like ["_law_made_here", "_law_due", "_law_many"] c__law_hall_like := ⟨⟨rfl, rfl, rfl, by decide +kernel, rfl, by decide +kernel, by decide +kernel⟩, rfl, by decide, by decide +kernel⟩
theorem chk__law_mix : ChkF G 1004 i__law_mix s__law_mix N__law_mix ["_law_cell_here", "_law_way"] c__law_mix := ⟨⟨rfl, rfl, rfl, by decide +kernel, rfl, by decide +kernel, by decide +kernel⟩, rfl, by decide, by decide +kernel⟩
theorem chk__law_lines : ChkF G 1005 i__law_lines s__law_lines N__law_lines ["_law_script", "_law_many"] c__law_lines := ⟨⟨rfl, rfl, rfl, by decide +kernel, rfl, by decide +kernel, by decide +kernel⟩, rfl, by decide, by decide +kernel⟩
theorem chk__law_made : ChkF G 1006 i__law_made s__law_made N__law_made ["_law_many", "_law_lines_here"] c__law_made := ⟨⟨rfl, rfl, rfl, by decide +kernel, rfl, by decide +kernel, by decide +kernel⟩, rfl, by decide, by decide +kernel⟩
theorem chk__law_refused : ChkF G 1007 i__law_refused s__law_refused N__law_refused ["_law_hall", "_law_rooms"] c__law_refused := ⟨⟨rfl, rfl, rfl, by decide +kernel, rfl, by decide +kernel, by decide +kernel⟩, rfl, by decide, by decide +kernel⟩
theorem chk__law_spoilt : ChkF G 1008 i__law_spoilt s__law_spoilt N__law_spoilt ["_law_script", "_law_lines_here", "_law_rooms"] c__law_spoilt := ⟨⟨rfl, rfl, rfl, by decide +kernel, rfl, by decide +kernel, by decide +kernel⟩, rfl, by decide, by decide +kernel⟩
theorem chk__law_with_back : ChkF G 1009 i__law_with_back s__law_with_back N__law_with_back ["_law_lines_here", "_law_rooms"] c__law_with_back := ⟨⟨rfl, rfl, rfl, by decide +kernel, rfl, by decide +kernel, by decide +kernel⟩, rfl, by decide, by decide +kernel⟩
theorem chk_law : ChkF G 1010 i_law s_law N_law ["_law_script"] c_law := ⟨⟨rfl, rfl, rfl, by decide +kernel, rfl, by decide +kernel, by decide +kernel⟩, rfl, by decide, by decide +kernel⟩
theorem skip_0 (k : Nat) (h1 : 0 ≤ k) (h2 : k < 1) : G.fn k = none := by
  show tFn k = none
  unfold tFn
  split <;> first | rfl | (exfalso; revert h1 h2; decide)
theorem skip_1 (k : Nat) (h1 : 2 ≤ k) (h2 : k < 7) : G.fn k = none := by
  show tFn k = none
  unfold tFn
  split <;> first | rfl | (exfalso; revert h1 h2; decide)
theorem skip_2 (k : Nat) (h1 : 8 ≤ k) (h2 : k < 9) : G.fn k = none := by
  show tFn k = none
  unfold tFn
  split <;> first | rfl | (exfalso; revert h1 h2; decide)
theorem skip_17 (k : Nat) (h1 : 24 ≤ k) (h2 : k < 28) : G.fn k = none := by
  show tFn k = none
  unfold tFn
  split <;> first | rfl | (exfalso; revert h1 h2; decide)
theorem skip_22 (k : Nat) (h1 : 33 ≤ k) (h2 : k < 38) : G.fn k = none := by
  show tFn k = none
  unfold tFn
  split <;> first | rfl | (exfalso; revert h1 h2; decide)
theorem skip_24 (k : Nat) (h1 : 40 ≤ k) (h2 : k < 41) : G.fn k = none := by
  show tFn k = none
  unfold tFn
  split <;> first | rfl | (exfalso; revert h1 h2; decide)
theorem skip_25 (k : Nat) (h1 : 42 ≤ k) (h2 : k < 43) : G.fn k = none := by
  show tFn k = none
  unfold tFn
  split <;> first | rfl | (exfalso; revert h1 h2; decide)
theorem skip_27 (k : Nat) (h1 : 45 ≤ k) (h2 : k < 55) : G.fn k = none := by
  show tFn k = none
  unfold tFn
  split <;> first | rfl | (exfalso; revert h1 h2; decide)
theorem skip_29 (k : Nat) (h1 : 57 ≤ k) (h2 : k < 66) : G.fn k = none := by
  show tFn k = none
  unfold tFn
  split <;> first | rfl | (exfalso; revert h1 h2; decide)
theorem skip_30 (k : Nat) (h1 : 67 ≤ k) (h2 : k < 88) : G.fn k = none := by
  show tFn k = none
  unfold tFn
  split <;> first | rfl | (exfalso; revert h1 h2; decide)
theorem skip_31 (k : Nat) (h1 : 89 ≤ k) (h2 : k < 1000) : G.fn k = none := by
  show tFn k = none
  unfold tFn
  split <;> first | rfl | (exfalso; revert h1 h2; decide)
def Γ : Nat → TSp
  | 1 => S_is_ready
  | 7 => S_Hall_init
  | 9 => S_Hall_names
  | 10 => S_Hall_belts
  | 11 => S_Spread_init
  | 12 => S_divisor
  | 13 => S_ratio
  | 14 => S_times
  | 15 => S_Spread_odd_belt
  | 16 => S_Spread_ring_by
  | 17 => S_Spread_come_to
  | 18 => S_Spread_walk_from
  | 19 => S_reached
  | 20 => S_pieces_of
  | 21 => S_multiple
  | 22 => S_whole_rates
  | 23 => S_rates_of
  | 28 => S_Hall_belt_at
  | 29 => S_Hall_lay
  | 30 => S_is_name
  | 31 => S_Hall_work
  | 32 => S_backed
  | 38 => S_Floor_init
  | 39 => S_Floor_need_work
  | 41 => S_Floor_lying
  | 43 => S_Hall_need
  | 44 => S_Hall_leaving
  | 55 => S_Floor_ready
  | 56 => S_Hall_belt
  | 66 => S_Hall_entering
  | 88 => S_Hall_fill
  | 1000 => S__law_cell
  | 1001 => S__law_is_ready
  | 1002 => S__law_pieces
  | 1003 => S__law_hall_like
  | 1004 => S__law_mix
  | 1005 => S__law_lines
  | 1006 => S__law_made
  | 1007 => S__law_refused
  | 1008 => S__law_spoilt
  | 1009 => S__law_with_back
  | 1010 => S_law
  | _ => fun _ _ _ _ => False
theorem all_mk {l : PySem.W.OpenLaw} {w : World} {K : PySem.W.Frag} {h : Heap} {mg : Str → Option Value} {fa : Addr} (X : K.In h) (Gn : h.Ns mainGlobals mg) (hfa : mg "law" = some (.ref fa))
    {C_Floor C_Hall C_Spread E_NoBelt E_NoName E_NoRate E_NoRoom E_NoWork E_RateError E_TooMuch E_Twice f_is_ready f_Hall_init f_Hall_names f_Hall_belts f_Spread_init f_divisor f_ratio f_times f_Spread_odd_belt f_Spread_ring_by f_Spread_come_to f_Spread_walk_from f_reached f_pieces_of f_multiple f_whole_rates f_rates_of f_Hall_belt_at f_Hall_lay f_is_name f_Hall_work f_backed f_Floor_init f_Floor_need_work f_Floor_lying f_Hall_need f_Hall_leaving f_Floor_ready f_Hall_belt d_Hall_belt f_Hall_entering f_Hall_fill f__law_cell f__law_is_ready f__law_pieces f__law_hall_like f__law_mix f__law_lines f__law_made f__law_refused f__law_spoilt f__law_with_back f_law : Addr} {oc_is_ready kV_is_ready dc_is_ready pm_is_ready cd_is_ready ct_is_ready oc_Hall_init kV_Hall_init dc_Hall_init pm_Hall_init cd_Hall_init ct_Hall_init oc_Hall_names kV_Hall_names dc_Hall_names pm_Hall_names cd_Hall_names ct_Hall_names oc_Hall_belts kV_Hall_belts dc_Hall_belts pm_Hall_belts cd_Hall_belts ct_Hall_belts oc_Spread_init kV_Spread_init dc_Spread_init pm_Spread_init cd_Spread_init ct_Spread_init oc_divisor kV_divisor dc_divisor pm_divisor cd_divisor ct_divisor oc_ratio kV_ratio dc_ratio pm_ratio cd_ratio ct_ratio oc_times kV_times dc_times pm_times cd_times ct_times oc_Spread_odd_belt kV_Spread_odd_belt dc_Spread_odd_belt pm_Spread_odd_belt cd_Spread_odd_belt ct_Spread_odd_belt oc_Spread_ring_by kV_Spread_ring_by dc_Spread_ring_by pm_Spread_ring_by cd_Spread_ring_by ct_Spread_ring_by oc_Spread_come_to kV_Spread_come_to dc_Spread_come_to pm_Spread_come_to cd_Spread_come_to ct_Spread_come_to oc_Spread_walk_from kV_Spread_walk_from dc_Spread_walk_from pm_Spread_walk_from cd_Spread_walk_from ct_Spread_walk_from oc_reached kV_reached dc_reached pm_reached cd_reached ct_reached oc_pieces_of kV_pieces_of dc_pieces_of pm_pieces_of cd_pieces_of ct_pieces_of oc_multiple kV_multiple dc_multiple pm_multiple cd_multiple ct_multiple oc_whole_rates kV_whole_rates dc_whole_rates pm_whole_rates cd_whole_rates ct_whole_rates oc_rates_of kV_rates_of dc_rates_of pm_rates_of cd_rates_of ct_rates_of oc_Hall_belt_at kV_Hall_belt_at dc_Hall_belt_at pm_Hall_belt_at cd_Hall_belt_at ct_Hall_belt_at oc_Hall_lay kV_Hall_lay dc_Hall_lay pm_Hall_lay cd_Hall_lay ct_Hall_lay oc_is_name kV_is_name dc_is_name pm_is_name cd_is_name ct_is_name oc_Hall_work kV_Hall_work dc_Hall_work pm_Hall_work cd_Hall_work ct_Hall_work oc_backed kV_backed dc_backed pm_backed cd_backed ct_backed oc_Floor_init kV_Floor_init dc_Floor_init pm_Floor_init cd_Floor_init ct_Floor_init oc_Floor_need_work kV_Floor_need_work dc_Floor_need_work pm_Floor_need_work cd_Floor_need_work ct_Floor_need_work oc_Floor_lying kV_Floor_lying dc_Floor_lying pm_Floor_lying cd_Floor_lying ct_Floor_lying oc_Hall_need kV_Hall_need dc_Hall_need pm_Hall_need cd_Hall_need ct_Hall_need oc_Hall_leaving kV_Hall_leaving dc_Hall_leaving pm_Hall_leaving cd_Hall_leaving ct_Hall_leaving oc_Floor_ready kV_Floor_ready dc_Floor_ready pm_Floor_ready cd_Floor_ready ct_Floor_ready oc_Hall_belt kV_Hall_belt dc_Hall_belt pm_Hall_belt cd_Hall_belt ct_Hall_belt oe_Hall_belt oc_Hall_entering kV_Hall_entering dc_Hall_entering pm_Hall_entering cd_Hall_entering ct_Hall_entering oc_Hall_fill kV_Hall_fill dc_Hall_fill pm_Hall_fill cd_Hall_fill ct_Hall_fill oc__law_cell kV__law_cell dc__law_cell pm__law_cell cd__law_cell ct__law_cell oc__law_is_ready kV__law_is_ready dc__law_is_ready pm__law_is_ready cd__law_is_ready ct__law_is_ready oc__law_pieces kV__law_pieces dc__law_pieces pm__law_pieces cd__law_pieces ct__law_pieces oc__law_hall_like kV__law_hall_like dc__law_hall_like pm__law_hall_like cd__law_hall_like ct__law_hall_like oc__law_mix kV__law_mix dc__law_mix pm__law_mix cd__law_mix ct__law_mix oc__law_lines kV__law_lines dc__law_lines pm__law_lines cd__law_lines ct__law_lines oc__law_made kV__law_made dc__law_made pm__law_made cd__law_made ct__law_made oc__law_refused kV__law_refused dc__law_refused pm__law_refused cd__law_refused ct__law_refused oc__law_spoilt kV__law_spoilt dc__law_spoilt pm__law_spoilt cd__law_spoilt ct__law_spoilt oc__law_with_back kV__law_with_back dc__law_with_back pm__law_with_back cd__law_with_back ct__law_with_back oc_law kV_law dc_law pm_law cd_law ct_law : Value} {od_is_ready an_is_ready od_Hall_init an_Hall_init od_Hall_names an_Hall_names od_Hall_belts an_Hall_belts od_Spread_init an_Spread_init od_divisor an_divisor od_ratio an_ratio od_times an_times od_Spread_odd_belt an_Spread_odd_belt od_Spread_ring_by an_Spread_ring_by od_Spread_come_to an_Spread_come_to od_Spread_walk_from an_Spread_walk_from od_reached an_reached od_pieces_of an_pieces_of od_multiple an_multiple od_whole_rates an_whole_rates od_rates_of an_rates_of od_Hall_belt_at an_Hall_belt_at od_Hall_lay an_Hall_lay od_is_name an_is_name od_Hall_work an_Hall_work od_backed an_backed od_Floor_init an_Floor_init od_Floor_need_work an_Floor_need_work od_Floor_lying an_Floor_lying od_Hall_need an_Hall_need od_Hall_leaving an_Hall_leaving od_Floor_ready an_Floor_ready od_Hall_belt an_Hall_belt oo_Hall_belt od_Hall_entering an_Hall_entering od_Hall_fill an_Hall_fill od__law_cell an__law_cell od__law_is_ready an__law_is_ready od__law_pieces an__law_pieces od__law_hall_like an__law_hall_like od__law_mix an__law_mix od__law_lines an__law_lines od__law_made an__law_made od__law_refused an__law_refused od__law_spoilt an__law_spoilt od__law_with_back an__law_with_back od_law an_law : Option Addr} {sl_is_ready sl_Hall_init sl_Hall_names sl_Hall_belts sl_Spread_init sl_divisor sl_ratio sl_times sl_Spread_odd_belt sl_Spread_ring_by sl_Spread_come_to sl_Spread_walk_from sl_reached sl_pieces_of sl_multiple sl_whole_rates sl_rates_of sl_Hall_belt_at sl_Hall_lay sl_is_name sl_Hall_work sl_backed sl_Floor_init sl_Floor_need_work sl_Floor_lying sl_Hall_need sl_Hall_leaving sl_Floor_ready sl_Hall_belt os_Hall_belt sl_Hall_entering sl_Hall_fill sl__law_cell sl__law_is_ready sl__law_pieces sl__law_hall_like sl__law_mix sl__law_lines sl__law_made sl__law_refused sl__law_spoilt sl__law_with_back sl_law : Array (Option Value)} {nn_Hall_belt : Nat} {tk_Hall_belt k_LETTERS k_MOST_BELTS k_MOST_WORKS : Tok}
    (n_Floor : PySem.W.nsIn K mainGlobals "Floor" = some (some (.ref C_Floor)))
    (pg_Floor : PySem.W.plainGet K C_Floor Str.empty = true)
    (hd_Floor : PySem.W.hasDictIn K C_Floor = true)
    (po_Floor : PySem.W.plainOver K C_Floor = true)
    (sa_Floor : PySem.W.findIn K (.ref C_Floor) "__setattr__" = some (some (.builtin "object.__setattr__")))
    (mk_Floor : PySem.W.makesIn K C_Floor = true)
    (kc_Floor : PySem.W.keepIn K (.ref C_Floor) = true)
    (na_Floor_lines : PySem.W.findIn K (.ref C_Floor) "lines" = some none)
    (na_Floor_many : PySem.W.findIn K (.ref C_Floor) "many" = some none)
    (na_Floor_heap : PySem.W.findIn K (.ref C_Floor) "heap" = some none)
    (n_Hall : PySem.W.nsIn K mainGlobals "Hall" = some (some (.ref C_Hall)))
    (pg_Hall : PySem.W.plainGet K C_Hall Str.empty = true)
    (hd_Hall : PySem.W.hasDictIn K C_Hall = true)
    (po_Hall : PySem.W.plainOver K C_Hall = true)
    (sa_Hall : PySem.W.findIn K (.ref C_Hall) "__setattr__" = some (some (.builtin "object.__setattr__")))
    (mk_Hall : PySem.W.makesIn K C_Hall = true)
    (kc_Hall : PySem.W.keepIn K (.ref C_Hall) = true)
    (na_Hall_called : PySem.W.findIn K (.ref C_Hall) "called" = some none)
    (na_Hall_lines : PySem.W.findIn K (.ref C_Hall) "lines" = some none)
    (n_Spread : PySem.W.nsIn K mainGlobals "Spread" = some (some (.ref C_Spread)))
    (pg_Spread : PySem.W.plainGet K C_Spread Str.empty = true)
    (hd_Spread : PySem.W.hasDictIn K C_Spread = true)
    (po_Spread : PySem.W.plainOver K C_Spread = true)
    (sa_Spread : PySem.W.findIn K (.ref C_Spread) "__setattr__" = some (some (.builtin "object.__setattr__")))
    (mk_Spread : PySem.W.makesIn K C_Spread = true)
    (kc_Spread : PySem.W.keepIn K (.ref C_Spread) = true)
    (na_Spread_lines : PySem.W.findIn K (.ref C_Spread) "lines" = some none)
    (na_Spread_ratios : PySem.W.findIn K (.ref C_Spread) "ratios" = some none)
    (na_Spread_ways : PySem.W.findIn K (.ref C_Spread) "ways" = some none)
    (x_NoBelt : PySem.W.nsIn K mainGlobals "NoBelt" = some (some (.ref E_NoBelt)))
    (xx_NoBelt : PySem.W.excIn K E_NoBelt [.type "ValueError", .type "Exception", .type "BaseException", .type "object"] "ValueError.__new__" = true)
    (xk_NoBelt : PySem.W.keepIn K (.ref E_NoBelt) = true)
    (xb_NoBelt : PySem.W.subIn K (.ref E_NoBelt) (.type "BaseException") = some true)
    (xh_NoBelt : PySem.W.hasDictIn K E_NoBelt = true)
    (xt_NoBelt : PySem.W.typeIn K (.ref E_NoBelt) = some (.type "type"))
    (x_NoName : PySem.W.nsIn K mainGlobals "NoName" = some (some (.ref E_NoName)))
    (xx_NoName : PySem.W.excIn K E_NoName [.type "ValueError", .type "Exception", .type "BaseException", .type "object"] "ValueError.__new__" = true)
    (xk_NoName : PySem.W.keepIn K (.ref E_NoName) = true)
    (xb_NoName : PySem.W.subIn K (.ref E_NoName) (.type "BaseException") = some true)
    (xh_NoName : PySem.W.hasDictIn K E_NoName = true)
    (xt_NoName : PySem.W.typeIn K (.ref E_NoName) = some (.type "type"))
    (x_NoRate : PySem.W.nsIn K mainGlobals "NoRate" = some (some (.ref E_NoRate)))
    (xx_NoRate : PySem.W.excIn K E_NoRate [.type "ValueError", .type "Exception", .type "BaseException", .type "object"] "ValueError.__new__" = true)
    (xk_NoRate : PySem.W.keepIn K (.ref E_NoRate) = true)
    (xb_NoRate : PySem.W.subIn K (.ref E_NoRate) (.type "BaseException") = some true)
    (xh_NoRate : PySem.W.hasDictIn K E_NoRate = true)
    (xt_NoRate : PySem.W.typeIn K (.ref E_NoRate) = some (.type "type"))
    (x_NoRoom : PySem.W.nsIn K mainGlobals "NoRoom" = some (some (.ref E_NoRoom)))
    (xx_NoRoom : PySem.W.excIn K E_NoRoom [.type "ValueError", .type "Exception", .type "BaseException", .type "object"] "ValueError.__new__" = true)
    (xk_NoRoom : PySem.W.keepIn K (.ref E_NoRoom) = true)
    (xb_NoRoom : PySem.W.subIn K (.ref E_NoRoom) (.type "BaseException") = some true)
    (xh_NoRoom : PySem.W.hasDictIn K E_NoRoom = true)
    (xt_NoRoom : PySem.W.typeIn K (.ref E_NoRoom) = some (.type "type"))
    (x_NoWork : PySem.W.nsIn K mainGlobals "NoWork" = some (some (.ref E_NoWork)))
    (xx_NoWork : PySem.W.excIn K E_NoWork [.type "ValueError", .type "Exception", .type "BaseException", .type "object"] "ValueError.__new__" = true)
    (xk_NoWork : PySem.W.keepIn K (.ref E_NoWork) = true)
    (xb_NoWork : PySem.W.subIn K (.ref E_NoWork) (.type "BaseException") = some true)
    (xh_NoWork : PySem.W.hasDictIn K E_NoWork = true)
    (xt_NoWork : PySem.W.typeIn K (.ref E_NoWork) = some (.type "type"))
    (x_RateError : PySem.W.nsIn K mainGlobals "RateError" = some (some (.ref E_RateError)))
    (xx_RateError : PySem.W.excIn K E_RateError [.type "ValueError", .type "Exception", .type "BaseException", .type "object"] "ValueError.__new__" = true)
    (xk_RateError : PySem.W.keepIn K (.ref E_RateError) = true)
    (xb_RateError : PySem.W.subIn K (.ref E_RateError) (.type "BaseException") = some true)
    (xh_RateError : PySem.W.hasDictIn K E_RateError = true)
    (xt_RateError : PySem.W.typeIn K (.ref E_RateError) = some (.type "type"))
    (x_TooMuch : PySem.W.nsIn K mainGlobals "TooMuch" = some (some (.ref E_TooMuch)))
    (xx_TooMuch : PySem.W.excIn K E_TooMuch [.type "ValueError", .type "Exception", .type "BaseException", .type "object"] "ValueError.__new__" = true)
    (xk_TooMuch : PySem.W.keepIn K (.ref E_TooMuch) = true)
    (xb_TooMuch : PySem.W.subIn K (.ref E_TooMuch) (.type "BaseException") = some true)
    (xh_TooMuch : PySem.W.hasDictIn K E_TooMuch = true)
    (xt_TooMuch : PySem.W.typeIn K (.ref E_TooMuch) = some (.type "type"))
    (x_Twice : PySem.W.nsIn K mainGlobals "Twice" = some (some (.ref E_Twice)))
    (xx_Twice : PySem.W.excIn K E_Twice [.type "ValueError", .type "Exception", .type "BaseException", .type "object"] "ValueError.__new__" = true)
    (xk_Twice : PySem.W.keepIn K (.ref E_Twice) = true)
    (xb_Twice : PySem.W.subIn K (.ref E_Twice) (.type "BaseException") = some true)
    (xh_Twice : PySem.W.hasDictIn K E_Twice = true)
    (xt_Twice : PySem.W.typeIn K (.ref E_Twice) = some (.type "type"))
    (xs_NoBelt_NoBelt : PySem.W.subIn K (.ref E_NoBelt) (.ref E_NoBelt) = some true)
    (xs_NoBelt_NoName : PySem.W.subIn K (.ref E_NoBelt) (.ref E_NoName) = some false)
    (xs_NoBelt_NoRate : PySem.W.subIn K (.ref E_NoBelt) (.ref E_NoRate) = some false)
    (xs_NoBelt_NoRoom : PySem.W.subIn K (.ref E_NoBelt) (.ref E_NoRoom) = some false)
    (xs_NoBelt_NoWork : PySem.W.subIn K (.ref E_NoBelt) (.ref E_NoWork) = some false)
    (xs_NoBelt_RateError : PySem.W.subIn K (.ref E_NoBelt) (.ref E_RateError) = some true)
    (xs_NoBelt_TooMuch : PySem.W.subIn K (.ref E_NoBelt) (.ref E_TooMuch) = some false)
    (xs_NoBelt_Twice : PySem.W.subIn K (.ref E_NoBelt) (.ref E_Twice) = some false)
    (xs_NoName_NoBelt : PySem.W.subIn K (.ref E_NoName) (.ref E_NoBelt) = some false)
    (xs_NoName_NoName : PySem.W.subIn K (.ref E_NoName) (.ref E_NoName) = some true)
    (xs_NoName_NoRate : PySem.W.subIn K (.ref E_NoName) (.ref E_NoRate) = some false)
    (xs_NoName_NoRoom : PySem.W.subIn K (.ref E_NoName) (.ref E_NoRoom) = some false)
    (xs_NoName_NoWork : PySem.W.subIn K (.ref E_NoName) (.ref E_NoWork) = some false)
    (xs_NoName_RateError : PySem.W.subIn K (.ref E_NoName) (.ref E_RateError) = some true)
    (xs_NoName_TooMuch : PySem.W.subIn K (.ref E_NoName) (.ref E_TooMuch) = some false)
    (xs_NoName_Twice : PySem.W.subIn K (.ref E_NoName) (.ref E_Twice) = some false)
    (xs_NoRate_NoBelt : PySem.W.subIn K (.ref E_NoRate) (.ref E_NoBelt) = some false)
    (xs_NoRate_NoName : PySem.W.subIn K (.ref E_NoRate) (.ref E_NoName) = some false)
    (xs_NoRate_NoRate : PySem.W.subIn K (.ref E_NoRate) (.ref E_NoRate) = some true)
    (xs_NoRate_NoRoom : PySem.W.subIn K (.ref E_NoRate) (.ref E_NoRoom) = some false)
    (xs_NoRate_NoWork : PySem.W.subIn K (.ref E_NoRate) (.ref E_NoWork) = some false)
    (xs_NoRate_RateError : PySem.W.subIn K (.ref E_NoRate) (.ref E_RateError) = some true)
    (xs_NoRate_TooMuch : PySem.W.subIn K (.ref E_NoRate) (.ref E_TooMuch) = some false)
    (xs_NoRate_Twice : PySem.W.subIn K (.ref E_NoRate) (.ref E_Twice) = some false)
    (xs_NoRoom_NoBelt : PySem.W.subIn K (.ref E_NoRoom) (.ref E_NoBelt) = some false)
    (xs_NoRoom_NoName : PySem.W.subIn K (.ref E_NoRoom) (.ref E_NoName) = some false)
    (xs_NoRoom_NoRate : PySem.W.subIn K (.ref E_NoRoom) (.ref E_NoRate) = some false)
    (xs_NoRoom_NoRoom : PySem.W.subIn K (.ref E_NoRoom) (.ref E_NoRoom) = some true)
    (xs_NoRoom_NoWork : PySem.W.subIn K (.ref E_NoRoom) (.ref E_NoWork) = some false)
    (xs_NoRoom_RateError : PySem.W.subIn K (.ref E_NoRoom) (.ref E_RateError) = some true)
    (xs_NoRoom_TooMuch : PySem.W.subIn K (.ref E_NoRoom) (.ref E_TooMuch) = some false)
    (xs_NoRoom_Twice : PySem.W.subIn K (.ref E_NoRoom) (.ref E_Twice) = some false)
    (xs_NoWork_NoBelt : PySem.W.subIn K (.ref E_NoWork) (.ref E_NoBelt) = some false)
    (xs_NoWork_NoName : PySem.W.subIn K (.ref E_NoWork) (.ref E_NoName) = some false)
    (xs_NoWork_NoRate : PySem.W.subIn K (.ref E_NoWork) (.ref E_NoRate) = some false)
    (xs_NoWork_NoRoom : PySem.W.subIn K (.ref E_NoWork) (.ref E_NoRoom) = some false)
    (xs_NoWork_NoWork : PySem.W.subIn K (.ref E_NoWork) (.ref E_NoWork) = some true)
    (xs_NoWork_RateError : PySem.W.subIn K (.ref E_NoWork) (.ref E_RateError) = some true)
    (xs_NoWork_TooMuch : PySem.W.subIn K (.ref E_NoWork) (.ref E_TooMuch) = some false)
    (xs_NoWork_Twice : PySem.W.subIn K (.ref E_NoWork) (.ref E_Twice) = some false)
    (xs_RateError_NoBelt : PySem.W.subIn K (.ref E_RateError) (.ref E_NoBelt) = some false)
    (xs_RateError_NoName : PySem.W.subIn K (.ref E_RateError) (.ref E_NoName) = some false)
    (xs_RateError_NoRate : PySem.W.subIn K (.ref E_RateError) (.ref E_NoRate) = some false)
    (xs_RateError_NoRoom : PySem.W.subIn K (.ref E_RateError) (.ref E_NoRoom) = some false)
    (xs_RateError_NoWork : PySem.W.subIn K (.ref E_RateError) (.ref E_NoWork) = some false)
    (xs_RateError_RateError : PySem.W.subIn K (.ref E_RateError) (.ref E_RateError) = some true)
    (xs_RateError_TooMuch : PySem.W.subIn K (.ref E_RateError) (.ref E_TooMuch) = some false)
    (xs_RateError_Twice : PySem.W.subIn K (.ref E_RateError) (.ref E_Twice) = some false)
    (xs_TooMuch_NoBelt : PySem.W.subIn K (.ref E_TooMuch) (.ref E_NoBelt) = some false)
    (xs_TooMuch_NoName : PySem.W.subIn K (.ref E_TooMuch) (.ref E_NoName) = some false)
    (xs_TooMuch_NoRate : PySem.W.subIn K (.ref E_TooMuch) (.ref E_NoRate) = some false)
    (xs_TooMuch_NoRoom : PySem.W.subIn K (.ref E_TooMuch) (.ref E_NoRoom) = some false)
    (xs_TooMuch_NoWork : PySem.W.subIn K (.ref E_TooMuch) (.ref E_NoWork) = some false)
    (xs_TooMuch_RateError : PySem.W.subIn K (.ref E_TooMuch) (.ref E_RateError) = some true)
    (xs_TooMuch_TooMuch : PySem.W.subIn K (.ref E_TooMuch) (.ref E_TooMuch) = some true)
    (xs_TooMuch_Twice : PySem.W.subIn K (.ref E_TooMuch) (.ref E_Twice) = some false)
    (xs_Twice_NoBelt : PySem.W.subIn K (.ref E_Twice) (.ref E_NoBelt) = some false)
    (xs_Twice_NoName : PySem.W.subIn K (.ref E_Twice) (.ref E_NoName) = some false)
    (xs_Twice_NoRate : PySem.W.subIn K (.ref E_Twice) (.ref E_NoRate) = some false)
    (xs_Twice_NoRoom : PySem.W.subIn K (.ref E_Twice) (.ref E_NoRoom) = some false)
    (xs_Twice_NoWork : PySem.W.subIn K (.ref E_Twice) (.ref E_NoWork) = some false)
    (xs_Twice_RateError : PySem.W.subIn K (.ref E_Twice) (.ref E_RateError) = some true)
    (xs_Twice_TooMuch : PySem.W.subIn K (.ref E_Twice) (.ref E_TooMuch) = some false)
    (xs_Twice_Twice : PySem.W.subIn K (.ref E_Twice) (.ref E_Twice) = some true)
    (oc_n : PySem.W.specialIn K (.builtin "object.__class__") "__get__" = some (some (.builtin "getset_descriptor.__get__")))
    (oc_t : PySem.W.takesIn K (.builtin "object.__class__") = some true)
    (ia_Floor : PySem.W.findIn K (.ref C_Floor) "__class__" = some (some (.builtin "object.__class__")))
    (im_Floor : PySem.W.mroIn K C_Floor (.type "object") = some true)
    (ia_Hall : PySem.W.findIn K (.ref C_Hall) "__class__" = some (some (.builtin "object.__class__")))
    (im_Hall : PySem.W.mroIn K C_Hall (.type "object") = some true)
    (ia_Spread : PySem.W.findIn K (.ref C_Spread) "__class__" = some (some (.builtin "object.__class__")))
    (im_Spread : PySem.W.mroIn K C_Spread (.type "object") = some true)
    (xv_NoBelt : PySem.W.subIn K (.ref E_NoBelt) (.type "ValueError") = some true)
    (eg_NoBelt : PySem.W.findIn K (.ref E_NoBelt) "__getattribute__" = some (some (.builtin "BaseException.__getattribute__")))
    (ek_NoBelt : PySem.W.findIn K (.ref E_NoBelt) "__getattr__" = some none)
    (ec_NoBelt : PySem.W.findIn K (.ref E_NoBelt) "__class__" = some (some (.builtin "object.__class__")))
    (em_NoBelt : PySem.W.mroIn K E_NoBelt (.type "object") = some true)
    (xv_NoName : PySem.W.subIn K (.ref E_NoName) (.type "ValueError") = some true)
    (eg_NoName : PySem.W.findIn K (.ref E_NoName) "__getattribute__" = some (some (.builtin "BaseException.__getattribute__")))
    (ek_NoName : PySem.W.findIn K (.ref E_NoName) "__getattr__" = some none)
    (ec_NoName : PySem.W.findIn K (.ref E_NoName) "__class__" = some (some (.builtin "object.__class__")))
    (em_NoName : PySem.W.mroIn K E_NoName (.type "object") = some true)
    (xv_NoRate : PySem.W.subIn K (.ref E_NoRate) (.type "ValueError") = some true)
    (eg_NoRate : PySem.W.findIn K (.ref E_NoRate) "__getattribute__" = some (some (.builtin "BaseException.__getattribute__")))
    (ek_NoRate : PySem.W.findIn K (.ref E_NoRate) "__getattr__" = some none)
    (ec_NoRate : PySem.W.findIn K (.ref E_NoRate) "__class__" = some (some (.builtin "object.__class__")))
    (em_NoRate : PySem.W.mroIn K E_NoRate (.type "object") = some true)
    (xv_NoRoom : PySem.W.subIn K (.ref E_NoRoom) (.type "ValueError") = some true)
    (eg_NoRoom : PySem.W.findIn K (.ref E_NoRoom) "__getattribute__" = some (some (.builtin "BaseException.__getattribute__")))
    (ek_NoRoom : PySem.W.findIn K (.ref E_NoRoom) "__getattr__" = some none)
    (ec_NoRoom : PySem.W.findIn K (.ref E_NoRoom) "__class__" = some (some (.builtin "object.__class__")))
    (em_NoRoom : PySem.W.mroIn K E_NoRoom (.type "object") = some true)
    (xv_NoWork : PySem.W.subIn K (.ref E_NoWork) (.type "ValueError") = some true)
    (eg_NoWork : PySem.W.findIn K (.ref E_NoWork) "__getattribute__" = some (some (.builtin "BaseException.__getattribute__")))
    (ek_NoWork : PySem.W.findIn K (.ref E_NoWork) "__getattr__" = some none)
    (ec_NoWork : PySem.W.findIn K (.ref E_NoWork) "__class__" = some (some (.builtin "object.__class__")))
    (em_NoWork : PySem.W.mroIn K E_NoWork (.type "object") = some true)
    (xv_RateError : PySem.W.subIn K (.ref E_RateError) (.type "ValueError") = some true)
    (eg_RateError : PySem.W.findIn K (.ref E_RateError) "__getattribute__" = some (some (.builtin "BaseException.__getattribute__")))
    (ek_RateError : PySem.W.findIn K (.ref E_RateError) "__getattr__" = some none)
    (ec_RateError : PySem.W.findIn K (.ref E_RateError) "__class__" = some (some (.builtin "object.__class__")))
    (em_RateError : PySem.W.mroIn K E_RateError (.type "object") = some true)
    (xv_TooMuch : PySem.W.subIn K (.ref E_TooMuch) (.type "ValueError") = some true)
    (eg_TooMuch : PySem.W.findIn K (.ref E_TooMuch) "__getattribute__" = some (some (.builtin "BaseException.__getattribute__")))
    (ek_TooMuch : PySem.W.findIn K (.ref E_TooMuch) "__getattr__" = some none)
    (ec_TooMuch : PySem.W.findIn K (.ref E_TooMuch) "__class__" = some (some (.builtin "object.__class__")))
    (em_TooMuch : PySem.W.mroIn K E_TooMuch (.type "object") = some true)
    (xv_Twice : PySem.W.subIn K (.ref E_Twice) (.type "ValueError") = some true)
    (eg_Twice : PySem.W.findIn K (.ref E_Twice) "__getattribute__" = some (some (.builtin "BaseException.__getattribute__")))
    (ek_Twice : PySem.W.findIn K (.ref E_Twice) "__getattr__" = some none)
    (ec_Twice : PySem.W.findIn K (.ref E_Twice) "__class__" = some (some (.builtin "object.__class__")))
    (em_Twice : PySem.W.mroIn K E_Twice (.type "object") = some true)
    (g_LETTERS : PySem.W.nsIn K mainGlobals "LETTERS" = some (some (.str "abcdefghijklmnopqrstuvwxyz" k_LETTERS)))
    (g_MOST_BELTS : PySem.W.nsIn K mainGlobals "MOST_BELTS" = some (some (.int 60 k_MOST_BELTS)))
    (g_MOST_WORKS : PySem.W.nsIn K mainGlobals "MOST_WORKS" = some (some (.int 30 k_MOST_WORKS)))
    (b_len : PySem.W.nsIn K mainGlobals "len" = some none)
    (b_sum : PySem.W.nsIn K mainGlobals "sum" = some none)
    (b_max : PySem.W.nsIn K mainGlobals "max" = some none)
    (b_min : PySem.W.nsIn K mainGlobals "min" = some none)
    (b_list : PySem.W.nsIn K mainGlobals "list" = some none)
    (b_tuple : PySem.W.nsIn K mainGlobals "tuple" = some none)
    (b_sorted : PySem.W.nsIn K mainGlobals "sorted" = some none)
    (b_all : PySem.W.nsIn K mainGlobals "all" = some none)
    (b_any : PySem.W.nsIn K mainGlobals "any" = some none)
    (b_str : PySem.W.nsIn K mainGlobals "str" = some none)
    (b_int : PySem.W.nsIn K mainGlobals "int" = some none)
    (b_bool : PySem.W.nsIn K mainGlobals "bool" = some none)
    (b_dict : PySem.W.nsIn K mainGlobals "dict" = some none)
    (b_isinstance : PySem.W.nsIn K mainGlobals "isinstance" = some none)
    (b_range : PySem.W.nsIn K mainGlobals "range" = some none)
    (b_enumerate : PySem.W.nsIn K mainGlobals "enumerate" = some none)
    (b_zip : PySem.W.nsIn K mainGlobals "zip" = some none)
    (b_reversed : PySem.W.nsIn K mainGlobals "reversed" = some none)
    (b_ValueError : PySem.W.nsIn K mainGlobals "ValueError" = some none)
    (b_set : PySem.W.nsIn K mainGlobals "set" = some none)
    (a_is_ready : PySem.W.nsIn K mainGlobals "is_ready" = some (some (.ref f_is_ready)))
    (l_is_ready : K.lookup f_is_ready = some ⟨oc_is_ready, od_is_ready, .func (PySem.W.fnOf "is_ready" "is_ready" (defArgs s_is_ready) (defBody s_is_ready) (defScope s_is_ready) .none kV_is_ready dc_is_ready pm_is_ready an_is_ready cd_is_ready ct_is_ready), sl_is_ready⟩)
    (c_f_is_ready : PySem.W.codeIn K cd_is_ready "is_ready" = true)
    (k_f_is_ready : PySem.W.keepIn K (.ref f_is_ready) = true)
    (a_Hall_init : PySem.W.findIn K (.ref C_Hall) "__init__" = some (some (.ref f_Hall_init)))
    (i_f_Hall_init : PySem.W.isFn K (.ref f_Hall_init) = true)
    (l_Hall_init : K.lookup f_Hall_init = some ⟨oc_Hall_init, od_Hall_init, .func (PySem.W.fnOf "__init__" "Hall.__init__" (defArgs s_Hall_init) (defBody s_Hall_init) (defScope s_Hall_init) .none kV_Hall_init dc_Hall_init pm_Hall_init an_Hall_init cd_Hall_init ct_Hall_init), sl_Hall_init⟩)
    (c_f_Hall_init : PySem.W.codeIn K cd_Hall_init "Hall.__init__" = true)
    (k_f_Hall_init : PySem.W.keepIn K (.ref f_Hall_init) = true)
    (a_Hall_names : PySem.W.findIn K (.ref C_Hall) "names" = some (some (.ref f_Hall_names)))
    (i_f_Hall_names : PySem.W.isFn K (.ref f_Hall_names) = true)
    (l_Hall_names : K.lookup f_Hall_names = some ⟨oc_Hall_names, od_Hall_names, .func (PySem.W.fnOf "names" "Hall.names" (defArgs s_Hall_names) (defBody s_Hall_names) (defScope s_Hall_names) .none kV_Hall_names dc_Hall_names pm_Hall_names an_Hall_names cd_Hall_names ct_Hall_names), sl_Hall_names⟩)
    (c_f_Hall_names : PySem.W.codeIn K cd_Hall_names "Hall.names" = true)
    (k_f_Hall_names : PySem.W.keepIn K (.ref f_Hall_names) = true)
    (a_Hall_belts : PySem.W.findIn K (.ref C_Hall) "belts" = some (some (.ref f_Hall_belts)))
    (i_f_Hall_belts : PySem.W.isFn K (.ref f_Hall_belts) = true)
    (l_Hall_belts : K.lookup f_Hall_belts = some ⟨oc_Hall_belts, od_Hall_belts, .func (PySem.W.fnOf "belts" "Hall.belts" (defArgs s_Hall_belts) (defBody s_Hall_belts) (defScope s_Hall_belts) .none kV_Hall_belts dc_Hall_belts pm_Hall_belts an_Hall_belts cd_Hall_belts ct_Hall_belts), sl_Hall_belts⟩)
    (c_f_Hall_belts : PySem.W.codeIn K cd_Hall_belts "Hall.belts" = true)
    (k_f_Hall_belts : PySem.W.keepIn K (.ref f_Hall_belts) = true)
    (a_Spread_init : PySem.W.findIn K (.ref C_Spread) "__init__" = some (some (.ref f_Spread_init)))
    (i_f_Spread_init : PySem.W.isFn K (.ref f_Spread_init) = true)
    (l_Spread_init : K.lookup f_Spread_init = some ⟨oc_Spread_init, od_Spread_init, .func (PySem.W.fnOf "__init__" "Spread.__init__" (defArgs s_Spread_init) (defBody s_Spread_init) (defScope s_Spread_init) .none kV_Spread_init dc_Spread_init pm_Spread_init an_Spread_init cd_Spread_init ct_Spread_init), sl_Spread_init⟩)
    (c_f_Spread_init : PySem.W.codeIn K cd_Spread_init "Spread.__init__" = true)
    (k_f_Spread_init : PySem.W.keepIn K (.ref f_Spread_init) = true)
    (a_divisor : PySem.W.nsIn K mainGlobals "divisor" = some (some (.ref f_divisor)))
    (l_divisor : K.lookup f_divisor = some ⟨oc_divisor, od_divisor, .func (PySem.W.fnOf "divisor" "divisor" (defArgs s_divisor) (defBody s_divisor) (defScope s_divisor) .none kV_divisor dc_divisor pm_divisor an_divisor cd_divisor ct_divisor), sl_divisor⟩)
    (c_f_divisor : PySem.W.codeIn K cd_divisor "divisor" = true)
    (k_f_divisor : PySem.W.keepIn K (.ref f_divisor) = true)
    (a_ratio : PySem.W.nsIn K mainGlobals "ratio" = some (some (.ref f_ratio)))
    (l_ratio : K.lookup f_ratio = some ⟨oc_ratio, od_ratio, .func (PySem.W.fnOf "ratio" "ratio" (defArgs s_ratio) (defBody s_ratio) (defScope s_ratio) .none kV_ratio dc_ratio pm_ratio an_ratio cd_ratio ct_ratio), sl_ratio⟩)
    (c_f_ratio : PySem.W.codeIn K cd_ratio "ratio" = true)
    (k_f_ratio : PySem.W.keepIn K (.ref f_ratio) = true)
    (a_times : PySem.W.nsIn K mainGlobals "times" = some (some (.ref f_times)))
    (l_times : K.lookup f_times = some ⟨oc_times, od_times, .func (PySem.W.fnOf "times" "times" (defArgs s_times) (defBody s_times) (defScope s_times) .none kV_times dc_times pm_times an_times cd_times ct_times), sl_times⟩)
    (c_f_times : PySem.W.codeIn K cd_times "times" = true)
    (k_f_times : PySem.W.keepIn K (.ref f_times) = true)
    (a_Spread_odd_belt : PySem.W.findIn K (.ref C_Spread) "odd_belt" = some (some (.ref f_Spread_odd_belt)))
    (i_f_Spread_odd_belt : PySem.W.isFn K (.ref f_Spread_odd_belt) = true)
    (l_Spread_odd_belt : K.lookup f_Spread_odd_belt = some ⟨oc_Spread_odd_belt, od_Spread_odd_belt, .func (PySem.W.fnOf "odd_belt" "Spread.odd_belt" (defArgs s_Spread_odd_belt) (defBody s_Spread_odd_belt) (defScope s_Spread_odd_belt) .none kV_Spread_odd_belt dc_Spread_odd_belt pm_Spread_odd_belt an_Spread_odd_belt cd_Spread_odd_belt ct_Spread_odd_belt), sl_Spread_odd_belt⟩)
    (c_f_Spread_odd_belt : PySem.W.codeIn K cd_Spread_odd_belt "Spread.odd_belt" = true)
    (k_f_Spread_odd_belt : PySem.W.keepIn K (.ref f_Spread_odd_belt) = true)
    (a_Spread_ring_by : PySem.W.findIn K (.ref C_Spread) "ring_by" = some (some (.ref f_Spread_ring_by)))
    (i_f_Spread_ring_by : PySem.W.isFn K (.ref f_Spread_ring_by) = true)
    (l_Spread_ring_by : K.lookup f_Spread_ring_by = some ⟨oc_Spread_ring_by, od_Spread_ring_by, .func (PySem.W.fnOf "ring_by" "Spread.ring_by" (defArgs s_Spread_ring_by) (defBody s_Spread_ring_by) (defScope s_Spread_ring_by) .none kV_Spread_ring_by dc_Spread_ring_by pm_Spread_ring_by an_Spread_ring_by cd_Spread_ring_by ct_Spread_ring_by), sl_Spread_ring_by⟩)
    (c_f_Spread_ring_by : PySem.W.codeIn K cd_Spread_ring_by "Spread.ring_by" = true)
    (k_f_Spread_ring_by : PySem.W.keepIn K (.ref f_Spread_ring_by) = true)
    (a_Spread_come_to : PySem.W.findIn K (.ref C_Spread) "come_to" = some (some (.ref f_Spread_come_to)))
    (i_f_Spread_come_to : PySem.W.isFn K (.ref f_Spread_come_to) = true)
    (l_Spread_come_to : K.lookup f_Spread_come_to = some ⟨oc_Spread_come_to, od_Spread_come_to, .func (PySem.W.fnOf "come_to" "Spread.come_to" (defArgs s_Spread_come_to) (defBody s_Spread_come_to) (defScope s_Spread_come_to) .none kV_Spread_come_to dc_Spread_come_to pm_Spread_come_to an_Spread_come_to cd_Spread_come_to ct_Spread_come_to), sl_Spread_come_to⟩)
    (c_f_Spread_come_to : PySem.W.codeIn K cd_Spread_come_to "Spread.come_to" = true)
    (k_f_Spread_come_to : PySem.W.keepIn K (.ref f_Spread_come_to) = true)
    (a_Spread_walk_from : PySem.W.findIn K (.ref C_Spread) "walk_from" = some (some (.ref f_Spread_walk_from)))
    (i_f_Spread_walk_from : PySem.W.isFn K (.ref f_Spread_walk_from) = true)
    (l_Spread_walk_from : K.lookup f_Spread_walk_from = some ⟨oc_Spread_walk_from, od_Spread_walk_from, .func (PySem.W.fnOf "walk_from" "Spread.walk_from" (defArgs s_Spread_walk_from) (defBody s_Spread_walk_from) (defScope s_Spread_walk_from) .none kV_Spread_walk_from dc_Spread_walk_from pm_Spread_walk_from an_Spread_walk_from cd_Spread_walk_from ct_Spread_walk_from), sl_Spread_walk_from⟩)
    (c_f_Spread_walk_from : PySem.W.codeIn K cd_Spread_walk_from "Spread.walk_from" = true)
    (k_f_Spread_walk_from : PySem.W.keepIn K (.ref f_Spread_walk_from) = true)
    (a_reached : PySem.W.nsIn K mainGlobals "reached" = some (some (.ref f_reached)))
    (l_reached : K.lookup f_reached = some ⟨oc_reached, od_reached, .func (PySem.W.fnOf "reached" "reached" (defArgs s_reached) (defBody s_reached) (defScope s_reached) .none kV_reached dc_reached pm_reached an_reached cd_reached ct_reached), sl_reached⟩)
    (c_f_reached : PySem.W.codeIn K cd_reached "reached" = true)
    (k_f_reached : PySem.W.keepIn K (.ref f_reached) = true)
    (a_pieces_of : PySem.W.nsIn K mainGlobals "pieces_of" = some (some (.ref f_pieces_of)))
    (l_pieces_of : K.lookup f_pieces_of = some ⟨oc_pieces_of, od_pieces_of, .func (PySem.W.fnOf "pieces_of" "pieces_of" (defArgs s_pieces_of) (defBody s_pieces_of) (defScope s_pieces_of) .none kV_pieces_of dc_pieces_of pm_pieces_of an_pieces_of cd_pieces_of ct_pieces_of), sl_pieces_of⟩)
    (c_f_pieces_of : PySem.W.codeIn K cd_pieces_of "pieces_of" = true)
    (k_f_pieces_of : PySem.W.keepIn K (.ref f_pieces_of) = true)
    (a_multiple : PySem.W.nsIn K mainGlobals "multiple" = some (some (.ref f_multiple)))
    (l_multiple : K.lookup f_multiple = some ⟨oc_multiple, od_multiple, .func (PySem.W.fnOf "multiple" "multiple" (defArgs s_multiple) (defBody s_multiple) (defScope s_multiple) .none kV_multiple dc_multiple pm_multiple an_multiple cd_multiple ct_multiple), sl_multiple⟩)
    (c_f_multiple : PySem.W.codeIn K cd_multiple "multiple" = true)
    (k_f_multiple : PySem.W.keepIn K (.ref f_multiple) = true)
    (a_whole_rates : PySem.W.nsIn K mainGlobals "whole_rates" = some (some (.ref f_whole_rates)))
    (l_whole_rates : K.lookup f_whole_rates = some ⟨oc_whole_rates, od_whole_rates, .func (PySem.W.fnOf "whole_rates" "whole_rates" (defArgs s_whole_rates) (defBody s_whole_rates) (defScope s_whole_rates) .none kV_whole_rates dc_whole_rates pm_whole_rates an_whole_rates cd_whole_rates ct_whole_rates), sl_whole_rates⟩)
    (c_f_whole_rates : PySem.W.codeIn K cd_whole_rates "whole_rates" = true)
    (k_f_whole_rates : PySem.W.keepIn K (.ref f_whole_rates) = true)
    (a_rates_of : PySem.W.nsIn K mainGlobals "rates_of" = some (some (.ref f_rates_of)))
    (l_rates_of : K.lookup f_rates_of = some ⟨oc_rates_of, od_rates_of, .func (PySem.W.fnOf "rates_of" "rates_of" (defArgs s_rates_of) (defBody s_rates_of) (defScope s_rates_of) .none kV_rates_of dc_rates_of pm_rates_of an_rates_of cd_rates_of ct_rates_of), sl_rates_of⟩)
    (c_f_rates_of : PySem.W.codeIn K cd_rates_of "rates_of" = true)
    (k_f_rates_of : PySem.W.keepIn K (.ref f_rates_of) = true)
    (a_Hall_belt_at : PySem.W.findIn K (.ref C_Hall) "belt_at" = some (some (.ref f_Hall_belt_at)))
    (i_f_Hall_belt_at : PySem.W.isFn K (.ref f_Hall_belt_at) = true)
    (l_Hall_belt_at : K.lookup f_Hall_belt_at = some ⟨oc_Hall_belt_at, od_Hall_belt_at, .func (PySem.W.fnOf "belt_at" "Hall.belt_at" (defArgs s_Hall_belt_at) (defBody s_Hall_belt_at) (defScope s_Hall_belt_at) .none kV_Hall_belt_at dc_Hall_belt_at pm_Hall_belt_at an_Hall_belt_at cd_Hall_belt_at ct_Hall_belt_at), sl_Hall_belt_at⟩)
    (c_f_Hall_belt_at : PySem.W.codeIn K cd_Hall_belt_at "Hall.belt_at" = true)
    (k_f_Hall_belt_at : PySem.W.keepIn K (.ref f_Hall_belt_at) = true)
    (a_Hall_lay : PySem.W.findIn K (.ref C_Hall) "lay" = some (some (.ref f_Hall_lay)))
    (i_f_Hall_lay : PySem.W.isFn K (.ref f_Hall_lay) = true)
    (l_Hall_lay : K.lookup f_Hall_lay = some ⟨oc_Hall_lay, od_Hall_lay, .func (PySem.W.fnOf "lay" "Hall.lay" (defArgs s_Hall_lay) (defBody s_Hall_lay) (defScope s_Hall_lay) .none kV_Hall_lay dc_Hall_lay pm_Hall_lay an_Hall_lay cd_Hall_lay ct_Hall_lay), sl_Hall_lay⟩)
    (c_f_Hall_lay : PySem.W.codeIn K cd_Hall_lay "Hall.lay" = true)
    (k_f_Hall_lay : PySem.W.keepIn K (.ref f_Hall_lay) = true)
    (a_is_name : PySem.W.nsIn K mainGlobals "is_name" = some (some (.ref f_is_name)))
    (l_is_name : K.lookup f_is_name = some ⟨oc_is_name, od_is_name, .func (PySem.W.fnOf "is_name" "is_name" (defArgs s_is_name) (defBody s_is_name) (defScope s_is_name) .none kV_is_name dc_is_name pm_is_name an_is_name cd_is_name ct_is_name), sl_is_name⟩)
    (c_f_is_name : PySem.W.codeIn K cd_is_name "is_name" = true)
    (k_f_is_name : PySem.W.keepIn K (.ref f_is_name) = true)
    (a_Hall_work : PySem.W.findIn K (.ref C_Hall) "work" = some (some (.ref f_Hall_work)))
    (i_f_Hall_work : PySem.W.isFn K (.ref f_Hall_work) = true)
    (l_Hall_work : K.lookup f_Hall_work = some ⟨oc_Hall_work, od_Hall_work, .func (PySem.W.fnOf "work" "Hall.work" (defArgs s_Hall_work) (defBody s_Hall_work) (defScope s_Hall_work) .none kV_Hall_work dc_Hall_work pm_Hall_work an_Hall_work cd_Hall_work ct_Hall_work), sl_Hall_work⟩)
    (c_f_Hall_work : PySem.W.codeIn K cd_Hall_work "Hall.work" = true)
    (k_f_Hall_work : PySem.W.keepIn K (.ref f_Hall_work) = true)
    (a_backed : PySem.W.nsIn K mainGlobals "backed" = some (some (.ref f_backed)))
    (l_backed : K.lookup f_backed = some ⟨oc_backed, od_backed, .func (PySem.W.fnOf "backed" "backed" (defArgs s_backed) (defBody s_backed) (defScope s_backed) .none kV_backed dc_backed pm_backed an_backed cd_backed ct_backed), sl_backed⟩)
    (c_f_backed : PySem.W.codeIn K cd_backed "backed" = true)
    (k_f_backed : PySem.W.keepIn K (.ref f_backed) = true)
    (a_Floor_init : PySem.W.findIn K (.ref C_Floor) "__init__" = some (some (.ref f_Floor_init)))
    (i_f_Floor_init : PySem.W.isFn K (.ref f_Floor_init) = true)
    (l_Floor_init : K.lookup f_Floor_init = some ⟨oc_Floor_init, od_Floor_init, .func (PySem.W.fnOf "__init__" "Floor.__init__" (defArgs s_Floor_init) (defBody s_Floor_init) (defScope s_Floor_init) .none kV_Floor_init dc_Floor_init pm_Floor_init an_Floor_init cd_Floor_init ct_Floor_init), sl_Floor_init⟩)
    (c_f_Floor_init : PySem.W.codeIn K cd_Floor_init "Floor.__init__" = true)
    (k_f_Floor_init : PySem.W.keepIn K (.ref f_Floor_init) = true)
    (a_Floor_need_work : PySem.W.findIn K (.ref C_Floor) "need_work" = some (some (.ref f_Floor_need_work)))
    (i_f_Floor_need_work : PySem.W.isFn K (.ref f_Floor_need_work) = true)
    (l_Floor_need_work : K.lookup f_Floor_need_work = some ⟨oc_Floor_need_work, od_Floor_need_work, .func (PySem.W.fnOf "need_work" "Floor.need_work" (defArgs s_Floor_need_work) (defBody s_Floor_need_work) (defScope s_Floor_need_work) .none kV_Floor_need_work dc_Floor_need_work pm_Floor_need_work an_Floor_need_work cd_Floor_need_work ct_Floor_need_work), sl_Floor_need_work⟩)
    (c_f_Floor_need_work : PySem.W.codeIn K cd_Floor_need_work "Floor.need_work" = true)
    (k_f_Floor_need_work : PySem.W.keepIn K (.ref f_Floor_need_work) = true)
    (a_Floor_lying : PySem.W.findIn K (.ref C_Floor) "lying" = some (some (.ref f_Floor_lying)))
    (i_f_Floor_lying : PySem.W.isFn K (.ref f_Floor_lying) = true)
    (l_Floor_lying : K.lookup f_Floor_lying = some ⟨oc_Floor_lying, od_Floor_lying, .func (PySem.W.fnOf "lying" "Floor.lying" (defArgs s_Floor_lying) (defBody s_Floor_lying) (defScope s_Floor_lying) .none kV_Floor_lying dc_Floor_lying pm_Floor_lying an_Floor_lying cd_Floor_lying ct_Floor_lying), sl_Floor_lying⟩)
    (c_f_Floor_lying : PySem.W.codeIn K cd_Floor_lying "Floor.lying" = true)
    (k_f_Floor_lying : PySem.W.keepIn K (.ref f_Floor_lying) = true)
    (a_Hall_need : PySem.W.findIn K (.ref C_Hall) "need" = some (some (.ref f_Hall_need)))
    (i_f_Hall_need : PySem.W.isFn K (.ref f_Hall_need) = true)
    (l_Hall_need : K.lookup f_Hall_need = some ⟨oc_Hall_need, od_Hall_need, .func (PySem.W.fnOf "need" "Hall.need" (defArgs s_Hall_need) (defBody s_Hall_need) (defScope s_Hall_need) .none kV_Hall_need dc_Hall_need pm_Hall_need an_Hall_need cd_Hall_need ct_Hall_need), sl_Hall_need⟩)
    (c_f_Hall_need : PySem.W.codeIn K cd_Hall_need "Hall.need" = true)
    (k_f_Hall_need : PySem.W.keepIn K (.ref f_Hall_need) = true)
    (a_Hall_leaving : PySem.W.findIn K (.ref C_Hall) "leaving" = some (some (.ref f_Hall_leaving)))
    (i_f_Hall_leaving : PySem.W.isFn K (.ref f_Hall_leaving) = true)
    (l_Hall_leaving : K.lookup f_Hall_leaving = some ⟨oc_Hall_leaving, od_Hall_leaving, .func (PySem.W.fnOf "leaving" "Hall.leaving" (defArgs s_Hall_leaving) (defBody s_Hall_leaving) (defScope s_Hall_leaving) .none kV_Hall_leaving dc_Hall_leaving pm_Hall_leaving an_Hall_leaving cd_Hall_leaving ct_Hall_leaving), sl_Hall_leaving⟩)
    (c_f_Hall_leaving : PySem.W.codeIn K cd_Hall_leaving "Hall.leaving" = true)
    (k_f_Hall_leaving : PySem.W.keepIn K (.ref f_Hall_leaving) = true)
    (a_Floor_ready : PySem.W.findIn K (.ref C_Floor) "ready" = some (some (.ref f_Floor_ready)))
    (i_f_Floor_ready : PySem.W.isFn K (.ref f_Floor_ready) = true)
    (l_Floor_ready : K.lookup f_Floor_ready = some ⟨oc_Floor_ready, od_Floor_ready, .func (PySem.W.fnOf "ready" "Floor.ready" (defArgs s_Floor_ready) (defBody s_Floor_ready) (defScope s_Floor_ready) .none kV_Floor_ready dc_Floor_ready pm_Floor_ready an_Floor_ready cd_Floor_ready ct_Floor_ready), sl_Floor_ready⟩)
    (c_f_Floor_ready : PySem.W.codeIn K cd_Floor_ready "Floor.ready" = true)
    (k_f_Floor_ready : PySem.W.keepIn K (.ref f_Floor_ready) = true)
    (a_Hall_belt : PySem.W.findIn K (.ref C_Hall) "belt" = some (some (.ref f_Hall_belt)))
    (i_f_Hall_belt : PySem.W.isFn K (.ref f_Hall_belt) = true)
    (l_Hall_belt : K.lookup f_Hall_belt = some ⟨oc_Hall_belt, od_Hall_belt, .func (PySem.W.fnOf "belt" "Hall.belt" (defArgs s_Hall_belt) (defBody s_Hall_belt) (defScope s_Hall_belt) (.ref d_Hall_belt) kV_Hall_belt dc_Hall_belt pm_Hall_belt an_Hall_belt cd_Hall_belt ct_Hall_belt), sl_Hall_belt⟩)
    (c_f_Hall_belt : PySem.W.codeIn K cd_Hall_belt "Hall.belt" = true)
    (k_f_Hall_belt : PySem.W.keepIn K (.ref f_Hall_belt) = true)
    (t_Hall_belt : K.lookup d_Hall_belt = some ⟨oe_Hall_belt, oo_Hall_belt, .seq [Value.int 0 tk_Hall_belt].toArray nn_Hall_belt, os_Hall_belt⟩)
    (a_Hall_entering : PySem.W.findIn K (.ref C_Hall) "entering" = some (some (.ref f_Hall_entering)))
    (i_f_Hall_entering : PySem.W.isFn K (.ref f_Hall_entering) = true)
    (l_Hall_entering : K.lookup f_Hall_entering = some ⟨oc_Hall_entering, od_Hall_entering, .func (PySem.W.fnOf "entering" "Hall.entering" (defArgs s_Hall_entering) (defBody s_Hall_entering) (defScope s_Hall_entering) .none kV_Hall_entering dc_Hall_entering pm_Hall_entering an_Hall_entering cd_Hall_entering ct_Hall_entering), sl_Hall_entering⟩)
    (c_f_Hall_entering : PySem.W.codeIn K cd_Hall_entering "Hall.entering" = true)
    (k_f_Hall_entering : PySem.W.keepIn K (.ref f_Hall_entering) = true)
    (a_Hall_fill : PySem.W.findIn K (.ref C_Hall) "fill" = some (some (.ref f_Hall_fill)))
    (i_f_Hall_fill : PySem.W.isFn K (.ref f_Hall_fill) = true)
    (l_Hall_fill : K.lookup f_Hall_fill = some ⟨oc_Hall_fill, od_Hall_fill, .func (PySem.W.fnOf "fill" "Hall.fill" (defArgs s_Hall_fill) (defBody s_Hall_fill) (defScope s_Hall_fill) .none kV_Hall_fill dc_Hall_fill pm_Hall_fill an_Hall_fill cd_Hall_fill ct_Hall_fill), sl_Hall_fill⟩)
    (c_f_Hall_fill : PySem.W.codeIn K cd_Hall_fill "Hall.fill" = true)
    (k_f_Hall_fill : PySem.W.keepIn K (.ref f_Hall_fill) = true)
    (a__law_cell : PySem.W.nsIn K mainGlobals "_law_cell" = some (some (.ref f__law_cell)))
    (l__law_cell : K.lookup f__law_cell = some ⟨oc__law_cell, od__law_cell, .func (PySem.W.fnOf "_law_cell" "_law_cell" (defArgs s__law_cell) (defBody s__law_cell) (defScope s__law_cell) .none kV__law_cell dc__law_cell pm__law_cell an__law_cell cd__law_cell ct__law_cell), sl__law_cell⟩)
    (c_f__law_cell : PySem.W.codeIn K cd__law_cell "_law_cell" = true)
    (k_f__law_cell : PySem.W.keepIn K (.ref f__law_cell) = true)
    (a__law_is_ready : PySem.W.nsIn K mainGlobals "_law_is_ready" = some (some (.ref f__law_is_ready)))
    (l__law_is_ready : K.lookup f__law_is_ready = some ⟨oc__law_is_ready, od__law_is_ready, .func (PySem.W.fnOf "_law_is_ready" "_law_is_ready" (defArgs s__law_is_ready) (defBody s__law_is_ready) (defScope s__law_is_ready) .none kV__law_is_ready dc__law_is_ready pm__law_is_ready an__law_is_ready cd__law_is_ready ct__law_is_ready), sl__law_is_ready⟩)
    (c_f__law_is_ready : PySem.W.codeIn K cd__law_is_ready "_law_is_ready" = true)
    (k_f__law_is_ready : PySem.W.keepIn K (.ref f__law_is_ready) = true)
    (a__law_pieces : PySem.W.nsIn K mainGlobals "_law_pieces" = some (some (.ref f__law_pieces)))
    (l__law_pieces : K.lookup f__law_pieces = some ⟨oc__law_pieces, od__law_pieces, .func (PySem.W.fnOf "_law_pieces" "_law_pieces" (defArgs s__law_pieces) (defBody s__law_pieces) (defScope s__law_pieces) .none kV__law_pieces dc__law_pieces pm__law_pieces an__law_pieces cd__law_pieces ct__law_pieces), sl__law_pieces⟩)
    (c_f__law_pieces : PySem.W.codeIn K cd__law_pieces "_law_pieces" = true)
    (k_f__law_pieces : PySem.W.keepIn K (.ref f__law_pieces) = true)
    (a__law_hall_like : PySem.W.nsIn K mainGlobals "_law_hall_like" = some (some (.ref f__law_hall_like)))
    (l__law_hall_like : K.lookup f__law_hall_like = some ⟨oc__law_hall_like, od__law_hall_like, .func (PySem.W.fnOf "_law_hall_like" "_law_hall_like" (defArgs s__law_hall_like) (defBody s__law_hall_like) (defScope s__law_hall_like) .none kV__law_hall_like dc__law_hall_like pm__law_hall_like an__law_hall_like cd__law_hall_like ct__law_hall_like), sl__law_hall_like⟩)
    (c_f__law_hall_like : PySem.W.codeIn K cd__law_hall_like "_law_hall_like" = true)
    (k_f__law_hall_like : PySem.W.keepIn K (.ref f__law_hall_like) = true)
    (a__law_mix : PySem.W.nsIn K mainGlobals "_law_mix" = some (some (.ref f__law_mix)))
    (l__law_mix : K.lookup f__law_mix = some ⟨oc__law_mix, od__law_mix, .func (PySem.W.fnOf "_law_mix" "_law_mix" (defArgs s__law_mix) (defBody s__law_mix) (defScope s__law_mix) .none kV__law_mix dc__law_mix pm__law_mix an__law_mix cd__law_mix ct__law_mix), sl__law_mix⟩)
    (c_f__law_mix : PySem.W.codeIn K cd__law_mix "_law_mix" = true)
    (k_f__law_mix : PySem.W.keepIn K (.ref f__law_mix) = true)
    (a__law_lines : PySem.W.nsIn K mainGlobals "_law_lines" = some (some (.ref f__law_lines)))
    (l__law_lines : K.lookup f__law_lines = some ⟨oc__law_lines, od__law_lines, .func (PySem.W.fnOf "_law_lines" "_law_lines" (defArgs s__law_lines) (defBody s__law_lines) (defScope s__law_lines) .none kV__law_lines dc__law_lines pm__law_lines an__law_lines cd__law_lines ct__law_lines), sl__law_lines⟩)
    (c_f__law_lines : PySem.W.codeIn K cd__law_lines "_law_lines" = true)
    (k_f__law_lines : PySem.W.keepIn K (.ref f__law_lines) = true)
    (a__law_made : PySem.W.nsIn K mainGlobals "_law_made" = some (some (.ref f__law_made)))
    (l__law_made : K.lookup f__law_made = some ⟨oc__law_made, od__law_made, .func (PySem.W.fnOf "_law_made" "_law_made" (defArgs s__law_made) (defBody s__law_made) (defScope s__law_made) .none kV__law_made dc__law_made pm__law_made an__law_made cd__law_made ct__law_made), sl__law_made⟩)
    (c_f__law_made : PySem.W.codeIn K cd__law_made "_law_made" = true)
    (k_f__law_made : PySem.W.keepIn K (.ref f__law_made) = true)
    (a__law_refused : PySem.W.nsIn K mainGlobals "_law_refused" = some (some (.ref f__law_refused)))
    (l__law_refused : K.lookup f__law_refused = some ⟨oc__law_refused, od__law_refused, .func (PySem.W.fnOf "_law_refused" "_law_refused" (defArgs s__law_refused) (defBody s__law_refused) (defScope s__law_refused) .none kV__law_refused dc__law_refused pm__law_refused an__law_refused cd__law_refused ct__law_refused), sl__law_refused⟩)
    (c_f__law_refused : PySem.W.codeIn K cd__law_refused "_law_refused" = true)
    (k_f__law_refused : PySem.W.keepIn K (.ref f__law_refused) = true)
    (a__law_spoilt : PySem.W.nsIn K mainGlobals "_law_spoilt" = some (some (.ref f__law_spoilt)))
    (l__law_spoilt : K.lookup f__law_spoilt = some ⟨oc__law_spoilt, od__law_spoilt, .func (PySem.W.fnOf "_law_spoilt" "_law_spoilt" (defArgs s__law_spoilt) (defBody s__law_spoilt) (defScope s__law_spoilt) .none kV__law_spoilt dc__law_spoilt pm__law_spoilt an__law_spoilt cd__law_spoilt ct__law_spoilt), sl__law_spoilt⟩)
    (c_f__law_spoilt : PySem.W.codeIn K cd__law_spoilt "_law_spoilt" = true)
    (k_f__law_spoilt : PySem.W.keepIn K (.ref f__law_spoilt) = true)
    (a__law_with_back : PySem.W.nsIn K mainGlobals "_law_with_back" = some (some (.ref f__law_with_back)))
    (l__law_with_back : K.lookup f__law_with_back = some ⟨oc__law_with_back, od__law_with_back, .func (PySem.W.fnOf "_law_with_back" "_law_with_back" (defArgs s__law_with_back) (defBody s__law_with_back) (defScope s__law_with_back) .none kV__law_with_back dc__law_with_back pm__law_with_back an__law_with_back cd__law_with_back ct__law_with_back), sl__law_with_back⟩)
    (c_f__law_with_back : PySem.W.codeIn K cd__law_with_back "_law_with_back" = true)
    (k_f__law_with_back : PySem.W.keepIn K (.ref f__law_with_back) = true)
    (a_law : PySem.W.nsIn K mainGlobals "law" = some (some (.ref f_law)))
    (l_law : K.lookup f_law = some ⟨oc_law, od_law, .func (PySem.W.fnOf "law" "law" (defArgs s_law) (defBody s_law) (defScope s_law) .none kV_law dc_law pm_law an_law cd_law ct_law), sl_law⟩)
    (c_f_law : PySem.W.codeIn K cd_law "law" = true)
    (k_f_law : PySem.W.keepIn K (.ref f_law) = true) :
    ∃ fd : FuncData, (∀ (s : Shared) (v : Value), BindsTo s fd ⟨[v], []⟩ [("_law_script", v)]) ∧ ∀ base : Heap, K.In base → base.Ns mainGlobals mg → ∃ L, FnOk l.prog w K mg base (L2.CX l.prog w) 7 fa fd ["_law_script"] (spOf K L 1 sLawT) := by
  have e := hfa.symm.trans (PySem.W.mg_of X Gn a_law)
  have e' : f_law = fa := by
    cases e
    rfl
  subst e'
  let L : Lay := ⟨fun k => match k with | 2 => C_Floor | 3 => C_Hall | 6 => C_Spread | _ => 0, tFl, fun k => match k with | 1 => E_NoBelt | 5 => E_NoName | 7 => E_NoRate | 8 => E_NoRoom | 10 => E_NoWork | 12 => E_RateError | 15 => E_TooMuch | 16 => E_Twice | _ => 0⟩
  have D_is_ready : DefF K i_is_ready "is_ready" s_is_ready f_is_ready _ ["lines", "heap", "work"] := def0 rfl l_is_ready c_f_is_ready k_f_is_ready fun _ _ _ _ _ _ us hl => match us, hl with | [_, _, _], _ => rfl
  have D_Hall_init : DefF K i_Hall_init "Hall.__init__" s_Hall_init f_Hall_init _ ["self"] := def0 rfl l_Hall_init c_f_Hall_init k_f_Hall_init fun _ _ _ _ _ _ us hl => match us, hl with | [_], _ => rfl
  have D_Hall_names : DefF K i_Hall_names "Hall.names" s_Hall_names f_Hall_names _ ["self"] := def0 rfl l_Hall_names c_f_Hall_names k_f_Hall_names fun _ _ _ _ _ _ us hl => match us, hl with | [_], _ => rfl
  have D_Hall_belts : DefF K i_Hall_belts "Hall.belts" s_Hall_belts f_Hall_belts _ ["self"] := def0 rfl l_Hall_belts c_f_Hall_belts k_f_Hall_belts fun _ _ _ _ _ _ us hl => match us, hl with | [_], _ => rfl
  have D_Spread_init : DefF K i_Spread_init "Spread.__init__" s_Spread_init f_Spread_init _ ["self", "belts"] := def0 rfl l_Spread_init c_f_Spread_init k_f_Spread_init fun _ _ _ _ _ _ us hl => match us, hl with | [_, _], _ => rfl
  have D_divisor : DefF K i_divisor "divisor" s_divisor f_divisor _ ["one", "other"] := def0 rfl l_divisor c_f_divisor k_f_divisor fun _ _ _ _ _ _ us hl => match us, hl with | [_, _], _ => rfl
  have D_ratio : DefF K i_ratio "ratio" s_ratio f_ratio _ ["top", "bottom"] := def0 rfl l_ratio c_f_ratio k_f_ratio fun _ _ _ _ _ _ us hl => match us, hl with | [_, _], _ => rfl
  have D_times : DefF K i_times "times" s_times f_times _ ["one", "other"] := def0 rfl l_times c_f_times k_f_times fun _ _ _ _ _ _ us hl => match us, hl with | [_, _], _ => rfl
  have D_Spread_odd_belt : DefF K i_Spread_odd_belt "Spread.odd_belt" s_Spread_odd_belt f_Spread_odd_belt _ ["self"] := def0 rfl l_Spread_odd_belt c_f_Spread_odd_belt k_f_Spread_odd_belt fun _ _ _ _ _ _ us hl => match us, hl with | [_], _ => rfl
  have D_Spread_ring_by : DefF K i_Spread_ring_by "Spread.ring_by" s_Spread_ring_by f_Spread_ring_by _ ["self", "number"] := def0 rfl l_Spread_ring_by c_f_Spread_ring_by k_f_Spread_ring_by fun _ _ _ _ _ _ us hl => match us, hl with | [_, _], _ => rfl
  have D_Spread_come_to : DefF K i_Spread_come_to "Spread.come_to" s_Spread_come_to f_Spread_come_to _ ["self", "work", "other", "factor", "pace"] := def0 rfl l_Spread_come_to c_f_Spread_come_to k_f_Spread_come_to fun _ _ _ _ _ _ us hl => match us, hl with | [_, _, _, _, _], _ => rfl
  have D_Spread_walk_from : DefF K i_Spread_walk_from "Spread.walk_from" s_Spread_walk_from f_Spread_walk_from _ ["self", "first"] := def0 rfl l_Spread_walk_from c_f_Spread_walk_from k_f_Spread_walk_from fun _ _ _ _ _ _ us hl => match us, hl with | [_, _], _ => rfl
  have D_reached : DefF K i_reached "reached" s_reached f_reached _ ["belts", "first"] := def0 rfl l_reached c_f_reached k_f_reached fun _ _ _ _ _ _ us hl => match us, hl with | [_, _], _ => rfl
  have D_pieces_of : DefF K i_pieces_of "pieces_of" s_pieces_of f_pieces_of _ ["hall"] := def0 rfl l_pieces_of c_f_pieces_of k_f_pieces_of fun _ _ _ _ _ _ us hl => match us, hl with | [_], _ => rfl
  have D_multiple : DefF K i_multiple "multiple" s_multiple f_multiple _ ["one", "other"] := def0 rfl l_multiple c_f_multiple k_f_multiple fun _ _ _ _ _ _ us hl => match us, hl with | [_, _], _ => rfl
  have D_whole_rates : DefF K i_whole_rates "whole_rates" s_whole_rates f_whole_rates _ ["ratios", "piece"] := def0 rfl l_whole_rates c_f_whole_rates k_f_whole_rates fun _ _ _ _ _ _ us hl => match us, hl with | [_, _], _ => rfl
  have D_rates_of : DefF K i_rates_of "rates_of" s_rates_of f_rates_of _ ["hall"] := def0 rfl l_rates_of c_f_rates_of k_f_rates_of fun _ _ _ _ _ _ us hl => match us, hl with | [_], _ => rfl
  have D_Hall_belt_at : DefF K i_Hall_belt_at "Hall.belt_at" s_Hall_belt_at f_Hall_belt_at _ ["self", "belt"] := def0 rfl l_Hall_belt_at c_f_Hall_belt_at k_f_Hall_belt_at fun _ _ _ _ _ _ us hl => match us, hl with | [_, _], _ => rfl
  have D_Hall_lay : DefF K i_Hall_lay "Hall.lay" s_Hall_lay f_Hall_lay _ ["self", "giver", "taker", "give", "take", "start"] := def0 rfl l_Hall_lay c_f_Hall_lay k_f_Hall_lay fun _ _ _ _ _ _ us hl => match us, hl with | [_, _, _, _, _, _], _ => rfl
  have D_is_name : DefF K i_is_name "is_name" s_is_name f_is_name _ ["thing"] := def0 rfl l_is_name c_f_is_name k_f_is_name fun _ _ _ _ _ _ us hl => match us, hl with | [_], _ => rfl
  have D_Hall_work : DefF K i_Hall_work "Hall.work" s_Hall_work f_Hall_work _ ["self", "name"] := def0 rfl l_Hall_work c_f_Hall_work k_f_Hall_work fun _ _ _ _ _ _ us hl => match us, hl with | [_, _], _ => rfl
  have D_backed : DefF K i_backed "backed" s_backed f_backed _ ["hall", "rooms"] := def0 rfl l_backed c_f_backed k_f_backed fun _ _ _ _ _ _ us hl => match us, hl with | [_, _], _ => rfl
  have D_Floor_init : DefF K i_Floor_init "Floor.__init__" s_Floor_init f_Floor_init _ ["self", "hall"] := def0 rfl l_Floor_init c_f_Floor_init k_f_Floor_init fun _ _ _ _ _ _ us hl => match us, hl with | [_, _], _ => rfl
  have D_Floor_need_work : DefF K i_Floor_need_work "Floor.need_work" s_Floor_need_work f_Floor_need_work _ ["self", "work"] := def0 rfl l_Floor_need_work c_f_Floor_need_work k_f_Floor_need_work fun _ _ _ _ _ _ us hl => match us, hl with | [_, _], _ => rfl
  have D_Floor_lying : DefF K i_Floor_lying "Floor.lying" s_Floor_lying f_Floor_lying _ ["self"] := def0 rfl l_Floor_lying c_f_Floor_lying k_f_Floor_lying fun _ _ _ _ _ _ us hl => match us, hl with | [_], _ => rfl
  have D_Hall_need : DefF K i_Hall_need "Hall.need" s_Hall_need f_Hall_need _ ["self", "work"] := def0 rfl l_Hall_need c_f_Hall_need k_f_Hall_need fun _ _ _ _ _ _ us hl => match us, hl with | [_, _], _ => rfl
  have D_Hall_leaving : DefF K i_Hall_leaving "Hall.leaving" s_Hall_leaving f_Hall_leaving _ ["self", "work"] := def0 rfl l_Hall_leaving c_f_Hall_leaving k_f_Hall_leaving fun _ _ _ _ _ _ us hl => match us, hl with | [_, _], _ => rfl
  have D_Floor_ready : DefF K i_Floor_ready "Floor.ready" s_Floor_ready f_Floor_ready _ ["self", "work"] := def0 rfl l_Floor_ready c_f_Floor_ready k_f_Floor_ready fun _ _ _ _ _ _ us hl => match us, hl with | [_, _], _ => rfl
  have D_Hall_belt : DefF K i_Hall_belt "Hall.belt" s_Hall_belt f_Hall_belt _ ["self", "giver", "taker", "give", "take", "start"] := def1 rfl l_Hall_belt c_f_Hall_belt k_f_Hall_belt t_Hall_belt (fun _ _ _ _ _ _ _ us its hl hi => match us, its, hl, hi with | [_, _, _, _, _, _], [_], _, _ => ⟨_, rfl, rfl⟩) (fun _ _ _ _ _ _ _ us its hl hi => match us, its, hl, hi with | [_, _, _, _, _], [_], _, _ => ⟨_, rfl, rfl⟩)
  have D_Hall_entering : DefF K i_Hall_entering "Hall.entering" s_Hall_entering f_Hall_entering _ ["self", "work"] := def0 rfl l_Hall_entering c_f_Hall_entering k_f_Hall_entering fun _ _ _ _ _ _ us hl => match us, hl with | [_, _], _ => rfl
  have D_Hall_fill : DefF K i_Hall_fill "Hall.fill" s_Hall_fill f_Hall_fill _ ["self", "belt", "start"] := def0 rfl l_Hall_fill c_f_Hall_fill k_f_Hall_fill fun _ _ _ _ _ _ us hl => match us, hl with | [_, _, _], _ => rfl
  have D__law_cell : DefF K i__law_cell "_law_cell" s__law_cell f__law_cell _ ["_law_script", "_law_k"] := def0 rfl l__law_cell c_f__law_cell k_f__law_cell fun _ _ _ _ _ _ us hl => match us, hl with | [_, _], _ => rfl
  have D__law_is_ready : DefF K i__law_is_ready "_law_is_ready" s__law_is_ready f__law_is_ready _ ["_law_due", "_law_work"] := def0 rfl l__law_is_ready c_f__law_is_ready k_f__law_is_ready fun _ _ _ _ _ _ us hl => match us, hl with | [_, _], _ => rfl
  have D__law_pieces : DefF K i__law_pieces "_law_pieces" s__law_pieces f__law_pieces _ ["_law_many", "_law_lines_here"] := def0 rfl l__law_pieces c_f__law_pieces k_f__law_pieces fun _ _ _ _ _ _ us hl => match us, hl with | [_, _], _ => rfl
  have D__law_hall_like : DefF K i__law_hall_like "_law_hall_like" s__law_hall_like f__law_hall_like _ ["_law_made_here", "_law_due", "_law_many"] := def0 rfl l__law_hall_like c_f__law_hall_like k_f__law_hall_like fun _ _ _ _ _ _ us hl => match us, hl with | [_, _, _], _ => rfl
  have D__law_mix : DefF K i__law_mix "_law_mix" s__law_mix f__law_mix _ ["_law_cell_here", "_law_way"] := def0 rfl l__law_mix c_f__law_mix k_f__law_mix fun _ _ _ _ _ _ us hl => match us, hl with | [_, _], _ => rfl
  have D__law_lines : DefF K i__law_lines "_law_lines" s__law_lines f__law_lines _ ["_law_script", "_law_many"] := def0 rfl l__law_lines c_f__law_lines k_f__law_lines fun _ _ _ _ _ _ us hl => match us, hl with | [_, _], _ => rfl
  have D__law_made : DefF K i__law_made "_law_made" s__law_made f__law_made _ ["_law_many", "_law_lines_here"] := def0 rfl l__law_made c_f__law_made k_f__law_made fun _ _ _ _ _ _ us hl => match us, hl with | [_, _], _ => rfl
  have D__law_refused : DefF K i__law_refused "_law_refused" s__law_refused f__law_refused _ ["_law_hall", "_law_rooms"] := def0 rfl l__law_refused c_f__law_refused k_f__law_refused fun _ _ _ _ _ _ us hl => match us, hl with | [_, _], _ => rfl
  have D__law_spoilt : DefF K i__law_spoilt "_law_spoilt" s__law_spoilt f__law_spoilt _ ["_law_script", "_law_lines_here", "_law_rooms"] := def0 rfl l__law_spoilt c_f__law_spoilt k_f__law_spoilt fun _ _ _ _ _ _ us hl => match us, hl with | [_, _, _], _ => rfl
  have D__law_with_back : DefF K i__law_with_back "_law_with_back" s__law_with_back f__law_with_back _ ["_law_lines_here", "_law_rooms"] := def0 rfl l__law_with_back c_f__law_with_back k_f__law_with_back fun _ _ _ _ _ _ us hl => match us, hl with | [_, _], _ => rfl
  have D_law : DefF K i_law "law" s_law f_law _ ["_law_script"] := def0 rfl l_law c_f_law k_f_law fun _ _ _ _ _ _ us hl => match us, hl with | [_], _ => rfl
  refine ⟨PySem.W.fnOf "law" "law" (defArgs s_law) (defBody s_law) (defScope s_law) .none kV_law dc_law pm_law an_law cd_law ct_law, fun s v => .of_eq rfl, fun base hK hN => ⟨L, ?_⟩⟩
  have mgo : ∀ {x : Str} {v : Value}, PySem.W.nsIn K mainGlobals x = some (some v) → mg x = some v := fun e => PySem.W.mg_of X Gn e
  have mgn : ∀ {x : Str}, PySem.W.nsIn K mainGlobals x = some none → mg x = none := fun e => PySem.W.mg_none_of X Gn e
  have g0 : GOk G Γ L 0 l.prog w K mg base := by
    refine ⟨fun f i h => absurd h (Nat.not_lt_zero f), fun c i h => ?_, fun x n h => ?_, fun n hn => ?_, fun k y h => ?_, rfl, fun _ a n ea => ?_, fun _ d i h => ?_, fun a h n m ea eh => ?_⟩
    · have h' : tCl c = some i := h
      revert h'
      unfold tCl
      split <;> intro h' <;> first | (cases h'; done) | skip
      · cases h'; exact ⟨mgo n_Floor, ⟨pg_Floor, hd_Floor, po_Floor, sa_Floor⟩, mk_Floor, kc_Floor, fun f hf => by
          simp only [G, tFl, List.mem_cons, List.not_mem_nil, or_false] at hf
          rcases hf with rfl | rfl | rfl
          · exact na_Floor_lines
          · exact na_Floor_many
          · exact na_Floor_heap, by decide +kernel, by decide, _, rfl, rfl, rfl, rfl⟩
      · cases h'; exact ⟨mgo n_Hall, ⟨pg_Hall, hd_Hall, po_Hall, sa_Hall⟩, mk_Hall, kc_Hall, fun f hf => by
          simp only [G, tFl, List.mem_cons, List.not_mem_nil, or_false] at hf
          rcases hf with rfl | rfl
          · exact na_Hall_called
          · exact na_Hall_lines, by decide +kernel, by decide, _, rfl, rfl, rfl, rfl⟩
      · cases h'; exact ⟨mgo n_Spread, ⟨pg_Spread, hd_Spread, po_Spread, sa_Spread⟩, mk_Spread, kc_Spread, fun f hf => by
          simp only [G, tFl, List.mem_cons, List.not_mem_nil, or_false] at hf
          rcases hf with rfl | rfl | rfl
          · exact na_Spread_lines
          · exact na_Spread_ratios
          · exact na_Spread_ways, by decide +kernel, by decide, _, rfl, rfl, rfl, rfl⟩
    · have h' : tEx x = some n := h
      revert h'
      unfold tEx
      split <;> intro h' <;> first | (cases h'; done) | skip
      · cases h'; exact ⟨mgo x_NoBelt, xx_NoBelt, xk_NoBelt, xb_NoBelt, xt_NoBelt⟩
      · cases h'; exact ⟨mgo x_NoName, xx_NoName, xk_NoName, xb_NoName, xt_NoName⟩
      · cases h'; exact ⟨mgo x_NoRate, xx_NoRate, xk_NoRate, xb_NoRate, xt_NoRate⟩
      · cases h'; exact ⟨mgo x_NoRoom, xx_NoRoom, xk_NoRoom, xb_NoRoom, xt_NoRoom⟩
      · cases h'; exact ⟨mgo x_NoWork, xx_NoWork, xk_NoWork, xb_NoWork, xt_NoWork⟩
      · cases h'; exact ⟨mgo x_RateError, xx_RateError, xk_RateError, xb_RateError, xt_RateError⟩
      · cases h'; exact ⟨mgo x_TooMuch, xx_TooMuch, xk_TooMuch, xb_TooMuch, xt_TooMuch⟩
      · cases h'; exact ⟨mgo x_Twice, xx_Twice, xk_Twice, xb_Twice, xt_Twice⟩
    · simp only [blNames, List.mem_cons, List.not_mem_nil, or_false] at hn
      rcases hn with rfl | rfl | rfl | rfl | rfl | rfl | rfl | rfl | rfl | rfl | rfl | rfl | rfl | rfl | rfl | rfl | rfl | rfl | rfl | rfl
      · exact mgn b_len
      · exact mgn b_sum
      · exact mgn b_max
      · exact mgn b_min
      · exact mgn b_list
      · exact mgn b_tuple
      · exact mgn b_sorted
      · exact mgn b_all
      · exact mgn b_any
      · exact mgn b_str
      · exact mgn b_int
      · exact mgn b_bool
      · exact mgn b_dict
      · exact mgn b_isinstance
      · exact mgn b_range
      · exact mgn b_enumerate
      · exact mgn b_zip
      · exact mgn b_reversed
      · exact mgn b_ValueError
      · exact mgn b_set
    · have h' : tCon k = some y := h
      revert h'
      unfold tCon
      split <;> intro h' <;> first | (cases h'; done) | skip
      · cases h'; exact ⟨.str "abcdefghijklmnopqrstuvwxyz", _, mgo g_LETTERS, ⟨_, rfl⟩, fun _ => rfl⟩
      · cases h'; exact ⟨.int 60, _, mgo g_MOST_BELTS, ⟨_, rfl⟩, fun _ => rfl⟩
      · cases h'; exact ⟨.int 30, _, mgo g_MOST_WORKS, ⟨_, rfl⟩, fun _ => rfl⟩
    · rcases tEx_cases ea with rfl | rfl | rfl | rfl | rfl | rfl | rfl | rfl
      · refine ⟨fun h m eh => ?_, kit_ve xv_NoBelt, ⟨eg_NoBelt, ek_NoBelt, xb_NoBelt, xh_NoBelt, ec_NoBelt, oc_n, oc_t, em_NoBelt⟩⟩
        rcases tEx_cases eh with rfl | rfl | rfl | rfl | rfl | rfl | rfl | rfl
        · rw [sx_NoBelt_NoBelt]
          exact kit_of xs_NoBelt_NoBelt xs_NoBelt_NoBelt xh_NoBelt xt_NoBelt
        · rw [sx_NoBelt_NoName]
          exact kit_of xs_NoBelt_NoName xs_NoBelt_NoBelt xh_NoName xt_NoName
        · rw [sx_NoBelt_NoRate]
          exact kit_of xs_NoBelt_NoRate xs_NoBelt_NoBelt xh_NoRate xt_NoRate
        · rw [sx_NoBelt_NoRoom]
          exact kit_of xs_NoBelt_NoRoom xs_NoBelt_NoBelt xh_NoRoom xt_NoRoom
        · rw [sx_NoBelt_NoWork]
          exact kit_of xs_NoBelt_NoWork xs_NoBelt_NoBelt xh_NoWork xt_NoWork
        · rw [sx_NoBelt_RateError]
          exact kit_of xs_NoBelt_RateError xs_NoBelt_NoBelt xh_RateError xt_RateError
        · rw [sx_NoBelt_TooMuch]
          exact kit_of xs_NoBelt_TooMuch xs_NoBelt_NoBelt xh_TooMuch xt_TooMuch
        · rw [sx_NoBelt_Twice]
          exact kit_of xs_NoBelt_Twice xs_NoBelt_NoBelt xh_Twice xt_Twice
      · refine ⟨fun h m eh => ?_, kit_ve xv_NoName, ⟨eg_NoName, ek_NoName, xb_NoName, xh_NoName, ec_NoName, oc_n, oc_t, em_NoName⟩⟩
        rcases tEx_cases eh with rfl | rfl | rfl | rfl | rfl | rfl | rfl | rfl
        · rw [sx_NoName_NoBelt]
          exact kit_of xs_NoName_NoBelt xs_NoName_NoName xh_NoBelt xt_NoBelt
        · rw [sx_NoName_NoName]
          exact kit_of xs_NoName_NoName xs_NoName_NoName xh_NoName xt_NoName
        · rw [sx_NoName_NoRate]
          exact kit_of xs_NoName_NoRate xs_NoName_NoName xh_NoRate xt_NoRate
        · rw [sx_NoName_NoRoom]
          exact kit_of xs_NoName_NoRoom xs_NoName_NoName xh_NoRoom xt_NoRoom
        · rw [sx_NoName_NoWork]
          exact kit_of xs_NoName_NoWork xs_NoName_NoName xh_NoWork xt_NoWork
        · rw [sx_NoName_RateError]
          exact kit_of xs_NoName_RateError xs_NoName_NoName xh_RateError xt_RateError
        · rw [sx_NoName_TooMuch]
          exact kit_of xs_NoName_TooMuch xs_NoName_NoName xh_TooMuch xt_TooMuch
        · rw [sx_NoName_Twice]
          exact kit_of xs_NoName_Twice xs_NoName_NoName xh_Twice xt_Twice
      · refine ⟨fun h m eh => ?_, kit_ve xv_NoRate, ⟨eg_NoRate, ek_NoRate, xb_NoRate, xh_NoRate, ec_NoRate, oc_n, oc_t, em_NoRate⟩⟩
        rcases tEx_cases eh with rfl | rfl | rfl | rfl | rfl | rfl | rfl | rfl
        · rw [sx_NoRate_NoBelt]
          exact kit_of xs_NoRate_NoBelt xs_NoRate_NoRate xh_NoBelt xt_NoBelt
        · rw [sx_NoRate_NoName]
          exact kit_of xs_NoRate_NoName xs_NoRate_NoRate xh_NoName xt_NoName
        · rw [sx_NoRate_NoRate]
          exact kit_of xs_NoRate_NoRate xs_NoRate_NoRate xh_NoRate xt_NoRate
        · rw [sx_NoRate_NoRoom]
          exact kit_of xs_NoRate_NoRoom xs_NoRate_NoRate xh_NoRoom xt_NoRoom
        · rw [sx_NoRate_NoWork]
          exact kit_of xs_NoRate_NoWork xs_NoRate_NoRate xh_NoWork xt_NoWork
        · rw [sx_NoRate_RateError]
          exact kit_of xs_NoRate_RateError xs_NoRate_NoRate xh_RateError xt_RateError
        · rw [sx_NoRate_TooMuch]
          exact kit_of xs_NoRate_TooMuch xs_NoRate_NoRate xh_TooMuch xt_TooMuch
        · rw [sx_NoRate_Twice]
          exact kit_of xs_NoRate_Twice xs_NoRate_NoRate xh_Twice xt_Twice
      · refine ⟨fun h m eh => ?_, kit_ve xv_NoRoom, ⟨eg_NoRoom, ek_NoRoom, xb_NoRoom, xh_NoRoom, ec_NoRoom, oc_n, oc_t, em_NoRoom⟩⟩
        rcases tEx_cases eh with rfl | rfl | rfl | rfl | rfl | rfl | rfl | rfl
        · rw [sx_NoRoom_NoBelt]
          exact kit_of xs_NoRoom_NoBelt xs_NoRoom_NoRoom xh_NoBelt xt_NoBelt
        · rw [sx_NoRoom_NoName]
          exact kit_of xs_NoRoom_NoName xs_NoRoom_NoRoom xh_NoName xt_NoName
        · rw [sx_NoRoom_NoRate]
          exact kit_of xs_NoRoom_NoRate xs_NoRoom_NoRoom xh_NoRate xt_NoRate
        · rw [sx_NoRoom_NoRoom]
          exact kit_of xs_NoRoom_NoRoom xs_NoRoom_NoRoom xh_NoRoom xt_NoRoom
        · rw [sx_NoRoom_NoWork]
          exact kit_of xs_NoRoom_NoWork xs_NoRoom_NoRoom xh_NoWork xt_NoWork
        · rw [sx_NoRoom_RateError]
          exact kit_of xs_NoRoom_RateError xs_NoRoom_NoRoom xh_RateError xt_RateError
        · rw [sx_NoRoom_TooMuch]
          exact kit_of xs_NoRoom_TooMuch xs_NoRoom_NoRoom xh_TooMuch xt_TooMuch
        · rw [sx_NoRoom_Twice]
          exact kit_of xs_NoRoom_Twice xs_NoRoom_NoRoom xh_Twice xt_Twice
      · refine ⟨fun h m eh => ?_, kit_ve xv_NoWork, ⟨eg_NoWork, ek_NoWork, xb_NoWork, xh_NoWork, ec_NoWork, oc_n, oc_t, em_NoWork⟩⟩
        rcases tEx_cases eh with rfl | rfl | rfl | rfl | rfl | rfl | rfl | rfl
        · rw [sx_NoWork_NoBelt]
          exact kit_of xs_NoWork_NoBelt xs_NoWork_NoWork xh_NoBelt xt_NoBelt
        · rw [sx_NoWork_NoName]
          exact kit_of xs_NoWork_NoName xs_NoWork_NoWork xh_NoName xt_NoName
        · rw [sx_NoWork_NoRate]
          exact kit_of xs_NoWork_NoRate xs_NoWork_NoWork xh_NoRate xt_NoRate
        · rw [sx_NoWork_NoRoom]
          exact kit_of xs_NoWork_NoRoom xs_NoWork_NoWork xh_NoRoom xt_NoRoom
        · rw [sx_NoWork_NoWork]
          exact kit_of xs_NoWork_NoWork xs_NoWork_NoWork xh_NoWork xt_NoWork
        · rw [sx_NoWork_RateError]
          exact kit_of xs_NoWork_RateError xs_NoWork_NoWork xh_RateError xt_RateError
        · rw [sx_NoWork_TooMuch]
          exact kit_of xs_NoWork_TooMuch xs_NoWork_NoWork xh_TooMuch xt_TooMuch
        · rw [sx_NoWork_Twice]
          exact kit_of xs_NoWork_Twice xs_NoWork_NoWork xh_Twice xt_Twice
      · refine ⟨fun h m eh => ?_, kit_ve xv_RateError, ⟨eg_RateError, ek_RateError, xb_RateError, xh_RateError, ec_RateError, oc_n, oc_t, em_RateError⟩⟩
        rcases tEx_cases eh with rfl | rfl | rfl | rfl | rfl | rfl | rfl | rfl
        · rw [sx_RateError_NoBelt]
          exact kit_of xs_RateError_NoBelt xs_RateError_RateError xh_NoBelt xt_NoBelt
        · rw [sx_RateError_NoName]
          exact kit_of xs_RateError_NoName xs_RateError_RateError xh_NoName xt_NoName
        · rw [sx_RateError_NoRate]
          exact kit_of xs_RateError_NoRate xs_RateError_RateError xh_NoRate xt_NoRate
        · rw [sx_RateError_NoRoom]
          exact kit_of xs_RateError_NoRoom xs_RateError_RateError xh_NoRoom xt_NoRoom
        · rw [sx_RateError_NoWork]
          exact kit_of xs_RateError_NoWork xs_RateError_RateError xh_NoWork xt_NoWork
        · rw [sx_RateError_RateError]
          exact kit_of xs_RateError_RateError xs_RateError_RateError xh_RateError xt_RateError
        · rw [sx_RateError_TooMuch]
          exact kit_of xs_RateError_TooMuch xs_RateError_RateError xh_TooMuch xt_TooMuch
        · rw [sx_RateError_Twice]
          exact kit_of xs_RateError_Twice xs_RateError_RateError xh_Twice xt_Twice
      · refine ⟨fun h m eh => ?_, kit_ve xv_TooMuch, ⟨eg_TooMuch, ek_TooMuch, xb_TooMuch, xh_TooMuch, ec_TooMuch, oc_n, oc_t, em_TooMuch⟩⟩
        rcases tEx_cases eh with rfl | rfl | rfl | rfl | rfl | rfl | rfl | rfl
        · rw [sx_TooMuch_NoBelt]
          exact kit_of xs_TooMuch_NoBelt xs_TooMuch_TooMuch xh_NoBelt xt_NoBelt
        · rw [sx_TooMuch_NoName]
          exact kit_of xs_TooMuch_NoName xs_TooMuch_TooMuch xh_NoName xt_NoName
        · rw [sx_TooMuch_NoRate]
          exact kit_of xs_TooMuch_NoRate xs_TooMuch_TooMuch xh_NoRate xt_NoRate
        · rw [sx_TooMuch_NoRoom]
          exact kit_of xs_TooMuch_NoRoom xs_TooMuch_TooMuch xh_NoRoom xt_NoRoom
        · rw [sx_TooMuch_NoWork]
          exact kit_of xs_TooMuch_NoWork xs_TooMuch_TooMuch xh_NoWork xt_NoWork
        · rw [sx_TooMuch_RateError]
          exact kit_of xs_TooMuch_RateError xs_TooMuch_TooMuch xh_RateError xt_RateError
        · rw [sx_TooMuch_TooMuch]
          exact kit_of xs_TooMuch_TooMuch xs_TooMuch_TooMuch xh_TooMuch xt_TooMuch
        · rw [sx_TooMuch_Twice]
          exact kit_of xs_TooMuch_Twice xs_TooMuch_TooMuch xh_Twice xt_Twice
      · refine ⟨fun h m eh => ?_, kit_ve xv_Twice, ⟨eg_Twice, ek_Twice, xb_Twice, xh_Twice, ec_Twice, oc_n, oc_t, em_Twice⟩⟩
        rcases tEx_cases eh with rfl | rfl | rfl | rfl | rfl | rfl | rfl | rfl
        · rw [sx_Twice_NoBelt]
          exact kit_of xs_Twice_NoBelt xs_Twice_Twice xh_NoBelt xt_NoBelt
        · rw [sx_Twice_NoName]
          exact kit_of xs_Twice_NoName xs_Twice_Twice xh_NoName xt_NoName
        · rw [sx_Twice_NoRate]
          exact kit_of xs_Twice_NoRate xs_Twice_Twice xh_NoRate xt_NoRate
        · rw [sx_Twice_NoRoom]
          exact kit_of xs_Twice_NoRoom xs_Twice_Twice xh_NoRoom xt_NoRoom
        · rw [sx_Twice_NoWork]
          exact kit_of xs_Twice_NoWork xs_Twice_Twice xh_NoWork xt_NoWork
        · rw [sx_Twice_RateError]
          exact kit_of xs_Twice_RateError xs_Twice_Twice xh_RateError xt_RateError
        · rw [sx_Twice_TooMuch]
          exact kit_of xs_Twice_TooMuch xs_Twice_Twice xh_TooMuch xt_TooMuch
        · rw [sx_Twice_Twice]
          exact kit_of xs_Twice_Twice xs_Twice_Twice xh_Twice xt_Twice
    · have h' : tCl d = some i := h
      revert h'
      unfold tCl
      split <;> intro h' <;> first | (cases h'; done) | skip
      · cases h'; exact ⟨⟨pg_Floor, hd_Floor, po_Floor, sa_Floor⟩, ia_Floor, oc_n, oc_t, im_Floor, if_pos (by simp)⟩
      · cases h'; exact ⟨⟨pg_Hall, hd_Hall, po_Hall, sa_Hall⟩, ia_Hall, oc_n, oc_t, im_Hall, if_pos (by simp)⟩
      · cases h'; exact ⟨⟨pg_Spread, hd_Spread, po_Spread, sa_Spread⟩, ia_Spread, oc_n, oc_t, im_Spread, if_pos (by simp)⟩
    · rcases tEx_cases ea with rfl | rfl | rfl | rfl | rfl | rfl | rfl | rfl
      · rcases tEx_cases eh with rfl | rfl | rfl | rfl | rfl | rfl | rfl | rfl
        · rw [sx_NoBelt_NoBelt]
          exact PySem.W.exm_ref xb_NoBelt xh_NoBelt xt_NoBelt xs_NoBelt_NoBelt
        · rw [sx_NoBelt_NoName]
          exact PySem.W.exm_ref xb_NoName xh_NoName xt_NoName xs_NoBelt_NoName
        · rw [sx_NoBelt_NoRate]
          exact PySem.W.exm_ref xb_NoRate xh_NoRate xt_NoRate xs_NoBelt_NoRate
        · rw [sx_NoBelt_NoRoom]
          exact PySem.W.exm_ref xb_NoRoom xh_NoRoom xt_NoRoom xs_NoBelt_NoRoom
        · rw [sx_NoBelt_NoWork]
          exact PySem.W.exm_ref xb_NoWork xh_NoWork xt_NoWork xs_NoBelt_NoWork
        · rw [sx_NoBelt_RateError]
          exact PySem.W.exm_ref xb_RateError xh_RateError xt_RateError xs_NoBelt_RateError
        · rw [sx_NoBelt_TooMuch]
          exact PySem.W.exm_ref xb_TooMuch xh_TooMuch xt_TooMuch xs_NoBelt_TooMuch
        · rw [sx_NoBelt_Twice]
          exact PySem.W.exm_ref xb_Twice xh_Twice xt_Twice xs_NoBelt_Twice
      · rcases tEx_cases eh with rfl | rfl | rfl | rfl | rfl | rfl | rfl | rfl
        · rw [sx_NoName_NoBelt]
          exact PySem.W.exm_ref xb_NoBelt xh_NoBelt xt_NoBelt xs_NoName_NoBelt
        · rw [sx_NoName_NoName]
          exact PySem.W.exm_ref xb_NoName xh_NoName xt_NoName xs_NoName_NoName
        · rw [sx_NoName_NoRate]
          exact PySem.W.exm_ref xb_NoRate xh_NoRate xt_NoRate xs_NoName_NoRate
        · rw [sx_NoName_NoRoom]
          exact PySem.W.exm_ref xb_NoRoom xh_NoRoom xt_NoRoom xs_NoName_NoRoom
        · rw [sx_NoName_NoWork]
          exact PySem.W.exm_ref xb_NoWork xh_NoWork xt_NoWork xs_NoName_NoWork
        · rw [sx_NoName_RateError]
          exact PySem.W.exm_ref xb_RateError xh_RateError xt_RateError xs_NoName_RateError
        · rw [sx_NoName_TooMuch]
          exact PySem.W.exm_ref xb_TooMuch xh_TooMuch xt_TooMuch xs_NoName_TooMuch
        · rw [sx_NoName_Twice]
          exact PySem.W.exm_ref xb_Twice xh_Twice xt_Twice xs_NoName_Twice
      · rcases tEx_cases eh with rfl | rfl | rfl | rfl | rfl | rfl | rfl | rfl
        · rw [sx_NoRate_NoBelt]
          exact PySem.W.exm_ref xb_NoBelt xh_NoBelt xt_NoBelt xs_NoRate_NoBelt
        · rw [sx_NoRate_NoName]
          exact PySem.W.exm_ref xb_NoName xh_NoName xt_NoName xs_NoRate_NoName
        · rw [sx_NoRate_NoRate]
          exact PySem.W.exm_ref xb_NoRate xh_NoRate xt_NoRate xs_NoRate_NoRate
        · rw [sx_NoRate_NoRoom]
          exact PySem.W.exm_ref xb_NoRoom xh_NoRoom xt_NoRoom xs_NoRate_NoRoom
        · rw [sx_NoRate_NoWork]
          exact PySem.W.exm_ref xb_NoWork xh_NoWork xt_NoWork xs_NoRate_NoWork
        · rw [sx_NoRate_RateError]
          exact PySem.W.exm_ref xb_RateError xh_RateError xt_RateError xs_NoRate_RateError
        · rw [sx_NoRate_TooMuch]
          exact PySem.W.exm_ref xb_TooMuch xh_TooMuch xt_TooMuch xs_NoRate_TooMuch
        · rw [sx_NoRate_Twice]
          exact PySem.W.exm_ref xb_Twice xh_Twice xt_Twice xs_NoRate_Twice
      · rcases tEx_cases eh with rfl | rfl | rfl | rfl | rfl | rfl | rfl | rfl
        · rw [sx_NoRoom_NoBelt]
          exact PySem.W.exm_ref xb_NoBelt xh_NoBelt xt_NoBelt xs_NoRoom_NoBelt
        · rw [sx_NoRoom_NoName]
          exact PySem.W.exm_ref xb_NoName xh_NoName xt_NoName xs_NoRoom_NoName
        · rw [sx_NoRoom_NoRate]
          exact PySem.W.exm_ref xb_NoRate xh_NoRate xt_NoRate xs_NoRoom_NoRate
        · rw [sx_NoRoom_NoRoom]
          exact PySem.W.exm_ref xb_NoRoom xh_NoRoom xt_NoRoom xs_NoRoom_NoRoom
        · rw [sx_NoRoom_NoWork]
          exact PySem.W.exm_ref xb_NoWork xh_NoWork xt_NoWork xs_NoRoom_NoWork
        · rw [sx_NoRoom_RateError]
          exact PySem.W.exm_ref xb_RateError xh_RateError xt_RateError xs_NoRoom_RateError
        · rw [sx_NoRoom_TooMuch]
          exact PySem.W.exm_ref xb_TooMuch xh_TooMuch xt_TooMuch xs_NoRoom_TooMuch
        · rw [sx_NoRoom_Twice]
          exact PySem.W.exm_ref xb_Twice xh_Twice xt_Twice xs_NoRoom_Twice
      · rcases tEx_cases eh with rfl | rfl | rfl | rfl | rfl | rfl | rfl | rfl
        · rw [sx_NoWork_NoBelt]
          exact PySem.W.exm_ref xb_NoBelt xh_NoBelt xt_NoBelt xs_NoWork_NoBelt
        · rw [sx_NoWork_NoName]
          exact PySem.W.exm_ref xb_NoName xh_NoName xt_NoName xs_NoWork_NoName
        · rw [sx_NoWork_NoRate]
          exact PySem.W.exm_ref xb_NoRate xh_NoRate xt_NoRate xs_NoWork_NoRate
        · rw [sx_NoWork_NoRoom]
          exact PySem.W.exm_ref xb_NoRoom xh_NoRoom xt_NoRoom xs_NoWork_NoRoom
        · rw [sx_NoWork_NoWork]
          exact PySem.W.exm_ref xb_NoWork xh_NoWork xt_NoWork xs_NoWork_NoWork
        · rw [sx_NoWork_RateError]
          exact PySem.W.exm_ref xb_RateError xh_RateError xt_RateError xs_NoWork_RateError
        · rw [sx_NoWork_TooMuch]
          exact PySem.W.exm_ref xb_TooMuch xh_TooMuch xt_TooMuch xs_NoWork_TooMuch
        · rw [sx_NoWork_Twice]
          exact PySem.W.exm_ref xb_Twice xh_Twice xt_Twice xs_NoWork_Twice
      · rcases tEx_cases eh with rfl | rfl | rfl | rfl | rfl | rfl | rfl | rfl
        · rw [sx_RateError_NoBelt]
          exact PySem.W.exm_ref xb_NoBelt xh_NoBelt xt_NoBelt xs_RateError_NoBelt
        · rw [sx_RateError_NoName]
          exact PySem.W.exm_ref xb_NoName xh_NoName xt_NoName xs_RateError_NoName
        · rw [sx_RateError_NoRate]
          exact PySem.W.exm_ref xb_NoRate xh_NoRate xt_NoRate xs_RateError_NoRate
        · rw [sx_RateError_NoRoom]
          exact PySem.W.exm_ref xb_NoRoom xh_NoRoom xt_NoRoom xs_RateError_NoRoom
        · rw [sx_RateError_NoWork]
          exact PySem.W.exm_ref xb_NoWork xh_NoWork xt_NoWork xs_RateError_NoWork
        · rw [sx_RateError_RateError]
          exact PySem.W.exm_ref xb_RateError xh_RateError xt_RateError xs_RateError_RateError
        · rw [sx_RateError_TooMuch]
          exact PySem.W.exm_ref xb_TooMuch xh_TooMuch xt_TooMuch xs_RateError_TooMuch
        · rw [sx_RateError_Twice]
          exact PySem.W.exm_ref xb_Twice xh_Twice xt_Twice xs_RateError_Twice
      · rcases tEx_cases eh with rfl | rfl | rfl | rfl | rfl | rfl | rfl | rfl
        · rw [sx_TooMuch_NoBelt]
          exact PySem.W.exm_ref xb_NoBelt xh_NoBelt xt_NoBelt xs_TooMuch_NoBelt
        · rw [sx_TooMuch_NoName]
          exact PySem.W.exm_ref xb_NoName xh_NoName xt_NoName xs_TooMuch_NoName
        · rw [sx_TooMuch_NoRate]
          exact PySem.W.exm_ref xb_NoRate xh_NoRate xt_NoRate xs_TooMuch_NoRate
        · rw [sx_TooMuch_NoRoom]
          exact PySem.W.exm_ref xb_NoRoom xh_NoRoom xt_NoRoom xs_TooMuch_NoRoom
        · rw [sx_TooMuch_NoWork]
          exact PySem.W.exm_ref xb_NoWork xh_NoWork xt_NoWork xs_TooMuch_NoWork
        · rw [sx_TooMuch_RateError]
          exact PySem.W.exm_ref xb_RateError xh_RateError xt_RateError xs_TooMuch_RateError
        · rw [sx_TooMuch_TooMuch]
          exact PySem.W.exm_ref xb_TooMuch xh_TooMuch xt_TooMuch xs_TooMuch_TooMuch
        · rw [sx_TooMuch_Twice]
          exact PySem.W.exm_ref xb_Twice xh_Twice xt_Twice xs_TooMuch_Twice
      · rcases tEx_cases eh with rfl | rfl | rfl | rfl | rfl | rfl | rfl | rfl
        · rw [sx_Twice_NoBelt]
          exact PySem.W.exm_ref xb_NoBelt xh_NoBelt xt_NoBelt xs_Twice_NoBelt
        · rw [sx_Twice_NoName]
          exact PySem.W.exm_ref xb_NoName xh_NoName xt_NoName xs_Twice_NoName
        · rw [sx_Twice_NoRate]
          exact PySem.W.exm_ref xb_NoRate xh_NoRate xt_NoRate xs_Twice_NoRate
        · rw [sx_Twice_NoRoom]
          exact PySem.W.exm_ref xb_NoRoom xh_NoRoom xt_NoRoom xs_Twice_NoRoom
        · rw [sx_Twice_NoWork]
          exact PySem.W.exm_ref xb_NoWork xh_NoWork xt_NoWork xs_Twice_NoWork
        · rw [sx_Twice_RateError]
          exact PySem.W.exm_ref xb_RateError xh_RateError xt_RateError xs_Twice_RateError
        · rw [sx_Twice_TooMuch]
          exact PySem.W.exm_ref xb_TooMuch xh_TooMuch xt_TooMuch xs_Twice_TooMuch
        · rw [sx_Twice_Twice]
          exact PySem.W.exm_ref xb_Twice xh_Twice xt_Twice xs_Twice_Twice
  have k0 : GOk G Γ L 1 l.prog w K mg base := skip g0 fun k h1 h2 => skip_0 k h1 h2
  have g1 : GOk G Γ L 2 l.prog w K mg base := step tabOk k0 rfl chk_is_ready D_is_ready (body_is_ready ⟨trivial⟩) (fun _ => mgo a_is_ready) (fun _ h => nomatch h)
  have k1 : GOk G Γ L 7 l.prog w K mg base := skip g1 fun k h1 h2 => skip_1 k h1 h2
  have g2 : GOk G Γ L 8 l.prog w K mg base := step tabOk k1 rfl chk_Hall_init D_Hall_init (body_Hall_init ⟨trivial⟩) (fun h => nomatch h) (fun c h => by cases h; exact ⟨a_Hall_init, i_f_Hall_init, k_f_Hall_init⟩)
  have k2 : GOk G Γ L 9 l.prog w K mg base := skip g2 fun k h1 h2 => skip_2 k h1 h2
  have g3 : GOk G Γ L 10 l.prog w K mg base := step tabOk k2 rfl chk_Hall_names D_Hall_names (body_Hall_names ⟨trivial⟩) (fun h => nomatch h) (fun c h => by cases h; exact ⟨a_Hall_names, i_f_Hall_names, k_f_Hall_names⟩)
  have g4 : GOk G Γ L 11 l.prog w K mg base := step tabOk g3 rfl chk_Hall_belts D_Hall_belts (body_Hall_belts ⟨trivial⟩) (fun h => nomatch h) (fun c h => by cases h; exact ⟨a_Hall_belts, i_f_Hall_belts, k_f_Hall_belts⟩)
  have g5 : GOk G Γ L 12 l.prog w K mg base := step tabOk g4 rfl chk_Spread_init D_Spread_init (body_Spread_init ⟨trivial⟩) (fun h => nomatch h) (fun c h => by cases h; exact ⟨a_Spread_init, i_f_Spread_init, k_f_Spread_init⟩)
  have g6 : GOk G Γ L 13 l.prog w K mg base := step tabOk g5 rfl chk_divisor D_divisor (body_divisor ⟨trivial⟩) (fun _ => mgo a_divisor) (fun _ h => nomatch h)
  have g7 : GOk G Γ L 14 l.prog w K mg base := step tabOk g6 rfl chk_ratio D_ratio (body_ratio ⟨rfl, rfl⟩) (fun _ => mgo a_ratio) (fun _ h => nomatch h)
  have g8 : GOk G Γ L 15 l.prog w K mg base := step tabOk g7 rfl chk_times D_times (body_times ⟨rfl, rfl⟩) (fun _ => mgo a_times) (fun _ h => nomatch h)
  have g9 : GOk G Γ L 16 l.prog w K mg base := step tabOk g8 rfl chk_Spread_odd_belt D_Spread_odd_belt (body_Spread_odd_belt ⟨rfl, rfl, rfl, rfl⟩) (fun h => nomatch h) (fun c h => by cases h; exact ⟨a_Spread_odd_belt, i_f_Spread_odd_belt, k_f_Spread_odd_belt⟩)
  have g10 : GOk G Γ L 17 l.prog w K mg base := step tabOk g9 rfl chk_Spread_ring_by D_Spread_ring_by (body_Spread_ring_by ⟨trivial⟩) (fun h => nomatch h) (fun c h => by cases h; exact ⟨a_Spread_ring_by, i_f_Spread_ring_by, k_f_Spread_ring_by⟩)
  have g11 : GOk G Γ L 18 l.prog w K mg base := step tabOk g10 rfl chk_Spread_come_to D_Spread_come_to (body_Spread_come_to ⟨rfl, rfl⟩) (fun h => nomatch h) (fun c h => by cases h; exact ⟨a_Spread_come_to, i_f_Spread_come_to, k_f_Spread_come_to⟩)
  have g12 : GOk G Γ L 19 l.prog w K mg base := step tabOk g11 rfl chk_Spread_walk_from D_Spread_walk_from (body_Spread_walk_from ⟨rfl, rfl, rfl, rfl⟩) (fun h => nomatch h) (fun c h => by cases h; exact ⟨a_Spread_walk_from, i_f_Spread_walk_from, k_f_Spread_walk_from⟩)
  have g13 : GOk G Γ L 20 l.prog w K mg base := step tabOk g12 rfl chk_reached D_reached (body_reached ⟨trivial⟩) (fun _ => mgo a_reached) (fun _ h => nomatch h)
  have g14 : GOk G Γ L 21 l.prog w K mg base := step tabOk g13 rfl chk_pieces_of D_pieces_of (body_pieces_of ⟨rfl, rfl, rfl, rfl, rfl, rfl⟩) (fun _ => mgo a_pieces_of) (fun _ h => nomatch h)
  have g15 : GOk G Γ L 22 l.prog w K mg base := step tabOk g14 rfl chk_multiple D_multiple (body_multiple ⟨rfl, rfl⟩) (fun _ => mgo a_multiple) (fun _ h => nomatch h)
  have g16 : GOk G Γ L 23 l.prog w K mg base := step tabOk g15 rfl chk_whole_rates D_whole_rates (body_whole_rates ⟨rfl, rfl, rfl, rfl⟩) (fun _ => mgo a_whole_rates) (fun _ h => nomatch h)
  have g17 : GOk G Γ L 24 l.prog w K mg base := step tabOk g16 rfl chk_rates_of D_rates_of (body_rates_of ⟨rfl, rfl, rfl, rfl, rfl, rfl, rfl, rfl, rfl, rfl, rfl, rfl, rfl, rfl, rfl, rfl, rfl⟩) (fun _ => mgo a_rates_of) (fun _ h => nomatch h)
  have k17 : GOk G Γ L 28 l.prog w K mg base := skip g17 fun k h1 h2 => skip_17 k h1 h2
  have g18 : GOk G Γ L 29 l.prog w K mg base := step tabOk k17 rfl chk_Hall_belt_at D_Hall_belt_at (body_Hall_belt_at ⟨trivial⟩) (fun h => nomatch h) (fun c h => by cases h; exact ⟨a_Hall_belt_at, i_f_Hall_belt_at, k_f_Hall_belt_at⟩)
  have g19 : GOk G Γ L 30 l.prog w K mg base := step tabOk g18 rfl chk_Hall_lay D_Hall_lay (body_Hall_lay ⟨trivial⟩) (fun h => nomatch h) (fun c h => by cases h; exact ⟨a_Hall_lay, i_f_Hall_lay, k_f_Hall_lay⟩)
  have g20 : GOk G Γ L 31 l.prog w K mg base := step tabOk g19 rfl chk_is_name D_is_name (body_is_name ⟨rfl⟩) (fun _ => mgo a_is_name) (fun _ h => nomatch h)
  have g21 : GOk G Γ L 32 l.prog w K mg base := step tabOk g20 rfl chk_Hall_work D_Hall_work (body_Hall_work ⟨rfl, rfl, rfl⟩) (fun h => nomatch h) (fun c h => by cases h; exact ⟨a_Hall_work, i_f_Hall_work, k_f_Hall_work⟩)
  have g22 : GOk G Γ L 33 l.prog w K mg base := step tabOk g21 rfl chk_backed D_backed (body_backed ⟨rfl, rfl, rfl, rfl, rfl, rfl, rfl, rfl, rfl, rfl, rfl⟩) (fun _ => mgo a_backed) (fun _ h => nomatch h)
  have k22 : GOk G Γ L 38 l.prog w K mg base := skip g22 fun k h1 h2 => skip_22 k h1 h2
  have g23 : GOk G Γ L 39 l.prog w K mg base := step tabOk k22 rfl chk_Floor_init D_Floor_init (body_Floor_init ⟨rfl, rfl, rfl, rfl⟩) (fun h => nomatch h) (fun c h => by cases h; exact ⟨a_Floor_init, i_f_Floor_init, k_f_Floor_init⟩)
  have g24 : GOk G Γ L 40 l.prog w K mg base := step tabOk g23 rfl chk_Floor_need_work D_Floor_need_work (body_Floor_need_work ⟨trivial⟩) (fun h => nomatch h) (fun c h => by cases h; exact ⟨a_Floor_need_work, i_f_Floor_need_work, k_f_Floor_need_work⟩)
  have k24 : GOk G Γ L 41 l.prog w K mg base := skip g24 fun k h1 h2 => skip_24 k h1 h2
  have g25 : GOk G Γ L 42 l.prog w K mg base := step tabOk k24 rfl chk_Floor_lying D_Floor_lying (body_Floor_lying ⟨trivial⟩) (fun h => nomatch h) (fun c h => by cases h; exact ⟨a_Floor_lying, i_f_Floor_lying, k_f_Floor_lying⟩)
  have k25 : GOk G Γ L 43 l.prog w K mg base := skip g25 fun k h1 h2 => skip_25 k h1 h2
  have g26 : GOk G Γ L 44 l.prog w K mg base := step tabOk k25 rfl chk_Hall_need D_Hall_need (body_Hall_need ⟨trivial⟩) (fun h => nomatch h) (fun c h => by cases h; exact ⟨a_Hall_need, i_f_Hall_need, k_f_Hall_need⟩)
  have g27 : GOk G Γ L 45 l.prog w K mg base := step tabOk g26 rfl chk_Hall_leaving D_Hall_leaving (body_Hall_leaving ⟨rfl, rfl⟩) (fun h => nomatch h) (fun c h => by cases h; exact ⟨a_Hall_leaving, i_f_Hall_leaving, k_f_Hall_leaving⟩)
  have k27 : GOk G Γ L 55 l.prog w K mg base := skip g27 fun k h1 h2 => skip_27 k h1 h2
  have g28 : GOk G Γ L 56 l.prog w K mg base := step tabOk k27 rfl chk_Floor_ready D_Floor_ready (body_Floor_ready ⟨rfl, rfl, rfl, rfl⟩) (fun h => nomatch h) (fun c h => by cases h; exact ⟨a_Floor_ready, i_f_Floor_ready, k_f_Floor_ready⟩)
  have g29 : GOk G Γ L 57 l.prog w K mg base := step tabOk g28 rfl chk_Hall_belt D_Hall_belt (body_Hall_belt ⟨rfl, rfl, rfl, rfl, rfl⟩) (fun h => nomatch h) (fun c h => by cases h; exact ⟨a_Hall_belt, i_f_Hall_belt, k_f_Hall_belt⟩)
  have k29 : GOk G Γ L 66 l.prog w K mg base := skip g29 fun k h1 h2 => skip_29 k h1 h2
  have g30 : GOk G Γ L 67 l.prog w K mg base := step tabOk k29 rfl chk_Hall_entering D_Hall_entering (body_Hall_entering ⟨rfl, rfl⟩) (fun h => nomatch h) (fun c h => by cases h; exact ⟨a_Hall_entering, i_f_Hall_entering, k_f_Hall_entering⟩)
  have k30 : GOk G Γ L 88 l.prog w K mg base := skip g30 fun k h1 h2 => skip_30 k h1 h2
  have g31 : GOk G Γ L 89 l.prog w K mg base := step tabOk k30 rfl chk_Hall_fill D_Hall_fill (body_Hall_fill ⟨rfl, rfl⟩) (fun h => nomatch h) (fun c h => by cases h; exact ⟨a_Hall_fill, i_f_Hall_fill, k_f_Hall_fill⟩)
  have k31 : GOk G Γ L 1000 l.prog w K mg base := skip g31 fun k h1 h2 => skip_31 k h1 h2
  have g32 : GOk G Γ L 1001 l.prog w K mg base := step tabOk k31 rfl chk__law_cell D__law_cell (body__law_cell ⟨trivial⟩) (fun _ => mgo a__law_cell) (fun _ h => nomatch h)
  have g33 : GOk G Γ L 1002 l.prog w K mg base := step tabOk g32 rfl chk__law_is_ready D__law_is_ready (body__law_is_ready ⟨trivial⟩) (fun _ => mgo a__law_is_ready) (fun _ h => nomatch h)
  have g34 : GOk G Γ L 1003 l.prog w K mg base := step tabOk g33 rfl chk__law_pieces D__law_pieces (body__law_pieces ⟨trivial⟩) (fun _ => mgo a__law_pieces) (fun _ h => nomatch h)
  have g35 : GOk G Γ L 1004 l.prog w K mg base := step tabOk g34 rfl chk__law_hall_like D__law_hall_like (body__law_hall_like ⟨rfl, rfl, rfl, rfl, rfl, rfl, rfl, rfl, rfl, rfl, rfl, rfl, rfl, rfl, rfl, rfl, rfl, rfl, rfl⟩) (fun _ => mgo a__law_hall_like) (fun _ h => nomatch h)
  have g36 : GOk G Γ L 1005 l.prog w K mg base := step tabOk g35 rfl chk__law_mix D__law_mix (body__law_mix ⟨trivial⟩) (fun _ => mgo a__law_mix) (fun _ h => nomatch h)
  have g37 : GOk G Γ L 1006 l.prog w K mg base := step tabOk g36 rfl chk__law_lines D__law_lines (body__law_lines ⟨rfl, rfl, rfl, rfl⟩) (fun _ => mgo a__law_lines) (fun _ h => nomatch h)
  have g38 : GOk G Γ L 1007 l.prog w K mg base := step tabOk g37 rfl chk__law_made D__law_made (body__law_made ⟨rfl, rfl, rfl, rfl, rfl, rfl, rfl⟩) (fun _ => mgo a__law_made) (fun _ h => nomatch h)
  have g39 : GOk G Γ L 1008 l.prog w K mg base := step tabOk g38 rfl chk__law_refused D__law_refused (body__law_refused ⟨rfl, rfl, rfl, rfl, rfl, rfl, rfl, rfl, rfl, rfl⟩) (fun _ => mgo a__law_refused) (fun _ h => nomatch h)
  have g40 : GOk G Γ L 1009 l.prog w K mg base := step tabOk g39 rfl chk__law_spoilt D__law_spoilt (body__law_spoilt ⟨rfl, rfl, rfl, rfl⟩) (fun _ => mgo a__law_spoilt) (fun _ h => nomatch h)
  have g41 : GOk G Γ L 1010 l.prog w K mg base := step tabOk g40 rfl chk__law_with_back D__law_with_back (body__law_with_back ⟨trivial⟩) (fun _ => mgo a__law_with_back) (fun _ h => nomatch h)
  exact fn_okD tabOk.hcl tabOk.hfl l_law c_f_law chk_law.S chk_law.np chk_law.ck g41 (body_law ⟨rfl, rfl, rfl, rfl, rfl, rfl, rfl, rfl, rfl, rfl, rfl, rfl, rfl, rfl, rfl, rfl, rfl, rfl, rfl, rfl, rfl, rfl, rfl, rfl, rfl, rfl, rfl, rfl, rfl, rfl, rfl, rfl⟩)

end Lw
theorem PySem.Challenge.cw_ratehall_k16_backed_halls_holds : PySem.Challenge.rw_ratehall_k16_backed_halls.Holds := by
  w_on; o_law; k_head; (case hw => w_witness2)
  k_fill
  refine Rh.walkT (l := PySem.Challenge.rw_ratehall_k16_backed_halls) (k := 7) (x := "_law_script") rfl rfl ⟨rfl, by decide, by decide⟩ (fun w h Y => PySem.W.kIn_of Y) ?F
  case F =>
    intro w mg fa h KX G hmg
    refine' Lw.all_mk KX G hmg ?n_Floor ?pg_Floor ?hd_Floor ?po_Floor ?sa_Floor ?mk_Floor ?kc_Floor ?na_Floor_lines ?na_Floor_many ?na_Floor_heap ?n_Hall ?pg_Hall ?hd_Hall ?po_Hall ?sa_Hall ?mk_Hall ?kc_Hall ?na_Hall_called ?na_Hall_lines ?n_Spread ?pg_Spread ?hd_Spread ?po_Spread ?sa_Spread ?mk_Spread ?kc_Spread ?na_Spread_lines ?na_Spread_ratios ?na_Spread_ways ?x_NoBelt ?xx_NoBelt ?xk_NoBelt ?xb_NoBelt ?xh_NoBelt ?xt_NoBelt ?x_NoName ?xx_NoName ?xk_NoName ?xb_NoName ?xh_NoName ?xt_NoName ?x_NoRate ?xx_NoRate ?xk_NoRate ?xb_NoRate ?xh_NoRate ?xt_NoRate ?x_NoRoom ?xx_NoRoom ?xk_NoRoom ?xb_NoRoom ?xh_NoRoom ?xt_NoRoom ?x_NoWork ?xx_NoWork ?xk_NoWork ?xb_NoWork ?xh_NoWork ?xt_NoWork ?x_RateError ?xx_RateError ?xk_RateError ?xb_RateError ?xh_RateError ?xt_RateError ?x_TooMuch ?xx_TooMuch ?xk_TooMuch ?xb_TooMuch ?xh_TooMuch ?xt_TooMuch ?x_Twice ?xx_Twice ?xk_Twice ?xb_Twice ?xh_Twice ?xt_Twice ?xs_NoBelt_NoBelt ?xs_NoBelt_NoName ?xs_NoBelt_NoRate ?xs_NoBelt_NoRoom ?xs_NoBelt_NoWork ?xs_NoBelt_RateError ?xs_NoBelt_TooMuch ?xs_NoBelt_Twice ?xs_NoName_NoBelt ?xs_NoName_NoName ?xs_NoName_NoRate ?xs_NoName_NoRoom ?xs_NoName_NoWork ?xs_NoName_RateError ?xs_NoName_TooMuch ?xs_NoName_Twice ?xs_NoRate_NoBelt ?xs_NoRate_NoName ?xs_NoRate_NoRate ?xs_NoRate_NoRoom ?xs_NoRate_NoWork ?xs_NoRate_RateError ?xs_NoRate_TooMuch ?xs_NoRate_Twice ?xs_NoRoom_NoBelt ?xs_NoRoom_NoName ?xs_NoRoom_NoRate ?xs_NoRoom_NoRoom ?xs_NoRoom_NoWork ?xs_NoRoom_RateError ?xs_NoRoom_TooMuch ?xs_NoRoom_Twice ?xs_NoWork_NoBelt ?xs_NoWork_NoName ?xs_NoWork_NoRate ?xs_NoWork_NoRoom ?xs_NoWork_NoWork ?xs_NoWork_RateError ?xs_NoWork_TooMuch ?xs_NoWork_Twice ?xs_RateError_NoBelt ?xs_RateError_NoName ?xs_RateError_NoRate ?xs_RateError_NoRoom ?xs_RateError_NoWork ?xs_RateError_RateError ?xs_RateError_TooMuch ?xs_RateError_Twice ?xs_TooMuch_NoBelt ?xs_TooMuch_NoName ?xs_TooMuch_NoRate ?xs_TooMuch_NoRoom ?xs_TooMuch_NoWork ?xs_TooMuch_RateError ?xs_TooMuch_TooMuch ?xs_TooMuch_Twice ?xs_Twice_NoBelt ?xs_Twice_NoName ?xs_Twice_NoRate ?xs_Twice_NoRoom ?xs_Twice_NoWork ?xs_Twice_RateError ?xs_Twice_TooMuch ?xs_Twice_Twice ?oc_n ?oc_t ?ia_Floor ?im_Floor ?ia_Hall ?im_Hall ?ia_Spread ?im_Spread ?xv_NoBelt ?eg_NoBelt ?ek_NoBelt ?ec_NoBelt ?em_NoBelt ?xv_NoName ?eg_NoName ?ek_NoName ?ec_NoName ?em_NoName ?xv_NoRate ?eg_NoRate ?ek_NoRate ?ec_NoRate ?em_NoRate ?xv_NoRoom ?eg_NoRoom ?ek_NoRoom ?ec_NoRoom ?em_NoRoom ?xv_NoWork ?eg_NoWork ?ek_NoWork ?ec_NoWork ?em_NoWork ?xv_RateError ?eg_RateError ?ek_RateError ?ec_RateError ?em_RateError ?xv_TooMuch ?eg_TooMuch ?ek_TooMuch ?ec_TooMuch ?em_TooMuch ?xv_Twice ?eg_Twice ?ek_Twice ?ec_Twice ?em_Twice ?g_LETTERS ?g_MOST_BELTS ?g_MOST_WORKS ?b_len ?b_sum ?b_max ?b_min ?b_list ?b_tuple ?b_sorted ?b_all ?b_any ?b_str ?b_int ?b_bool ?b_dict ?b_isinstance ?b_range ?b_enumerate ?b_zip ?b_reversed ?b_ValueError ?b_set ?a_is_ready ?l_is_ready ?c_f_is_ready ?k_f_is_ready ?a_Hall_init ?i_f_Hall_init ?l_Hall_init ?c_f_Hall_init ?k_f_Hall_init ?a_Hall_names ?i_f_Hall_names ?l_Hall_names ?c_f_Hall_names ?k_f_Hall_names ?a_Hall_belts ?i_f_Hall_belts ?l_Hall_belts ?c_f_Hall_belts ?k_f_Hall_belts ?a_Spread_init ?i_f_Spread_init ?l_Spread_init ?c_f_Spread_init ?k_f_Spread_init ?a_divisor ?l_divisor ?c_f_divisor ?k_f_divisor ?a_ratio ?l_ratio ?c_f_ratio ?k_f_ratio ?a_times ?l_times ?c_f_times ?k_f_times ?a_Spread_odd_belt ?i_f_Spread_odd_belt ?l_Spread_odd_belt ?c_f_Spread_odd_belt ?k_f_Spread_odd_belt ?a_Spread_ring_by ?i_f_Spread_ring_by ?l_Spread_ring_by ?c_f_Spread_ring_by ?k_f_Spread_ring_by ?a_Spread_come_to ?i_f_Spread_come_to ?l_Spread_come_to ?c_f_Spread_come_to ?k_f_Spread_come_to ?a_Spread_walk_from ?i_f_Spread_walk_from ?l_Spread_walk_from ?c_f_Spread_walk_from ?k_f_Spread_walk_from ?a_reached ?l_reached ?c_f_reached ?k_f_reached ?a_pieces_of ?l_pieces_of ?c_f_pieces_of ?k_f_pieces_of ?a_multiple ?l_multiple ?c_f_multiple ?k_f_multiple ?a_whole_rates ?l_whole_rates ?c_f_whole_rates ?k_f_whole_rates ?a_rates_of ?l_rates_of ?c_f_rates_of ?k_f_rates_of ?a_Hall_belt_at ?i_f_Hall_belt_at ?l_Hall_belt_at ?c_f_Hall_belt_at ?k_f_Hall_belt_at ?a_Hall_lay ?i_f_Hall_lay ?l_Hall_lay ?c_f_Hall_lay ?k_f_Hall_lay ?a_is_name ?l_is_name ?c_f_is_name ?k_f_is_name ?a_Hall_work ?i_f_Hall_work ?l_Hall_work ?c_f_Hall_work ?k_f_Hall_work ?a_backed ?l_backed ?c_f_backed ?k_f_backed ?a_Floor_init ?i_f_Floor_init ?l_Floor_init ?c_f_Floor_init ?k_f_Floor_init ?a_Floor_need_work ?i_f_Floor_need_work ?l_Floor_need_work ?c_f_Floor_need_work ?k_f_Floor_need_work ?a_Floor_lying ?i_f_Floor_lying ?l_Floor_lying ?c_f_Floor_lying ?k_f_Floor_lying ?a_Hall_need ?i_f_Hall_need ?l_Hall_need ?c_f_Hall_need ?k_f_Hall_need ?a_Hall_leaving ?i_f_Hall_leaving ?l_Hall_leaving ?c_f_Hall_leaving ?k_f_Hall_leaving ?a_Floor_ready ?i_f_Floor_ready ?l_Floor_ready ?c_f_Floor_ready ?k_f_Floor_ready ?a_Hall_belt ?i_f_Hall_belt ?l_Hall_belt ?c_f_Hall_belt ?k_f_Hall_belt ?t_Hall_belt ?a_Hall_entering ?i_f_Hall_entering ?l_Hall_entering ?c_f_Hall_entering ?k_f_Hall_entering ?a_Hall_fill ?i_f_Hall_fill ?l_Hall_fill ?c_f_Hall_fill ?k_f_Hall_fill ?a__law_cell ?l__law_cell ?c_f__law_cell ?k_f__law_cell ?a__law_is_ready ?l__law_is_ready ?c_f__law_is_ready ?k_f__law_is_ready ?a__law_pieces ?l__law_pieces ?c_f__law_pieces ?k_f__law_pieces ?a__law_hall_like ?l__law_hall_like ?c_f__law_hall_like ?k_f__law_hall_like ?a__law_mix ?l__law_mix ?c_f__law_mix ?k_f__law_mix ?a__law_lines ?l__law_lines ?c_f__law_lines ?k_f__law_lines ?a__law_made ?l__law_made ?c_f__law_made ?k_f__law_made ?a__law_refused ?l__law_refused ?c_f__law_refused ?k_f__law_refused ?a__law_spoilt ?l__law_spoilt ?c_f__law_spoilt ?k_f__law_spoilt ?a__law_with_back ?l__law_with_back ?c_f__law_with_back ?k_f__law_with_back ?a_law ?l_law ?c_f_law ?k_f_law
    (case n_Floor => k_is)
    (case pg_Floor => k_is)
    (case hd_Floor => k_is)
    (case po_Floor => k_is)
    (case sa_Floor => k_is)
    (case mk_Floor => k_is)
    (case kc_Floor => k_is)
    (case na_Floor_lines => k_is)
    (case na_Floor_many => k_is)
    (case na_Floor_heap => k_is)
    (case n_Hall => k_is)
    (case pg_Hall => k_is)
    (case hd_Hall => k_is)
    (case po_Hall => k_is)
    (case sa_Hall => k_is)
    (case mk_Hall => k_is)
    (case kc_Hall => k_is)
    (case na_Hall_called => k_is)
    (case na_Hall_lines => k_is)
    (case n_Spread => k_is)
    (case pg_Spread => k_is)
    (case hd_Spread => k_is)
    (case po_Spread => k_is)
    (case sa_Spread => k_is)
    (case mk_Spread => k_is)
    (case kc_Spread => k_is)
    (case na_Spread_lines => k_is)
    (case na_Spread_ratios => k_is)
    (case na_Spread_ways => k_is)
    (case x_NoBelt => k_is)
    (case xx_NoBelt => k_exc)
    (case xk_NoBelt => k_is)
    (case xb_NoBelt => k_is)
    (case xh_NoBelt => k_is)
    (case xt_NoBelt => k_is)
    (case x_NoName => k_is)
    (case xx_NoName => k_exc)
    (case xk_NoName => k_is)
    (case xb_NoName => k_is)
    (case xh_NoName => k_is)
    (case xt_NoName => k_is)
    (case x_NoRate => k_is)
    (case xx_NoRate => k_exc)
    (case xk_NoRate => k_is)
    (case xb_NoRate => k_is)
    (case xh_NoRate => k_is)
    (case xt_NoRate => k_is)
    (case x_NoRoom => k_is)
    (case xx_NoRoom => k_exc)
    (case xk_NoRoom => k_is)
    (case xb_NoRoom => k_is)
    (case xh_NoRoom => k_is)
    (case xt_NoRoom => k_is)
    (case x_NoWork => k_is)
    (case xx_NoWork => k_exc)
    (case xk_NoWork => k_is)
    (case xb_NoWork => k_is)
    (case xh_NoWork => k_is)
    (case xt_NoWork => k_is)
    (case x_RateError => k_is)
    (case xx_RateError => k_exc)
    (case xk_RateError => k_is)
    (case xb_RateError => k_is)
    (case xh_RateError => k_is)
    (case xt_RateError => k_is)
    (case x_TooMuch => k_is)
    (case xx_TooMuch => k_exc)
    (case xk_TooMuch => k_is)
    (case xb_TooMuch => k_is)
    (case xh_TooMuch => k_is)
    (case xt_TooMuch => k_is)
    (case x_Twice => k_is)
    (case xx_Twice => k_exc)
    (case xk_Twice => k_is)
    (case xb_Twice => k_is)
    (case xh_Twice => k_is)
    (case xt_Twice => k_is)
    (case xs_NoBelt_NoBelt => k_is)
    (case xs_NoBelt_NoName => k_is)
    (case xs_NoBelt_NoRate => k_is)
    (case xs_NoBelt_NoRoom => k_is)
    (case xs_NoBelt_NoWork => k_is)
    (case xs_NoBelt_RateError => k_is)
    (case xs_NoBelt_TooMuch => k_is)
    (case xs_NoBelt_Twice => k_is)
    (case xs_NoName_NoBelt => k_is)
    (case xs_NoName_NoName => k_is)
    (case xs_NoName_NoRate => k_is)
    (case xs_NoName_NoRoom => k_is)
    (case xs_NoName_NoWork => k_is)
    (case xs_NoName_RateError => k_is)
    (case xs_NoName_TooMuch => k_is)
    (case xs_NoName_Twice => k_is)
    (case xs_NoRate_NoBelt => k_is)
    (case xs_NoRate_NoName => k_is)
    (case xs_NoRate_NoRate => k_is)
    (case xs_NoRate_NoRoom => k_is)
    (case xs_NoRate_NoWork => k_is)
    (case xs_NoRate_RateError => k_is)
    (case xs_NoRate_TooMuch => k_is)
    (case xs_NoRate_Twice => k_is)
    (case xs_NoRoom_NoBelt => k_is)
    (case xs_NoRoom_NoName => k_is)
    (case xs_NoRoom_NoRate => k_is)
    (case xs_NoRoom_NoRoom => k_is)
    (case xs_NoRoom_NoWork => k_is)
    (case xs_NoRoom_RateError => k_is)
    (case xs_NoRoom_TooMuch => k_is)
    (case xs_NoRoom_Twice => k_is)
    (case xs_NoWork_NoBelt => k_is)
    (case xs_NoWork_NoName => k_is)
    (case xs_NoWork_NoRate => k_is)
    (case xs_NoWork_NoRoom => k_is)
    (case xs_NoWork_NoWork => k_is)
    (case xs_NoWork_RateError => k_is)
    (case xs_NoWork_TooMuch => k_is)
    (case xs_NoWork_Twice => k_is)
    (case xs_RateError_NoBelt => k_is)
    (case xs_RateError_NoName => k_is)
    (case xs_RateError_NoRate => k_is)
    (case xs_RateError_NoRoom => k_is)
    (case xs_RateError_NoWork => k_is)
    (case xs_RateError_RateError => k_is)
    (case xs_RateError_TooMuch => k_is)
    (case xs_RateError_Twice => k_is)
    (case xs_TooMuch_NoBelt => k_is)
    (case xs_TooMuch_NoName => k_is)
    (case xs_TooMuch_NoRate => k_is)
    (case xs_TooMuch_NoRoom => k_is)
    (case xs_TooMuch_NoWork => k_is)
    (case xs_TooMuch_RateError => k_is)
    (case xs_TooMuch_TooMuch => k_is)
    (case xs_TooMuch_Twice => k_is)
    (case xs_Twice_NoBelt => k_is)
    (case xs_Twice_NoName => k_is)
    (case xs_Twice_NoRate => k_is)
    (case xs_Twice_NoRoom => k_is)
    (case xs_Twice_NoWork => k_is)
    (case xs_Twice_RateError => k_is)
    (case xs_Twice_TooMuch => k_is)
    (case xs_Twice_Twice => k_is)
    (case oc_n => k_is)
    (case oc_t => k_is)
    (case ia_Floor => k_is)
    (case im_Floor => k_is)
    (case ia_Hall => k_is)
    (case im_Hall => k_is)
    (case ia_Spread => k_is)
    (case im_Spread => k_is)
    (case xv_NoBelt => k_is)
    (case eg_NoBelt => k_is)
    (case ek_NoBelt => k_is)
    (case ec_NoBelt => k_is)
    (case em_NoBelt => k_is)
    (case xv_NoName => k_is)
    (case eg_NoName => k_is)
    (case ek_NoName => k_is)
    (case ec_NoName => k_is)
    (case em_NoName => k_is)
    (case xv_NoRate => k_is)
    (case eg_NoRate => k_is)
    (case ek_NoRate => k_is)
    (case ec_NoRate => k_is)
    (case em_NoRate => k_is)
    (case xv_NoRoom => k_is)
    (case eg_NoRoom => k_is)
    (case ek_NoRoom => k_is)
    (case ec_NoRoom => k_is)
    (case em_NoRoom => k_is)
    (case xv_NoWork => k_is)
    (case eg_NoWork => k_is)
    (case ek_NoWork => k_is)
    (case ec_NoWork => k_is)
    (case em_NoWork => k_is)
    (case xv_RateError => k_is)
    (case eg_RateError => k_is)
    (case ek_RateError => k_is)
    (case ec_RateError => k_is)
    (case em_RateError => k_is)
    (case xv_TooMuch => k_is)
    (case eg_TooMuch => k_is)
    (case ek_TooMuch => k_is)
    (case ec_TooMuch => k_is)
    (case em_TooMuch => k_is)
    (case xv_Twice => k_is)
    (case eg_Twice => k_is)
    (case ek_Twice => k_is)
    (case ec_Twice => k_is)
    (case em_Twice => k_is)
    (case g_LETTERS => k_is)
    (case g_MOST_BELTS => k_is)
    (case g_MOST_WORKS => k_is)
    (case b_len => k_is)
    (case b_sum => k_is)
    (case b_max => k_is)
    (case b_min => k_is)
    (case b_list => k_is)
    (case b_tuple => k_is)
    (case b_sorted => k_is)
    (case b_all => k_is)
    (case b_any => k_is)
    (case b_str => k_is)
    (case b_int => k_is)
    (case b_bool => k_is)
    (case b_dict => k_is)
    (case b_isinstance => k_is)
    (case b_range => k_is)
    (case b_enumerate => k_is)
    (case b_zip => k_is)
    (case b_reversed => k_is)
    (case b_ValueError => k_is)
    (case b_set => k_is)
    (case a_is_ready => k_is)
    (case l_is_ready => k_is)
    (case c_f_is_ready => k_is)
    (case k_f_is_ready => k_is)
    (case a_Hall_init => k_is)
    (case i_f_Hall_init => k_is)
    (case l_Hall_init => k_is)
    (case c_f_Hall_init => k_is)
    (case k_f_Hall_init => k_is)
    (case a_Hall_names => k_is)
    (case i_f_Hall_names => k_is)
    (case l_Hall_names => k_is)
    (case c_f_Hall_names => k_is)
    (case k_f_Hall_names => k_is)
    (case a_Hall_belts => k_is)
    (case i_f_Hall_belts => k_is)
    (case l_Hall_belts => k_is)
    (case c_f_Hall_belts => k_is)
    (case k_f_Hall_belts => k_is)
    (case a_Spread_init => k_is)
    (case i_f_Spread_init => k_is)
    (case l_Spread_init => k_is)
    (case c_f_Spread_init => k_is)
    (case k_f_Spread_init => k_is)
    (case a_divisor => k_is)
    (case l_divisor => k_is)
    (case c_f_divisor => k_is)
    (case k_f_divisor => k_is)
    (case a_ratio => k_is)
    (case l_ratio => k_is)
    (case c_f_ratio => k_is)
    (case k_f_ratio => k_is)
    (case a_times => k_is)
    (case l_times => k_is)
    (case c_f_times => k_is)
    (case k_f_times => k_is)
    (case a_Spread_odd_belt => k_is)
    (case i_f_Spread_odd_belt => k_is)
    (case l_Spread_odd_belt => k_is)
    (case c_f_Spread_odd_belt => k_is)
    (case k_f_Spread_odd_belt => k_is)
    (case a_Spread_ring_by => k_is)
    (case i_f_Spread_ring_by => k_is)
    (case l_Spread_ring_by => k_is)
    (case c_f_Spread_ring_by => k_is)
    (case k_f_Spread_ring_by => k_is)
    (case a_Spread_come_to => k_is)
    (case i_f_Spread_come_to => k_is)
    (case l_Spread_come_to => k_is)
    (case c_f_Spread_come_to => k_is)
    (case k_f_Spread_come_to => k_is)
    (case a_Spread_walk_from => k_is)
    (case i_f_Spread_walk_from => k_is)
    (case l_Spread_walk_from => k_is)
    (case c_f_Spread_walk_from => k_is)
    (case k_f_Spread_walk_from => k_is)
    (case a_reached => k_is)
    (case l_reached => k_is)
    (case c_f_reached => k_is)
    (case k_f_reached => k_is)
    (case a_pieces_of => k_is)
    (case l_pieces_of => k_is)
    (case c_f_pieces_of => k_is)
    (case k_f_pieces_of => k_is)
    (case a_multiple => k_is)
    (case l_multiple => k_is)
    (case c_f_multiple => k_is)
    (case k_f_multiple => k_is)
    (case a_whole_rates => k_is)
    (case l_whole_rates => k_is)
    (case c_f_whole_rates => k_is)
    (case k_f_whole_rates => k_is)
    (case a_rates_of => k_is)
    (case l_rates_of => k_is)
    (case c_f_rates_of => k_is)
    (case k_f_rates_of => k_is)
    (case a_Hall_belt_at => k_is)
    (case i_f_Hall_belt_at => k_is)
    (case l_Hall_belt_at => k_is)
    (case c_f_Hall_belt_at => k_is)
    (case k_f_Hall_belt_at => k_is)
    (case a_Hall_lay => k_is)
    (case i_f_Hall_lay => k_is)
    (case l_Hall_lay => k_is)
    (case c_f_Hall_lay => k_is)
    (case k_f_Hall_lay => k_is)
    (case a_is_name => k_is)
    (case l_is_name => k_is)
    (case c_f_is_name => k_is)
    (case k_f_is_name => k_is)
    (case a_Hall_work => k_is)
    (case i_f_Hall_work => k_is)
    (case l_Hall_work => k_is)
    (case c_f_Hall_work => k_is)
    (case k_f_Hall_work => k_is)
    (case a_backed => k_is)
    (case l_backed => k_is)
    (case c_f_backed => k_is)
    (case k_f_backed => k_is)
    (case a_Floor_init => k_is)
    (case i_f_Floor_init => k_is)
    (case l_Floor_init => k_is)
    (case c_f_Floor_init => k_is)
    (case k_f_Floor_init => k_is)
    (case a_Floor_need_work => k_is)
    (case i_f_Floor_need_work => k_is)
    (case l_Floor_need_work => k_is)
    (case c_f_Floor_need_work => k_is)
    (case k_f_Floor_need_work => k_is)
    (case a_Floor_lying => k_is)
    (case i_f_Floor_lying => k_is)
    (case l_Floor_lying => k_is)
    (case c_f_Floor_lying => k_is)
    (case k_f_Floor_lying => k_is)
    (case a_Hall_need => k_is)
    (case i_f_Hall_need => k_is)
    (case l_Hall_need => k_is)
    (case c_f_Hall_need => k_is)
    (case k_f_Hall_need => k_is)
    (case a_Hall_leaving => k_is)
    (case i_f_Hall_leaving => k_is)
    (case l_Hall_leaving => k_is)
    (case c_f_Hall_leaving => k_is)
    (case k_f_Hall_leaving => k_is)
    (case a_Floor_ready => k_is)
    (case i_f_Floor_ready => k_is)
    (case l_Floor_ready => k_is)
    (case c_f_Floor_ready => k_is)
    (case k_f_Floor_ready => k_is)
    (case a_Hall_belt => k_is)
    (case i_f_Hall_belt => k_is)
    (case l_Hall_belt => k_is)
    (case c_f_Hall_belt => k_is)
    (case k_f_Hall_belt => k_is)
    (case t_Hall_belt => k_is)
    (case a_Hall_entering => k_is)
    (case i_f_Hall_entering => k_is)
    (case l_Hall_entering => k_is)
    (case c_f_Hall_entering => k_is)
    (case k_f_Hall_entering => k_is)
    (case a_Hall_fill => k_is)
    (case i_f_Hall_fill => k_is)
    (case l_Hall_fill => k_is)
    (case c_f_Hall_fill => k_is)
    (case k_f_Hall_fill => k_is)
    (case a__law_cell => k_is)
    (case l__law_cell => k_is)
    (case c_f__law_cell => k_is)
    (case k_f__law_cell => k_is)
    (case a__law_is_ready => k_is)
    (case l__law_is_ready => k_is)
    (case c_f__law_is_ready => k_is)
    (case k_f__law_is_ready => k_is)
    (case a__law_pieces => k_is)
    (case l__law_pieces => k_is)
    (case c_f__law_pieces => k_is)
    (case k_f__law_pieces => k_is)
    (case a__law_hall_like => k_is)
    (case l__law_hall_like => k_is)
    (case c_f__law_hall_like => k_is)
    (case k_f__law_hall_like => k_is)
    (case a__law_mix => k_is)
    (case l__law_mix => k_is)
    (case c_f__law_mix => k_is)
    (case k_f__law_mix => k_is)
    (case a__law_lines => k_is)
    (case l__law_lines => k_is)
    (case c_f__law_lines => k_is)
    (case k_f__law_lines => k_is)
    (case a__law_made => k_is)
    (case l__law_made => k_is)
    (case c_f__law_made => k_is)
    (case k_f__law_made => k_is)
    (case a__law_refused => k_is)
    (case l__law_refused => k_is)
    (case c_f__law_refused => k_is)
    (case k_f__law_refused => k_is)
    (case a__law_spoilt => k_is)
    (case l__law_spoilt => k_is)
    (case c_f__law_spoilt => k_is)
    (case k_f__law_spoilt => k_is)
    (case a__law_with_back => k_is)
    (case l__law_with_back => k_is)
    (case c_f__law_with_back => k_is)
    (case k_f__law_with_back => k_is)
    (case a_law => k_is)
    (case l_law => k_is)
    (case c_f_law => k_is)
    (case k_f_law => k_is)
