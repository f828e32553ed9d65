import PyProof.Rows.All
import Wide.All
import OpenK.AllK
import Wide.FinOn
import HandS.Strs
import HandS.ForMost
import HandS.Defaults
import KE.KeyNested
import HandS.Lambda
import HandS.Flow
import HandS.NoneIn
import HandS.MakeKwOnly
import HandS.Style
import HandS.TupAny
import HandS.TupMul
import HandS.Deep
import HandS.IsInst
import KE.KDictKeyed
import HandS.SortInts
import HandS.DictComp
import HandS.SetBool
import HandS.TupLen
import HandS.ExcInit
import HandS.TryOnly
import HandS.Codes
import HandS.Conv
import HandS.EndTab
import HandS.HeadWalk
import KE.SortKeyHeap
import KE.SortData
import KE.KNestM
import HandS.Head0
import HandS.Head1
import HandS.Head2
import HandS.HeadEnd
import HandS.HeadHook1
import HandS.HeadHook2
import KE.KDictDisplayH
import HandS.ExcField
import HandS.ExcOwn
import KE.KExcIs
import PySem.Challenge.RW_caisson_k01_shapes
set_option Elab.async false
set_option linter.all false
set_option maxRecDepth 100000
set_option maxHeartbeats 0
/-! Data as plain values (tuples without their places), the heap of lists, dicts and instances over it. -/
namespace Cz
open PySem PySem.Spec PyProof.Rows L2

inductive D where
  | non | bl (b : Bool) | int (i : Int) | str (x : Str) | ty (n : String) | ref (a : Addr) | ro (ds : List D) | tup (ds : List D)

/-! ### two lists, item by item -/
def All2 {α β : Type} (R : α → β → Prop) : List α → List β → Prop
  | [], bs => bs = []
  | a :: as, bs => ∃ b r, bs = b :: r ∧ R a b ∧ All2 R as r
section
variable {α β γ : Type} {R S : α → β → Prop}
theorem All2.nil : All2 R [] [] := rfl
theorem All2.cons {a : α} {b : β} {as : List α} {bs : List β} (h : R a b) (t : All2 R as bs) : All2 R (a :: as) (b :: bs) := ⟨b, bs, rfl, h, t⟩
theorem All2.length : ∀ {as : List α} {bs : List β}, All2 R as bs → as.length = bs.length
  | [], _, h => by rw [show _ = [] from h] <;> rfl
  | _ :: _, _, ⟨_, _, e, _, t⟩ => by rw [e, List.length_cons, List.length_cons, t.length]
theorem All2.mono (f : ∀ a b, R a b → S a b) : ∀ {as : List α} {bs : List β}, All2 R as bs → All2 S as bs
  | [], _, h => h
  | _ :: _, _, ⟨b, r, e, h, t⟩ => ⟨b, r, e, f _ _ h, t.mono f⟩
theorem All2.get : ∀ {as : List α} {bs : List β} {i : Nat} {a : α}, All2 R as bs → as[i]? = some a → ∃ b, bs[i]? = some b ∧ R a b
  | [], _, i, a, _, e => by simp at e
  | _ :: _, _, 0, a, ⟨b, r, e, h, t⟩, q => by
    subst e
    simp only [List.getElem?_cons_zero, Option.some.injEq] at q
    subst q
    exact ⟨b, rfl, h⟩
  | _ :: _, _, i + 1, a, ⟨b, r, e, h, t⟩, q => by
    subst e
    obtain ⟨c, h1, h2⟩ := t.get (i := i) (a := a) (by simpa using q)
    exact ⟨c, by simpa using h1, h2⟩
theorem All2.getR : ∀ {as : List α} {bs : List β} {i : Nat} {b : β}, All2 R as bs → bs[i]? = some b → ∃ a, as[i]? = some a ∧ R a b
  | [], _, i, b, h, e => by rw [show _ = [] from h] at e; simp at e
  | a :: _, _, 0, b, ⟨c, r, e, h, t⟩, q => by
    subst e
    simp only [List.getElem?_cons_zero, Option.some.injEq] at q
    subst q
    exact ⟨a, rfl, h⟩
  | _ :: _, _, i + 1, b, ⟨c, r, e, h, t⟩, q => by
    subst e
    obtain ⟨a, h1, h2⟩ := t.getR (i := i) (b := b) (by simpa using q)
    exact ⟨a, by simpa using h1, h2⟩
theorem All2.append : ∀ {as as' : List α} {bs bs' : List β}, All2 R as bs → All2 R as' bs' → All2 R (as ++ as') (bs ++ bs')
  | [], _, _, _, h, h' => by rw [show _ = [] from h]; exact h'
  | _ :: _, _, _, bs', ⟨b, r, e, h, t⟩, h' => by subst e; exact ⟨b, r ++ bs', rfl, h, t.append h'⟩
theorem All2.take : ∀ (n : Nat) {as : List α} {bs : List β}, All2 R as bs → All2 R (as.take n) (bs.take n)
  | 0, _, _, _ => by rw [List.take_zero, List.take_zero]; exact .nil
  | n + 1, [], _, h => by rw [show _ = [] from h]; exact .nil
  | n + 1, _ :: _, _, ⟨b, r, e, h, t⟩ => by subst e; exact .cons h (t.take n)
theorem All2.drop : ∀ (n : Nat) {as : List α} {bs : List β}, All2 R as bs → All2 R (as.drop n) (bs.drop n)
  | 0, _, _, h => h
  | n + 1, [], _, h => by rw [show _ = [] from h]; exact .nil
  | n + 1, _ :: _, _, ⟨b, r, e, h, t⟩ => by subst e; exact t.drop n
theorem All2.set {a : α} {b : β} (h : R a b) : ∀ (i : Nat) {as : List α} {bs : List β}, All2 R as bs → All2 R (as.set i a) (bs.set i b)
  | _, [], _, q => by rw [show _ = [] from q]; exact .nil
  | 0, _ :: _, _, ⟨c, r, e, _, t⟩ => by subst e; exact .cons h t
  | i + 1, _ :: _, _, ⟨c, r, e, q, t⟩ => by subst e; exact .cons q (t.set h i)
theorem All2.snoc {a : α} {b : β} {as : List α} {bs : List β} (t : All2 R as bs) (h : R a b) : All2 R (as ++ [a]) (bs ++ [b]) := t.append (.cons h .nil)
theorem All2.reverse : ∀ {as : List α} {bs : List β}, All2 R as bs → All2 R as.reverse bs.reverse
  | [], _, h => by rw [show _ = [] from h]; exact .nil
  | _ :: _, _, ⟨b, r, e, h, t⟩ => by subst e; rw [List.reverse_cons, List.reverse_cons]; exact t.reverse.snoc h
theorem All2.dropLast {as : List α} {bs : List β} (h : All2 R as bs) : All2 R as.dropLast bs.dropLast := by
  rw [List.dropLast_eq_take, List.dropLast_eq_take, ← h.length]
  exact h.take _
theorem All2.eraseIdx : ∀ (i : Nat) {as : List α} {bs : List β}, All2 R as bs → All2 R (as.eraseIdx i) (bs.eraseIdx i)
  | _, [], _, h => by rw [show _ = [] from h]; exact .nil
  | 0, _ :: _, _, ⟨b, r, e, h, t⟩ => by subst e; exact t
  | i + 1, _ :: _, _, ⟨b, r, e, h, t⟩ => by subst e; exact .cons h (t.eraseIdx i)
theorem All2.rep {as : List α} {bs : List β} (h : All2 R as bs) : ∀ k : Nat, All2 R (List.replicate k as).flatten (List.replicate k bs).flatten
  | 0 => .nil
  | k + 1 => by rw [List.replicate_succ, List.replicate_succ, List.flatten_cons, List.flatten_cons]; exact h.append (h.rep k)
theorem All2.mem : ∀ {as : List α} {bs : List β} {b : β}, All2 R as bs → b ∈ bs → ∃ a, a ∈ as ∧ R a b
  | [], _, b, h, e => by rw [show _ = [] from h] at e; cases e
  | a :: as, _, b, ⟨c, r, e, h, t⟩, q => by
    subst e
    rcases List.mem_cons.mp q with z | z
    · exact ⟨a, List.mem_cons_self, by rw [z]; exact h⟩
    · obtain ⟨a', h1, h2⟩ := t.mem z
      exact ⟨a', List.mem_cons_of_mem _ h1, h2⟩
theorem All2.isEmpty {as : List α} {bs : List β} (h : All2 R as bs) : as.isEmpty = bs.isEmpty := by
  have := h.length
  cases as <;> cases bs <;> simp_all
theorem All2.iff_paired {as : List α} {bs : List β} : All2 R as bs ↔ Paired R as bs := by
  constructor
  · induction as generalizing bs with
    | nil => intro h; rw [show bs = [] from h]; exact .nil
    | cons a as ih => rintro ⟨b, r, e, h, t⟩; subst e; exact .cons h (ih t)
  · intro h
    induction h with
    | nil => exact .nil
    | cons h _ ih => exact .cons h ih
theorem All2.map_left {f : γ → α} : ∀ {cs : List γ} {bs : List β}, All2 (fun c b => R (f c) b) cs bs → All2 R (cs.map f) bs
  | [], _, h => h
  | _ :: _, _, ⟨b, r, e, h, t⟩ => ⟨b, r, e, h, t.map_left⟩
end

/-! ### a value is such data -/
mutual
def Dat (K : PySem.W.Frag) (H : Hp) : D → V → Prop
  | .non, v => v = .non
  | .bl b, v => v = .bl b
  | .int i, v => v = .int i
  | .str x, v => v = .str x
  | .ty n, v => v = .ty n
  | .ref a, v => v = .ref a
  | .ro ds, v => ∃ a vs, v = .ref a ∧ ((∃ o, H a = some (.frz o (.lst vs))) ∨ SqL K (fun _ => none) a vs) ∧ Dats K H ds vs
  | .tup ds, v => ∃ a vs, v = .ref a ∧ H a = some (.tup vs) ∧ Dats K H ds vs
def Dats (K : PySem.W.Frag) (H : Hp) : List D → List V → Prop
  | [], vs => vs = []
  | d :: ds, vs => ∃ v r, vs = v :: r ∧ Dat K H d v ∧ Dats K H ds r
end
/-- tuples stand, and what is known -/
structure KeepT (H H' : Hp) : Prop where
  tup : ∀ b xs, H b = some (.tup xs) → H' b = some (.tup xs)
  frz : ∀ b o (x : HO), H b = some (.frz o x) → H' b = some (.frz o x)
  code : ∀ b q, H b = some (LamX.CodeO b q) → H' b = some (LamX.CodeO b q)
theorem KeepT.refl (H : Hp) : KeepT H H := ⟨fun _ _ h => h, fun _ _ _ h => h, fun _ _ h => h⟩
theorem KeepT.trans {H H1 H2 : Hp} (a : KeepT H H1) (b : KeepT H1 H2) : KeepT H H2 := ⟨fun c xs h => b.tup c xs (a.tup c xs h), fun c o xs h => b.frz c o xs (a.frz c o xs h), fun c q h => b.code c q (a.code c q h)⟩
theorem KeepT.new {H : Hp} {p : Addr} {o : HO} (h : H p = none) : KeepT H (upd H p o) :=
  ⟨fun b xs e => by rw [upd_ne (ne_of_none e h)]; exact e, fun b ob xs e => by rw [upd_ne (ne_of_none e h)]; exact e, fun b q e => by rw [upd_ne (ne_of_none e h)]; exact e⟩
/-- what may change and is no tuple -/
theorem KeepT.mut {H : Hp} {p : Addr} {o o' : HO} (h : H p = some o) (h1 : ∀ xs, o ≠ .tup xs) (h2 : ∀ ob (x : HO), o ≠ .frz ob x) (h3 : ∀ q, o ≠ LamX.CodeO p q := by intro q z; unfold LamX.CodeO at z; cases z) : KeepT H (upd H p o') :=
  ⟨fun b xs e => by rw [upd_ne (ne_of e h fun z => h1 _ z.symm)]; exact e, fun b ob xs e => by rw [upd_ne (ne_of e h fun z => h2 _ _ z.symm)]; exact e, fun b q e => by
    by_cases hb : b = p
    · subst hb
      rw [h] at e
      exact absurd (Option.some.inj e) (h3 q)
    · rw [upd_ne hb]; exact e⟩
section
variable {K : PySem.W.Frag} {H H' : Hp}
theorem dats_all2 : ∀ {ds : List D} {vs : List V}, Dats K H ds vs ↔ All2 (Dat K H) ds vs
  | [], vs => by unfold Dats All2; exact Iff.rfl
  | d :: ds, vs => by
    unfold Dats All2
    constructor
    · rintro ⟨v, r, e, h, t⟩; exact ⟨v, r, e, h, dats_all2.mp t⟩
    · rintro ⟨v, r, e, h, t⟩; exact ⟨v, r, e, h, dats_all2.mpr t⟩
mutual
theorem Dat.keep (k : KeepT H H') : ∀ (d : D) (v : V), Dat K H d v → Dat K H' d v
  | .non, _, h => h
  | .bl _, _, h => h
  | .int _, _, h => h
  | .str _, _, h => h
  | .ty _, _, h => h
  | .ref _, _, h => h
  | .ro ds, v, h => by
    unfold Dat at h ⊢
    obtain ⟨a, vs, e, q, t⟩ := h
    refine ⟨a, vs, e, ?_, Dats.keep k ds vs t⟩
    rcases q with ⟨o, q⟩ | q
    · exact .inl ⟨o, k.frz a o _ q⟩
    · exact .inr q
  | .tup ds, v, h => by
    unfold Dat at h ⊢
    obtain ⟨a, vs, e, q, t⟩ := h
    exact ⟨a, vs, e, k.tup a vs q, Dats.keep k ds vs t⟩
theorem Dats.keep (k : KeepT H H') : ∀ (ds : List D) (vs : List V), Dats K H ds vs → Dats K H' ds vs
  | [], _, h => h
  | d :: ds, vs, h => by
    unfold Dats at h ⊢
    obtain ⟨v, r, e, q, t⟩ := h
    exact ⟨v, r, e, Dat.keep k d v q, Dats.keep k ds r t⟩
end
theorem dat_int {i : Int} {v : V} : Dat K H (.int i) v ↔ v = .int i := by unfold Dat; exact Iff.rfl
theorem dat_bl {i : Bool} {v : V} : Dat K H (.bl i) v ↔ v = .bl i := by unfold Dat; exact Iff.rfl
theorem dat_str {i : Str} {v : V} : Dat K H (.str i) v ↔ v = .str i := by unfold Dat; exact Iff.rfl
theorem dat_non {v : V} : Dat K H .non v ↔ v = .non := by unfold Dat; exact Iff.rfl
theorem dat_ty {n : String} {v : V} : Dat K H (.ty n) v ↔ v = .ty n := by unfold Dat; exact Iff.rfl
theorem dat_ref {a : Addr} {v : V} : Dat K H (.ref a) v ↔ v = .ref a := by unfold Dat; exact Iff.rfl
theorem dat_tup {ds : List D} {v : V} : Dat K H (.tup ds) v ↔ ∃ a vs, v = .ref a ∧ H a = some (.tup vs) ∧ All2 (Dat K H) ds vs := by
  unfold Dat
  constructor
  · rintro ⟨a, vs, e, h, t⟩; exact ⟨a, vs, e, h, dats_all2.mp t⟩
  · rintro ⟨a, vs, e, h, t⟩; exact ⟨a, vs, e, h, dats_all2.mpr t⟩
theorem dat_ro {ds : List D} {v : V} : Dat K H (.ro ds) v → ∃ a vs, v = .ref a ∧ SqL K H a vs ∧ All2 (Dat K H) ds vs := by
  unfold Dat
  rintro ⟨a, vs, e, h, t⟩
  refine ⟨a, vs, e, ?_, dats_all2.mp t⟩
  rcases h with ⟨o, h⟩ | h
  · exact .inl (.inr ⟨o, h⟩)
  · rcases h with (h | ⟨o, h⟩) | h
    · cases h
    · cases h
    · exact .inr h
end

/-! ### pure data: what has a hash -/
mutual
def D.key : D → NestedKey
  | .int i => .num i
  | .str x => .text x
  | .tup ds => .tup (keys ds)
  | _ => .none
def keys : List D → List NestedKey
  | [] => []
  | d :: ds => d.key :: keys ds
end
/-- a text of the right signs -/
def sOk (x : Str) : Bool := x.cps.all (· < 0x110000)
theorem sOk_of (s : String) : sOk (Str.ofString s) = true := by
  unfold sOk
  rw [Str.ofString_eq_toList]
  simp only [← Array.all_toList, List.all_eq_true, List.mem_map]
  rintro n ⟨c, _, rfl⟩
  have h := c.valid
  simp only [UInt32.isValidChar, Nat.isValidChar] at h
  have : c.toNat = c.val.toNat := rfl
  simp only [decide_eq_true_eq]
  omega
theorem map_toNat_inj : ∀ {a b : List Char}, a.map Char.toNat = b.map Char.toNat → a = b
  | [], [], _ => rfl
  | [], _ :: _, h => by simp at h
  | _ :: _, [], h => by simp at h
  | c :: a, d :: b, h => by
    simp only [List.map_cons, List.cons.injEq] at h
    have e : c = d := Char.ext (UInt32.toNat_inj.mp h.1)
    rw [e, map_toNat_inj h.2]
theorem ofString_inj {a b : String} : Str.ofString a = Str.ofString b ↔ a = b := by
  constructor
  · intro h
    rw [Str.ofString_eq_toList, Str.ofString_eq_toList] at h
    simp only [Str.mk.injEq] at h
    have := map_toNat_inj (by simpa using congrArg Array.toList h)
    exact String.toList_inj.mp this
  · intro h; rw [h]
mutual
def D.pure : D → Bool
  | .non => true
  | .int _ => true
  | .str x => sOk x
  | .tup ds => pures ds
  | _ => false
def pures : List D → Bool
  | [] => true
  | d :: ds => d.pure && pures ds
end
mutual
theorem key_inj : ∀ (d e : D), d.pure = true → e.pure = true → d.key = e.key → d = e
  | .non, e, _, h, q => by cases e <;> simp_all [D.key, D.pure]
  | .int i, e, _, h, q => by cases e <;> simp_all [D.key, D.pure]
  | .str i, e, _, h, q => by cases e <;> simp_all [D.key, D.pure]
  | .tup ds, e, p, h, q => by
    cases e with
    | tup es =>
      rw [D.key, D.key] at q
      injection q with q
      rw [D.pure] at p h
      rw [keys_inj ds es p h q]
    | _ => simp_all [D.key, D.pure]
  | .bl _, _, p, _, _ => by simp [D.pure] at p
  | .ty _, _, p, _, _ => by simp [D.pure] at p
  | .ref _, _, p, _, _ => by simp [D.pure] at p
  | .ro _, _, p, _, _ => by simp [D.pure] at p
theorem keys_inj : ∀ (ds es : List D), pures ds = true → pures es = true → keys ds = keys es → ds = es
  | [], [], _, _, _ => rfl
  | [], e :: es, _, _, q => by simp [keys] at q
  | d :: ds, [], _, _, q => by simp [keys] at q
  | d :: ds, e :: es, p, h, q => by
    rw [pures, Bool.and_eq_true] at p h
    rw [keys, keys] at q
    injection q with q1 q2
    rw [key_inj d e p.1 h.1 q1, keys_inj ds es p.2 h.2 q2]
end
/-- pure, and not too deep -/
def Pkd (d : D) : Prop := d.pure = true ∧ d.key.depth ≤ 8
theorem Pkd.inj {d e : D} (p : Pkd d) (q : Pkd e) : d.key = e.key ↔ d = e := ⟨key_inj d e p.1 q.1, fun h => by rw [h]⟩
/-! equality of data, decided -/
mutual
def D.beq : D → D → Bool
  | .non, .non => true
  | .bl a, .bl b => a == b
  | .int a, .int b => decide (a = b)
  | .str a, .str b => decide (a = b)
  | .ty a, .ty b => decide (a = b)
  | .ref a, .ref b => decide (a = b)
  | .ro a, .ro b => beqs a b
  | .tup a, .tup b => beqs a b
  | _, _ => false
def beqs : List D → List D → Bool
  | [], [] => true
  | a :: as, b :: bs => a.beq b && beqs as bs
  | _, _ => false
end
mutual
theorem beq_self : ∀ a : D, a.beq a = true
  | .non => rfl
  | .bl a => by simp [D.beq]
  | .int a => by simp [D.beq]
  | .str a => by simp [D.beq]
  | .ty a => by simp [D.beq]
  | .ref a => by simp [D.beq]
  | .ro a => by rw [D.beq]; exact beqs_self a
  | .tup a => by rw [D.beq]; exact beqs_self a
theorem beqs_self : ∀ a : List D, beqs a a = true
  | [] => rfl
  | a :: as => by rw [beqs, beq_self a, beqs_self as]; rfl
end
mutual
theorem eq_of_beq' : ∀ (a b : D), a.beq b = true → a = b
  | .non, b, h => by cases b <;> simp_all [D.beq]
  | .bl a, b, h => by cases b <;> simp_all [D.beq]
  | .int a, b, h => by cases b <;> simp_all [D.beq]
  | .str a, b, h => by cases b <;> simp_all [D.beq]
  | .ty a, b, h => by cases b <;> simp_all [D.beq]
  | .ref a, b, h => by cases b <;> simp_all [D.beq]
  | .ro a, b, h => by
    cases b with
    | ro b => rw [D.beq] at h; rw [eq_of_beqs a b h]
    | _ => simp [D.beq] at h
  | .tup a, b, h => by
    cases b with
    | tup b => rw [D.beq] at h; rw [eq_of_beqs a b h]
    | _ => simp [D.beq] at h
theorem eq_of_beqs : ∀ (a b : List D), beqs a b = true → a = b
  | [], [], _ => rfl
  | [], _ :: _, h => by simp [beqs] at h
  | _ :: _, [], h => by simp [beqs] at h
  | a :: as, b :: bs, h => by
    rw [beqs, Bool.and_eq_true] at h
    rw [eq_of_beq' a b h.1, eq_of_beqs as bs h.2]
end
instance : DecidableEq D := fun a b => if h : a.beq b = true then .isTrue (eq_of_beq' a b h) else .isFalse fun e => h (e ▸ beq_self a)

/-! ### classes, fields, the heap -/
inductive Cl where
  | shape | sealer | talk | read | scan | change | commit | volume
  deriving DecidableEq
inductive Fd where
  | fanout | depth | words | blocks | snapshots | marks | present | answers | shape | sealer | way | entry | cells | queue | seen | at_ | requests | anchor | changed | free | inner | entries | order | used
  deriving DecidableEq
def Fd.str : Fd → Str
  | .fanout => "fanout" | .depth => "depth" | .words => "words" | .blocks => "blocks" | .snapshots => "snapshots" | .marks => "marks" | .present => "present" | .answers => "answers" | .shape => "shape" | .sealer => "sealer"
  | .way => "way" | .entry => "entry" | .cells => "cells" | .queue => "queue" | .seen => "seen" | .at_ => "at" | .requests => "requests" | .anchor => "anchor" | .changed => "changed" | .free => "free" | .inner => "inner"
  | .entries => "entries" | .order => "order" | .used => "used"
/-- the kinds of dicts: keys that are ints and texts; keys that are nested tuples -/
inductive Dk where
  | ik | nk
  deriving DecidableEq
inductive GO where
  | lst (ds : List D)
  | dct (k : Dk) (kvs : List (D × D))
  | fdct (k : Dk) (kvs : List (D × D))
  | ins (c : Cl) (fs : List (Fd × D))
  | tab (q : Str)
  | set (ns : List Int)
abbrev GH := Addr → Option GO
def GH.set (G : GH) (a : Addr) (o : GO) : GH := fun b => if b = a then some o else G b
theorem set_same {G : GH} {a : Addr} {o : GO} : G.set a o a = some o := if_pos rfl
theorem set_ne {G : GH} {a b : Addr} {o : GO} (h : b ≠ a) : G.set a o b = G b := if_neg h
theorem set_set {G : GH} {a : Addr} {o u : GO} : (G.set a o).set a u = G.set a u := by funext b; unfold GH.set; split <;> rfl
theorem gne_none {G : GH} {a b : Addr} {o : GO} (h : G a = some o) (h' : G b = none) : a ≠ b := by intro e; subst e; rw [h] at h'; cases h'
/-- where the classes stand, and which fields are fields -/
structure Gm where
  cls : Cl → Addr
  ok : Cl → Fd → Bool
  tabs : List (Addr × Str)
def keyD : Key → D
  | .inl i => .int i
  | .inr x => .str x
/-- a dict with nested keys, by its entries -/
def nkE (w : World) (x : NestedKey × Addr × Value) : DictEntry := ⟨x.1.hash w, .ref x.2.1, x.2.2⟩
def grow : Nat → Heap → Heap
  | 0, h => h
  | n + 1, h => (grow n h).push { cls := .none, data := .fields #[] }
theorem grow_size (h : Heap) : ∀ n, (grow n h).objs.size = h.objs.size + n
  | 0 => rfl
  | n + 1 => by rw [grow, Heap.size_push, grow_size h n]; omega
def nkO (w : World) (a : Addr) (xs : List (NestedKey × Addr × Value)) : HO := .ext fun h => ∃ o ea ep, h.get? a = some o ∧ o.ExactDict ∧ o.data = .dict ea ep ∧ ea.toList = xs.map (nkE w)
theorem nkO_ne {w : World} {a : Addr} {xs : List (NestedKey × Addr × Value)} (q : Str) : nkO w a xs ≠ LamX.CodeO a q := fun z => by
  unfold nkO LamX.CodeO at z
  injection z with z
  have e := congrFun z ((grow a { objs := #[] }).push { cls := .none, data := .fields #[.none, .str q 0] })
  have hs : (grow a ({ objs := #[] } : Heap)).objs.size = a := by rw [grow_size]; simp
  have g : ((grow a { objs := #[] }).push { cls := .none, data := .fields #[.none, .str q 0] }).get? a = some { cls := .none, data := .fields #[.none, .str q 0] } := by
    have := Heap.get?_push_size (h := grow a { objs := #[] }) (o := { cls := .none, data := .fields #[.none, .str q 0] }) rfl
    rw [hs] at this
    exact this
  have c : ∃ (oc : Obj) (vs : Array Value) (t : Tok), ((grow a { objs := #[] }).push { cls := .none, data := .fields #[.none, .str q 0] }).get? a = some oc ∧ oc.data = .fields vs ∧ vs[1]? = some (.str q t) := ⟨_, _, 0, g, rfl, rfl⟩
  rw [← e] at c
  obtain ⟨o, ea, ep, h1, _, h2, _⟩ := c
  rw [g] at h1
  cases h1
  cases h2
section
variable (w : World) (K : PySem.W.Frag) (m : Gm) (H : Hp)
def IkRel : D × D → Key × V → Prop := fun p q => p.1 = keyD q.1 ∧ Dat K H p.2 q.2
def NkRel : D × D → NestedKey × Addr × Value → Prop := fun p e => Pkd p.1 ∧ (∃ ds, p.1 = .tup ds) ∧ e.1 = p.1.key ∧ Dat K H p.1 (.ref e.2.1) ∧ ∃ v, RelV v e.2.2 ∧ Dat K H p.2 v
def FdRel : Fd × D → Str × V → Prop := fun p q => q.1 = p.1.str ∧ Dat K H p.2 q.2
def GoOk (a : Addr) : GO → Prop
  | .lst ds => ∃ vs, H a = some (.lst vs) ∧ All2 (Dat K H) ds vs
  | .dct .ik kvs => ∃ hs, H a = some (.dK hs) ∧ All2 (IkRel K H) kvs hs
  | .fdct .ik kvs => ∃ o hs, H a = some (.frz o (.dK hs)) ∧ All2 (IkRel K H) kvs hs
  | .dct .nk kvs => ∃ es, H a = some (nkO w a es) ∧ (a == sysModules) = false ∧ kvs.length ≤ sizeLine ∧ All2 (NkRel K H) kvs es ∧ (kvs.map (·.1)).Nodup
  | .fdct .nk _ => False
  | .ins c fs => ∃ dx gs, H a = some (.ins (m.cls c) dx gs) ∧ All2 (FdRel K H) fs gs ∧ ∀ p ∈ fs, m.ok c p.1 = true
  | .tab q => LamX.TabS H a q ∧ (a, q) ∈ m.tabs
  | .set ns => H a = some (L2.SetO w a (fun j => decide (j ∈ ns)) ns.length) ∧ ns.Nodup
def Cpl (G : GH) : Prop := ∀ a o, G a = some o → GoOk w K m H a o
end
section
variable {w : World} {K : PySem.W.Frag} {m : Gm} {H H' : Hp} {G : GH} {a : Addr} {o : GO}
theorem GoOk.some (h : GoOk w K m H a o) : ∃ u, H a = some u ∧ (∀ xs, u ≠ .tup xs) ∧ ∀ ob xs, u ≠ .frz ob (.lst xs) := by
  cases o with
  | lst ds => obtain ⟨vs, e, _⟩ := h; exact ⟨_, e, fun _ z => (nomatch z), fun _ _ z => (nomatch z)⟩
  | dct k kvs => cases k with
    | ik => obtain ⟨vs, e, _⟩ := h; exact ⟨_, e, fun _ z => (nomatch z), fun _ _ z => (nomatch z)⟩
    | nk => obtain ⟨vs, e, _⟩ := h; exact ⟨_, e, fun _ z => (nomatch z), fun _ _ z => (nomatch z)⟩
  | fdct k kvs => cases k with
    | ik => obtain ⟨ob, vs, e, _⟩ := h; exact ⟨_, e, fun _ z => (nomatch z), fun _ _ z => by injection z with _ z; cases z⟩
    | nk => exact h.elim
  | ins c fs => obtain ⟨dx, gs, e, _⟩ := h; exact ⟨_, e, fun _ z => (nomatch z), fun _ _ z => (nomatch z)⟩
  | tab q => obtain ⟨⟨ps, e, _⟩, _⟩ := h; exact ⟨_, e, fun _ z => (nomatch z), fun _ _ z => (nomatch z)⟩
  | set ns => exact ⟨_, h.1, fun _ z => (by unfold L2.SetO at z; cases z), fun _ _ z => (by unfold L2.SetO at z; cases z)⟩
theorem IkRel.keep (k : KeepT H H') {p : D × D} {q : Key × V} (h : IkRel K H p q) : IkRel K H' p q := ⟨h.1, Dat.keep k _ _ h.2⟩
theorem NkRel.keep (k : KeepT H H') {p : D × D} {q : NestedKey × Addr × Value} (h : NkRel K H p q) : NkRel K H' p q :=
  ⟨h.1, h.2.1, h.2.2.1, Dat.keep k _ _ h.2.2.2.1, let ⟨v, r, d⟩ := h.2.2.2.2; ⟨v, r, Dat.keep k _ _ d⟩⟩
theorem FdRel.keep (k : KeepT H H') {p : Fd × D} {q : Str × V} (h : FdRel K H p q) : FdRel K H' p q := ⟨h.1, Dat.keep k _ _ h.2⟩
theorem all_keep (k : KeepT H H') {ds : List D} {vs : List V} (h : All2 (Dat K H) ds vs) : All2 (Dat K H') ds vs := h.mono fun d v => Dat.keep k d v
theorem GoOk.keep (k : KeepT H H') (e : H' a = H a) (h : GoOk w K m H a o) : GoOk w K m H' a o := by
  cases o with
  | lst ds => obtain ⟨vs, q, t⟩ := h; exact ⟨vs, e.trans q, all_keep k t⟩
  | dct kd kvs => cases kd with
    | ik => obtain ⟨vs, q, t⟩ := h; exact ⟨vs, e.trans q, t.mono fun _ _ z => z.keep k⟩
    | nk => obtain ⟨vs, q, s, l, t, n⟩ := h; exact ⟨vs, e.trans q, s, l, t.mono fun _ _ z => z.keep k, n⟩
  | fdct kd kvs => cases kd with
    | ik => obtain ⟨ob, vs, q, t⟩ := h; exact ⟨ob, vs, e.trans q, t.mono fun _ _ z => z.keep k⟩
    | nk => exact h.elim
  | ins c fs => obtain ⟨dx, gs, q, t, n⟩ := h; exact ⟨dx, gs, e.trans q, t.mono fun _ _ z => z.keep k, n⟩
  | tab q => obtain ⟨⟨ps, z, ht, hc⟩, n⟩ := h; exact ⟨⟨ps, e.trans z, ht, fun pos cv hv => let ⟨c, e1, e2⟩ := hc pos cv hv; ⟨c, e1, k.code c q e2⟩⟩, n⟩
  | set ns => exact ⟨e.trans h.1, h.2⟩
theorem Cpl.free (C : Cpl w K m H G) (h : H a = none) : G a = none := by
  cases e : G a with
  | none => rfl
  | some o =>
    obtain ⟨u, q, _⟩ := (C a o e).some
    rw [h] at q; cases q
/-- one object is new, or changed; the tuples stand -/
theorem Cpl.upd {u : HO} (C : Cpl w K m H G) (k : KeepT H (L2.upd H a u)) (n : GoOk w K m (L2.upd H a u) a o) : Cpl w K m (L2.upd H a u) (G.set a o) := fun b x e => by
  by_cases h : b = a
  · subst h
    rw [set_same] at e; cases e
    exact n
  · rw [set_ne h] at e
    exact (C b x e).keep k (upd_ne h)
/-- an object that is not told is new -/
theorem Cpl.ext {u : HO} (C : Cpl w K m H G) (h : H a = Option.none) : Cpl w K m (L2.upd H a u) G := fun b x e => by
  obtain ⟨v, q, _⟩ := (C b x e).some
  exact (C b x e).keep (KeepT.new h) (upd_ne (ne_of_none q h))
end

/-! ### slots -/
abbrev GSt := List (Option D)
def SlRel (K : PySem.W.Frag) (H : Hp) : Option D → Option V → Prop
  | .none, _ => True
  | .some d, o => ∃ v, o = .some v ∧ Dat K H d v
abbrev Sl (K : PySem.W.Frag) (H : Hp) : GSt → L2.St → Prop := All2 (SlRel K H)
section
variable {K : PySem.W.Frag} {H H' : Hp} {σ : GSt} {τ : L2.St}
theorem Sl.keep (k : KeepT H H') (h : Sl K H σ τ) : Sl K H' σ τ := h.mono fun d v q => by
  cases d with
  | none => trivial
  | some d => obtain ⟨u, e, z⟩ := q; exact ⟨u, e, Dat.keep k d u z⟩
theorem Sl.get (h : Sl K H σ τ) {i : Nat} {d : D} (e : σ[i]? = some (some d)) : ∃ v, τ[i]? = some (some v) ∧ Dat K H d v := by
  obtain ⟨o, e1, v, e2, q⟩ := All2.get h e
  subst e2
  exact ⟨v, e1, q⟩
theorem Sl.put (h : Sl K H σ τ) (i : Nat) {d : D} {v : V} (q : Dat K H d v) : Sl K H (σ.set i (some d)) (τ.set i (some v)) := All2.set (R := SlRel K H) (a := some d) (b := some v) ⟨v, rfl, q⟩ i h
theorem Sl.forget (h : Sl K H σ τ) (i : Nat) (o : Option V) : Sl K H (σ.set i none) (τ.set i o) := All2.set (R := SlRel K H) (a := none) (b := o) trivial i h
end
end Cz

/-! The judgements over plain data. -/
namespace Cz
open PySem PySem.Spec PyProof.Rows L2

abbrev GQ := D → GH → Prop
abbrev GE := GSt → GH → GQ → Prop
abbrev GT := GSt → GH → (Bool → GH → Prop) → Prop
abbrev GA := GSt → GH → (List D → GH → Prop) → Prop
structure GEnds where
  nx : GSt → GH → Prop
  rt : GQ
  bk : GSt → GH → Prop := fun _ _ => False
  ct : GSt → GH → Prop := fun _ _ => False
abbrev GS := GEnds → GSt → GH → Prop
abbrev GSp := List D → GH → GQ → Prop
/-- sizes that are far below every line -/
def lim : Nat := 100000
theorem lim_le {n : Nat} (h : n ≤ lim) : n ≤ sizeLine := Nat.le_trans h (by decide)
theorem lim_lt {n : Nat} (h : n < lim) : n < sizeLine := Nat.lt_of_lt_of_le h (by decide)

/-! ### the readings that are the meaning -/
def wE (X : Cx) (e : Expr) : TE := fun τ H Q => ∀ pins s, Inv X pins τ H s → wpAny (model X.prog X.w) X.A (eval e X.env) (EP X pins τ Q) X.xe s
def wT (X : Cx) (e : Expr) : TT := fun τ H Q => ∀ pins s, Inv X pins τ H s → wpAny (model X.prog X.w) X.A (isTrue e X.env (eval e X.env)) (TP X pins τ Q) X.xe s
def wW (X : Cx) (e : Expr) : TT := fun τ H Q => ∀ (whole : Sem Value) pins s, Inv X pins τ H s → wpAny (model X.prog X.w) X.A (isTrue e X.env whole) (TP X pins τ Q) X.xe s
def wA (X : Cx) (es : List Expr) : TA := fun τ H Q => ∀ (pos : Pos) pins s, Inv X pins τ H s → wpAny (model X.prog X.w) X.A (spliced (backTo pos (starEach es X.env))) (AP X pins τ Q) X.xe s
def wS (X : Cx) (st : Stmt) : TS := fun D τ H => ∀ pins s, Inv X pins τ H s → wpAny (model X.prog X.w) X.A (exec st X.env) (SP X pins D) X.xe s
def wB (X : Cx) (st : List Stmt) : TS := fun D τ H => ∀ pins s, Inv X pins τ H s → wpAny (model X.prog X.w) X.A (execs st X.env) (SP X pins D) X.xe s
section
variable {X : Cx} {e : Expr} {es : List Expr} {st : Stmt} {sts : List Stmt} {τ : L2.St} {H : Hp}
theorem wE_pe (e : Expr) : PE X e (wE X e) := ⟨fun pins s τ H Q I h => h pins s I⟩
theorem wT_pt (e : Expr) : PT X e (wT X e) := ⟨fun pins s τ H Q I h => h pins s I⟩
theorem wW_pw (e : Expr) : PW X e (wW X e) := ⟨fun wh pins s τ H Q I h => h wh pins s I⟩
theorem wA_pa (es : List Expr) : PA X es (wA X es) := ⟨fun pos pins s τ H Q I h => h pos pins s I⟩
theorem wS_ps (st : Stmt) : PS X st (wS X st) := ⟨fun pins s τ H D I h => h pins s I⟩
theorem wB_pss (st : List Stmt) : PSs X st (wB X st) := ⟨fun pins s τ H D I h => h pins s I⟩
theorem wE_of {t : TE} {Q : VK} (p : PE X e t) (h : t τ H Q) : wE X e τ H Q := fun pins s I => p.run pins s τ H Q I h
theorem wT_of {t : TT} {Q : Bool → Hp → Prop} (p : PT X e t) (h : t τ H Q) : wT X e τ H Q := fun pins s I => p.run pins s τ H Q I h
theorem wW_of {t : TT} {Q : Bool → Hp → Prop} (p : PW X e t) (h : t τ H Q) : wW X e τ H Q := fun wh pins s I => p.run wh pins s τ H Q I h
theorem wA_of {t : TA} {Q : List V → Hp → Prop} (p : PA X es t) (h : t τ H Q) : wA X es τ H Q := fun pos pins s I => p.run pos pins s τ H Q I h
theorem wS_of {t : TS} {D : Ends} (p : PS X st t) (h : t D τ H) : wS X st D τ H := fun pins s I => p.run pins s τ H D I h
theorem wB_of {t : TS} {D : Ends} (p : PSs X sts t) (h : t D τ H) : wB X sts D τ H := fun pins s I => p.run pins s τ H D I h
theorem wE_mono {Q Q' : VK} (h : wE X e τ H Q) (f : ∀ v H', Q v H' → Q' v H') : wE X e τ H Q' := fun pins s I => thn (h pins s I) fun u s1 ⟨v, H1, I1, r, q⟩ => ⟨v, H1, I1, r, f v H1 q⟩
theorem wT_mono {Q Q' : Bool → Hp → Prop} (h : wT X e τ H Q) (f : ∀ v H', Q v H' → Q' v H') : wT X e τ H Q' := fun pins s I => thn (h pins s I) fun u s1 ⟨H1, I1, q⟩ => ⟨H1, I1, f u H1 q⟩
theorem wW_mono {Q Q' : Bool → Hp → Prop} (h : wW X e τ H Q) (f : ∀ v H', Q v H' → Q' v H') : wW X e τ H Q' := fun wh pins s I => thn (h wh pins s I) fun u s1 ⟨H1, I1, q⟩ => ⟨H1, I1, f u H1 q⟩
theorem wA_mono {Q Q' : List V → Hp → Prop} (h : wA X es τ H Q) (f : ∀ v H', Q v H' → Q' v H') : wA X es τ H Q' := fun pos pins s I => thn (h pos pins s I) fun u s1 ⟨v, H1, I1, r, q⟩ => ⟨v, H1, I1, r, f v H1 q⟩
structure EndsLe (D D' : Ends) : Prop where
  nx : ∀ τ H, D.nx τ H → D'.nx τ H
  rt : ∀ v H, D.rt v H → D'.rt v H
  bk : ∀ τ H, D.bk τ H → D'.bk τ H
  ct : ∀ τ H, D.ct τ H → D'.ct τ H
theorem EndsLe.sp {D D' : Ends} (h : EndsLe D D') {pins : List (Addr × Obj)} {f : Flow} {s : Shared} (x : SP X pins D f s) : SP X pins D' f s := by
  cases f with
  | next => obtain ⟨σ', H', I, q⟩ := x; exact ⟨σ', H', I, h.nx _ _ q⟩
  | brk => obtain ⟨σ', H', I, q⟩ := x; exact ⟨σ', H', I, h.bk _ _ q⟩
  | cont => obtain ⟨σ', H', I, q⟩ := x; exact ⟨σ', H', I, h.ct _ _ q⟩
  | ret u => obtain ⟨v, σ', H', I, r, q⟩ := x; exact ⟨v, σ', H', I, r, h.rt _ _ q⟩
theorem wS_mono {D D' : Ends} (h : wS X st D τ H) (f : EndsLe D D') : wS X st D' τ H := fun pins s I => thn (h pins s I) fun _ _ q => f.sp q
theorem wB_mono {D D' : Ends} (h : wB X sts D τ H) (f : EndsLe D D') : wB X sts D' τ H := fun pins s I => thn (h pins s I) fun _ _ q => f.sp q
end

/-! ### the judgements -/
abbrev Cp (m : Gm) (X : Cx) (H : Hp) (G : GH) : Prop := Cpl X.w X.K m H G
/-- an end, said of data -/
def LQ (m : Gm) (X : Cx) (H : Hp) (Q : GQ) : VK := fun v H' => ∃ d G', KeepT H H' ∧ Cp m X H' G' ∧ Dat X.K H' d v ∧ Q d G'
def LT (m : Gm) (X : Cx) (H : Hp) (Q : Bool → GH → Prop) : Bool → Hp → Prop := fun b H' => ∃ G', KeepT H H' ∧ Cp m X H' G' ∧ Q b G'
def LA (m : Gm) (X : Cx) (H : Hp) (Q : List D → GH → Prop) : List V → Hp → Prop := fun vs H' => ∃ ds G', KeepT H H' ∧ Cp m X H' G' ∧ All2 (Dat X.K H') ds vs ∧ Q ds G'
def LN (m : Gm) (X : Cx) (H : Hp) (N : GSt → GH → Prop) : L2.St → Hp → Prop := fun τ H' => ∃ σ G', KeepT H H' ∧ Sl X.K H' σ τ ∧ Cp m X H' G' ∧ N σ G'
def LD (m : Gm) (X : Cx) (H : Hp) (D : GEnds) : Ends := { nx := LN m X H D.nx, rt := LQ m X H D.rt, bk := LN m X H D.bk, ct := LN m X H D.ct }
structure QE (m : Gm) (X : Cx) (e : Expr) (g : GE) : Prop where
  run : ∀ (τ : L2.St) (H : Hp) (σ : GSt) (G : GH) (Q : GQ), Sl X.K H σ τ → Cp m X H G → g σ G Q → wE X e τ H (LQ m X H Q)
structure QT (m : Gm) (X : Cx) (e : Expr) (g : GT) : Prop where
  run : ∀ (τ : L2.St) (H : Hp) (σ : GSt) (G : GH) (Q : Bool → GH → Prop), Sl X.K H σ τ → Cp m X H G → g σ G Q → wT X e τ H (LT m X H Q)
structure QW (m : Gm) (X : Cx) (e : Expr) (g : GT) : Prop where
  run : ∀ (τ : L2.St) (H : Hp) (σ : GSt) (G : GH) (Q : Bool → GH → Prop), Sl X.K H σ τ → Cp m X H G → g σ G Q → wW X e τ H (LT m X H Q)
structure QA (m : Gm) (X : Cx) (es : List Expr) (g : GA) : Prop where
  run : ∀ (τ : L2.St) (H : Hp) (σ : GSt) (G : GH) (Q : List D → GH → Prop), Sl X.K H σ τ → Cp m X H G → g σ G Q → wA X es τ H (LA m X H Q)
structure QS (m : Gm) (X : Cx) (st : Stmt) (g : GS) : Prop where
  run : ∀ (τ : L2.St) (H : Hp) (σ : GSt) (G : GH) (D : GEnds), Sl X.K H σ τ → Cp m X H G → g D σ G → wS X st (LD m X H D) τ H
structure QB (m : Gm) (X : Cx) (st : List Stmt) (g : GS) : Prop where
  run : ∀ (τ : L2.St) (H : Hp) (σ : GSt) (G : GH) (D : GEnds), Sl X.K H σ τ → Cp m X H G → g D σ G → wB X st (LD m X H D) τ H
theorem QW.qt {m : Gm} {X : Cx} {e : Expr} {g : GT} (h : QW m X e g) : QT m X e g := ⟨fun τ H σ G Q S C q => h.run τ H σ G Q S C q (eval e X.env)⟩
section
variable {m : Gm} {X : Cx} {H H0 H1 : Hp} {G : GH}
theorem LQ.keep {Q : GQ} {v : V} {H' : Hp} (k : KeepT H0 H) (h : LQ m X H Q v H') : LQ m X H0 Q v H' := let ⟨d, G', k', c, q⟩ := h; ⟨d, G', k.trans k', c, q⟩
theorem LT.keep {Q : Bool → GH → Prop} {v : Bool} {H' : Hp} (k : KeepT H0 H) (h : LT m X H Q v H') : LT m X H0 Q v H' := let ⟨G', k', c, q⟩ := h; ⟨G', k.trans k', c, q⟩
theorem LA.keep {Q : List D → GH → Prop} {v : List V} {H' : Hp} (k : KeepT H0 H) (h : LA m X H Q v H') : LA m X H0 Q v H' := let ⟨d, G', k', c, q⟩ := h; ⟨d, G', k.trans k', c, q⟩
theorem LN.keep {N : GSt → GH → Prop} {τ : L2.St} {H' : Hp} (k : KeepT H0 H) (h : LN m X H N τ H') : LN m X H0 N τ H' := let ⟨d, G', k', c, q⟩ := h; ⟨d, G', k.trans k', c, q⟩
theorem LD.keep {D : GEnds} (k : KeepT H0 H) : EndsLe (LD m X H D) (LD m X H0 D) := ⟨fun _ _ h => LN.keep k h, fun _ _ h => LQ.keep k h, fun _ _ h => LN.keep k h, fun _ _ h => LN.keep k h⟩
/-- two expressions in a row -/
theorem two {a b : Expr} {ga gb : GE} (ha : QE m X a ga) (hb : QE m X b gb) {τ : L2.St} {σ : GSt} {R : D → D → GH → Prop} {P : V → V → VK} (S : Sl X.K H σ τ) (C : Cp m X H G) (h : ga σ G fun x G1 => gb σ G1 fun y G2 => R x y G2) {Qh : V → V → Hp → Prop}
    (k : ∀ v u H2 x y G2, KeepT H H2 → Cp m X H2 G2 → Dat X.K H2 x v → Dat X.K H2 y u → R x y G2 → Qh v u H2) : wE X a τ H fun v H1 => wE X b τ H1 fun u H2 => Qh v u H2 := by
  refine wE_mono (ha.run τ H σ G _ S C h) fun v H1 ⟨x, G1, k1, C1, d1, q1⟩ => ?_
  refine wE_mono (hb.run τ H1 σ G1 _ (S.keep k1) C1 q1) fun u H2 ⟨y, G2, k2, C2, d2, q2⟩ => ?_
  exact k v u H2 x y G2 (k1.trans k2) C2 (Dat.keep k2 _ _ d1) d2 q2
end

/-! ### names, constants -/
def gVar (i : Nat) : GE := fun σ G Q => ∃ d, σ[i]? = some (some d) ∧ Q d G
def gC (d : D) : GE := fun _ G Q => Q d G
section
variable {m : Gm} {X : Cx} {pos p : Pos} {x : Str} {e : Expr}
theorem q_pure {d : D} {v : V} (h : PE X e (tC v)) (hd : ∀ H, Dat X.K H d v) : QE m X e (gC d) := ⟨fun τ H σ G Q S C q => wE_of h ⟨d, G, KeepT.refl H, C, hd H, q⟩⟩
theorem q_var (i : Nat) (h : PE X (.Name x pos) (tVar i)) : QE m X (.Name x pos) (gVar i) := ⟨fun τ H σ G Q S C q => by
  obtain ⟨d, e1, q⟩ := q
  obtain ⟨v, e2, hd⟩ := S.get e1
  exact wE_of h ⟨v, e2, d, G, KeepT.refl H, C, hd, q⟩⟩
theorem q_int {i : Int} {j} : QE m X (.Constant (.int i) j pos) (gC (.int i)) := q_pure pe_int fun H => by unfold Dat; rfl
theorem q_str {i : Str} {j} : QE m X (.Constant (.str i) j pos) (gC (.str i)) := q_pure pe_str fun H => by unfold Dat; rfl
theorem q_bl {i : Bool} {j} : QE m X (.Constant (.bool i) j pos) (gC (.bl i)) := q_pure pe_bl fun H => by unfold Dat; rfl
theorem q_non {j} : QE m X (.Constant .none j pos) (gC .non) := q_pure pe_non fun H => by unfold Dat; rfl
theorem q_globI {i : Int} (hg : Gl X x) (hm : ∃ t, X.mg x = some (.int i t)) (hd : (x == ("__debug__" : Str)) = false := by decide) : QE m X (.Name x pos) (gC (.int i)) :=
  let ⟨t, h⟩ := hm
  q_pure (pe_glob (v := .int i) hg h ⟨t, rfl⟩ hd) fun H => by unfold Dat; rfl
end

/-! ### argument lists, displays -/
def gNil : GA := fun _ G Q => Q [] G
def gCons (a : GE) (r : GA) : GA := fun σ G Q => a σ G fun x G1 => r σ G1 fun xs G2 => Q (x :: xs) G2
def gTup (a : GA) : GE := fun σ G Q => a σ G fun xs G1 => xs.length ≤ lim ∧ Q (.tup xs) G1
def gLst (a : GA) : GE := fun σ G Q => a σ G fun xs G1 => xs.length ≤ lim ∧ ∀ p, G1 p = none → Q (.ref p) (G1.set p (.lst xs))
section
variable {m : Gm} {X : Cx} {pos : Pos} {e : Expr} {es : List Expr} {g : GE} {ga : GA}
theorem qa_nil : QA m X [] gNil := ⟨fun τ H σ G Q S C q => wA_of pa_nil ⟨[], G, KeepT.refl H, C, rfl, q⟩⟩
theorem qa_cons (h : QE m X e g) (t : QA m X es ga) (hs : starEach (e :: es) X.env = (false, eval e X.env) :: starEach es X.env := by rfl) : QA m X (e :: es) (gCons g ga) := ⟨fun τ H σ G Q S C q => by
  refine wA_of (pa_cons (wE_pe e) (wA_pa es) hs) ?_
  refine wE_mono (h.run τ H σ G _ S C q) fun v H1 ⟨x, G1, k1, C1, d1, q1⟩ => ?_
  refine wA_mono (t.run τ H1 σ G1 _ (S.keep k1) C1 q1) fun vs H2 ⟨xs, G2, k2, C2, d2, q2⟩ => ?_
  exact ⟨x :: xs, G2, k1.trans k2, C2, .cons (Dat.keep k2 _ _ d1) d2, q2⟩⟩
theorem q_tup {j} (h : QA m X es ga) : QE m X (.Tuple es j pos) (gTup ga) := ⟨fun τ H σ G Q S C q => by
  refine wE_of (pe_tup (wA_pa es)) ?_
  refine wA_mono (h.run τ H σ G _ S C q) fun vs H1 ⟨xs, G1, k1, C1, d1, l, q1⟩ => ?_
  refine ⟨by rw [← All2.length d1]; exact lim_le l, fun p hp => ?_⟩
  have kn := KeepT.new (o := .tup vs) hp
  exact ⟨.tup xs, G1, k1.trans kn, C1.ext hp, dat_tup.mpr ⟨p, vs, rfl, upd_same, all_keep kn d1⟩, q1⟩⟩
/-- a new list, tracked -/
theorem new_lst {H : Hp} {G : GH} {p : Addr} {ds : List D} {vs : List V} (C : Cp m X H G) (hp : H p = none) (d : All2 (Dat X.K H) ds vs) : Cp m X (upd H p (.lst vs)) (G.set p (.lst ds)) :=
  C.upd (KeepT.new hp) ⟨vs, upd_same, all_keep (KeepT.new hp) d⟩
theorem q_lst (h : QA m X es ga) : QE m X (.List es pos) (gLst ga) := ⟨fun τ H σ G Q S C q => by
  refine wE_of (pe_lst (wA_pa es)) ?_
  refine wA_mono (h.run τ H σ G _ S C q) fun vs H1 ⟨xs, G1, k1, C1, d1, l, q1⟩ => ?_
  refine ⟨by rw [← All2.length d1]; exact lim_le l, fun p hp => ?_⟩
  exact ⟨.ref p, _, k1.trans (KeepT.new hp), new_lst C1 hp d1, dat_ref.mpr rfl, q1 p (C1.free hp)⟩⟩
end

/-! ### operators by values -/
abbrev G2 := D → D → GH → GQ → Prop
def gBin (r : G2) (a b : GE) : GE := fun σ G Q => a σ G fun x G1 => b σ G1 fun y G2 => r x y G2 Q
/-- an end said of data is an end of values -/
def Imp (m : Gm) (X : Cx) (H : Hp) (Q : GQ) (Qh : VK) : Prop := ∀ d G' v' H', KeepT H H' → Cp m X H' G' → Dat X.K H' d v' → Q d G' → Qh v' H'
/-- the reading r of values says the reading g of data -/
def Says2 (m : Gm) (X : Cx) (r : R2) (g : G2) : Prop := ∀ (H : Hp) (G : GH) (x y : D) (v u : V) (Q : GQ) (Qh : VK), Cp m X H G → Dat X.K H x v → Dat X.K H y u → Imp m X H Q Qh → g x y G Q → r v u H Qh
def SaysL (m : Gm) (X : Cx) (r : List V → Hp → VK → Prop) (g : GSp) : Prop := ∀ (H : Hp) (G : GH) (xs : List D) (vs : List V) (Q : GQ) (Qh : VK), Cp m X H G → All2 (Dat X.K H) xs vs → Imp m X H Q Qh → g xs G Q → r vs H Qh
section
variable {m : Gm} {X : Cx} {pos : Pos} {a b c : Expr} {ga gb gc : GE} {r r' : R2} {g g' : G2}
theorem imp_lq {H0 H : Hp} {Q : GQ} (k : KeepT H0 H) : Imp m X H Q (LQ m X H0 Q) := fun d G' v' H' k' C' hd q => ⟨d, G', k.trans k', C', hd, q⟩
theorem q_bin {op : Operator} (ho : OpR X (binaryOp op) r) (hg : Says2 m X r g) (ha : QE m X a ga) (hb : QE m X b gb) : QE m X (.BinOp a op b pos) (gBin g ga gb) := ⟨fun τ H σ G Q S C q =>
  wE_of (pe_op ho (wE_pe a) (wE_pe b)) (two (P := fun _ _ _ _ => True) ha hb S C q fun v u H2 x y G2 k C2 dx dy q2 => hg H2 G2 x y v u Q _ C2 dx dy (imp_lq k) q2)⟩
theorem q_cmp {op : CmpOp} (ho : OpR X (compareOp op) r) (hg : Says2 m X r g) (hm : behindInMarks op b = false) (ha : QE m X a ga) (hb : QE m X b gb) : QE m X (.Compare a [op] [b] pos) (gBin g ga gb) := ⟨fun τ H σ G Q S C q =>
  wE_of (pe_cmpR ho (wE_pe a) (wE_pe b) hm) (two (P := fun _ _ _ _ => True) ha hb S C q fun v u H2 x y G2 k C2 dx dy q2 => hg H2 G2 x y v u Q _ C2 dx dy (imp_lq k) q2)⟩
/-- a value that is True or False, as a test -/
def gTest (g : GE) : GT := fun σ G Q => g σ G fun x G1 => ∃ k, x = .bl k ∧ Q k G1
/-- the end of a test -/
def LB (m : Gm) (X : Cx) (H : Hp) (Q : Bool → GH → Prop) : VK := fun z H' => ∃ k, z = .bl k ∧ LT m X H Q k H'
theorem imp_lb {H0 H : Hp} {Q : Bool → GH → Prop} (k : KeepT H0 H) : Imp m X H (fun x G1 => ∃ k, x = .bl k ∧ Q k G1) (LB m X H0 Q) := fun d G' v' H' k' C' hd ⟨b, e, q⟩ => by
  subst e
  exact ⟨b, dat_bl.mp hd, G', k.trans k', C', q⟩
theorem qt_cmp {op : CmpOp} (ho : OpR X (compareOp op) r) (hg : Says2 m X r g) (hm : behindInMarks op b = false) (ha : QE m X a ga) (hb : QE m X b gb) : QT m X (.Compare a [op] [b] pos) (gTest (gBin g ga gb)) := ⟨fun τ H σ G Q S C q =>
  wT_of (pt_cmpR ho (wE_pe a) (wE_pe b) hm) (two (P := fun _ _ _ _ => True) ha hb S C q fun v u H2 x y G2 k C2 dx dy q2 => hg H2 G2 x y v u _ _ C2 dx dy (imp_lb k) q2)⟩
/-- an expression of any other form whose value is True or False, as a test -/
theorem qt_val (h : QE m X a ga) (he : ∀ whole, isTrue a X.env whole = (do let v ← whole; standAt a.pos; holding [v] (truthy v)) := by intro _; rfl) : QT m X a (gTest ga) := ⟨fun τ H σ G Q S C q =>
  wT_of (pt_val (wE_pe a) he) (wE_mono (h.run τ H σ G _ S C q) fun v H1 ⟨d, G1, k, C1, hd, q1⟩ => imp_lb (KeepT.refl H) d G1 v H1 k C1 hd q1)⟩
/-- a < b < c -/
def gChain (g g' : G2) (a b c : GE) : GE := fun σ G Q => a σ G fun x G1 => b σ G1 fun y G2 => g x y G2 fun z G3 => ∃ k, z = .bl k ∧ if k = true then c σ G3 fun w G4 => g' y w G4 Q else Q (.bl false) G3
end

/-! ### and, or, not -/
def gAnd (t u : GT) : GT := fun σ G Q => t σ G fun c G1 => if c = true then u σ G1 Q else Q false G1
def gOr (t u : GT) : GT := fun σ G Q => t σ G fun c G1 => if c = true then Q true G1 else u σ G1 Q
def gNot (t : GT) : GT := fun σ G Q => t σ G fun c G1 => Q (!c) G1
section
variable {m : Gm} {X : Cx} {pos : Pos} {a b : Expr} {rest : List Expr} {t u : GT}
theorem qw_and1 (ha : QT m X a t) : QW m X (.BoolOp .And [a] pos) t := ⟨fun τ H σ G Q S C q => wW_of (pw_and1 (wT_pt a)) (ha.run τ H σ G Q S C q)⟩
theorem qw_or1 (ha : QT m X a t) : QW m X (.BoolOp .Or [a] pos) t := ⟨fun τ H σ G Q S C q => wW_of (pw_or1 (wT_pt a)) (ha.run τ H σ G Q S C q)⟩
theorem qw_and (ha : QT m X a t) (hb : QW m X (.BoolOp .And (b :: rest) pos) u) : QW m X (.BoolOp .And (a :: b :: rest) pos) (gAnd t u) := ⟨fun τ H σ G Q S C q => by
  refine wW_of (pw_and (wT_pt a) (wW_pw _)) ?_
  refine wT_mono (ha.run τ H σ G _ S C q) fun c H1 ⟨G1, k1, C1, q1⟩ => ?_
  cases c with
  | true => exact wW_mono (hb.run τ H1 σ G1 Q (S.keep k1) C1 q1) fun _ _ z => z.keep k1
  | false => exact ⟨G1, k1, C1, q1⟩⟩
theorem qw_or (ha : QT m X a t) (hb : QW m X (.BoolOp .Or (b :: rest) pos) u) : QW m X (.BoolOp .Or (a :: b :: rest) pos) (gOr t u) := ⟨fun τ H σ G Q S C q => by
  refine wW_of (pw_or (wT_pt a) (wW_pw _)) ?_
  refine wT_mono (ha.run τ H σ G _ S C q) fun c H1 ⟨G1, k1, C1, q1⟩ => ?_
  cases c with
  | false => exact wW_mono (hb.run τ H1 σ G1 Q (S.keep k1) C1 q1) fun _ _ z => z.keep k1
  | true => exact ⟨G1, k1, C1, q1⟩⟩
theorem qt_not (ha : QT m X a t) : QT m X (.UnaryOp .Not a pos) (gNot t) := ⟨fun τ H σ G Q S C q => by
  refine wT_of (pt_not (wT_pt a)) ?_
  exact wT_mono (ha.run τ H σ G _ S C q) fun c H1 ⟨G1, k1, C1, q1⟩ => ⟨G1, k1, C1, q1⟩⟩
/-- as values: all that comes ahead of the last is True or False -/
def gAndV (a b : GE) : GE := fun σ G Q => a σ G fun x G1 => ∃ c, x = .bl c ∧ if c = true then b σ G1 Q else Q (.bl false) G1
def gOrV (a b : GE) : GE := fun σ G Q => a σ G fun x G1 => ∃ c, x = .bl c ∧ if c = true then Q (.bl true) G1 else b σ G1 Q
variable {ga gb : GE}
theorem q_one {op} (h : QE m X a ga) : QE m X (.BoolOp op [a] pos) ga := ⟨fun τ H σ G Q S C q => wE_of (pe_one (wE_pe a)) (h.run τ H σ G Q S C q)⟩
theorem q_and (ha : QE m X a ga) (hb : QE m X (.BoolOp .And (b :: rest) pos) gb) : QE m X (.BoolOp .And (a :: b :: rest) pos) (gAndV ga gb) := ⟨fun τ H σ G Q S C q => by
  refine wE_of (pe_and (wE_pe a) (wE_pe _)) ?_
  refine wE_mono (ha.run τ H σ G _ S C q) fun v H1 ⟨d, G1, k1, C1, hd, c, e, q1⟩ => ?_
  subst e
  refine ⟨c, dat_bl.mp hd, ?_⟩
  cases c with
  | true => exact wE_mono (hb.run τ H1 σ G1 Q (S.keep k1) C1 q1) fun _ _ z => z.keep k1
  | false => exact ⟨.bl false, G1, k1, C1, dat_bl.mpr rfl, q1⟩⟩
theorem q_or (ha : QE m X a ga) (hb : QE m X (.BoolOp .Or (b :: rest) pos) gb) : QE m X (.BoolOp .Or (a :: b :: rest) pos) (gOrV ga gb) := ⟨fun τ H σ G Q S C q => by
  refine wE_of (pe_or (wE_pe a) (wE_pe _)) ?_
  refine wE_mono (ha.run τ H σ G _ S C q) fun v H1 ⟨d, G1, k1, C1, hd, c, e, q1⟩ => ?_
  subst e
  refine ⟨c, dat_bl.mp hd, ?_⟩
  cases c with
  | false => exact wE_mono (hb.run τ H1 σ G1 Q (S.keep k1) C1 q1) fun _ _ z => z.keep k1
  | true => exact ⟨.bl true, G1, k1, C1, dat_bl.mpr rfl, q1⟩⟩
/-- a value's truth -/
def truG (x : D) (G : GH) (k : Bool) : Prop := match x with
  | .bl b => k = b
  | .non => k = false
  | .int i => k = (i != 0)
  | .tup ds => k = !ds.isEmpty
  | .ref a => (∃ ds, G a = some (.lst ds) ∧ k = !ds.isEmpty) ∨ ∃ kvs, G a = some (.dct .ik kvs) ∧ k = !kvs.isEmpty
  | _ => False
def gTru (g : GE) : GT := fun σ G Q => g σ G fun x G1 => ∃ k, truG x G1 k ∧ Q k G1
theorem truV_of {H : Hp} {G : GH} {x : D} {v : V} {k : Bool} (C : Cp m X H G) (d : Dat X.K H x v) (h : truG x G k) : TruV X.K v H k := by
  cases x with
  | bl b => rw [dat_bl.mp d, show k = b from h]; exact rfl
  | non => rw [dat_non.mp d, show k = false from h]; exact rfl
  | int i => rw [dat_int.mp d, show k = (i != 0) from h]; exact rfl
  | tup ds =>
    obtain ⟨a, vs, e, ha, t⟩ := dat_tup.mp d
    subst e
    exact .inr (.inl ⟨vs, SqT.of ha, by rw [show k = !ds.isEmpty from h, All2.isEmpty t]⟩)
  | ref a =>
    rw [dat_ref.mp d]
    rcases h with ⟨ds, ha, e⟩ | ⟨kvs, ha, e⟩
    · obtain ⟨vs, h1, t⟩ := C a _ ha
      exact .inl ⟨vs, SqL.of h1, by rw [e, All2.isEmpty t]⟩
    · obtain ⟨hs, h1, t⟩ := C a _ ha
      exact .inr (.inr ⟨hs, h1, by rw [e, All2.isEmpty t]⟩)
  | _ => exact (show False from h).elim
theorem qt_tru (h : QE m X a ga) (he : ∀ whole, isTrue a X.env whole = (do let v ← whole; standAt a.pos; holding [v] (truthy v)) := by intro _; rfl) : QT m X a (gTru ga) := ⟨fun τ H σ G Q S C q =>
  wT_of (pt_truth (wE_pe a) he) (wE_mono (h.run τ H σ G _ S C q) fun v H1 ⟨d, G1, k1, C1, hd, k, ht, q1⟩ => ⟨k, truV_of C1 hd ht, G1, k1, C1, q1⟩)⟩
/-- not e as a value -/
def gNotV (g : GE) : GE := fun σ G Q => g σ G fun x G1 => ∃ k, truG x G1 k ∧ Q (.bl (!k)) G1
theorem q_not (h : QE m X a ga) : QE m X (.UnaryOp .Not a pos) (gNotV ga) := ⟨fun τ H σ G Q S C q =>
  wE_of (pe_notT (wE_pe a)) (wE_mono (h.run τ H σ G _ S C q) fun v H1 ⟨d, G1, k1, C1, hd, k, ht, q1⟩ => ⟨k, truV_of C1 hd ht, .bl (!k), G1, k1, C1, dat_bl.mpr rfl, q1⟩)⟩
end

/-! ### statements -/
def gNext : GS := fun D σ G => D.nx σ G
def gSeq (t u : GS) : GS := fun D σ G => t { D with nx := u D } σ G
def gIf (c : GT) (t u : GS) : GS := fun D σ G => c σ G fun b G1 => if b = true then t D σ G1 else u D σ G1
def gDrop (g : GE) : GS := fun D σ G => g σ G fun _ G1 => D.nx σ G1
def gRet (g : GE) : GS := fun D σ G => g σ G D.rt
def gRetN : GS := fun D _ G => D.rt .non G
def gSet (i : Nat) (g : GE) : GS := fun D σ G => g σ G fun x G1 => D.nx (σ.set i (some x)) G1
def gBreak : GS := fun D σ G => D.bk σ G
def gNever : GS := fun _ _ _ => False
section
variable {m : Gm} {X : Cx} {pos : Pos} {e : Expr} {st : Stmt} {rest sa sb : List Stmt} {t u : GS} {g : GE} {c : GT}
theorem LN.refl {H : Hp} {σ : GSt} {τ : L2.St} {G : GH} {N : GSt → GH → Prop} (S : Sl X.K H σ τ) (C : Cp m X H G) (h : N σ G) : LN m X H N τ H := ⟨σ, G, KeepT.refl H, S, C, h⟩
theorem qb_nil : QB m X [] gNext := ⟨fun τ H σ G D S C q => wB_of pss_nil (LN.refl S C q)⟩
theorem qb_cons (h : QS m X st t) (r : QB m X rest u) : QB m X (st :: rest) (gSeq t u) := ⟨fun τ H σ G D S C q => by
  refine wB_of (pss_cons (wS_ps st) (wB_pss rest)) ?_
  show wS X st { LD m X H D with nx := wB X rest (LD m X H D) } τ H
  refine wS_mono (h.run τ H σ G _ S C q) ⟨fun τ1 H1 ⟨σ1, G1, k1, S1, C1, q1⟩ => ?_, fun _ _ z => z, fun _ _ z => z, fun _ _ z => z⟩
  exact wB_mono (r.run τ1 H1 σ1 G1 D S1 C1 q1) (LD.keep k1)⟩
theorem qb_one (h : QS m X st t) : QB m X [st] t := ⟨fun τ H σ G D S C q => wB_of (pss_one (wS_ps st)) (h.run τ H σ G D S C q)⟩
theorem qs_pass : QS m X (.Pass pos) gNext := ⟨fun τ H σ G D S C q => wS_of ps_pass (LN.refl S C q)⟩
theorem qs_break : QS m X (.Break pos) gBreak := ⟨fun τ H σ G D S C q => wS_of ps_break (LN.refl S C q)⟩
theorem qs_never : QS m X st gNever := ⟨fun τ H σ G D S C q => (show False from q).elim⟩
theorem qs_if (hc : QT m X e c) (ha : QB m X sa t) (hb : QB m X sb u) : QS m X (.If e sa sb pos) (gIf c t u) := ⟨fun τ H σ G D S C q => by
  refine wS_of (ps_if (wT_pt e) (wB_pss sa) (wB_pss sb)) ?_
  refine wT_mono (hc.run τ H σ G _ S C q) fun b H1 ⟨G1, k1, C1, q1⟩ => ?_
  cases b with
  | true => exact wB_mono (ha.run τ H1 σ G1 D (S.keep k1) C1 q1) (LD.keep k1)
  | false => exact wB_mono (hb.run τ H1 σ G1 D (S.keep k1) C1 q1) (LD.keep k1)⟩
theorem qs_drop (h : QE m X e g) (hs : swapsWith e none pos.line X.env = pure false := by rfl) : QS m X (.Expr e pos) (gDrop g) := ⟨fun τ H σ G D S C q =>
  wS_of (ps_expr (wE_pe e) hs) (wE_mono (h.run τ H σ G _ S C q) fun v H1 ⟨d, G1, k1, C1, hd, q1⟩ => ⟨σ, G1, k1, S.keep k1, C1, q1⟩)⟩
theorem qs_ret (h : QE m X e g) : QS m X (.Return (some e) pos) (gRet g) := ⟨fun τ H σ G D S C q => wS_of (ps_ret (wE_pe e)) (h.run τ H σ G _ S C q)⟩
theorem qs_retN : QS m X (.Return none pos) gRetN := ⟨fun τ H σ G D S C q => wS_of ps_retN ⟨.non, G, KeepT.refl H, C, dat_non.mpr rfl, q⟩⟩
theorem qs_set {i : Nat} {x : Str} {pos' : Pos} (hN : X.N.Nodup) (hi : X.N[i]? = some x) (hx : Loc X.env.scope x) (h : QE m X e g) (hs : swapsWith e (some (.Name x pos')) pos.line X.env = pure false := by rfl)
    (hf : X.fn x = true ∨ X.env.scope.names.lookup x = some .local := by first | exact .inl rfl | exact .inr rfl | assumption) : QS m X (.Assign [.Name x pos'] e pos) (gSet i g) := ⟨fun τ H σ G D S C q =>
  wS_of (ps_set hN hi hx (wE_pe e) hs hf) (wE_mono (h.run τ H σ G _ S C q) fun v H1 ⟨d, G1, k1, C1, hd, q1⟩ => ⟨_, G1, k1, Sl.put (S.keep k1) i hd, C1, q1⟩)⟩
end
end Cz

/-! Operators over plain data. -/
namespace Cz
open PySem PySem.Spec PyProof.Rows L2

/-! ### data as the library's data -/
mutual
def py : D → PyData
  | .bl b => .bool b
  | .int i => .int i
  | .str x => .str x
  | .tup ds => .tuple (pys ds)
  | _ => .none
def pys : List D → List PyData
  | [] => []
  | d :: ds => py d :: pys ds
end
/- data whose == is known: pure, or with True and False in it -/
mutual
def D.plain : D → Bool
  | .non => true
  | .bl _ => true
  | .int _ => true
  | .str x => sOk x
  | .tup ds => plains ds
  | _ => false
def plains : List D → Bool
  | [] => true
  | d :: ds => d.plain && plains ds
end
/- the data at a value: the items of a list are plain -/
mutual
def pyv (G : GH) : D → Option PyData
  | .non => some .none
  | .bl b => some (.bool b)
  | .int i => some (.int i)
  | .str x => if sOk x then some (.str x) else none
  | .tup ds => match pyvs G ds with
    | some l => some (.tuple l)
    | none => none
  | .ref a => match G a with
    | some (.lst ds) => if plains ds then some (.list (pys ds)) else none
    | _ => none
  | _ => none
def pyvs (G : GH) : List D → Option (List PyData)
  | [] => some []
  | d :: ds => match pyv G d, pyvs G ds with
    | some p, some l => some (p :: l)
    | _, _ => none
end
mutual
theorem pyv_plain (G : GH) : ∀ d : D, d.plain = true → pyv G d = some (py d)
  | .non, _ => rfl
  | .bl _, _ => rfl
  | .int _, _ => rfl
  | .str x, h => by unfold pyv; rw [D.plain] at h; rw [if_pos h]; rfl
  | .tup ds, h => by unfold pyv py; rw [D.plain] at h; rw [pyvs_plain G ds h]
  | .ty _, h => by simp [D.plain] at h
  | .ref _, h => by simp [D.plain] at h
  | .ro _, h => by simp [D.plain] at h
theorem pyvs_plain (G : GH) : ∀ ds : List D, plains ds = true → pyvs G ds = some (pys ds)
  | [], _ => rfl
  | d :: ds, h => by rw [plains, Bool.and_eq_true] at h; unfold pyvs pys; rw [pyv_plain G d h.1, pyvs_plain G ds h.2]
end
mutual
theorem plain_of_pure : ∀ d : D, d.pure = true → d.plain = true
  | .non, _ => rfl
  | .int _, _ => rfl
  | .str x, h => h
  | .tup ds, h => by rw [D.pure] at h; rw [D.plain]; exact plains_of_pures ds h
  | .bl _, h => by simp [D.pure] at h
  | .ty _, h => by simp [D.pure] at h
  | .ref _, h => by simp [D.pure] at h
  | .ro _, h => by simp [D.pure] at h
theorem plains_of_pures : ∀ ds : List D, pures ds = true → plains ds = true
  | [], _ => rfl
  | d :: ds, h => by rw [pures, Bool.and_eq_true] at h; rw [plains, plain_of_pure d h.1, plains_of_pures ds h.2]; rfl
end
mutual
theorem lay_py : ∀ d : D, d.plain = true → (py d).canLay0 = true
  | .non, _ => rfl
  | .bl _, _ => rfl
  | .int _, _ => rfl
  | .str x, h => h
  | .tup ds, h => by rw [D.plain] at h; unfold py PyData.canLay0; exact lay_pys ds h
  | .ty _, h => by simp [D.plain] at h
  | .ref _, h => by simp [D.plain] at h
  | .ro _, h => by simp [D.plain] at h
theorem lay_pys : ∀ ds : List D, plains ds = true → PyData.canLayAll0 (pys ds) = true
  | [], _ => rfl
  | d :: ds, h => by rw [plains, Bool.and_eq_true] at h; unfold pys PyData.canLayAll0; rw [lay_py d h.1, lay_pys ds h.2]; rfl
end
mutual
theorem depth_py : ∀ d : D, (py d).depth = d.key.depth
  | .non => by unfold py PyData.depth D.key NestedKey.depth; rfl
  | .bl _ => by unfold py PyData.depth D.key NestedKey.depth; rfl
  | .int _ => by unfold py PyData.depth D.key NestedKey.depth; rfl
  | .str x => by unfold py PyData.depth D.key NestedKey.depth; rfl
  | .tup ds => by unfold py PyData.depth D.key NestedKey.depth; rw [depth_pys ds]
  | .ty _ => by unfold py PyData.depth D.key NestedKey.depth; rfl
  | .ref _ => by unfold py PyData.depth D.key NestedKey.depth; rfl
  | .ro _ => by unfold py PyData.depth D.key NestedKey.depth; rfl
theorem depth_pys : ∀ ds : List D, PyData.depthAll (pys ds) = NestedKey.depthAll (keys ds)
  | [] => by unfold pys PyData.depthAll keys NestedKey.depthAll; rfl
  | d :: ds => by unfold pys PyData.depthAll keys NestedKey.depthAll; rw [depth_py d, depth_pys ds]
end
mutual
theorem eqv_py : ∀ (d e : D), d.pure = true → e.pure = true → PyData.eqv (py d) (py e) = d.beq e
  | .non, e, _, h => by cases e <;> simp_all [D.pure, py, PyData.eqv, D.beq]
  | .int i, e, _, h => by cases e <;> simp_all [D.pure, py, PyData.eqv, D.beq, Bool.beq_eq_decide_eq]
  | .str i, e, _, h => by cases e <;> simp_all [D.pure, py, PyData.eqv, D.beq, Bool.beq_eq_decide_eq]
  | .tup ds, e, p, h => by
    cases e with
    | tup es =>
      rw [D.pure] at p h
      unfold py PyData.eqv D.beq
      exact eqvs_pys ds es p h
    | _ => simp_all [D.pure, py, PyData.eqv, D.beq]
  | .bl _, _, p, _ => by simp [D.pure] at p
  | .ty _, _, p, _ => by simp [D.pure] at p
  | .ref _, _, p, _ => by simp [D.pure] at p
  | .ro _, _, p, _ => by simp [D.pure] at p
theorem eqvs_pys : ∀ (ds es : List D), pures ds = true → pures es = true → PyData.eqvAll (pys ds) (pys es) = beqs ds es
  | [], [], _, _ => by unfold pys PyData.eqvAll beqs; rfl
  | [], _ :: _, _, _ => by unfold pys PyData.eqvAll beqs; rfl
  | _ :: _, [], _, _ => by unfold pys PyData.eqvAll beqs; rfl
  | d :: ds, e :: es, p, h => by
    rw [pures, Bool.and_eq_true] at p h
    unfold pys PyData.eqvAll beqs
    rw [eqv_py d e p.1 h.1, eqvs_pys ds es p.2 h.2]
end
theorem beq_dec (d e : D) : d.beq e = decide (d = e) := by
  cases h : d.beq e with
  | true => exact (decide_eq_true (eq_of_beq' d e h)).symm
  | false => exact (decide_eq_false fun q => by rw [q, beq_self] at h; cases h).symm
theorem beqs_dec (d e : List D) : beqs d e = decide (d = e) := by
  cases h : beqs d e with
  | true => exact (decide_eq_true (eq_of_beqs d e h)).symm
  | false => exact (decide_eq_false fun q => by rw [q, beqs_self] at h; cases h).symm
section
variable {m : Gm} {X : Cx} {H : Hp} {G : GH}
mutual
theorem dp_py (k : PySem.W.Frag) : ∀ (d : D) (v : V), d.plain = true → Dat k H d v → Dp k H v (py d)
  | .non, v, _, h => by rw [dat_non.mp h]; exact .non
  | .bl _, v, _, h => by rw [dat_bl.mp h]; exact .bl _
  | .int _, v, _, h => by rw [dat_int.mp h]; exact .int _
  | .str _, v, _, h => by rw [dat_str.mp h]; exact .str _
  | .tup ds, v, p, h => by
    rw [D.plain] at p
    obtain ⟨a, vs, e, ha, t⟩ := dat_tup.mp h
    subst e
    unfold py
    exact .tup (SqT.of ha) (dps_pys k ds vs p (dats_all2.mpr t))
  | .ty _, _, p, _ => by simp [D.plain] at p
  | .ref _, _, p, _ => by simp [D.plain] at p
  | .ro _, _, p, _ => by simp [D.plain] at p
theorem dps_pys (k : PySem.W.Frag) : ∀ (ds : List D) (vs : List V), plains ds = true → Dats k H ds vs → DpAll k H vs (pys ds)
  | [], vs, _, h => by rw [show vs = [] from h]; exact .nil
  | d :: ds, vs, p, h => by
    rw [plains, Bool.and_eq_true] at p
    unfold Dats at h
    obtain ⟨v, r, e, hd, t⟩ := h
    subst e
    unfold pys
    exact .cons (dp_py k d v p.1 hd) (dps_pys k ds r p.2 t)
end
mutual
theorem dp_of (C : Cp m X H G) : ∀ (d : D) (v : V) (p : PyData), Dat X.K H d v → pyv G d = some p → Dp X.K H v p
  | .non, v, p, h, e => by unfold pyv at e; cases e; rw [dat_non.mp h]; exact .non
  | .bl _, v, p, h, e => by unfold pyv at e; cases e; rw [dat_bl.mp h]; exact .bl _
  | .int _, v, p, h, e => by unfold pyv at e; cases e; rw [dat_int.mp h]; exact .int _
  | .str x, v, p, h, e => by
    unfold pyv at e
    by_cases q : sOk x = true
    · rw [if_pos q] at e; cases e; rw [dat_str.mp h]; exact .str _
    · rw [if_neg q] at e; cases e
  | .tup ds, v, p, h, e => by
    unfold pyv at e
    cases q : pyvs G ds with
    | none => rw [q] at e; cases e
    | some l =>
      rw [q] at e; cases e
      obtain ⟨a, vs, e, ha, t⟩ := dat_tup.mp h
      subst e
      exact .tup (SqT.of ha) (dps_of C ds vs l (dats_all2.mpr t) q)
  | .ref a, v, p, h, e => by
    unfold pyv at e
    cases q : G a with
    | none => rw [q] at e; cases e
    | some o =>
      rw [q] at e
      cases o with
      | lst ds =>
        simp only at e
        by_cases z : plains ds = true
        · rw [if_pos z] at e; cases e
          obtain ⟨vs, ha, t⟩ := C a _ q
          rw [dat_ref.mp h]
          exact .lst (SqL.of ha) (dps_pys X.K ds vs z (dats_all2.mpr t))
        · rw [if_neg z] at e; cases e
      | _ => cases e
  | .ty _, _, _, _, e => by unfold pyv at e; cases e
  | .ro _, _, _, _, e => by unfold pyv at e; cases e
theorem dps_of (C : Cp m X H G) : ∀ (ds : List D) (vs : List V) (l : List PyData), Dats X.K H ds vs → pyvs G ds = some l → DpAll X.K H vs l
  | [], vs, l, h, e => by unfold pyvs at e; cases e; rw [show vs = [] from h]; exact .nil
  | d :: ds, vs, l, h, e => by
    unfold pyvs at e
    unfold Dats at h
    obtain ⟨v, r, e1, hd, t⟩ := h
    subst e1
    cases q1 : pyv G d with
    | none => rw [q1] at e; cases e
    | some p =>
      cases q2 : pyvs G ds with
      | none => rw [q1, q2] at e; cases e
      | some l' =>
        rw [q1, q2] at e; cases e
        exact .cons (dp_of C d v p hd q1) (dps_of C ds r l' t q2)
end
end

/-! ### == and != -/
def gEq (neg : Bool) : G2 := fun x y G Q => ∃ p q, pyv G x = some p ∧ pyv G y = some q ∧ SeqAt.shaped p = true ∧ SeqAt.shaped q = true ∧ Q (.bl (if neg then !PyData.eqv p q else PyData.eqv p q)) G
section
variable {m : Gm} {X : Cx} {x y : D} {G : GH} {Q : GQ}
theorem says_eq : Says2 m X (rEqD X.K) (gEq false) := fun H G x y v u Q Qh C dx dy I ⟨p, q, e1, e2, s1, s2, z⟩ =>
  ⟨p, q, dp_of C x v p dx e1, dp_of C y u q dy e2, s1, s2, I _ G _ H (KeepT.refl H) C (dat_bl.mpr rfl) z⟩
theorem says_ne : Says2 m X (rNeD X.K) (gEq true) := fun H G x y v u Q Qh C dx dy I ⟨p, q, e1, e2, s1, s2, z⟩ =>
  ⟨p, q, dp_of C x v p dx e1, dp_of C y u q dy e2, s1, s2, I _ G _ H (KeepT.refl H) C (dat_bl.mpr rfl) z⟩
theorem shaped_py {d : D} (p : d.plain = true) (h : d.key.depth ≤ 64) : SeqAt.shaped (py d) = true := by
  unfold SeqAt.shaped
  rw [lay_py d p, depth_py, decide_eq_true h]; rfl
theorem gEq_pure {neg : Bool} (h1 : Pkd x) (h2 : Pkd y) (h : Q (.bl (if neg then !decide (x = y) else decide (x = y))) G) : gEq neg x y G Q := by
  refine ⟨py x, py y, pyv_plain G x (plain_of_pure x h1.1), pyv_plain G y (plain_of_pure y h2.1), shaped_py (plain_of_pure x h1.1) (Nat.le_trans h1.2 (by decide)), shaped_py (plain_of_pure y h2.1) (Nat.le_trans h2.2 (by decide)), ?_⟩
  rw [eqv_py x y h1.1 h2.1, beq_dec]
  exact h
theorem pkd_int (i : Int) : Pkd (.int i) := ⟨rfl, by unfold D.key NestedKey.depth; decide⟩
theorem pkd_non : Pkd .non := ⟨rfl, by unfold D.key NestedKey.depth; decide⟩
theorem pkd_str {x : Str} (h : sOk x = true) : Pkd (.str x) := ⟨h, by unfold D.key NestedKey.depth; decide⟩
theorem gEq_int {neg : Bool} {i j : Int} (h : Q (.bl (if neg then !decide (i = j) else decide (i = j))) G) : gEq neg (.int i) (.int j) G Q := by
  refine gEq_pure (pkd_int i) (pkd_int j) ?_
  rw [show decide (D.int i = D.int j) = decide (i = j) from by simp]
  exact h
theorem gEq_bl {neg : Bool} {i j : Bool} (h : Q (.bl (if neg then !decide (i = j) else decide (i = j))) G) : gEq neg (.bl i) (.bl j) G Q := by
  refine ⟨.bool i, .bool j, rfl, rfl, rfl, rfl, ?_⟩
  have e : PyData.eqv (.bool i) (.bool j) = decide (i = j) := by unfold PyData.eqv; exact Bool.beq_eq_decide_eq i j
  rw [e]; exact h
end
end Cz

/-! Ints, lists, tuples: operators, subscripts, slices. -/
namespace Cz
open PySem PySem.Spec PyProof.Rows L2
section
variable {m : Gm} {X : Cx} {H : Hp} {G : GH} {Q : GQ} {Qh : VK}
theorem imp_here {d : D} {v : V} (I : Imp m X H Q Qh) (C : Cp m X H G) (hd : Dat X.K H d v) (q : Q d G) : Qh v H := I d G v H (KeepT.refl H) C hd q
/-- a new tuple -/
theorem imp_tup {ds : List D} {vs : List V} {p : Addr} (I : Imp m X H Q Qh) (C : Cp m X H G) (hp : H p = none) (hd : All2 (Dat X.K H) ds vs) (q : Q (.tup ds) G) : Qh (.ref p) (upd H p (.tup vs)) :=
  I (.tup ds) G _ _ (KeepT.new hp) (C.ext hp) (dat_tup.mpr ⟨p, vs, rfl, upd_same, all_keep (KeepT.new hp) hd⟩) q
/-- a new list -/
theorem imp_lst {ds : List D} {vs : List V} {p : Addr} (I : Imp m X H Q Qh) (C : Cp m X H G) (hp : H p = none) (hd : All2 (Dat X.K H) ds vs) (q : ∀ r, G r = none → Q (.ref r) (G.set r (.lst ds))) : Qh (.ref p) (upd H p (.lst vs)) :=
  I (.ref p) _ _ _ (KeepT.new hp) (new_lst C hp hd) (dat_ref.mpr rfl) (q p (C.free hp))
/-- a list is changed -/
theorem cp_lst {ds ds' : List D} {vs' : List V} {p : Addr} (C : Cp m X H G) (h : G p = some (.lst ds)) (hd : All2 (Dat X.K H) ds' vs') : KeepT H (upd H p (.lst vs')) ∧ Cp m X (upd H p (.lst vs')) (G.set p (.lst ds')) := by
  obtain ⟨vs, e, _⟩ := C p _ h
  have k : KeepT H (upd H p (.lst vs')) := KeepT.mut e (fun _ z => (nomatch z)) fun _ _ z => (nomatch z)
  exact ⟨k, C.upd k ⟨vs', upd_same, all_keep k hd⟩⟩
end

/-! ### + -/
def gAdd : G2 := fun x y G Q => match x, y with
  | .int i, .int j => Q (.int (i + j)) G
  | .tup a, .tup b => a.length + b.length ≤ lim ∧ Q (.tup (a ++ b)) G
  | .ref p, .ref q => ∃ a b, G p = some (.lst a) ∧ G q = some (.lst b) ∧ a.length + b.length ≤ lim ∧ ∀ r, G r = none → Q (.ref r) (G.set r (.lst (a ++ b)))
  | _, _ => False
abbrev rAddA (K : PySem.W.Frag) : R2 := fun x y H Q => rI0 (fun i j => .int (i + j)) x y H Q ∨ (rCatA K x y H Q ∨ rCat x y H Q)
theorem op_addA {X : Cx} : OpR X (binaryOp .Add) (rAddA X.K) := op_add.or (op_catA.or op_cat)
theorem says_add {m : Gm} {X : Cx} : Says2 m X (rAddA X.K) gAdd := by
  intro H G x y v u Q Qh C dx dy I h
  unfold gAdd at h
  split at h
  · exact .inl ⟨_, _, dat_int.mp dx, dat_int.mp dy, imp_here I C (dat_int.mpr rfl) h⟩
  · rename_i a b
    obtain ⟨l, q⟩ := h
    obtain ⟨p, vs, e1, h1, t1⟩ := dat_tup.mp dx
    obtain ⟨r, us, e2, h2, t2⟩ := dat_tup.mp dy
    refine .inr (.inl ⟨p, r, vs, us, e1, e2, SqT.of h1, SqT.of h2, by rw [← All2.length t1, ← All2.length t2]; exact lim_le l, fun e => ?_, fun _ e => ?_, fun _ _ z hz => ?_⟩)
    · have : a = [] := by have := All2.length t1; rw [e] at this; exact List.eq_nil_of_length_eq_zero this
      subst this
      exact imp_here I C (dat_tup.mpr ⟨r, us, rfl, h2, t2⟩) q
    · have : b = [] := by have := All2.length t2; rw [e] at this; exact List.eq_nil_of_length_eq_zero this
      subst this
      rw [List.append_nil] at q
      exact imp_here I C (dat_tup.mpr ⟨p, vs, rfl, h1, t1⟩) q
    · exact imp_tup I C hz (t1.append t2) q
  · obtain ⟨a, b, h1, h2, l, q⟩ := h
    obtain ⟨vs, e1, t1⟩ := C _ _ h1
    obtain ⟨us, e2, t2⟩ := C _ _ h2
    exact .inr (.inr ⟨_, _, vs, us, dat_ref.mp dx, dat_ref.mp dy, e1, e2, by rw [← All2.length t1, ← All2.length t2]; exact lim_le l, fun p hp => imp_lst I C hp (t1.append t2) q⟩)
  · exact h.elim

/-! ### -, *, //, % -/
def gInt (c : Int → Int → Prop) (f : Int → Int → D) : G2 := fun x y G Q => match x, y with
  | .int i, .int j => c i j ∧ Q (f i j) G
  | _, _ => False
theorem says_int {m : Gm} {X : Cx} {c : Int → Int → Prop} {f : Int → Int → D} {g : Int → Int → V} (hf : ∀ i j H, Dat X.K H (f i j) (g i j)) : Says2 m X (rI c g) (gInt c f) := by
  intro H G x y v u Q Qh C dx dy I h
  unfold gInt at h
  split at h
  · exact ⟨_, _, dat_int.mp dx, dat_int.mp dy, h.1, imp_here I C (hf _ _ H) h.2⟩
  · exact h.elim
def gInt0 (f : Int → Int → D) : G2 := fun x y G Q => match x, y with
  | .int i, .int j => Q (f i j) G
  | _, _ => False
theorem says_int0 {m : Gm} {X : Cx} {f : Int → Int → D} {g : Int → Int → V} (hf : ∀ i j H, Dat X.K H (f i j) (g i j)) : Says2 m X (rI0 g) (gInt0 f) := by
  intro H G x y v u Q Qh C dx dy I h
  unfold gInt0 at h
  split at h
  · exact ⟨_, _, dat_int.mp dx, dat_int.mp dy, imp_here I C (hf _ _ H) h⟩
  · exact h.elim
abbrev gSub : G2 := gInt0 fun i j => .int (i - j)
abbrev gMod : G2 := gInt (fun _ j => 0 < j) fun i j => .int (i % j)
abbrev gDiv : G2 := gInt CDiv fun i j => .int (i / j)
abbrev gLt : G2 := gInt0 fun i j => .bl (decide (i < j))
abbrev gLe : G2 := gInt0 fun i j => .bl (decide (i ≤ j))
abbrev gGt : G2 := gInt0 fun i j => .bl (decide (j < i))
abbrev gGe : G2 := gInt0 fun i j => .bl (decide (j ≤ i))
section
variable {m : Gm} {X : Cx} {pos : Pos} {a b c : Expr} {ga gb gc : GE}
theorem dI {K : PySem.W.Frag} {H : Hp} (i : Int) : Dat K H (.int i) (.int i) := dat_int.mpr rfl
theorem dB {K : PySem.W.Frag} {H : Hp} (i : Bool) : Dat K H (.bl i) (.bl i) := dat_bl.mpr rfl
theorem q_add (ha : QE m X a ga) (hb : QE m X b gb) : QE m X (.BinOp a .Add b pos) (gBin gAdd ga gb) := q_bin op_addA says_add ha hb
theorem q_sub (ha : QE m X a ga) (hb : QE m X b gb) : QE m X (.BinOp a .Sub b pos) (gBin gSub ga gb) := q_bin op_sub (says_int0 fun i j H => dI _) ha hb
theorem q_mod (ha : QE m X a ga) (hb : QE m X b gb) : QE m X (.BinOp a .Mod b pos) (gBin gMod ga gb) := q_bin op_mod (says_int fun i j H => dI _) ha hb
theorem q_div (ha : QE m X a ga) (hb : QE m X b gb) : QE m X (.BinOp a .FloorDiv b pos) (gBin gDiv ga gb) := q_bin op_fdiv (says_int fun i j H => dI _) ha hb
theorem q_lt (ha : QE m X a ga) (hb : QE m X b gb) : QE m X (.Compare a [.Lt] [b] pos) (gBin gLt ga gb) := q_cmp op_lt (says_int0 fun i j H => dB _) (nomark _) ha hb
theorem q_le (ha : QE m X a ga) (hb : QE m X b gb) : QE m X (.Compare a [.LtE] [b] pos) (gBin gLe ga gb) := q_cmp op_le (says_int0 fun i j H => dB _) (nomark _) ha hb
theorem q_gt (ha : QE m X a ga) (hb : QE m X b gb) : QE m X (.Compare a [.Gt] [b] pos) (gBin gGt ga gb) := q_cmp op_gt (says_int0 fun i j H => dB _) (nomark _) ha hb
theorem q_ge (ha : QE m X a ga) (hb : QE m X b gb) : QE m X (.Compare a [.GtE] [b] pos) (gBin gGe ga gb) := q_cmp op_ge (says_int0 fun i j H => dB _) (nomark _) ha hb
theorem q_eq (hu : X.A.units + 64 < cLine) (ha : QE m X a ga) (hb : QE m X b gb) : QE m X (.Compare a [.Eq] [b] pos) (gBin (gEq false) ga gb) := q_cmp (op_eqD hu) says_eq (nomark _) ha hb
theorem q_ne (hu : X.A.units + 64 < cLine) (ha : QE m X a ga) (hb : QE m X b gb) : QE m X (.Compare a [.NotEq] [b] pos) (gBin (gEq true) ga gb) := q_cmp (op_neD hu) says_ne (nomark _) ha hb
theorem qt_lt (ha : QE m X a ga) (hb : QE m X b gb) : QT m X (.Compare a [.Lt] [b] pos) (gTest (gBin gLt ga gb)) := qt_cmp op_lt (says_int0 fun i j H => dB _) (nomark _) ha hb
theorem qt_le (ha : QE m X a ga) (hb : QE m X b gb) : QT m X (.Compare a [.LtE] [b] pos) (gTest (gBin gLe ga gb)) := qt_cmp op_le (says_int0 fun i j H => dB _) (nomark _) ha hb
theorem qt_gt (ha : QE m X a ga) (hb : QE m X b gb) : QT m X (.Compare a [.Gt] [b] pos) (gTest (gBin gGt ga gb)) := qt_cmp op_gt (says_int0 fun i j H => dB _) (nomark _) ha hb
theorem qt_ge (ha : QE m X a ga) (hb : QE m X b gb) : QT m X (.Compare a [.GtE] [b] pos) (gTest (gBin gGe ga gb)) := qt_cmp op_ge (says_int0 fun i j H => dB _) (nomark _) ha hb
theorem qt_eq (hu : X.A.units + 64 < cLine) (ha : QE m X a ga) (hb : QE m X b gb) : QT m X (.Compare a [.Eq] [b] pos) (gTest (gBin (gEq false) ga gb)) := qt_cmp (op_eqD hu) says_eq (nomark _) ha hb
theorem qt_ne (hu : X.A.units + 64 < cLine) (ha : QE m X a ga) (hb : QE m X b gb) : QT m X (.Compare a [.NotEq] [b] pos) (gTest (gBin (gEq true) ga gb)) := qt_cmp (op_neD hu) says_ne (nomark _) ha hb
/-- -e -/
def gNeg (g : GE) : GE := fun σ G Q => g σ G fun x G1 => ∃ i, x = .int i ∧ Q (.int (-i)) G1
theorem q_neg (ha : QE m X a ga) : QE m X (.UnaryOp .USub a pos) (gNeg ga) := ⟨fun τ H σ G Q S C q =>
  wE_of (pe_un un_neg (wE_pe a)) (wE_mono (ha.run τ H σ G _ S C q) fun v H1 ⟨d, G1, k1, C1, hd, i, e, q1⟩ => by
    subst e
    exact ⟨i, dat_int.mp hd, .int (-i), G1, k1, C1, dI _, q1⟩)⟩
end
/-- is None, is not None; of True, False -/
def gIs (neg : Bool) : G2 := fun x y G Q => match x, y with
  | .bl a, .bl b => Q (.bl (if neg then !decide (a = b) else decide (a = b))) G
  | x, .non => Q (.bl (if neg then !decide (x = .non) else decide (x = .non))) G
  | _, _ => False
section
variable {m : Gm} {X : Cx} {pos : Pos} {a b c : Expr} {ga gb gc : GE}
theorem dat_isNone {K : PySem.W.Frag} {H : Hp} {x : D} {v : V} (h : Dat K H x v) : decide (v = .non) = decide (x = .non) := by
  cases x with
  | non => rw [dat_non.mp h]; simp
  | bl _ => rw [dat_bl.mp h]; simp
  | int _ => rw [dat_int.mp h]; simp
  | str _ => rw [dat_str.mp h]; simp
  | ty _ => rw [dat_ty.mp h]; simp
  | ref _ => rw [dat_ref.mp h]; simp
  | ro _ => obtain ⟨a, vs, e, _⟩ := dat_ro h; rw [e]; simp
  | tup _ => obtain ⟨a, vs, e, _⟩ := dat_tup.mp h; rw [e]; simp
abbrev rIsA : R2 := fun x y H Q => rIsB x y H Q ∨ (y = .non ∧ Q (.bl (decide (x = .non))) H)
abbrev rNotA : R2 := fun x y H Q => rNotB x y H Q ∨ (y = .non ∧ Q (.bl (!decide (x = .non))) H)
theorem says_is : Says2 m X rIsA (gIs false) := by
  intro H G x y v u Q Qh C dx dy I h
  unfold gIs at h
  split at h
  · exact .inl ⟨_, _, dat_bl.mp dx, dat_bl.mp dy, imp_here I C (dB _) h⟩
  · refine .inr ⟨dat_non.mp dy, ?_⟩
    rw [dat_isNone dx]
    exact imp_here I C (dB _) h
  · exact h.elim
theorem says_isnot : Says2 m X rNotA (gIs true) := by
  intro H G x y v u Q Qh C dx dy I h
  unfold gIs at h
  split at h
  · exact .inl ⟨_, _, dat_bl.mp dx, dat_bl.mp dy, imp_here I C (dB _) h⟩
  · refine .inr ⟨dat_non.mp dy, ?_⟩
    rw [dat_isNone dx]
    exact imp_here I C (dB _) h
  · exact h.elim
theorem qt_is (ha : QE m X a ga) (hb : QE m X b gb) : QT m X (.Compare a [.Is] [b] pos) (gTest (gBin (gIs false) ga gb)) := qt_cmp (op_isBl.or op_isN) says_is (nomark _) ha hb
theorem qt_isnot (ha : QE m X a ga) (hb : QE m X b gb) : QT m X (.Compare a [.IsNot] [b] pos) (gTest (gBin (gIs true) ga gb)) := qt_cmp (op_notBl.or op_notN) says_isnot (nomark _) ha hb
theorem q_is (ha : QE m X a ga) (hb : QE m X b gb) : QE m X (.Compare a [.Is] [b] pos) (gBin (gIs false) ga gb) := q_cmp (op_isBl.or op_isN) says_is (nomark _) ha hb
theorem q_isnot (ha : QE m X a ga) (hb : QE m X b gb) : QE m X (.Compare a [.IsNot] [b] pos) (gBin (gIs true) ga gb) := q_cmp (op_notBl.or op_notN) says_isnot (nomark _) ha hb
end

/-! ### a tuple once -/
theorem tuple_mul1 (l : Addr) (items : Array Value) (n : Nat) (dd : Option Addr) (sl : Array (Option Value)) (u : Tok) :
    Meets (Builtin.«tuple.__mul__» ⟨[.ref l, .int 1 u], []⟩) (fun _ R s => s.heap.get? l = some { cls := .type "tuple", dict := dd, data := .seq items n, slots := sl } ∧ R (.ok (.ret (Value.ref l))) s) :=
  .of_wp fun prog w A R s h => by
    obtain ⟨hp, g, d, tk, os⟩ := s
    obtain ⟨hl, h⟩ := h
    have f1 := AutoSeq1.idx_int
    wp_walk using wpAny_loadPart' hl
    repeat (first
      | (refine wpAny_ite_false (decide_eq_false (by decide)) ?_; wp_walk using wpAny_loadPart' hl)
      | (refine wpAny_ite_true (by simp) ?_; wp_walk using wpAny_loadPart' hl))
    exact ⟨_, rfl, h⟩
theorem op_rep1 {X : Cx} : OpR X (binaryOp .Mult) (fun x y H Q => ∃ l xs, x = .ref l ∧ y = .int 1 ∧ SqT X.K H l xs ∧ Q (.ref l) H) := by
  intro pins s σ H x y v u Q I rx ry h
  obtain ⟨l, xs, rfl, rfl, hT, q⟩ := h
  cases rx
  obtain ⟨t, rfl⟩ := ry
  obtain ⟨its, r, ⟨⟨cls, dd, data, sl⟩, ho, hc, n, hd⟩, hs⟩ := I.tuple hT
  simp only at hc hd
  subst hc hd
  exact wpAny_binaryOp_repeat_ref (T := "tuple") (U := "int") (by decide) ⟨_, ho, rfl⟩ (fun s' => typeIs_int s' 1 t) noFill_tuple_mul F.fills_int_mul F.slot_int_rmul repeat_tuple F.slot_int_index.lookup
    (call_meets F.slot_int_rmul (typeIs_int s 1 t) F.entry_int_rmul (F.args_int_rmul_2 _ _) (int_rmul_tuple 1 t l its.toArray n dd sl)
      ⟨ho, rfl, ⟨_, ho, rfl⟩, call_meets F.slot_tuple_mul ⟨_, ho, rfl⟩ F.entry_tuple_mul (F.args_tuple_mul_2 _ _) (tuple_mul1 l its.toArray n dd sl t) ⟨ho, .ref l, H, I, rfl, q⟩⟩)
/-! ### * -/
def gMul : G2 := fun x y G Q => match x, y with
  | .int i, .int j => CMul i j ∧ Q (.int (i * j)) G
  | .tup a, .int k => a ≠ [] ∧ 1 ≤ k ∧ k ≤ 1000 ∧ a.length ≤ 1000 ∧ Q (.tup (List.replicate k.toNat a).flatten) G
  | .ref p, .int k => ∃ a, G p = some (.lst a) ∧ 0 ≤ k ∧ k ≤ 1000 ∧ a.length ≤ 100 ∧ ∀ r, G r = none → Q (.ref r) (G.set r (.lst (List.replicate k.toNat a).flatten))
  | _, _ => False
abbrev rMulA (K : PySem.W.Frag) : R2 := fun x y H Q => rI CMul (fun i j => .int (i * j)) x y H Q ∨ (rRepT K x y H Q ∨ ((∃ l xs, x = .ref l ∧ y = .int 1 ∧ SqT K H l xs ∧ Q (.ref l) H) ∨ rRep x y H Q))
theorem says_mul {m : Gm} {X : Cx} : Says2 m X (rMulA X.K) gMul := by
  intro H G x y v u Q Qh C dx dy I h
  unfold gMul at h
  split at h
  · exact .inl ⟨_, _, dat_int.mp dx, dat_int.mp dy, h.1, imp_here I C (dI _) h.2⟩
  · rename_i a k
    obtain ⟨ne, l1, l2, l3, q⟩ := h
    obtain ⟨p, vs, e1, h1, t1⟩ := dat_tup.mp dx
    by_cases hk : k = 1
    · subst hk
      refine .inr (.inr (.inl ⟨p, vs, e1, dat_int.mp dy, SqT.of h1, ?_⟩))
      have e : (List.replicate (1 : Int).toNat a).flatten = a := by simp
      rw [e] at q
      exact imp_here I C (dat_tup.mpr ⟨p, vs, rfl, h1, t1⟩) q
    · refine .inr (.inl ⟨p, k, vs, e1, dat_int.mp dy, SqT.of h1, fun e => ne ?_, by omega, l2, by rw [← All2.length t1]; exact l3, fun z hz => imp_tup I C hz (t1.rep k.toNat) q⟩)
      have := All2.length t1
      rw [e] at this
      exact List.eq_nil_of_length_eq_zero this
  · rename_i p k
    obtain ⟨a, h1, l1, l2, l3, q⟩ := h
    obtain ⟨vs, e1, t1⟩ := C _ _ h1
    refine .inr (.inr (.inr ⟨p, k, vs, dat_ref.mp dx, dat_int.mp dy, e1, by omega, by omega, ?_, fun z hz => imp_lst I C hz (t1.rep k.toNat) q⟩))
    rw [← All2.length t1, sizeLine_eq]
    have : a.length * k.toNat ≤ 100 * 1000 := Nat.mul_le_mul l3 (by omega)
    omega
  · exact h.elim
theorem q_mul {m : Gm} {X : Cx} {pos : Pos} {a b : Expr} {ga gb : GE} (ha : QE m X a ga) (hb : QE m X b gb) : QE m X (.BinOp a .Mult b pos) (gBin gMul ga gb) := q_bin (op_mul.or (op_repT.or (op_rep1.or op_rep))) says_mul ha hb
end Cz

/-! Dicts: of ints and texts; of nested tuples, asked for anything. -/
namespace Cz
open PySem PySem.Spec PyProof.Rows L2

/-! ### what a dict says -/
def dget : List (D × D) → D → Option D
  | [], _ => none
  | p :: r, k => if p.1 = k then some p.2 else dget r k
def dput (kvs : List (D × D)) (k v : D) : List (D × D) := if (dget kvs k).isSome then kvs.map (fun p => if p.1 = k then (p.1, v) else p) else kvs ++ [(k, v)]
theorem dget_none_iff : ∀ {kvs : List (D × D)} {k : D}, dget kvs k = none ↔ k ∉ kvs.map (·.1)
  | [], k => by simp [dget]
  | p :: r, k => by
    unfold dget
    by_cases h : p.1 = k
    · rw [if_pos h]; simp [h]
    · rw [if_neg h, dget_none_iff]; simp [List.mem_cons, Ne.symm h]
theorem dget_map (k j v : D) : ∀ kvs : List (D × D), dget (kvs.map fun p => if p.1 = k then (p.1, v) else p) j = (dget kvs j).map fun x => if j = k then v else x
  | [] => rfl
  | p :: r => by
    rw [List.map_cons]
    unfold dget
    by_cases h : p.1 = k
    · rw [if_pos h]
      by_cases q : p.1 = j
      · rw [if_pos q, if_pos q]; simp [← q, h]
      · rw [if_neg q, if_neg q, dget_map k j v r]
    · rw [if_neg h]
      by_cases q : p.1 = j
      · rw [if_pos q, if_pos q]; simp [← q, h]
      · rw [if_neg q, if_neg q, dget_map k j v r]
theorem dget_snoc (j k v : D) : ∀ kvs : List (D × D), dget kvs k = none → dget (kvs ++ [(k, v)]) j = if j = k then some v else dget kvs j
  | [], _ => by
    show (if k = j then some v else none) = _
    by_cases h : k = j
    · rw [if_pos h, if_pos h.symm]
    · rw [if_neg h, if_neg (Ne.symm h)]; rfl
  | p :: r, h => by
    unfold dget at h
    by_cases q : p.1 = k
    · rw [if_pos q] at h; cases h
    · rw [if_neg q] at h
      show dget (p :: (r ++ [(k, v)])) j = _
      unfold dget
      by_cases z : p.1 = j
      · rw [if_pos z, if_pos z, if_neg (fun e => q (z.trans e))]
      · rw [if_neg z, if_neg z, dget_snoc j k v r h]
theorem dget_dput (kvs : List (D × D)) (k j v : D) : dget (dput kvs k v) j = if j = k then some v else dget kvs j := by
  unfold dput
  by_cases h : (dget kvs k).isSome = true
  · rw [if_pos h, dget_map]
    by_cases q : j = k
    · rw [if_pos q, q]
      obtain ⟨x, e⟩ := Option.isSome_iff_exists.mp h
      rw [e]; simp
    · rw [if_neg q]
      cases dget kvs j <;> simp [q]
  · rw [if_neg h]
    exact dget_snoc j k v kvs (by simpa using h)
theorem dput_length (kvs : List (D × D)) (k v : D) : (dput kvs k v).length ≤ kvs.length + 1 := by
  unfold dput
  split
  · rw [List.length_map]; exact Nat.le_succ _
  · rw [List.length_append]; exact Nat.le_refl _
theorem dput_keys {kvs : List (D × D)} (k v : D) : (dput kvs k v).map (·.1) = if (dget kvs k).isSome then kvs.map (·.1) else kvs.map (·.1) ++ [k] := by
  unfold dput
  split
  · rw [List.map_map]
    refine List.map_congr_left fun p _ => ?_
    simp only [Function.comp_apply]
    split <;> rfl
  · rw [List.map_append]; rfl
theorem dput_nodup {kvs : List (D × D)} (k v : D) (h : (kvs.map (·.1)).Nodup) : ((dput kvs k v).map (·.1)).Nodup := by
  rw [dput_keys]
  split
  · exact h
  · rename_i q
    refine nd_snoc h ?_
    exact dget_none_iff.mp (by simpa using q)

/-! ### keys: ints and texts -/
theorem keyD_inj {a b : Key} : keyD a = keyD b ↔ a = b := by
  constructor
  · intro h
    cases a <;> cases b <;> simp_all [keyD]
  · intro h; rw [h]
def toKey : D → Option Key
  | .int i => some (.inl i)
  | .str x => some (.inr x)
  | _ => none
theorem toKey_keyD {d : D} {k : Key} (h : toKey d = some k) : d = keyD k := by
  cases d <;> simp [toKey] at h <;> (subst h; rfl)
theorem dat_keyD {K : PySem.W.Frag} {H : Hp} {k : Key} {v : V} (h : Dat K H (keyD k) v) : v = kV k := by
  cases k with
  | inl i => exact dat_int.mp h
  | inr x => exact dat_str.mp h
theorem dat_kV {K : PySem.W.Frag} {H : Hp} (k : Key) : Dat K H (keyD k) (kV k) := by
  cases k with
  | inl i => exact dat_int.mpr rfl
  | inr x => exact dat_str.mpr rfl
section
variable {K : PySem.W.Frag} {H : Hp}
theorem ik_get : ∀ {kvs : List (D × D)} {hs : List (Key × V)} (k : Key), All2 (IkRel K H) kvs hs → match dget kvs (keyD k) with
    | some d => ∃ v, valV hs k = some v ∧ Dat K H d v
    | none => valV hs k = none
  | [], _, k, h => by rw [show _ = [] from h]; rfl
  | p :: r, _, k, ⟨q, t, e, ⟨h1, h2⟩, z⟩ => by
    subst e
    unfold dget
    by_cases c : p.1 = keyD k
    · rw [if_pos c]
      have : q.1 = k := keyD_inj.mp (h1.symm.trans c)
      exact ⟨q.2, valV_pos this, h2⟩
    · rw [if_neg c]
      have : ¬ q.1 = k := fun e => c (by rw [h1, e])
      rw [valV_neg this]
      exact ik_get k z
theorem ik_some {kvs : List (D × D)} {hs : List (Key × V)} {k : Key} {d : D} (t : All2 (IkRel K H) kvs hs) (h : dget kvs (keyD k) = some d) : ∃ v, valV hs k = some v ∧ Dat K H d v := by
  have := ik_get k t
  rw [h] at this
  exact this
theorem ik_none {kvs : List (D × D)} {hs : List (Key × V)} {k : Key} (t : All2 (IkRel K H) kvs hs) (h : dget kvs (keyD k) = none) : valV hs k = none := by
  have := ik_get k t
  rw [h] at this
  exact this
theorem ik_isSome {kvs : List (D × D)} {hs : List (Key × V)} (k : Key) (t : All2 (IkRel K H) kvs hs) : (valV hs k).isSome = (dget kvs (keyD k)).isSome := by
  cases e : dget kvs (keyD k) with
  | none => rw [ik_none t e] <;> rfl
  | some d => obtain ⟨v, h, _⟩ := ik_some t e; rw [h]; rfl
theorem ik_map {k : Key} {d : D} {v : V} (hd : Dat K H d v) : ∀ {kvs : List (D × D)} {hs : List (Key × V)}, All2 (IkRel K H) kvs hs → All2 (IkRel K H) (kvs.map fun p => if p.1 = keyD k then (p.1, d) else p) (hs.map fun kv => if kv.1 = k then (kv.1, v) else kv)
  | [], _, h => by rw [show _ = [] from h]; exact .nil
  | p :: r, _, ⟨q, t, e, h, z⟩ => by
    subst e
    refine .cons ?_ (ik_map hd z)
    show IkRel K H (if p.1 = keyD k then (p.1, d) else p) (if q.1 = k then (q.1, v) else q)
    by_cases c : q.1 = k
    · rw [if_pos c, if_pos (by rw [h.1, c])]
      exact ⟨h.1, hd⟩
    · rw [if_neg c, if_neg (fun e => c (keyD_inj.mp (h.1.symm.trans e)))]
      exact h
theorem ik_put {kvs : List (D × D)} {hs : List (Key × V)} {k : Key} {d : D} {v : V} (t : All2 (IkRel K H) kvs hs) (hd : Dat K H d v) : All2 (IkRel K H) (dput kvs (keyD k) d) (putK hs k v) := by
  unfold dput putK
  rw [show (hs.any fun kv => decide (kv.1 = k)) = (dget kvs (keyD k)).isSome from by rw [valV_any]; exact ik_isSome k t]
  split
  · exact ik_map hd t
  · exact t.snoc ⟨rfl, hd⟩
end

/-! ### keys: nested tuples -/
section
variable {P : Program} {w : World} {K : PySem.W.Frag} {H : Hp} {h : Heap}
mutual
theorem nested_of (ok : HOk P w H h) : ∀ (d : D) (v : V) (u : Value), d.pure = true → Dat K H d v → RelV v u → NestedIs h d.key u
  | .non, v, u, _, hd, r => by rw [dat_non.mp hd] at r; cases r; exact .none
  | .int i, v, u, _, hd, r => by rw [dat_int.mp hd] at r; obtain ⟨t, e⟩ := r; subst e; exact .int _ _
  | .str x, v, u, _, hd, r => by rw [dat_str.mp hd] at r; obtain ⟨t, e⟩ := r; subst e; exact .text _ _
  | .tup ds, v, u, p, hd, r => by
    rw [D.pure] at p
    obtain ⟨a, vs, e, ha, t⟩ := dat_tup.mp hd
    subst e
    cases r
    obtain ⟨_, its, rv, o, h1, h2, n, h3⟩ := (show ObjOk P w H h a (.tup vs) from ok a _ ha)
    exact .tup h1 h2 h3 (by simpa using nesteds_of ok ds vs its p (dats_all2.mpr t) rv)
  | .bl _, _, _, p, _, _ => by simp [D.pure] at p
  | .ty _, _, _, p, _, _ => by simp [D.pure] at p
  | .ref _, _, _, p, _, _ => by simp [D.pure] at p
  | .ro _, _, _, p, _, _ => by simp [D.pure] at p
theorem nesteds_of (ok : HOk P w H h) : ∀ (ds : List D) (vs : List V) (us : List Value), pures ds = true → Dats K H ds vs → Vals vs us → NestedAll h (keys ds) us
  | [], vs, us, _, hd, r => by rw [show vs = [] from hd] at r; cases r; exact .nil
  | d :: ds, vs, us, p, hd, r => by
    rw [pures, Bool.and_eq_true] at p
    unfold Dats at hd
    obtain ⟨v, rs, e, h1, h2⟩ := hd
    subst e
    cases r with
    | cons r1 r2 => exact .cons (nested_of ok d v _ p.1 h1 r1) (nesteds_of ok ds rs _ p.2 h2 r2)
end
theorem nk_keys_nodup : ∀ {kvs : List (D × D)} {xs : List (NestedKey × Addr × Value)}, All2 (NkRel K H) kvs xs → (kvs.map (·.1)).Nodup → (xs.map (·.1)).Nodup
  | [], _, h, _ => by rw [show _ = [] from h]; exact List.nodup_nil
  | p :: r, _, ⟨q, t, e, z, zs⟩, n => by
    subst e
    rw [List.map_cons, List.nodup_cons] at n ⊢
    refine ⟨fun hm => n.1 ?_, nk_keys_nodup zs n.2⟩
    obtain ⟨x, hx, ex⟩ := List.mem_map.mp hm
    obtain ⟨y, hy, yx⟩ := zs.mem hx
    have : y.1 = p.1 := (yx.1.inj z.1).mp (by rw [← yx.2.2.1, ex, z.2.2.1])
    exact List.mem_map.mpr ⟨y, hy, this⟩
theorem nk_dict {a : Addr} {kvs : List (D × D)} {xs : List (NestedKey × Addr × Value)} (ok : HOk P w H h) (e : H a = some (nkO w a xs)) (t : All2 (NkRel K H) kvs xs) (n : (kvs.map (·.1)).Nodup) : h.DictOfH (nestedKind P w) a xs := by
  obtain ⟨⟨o, ea, ep, h1, h2, h3, h4⟩, _, _⟩ := (show ObjOk P w H h a (nkO w a xs) from ok a _ e)
  refine ⟨o, ea, ep, h1, h2, h3, h4, fun x hx => ?_, nk_keys_nodup t n⟩
  obtain ⟨p, _, r⟩ := t.mem hx
  refine ⟨?_, by rw [r.2.2.1]; exact r.1.2⟩
  rw [r.2.2.1]
  exact nested_of ok p.1 (.ref x.2.1) (.ref x.2.1) r.1.1 r.2.2.2.1 rfl
theorem nk_get {k : D} (pk : Pkd k) : ∀ {kvs : List (D × D)} {xs : List (NestedKey × Addr × Value)}, All2 (NkRel K H) kvs xs → match dget kvs k with
    | some d => ∃ a u v, atKey xs k.key = some (a, u) ∧ RelV v u ∧ Dat K H d v
    | none => atKey xs k.key = none
  | [], _, h => by rw [show _ = [] from h]; rfl
  | p :: r, _, ⟨q, t, e, z, zs⟩ => by
    subst e
    unfold dget
    by_cases c : p.1 = k
    · rw [if_pos c]
      obtain ⟨v, r1, r2⟩ := z.2.2.2.2
      refine ⟨q.2.1, q.2.2, v, ?_, r1, r2⟩
      simp [atKey, List.find?_cons, z.2.2.1, c]
    · rw [if_neg c]
      have ne : ¬ q.1 = k.key := fun e => c ((z.1.inj pk).mp (by rw [← z.2.2.1, e]))
      have := nk_get pk zs
      have e2 : atKey (q :: t) k.key = atKey t k.key := by simp [atKey, List.find?_cons, ne]
      rw [e2]
      exact this
end
/-! ### asking for what is carried by value -/
section
variable {P : Program} {w : World} {A : Around} {E : Value → Shared → Prop} {s : Shared}
theorem find_byval {d : Addr} {o : Obj} {es : Array DictEntry} {ep : Nat} {xs : List (NestedKey × Addr × Value)} {k : NestedKey} {v : Value} {Q : Option Nat → Shared → Prop} (hv : carriedByValue v = true) (hk : NestedIs s.heap k v) (hu : A.units + 8 < cLine)
    (ho : s.heap.get? d = some o) (hd : o.data = .dict es ep) (he : es.toList = xs.map (entryOfKey (nestedKind P w))) (his : ∀ x ∈ xs, (nestedKind P w).is s.heap x.1 x.2.1) (h : Q none s) :
    wpAny (model P w) A (dictFind d v (k.hash w)) Q E s := by
  have hmem : ∀ e ∈ es, ∃ x ∈ xs, e = entryOfKey (nestedKind P w) x := by
    intro e hin
    have : e ∈ xs.map (entryOfKey (nestedKind P w)) := he ▸ Array.mem_toList_iff.mpr hin
    obtain ⟨x, hx, rfl⟩ := List.mem_map.mp this
    exact ⟨x, hx, rfl⟩
  have hst : ∀ u ∈ (placesWithHash es.size (fun i => es[i]?.map (·.hash)) (k.hash w)).filterMap (fun i => es[i]?.map (·.key)), ∃ k' b, u = .ref b ∧ NestedIs s.heap k' (.ref b) ∧ k'.depth ≤ 8 := by
    intro u hv
    obtain ⟨i, _, hi⟩ := List.mem_filterMap.mp hv
    cases hei : es[i]? with
    | none => rw [hei] at hi; cases hi
    | some e =>
      rw [hei] at hi
      obtain rfl : e.key = u := by simpa using hi
      obtain ⟨x, hx, rfl⟩ := hmem e (Array.mem_of_getElem? hei)
      exact ⟨x.1, x.2.1, rfl, (his x hx).1, (his x hx).2⟩
  have loop : ∀ (stored : List Value) (tells : Bool) (_ : tells = false) (places : List Nat), wpAny (model P w) A (do
      let mut hit : Option Nat := none
      for i in places do
        if let some e := es[i]? then
          if e.hash == k.hash w then
            let before ← dictEpoch d (keyPart v)
            let same ← eqBool e.key v
            if (← dictEpoch d (keyPart v)) != before then unsupported "dict.changed-during-lookup"
            if same then
              if hit.isSome then unsupported "dict.find:order-among-keys-of-one-hash"
              rule "dict.find.hit"
              if stored.length < 2 then return some i
              hit := some i
            else
              rule "dict.find.same-hash-other-key"
              if tells && !(0 ≤ k.hash w && k.hash w < 32) then unsupported "dict.find:asked-again-or-not-hangs-on-the-table"
      return hit) Q E s := by
    intro stored tells ht places
    subst ht
    refine wpAny_bind ?_
    refine wpAny_forIn_list _ (fun rest b s' => s' = s ∧ b = (none, none)) _ ?_ ?_ _ _ ⟨rfl, rfl⟩
    · rintro x rest b s' ⟨rfl, rfl⟩
      dsimp only
      cases hx : es[x]? with
      | none => exact wpAny_pure ⟨rfl, rfl⟩
      | some e =>
        dsimp only
        obtain ⟨y, hy, rfl⟩ := hmem e (Array.mem_of_getElem? hx)
        by_cases hh : ((entryOfKey (nestedKind P w) y).hash == k.hash w) = true
        · rw [if_pos hh]
          have hq : SeqAt.EqAt A s' (.ref y.2.1) v false := by
            have h1 := eqAt_key y.1 k A s' (.ref y.2.1) v (his y hy).1 hk (by have := (his y hy).2; omega)
            have e1 : NestedKey.beq y.1 k = false := by
              cases q : NestedKey.beq y.1 k with
              | false => rfl
              | true =>
                have e2 := NestedKey.eq_of_beq _ _ q
                have h2 := (his y hy).1
                rw [e2] at h2
                cases h2 with
                | tup _ _ _ _ =>
                  cases hk with
                  | tup _ _ _ _ => simp [carriedByValue] at hv
            rw [e1] at h1
            exact h1
          refine wpAny_bind (wpAny_dictEpoch ho hd (wpAny_bind (hq _ _ _ _ (wpAny_bind (wpAny_dictEpoch ho hd ?_)))))
          show wpAny _ _ (if (ep != ep) = true then _ else _) _ E _
          rw [if_neg (by simp)]
          simp only [Bool.false_eq_true, if_false]
          refine wpAny_bind (wpAny_rule ?_)
          first | rw [if_neg (by simp)] | skip
          first
            | exact wpAny_pure ⟨rfl, rfl⟩
            | exact wpAny_bind (wpAny_pure (wpAny_pure ⟨rfl, rfl⟩))
        · rw [if_neg hh]
          exact wpAny_pure ⟨rfl, rfl⟩
    · rintro b s' ⟨rfl, rfl⟩
      exact wpAny_pure h
  have hquiet : QuietAt P w 8 s v := QuietAt.byValue hv
  have hall : ∀ l : List Value, (∀ u ∈ l, ∃ k' b, u = .ref b ∧ NestedIs s.heap k' (.ref b) ∧ k'.depth ≤ 8) → (v :: l).all carriedByValue = true → l = [] := by
    intro l hl ha
    cases l with
    | nil => rfl
    | cons u r =>
      obtain ⟨k', b, e, _⟩ := hl u List.mem_cons_self
      subst e
      simp [carriedByValue] at ha
  have walk : ∀ places : List Nat, places.filterMap (fun i => es[i]?.map (·.key)) = [] → wpAny (model P w) A (dictWalkPlain d v (k.hash w) es places) Q E s := by
    intro places hp
    unfold dictWalkPlain
    refine wpAny_bind ?_
    refine wpAny_forIn_list _ (fun rest b s' => s' = s ∧ b = (none, ()) ∧ ∀ i ∈ rest, es[i]? = none) _ ?_ ?_ _ _ ⟨rfl, rfl, fun i hi => ?_⟩
    · rintro x rest b s' ⟨rfl, rfl, hr⟩
      dsimp only
      rw [hr x List.mem_cons_self]
      exact wpAny_pure ⟨rfl, rfl, fun i hi => hr i (List.mem_cons_of_mem _ hi)⟩
    · rintro b s' ⟨rfl, rfl, _⟩
      exact wpAny_pure h
    · cases q : es[i]? with
      | none => rfl
      | some e =>
        have : e.key ∈ places.filterMap (fun i => es[i]?.map (·.key)) := List.mem_filterMap.mpr ⟨i, hi, by rw [q]; rfl⟩
        rw [hp] at this
        cases this
  have tell : ∀ l : List Value, (∀ u ∈ l, ∃ k' b, u = .ref b ∧ NestedIs s.heap k' (.ref b) ∧ k'.depth ≤ 8) → ∀ Q' : Bool → Shared → Prop, Q' false s → wpAny (model P w) A (tableMayTell v l) Q' E s := by
    intro l hl Q' hq
    unfold tableMayTell
    split
    · exact wpAny_pure hq
    · refine wpAny_bind (hquiet A E _ ?_)
      simp only [Bool.not_true, Bool.false_eq_true, if_false]
      refine wpAny_bind ?_
      refine wpAny_forIn_list _ (fun rest r s' => s' = s ∧ r = (none, ()) ∧ ∀ u ∈ rest, ∃ k' b, u = .ref b ∧ NestedIs s.heap k' (.ref b) ∧ k'.depth ≤ 8) _ ?_ ?_ _ _ ⟨rfl, rfl, hl⟩
      · rintro x rest r s' ⟨rfl, rfl, hr⟩
        obtain ⟨k', b, rfl, hb, hd⟩ := hr x List.mem_cons_self
        refine wpAny_bind (quiet_key k' _ 8 s' hb hd A E _ ?_)
        simp only [Bool.not_true, Bool.false_eq_true, if_false]
        exact wpAny_pure ⟨rfl, rfl, fun v hv => hr v (List.mem_cons_of_mem _ hv)⟩
      · rintro r s' ⟨rfl, rfl, _⟩
        exact wpAny_pure hq
  unfold dictFind
  try with_reducible refine wpAny_holding ?_
  refine wpAny_bind (wpAny_dictEntries ho hd ?_)
  dsimp only
  cases hk with
  | tup _ _ _ _ => simp [carriedByValue] at hv
  | text x t =>
    dsimp only
    by_cases hx : (es.all fun e => isExactStrKey e.key) = true
    · rw [if_pos hx]
      have hemp : es = #[] := by
        cases q : es.toList with
        | nil => exact Array.toList_inj.mp (by rw [q])
        | cons e r =>
          obtain ⟨y, hy, e1⟩ := hmem e (Array.mem_toList_iff.mp (by rw [q]; exact List.mem_cons_self))
          rw [← Array.all_toList, q, List.all_cons, e1] at hx
          simp [entryOfKey, isExactStrKey] at hx
      subst hemp
      unfold foundByValue
      have e0 : Array.findIdx? (fun e : DictEntry => e.key.isStr x) #[] = none := by simp
      rw [e0]
      exact wpAny_pure h
    · rw [if_neg hx]
      by_cases ha : ((Value.str x t :: (placesWithHash es.size (fun i => es[i]?.map (·.hash)) ((NestedKey.text x).hash w)).filterMap (fun i => es[i]?.map (·.key))).all carriedByValue) = true
      · rw [if_pos ha]
        exact walk _ (hall _ hst ha)
      · rw [if_neg ha]
        by_cases hs : ((placesWithHash es.size (fun i => es[i]?.map (·.hash)) ((NestedKey.text x).hash w)).filterMap (fun i => es[i]?.map (·.key)) == [Value.str x t]) = true
        · rw [if_pos hs]; refine wpAny_bind (wpAny_pure ?_)
          rw [if_neg (by simp)]
          exact loop _ false rfl _
        · rw [if_neg hs]; refine wpAny_bind (tell _ hst _ ?_)
          rw [if_neg (by simp)]
          exact loop _ false rfl _
  | none =>
    dsimp only
    by_cases ha : ((Value.none :: (placesWithHash es.size (fun i => es[i]?.map (·.hash)) (NestedKey.none.hash w)).filterMap (fun i => es[i]?.map (·.key))).all carriedByValue) = true
    · rw [if_pos ha]
      exact walk _ (hall _ hst ha)
    · rw [if_neg ha]
      by_cases hs : ((placesWithHash es.size (fun i => es[i]?.map (·.hash)) (NestedKey.none.hash w)).filterMap (fun i => es[i]?.map (·.key)) == [Value.none]) = true
      · rw [if_pos hs]; refine wpAny_bind (wpAny_pure ?_)
        rw [if_neg (by simp)]
        exact loop _ false rfl _
      · rw [if_neg hs]; refine wpAny_bind (tell _ hst _ ?_)
        rw [if_neg (by simp)]
        exact loop _ false rfl _
  | int i t =>
    dsimp only
    by_cases ha : ((Value.int i t :: (placesWithHash es.size (fun i => es[i]?.map (·.hash)) ((NestedKey.num i).hash w)).filterMap (fun i => es[i]?.map (·.key))).all carriedByValue) = true
    · rw [if_pos ha]
      exact walk _ (hall _ hst ha)
    · rw [if_neg ha]
      by_cases hs : ((placesWithHash es.size (fun i => es[i]?.map (·.hash)) ((NestedKey.num i).hash w)).filterMap (fun i => es[i]?.map (·.key)) == [Value.int i t]) = true
      · rw [if_pos hs]; refine wpAny_bind (wpAny_pure ?_)
        rw [if_neg (by simp)]
        exact loop _ false rfl _
      · rw [if_neg hs]; refine wpAny_bind (tell _ hst _ ?_)
        rw [if_neg (by simp)]
        exact loop _ false rfl _
  | @bool b i e =>
    dsimp only
    by_cases ha : ((Value.bool b :: (placesWithHash es.size (fun i => es[i]?.map (·.hash)) ((NestedKey.num i).hash w)).filterMap (fun i => es[i]?.map (·.key))).all carriedByValue) = true
    · rw [if_pos ha]
      exact walk _ (hall _ hst ha)
    · rw [if_neg ha]
      by_cases hs : ((placesWithHash es.size (fun i => es[i]?.map (·.hash)) ((NestedKey.num i).hash w)).filterMap (fun i => es[i]?.map (·.key)) == [Value.bool b]) = true
      · rw [if_pos hs]; refine wpAny_bind (wpAny_pure ?_)
        rw [if_neg (by simp)]
        exact loop _ false rfl _
      · rw [if_neg hs]; refine wpAny_bind (tell _ hst _ ?_)
        rw [if_neg (by simp)]
        exact loop _ false rfl _
end
end Cz

/-! Dicts: rules by values. -/
namespace Cz
open PySem PySem.Spec PyProof.Rows L2
section
variable {P : Program} {w : World} {A : Around} {E : Value → Shared → Prop} {s : Shared}
theorem meets_byval (d : Addr) (v : Value) (hd : (d == sysModules) = false) (hv : carriedByValue v = true) (dflt : Value) :
    MeetsIn P w (Builtin.«dict.get» ⟨[.ref d, v, dflt], []⟩) (fun A R s => A.units + 20 < cLine ∧ ∃ k xs, NestedIs s.heap k v ∧ k.depth ≤ 8 ∧ s.heap.DictOfH (nestedKind P w) d xs ∧
      R (.ok (.ret dflt)) { s with toks := s.toks + k.draws }) :=
  .of_wp fun A R s ⟨hu, k, xs, hk, hdep, hm, h⟩ => by
    obtain ⟨o, es, ep, ho, hx, hdd, he, his, hn⟩ := hm
    show wpAny _ _ (dictGet d v >>= _) _ _ s
    refine wpAny_bind ?_
    unfold dictGet
    try with_reducible refine wpAny_holding ?_
    refine wpAny_bind (pyHash_key k v _ s _ hk (by show A.units + 1 + k.depth < cLine; omega) (wpAny_bind (find_byval (s := { s with toks := s.toks + k.draws }) hv hk (by show A.units + 1 + 8 < cLine; omega) ho hdd he his ?_)))
    refine wpAny_pure ?_
    show wpAny _ _ (Builtin.Dict.missed d v >>= _) _ _ _
    exact wpAny_bind (wpAny_missed_other hd (wpAny_pure ⟨dflt, rfl, h⟩))
end
section
variable {X : Cx} {pins : List (Addr × Obj)} {τ : L2.St} {H : Hp} {s : Shared} {m : Gm} {G : GH} {a : Addr} {kvs : List (D × D)} {k dv : D} {y v : V} {u r : Value} {E : Value → Shared → Prop}
/-- what stands at a told dict -/
theorem nk_at (I : Inv X pins τ H s) (C : Cp m X H G) (h : G a = some (.dct .nk kvs)) : ∃ xs, H a = some (nkO X.w a xs) ∧ (a == sysModules) = false ∧ kvs.length ≤ sizeLine ∧ All2 (NkRel X.K H) kvs xs ∧ (kvs.map (·.1)).Nodup ∧ s.heap.DictOfH (nestedKind X.prog X.w) a xs := by
  obtain ⟨xs, e, hd, l, t, n⟩ := C a _ h
  exact ⟨xs, e, hd, l, t, n, nk_dict I.hok e t n⟩
theorem room8 {A : Around} (hu : A.units + 64 < cLine) : (nestedKind X.prog X.w).room A.in1 := by show A.units + 1 + 8 < cLine; omega
/-- a key: a tuple has a place -/
theorem key_ref (I : Inv X pins τ H s) (pk : Pkd k) (hk : Dat X.K H k y) (ry : RelV y u) : NestedIs s.heap k.key u ∧ ((∃ ds b, k = .tup ds ∧ y = .ref b ∧ u = .ref b) ∨ ((∀ ds, k ≠ .tup ds) ∧ carriedByValue u = true)) := by
  refine ⟨nested_of I.hok k y u pk.1 hk ry, ?_⟩
  cases k with
  | non => rw [dat_non.mp hk] at ry; cases ry; exact .inr ⟨fun _ e => (nomatch e), rfl⟩
  | int i => rw [dat_int.mp hk] at ry; obtain ⟨t, e⟩ := ry; subst e; exact .inr ⟨fun _ e => (nomatch e), rfl⟩
  | str i => rw [dat_str.mp hk] at ry; obtain ⟨t, e⟩ := ry; subst e; exact .inr ⟨fun _ e => (nomatch e), rfl⟩
  | tup ds =>
    obtain ⟨b, vs, e, _⟩ := dat_tup.mp hk
    subst e
    cases ry
    exact .inl ⟨ds, b, rfl, rfl, rfl⟩
  | _ => have := pk.1; simp [D.pure] at this
/-- d.get(k, x), the keys of d nested tuples -/
theorem nk_get2 {x : D} {xv : V} {Q : Value → Shared → Prop} (hu : X.A.units + 64 < cLine) (I : Inv X pins τ H s) (C : Cp m X H G) (h : G a = some (.dct .nk kvs)) (pk : Pkd k) (hk : Dat X.K H k y) (ry : RelV y u) (hx : Dat X.K H x xv) (rx : RelV xv r)
    (q : ∀ v' w' s', Inv X pins τ H s' → RelV v' w' → Dat X.K H ((dget kvs k).getD x) v' → Q w' s') : wpAny (model X.prog X.w) X.A (call (.builtin "dict.get") [.ref a, u, r]) Q E s := by
  obtain ⟨xs, e, hd, l, t, n, dd⟩ := nk_at I C h
  obtain ⟨hn, hr⟩ := key_ref I pk hk ry
  rcases hr with ⟨ds, b, rfl, rfl, rfl⟩ | ⟨hne, hv⟩
  · refine call_meetsIn PySem.F.slot_dict_get dd.typeIs PySem.F.entry_dict_get (PySem.F.args_dict_get_3 _ _ _) (meetsH_dict_get_default (nestedKind X.prog X.w) a b hd r) ⟨room8 hu, _, xs, ⟨hn, pk.2⟩, dd, ?_⟩
    have g := nk_get pk t
    cases c : dget kvs (.tup ds) with
    | none =>
      rw [c] at g
      rw [g]
      exact q xv r _ (I.tok _) rx (by rw [c]; exact hx)
    | some d =>
      rw [c] at g
      obtain ⟨b', u', v', g1, g2, g3⟩ := g
      rw [g1]
      exact q v' u' _ (I.tok _) g2 (by rw [c]; exact g3)
  · have g : dget kvs k = none := by
      refine dget_none_iff.mpr fun hm => ?_
      obtain ⟨p, hp, ep⟩ := List.mem_map.mp hm
      obtain ⟨i, hi, e2⟩ := List.getElem_of_mem hp
      obtain ⟨z, _, rel⟩ := t.get (List.getElem?_eq_some_iff.mpr ⟨hi, e2⟩)
      obtain ⟨ds, ed⟩ := rel.2.1
      exact hne ds (by rw [← ep, ed])
    refine call_meetsIn PySem.F.slot_dict_get dd.typeIs PySem.F.entry_dict_get (PySem.F.args_dict_get_3 _ _ _) (meets_byval a u hd hv r) ⟨by show X.A.units + 20 < cLine; omega, _, xs, hn, pk.2, dd, ?_⟩
    exact q xv r _ (I.tok _) rx (by rw [g]; exact hx)
/-- d[k] -/
theorem nk_item {d : D} {Q : Value → Shared → Prop} (hu : X.A.units + 64 < cLine) (I : Inv X pins τ H s) (C : Cp m X H G) (h : G a = some (.dct .nk kvs)) (pk : Pkd k) (hk : Dat X.K H k y) (ry : RelV y u) (g : dget kvs k = some d)
    (q : ∀ v' w' s', Inv X pins τ H s' → RelV v' w' → Dat X.K H d v' → Q w' s') : wpAny (model X.prog X.w) X.A (getItem (.ref a) u) Q E s := by
  obtain ⟨xs, e, hd, l, t, n, dd⟩ := nk_at I C h
  obtain ⟨hn, hr⟩ := key_ref I pk hk ry
  have g0 := nk_get pk t
  rw [g] at g0
  obtain ⟨b', u', v', g1, g2, g3⟩ := g0
  rcases hr with ⟨ds, b, rfl, rfl, rfl⟩ | ⟨hne, hv⟩
  · exact wpAny_getItem_heap (room8 hu) ⟨hn, pk.2⟩ dd g1 (q v' u' _ (I.tok _) g2 g3)
  · refine absurd rfl (?_ : ¬ k = k)
    intro _
    have hm : k ∈ kvs.map (·.1) := by
      refine Classical.byContradiction fun hc => ?_
      rw [dget_none_iff.mpr hc] at g
      cases g
    obtain ⟨p, hp, ep⟩ := List.mem_map.mp hm
    obtain ⟨i, hi, e2⟩ := List.getElem_of_mem hp
    obtain ⟨z, _, rel⟩ := t.get (List.getElem?_eq_some_iff.mpr ⟨hi, e2⟩)
    obtain ⟨ds, ed⟩ := rel.2.1
    exact hne ds (by rw [← ep, ed])
theorem nk_isSome {xs : List (NestedKey × Addr × Value)} (pk : Pkd k) (t : All2 (NkRel X.K H) kvs xs) : (atKey xs k.key).isSome = (dget kvs k).isSome := by
  have g := nk_get pk t
  cases c : dget kvs k with
  | none => rw [c] at g; rw [g] <;> rfl
  | some d => rw [c] at g; obtain ⟨_, _, _, g, _⟩ := g; rw [g] <;> rfl
/-- k in d, k not in d: k a tuple -/
theorem nk_in {ds : List D} {Q : Value → Shared → Prop} (hu : X.A.units + 64 < cLine) (I : Inv X pins τ H s) (C : Cp m X H G) (h : G a = some (.dct .nk kvs)) (pk : Pkd (.tup ds)) (hk : Dat X.K H (.tup ds) y) (ry : RelV y u)
    (q : ∀ s', Inv X pins τ H s' → Q (.bool (dget kvs (.tup ds)).isSome) s') : wpAny (model X.prog X.w) X.A (compareOp .In u (.ref a)) Q E s := by
  obtain ⟨xs, e, hd, l, t, n, dd⟩ := nk_at I C h
  obtain ⟨hn, hr⟩ := key_ref I pk hk ry
  rcases hr with ⟨es, b, e1, rfl, rfl⟩ | ⟨hne, hv⟩
  · refine wpAny_in_heap (room8 hu) ⟨hn, pk.2⟩ hd dd ?_
    rw [nk_isSome pk t]
    exact q _ (I.tok _)
  · exact absurd rfl (hne ds)
theorem nk_notIn {ds : List D} {Q : Value → Shared → Prop} (hu : X.A.units + 64 < cLine) (I : Inv X pins τ H s) (C : Cp m X H G) (h : G a = some (.dct .nk kvs)) (pk : Pkd (.tup ds)) (hk : Dat X.K H (.tup ds) y) (ry : RelV y u)
    (q : ∀ s', Inv X pins τ H s' → Q (.bool (!(dget kvs (.tup ds)).isSome)) s') : wpAny (model X.prog X.w) X.A (compareOp .NotIn u (.ref a)) Q E s := by
  obtain ⟨xs, e, hd, l, t, n, dd⟩ := nk_at I C h
  obtain ⟨hn, hr⟩ := key_ref I pk hk ry
  rcases hr with ⟨es, b, e1, rfl, rfl⟩ | ⟨hne, hv⟩
  · refine wpAny_notIn_heap (room8 hu) ⟨hn, pk.2⟩ hd dd ?_
    rw [nk_isSome pk t]
    exact q _ (I.tok _)
  · exact absurd rfl (hne ds)
/-- the entries behind a store -/
theorem nk_put {xs : List (NestedKey × Addr × Value)} {ds : List D} {b : Addr} {H' : Hp} (kt : KeepT H H') (pk : Pkd (.tup ds)) (hk : Dat X.K H (.tup ds) (.ref b)) (hv : Dat X.K H dv v) (rv : RelV v r) (t : All2 (NkRel X.K H) kvs xs) : All2 (NkRel X.K H') (dput kvs (.tup ds) dv) (storedH xs (D.tup ds).key b r) := by
  unfold dput storedH
  rw [nk_isSome pk t]
  split
  · have mp : ∀ {kvs : List (D × D)} {xs : List (NestedKey × Addr × Value)}, All2 (NkRel X.K H) kvs xs → All2 (NkRel X.K H') (kvs.map fun p => if p.1 = .tup ds then (p.1, dv) else p) (xs.map (putAt (D.tup ds).key r)) := by
      intro kvs
      induction kvs with
      | nil => intro xs h; rw [show xs = [] from h]; exact .nil
      | cons p rr ih =>
        rintro xs ⟨q, tt, e, z, zs⟩
        subst e
        refine .cons ?_ (ih zs)
        show NkRel X.K H' (if p.1 = .tup ds then (p.1, dv) else p) (if q.1 = (D.tup ds).key then (q.1, q.2.1, r) else q)
        by_cases c : p.1 = .tup ds
        · rw [if_pos c, if_pos (by rw [z.2.2.1, c])]
          exact ⟨z.1, z.2.1, z.2.2.1, Dat.keep kt _ _ z.2.2.2.1, v, rv, Dat.keep kt _ _ hv⟩
        · rw [if_neg c, if_neg fun e => c ((z.1.inj pk).mp (by rw [← z.2.2.1, e]))]
          exact z.keep kt
    exact mp t
  · exact (t.mono fun _ _ z => z.keep kt).snoc ⟨pk, ⟨ds, rfl⟩, rfl, Dat.keep kt _ _ hk, v, rv, Dat.keep kt _ _ hv⟩
/-- d[k] = v -/
theorem nk_store {ds : List D} {Q : Unit → Shared → Prop} (hu : X.A.units + 64 < cLine) (I : Inv X pins τ H s) (C : Cp m X H G) (h : G a = some (.dct .nk kvs)) (pk : Pkd (.tup ds)) (hk : Dat X.K H (.tup ds) y) (ry : RelV y u) (hv : Dat X.K H dv v) (rv : RelV v r) (hl : kvs.length < sizeLine)
    (q : ∀ H' s', Inv X pins τ H' s' → KeepT H H' → Cp m X H' (G.set a (.dct .nk (dput kvs (.tup ds) dv))) → Q () s') : wpAny (model X.prog X.w) X.A (setItem (.ref a) u r) Q E s := by
  obtain ⟨xs, e, hd, l, t, n, dd⟩ := nk_at I C h
  obtain ⟨hn, hr⟩ := key_ref I pk hk ry
  rcases hr with ⟨es, b, e1, rfl, rfl⟩ | ⟨hne, hv⟩
  · refine wpAny_setItem_heap (hsz := by rw [← All2.length t]; exact l) (room8 hu) ⟨hn, pk.2⟩ dd fun h' dd' hs => ?_
    have kt : KeepT H (upd H a (nkO X.w a (storedH xs (D.tup ds).key b r))) := KeepT.mut e (fun _ z => (nomatch z)) (fun _ _ z => (nomatch z)) nkO_ne
    refine q (upd H a (nkO X.w a (storedH xs (D.tup ds).key b r))) _ ?_ kt (C.upd kt ⟨_, upd_same, hd, ?_, nk_put kt pk hk hv rv t, dput_nodup _ _ n⟩)
    · obtain ⟨o', es', ep', h1, h2, h3, h4, h5, h6⟩ := dd'
      refine d_write I (by rw [e]; exact True.intro) hs ⟨o', h1⟩ ⟨⟨o', es', ep', h1, h2, h3, h4⟩, ⟨o', h1⟩, fun g1 g2 z k => ?_⟩
      obtain ⟨oo, ea, eb, z1, z2⟩ := z
      exact ⟨oo, ea, eb, k oo z1, z2⟩
    · have := dput_length kvs (.tup ds) dv
      omega
  · exact absurd rfl (hne ds)
end
end Cz

/-! Subscripts, membership, stores, attributes. -/
namespace Cz
open PySem PySem.Spec PyProof.Rows L2

/-! ### subscripts -/
theorem All2.atI {α β : Type} {R : α → β → Prop} {as : List α} {bs : List β} {i : Int} {a : α} (h : All2 R as bs) (e : atI as i = some a) : ∃ b, L2.atI bs i = some b ∧ R a b := by
  unfold L2.atI at e ⊢
  rw [← h.length]
  cases q : ixN as.length i with
  | none => rw [q] at e; cases e
  | some j =>
    rw [q] at e
    exact h.get e
def isKey (d : D) : Bool := (toKey d).isSome
theorem isKey_of {d : D} (h : isKey d = true) : ∃ k, d = keyD k := by
  obtain ⟨k, e⟩ := Option.isSome_iff_exists.mp h
  exact ⟨k, toKey_keyD e⟩
/-- what an object gives at an index -/
def ixG (o : Option GO) (y : D) (Q : D → Prop) : Prop := match o with
  | some (.lst ds) => ∃ i d, y = .int i ∧ atI ds i = some d ∧ Q d
  | some (.dct .ik kvs) => isKey y = true ∧ ∃ d, dget kvs y = some d ∧ Q d
  | some (.fdct .ik kvs) => isKey y = true ∧ ∃ d, dget kvs y = some d ∧ Q d
  | some (.dct .nk kvs) => Pkd y ∧ ∃ d, dget kvs y = some d ∧ Q d
  | _ => False
def gIx : G2 := fun x y G Q => match x with
  | .tup ds => ∃ i d, y = .int i ∧ atI ds i = some d ∧ Q d G
  | .ref a => ixG (G a) y fun d => Q d G
  | _ => False
section
variable {m : Gm} {X : Cx}
/-- d[k], a told dict -/
def rGet (m : Gm) (X : Cx) : R2 := fun x y H Q => ∃ (G : GH) (a : Addr) (k d : D), x = .ref a ∧ Cp m X H G ∧ Dat X.K H k y ∧ ((∃ kvs, (G a = some (.dct .ik kvs) ∨ G a = some (.fdct .ik kvs)) ∧ isKey k = true ∧ dget kvs k = some d) ∨ ∃ kvs, G a = some (.dct .nk kvs) ∧ Pkd k ∧ dget kvs k = some d) ∧
  ∀ v, Dat X.K H d v → Q v H
theorem ik_rd {H : Hp} {G : GH} {a : Addr} {kvs : List (D × D)} (C : Cp m X H G) (h : G a = some (.dct .ik kvs) ∨ G a = some (.fdct .ik kvs)) : ∃ hs, Rd H a (.dK hs) ∧ All2 (IkRel X.K H) kvs hs := by
  rcases h with h | h
  · obtain ⟨hs, e, t⟩ := C a _ h
    exact ⟨hs, .inl e, t⟩
  · obtain ⟨o, hs, e, t⟩ := C a _ h
    exact ⟨hs, .inr ⟨o, e⟩, t⟩
theorem get_ok (hu : X.A.units + 64 < cLine) {pins : List (Addr × Obj)} {s : Shared} {τ : L2.St} {H : Hp} {x y : V} {v u : Value} {Q : VK} (I : Inv X pins τ H s) (rx : RelV x v) (ry : RelV y u) (h : rGet m X x y H Q) {E : Value → Shared → Prop} {Q' : Value → Shared → Prop} (hq : ∀ u s', EP X pins τ Q u s' → Q' u s') :
    s.TypeIs v "dict" ∧ wpAny (model X.prog X.w) X.A (getItem v u) Q' E s := by
  obtain ⟨G, a, k, d, rfl, C, hk, hd, q⟩ := h
  cases rx
  rcases hd with ⟨kvs, hg, ik, g⟩ | ⟨kvs, hg, pk, g⟩
  · obtain ⟨hs, rd, t⟩ := ik_rd C hg
    obtain ⟨kk, rfl⟩ := isKey_of ik
    have ey := dat_keyD hk
    subst ey
    obtain ⟨w', g1, g2⟩ := ik_some t g
    have dg : DGet H a (kV kk) (some w') := .inl ⟨hs, kk, rd, rfl, g1.symm⟩
    exact ⟨dict_typeIs I dg, d_getItem (by omega) I dg ry fun w2 s2 I2 r2 => hq _ _ ⟨w', H, I2, r2, q w' g2⟩⟩
  · obtain ⟨xs, e, hd, l, t, n, dd⟩ := nk_at I C hg
    exact ⟨dd.typeIs, nk_item hu I C hg pk hk ry g fun v' w' s' I' r' d' => hq _ _ ⟨v', H, I', r', q v' d'⟩⟩
theorem ix_get (hu : X.A.units + 64 < cLine) : IxR X (rGet m X) := by
  intro value slice pins s τ H x y v u Q I rx ry h hs
  obtain ⟨hT, g⟩ := get_ok (E := X.xe) (Q' := EP X pins τ Q) hu I rx ry h fun _ _ z => z
  unfold subscriptTail
  refine wpAny_bind ?_
  rw [getitemInPython_of_ne hT.not_modules]
  refine wpAny_bind (wpAny_specialOf hT PySem.F.slot_dict_getitem.lookup ?_)
  have fin : wpAny (model X.prog X.w) X.A (subscripted slice false v u) (fun r s₃ => wpAny (model X.prog X.w) X.A (letTemporaryGo value v r >>= fun _ => pure r) (EP X pins τ Q) X.xe s₃) X.xe s := by
    rw [hs]
    exact wpAny_operating (wpAny_mono g (fun r s₃ h₃ => wpAny_bind (wpAny_letTemporaryGo (wpAny_pure h₃))) fun _ _ x => x)
  first
    | exact wpAny_pure (wpAny_bind fin)
    | exact wpAny_bind (wpAny_pure (wpAny_bind fin))
    | exact wpAny_bind fin
abbrev rIxA (m : Gm) (X : Cx) : R2 := fun x y H Q => rIxL X.K x y H Q ∨ (rIxT X.K x y H Q ∨ rGet m X x y H Q)
theorem says_ix : Says2 m X (rIxA m X) gIx := by
  intro H G x y v u Q Qh C dx dy I h
  unfold gIx at h
  split at h
  · obtain ⟨i, d, e, ea, q⟩ := h
    subst e
    obtain ⟨a, vs, e1, ha, t⟩ := dat_tup.mp dx
    obtain ⟨b, eb, hb⟩ := t.atI ea
    exact .inr (.inl ⟨a, vs, i, b, e1, dat_int.mp dy, SqT.of ha, eb, imp_here I C hb q⟩)
  · rename_i a
    cases hg : G a with
    | none => rw [hg] at h; exact h.elim
    | some o =>
      rw [hg] at h
      cases o with
      | lst ds =>
        obtain ⟨i, d, e, ea, q⟩ := h
        subst e
        obtain ⟨vs, ha, t⟩ := C a _ hg
        obtain ⟨b, eb, hb⟩ := t.atI ea
        exact .inl ⟨a, vs, i, b, dat_ref.mp dx, dat_int.mp dy, SqL.of ha, eb, imp_here I C hb q⟩
      | dct kd kvs =>
        cases kd with
        | ik =>
          obtain ⟨ik, d, e, q⟩ := h
          exact .inr (.inr ⟨G, a, y, d, dat_ref.mp dx, C, dy, .inl ⟨kvs, .inl hg, ik, e⟩, fun v hv => imp_here I C hv q⟩)
        | nk =>
          obtain ⟨pk, d, e, q⟩ := h
          exact .inr (.inr ⟨G, a, y, d, dat_ref.mp dx, C, dy, .inr ⟨kvs, hg, pk, e⟩, fun v hv => imp_here I C hv q⟩)
      | fdct kd kvs =>
        cases kd with
        | ik =>
          obtain ⟨ik, d, e, q⟩ := h
          exact .inr (.inr ⟨G, a, y, d, dat_ref.mp dx, C, dy, .inl ⟨kvs, .inr hg, ik, e⟩, fun v hv => imp_here I C hv q⟩)
        | nk => exact h.elim
      | ins _ _ => exact h.elim
      | tab q => exact h.elim
      | set ns => exact h.elim
  · exact h.elim
variable {pos p2 : Pos} {a b : Expr} {lo hi : Option Expr} {ga gb : GE}
theorem q_ix (hu : X.A.units + 64 < cLine) (ha : QE m X a ga) (hb : QE m X b gb) (hs : PlainIx b) : QE m X (.Subscript a b pos) (gBin gIx ga gb) := ⟨fun τ H σ G Q S C q =>
  wE_of (pe_ix (ix_list.or (ix_tup.or (ix_get hu))) (wE_pe a) (wE_pe b) hs) (two (P := fun _ _ _ _ => True) ha hb S C q fun v u H2 x y G2 k C2 dx dy q2 => says_ix H2 G2 x y v u Q _ C2 dx dy (imp_lq k) q2)⟩

/-! ### slices -/
abbrev GO' := GSt → GH → (Option Int → GH → Prop) → Prop
def wO (X : Cx) (e : Option Expr) : TO := fun τ H Q => ∀ pins s, Inv X pins τ H s → wpAny (model X.prog X.w) X.A (evalPart e X.env) (fun u s' => ∃ o H', Inv X pins τ H' s' ∧ IsPart u o ∧ Q o H') X.xe s
theorem wO_po (e : Option Expr) : PO X e (wO X e) := ⟨fun pins s τ H Q I h => h pins s I⟩
theorem wO_of {e : Option Expr} {t : TO} {τ : L2.St} {H : Hp} {Q : Option Int → Hp → Prop} (p : PO X e t) (h : t τ H Q) : wO X e τ H Q := fun pins s I => p.run pins s τ H Q I h
theorem wO_mono {e : Option Expr} {τ : L2.St} {H : Hp} {Q Q' : Option Int → Hp → Prop} (h : wO X e τ H Q) (f : ∀ v H', Q v H' → Q' v H') : wO X e τ H Q' := fun pins s I => thn (h pins s I) fun u s1 ⟨o, H1, I1, p, q⟩ => ⟨o, H1, I1, p, f o H1 q⟩
structure QO (m : Gm) (X : Cx) (e : Option Expr) (g : GO') : Prop where
  run : ∀ (τ : L2.St) (H : Hp) (σ : GSt) (G : GH) (Q : Option Int → GH → Prop), Sl X.K H σ τ → Cp m X H G → g σ G Q → wO X e τ H fun i H' => ∃ G', KeepT H H' ∧ Cp m X H' G' ∧ Q i G'
def gNoPart : GO' := fun _ G Q => Q none G
def gPart (g : GE) : GO' := fun σ G Q => g σ G fun x G1 => ∃ i, x = .int i ∧ Q (some i) G1
theorem qo_none : QO m X none gNoPart := ⟨fun τ H σ G Q S C q => wO_of po_none ⟨G, KeepT.refl H, C, q⟩⟩
theorem qo_some {e : Expr} {g : GE} (h : QE m X e g) : QO m X (some e) (gPart g) := ⟨fun τ H σ G Q S C q => wO_of (po_some (wE_pe e)) (wE_mono (h.run τ H σ G _ S C q) fun v H1 ⟨d, G1, k1, C1, hd, i, e, q1⟩ => by
  subst e
  exact ⟨i, dat_int.mp hd, G1, k1, C1, q1⟩)⟩
/-- the items from lo to hi -/
def cutD (ds : List D) (lo hi : Option Int) : List D := (ds.drop (HT.sIx ds.length 0 lo)).take (HT.sIx ds.length ds.length hi - HT.sIx ds.length 0 lo)
theorem All2.cut {H : Hp} {ds : List D} {vs : List V} (t : All2 (Dat X.K H) ds vs) (lo hi : Option Int) : All2 (Dat X.K H) (cutD ds lo hi) (cutV vs lo hi) := by
  unfold cutD cutV
  rw [← t.length]
  exact (t.drop _).take _
def gCut (x : D) (lo hi : Option Int) (G : GH) (Q : GQ) : Prop := match x with
  | .tup ds => Q (.tup (cutD ds lo hi)) G
  | .ref a => ∃ ds, G a = some (.lst ds) ∧ ∀ p, G p = none → Q (.ref p) (G.set p (.lst (cutD ds lo hi)))
  | _ => False
def gSl (g : GE) (l h : GO') : GE := fun σ G Q => g σ G fun x G1 => l σ G1 fun lo G2 => h σ G2 fun hi G3 => gCut x lo hi G3 Q
theorem cutD_whole {ds : List D} {lo hi : Option Int} (h : HT.sIx ds.length 0 lo = 0 ∧ HT.sIx ds.length ds.length hi = ds.length) : cutD ds lo hi = ds := by
  unfold cutD
  rw [h.1, h.2]
  simp
theorem says_cut {H0 H : Hp} {G : GH} {x : D} {v : V} {lo hi : Option Int} {Q : GQ} (k : KeepT H0 H) (C : Cp m X H G) (dx : Dat X.K H x v) (h : gCut x lo hi G Q) : rSlA X.K v lo hi H (LQ m X H0 Q) ∨ rSlL X.K v lo hi H (LQ m X H0 Q) := by
  unfold gCut at h
  split at h
  · rename_i ds
    obtain ⟨a, vs, e1, ha, t⟩ := dat_tup.mp dx
    subst e1
    refine .inl ⟨a, vs, rfl, SqT.of ha, fun hw => ?_, fun hw p hp => ?_⟩
    · rw [← t.length] at hw
      rw [cutD_whole hw] at h
      exact imp_here (imp_lq k) C (dat_tup.mpr ⟨a, vs, rfl, ha, t⟩) h
    · exact imp_tup (imp_lq k) C hp (t.cut lo hi) h
  · rename_i a
    obtain ⟨ds, hg, q⟩ := h
    obtain ⟨vs, ha, t⟩ := C a _ hg
    exact .inr ⟨a, vs, dat_ref.mp dx, SqL.of ha, fun p hp => imp_lst (imp_lq k) C hp (t.cut lo hi) q⟩
  · exact h.elim
theorem q_slice {gl gh : GO'} (ha : QE m X a ga) (hl : QO m X lo gl) (hh : QO m X hi gh) : QE m X (.Subscript a (.Slice lo hi none p2) pos) (gSl ga gl gh) := ⟨fun τ H σ G Q S C q => by
  refine wE_of (pe_slice (sl_tupA.or sl_list) (wE_pe a) (wO_po lo) (wO_po hi)) ?_
  refine wE_mono (ha.run τ H σ G _ S C q) fun v H1 ⟨x, G1, k1, C1, d1, q1⟩ => ?_
  refine wO_mono (hl.run τ H1 σ G1 _ (S.keep k1) C1 q1) fun l H2 ⟨G2, k2, C2, q2⟩ => ?_
  refine wO_mono (hh.run τ H2 σ G2 _ (S.keep (k1.trans k2)) C2 q2) fun h H3 ⟨G3, k3, C3, q3⟩ => ?_
  exact says_cut ((k1.trans k2).trans k3) C3 (Dat.keep (k2.trans k3) _ _ d1) q3⟩

/-! ### in -/
def inG (neg : Bool) (o : Option GO) (x : D) (Q : D → Prop) : Prop := match o with
  | some (.lst ds) => Pkd x ∧ (∀ d ∈ ds, Pkd d) ∧ Q (.bl (if neg then !decide (x ∈ ds) else decide (x ∈ ds)))
  | some (.dct .ik kvs) => isKey x = true ∧ Q (.bl (if neg then !(dget kvs x).isSome else (dget kvs x).isSome))
  | some (.fdct .ik kvs) => isKey x = true ∧ Q (.bl (if neg then !(dget kvs x).isSome else (dget kvs x).isSome))
  | some (.dct .nk kvs) => Pkd x ∧ (∃ ds, x = .tup ds) ∧ Q (.bl (if neg then !(dget kvs x).isSome else (dget kvs x).isSome))
  | _ => False
def gIn (neg : Bool) : G2 := fun x y G Q => match y with
  | .ref a => inG neg (G a) x fun d => Q d G
  | _ => False
/-- x in d, a told dict -/
def rMem (m : Gm) (X : Cx) (neg : Bool) : R2 := fun x y H Q => ∃ (G : GH) (a : Addr) (k : D) (kvs : List (D × D)), y = .ref a ∧ Cp m X H G ∧ Dat X.K H k x ∧ (((G a = some (.dct .ik kvs) ∨ G a = some (.fdct .ik kvs)) ∧ isKey k = true) ∨ (G a = some (.dct .nk kvs) ∧ Pkd k ∧ ∃ ds, k = .tup ds)) ∧
  Q (.bl (if neg then !(dget kvs k).isSome else (dget kvs k).isSome)) H
theorem op_mem (hu : X.A.units + 64 < cLine) : OpR X (compareOp .In) (rMem m X false) := by
  intro pins s τ H x y v u Q I rx ry h
  obtain ⟨G, a, k, kvs, rfl, C, hk, hd, q⟩ := h
  cases ry
  rcases hd with ⟨hg, ik⟩ | ⟨hg, pk, ds, rfl⟩
  · obtain ⟨hs, rd, t⟩ := ik_rd C hg
    obtain ⟨kk, rfl⟩ := isKey_of ik
    have ey := dat_keyD hk
    subst ey
    have dg : DGet H a (kV kk) (valV hs kk) := .inl ⟨hs, kk, rd, rfl, rfl⟩
    refine d_in (by omega) I dg rx fun s2 I2 => ⟨.bl _, H, I2, rfl, ?_⟩
    rw [ik_isSome kk t]
    exact q
  · exact nk_in hu I C hg pk hk rx fun s2 I2 => ⟨.bl _, H, I2, rfl, q⟩
theorem op_notMem (hu : X.A.units + 64 < cLine) : OpR X (compareOp .NotIn) (rMem m X true) := by
  intro pins s τ H x y v u Q I rx ry h
  obtain ⟨G, a, k, kvs, rfl, C, hk, hd, q⟩ := h
  cases ry
  rcases hd with ⟨hg, ik⟩ | ⟨hg, pk, ds, rfl⟩
  · obtain ⟨hs, rd, t⟩ := ik_rd C hg
    obtain ⟨kk, rfl⟩ := isKey_of ik
    have ey := dat_keyD hk
    subst ey
    have dg : DGet H a (kV kk) (valV hs kk) := .inl ⟨hs, kk, rd, rfl, rfl⟩
    refine d_notIn (by omega) I dg rx fun s2 I2 => ⟨.bl _, H, I2, rfl, ?_⟩
    rw [ik_isSome kk t]
    exact q
  · exact nk_notIn hu I C hg pk hk rx fun s2 I2 => ⟨.bl _, H, I2, rfl, q⟩
theorem any_py {x : D} (px : Pkd x) : ∀ ds : List D, (∀ d ∈ ds, Pkd d) → ((pys ds).any fun z => PyData.eqv z (py x)) = decide (x ∈ ds)
  | [], _ => by simp [pys]
  | d :: ds, h => by
    rw [pys, List.any_cons, any_py px ds fun e he => h e (List.mem_cons_of_mem _ he), eqv_py d x (h d List.mem_cons_self).1 px.1, beq_dec]
    by_cases e : d = x
    · subst e; simp
    · simp [e, Ne.symm e]
theorem plains_of {ds : List D} (h : ∀ d ∈ ds, Pkd d) : plains ds = true := by
  induction ds with
  | nil => rfl
  | cons d ds ih => rw [plains, plain_of_pure d (h d List.mem_cons_self).1, ih fun e he => h e (List.mem_cons_of_mem _ he)]; rfl
theorem depths_of {ds : List D} (h : ∀ d ∈ ds, Pkd d) : PyData.depthAll (pys ds) ≤ 8 := by
  induction ds with
  | nil => unfold pys PyData.depthAll; exact Nat.zero_le _
  | cons d ds ih =>
    unfold pys PyData.depthAll
    rw [depth_py]
    exact Nat.max_le.mpr ⟨(h d List.mem_cons_self).2, ih fun e he => h e (List.mem_cons_of_mem _ he)⟩
theorem shaped_lst {ds : List D} (h : ∀ d ∈ ds, Pkd d) : SeqAt.shaped (.list (pys ds)) = true := by
  unfold SeqAt.shaped PyData.canLay0 PyData.depth
  rw [lay_pys ds (plains_of h), decide_eq_true (by have := depths_of h; omega)]; rfl
theorem says_in : Says2 m X (fun x y H Q => rInD X.K x y H Q ∨ rMem m X false x y H Q) (gIn false) := by
  intro H G x y v u Q Qh C dx dy I h
  unfold gIn at h
  split at h
  · rename_i a
    cases hg : G a with
    | none => rw [hg] at h; exact h.elim
    | some o =>
      rw [hg] at h
      cases o with
      | lst ds =>
        obtain ⟨px, pd, q⟩ := h
        refine .inl ⟨py x, pys ds, dp_py X.K x v (plain_of_pure x px.1) dx, dp_of C (.ref a) u _ dy (by unfold pyv; rw [hg]; simp only; rw [if_pos (plains_of pd)]), shaped_py (plain_of_pure x px.1) (by have := px.2; omega), shaped_lst pd, ?_⟩
        rw [any_py px ds pd]
        exact imp_here I C (dB _) q
      | dct kd kvs =>
        cases kd with
        | ik => exact .inr ⟨G, a, x, kvs, dat_ref.mp dy, C, dx, .inl ⟨.inl hg, h.1⟩, imp_here I C (dB _) h.2⟩
        | nk => exact .inr ⟨G, a, x, kvs, dat_ref.mp dy, C, dx, .inr ⟨hg, h.1, h.2.1⟩, imp_here I C (dB _) h.2.2⟩
      | fdct kd kvs =>
        cases kd with
        | ik => exact .inr ⟨G, a, x, kvs, dat_ref.mp dy, C, dx, .inl ⟨.inr hg, h.1⟩, imp_here I C (dB _) h.2⟩
        | nk => exact h.elim
      | ins _ _ => exact h.elim
      | tab q => exact h.elim
      | set ns => exact h.elim
  · exact h.elim
theorem says_notIn : Says2 m X (fun x y H Q => rNotInD X.K x y H Q ∨ rMem m X true x y H Q) (gIn true) := by
  intro H G x y v u Q Qh C dx dy I h
  unfold gIn at h
  split at h
  · rename_i a
    cases hg : G a with
    | none => rw [hg] at h; exact h.elim
    | some o =>
      rw [hg] at h
      cases o with
      | lst ds =>
        obtain ⟨px, pd, q⟩ := h
        refine .inl ⟨py x, pys ds, dp_py X.K x v (plain_of_pure x px.1) dx, dp_of C (.ref a) u _ dy (by unfold pyv; rw [hg]; simp only; rw [if_pos (plains_of pd)]), shaped_py (plain_of_pure x px.1) (by have := px.2; omega), shaped_lst pd, ?_⟩
        rw [any_py px ds pd]
        exact imp_here I C (dB _) q
      | dct kd kvs =>
        cases kd with
        | ik => exact .inr ⟨G, a, x, kvs, dat_ref.mp dy, C, dx, .inl ⟨.inl hg, h.1⟩, imp_here I C (dB _) h.2⟩
        | nk => exact .inr ⟨G, a, x, kvs, dat_ref.mp dy, C, dx, .inr ⟨hg, h.1, h.2.1⟩, imp_here I C (dB _) h.2.2⟩
      | fdct kd kvs =>
        cases kd with
        | ik => exact .inr ⟨G, a, x, kvs, dat_ref.mp dy, C, dx, .inl ⟨.inr hg, h.1⟩, imp_here I C (dB _) h.2⟩
        | nk => exact h.elim
      | ins _ _ => exact h.elim
      | tab q => exact h.elim
      | set ns => exact h.elim
  · exact h.elim
theorem q_in (hu : X.A.units + 65 < cLine) (ha : QE m X a ga) (hb : QE m X b gb) (hm : behindInMarks .In b = false := by rfl) : QE m X (.Compare a [.In] [b] pos) (gBin (gIn false) ga gb) := q_cmp ((op_inD hu).or (op_mem (by omega))) says_in hm ha hb
theorem qt_in (hu : X.A.units + 65 < cLine) (ha : QE m X a ga) (hb : QE m X b gb) (hm : behindInMarks .In b = false := by rfl) : QT m X (.Compare a [.In] [b] pos) (gTest (gBin (gIn false) ga gb)) := qt_cmp ((op_inD hu).or (op_mem (by omega))) says_in hm ha hb
theorem q_notIn (hu : X.A.units + 65 < cLine) (ha : QE m X a ga) (hb : QE m X b gb) (hm : behindInMarks .NotIn b = false := by rfl) : QE m X (.Compare a [.NotIn] [b] pos) (gBin (gIn true) ga gb) := q_cmp ((op_notInD hu).or (op_notMem (by omega))) says_notIn hm ha hb
theorem qt_notIn (hu : X.A.units + 65 < cLine) (ha : QE m X a ga) (hb : QE m X b gb) (hm : behindInMarks .NotIn b = false := by rfl) : QT m X (.Compare a [.NotIn] [b] pos) (gTest (gBin (gIn true) ga gb)) := qt_cmp ((op_notInD hu).or (op_notMem (by omega))) says_notIn hm ha hb

/-! ### o[i] = v -/
def setG (o : Option GO) (i d : D) (N : GO → Prop) : Prop := match o with
  | some (.lst ds) => ∃ k j, i = .int k ∧ ixN ds.length k = some j ∧ N (.lst (ds.set j d))
  | some (.dct .ik kvs) => isKey i = true ∧ kvs.length < lim ∧ N (.dct .ik (dput kvs i d))
  | some (.dct .nk kvs) => Pkd i ∧ (∃ ds, i = .tup ds) ∧ kvs.length < lim ∧ N (.dct .nk (dput kvs i d))
  | _ => False
/-- o[i] = v: v first, then o, i -/
def gPut (gv go gi : GE) : GS := fun D σ G => gv σ G fun d G1 => go σ G1 fun x G2 => gi σ G2 fun i G3 => ∃ a, x = .ref a ∧ setG (G3 a) i d fun o => D.nx σ (G3.set a o)
def rPut (m : Gm) (X : Cx) : TSet := fun o i v H Q => ∃ (G : GH) (a : Addr) (di dv : D), o = .ref a ∧ Cp m X H G ∧ Dat X.K H di i ∧ Dat X.K H dv v ∧ setG (G a) di dv fun g => ∀ H', KeepT H H' → Cp m X H' (G.set a g) → Q H'
theorem put_ok (hu : X.A.units + 64 < cLine) : PSet X (rPut m X) := by
  intro pins s τ H o i v ov iv u Q I ro ri rv h
  obtain ⟨G, a, di, dv, rfl, C, hi, hv, h⟩ := h
  cases hg : G a with
  | none => rw [hg] at h; exact h.elim
  | some g =>
    rw [hg] at h
    cases g with
    | lst ds =>
      obtain ⟨k, j, e, hj, q⟩ := h
      subst e
      obtain ⟨vs, ha, t⟩ := C a _ hg
      obtain ⟨kt, C'⟩ := cp_lst C hg (t.set hv j)
      exact set_list pins s τ H _ _ _ _ _ _ _ I ro ri rv ⟨a, vs, k, j, rfl, dat_int.mp hi, ha, by rw [← t.length]; exact hj, q _ kt C'⟩
    | dct kd kvs =>
      cases kd with
      | ik =>
        obtain ⟨ik, l, q⟩ := h
        obtain ⟨kk, rfl⟩ := isKey_of ik
        obtain ⟨hs, ha, t⟩ := C a _ hg
        have ei := dat_keyD hi
        subst ei
        cases ro
        have kt : KeepT H (upd H a (.dK (putK hs kk v))) := KeepT.mut ha (fun _ z => (nomatch z)) fun _ _ z => (nomatch z)
        refine d_setItem (by omega) I (DPut.k (k := kk) ha (by rw [← t.length]; exact lim_lt l)) ri rv fun s' I' => ⟨_, I', q _ kt (C.upd kt ⟨_, upd_same, ?_⟩)⟩
        exact (ik_put t hv).mono fun _ _ z => z.keep kt
      | nk =>
        obtain ⟨pk, ⟨ds, e⟩, l, q⟩ := h
        subst e
        cases ro
        exact nk_store hu I C hg pk hi ri hv rv (lim_lt l) fun H' s' I' kt C' => ⟨H', I', q H' kt C'⟩
    | _ => exact h.elim
theorem qs_put {o i e : Expr} {pos' : Pos} {gv go gi : GE} (hu : X.A.units + 64 < cLine) (hv : QE m X e gv) (ho : QE m X o go) (hi : QE m X i gi)
    (ha : ∀ v, assign (.Subscript o i pos') X.env v = (do
      let ov ← holding [v] (eval o X.env)
      let iv ← holding [v, ov] (eval i X.env)
      standAt pos'
      holding [v, ov, iv] (setItem ov iv v)
      release [v, ov, iv] []) := by intro _; rfl)
    (hs : swapsWithSole [.Subscript o i pos'] e pos.line X.env = pure false := by rfl) (hw : swappedStores [.Subscript o i pos'] e X.env = pure none := by rfl)
    (h1 : (assignEach [.Subscript o i pos'] X.env).map (·.2) = [assign (.Subscript o i pos') X.env] := by rfl) : QS m X (.Assign [.Subscript o i pos'] e pos) (gPut gv go gi) := ⟨fun τ H σ G D S C q => by
  refine wS_of (ps_asg (wE_pe e) (pg_sub (wE_pe o) (wE_pe i) (put_ok (m := m) hu) ha) hs hw h1) ?_
  refine wE_mono (hv.run τ H σ G _ S C q) fun v H1 ⟨d, G1, k1, C1, d1, q1⟩ => ?_
  refine wE_mono (ho.run τ H1 σ G1 _ (S.keep k1) C1 q1) fun x H2 ⟨dx, G2, k2, C2, d2, q2⟩ => ?_
  refine wE_mono (hi.run τ H2 σ G2 _ (S.keep (k1.trans k2)) C2 q2) fun y H3 ⟨dy, G3, k3, C3, d3, a, e, q3⟩ => ?_
  subst e
  have k13 := (k1.trans k2).trans k3
  refine ⟨G3, a, dy, d, dat_ref.mp d2, C3, d3, Dat.keep (k2.trans k3) _ _ d1, ?_⟩
  have mono : ∀ {o : Option GO} {N N' : GO → Prop}, (∀ g, N g → N' g) → setG o dy d N → setG o dy d N' := by
    intro o N N' f h
    cases o with
    | none => exact (show False from h).elim
    | some g =>
      cases g with
      | lst ds => obtain ⟨k, j, e, h1, h2⟩ := h; exact ⟨k, j, e, h1, f _ h2⟩
      | dct kd kvs => cases kd with
        | ik => exact ⟨h.1, h.2.1, f _ h.2.2⟩
        | nk => exact ⟨h.1, h.2.1, h.2.2.1, f _ h.2.2.2⟩
      | fdct _ _ => exact (show False from h).elim
      | ins _ _ => exact (show False from h).elim
      | tab q => exact (show False from h).elim
      | set ns => exact (show False from h).elim
  exact mono (fun g hn H' kt C' => ⟨σ, _, k13.trans kt, S.keep (k13.trans kt), C', hn⟩) q3⟩
end

/-! ### attributes -/
def Fd.ofStr (x : Str) : Option Fd := [Fd.fanout, .depth, .words, .blocks, .snapshots, .marks, .present, .answers, .shape, .sealer, .way, .entry, .cells, .queue, .seen, .at_, .requests, .anchor, .changed, .free, .inner, .entries, .order, .used].find? fun f => decide (f.str = x)
theorem Fd.of_str (f : Fd) : Fd.ofStr f.str = some f := by cases f <;> decide +kernel
theorem Fd.inj {f g : Fd} (h : f.str = g.str) : f = g := by
  have := Fd.of_str f
  rw [h, Fd.of_str g] at this
  exact (Option.some.inj this).symm
def fget : List (Fd × D) → Fd → Option D
  | [], _ => none
  | p :: r, f => if p.1 = f then some p.2 else fget r f
def fput (f : Fd) (d : D) : List (Fd × D) → List (Fd × D)
  | [] => [(f, d)]
  | p :: r => if p.1 = f then (p.1, d) :: r else p :: fput f d r
/-- the classes' facts, of the fields that are fields -/
structure Fld (m : Gm) (K : PySem.W.Frag) : Prop where
  cl : ∀ c f, m.ok c f = true → Cls K (m.cls c) ∧ NoAttr K (m.cls c) f.str
section
variable {m : Gm} {X : Cx} {pos pos' : Pos} {o e : Expr} {go ge : GE} {K : PySem.W.Frag} {H : Hp}
theorem fget_mem : ∀ {fs : List (Fd × D)} {f : Fd} {d : D}, fget fs f = some d → (f, d) ∈ fs
  | [], _, _, h => by cases h
  | p :: r, f, d, h => by
    unfold fget at h
    by_cases e : p.1 = f
    · rw [if_pos e] at h; cases h; subst e; exact List.mem_cons_self
    · rw [if_neg e] at h; exact List.mem_cons_of_mem _ (fget_mem h)
theorem fd_look : ∀ {fs : List (Fd × D)} {gs : List (Str × V)} {f : Fd} {d : D}, All2 (FdRel K H) fs gs → fget fs f = some d → ∃ v, gs.lookup f.str = some v ∧ Dat K H d v
  | [], _, _, _, _, h => by cases h
  | p :: r, _, f, d, ⟨q, t, e, ⟨h1, h2⟩, z⟩, h => by
    subst e
    obtain ⟨g, w⟩ := q
    simp only at h1 h2
    subst h1
    unfold fget at h
    by_cases e : p.1 = f
    · rw [if_pos e] at h; cases h; subst e
      exact ⟨w, by simp [List.lookup], h2⟩
    · rw [if_neg e] at h
      obtain ⟨v, h3, h4⟩ := fd_look z h
      refine ⟨v, ?_, h4⟩
      have hb : (f.str == p.1.str) = false := beq_eq_false_iff_ne.mpr fun q => e (Fd.inj q).symm
      simp only [List.lookup, hb]
      exact h3
theorem fd_put {f : Fd} {d : D} {v : V} (hd : Dat K H d v) : ∀ {fs : List (Fd × D)} {gs : List (Str × V)}, All2 (FdRel K H) fs gs → All2 (FdRel K H) (fput f d fs) (putF f.str v gs)
  | [], _, h => by rw [show _ = [] from h]; exact .cons ⟨rfl, hd⟩ .nil
  | p :: r, _, ⟨q, t, e, h, z⟩ => by
    subst e
    obtain ⟨g, w⟩ := q
    obtain ⟨h1, h2⟩ := h
    simp only at h1 h2
    subst h1
    show All2 (FdRel K H) (if p.1 = f then (p.1, d) :: r else p :: fput f d r) (if p.1.str = f.str then (p.1.str, v) :: t else (p.1.str, w) :: putF f.str v t)
    by_cases e : p.1 = f
    · rw [if_pos e, if_pos (by rw [e])]
      exact .cons ⟨rfl, hd⟩ z
    · rw [if_neg e, if_neg fun q => e (Fd.inj q)]
      exact .cons ⟨rfl, h2⟩ (fd_put hd z)
theorem fput_ok {c : Cl} {f : Fd} {d : D} (hf : m.ok c f = true) : ∀ {fs : List (Fd × D)}, (∀ p ∈ fs, m.ok c p.1 = true) → ∀ p ∈ fput f d fs, m.ok c p.1 = true
  | [], _, p, hp => by
    have : p = (f, d) := by simpa [fput] using hp
    subst this; exact hf
  | q :: r, h, p, hp => by
    unfold fput at hp
    by_cases e : q.1 = f
    · rw [if_pos e] at hp
      rcases List.mem_cons.mp hp with z | z
      · subst z; exact h q List.mem_cons_self
      · exact h p (List.mem_cons_of_mem _ z)
    · rw [if_neg e] at hp
      rcases List.mem_cons.mp hp with z | z
      · subst z; exact h _ List.mem_cons_self
      · exact fput_ok hf (fun x hx => h x (List.mem_cons_of_mem _ hx)) p z
def fldG (o : Option GO) (f : Fd) (Q : D → Prop) : Prop := match o with
  | some (.ins _ fs) => ∃ d, fget fs f = some d ∧ Q d
  | _ => False
def gFld (g : GE) (f : Fd) : GE := fun σ G Q => g σ G fun x G1 => ∃ a, x = .ref a ∧ fldG (G1 a) f fun d => Q d G1
theorem q_fld (T : Fld m X.K) (f : Fd) {x : Str} (hx : f.str = x) (h : QE m X o go) (hb : attributeBase o x X.env (eval o X.env) = eval o X.env := by rfl) : QE m X (.Attribute o x pos) (gFld go f) := ⟨fun τ H σ G Q S C q => by
  subst hx
  refine wE_of (pe_fld (wE_pe o) hb) ?_
  refine wE_mono (h.run τ H σ G _ S C q) fun v H1 ⟨x, G1, k1, C1, d1, a, e, q1⟩ => ?_
  subst e
  cases hg : G1 a with
  | none => rw [hg] at q1; exact q1.elim
  | some g =>
    rw [hg] at q1
    cases g with
    | ins c fs =>
      obtain ⟨d, hd, q1⟩ := q1
      obtain ⟨dx, gs, ha, t, hok⟩ := C1 a _ hg
      obtain ⟨v', hl, hv⟩ := fd_look t hd
      obtain ⟨cl, na⟩ := T.cl c f (hok _ (fget_mem hd))
      exact ⟨a, _, dx, gs, v', dat_ref.mp d1, ha, cl, na, hl, d, G1, k1, C1, hv, q1⟩
    | _ => exact q1.elim⟩
/-- o.f = e: e first -/
def fsetG (m : Gm) (o : Option GO) (f : Fd) (d : D) (N : GO → Prop) : Prop := match o with
  | some (.ins c fs) => m.ok c f = true ∧ fs.length < 100 ∧ N (.ins c (fput f d fs))
  | _ => False
def gSetF (m : Gm) (go gv : GE) (f : Fd) : GS := fun D σ G => gv σ G fun d G1 => go σ G1 fun x G2 => ∃ a, x = .ref a ∧ fsetG m (G2 a) f d fun o => D.nx σ (G2.set a o)
theorem qs_setF (T : Fld m X.K) (f : Fd) {x : Str} (hx : f.str = x) (hv : QE m X e ge) (ho : QE m X o go) (hs : swapsWith e (some (.Attribute o x pos')) pos.line X.env = pure false := by rfl) : QS m X (.Assign [.Attribute o x pos'] e pos) (gSetF m go ge f) := ⟨fun τ H σ G D S C q => by
  subst hx
  refine wS_of (ps_fld (wE_pe o) (wE_pe e) hs) ?_
  refine wE_mono (hv.run τ H σ G _ S C q) fun v H1 ⟨d, G1, k1, C1, d1, q1⟩ => ?_
  refine wE_mono (ho.run τ H1 σ G1 _ (S.keep k1) C1 q1) fun x H2 ⟨dx, G2, k2, C2, d2, a, e, q2⟩ => ?_
  subst e
  cases hg : G2 a with
  | none => rw [hg] at q2; exact q2.elim
  | some g =>
    rw [hg] at q2
    cases g with
    | ins c fs =>
      obtain ⟨hc, hl, q3⟩ := q2
      obtain ⟨dx, gs, ha, t, hok⟩ := C2 a _ hg
      obtain ⟨cl, na⟩ := T.cl c f hc
      have kt : KeepT H2 (upd H2 a (.ins (m.cls c) dx (putF f.str v gs))) := KeepT.mut ha (fun _ z => (nomatch z)) fun _ _ z => (nomatch z)
      have k := (k1.trans k2).trans kt
      exact ⟨a, _, dx, gs, dat_ref.mp d2, ha, cl, na, by rw [← t.length]; omega, σ, _, k, S.keep k, C2.upd (o := .ins c (fput f d fs)) kt ⟨dx, _, upd_same, (fd_put (Dat.keep k2 _ _ d1) t).mono fun _ _ z => z.keep kt, fput_ok hc hok⟩, q3⟩
    | _ => exact q2.elim⟩
end
end Cz

/-! Calls: defs, methods by the class that is met, classes made, a class's own def called by the class. -/
namespace Cz
open PySem PySem.Spec PyProof.Rows L2

/-- a promise said of data, as a promise of values -/
def low (w : World) (K : PySem.W.Frag) (m : Gm) (sp : GSp) : Sp := fun vs H Q _ => ∃ (ds : List D) (G : GH) (Qg : GQ), All2 (Dat K H) ds vs ∧ Cpl w K m H G ∧ sp ds G Qg ∧ ∀ d G' v H', KeepT H H' → Cpl w K m H' G' → Dat K H' d v → Qg d G' → Q v H'
section
variable (P : Program) (w : World) (K : PySem.W.Frag) (mg : Str → Option Value) (base : Heap) (m : Gm)
/-- the module's name x is a def that promises sp -/
def GFn (k : Nat) (x : Str) (sp : GSp) : Prop := ∃ (f : Addr) (fd : FuncData) (ps : List Str), FnOk P w K mg base CX0 k f fd ps (low w K m sp) ∧ mg x = some (.ref f) ∧ PySem.W.keepIn K (.ref f) = true ∧ Binds K fd ps []
/-- the class c's method n promises sp -/
def GMt (k : Nat) (c : Cl) (n : Str) (sp : GSp) : Prop := ∃ (f : Addr) (fd : FuncData) (ps : List Str), FnOk P w K mg base CX0 k f fd ps (low w K m sp) ∧ Meth K (m.cls c) n f ∧ Cls K (m.cls c) ∧ Binds K fd ps []
/-- the module's name x is the class c, whose __init__ promises sp -/
def GMk (k : Nat) (x : Str) (c : Cl) (sp : GSp) : Prop := ∃ (f : Addr) (fd : FuncData) (ps : List Str), FnOk P w K mg base CX0 k f fd ps (low w K m sp) ∧ Mk K (m.cls c) f ∧ mg x = some (.ref (m.cls c)) ∧ Binds K fd ps []
/-- the module's name x is a class; its def n, read off the class, promises sp -/
def GUn (k : Nat) (x n : Str) (sp : GSp) : Prop := ∃ (C f : Addr) (fd : FuncData) (ps : List Str), FnOk P w K mg base CX0 k f fd ps (low w K m sp) ∧ mg x = some (.ref C) ∧ PySem.W.readsIn K C (.type "type") = true ∧ PySem.W.specialIn K (.ref C) "__getattribute__" = some (some (.builtin "type.__getattribute__")) ∧
  PySem.W.findCls K (.ref C) (.type "type") n = some (.val (.ref f)) ∧ PySem.W.keepIn K (.ref f) = true ∧ Binds K fd ps []
end
def gCall (sp : GSp) (a : GA) : GE := fun σ G Q => a σ G fun ds G1 => sp ds G1 Q
def methG (o : Option GO) (tab : Cl → Option GSp) (N : GSp → Prop) : Prop := match o with
  | some (.ins c _) => (match tab c with
    | some sp => N sp
    | none => False)
  | _ => False
def gMeth (tab : Cl → Option GSp) (o : GE) (a : GA) : GE := fun σ G Q => o σ G fun x G1 => ∃ p, x = .ref p ∧ methG (G1 p) tab fun sp => a σ G1 fun ds G2 => sp (.ref p :: ds) G2 Q
def gMake (c : Cl) (sp : GSp) (a : GA) : GE := fun σ G Q => a σ G fun ds G1 => ∀ p, G1 p = none → sp (.ref p :: ds) (G1.set p (.ins c [])) fun d G2 => d = .non ∧ Q (.ref p) G2
section
variable {m : Gm} {X : Cx} {k n : Nat} {x mn : Str} {sp : GSp} {p pos apos : Pos} {e o : Expr} {es : List Expr} {ga : GA} {go : GE} {c : Cl} {tab : Cl → Option GSp}
theorem low_here {H0 H : Hp} {G : GH} {ds : List D} {vs : List V} {Q : GQ} {E : XK} (k : KeepT H0 H) (C : Cp m X H G) (hd : All2 (Dat X.K H) ds vs) (h : sp ds G Q) : low X.w X.K m sp vs H (LQ m X H0 Q) E :=
  ⟨ds, G, Q, hd, C, h, fun d G' v H' k' C' hd' q => ⟨d, G', k.trans k', C', hd', q⟩⟩
theorem q_call (F : GFn X.prog X.w X.K X.mg X.base m k x sp) (hr : Room n X.A) (hle : k ≤ n) (hg : Gl X x) (ha : QA m X (e :: es) ga) (hdb : (x == ("__debug__" : Str)) = false := by decide)
    (he : starEach (e :: es) X.env = (false, eval e X.env) :: starEach es X.env := by rfl) (hpl : (backTo pos (starEach es X.env)).any (·.1) = false := by rfl) : QE m X (.Call (.Name x p) (e :: es) [] pos) (gCall sp ga) := ⟨fun τ H σ G Q S C q => by
  obtain ⟨f, fd, ps, F, hm, hk, hb⟩ := F
  refine wE_of (pe_call F (hr.mono hle) hg hm hk hb .nil (pass0 (X := X)) (wA_pa _) hdb he hpl) ?_
  refine wA_mono (ha.run τ H σ G _ S C q) fun vs H1 ⟨ds, G1, k1, C1, d1, q1⟩ => ?_
  rw [List.append_nil]
  exact low_here k1 C1 d1 q1⟩
theorem q_make (F : GMk X.prog X.w X.K X.mg X.base m k x c sp) (hr : Room n X.A) (hle : k + 1 ≤ n) (hg : Gl X x) (ha : QA m X (e :: es) ga) (hdb : (x == ("__debug__" : Str)) = false := by decide)
    (he : starEach (e :: es) X.env = (false, eval e X.env) :: starEach es X.env := by rfl) (hpl : (backTo pos (starEach es X.env)).any (·.1) = false := by rfl) : QE m X (.Call (.Name x p) (e :: es) [] pos) (gMake c sp ga) := ⟨fun τ H σ G Q S C q => by
  obtain ⟨f, fd, ps, F, M, hm, hb⟩ := F
  refine wE_of (pe_make M F (hr.mono hle) hg hm hb .nil (pass0 (X := X)) (wA_pa _) hdb he hpl) ?_
  refine wA_mono (ha.run τ H σ G _ S C q) fun vs H1 ⟨ds, G1, k1, C1, d1, q1⟩ => ?_
  intro a dx na ndx ne
  rw [List.append_nil]
  have k2 := KeepT.new (o := HO.own a) ndx
  have na2 : upd H1 dx (.own a) a = none := by rw [upd_ne ne.symm]; exact na
  have k3 := k2.trans (KeepT.new (o := HO.ins (m.cls c) dx []) na2)
  have C2 : Cp m X (upd (upd H1 dx (.own a)) a (.ins (m.cls c) dx [])) (G1.set a (.ins c [])) :=
    (C1.ext ndx).upd (o := .ins c []) (KeepT.new na2) ⟨dx, [], upd_same, .nil, fun _ z => (nomatch z)⟩
  refine ⟨.ref a :: ds, _, _, .cons (dat_ref.mpr rfl) (all_keep k3 d1), C2, q1 a (C1.free na), fun d G' v H' k' C' hd' ⟨e1, q2⟩ => ?_⟩
  subst e1
  exact ⟨dat_non.mp hd', .ref a, G', (k1.trans k3).trans k', C', dat_ref.mpr rfl, q2⟩⟩
theorem q_make0 (F : GMk X.prog X.w X.K X.mg X.base m k x c sp) (hr : Room n X.A) (hle : k + 1 ≤ n) (hg : Gl X x) (hdb : (x == ("__debug__" : Str)) = false := by decide) : QE m X (.Call (.Name x p) [] [] pos) (gMake c sp gNil) := ⟨fun τ H σ G Q S C q => by
  obtain ⟨f, fd, ps, F, M, hm, hb⟩ := F
  refine wE_of (pe_make0 M F (hr.mono hle) hg hm hb .nil (pass0 (X := X)) hdb) ?_
  intro a dx na ndx ne
  have k2 := KeepT.new (o := HO.own a) ndx
  have na2 : upd H dx (.own a) a = none := by rw [upd_ne ne.symm]; exact na
  have k3 := k2.trans (KeepT.new (o := HO.ins (m.cls c) dx []) na2)
  have C2 : Cp m X (upd (upd H dx (.own a)) a (.ins (m.cls c) dx [])) (G.set a (.ins c [])) :=
    (C.ext ndx).upd (o := .ins c []) (KeepT.new na2) ⟨dx, [], upd_same, .nil, fun _ z => (nomatch z)⟩
  refine ⟨[.ref a], _, _, .cons (dat_ref.mpr rfl) .nil, C2, q a (C.free na), fun d G' v H' k' C' hd' ⟨e1, q2⟩ => ?_⟩
  subst e1
  exact ⟨dat_non.mp hd', .ref a, G', k3.trans k', C', dat_ref.mpr rfl, q2⟩⟩
/-- a name that is no field -/
theorem fd_none {K : PySem.W.Frag} {H : Hp} (T : Fld m K) {g : Addr} (M : Meth K (m.cls c) mn g) : ∀ {fs : List (Fd × D)} {gs : List (Str × V)}, All2 (FdRel K H) fs gs → (∀ q ∈ fs, m.ok c q.1 = true) → gs.lookup mn = none
  | [], _, h, _ => by rw [show _ = [] from h]; rfl
  | q :: r, _, ⟨g', t, e, h, z⟩, hok => by
    subst e
    obtain ⟨y, w⟩ := g'
    obtain ⟨h1, h2⟩ := h
    simp only at h1
    subst h1
    have hb : (mn == q.1.str) = false := beq_eq_false_iff_ne.mpr fun e => by
      have na := (T.cl c q.1 (hok q List.mem_cons_self)).2
      have ma := M.at_
      rw [e, show PySem.W.findIn K (.ref (m.cls c)) q.1.str = some none from na] at ma
      cases ma
    simp only [List.lookup, hb]
    exact fd_none T M z fun x hx => hok x (List.mem_cons_of_mem _ hx)
theorem q_meth {pl : Sem Bool} (T : Fld m X.K) (tab : Cl → Option GSp) (F : ∀ c sp, tab c = some sp → GMt X.prog X.w X.K X.mg X.base m k c mn sp) (hr : Room n X.A) (hle : k ≤ n) (ho : QE m X o go) (ha : QA m X (e :: es) ga)
    (hst : starEach (e :: es) X.env = (false, eval e X.env) :: starEach es X.env := by rfl) (hpl : (backTo pos (starEach es X.env)).any (·.1) = false := by rfl)
    (ht : eval (.Call (.Attribute o mn apos) (e :: es) [] pos) X.env = (do
      let ov ← eval o X.env
      standAt apos.atName
      let (f, first) ← holding [ov] (getMethod ov mn pl)
      callWith pos f first (backTo pos (starEach (e :: es) X.env)) (backToKw pos (keywordEach [] X.env))) := by rfl) : QE m X (.Call (.Attribute o mn apos) (e :: es) [] pos) (gMeth tab go ga) := ⟨fun τ H σ G Q S C q => by
  intro pins s I
  refine PySem.W.methodCall_KW (pl := pl) (thn (ho.run τ H σ G _ S C q pins s I) fun u s1 ⟨xv, H1, I1, rx, xd, G1, k1, C1, d1, a, e1, q1⟩ => ?_) ht
  subst e1
  have ex := dat_ref.mp d1
  subst ex
  obtain rfl : u = Value.ref a := rx
  cases hg : G1 a with
  | none => rw [hg] at q1; exact q1.elim
  | some g =>
    rw [hg] at q1
    cases g with
    | ins c fs =>
      cases ht : tab c with
      | none => unfold methG at q1; simp only [ht] at q1
      | some sp =>
        unfold methG at q1
        simp only [ht] at q1
        obtain ⟨f, fd, ps, F, M, cl, hb⟩ := F c sp ht
        obtain ⟨dx, gs, ha1, t, hok⟩ := C1 a _ hg
        refine getmeth_ok I1 ha1 cl M (fd_none T M t hok) ?_
        refine PySem.W.callWith_K (first := [.ref a]) (h₀ := X.base) I1.ok.mod.kin M.kp (thn (ha.run τ H1 σ G1 _ (S.keep k1) C1 q1 pos pins s1 I1) fun us s2 ⟨vs, H2, I2, r, ds, G2, k2, C2, d2, q2⟩ => ⟨I2.kIn, ?_⟩) hst hpl
        refine run_fn (us := .ref a :: us) (vs := .ref a :: vs) (E := E0) F (hr.mono hle) hb .nil (pass0 (X := X)) I2 (.cons rfl r) ?_
        rw [List.append_nil]
        exact low_here (k1.trans k2) C2 (.cons (dat_ref.mpr rfl) d2) q2
    | _ => exact q1.elim⟩
theorem q_meth0 {pl : Sem Bool} (T : Fld m X.K) (tab : Cl → Option GSp) (F : ∀ c sp, tab c = some sp → GMt X.prog X.w X.K X.mg X.base m k c mn sp) (hr : Room n X.A) (hle : k ≤ n) (ho : QE m X o go)
    (ht : eval (.Call (.Attribute o mn apos) [] [] pos) X.env = (do
      let ov ← eval o X.env
      standAt apos.atName
      let (f, first) ← holding [ov] (getMethod ov mn pl)
      callWith pos f first (backTo pos (starEach [] X.env)) (backToKw pos (keywordEach [] X.env))) := by rfl) : QE m X (.Call (.Attribute o mn apos) [] [] pos) (gMeth tab go gNil) := ⟨fun τ H σ G Q S C q => by
  intro pins s I
  refine PySem.W.methodCall_KW (pl := pl) (thn (ho.run τ H σ G _ S C q pins s I) fun u s1 ⟨xv, H1, I1, rx, xd, G1, k1, C1, d1, a, e1, q1⟩ => ?_) ht
  subst e1
  have ex := dat_ref.mp d1
  subst ex
  obtain rfl : u = Value.ref a := rx
  cases hg : G1 a with
  | none => rw [hg] at q1; exact q1.elim
  | some g =>
    rw [hg] at q1
    cases g with
    | ins c fs =>
      cases ht : tab c with
      | none => unfold methG at q1; simp only [ht] at q1
      | some sp =>
        unfold methG at q1
        simp only [ht] at q1
        obtain ⟨f, fd, ps, F, M, cl, hb⟩ := F c sp ht
        obtain ⟨dx, gs, ha1, t, hok⟩ := C1 a _ hg
        refine getmeth_ok I1 ha1 cl M (fd_none T M t hok) ?_
        refine PySem.W.callWith_K0 (first := [.ref a]) I1.kIn M.kp (run_fn (us := [.ref a]) (vs := [.ref a]) (E := E0) F (hr.mono hle) hb .nil (pass0 (X := X)) I1 (.cons rfl .nil) ?_)
        exact low_here k1 C1 (.cons (dat_ref.mpr rfl) .nil) q1
    | _ => exact q1.elim⟩
/-- C.m(self, ..): the class's own def -/
theorem q_un {pl : Sem Bool} (F : GUn X.prog X.w X.K X.mg X.base m k x mn sp) (hr : Room n X.A) (hle : k ≤ n) (hg : Gl X x) (ha : QA m X (e :: es) ga) (hdb : (x == ("__debug__" : Str)) = false := by decide)
    (hst : starEach (e :: es) X.env = (false, eval e X.env) :: starEach es X.env := by rfl) (hpl : (backTo pos (starEach es X.env)).any (·.1) = false := by rfl)
    (ht : eval (.Call (.Attribute (.Name x p) mn apos) (e :: es) [] pos) X.env = (do
      let ov ← eval (.Name x p) X.env
      standAt apos.atName
      let (f, first) ← holding [ov] (getMethod ov mn pl)
      callWith pos f first (backTo pos (starEach (e :: es) X.env)) (backToKw pos (keywordEach [] X.env))) := by rfl) : QE m X (.Call (.Attribute (.Name x p) mn apos) (e :: es) [] pos) (gCall sp ga) := ⟨fun τ H σ G Q S C q => by
  obtain ⟨Cc, f, fd, ps, F, hm, h1, h2, h3, hk, hb⟩ := F
  intro pins s I
  refine PySem.W.methodCall_KW (pl := pl) (ld_glob I hg hm ?_ hdb) ht
  refine PySem.W.method_cls I.kIn h2 ?_
  refine PySem.W.cls_value I.kIn h1 h3 rfl ?_
  have I1 := I.tok (s.toks + 1)
  refine PySem.W.callWith_K (first := []) (h₀ := X.base) I1.ok.mod.kin hk (thn (ha.run τ H σ G _ S C q pos pins _ I1) fun us s2 ⟨vs, H2, I2, r, ds, G2, k2, C2, d2, q2⟩ => ⟨I2.kIn, ?_⟩) hst hpl
  refine run_fn (us := us) (vs := vs) (E := E0) F (hr.mono hle) hb .nil (pass0 (X := X)) I2 r ?_
  rw [List.append_nil]
  exact low_here k2 C2 d2 q2⟩
/-! ### C(k = v, ..) -/
structure QK (m : Gm) (X : Cx) (kws : List Keyword) (g : GA) : Prop where
  run : ∀ (τ : L2.St) (H : Hp) (σ : GSt) (G : GH) (Q : List D → GH → Prop), Sl X.K H σ τ → Cp m X H G → g σ G Q → ∀ (pos : Pos) pins s, Inv X pins τ H s → wpAny (model X.prog X.w) X.A (evalAll ((backToKw pos (keywordEach kws X.env)).map (·.2))) (AP X pins τ (LA m X H Q)) X.xe s
def wK (X : Cx) (kws : List Keyword) : TA := fun τ H Q => ∀ (pos : Pos) pins s, Inv X pins τ H s → wpAny (model X.prog X.w) X.A (evalAll ((backToKw pos (keywordEach kws X.env)).map (·.2))) (AP X pins τ Q) X.xe s
theorem wK_pk (kws : List Keyword) : L2.PK X kws (wK X kws) := ⟨fun pos pins s τ H Q I h => h pos pins s I⟩
theorem qk_nil : QK m X [] gNil := ⟨fun τ H σ G Q S C q pos pins s I => pk_nil.run pos pins s τ H _ I ⟨[], G, KeepT.refl H, C, rfl, q⟩⟩
theorem qk_cons {nm : Option Str} {kpos : Pos} {kws : List Keyword} {g : GE} (h : QE m X e g) (t : QK m X kws ga) : QK m X (⟨nm, e, kpos⟩ :: kws) (gCons g ga) := ⟨fun τ H σ G Q S C q pos pins s I => by
  refine (pk_cons (wE_pe e) (wK_pk kws)).run pos pins s τ H _ I ?_
  refine wE_mono (h.run τ H σ G _ S C q) fun v H1 ⟨x, G1, k1, C1, d1, q1⟩ => ?_
  intro pos2 pins2 s2 I2
  refine thn (t.run τ H1 σ G1 _ (S.keep k1) C1 q1 pos2 pins2 s2 I2) fun us s3 ⟨vs, H2, I3, r, xs, G2, k2, C2, d2, q2⟩ => ?_
  exact ⟨vs, H2, I3, r, x :: xs, G2, k1.trans k2, C2, .cons (Dat.keep k2 _ _ d1) d2, q2⟩⟩
/-- the class c made by keywords ks: g brings the instance, the keywords' values (and what lacks) in the parameters' order -/
def GMkK (P : Program) (w : World) (K : PySem.W.Frag) (mg : Str → Option Value) (base : Heap) (m : Gm) (k : Nat) (x : Str) (c : Cl) (ks : List Str) (sp : GSp) : Prop :=
  ∃ (f : Addr) (fd : FuncData) (ps : List Str) (sp' : GSp) (g : List Value → List Value → List Value) (gV : List V → List V → List V) (gD : List D → List D), FnOk P w K mg base CX0 k f fd ps (low w K m sp') ∧ Mk K (m.cls c) f ∧ mg x = some (.ref (m.cls c)) ∧ KBn K fd ps 1 ks g gV ∧
    (∀ (p : Addr) (H : Hp) (ds : List D) (vs : List V), ds.length = ks.length → All2 (Dat K H) ds vs → All2 (Dat K H) (gD (.ref p :: ds)) (gV [.ref p] vs)) ∧ ∀ p ds G Q, sp (.ref p :: ds) G Q → ds.length = ks.length ∧ sp' (gD (.ref p :: ds)) G Q
theorem q_makeK {kws : List Keyword} {ks : List Str} (F : GMkK X.prog X.w X.K X.mg X.base m k x c ks sp) (hr : Room n X.A) (hle : k + 1 ≤ n) (hg : Gl X x) (ha : QK m X kws ga) (hdb : (x == ("__debug__" : Str)) = false := by decide)
    (hall : (backToKw pos (keywordEach kws X.env)).all (·.1.isSome) = true := by rfl) (hks : (backToKw pos (keywordEach kws X.env)).filterMap (·.1) = ks := by rfl)
    (hpl : ((backTo pos (starEach [] X.env)).any (·.1) || (backToKw pos (keywordEach kws X.env)).any (·.1.isNone)) = false := by rfl) : QE m X (.Call (.Name x p) [] kws pos) (gMake c sp ga) := ⟨fun τ H σ G Q S C q => by
  obtain ⟨f, fd, ps, sp', g, gV, gD, F, M, hm, hb, hrel, hsp⟩ := F
  refine wE_of (pe_makeK0 M F (hr.mono hle) hg hm hb (pass0 (X := X)) (wK_pk kws) hall hks hdb hpl) ?_
  intro pos2 pins s I
  refine thn (ha.run τ H σ G _ S C q pos2 pins s I) fun us s1 ⟨vs, H1, I1, r1, ds, G1, k1, C1, d1, q1⟩ => ⟨vs, H1, I1, r1, ?_⟩
  -- the number of values, from the promise at any free place
  have hsz : ds.length = ks.length := (hsp s1.heap.objs.size ds _ _ (q1 s1.heap.objs.size (C1.free (I1.hok.fresh (Nat.le_refl _))))).1
  refine ⟨rfl, by rw [← d1.length]; exact hsz, fun a dx na ndx ne => ?_⟩
  have k2 := KeepT.new (o := HO.own a) ndx
  have na2 : upd H1 dx (.own a) a = none := by rw [upd_ne ne.symm]; exact na
  have k3 := k2.trans (KeepT.new (o := HO.ins (m.cls c) dx []) na2)
  have C2 : Cp m X (upd (upd H1 dx (.own a)) a (.ins (m.cls c) dx [])) (G1.set a (.ins c [])) :=
    (C1.ext ndx).upd (o := .ins c []) (KeepT.new na2) ⟨dx, [], upd_same, .nil, fun _ z => (nomatch z)⟩
  refine ⟨gD (.ref a :: ds), _, _, hrel a _ ds vs hsz (all_keep k3 d1), C2, (hsp a ds _ _ (q1 a (C1.free na))).2, fun d G' v H' k' C' hd' ⟨e1, q2⟩ => ?_⟩
  subst e1
  exact ⟨dat_non.mp hd', .ref a, G', (k1.trans k3).trans k', C', dat_ref.mpr rfl, q2⟩⟩
end

/-! ### a def keeps its promise -/
def gstart (N : List Str) (ds : List D) : GSt := ds.map some ++ List.replicate (N.length - ds.length) none
theorem sl_start {K : PySem.W.Frag} {H : Hp} {N : List Str} {ds : List D} {vs : List V} (h : All2 (Dat K H) ds vs) : Sl K H (gstart N ds) (L2.start N vs) := by
  unfold gstart L2.start
  rw [← h.length]
  refine All2.append ?_ ?_
  · have : ∀ {ds : List D} {vs : List V}, All2 (Dat K H) ds vs → All2 (SlRel K H) (ds.map some) (vs.map some) := by
      intro ds
      induction ds with
      | nil => intro vs h; rw [show vs = [] from h]; exact .nil
      | cons d ds ih => rintro vs ⟨v, r, e, h, t⟩; subst e; exact .cons ⟨v, rfl, h⟩ (ih t)
    exact this h
  · have : ∀ n : Nat, All2 (SlRel K H) (List.replicate n none) (List.replicate n none) := by
      intro n
      induction n with
      | zero => exact .nil
      | succ n ih => rw [List.replicate_succ, List.replicate_succ]; exact .cons trivial ih
    exact this _
def bodyEnds (Q : GQ) : GEnds := { nx := fun _ G' => Q .non G', rt := Q }
section
variable {P : Program} {w : World} {K : PySem.W.Frag} {mg : Str → Option Value} {base : Heap} {m : Gm}
/-- THE RULE for a def -/
theorem fn_ok {x qual : Str} {params : Arguments} {body : List Stmt} {scope : Scope} {dvs : List V} {kws : List (Str × V)} {f : Addr} {fd : FuncData} {N ps : List Str} {k : Nat} {sp : GSp} {t : GS} (F : FunD K x qual params body scope dvs kws f fd) (S : FnScope N ps scope)
    (len : ∀ ds G Q, sp ds G Q → ds.length = ps.length)
    (hb : ∀ (cdv : Value) (A : Around) (outer : List Env) (s : Shared) (H : Hp) (E : XK), Room k (A.deeper (envOfC qual scope s.heap.objs.size f cdv)) → QB m (cxOf CX0 P w K mg base N qual scope f cdv A outer s H E).nox body t)
    (rd : ∀ ds G Q, sp ds G Q → t (bodyEnds Q) (gstart N ds) G) : FnOk P w K mg base CX0 (k + 1) f fd ps (low w K m sp) := by
  refine F.ok S (fun vs H Q E ⟨ds, G, Qg, hd, _, h, _⟩ => by rw [← hd.length]; exact len ds G Qg h) fun cdv A outer s H vs Q E hr ⟨ds, G, Qg, hd, C, h, hq⟩ => ?_
  refine ⟨wB (cxOf CX0 P w K mg base N qual scope f cdv A outer s H E).nox body, (wB_pss _).nox, ?_⟩
  refine wB_mono ((hb cdv A outer s H E hr).run (L2.start N vs) H (gstart N ds) G (bodyEnds Qg) (sl_start hd) C (rd ds G Qg h)) ⟨fun τ H' ⟨σ, G', k', S', C', q⟩ => hq .non G' .non H' k' C' (dat_non.mpr rfl) q, fun v H' ⟨d, G', k', C', hd', q⟩ => hq d G' v H' k' C' hd' q, fun _ _ ⟨_, _, _, _, _, q⟩ => q, fun _ _ ⟨_, _, _, _, _, q⟩ => q⟩
end
end Cz

/-! Built-in functions and methods, dict displays. -/
namespace Cz
open PySem PySem.Spec PyProof.Rows L2
section
variable {m : Gm} {X : Cx} {x : Str} {p pos apos cpos : Pos} {e o f : Expr} {es : List Expr} {ga : GA} {go ge gf : GE} {id T : String} {r : List V → Hp → VK → Prop} {g : GSp}
theorem q_callB (hc : CallR X (.builtin id) r) (hs : SaysL m X r g) (hg : Gl X x) (hm : X.mg x = none) (hv : bootBuiltins x = some (.builtin id)) (ha : QA m X (e :: es) ga) (hn : x ≠ "__name__" := by decide) (hdb : (x == ("__debug__" : Str)) = false := by decide)
    (he : starEach (e :: es) X.env = (false, eval e X.env) :: starEach es X.env := by rfl) (hpl : (backTo pos (starEach es X.env)).any (·.1) = false := by rfl) : QE m X (.Call (.Name x p) (e :: es) [] pos) (gCall g ga) := ⟨fun τ H σ G Q S C q => by
  refine wE_of (pe_callB hc hg hm hv (wA_pa _) hn hdb he hpl) ?_
  exact wA_mono (ha.run τ H σ G _ S C q) fun vs H1 ⟨ds, G1, k1, C1, d1, q1⟩ => hs H1 G1 ds vs Q _ C1 d1 (imp_lq k1) q1⟩
theorem q_callT (hc : CallR X (.type T) r) (hs : SaysL m X r g) (hg : Gl X x) (hm : X.mg x = none) (hv : bootBuiltins x = some (.type T)) (ha : QA m X (e :: es) ga) (hn : x ≠ "__name__" := by decide) (hdb : (x == ("__debug__" : Str)) = false := by decide)
    (he : starEach (e :: es) X.env = (false, eval e X.env) :: starEach es X.env := by rfl) (hpl : (backTo pos (starEach es X.env)).any (·.1) = false := by rfl) : QE m X (.Call (.Name x p) (e :: es) [] pos) (gCall g ga) := ⟨fun τ H σ G Q S C q => by
  refine wE_of (pe_callTy hc hg hm hv (wA_pa _) hn hdb he hpl) ?_
  exact wA_mono (ha.run τ H σ G _ S C q) fun vs H1 ⟨ds, G1, k1, C1, d1, q1⟩ => hs H1 G1 ds vs Q _ C1 d1 (imp_lq k1) q1⟩
end
theorem all2_one {α β : Type} {R : α → β → Prop} {a : α} {bs : List β} (h : All2 R [a] bs) : ∃ b, bs = [b] ∧ R a b := by
  obtain ⟨b, r, e, h1, t⟩ := h
  rw [show r = [] from t] at e
  exact ⟨b, e, h1⟩
theorem all2_two {α β : Type} {R : α → β → Prop} {a a' : α} {bs : List β} (h : All2 R [a, a'] bs) : ∃ b b', bs = [b, b'] ∧ R a b ∧ R a' b' := by
  obtain ⟨b, r, e, h1, t⟩ := h
  obtain ⟨b', e', h2⟩ := all2_one t
  subst e'
  exact ⟨b, b', e, h1, h2⟩

/-! ### len -/
def lenG (x : D) (G : GH) (N : Nat → Prop) : Prop := match x with
  | .tup ds => N ds.length
  | .ro ds => N ds.length
  | .ref a => (match G a with
    | some (.lst ds) => N ds.length
    | some (.dct _ kvs) => N kvs.length
    | _ => False)
  | _ => False
def bLen : GSp := fun ds G Q => match ds with
  | [x] => lenG x G fun n => Q (.int n) G
  | _ => False
def rLenN (m : Gm) (X : Cx) : List V → Hp → VK → Prop := fun vs H Q => ∃ (G : GH) (a : Addr) (kvs : List (D × D)), vs = [.ref a] ∧ Cp m X H G ∧ G a = some (.dct .nk kvs) ∧ Q (.int kvs.length) H
theorem call_lenN {m : Gm} {X : Cx} : CallR X (.builtin "len") (rLenN m X) := by
  intro pins s τ H vs us Q I r h
  obtain ⟨G, a, kvs, rfl, C, hg, q⟩ := h
  obtain ⟨u, rfl, ru⟩ := vals1 r
  cases ru
  obtain ⟨xs, e, hd, l, t, n, dd⟩ := nk_at I C hg
  have e2 := t.length
  refine PySem.call_len_dictH hd dd (by rw [← e2]; rw [sizeLine_eq] at l; omega) ?_
  rw [← e2]
  exact ⟨.int kvs.length, H, I.tok _, ⟨_, rfl⟩, q⟩
theorem says_len {m : Gm} {X : Cx} : SaysL m X (fun xs H Q => (∃ p ys, xs = [.ref p] ∧ (SqL X.K H p ys ∨ SqT X.K H p ys) ∧ Q (.int ys.length) H) ∨ ((∃ a kvs, xs = [V.ref a] ∧ H a = some (.dK kvs) ∧ Q (.int kvs.length) H) ∨ rLenN m X xs H Q)) bLen := by
  intro H G xs vs Q Qh C d I h
  unfold bLen at h
  split at h
  · rename_i x
    obtain ⟨v, rfl, dv⟩ := all2_one d
    unfold lenG at h
    split at h
    · rename_i ds
      obtain ⟨a, ws, e, ha, t⟩ := dat_tup.mp dv
      subst e
      exact .inl ⟨a, ws, rfl, .inr (SqT.of ha), by rw [← t.length]; exact imp_here I C (dI _) h⟩
    · rename_i ds
      obtain ⟨a, ws, e, ha, t⟩ := dat_ro dv
      subst e
      exact .inl ⟨a, ws, rfl, .inl ha, by rw [← t.length]; exact imp_here I C (dI _) h⟩
    · rename_i a
      have ev := dat_ref.mp dv
      subst ev
      cases hg : G a with
      | none => rw [hg] at h; exact h.elim
      | some g =>
        rw [hg] at h
        cases g with
        | lst ds =>
          obtain ⟨ws, ha, t⟩ := C a _ hg
          exact .inl ⟨a, ws, rfl, .inl (SqL.of ha), by rw [← t.length]; exact imp_here I C (dI _) h⟩
        | dct kd kvs =>
          cases kd with
          | ik =>
            obtain ⟨hs, ha, t⟩ := C a _ hg
            exact .inr (.inl ⟨a, hs, rfl, ha, by rw [← t.length]; exact imp_here I C (dI _) h⟩)
          | nk => exact .inr (.inr ⟨G, a, kvs, rfl, C, hg, imp_here I C (dI _) h⟩)
        | _ => exact h.elim
    · exact h.elim
  · exact h.elim

/-! ### abs, int, max, min -/
def bAbs : GSp := fun ds G Q => match ds with
  | [.int i] => Q (.int (if i < 0 then -i else i)) G
  | _ => False
def bInt : GSp := fun ds G Q => match ds with
  | [.int i] => Q (.int i) G
  | _ => False
def bMax : GSp := fun ds G Q => match ds with
  | [.int i, .int j] => Q (.int (if j > i then j else i)) G
  | _ => False
def bMin : GSp := fun ds G Q => match ds with
  | [.int i, .int j] => Q (.int (if j < i then j else i)) G
  | _ => False
section
variable {m : Gm} {X : Cx}
theorem says_abs : SaysL m X (fun xs H Q => ∃ i, xs = [.int i] ∧ Q (.int (if i < 0 then -i else i)) H) bAbs := by
  intro H G xs vs Q Qh C d I h
  unfold bAbs at h
  split at h
  · obtain ⟨v, rfl, dv⟩ := all2_one d
    exact ⟨_, by rw [dat_int.mp dv], imp_here I C (dI _) h⟩
  · exact h.elim
theorem says_int1 : SaysL m X (fun xs H Q => (∃ i, xs = [.int i] ∧ Q (.int i) H) ∨ ∃ k, xs = [.bl k] ∧ Q (.int (if k then 1 else 0)) H) bInt := by
  intro H G xs vs Q Qh C d I h
  unfold bInt at h
  split at h
  · obtain ⟨v, rfl, dv⟩ := all2_one d
    exact .inl ⟨_, by rw [dat_int.mp dv], imp_here I C (dI _) h⟩
  · exact h.elim
theorem says_max : SaysL m X (fun xs H Q => ∃ i j, xs = [.int i, .int j] ∧ Q (.int (if j > i then j else i)) H) bMax := by
  intro H G xs vs Q Qh C d I h
  unfold bMax at h
  split at h
  · obtain ⟨v, u, rfl, dv, du⟩ := all2_two d
    exact ⟨_, _, by rw [dat_int.mp dv, dat_int.mp du], imp_here I C (dI _) h⟩
  · exact h.elim
theorem says_min : SaysL m X (fun xs H Q => ∃ i j, xs = [.int i, .int j] ∧ Q (.int (if j < i then j else i)) H) bMin := by
  intro H G xs vs Q Qh C d I h
  unfold bMin at h
  split at h
  · obtain ⟨v, u, rfl, dv, du⟩ := all2_two d
    exact ⟨_, _, by rw [dat_int.mp dv, dat_int.mp du], imp_here I C (dI _) h⟩
  · exact h.elim
end

/-! ### list, tuple, dict -/
/-- the items of a list or a tuple -/
def itemsG (x : D) (G : GH) : Option (List D) := match x with
  | .tup ds => some ds
  | .ro ds => some ds
  | .ref a => (match G a with
    | some (.lst ds) => some ds
    | _ => none)
  | _ => none
def bList : GSp := fun ds G Q => match ds with
  | [x] => ∃ xs, itemsG x G = some xs ∧ ∀ p, G p = none → Q (.ref p) (G.set p (.lst xs))
  | _ => False
def bTup : GSp := fun ds G Q => match ds with
  | [x] => ∃ xs, itemsG x G = some xs ∧ Q (.tup xs) G
  | _ => False
def bDict : GSp := fun ds G Q => match ds with
  | [.ref a] => ∃ kvs, G a = some (.dct .ik kvs) ∧ ∀ p, G p = none → Q (.ref p) (G.set p (.dct .ik kvs))
  | _ => False
section
variable {m : Gm} {X : Cx} {H : Hp} {G : GH}
theorem items_at {x : D} {v : V} {xs : List D} (C : Cp m X H G) (d : Dat X.K H x v) (h : itemsG x G = some xs) : ∃ a vs, v = .ref a ∧ All2 (Dat X.K H) xs vs ∧ ((SqL X.K H a vs) ∨ (SqT X.K H a vs ∧ H a = some (.tup vs) ∧ x = .tup xs)) := by
  unfold itemsG at h
  split at h
  · cases h
    obtain ⟨a, ws, e, ha, t⟩ := dat_tup.mp d
    exact ⟨a, ws, e, t, .inr ⟨SqT.of ha, ha, rfl⟩⟩
  · cases h
    obtain ⟨a, ws, e, ha, t⟩ := dat_ro d
    exact ⟨a, ws, e, t, .inl ha⟩
  · rename_i a
    split at h
    · rename_i ds hg
      cases h
      obtain ⟨ws, ha, t⟩ := C a _ hg
      exact ⟨a, ws, dat_ref.mp d, t, .inl (SqL.of ha)⟩
    · cases h
  · cases h
theorem says_list : SaysL m X (fun xs H Q => ∃ p ys, xs = [.ref p] ∧ (SqL X.K H p ys ∨ SqT X.K H p ys) ∧ ∀ l, H l = none → Q (.ref l) (upd H l (.lst ys))) bList := by
  intro H G xs vs Q Qh C d I h
  unfold bList at h
  split at h
  · obtain ⟨v, rfl, dv⟩ := all2_one d
    obtain ⟨ys, hi, q⟩ := h
    obtain ⟨a, ws, rfl, t, hs⟩ := items_at C dv hi
    refine ⟨a, ws, rfl, ?_, fun l hl => imp_lst I C hl t q⟩
    rcases hs with hs | ⟨hs, _⟩
    · exact .inl hs
    · exact .inr hs
  · exact h.elim
theorem says_tup : SaysL m X (fun xs H Q => ∃ p ys, xs = [.ref p] ∧ ((SqL X.K H p ys ∧ ∀ l, H l = none → Q (.ref l) (upd H l (.tup ys))) ∨ (SqT X.K H p ys ∧ Q (.ref p) H))) bTup := by
  intro H G xs vs Q Qh C d I h
  unfold bTup at h
  split at h
  · obtain ⟨v, rfl, dv⟩ := all2_one d
    obtain ⟨ys, hi, q⟩ := h
    obtain ⟨a, ws, rfl, t, hs⟩ := items_at C dv hi
    refine ⟨a, ws, rfl, ?_⟩
    rcases hs with hs | ⟨hs, ha, e⟩
    · exact .inl ⟨hs, fun l hl => imp_tup I C hl t q⟩
    · exact .inr ⟨hs, imp_here I C (dat_tup.mpr ⟨a, ws, rfl, ha, t⟩) q⟩
  · exact h.elim
theorem call_dictC : CallR X (.type "dict") (fun xs H Q => ∃ a kvs, xs = [.ref a] ∧ H a = some (.dK kvs) ∧ ∀ p, H p = none → Q (.ref p) (upd H p (.dK kvs))) := by
  intro pins s τ H vs us Q I r h
  obtain ⟨a, kvs, rfl, ha, q⟩ := h
  obtain ⟨u, rfl, ru⟩ := vals1 r
  cases ru
  exact d_copyOf I (.inl ha) fun p s' hp I' => ⟨.ref p, _, I', rfl, q p hp⟩
theorem says_dict : SaysL m X (fun xs H Q => ∃ a kvs, xs = [.ref a] ∧ H a = some (.dK kvs) ∧ ∀ p, H p = none → Q (.ref p) (upd H p (.dK kvs))) bDict := by
  intro H G xs vs Q Qh C d I h
  unfold bDict at h
  split at h
  · rename_i a
    obtain ⟨v, rfl, dv⟩ := all2_one d
    obtain ⟨kvs, hg, q⟩ := h
    obtain ⟨hs, ha, t⟩ := C a _ hg
    refine ⟨a, hs, by rw [dat_ref.mp dv], ha, fun p hp => ?_⟩
    have kt := KeepT.new (o := HO.dK hs) hp
    exact I (.ref p) _ _ _ kt (C.upd (o := .dct .ik kvs) kt ⟨hs, upd_same, t.mono fun _ _ z => z.keep kt⟩) (dat_ref.mpr rfl) (q p (C.free hp))
  · exact h.elim
/-- ints in a list -/
def bSum : GSp := fun ds G Q => match ds with
  | [x] => ∃ ns : List Int, itemsG x G = some (ns.map D.int) ∧ (match x with | .tup _ => False | _ => True) ∧ Q (.int ns.sum) G
  | _ => False
def bSortI : GSp := fun ds G Q => match ds with
  | [x] => ∃ ns : List Int, itemsG x G = some (ns.map D.int) ∧ (match x with | .tup _ => False | _ => True) ∧ ∀ (ns' : List Int) (p : Addr), ns'.Perm ns → ns'.Pairwise (· ≤ ·) → G p = none → Q (.ref p) (G.set p (.lst (ns'.map D.int)))
  | _ => False
theorem vals_int : ∀ {ns : List Int} {vs : List V}, All2 (Dat X.K H) (ns.map D.int) vs → vs = ns.map V.int
  | [], vs, h => h
  | n :: ns, vs, ⟨v, r, e, h, t⟩ => by subst e; rw [dat_int.mp h, vals_int t]; rfl
theorem dats_int (ns : List Int) : All2 (Dat X.K H) (ns.map D.int) (ns.map V.int) := by
  induction ns with
  | nil => exact .nil
  | cons n ns ih => exact .cons (dI n) ih
theorem says_sum : SaysL m X (rSum X.K) bSum := by
  intro H G xs vs Q Qh C d I h
  unfold bSum at h
  split at h
  · obtain ⟨v, rfl, dv⟩ := all2_one d
    obtain ⟨ns, hi, hx, q⟩ := h
    obtain ⟨a, ws, rfl, t, hs⟩ := items_at C dv hi
    have ew := vals_int t
    subst ew
    rcases hs with hs | ⟨_, _, e⟩
    · exact ⟨a, ns, rfl, hs, imp_here I C (dI _) q⟩
    · subst e; exact hx.elim
  · exact h.elim
theorem says_sortI : SaysL m X (rSortedI X.K) bSortI := by
  intro H G xs vs Q Qh C d I h
  unfold bSortI at h
  split at h
  · obtain ⟨v, rfl, dv⟩ := all2_one d
    obtain ⟨ns, hi, hx, q⟩ := h
    obtain ⟨a, ws, rfl, t, hs⟩ := items_at C dv hi
    have ew := vals_int t
    subst ew
    rcases hs with hs | ⟨_, _, e⟩
    · exact ⟨a, ns, rfl, hs, fun ns' p h1 h2 hp => imp_lst I C hp (dats_int ns') fun r hr => q ns' r h1 h2 hr⟩
    · subst e; exact hx.elim
  · exact h.elim
end

/-! ### methods of lists -/
def lstG (o : Option GO) (N : List D → Prop) : Prop := match o with
  | some (.lst ds) => N ds
  | _ => False
/-- o.m(..) of a list: the list as it stands behind the arguments -/
def gLm (r : Addr → List D → List D → GH → GQ → Prop) (go : GE) (ga : GA) : GE := fun σ G Q => go σ G fun x G1 => ∃ a, x = .ref a ∧ lstG (G1 a) fun _ => ga σ G1 fun ys G2 => lstG (G2 a) fun ds => r a ds ys G2 Q
def SaysM (m : Gm) (X : Cx) (rr : V → List V → Hp → VK → Prop) (r : Addr → List D → List D → GH → GQ → Prop) : Prop := ∀ (H : Hp) (G : GH) (a : Addr) (ds ys : List D) (vs us : List V) (Q : GQ) (Qh : VK), Cp m X H G → G a = some (.lst ds) → H a = some (.lst vs) → All2 (Dat X.K H) ds vs → All2 (Dat X.K H) ys us → Imp m X H Q Qh → r a ds ys G Q → rr (.ref a) us H Qh
section
variable {m : Gm} {X : Cx} {apos cpos : Pos} {e o : Expr} {es : List Expr} {ga : GA} {go : GE} {name : Str} {id : String} {rr : V → List V → Hp → VK → Prop} {r : Addr → List D → List D → GH → GQ → Prop}
theorem lstG_of {o : Option GO} {N : List D → Prop} (h : lstG o N) : ∃ ds, o = some (.lst ds) ∧ N ds := by
  unfold lstG at h
  split at h
  · exact ⟨_, rfl, h⟩
  · exact h.elim
theorem q_lm0 (slot : Slot "list" name id) (hty : typeOf (.builtin id) = pure (.type "method_descriptor")) (hm : MtR X id rr) (hs : SaysM m X rr r) (ho : QE m X o go)
    (hbase : attributeBase o name X.env (eval o X.env) = eval o X.env := by rfl) (hline : (apos.endLine == cpos.line) = true := by rfl) : QE m X (.Call (.Attribute o name apos) [] [] cpos) (gLm r go gNil) := ⟨fun τ H σ G Q S C q => by
  refine wE_of (pe_bm0 PySem.F.plainAttrs_list slot hty hm (wE_pe o) hbase hline) ?_
  refine wE_mono (ho.run τ H σ G _ S C q) fun v H1 ⟨x, G1, k1, C1, d1, a, e1, q1⟩ => ?_
  subst e1
  have ev := dat_ref.mp d1
  subst ev
  obtain ⟨ds, hg, q2⟩ := lstG_of q1
  obtain ⟨ds', hg', q3⟩ := lstG_of q2
  rw [hg] at hg'; cases hg'
  obtain ⟨vs, ha, t⟩ := C1 a _ hg
  exact ⟨.inl ⟨rfl, vs, SqL.of ha⟩, hs H1 G1 a ds [] vs [] Q _ C1 hg ha t .nil (imp_lq k1) q3⟩⟩
theorem q_lm (slot : Slot "list" name id) (hty : typeOf (.builtin id) = pure (.type "method_descriptor")) (hm : MtR X id rr) (hs : SaysM m X rr r) (ho : QE m X o go) (ha : QA m X (e :: es) ga)
    (hbase : attributeBase o name X.env (eval o X.env) = eval o X.env := by rfl)
    (hfew : ((backTo cpos (starEach (e :: es) X.env)).all (fun x => !x.1) && (backToKw cpos (keywordEach [] X.env)).all (fun x => x.1.isSome)
      && decide ((e :: es).length + ([] : List Keyword).length + (if ([] : List Keyword).isEmpty then 0 else 1) < 30)) = true := by rfl)
    (hline : (apos.endLine == cpos.line) = true := by rfl) (hst : starEach (e :: es) X.env = (false, eval e X.env) :: starEach es X.env := by rfl) (hplain : (backTo cpos (starEach es X.env)).any (·.1) = false := by rfl) :
    QE m X (.Call (.Attribute o name apos) (e :: es) [] cpos) (gLm r go ga) := ⟨fun τ H σ G Q S C q => by
  refine wE_of (pe_bm PySem.F.plainAttrs_list slot hty hm (wE_pe o) (wA_pa _) hbase hfew hline hst hplain) ?_
  refine wE_mono (ho.run τ H σ G _ S C q) fun v H1 ⟨x, G1, k1, C1, d1, a, e1, q1⟩ => ?_
  subst e1
  have ev := dat_ref.mp d1
  subst ev
  obtain ⟨ds, hg, q2⟩ := lstG_of q1
  obtain ⟨vs, ha1, t⟩ := C1 a _ hg
  refine ⟨.inl ⟨rfl, vs, SqL.of ha1⟩, ?_⟩
  refine wA_mono (ha.run τ H1 σ G1 _ (S.keep k1) C1 q2) fun us H2 ⟨ys, G2, k2, C2, d2, q3⟩ => ?_
  obtain ⟨ds', hg', q4⟩ := lstG_of q3
  obtain ⟨vs', ha2, t2⟩ := C2 a _ hg'
  exact hs H2 G2 a ds' ys vs' us Q _ C2 hg' ha2 t2 d2 (imp_lq (k1.trans k2)) q4⟩
def rApp : Addr → List D → List D → GH → GQ → Prop := fun a ds ys G Q => match ys with
  | [y] => ds.length < lim ∧ Q .non (G.set a (.lst (ds ++ [y])))
  | _ => False
def rPopL : Addr → List D → List D → GH → GQ → Prop := fun a ds ys G Q => ys = [] ∧ ∃ y, ds[ds.length - 1]? = some y ∧ Q y (G.set a (.lst ds.dropLast))
def rPop0 : Addr → List D → List D → GH → GQ → Prop := fun a ds ys G Q => match ys, ds with
  | [.int 0], y :: r => Q y (G.set a (.lst r))
  | _, _ => False
def rRev : Addr → List D → List D → GH → GQ → Prop := fun a ds ys G Q => ys = [] ∧ Q .non (G.set a (.lst ds.reverse))
theorem says_app : SaysM m X rAppend rApp := by
  intro H G a ds ys vs us Q Qh C hg ha t ty I h
  unfold rApp at h
  split at h
  · obtain ⟨l, q⟩ := h
    obtain ⟨u, rfl, du⟩ := all2_one ty
    obtain ⟨kt, C'⟩ := cp_lst C hg (t.snoc du)
    exact ⟨a, vs, u, rfl, rfl, ha, by rw [← t.length]; exact lim_lt l, I .non _ _ _ kt C' (dat_non.mpr rfl) q⟩
  · exact h.elim
theorem q_append (ho : QE m X o go) (ha : QA m X (e :: es) ga) (hbase : attributeBase o "append" X.env (eval o X.env) = eval o X.env := by rfl)
    (hfew : ((backTo cpos (starEach (e :: es) X.env)).all (fun x => !x.1) && (backToKw cpos (keywordEach [] X.env)).all (fun x => x.1.isSome)
      && decide ((e :: es).length + ([] : List Keyword).length + (if ([] : List Keyword).isEmpty then 0 else 1) < 30)) = true := by rfl)
    (hline : (apos.endLine == cpos.line) = true := by rfl) (hst : starEach (e :: es) X.env = (false, eval e X.env) :: starEach es X.env := by rfl) (hplain : (backTo cpos (starEach es X.env)).any (·.1) = false := by rfl) :
    QE m X (.Call (.Attribute o "append" apos) (e :: es) [] cpos) (gLm rApp go ga) := q_lm PySem.F.slot_list_append PySem.F.type_list_append mt_append says_app ho ha hbase hfew hline hst hplain
theorem says_popL : SaysM m X rPop rPopL := by
  intro H G a ds ys vs us Q Qh C hg ha t ty I h
  obtain ⟨ey, y, hy, q⟩ := h
  subst ey
  obtain ⟨b, hb, db⟩ := t.get hy
  have e : vs[vs.length - 1]? = some b := by rw [← t.length]; exact hb
  obtain ⟨kt, C'⟩ := cp_lst C hg t.dropLast
  exact ⟨a, vs, b, rfl, by rw [show us = [] from ty], ha, e, I y _ _ _ kt C' (Dat.keep kt _ _ db) q⟩
theorem says_pop0 : SaysM m X rPopAt rPop0 := by
  intro H G a ds ys vs us Q Qh C hg ha t ty I h
  unfold rPop0 at h
  split at h
  · rename_i y r
    obtain ⟨u, rfl, du⟩ := all2_one ty
    have eu := dat_int.mp du
    subst eu
    obtain ⟨b, hb, db⟩ := t.get (i := 0) (a := y) rfl
    have hl := t.length
    obtain ⟨kt, C'⟩ := cp_lst C hg (t.eraseIdx 0)
    refine ⟨a, vs, 0, 0, b, rfl, rfl, ha, by decide, by decide, ?_, hb, I y _ _ _ kt C' (Dat.keep kt _ _ db) h⟩
    rw [List.length_cons] at hl
    unfold seqIndex?
    rw [← hl]
    simp
  · exact h.elim
theorem says_rev : SaysM m X rReverse rRev := by
  intro H G a ds ys vs us Q Qh C hg ha t ty I h
  obtain ⟨ey, q⟩ := h
  subst ey
  obtain ⟨kt, C'⟩ := cp_lst C hg t.reverse
  exact ⟨a, vs, rfl, by rw [show us = [] from ty], ha, I .non _ _ _ kt C' (dat_non.mpr rfl) q⟩
/-- l.index(x): x is there; pure data -/
def rIdx : Addr → List D → List D → GH → GQ → Prop := fun a ds ys G Q => match ys with
  | [y] => Pkd y ∧ (∀ d ∈ ds, Pkd d) ∧ y ∈ ds ∧ Q (.int (ds.idxOf y)) G
  | _ => False
theorem says_idx : SaysM m X (rIndexD X.K) rIdx := by
  intro H G a ds ys vs us Q Qh C hg ha t ty I h
  unfold rIdx at h
  split at h
  · rename_i y
    obtain ⟨py', pds, hm, q⟩ := h
    obtain ⟨u, rfl, du⟩ := all2_one ty
    have hp := plains_of pds
    have hl : List.idxOf y ds < ds.length := List.idxOf_lt_length_iff.mpr hm
    have hgy : ds[List.idxOf y ds]? = some y := by rw [List.getElem?_eq_getElem hl, List.getElem_idxOf]
    have pg : ∀ {es : List D} (j : Nat), (pys es)[j]? = (es[j]?).map py := by
      intro es
      induction es with
      | nil => intro j; simp [pys]
      | cons e es ih => intro j; cases j with
        | zero => simp [pys]
        | succ j => simp [pys, ih]
    refine ⟨a, u, py y, pys ds, List.idxOf y ds, py y, rfl, rfl, .lst (SqL.of ha) (dps_pys X.K ds vs hp (dats_all2.mpr t)), dp_py X.K y u (plain_of_pure y py'.1) du, shaped_lst pds, shaped_py (plain_of_pure y py'.1) (Nat.le_trans py'.2 (by decide)), by rw [pg, hgy]; rfl, ?_, ?_, imp_here I C (dI _) q⟩
    · rw [eqv_py y y py'.1 py'.1]; exact beq_self y
    · intro j z hj hz
      rw [pg] at hz
      obtain ⟨e, he, ee⟩ := Option.map_eq_some_iff.mp hz
      subst ee
      have hj2 : j < ds.length := Nat.lt_trans hj hl
      have he2 : ds[j] = e := by rw [List.getElem?_eq_getElem hj2] at he; exact Option.some.inj he
      rw [eqv_py e y (pds e (by rw [← he2]; exact List.getElem_mem hj2)).1 py'.1, beq_dec]
      refine decide_eq_false fun z => ?_
      have := List.not_of_lt_findIdx (p := fun x => x == y) (xs := ds) (i := j) hj
      rw [he2, z] at this
      simp at this
  · exact h.elim
theorem q_pop (ho : QE m X o go) (hbase : attributeBase o "pop" X.env (eval o X.env) = eval o X.env := by rfl) (hline : (apos.endLine == cpos.line) = true := by rfl) : QE m X (.Call (.Attribute o "pop" apos) [] [] cpos) (gLm rPopL go gNil) :=
  q_lm0 PySem.F.slot_list_pop PySem.F.type_list_pop mt_pop says_popL ho hbase hline
theorem q_reverse (ho : QE m X o go) (hbase : attributeBase o "reverse" X.env (eval o X.env) = eval o X.env := by rfl) (hline : (apos.endLine == cpos.line) = true := by rfl) : QE m X (.Call (.Attribute o "reverse" apos) [] [] cpos) (gLm rRev go gNil) :=
  q_lm0 PySem.F.slot_list_reverse PySem.F.type_list_reverse mt_reverse says_rev ho hbase hline
theorem q_pop0 (ho : QE m X o go) (ha : QA m X (e :: es) ga) (hbase : attributeBase o "pop" X.env (eval o X.env) = eval o X.env := by rfl)
    (hfew : ((backTo cpos (starEach (e :: es) X.env)).all (fun x => !x.1) && (backToKw cpos (keywordEach [] X.env)).all (fun x => x.1.isSome)
      && decide ((e :: es).length + ([] : List Keyword).length + (if ([] : List Keyword).isEmpty then 0 else 1) < 30)) = true := by rfl)
    (hline : (apos.endLine == cpos.line) = true := by rfl) (hst : starEach (e :: es) X.env = (false, eval e X.env) :: starEach es X.env := by rfl) (hplain : (backTo cpos (starEach es X.env)).any (·.1) = false := by rfl) :
    QE m X (.Call (.Attribute o "pop" apos) (e :: es) [] cpos) (gLm rPop0 go ga) := q_lm PySem.F.slot_list_pop PySem.F.type_list_pop mt_popAt says_pop0 ho ha hbase hfew hline hst hplain
theorem q_index (hu : X.A.units + 65 < cLine) (ho : QE m X o go) (ha : QA m X (e :: es) ga) (hbase : attributeBase o "index" X.env (eval o X.env) = eval o X.env := by rfl)
    (hfew : ((backTo cpos (starEach (e :: es) X.env)).all (fun x => !x.1) && (backToKw cpos (keywordEach [] X.env)).all (fun x => x.1.isSome)
      && decide ((e :: es).length + ([] : List Keyword).length + (if ([] : List Keyword).isEmpty then 0 else 1) < 30)) = true := by rfl)
    (hline : (apos.endLine == cpos.line) = true := by rfl) (hst : starEach (e :: es) X.env = (false, eval e X.env) :: starEach es X.env := by rfl) (hplain : (backTo cpos (starEach es X.env)).any (·.1) = false := by rfl) :
    QE m X (.Call (.Attribute o "index" apos) (e :: es) [] cpos) (gLm rIdx go ga) := q_lm PySem.F.slot_list_index PySem.F.type_list_index (mt_indexD hu) says_idx ho ha hbase hfew hline hst hplain
end

/-! ### d.get(k, x), new dicts -/
def getG (o : Option GO) (k x : D) (N : D → Prop) : Prop := match o with
  | some (.dct .ik kvs) => isKey k = true ∧ N ((dget kvs k).getD x)
  | some (.dct .nk kvs) => Pkd k ∧ N ((dget kvs k).getD x)
  | _ => False
def isDct (o : Option GO) (N : Prop) : Prop := match o with
  | some (.dct _ _) => N
  | _ => False
def gGet (go gk gx : GE) : GE := fun σ G Q => go σ G fun x G1 => ∃ a, x = .ref a ∧ isDct (G1 a) (gk σ G1 fun k G2 => gx σ G2 fun z G3 => getG (G3 a) k z fun d => Q d G3)
section
variable {m : Gm} {X : Cx} {apos cpos pos : Pos} {o e f : Expr} {go ge gf : GE}
theorem isDct_of {o : Option GO} {N : Prop} (h : isDct o N) : (∃ k kvs, o = some (.dct k kvs)) ∧ N := by
  unfold isDct at h
  split at h
  · exact ⟨⟨_, _, rfl⟩, h⟩
  · exact h.elim
theorem q_get2 (hu : X.A.units + 64 < cLine) (ho : QE m X o go) (he : QE m X e ge) (hf : QE m X f gf) (mm : M2 X o "get" apos e f cpos) : QE m X (.Call (.Attribute o "get" apos) [e, f] [] cpos) (gGet go ge gf) := ⟨fun τ H σ G Q S C q => by
  intro pins s I
  refine wpAny_Call_method mm.base mm.few mm.line PySem.F.plainAttrs_dict PySem.F.slot_dict_get PySem.F.type_dict_get (thn (ho.run τ H σ G _ S C q pins s I) fun u s1 ⟨x, H1, I1, rx, xd, G1, k1, C1, d1, a, ea, q1⟩ => ?_)
  subst ea
  have ex := dat_ref.mp d1
  subst ex
  obtain rfl : u = Value.ref a := rx
  obtain ⟨⟨kd, kvs, hg⟩, q1⟩ := isDct_of q1
  have tt : s1.TypeIs (.ref a) "dict" ∧ (∀ b, Value.ref a = .ref b → ∃ ob, s1.heap.get? b = some ob ∧ ob.dict = none) := by
    cases kd with
    | ik =>
      obtain ⟨hs, ha, _⟩ := C1 a _ hg
      obtain ⟨t1, t2, _⟩ := isD_at I1 (.inl ⟨hs, .inl ha⟩)
      exact ⟨t1, t2⟩
    | nk =>
      obtain ⟨xs, e, hd, l, t, n, dd⟩ := nk_at I1 C1 hg
      refine ⟨dd.typeIs, fun b q => ?_⟩
      cases q
      obtain ⟨ob, _, _, h1, h2, _⟩ := dd
      exact ⟨ob, h1, h2.2.1⟩
  refine ⟨tt.1, tt.2, ?_⟩
  rw [mm.trees]
  refine Calls.callWith_builtin rfl (Calls.evalArgs_plain (Calls.spliced_cons (thn (he.run τ H1 σ G1 _ (S.keep k1) C1 q1 pins s1 I1) fun iv s2 ⟨y, H2, I2, ry, dk, G2, k2, C2, d2, q2⟩ => Calls.spliced_cons (thn (hf.run τ H2 σ G2 _ (S.keep (k1.trans k2)) C2 q2 pins s2 I2) fun jv s3 ⟨z, H3, I3, rz, dz, G3, k3, C3, d3, q3⟩ => Calls.spliced_nil ?_))))
  have dk3 := Dat.keep k3 _ _ d2
  have kk := (k1.trans k2).trans k3
  have q3 : getG (G3 a) dk dz (fun d => Q d G3) := q3
  unfold getG at q3
  split at q3
  · rename_i kvs' hg3
    obtain ⟨hk, q4⟩ := q3
    obtain ⟨k, rfl⟩ := isKey_of hk
    obtain ⟨hs, ha, t⟩ := C3 a _ hg3
    have ek : y = kV k := by
      cases k with
      | inl i => exact dat_int.mp dk3
      | inr x => exact dat_str.mp dk3
    refine d_get2 (by omega) I3 (.inl ⟨hs, k, .inl ha, ek, rfl⟩) ry rz fun w' s4 I4 rw' => ?_
    cases c : dget kvs' (keyD k) with
    | none =>
      rw [ik_none t c] at rw'
      rw [c] at q4
      exact ⟨z, H3, I4, rw', dz, G3, kk, C3, d3, q4⟩
    | some d =>
      obtain ⟨v, e1, dv⟩ := ik_some t c
      rw [e1] at rw'
      rw [c] at q4
      exact ⟨v, H3, I4, rw', d, G3, kk, C3, dv, q4⟩
  · rename_i kvs' hg3
    obtain ⟨hk, q4⟩ := q3
    exact nk_get2 hu I3 C3 hg3 hk dk3 ry d3 rz fun v' w' s4 I4 r4 d4 => ⟨v', H3, I4, r4, _, G3, kk, C3, d4, q4⟩
  · exact q3.elim⟩
/-- {}: the kind of its keys is the reading's -/
def gDNew (k : Dk) : GE := fun σ G Q => ∀ p, G p = none → Q (.ref p) (G.set p (.dct k []))
theorem q_dnewI : QE m X (.Dict [] [] pos) (gDNew .ik) := ⟨fun τ H σ G Q S C q => wE_of pe_dnewK fun p hp =>
  ⟨.ref p, _, KeepT.new hp, C.upd (o := .dct .ik []) (KeepT.new hp) ⟨[], upd_same, .nil⟩, dat_ref.mpr rfl, q p (C.free hp)⟩⟩
end
end Cz

/-! Targets, loops, list comprehensions. -/
namespace Cz
open PySem PySem.Spec PyProof.Rows L2

/-! ### targets -/
abbrev GG := D → GSt → GH → (GSt → GH → Prop) → Prop
abbrev GGs := List D → GSt → GH → (GSt → GH → Prop) → Prop
def wG (X : Cx) (tg : Expr) : TG := fun v τ H Q => ∀ pins s u, Inv X pins τ H s → RelV v u → wpAny (model X.prog X.w) X.A (assign tg X.env u) (fun _ s' => ∃ τ' H', Inv X pins τ' H' s' ∧ Q τ' H') X.xe s
theorem wG_pg {X : Cx} (tg : Expr) : PG X tg (wG X tg) := ⟨fun pins s τ H v u Q I r h => h pins s u I r⟩
theorem wG_of {X : Cx} {tg : Expr} {t : TG} {v : V} {τ : L2.St} {H : Hp} {Q : L2.St → Hp → Prop} (p : PG X tg t) (h : t v τ H Q) : wG X tg v τ H Q := fun pins s u I r => p.run pins s τ H v u Q I r h
/-- vs: the slots that alone are changed -/
structure QG (m : Gm) (X : Cx) (tg : Expr) (vs : List Nat) (g : GG) : Prop where
  run : ∀ (τ : L2.St) (H : Hp) (v : V) (d : D) (σ : GSt) (G : GH) (Q : GSt → GH → Prop), Sl X.K H σ τ → Cp m X H G → Dat X.K H d v → g d σ G Q → wG X tg v τ H (fun τ' H' => (∀ us, (∀ i ∈ vs, i ∈ us) → wipe τ' us = wipe τ us) ∧ LN m X H Q τ' H')
def gNm (i : Nat) : GG := fun d σ G Q => Q (σ.set i (some d)) G
def setAll : List Nat → List D → GSt → GSt
  | i :: is, d :: ds, σ => setAll is ds (σ.set i (some d))
  | _, _, σ => σ
def gUn (is : List Nat) : GG := fun d σ G Q => ∃ xs, itemsG d G = some xs ∧ xs.length = is.length ∧ Q (setAll is xs σ) G
theorem wipe_get : ∀ (us : List Nat) (τ : L2.St) (j : Nat), (wipe τ us)[j]? = if j ∈ us then (if j < τ.length then some none else none) else τ[j]? := by
  intro us
  induction us with
  | nil => intro τ j; simp [wipe]
  | cons v vs ih =>
    intro τ j
    unfold wipe
    by_cases hj : v = j
    · subst hj
      by_cases hl : v < (wipe τ vs).length
      · rw [List.getElem?_set_self hl]
        rw [wipe_length] at hl
        simp [hl]
      · rw [List.getElem?_eq_none (by simpa using hl)]
        rw [wipe_length] at hl
        simp [hl]
    · rw [List.getElem?_set_ne hj, ih]
      have : (j ∈ v :: vs) ↔ j ∈ vs := by simp [List.mem_cons, Ne.symm hj]
      simp only [this]
theorem wipe_at {us : List Nat} {i : Nat} {x : Option V} (h : i ∈ us) : ∀ {τ : L2.St}, wipe (τ.set i x) us = wipe τ us := by
  intro τ
  apply List.ext_getElem?
  intro j
  rw [wipe_get, wipe_get]
  by_cases hj : j ∈ us
  · simp [hj]
  · rw [if_neg hj, if_neg hj, List.getElem?_set_ne (fun e : i = j => hj (by rw [← e]; exact h))]
section
variable {m : Gm} {X : Cx} {pos : Pos}
theorem qg_name {i : Nat} {x : Str} (hN : X.N.Nodup) (hi : X.N[i]? = some x) (hx : Loc X.env.scope x) (hf : X.fn x = true ∨ X.env.scope.names.lookup x = some .local := by first | exact .inl rfl | exact .inr rfl | assumption) : QG m X (.Name x pos) [i] (gNm i) := ⟨fun τ H v d σ G Q S C hd q =>
  wG_of (pg_name hN hi hx hf) ⟨fun us hu => wipe_at (hu i List.mem_cons_self), _, G, KeepT.refl H, S.put i hd, C, q⟩⟩
/-- several names -/
structure QGs (m : Gm) (X : Cx) (es : List Expr) (is : List Nat) : Prop where
  run : ∃ t : TGs, PGs X es t ∧ ∀ (τ : L2.St) (H : Hp) (vs : List V) (ds : List D) (σ : GSt) (Q : L2.St → Hp → Prop), Sl X.K H σ τ → All2 (Dat X.K H) ds vs → ds.length = is.length → (∀ τ', Sl X.K H (setAll is ds σ) τ' → (∀ us, (∀ i ∈ is, i ∈ us) → wipe τ' us = wipe τ us) → Q τ' H) → t vs τ H Q
theorem qgs_nil : QGs m X [] [] := ⟨_, pgs_nil, fun τ H vs ds σ Q S d l h => by
  cases ds with
  | nil =>
    rw [show vs = [] from d]
    exact ⟨rfl, h τ S fun _ _ => rfl⟩
  | cons a b => cases l⟩
theorem qgs_cons {i : Nat} {x : Str} {es : List Expr} {is : List Nat} (hN : X.N.Nodup) (hi : X.N[i]? = some x) (hx : Loc X.env.scope x) (r : QGs m X es is)
    (hf : X.fn x = true ∨ X.env.scope.names.lookup x = some .local := by first | exact .inl rfl | exact .inr rfl | assumption)
    (hs : (assignEach (.Name x pos :: es) X.env).map (·.2) = assign (.Name x pos) X.env :: (assignEach es X.env).map (·.2) := by rfl) : QGs m X (.Name x pos :: es) (i :: is) := by
  obtain ⟨t, pt, h⟩ := r.run
  refine ⟨_, pgs_cons (pg_name hN hi hx hf) pt hs, fun τ H vs ds σ Q S d l k => ?_⟩
  cases ds with
  | nil => cases l
  | cons a ds =>
    obtain ⟨v, vr, e, da, dr⟩ := d
    subst e
    refine ⟨v, vr, rfl, h _ H vr ds (σ.set i (some a)) Q (S.put i da) dr (Nat.succ.inj l) fun τ' S' w => k τ' S' fun us hu => ?_⟩
    rw [w us fun j hj => hu j (List.mem_cons_of_mem _ hj), wipe_at (hu i List.mem_cons_self)]
theorem qg_un {es : List Expr} {is : List Nat} {k : Nat} {n : Nat} (hc : X.calm = true) (h : QGs m X es is) (hl : is.length = n)
    (hn : (assignEach es X.env).length = n := by rfl) (hst : (assignEach es X.env).findIdx? (·.1) = none := by rfl) : QG m X (.Tuple es k pos) is (gUn is) := ⟨fun τ H v d σ G Q S C hd q => by
  obtain ⟨t, pt, r⟩ := h.run
  obtain ⟨xs, hi, le, q⟩ := q
  obtain ⟨a, vs, e, da, hs⟩ := items_at C hd hi
  subst e
  have go : t vs τ H (fun τ' H' => (∀ us, (∀ i ∈ is, i ∈ us) → wipe τ' us = wipe τ us) ∧ LN m X H Q τ' H') := r τ H vs xs σ _ S da le fun τ' S' w => ⟨w, _, G, KeepT.refl H, S', C, q⟩
  have ln : vs.length = n := by rw [← da.length, le, hl]
  rcases hs with hs | ⟨hs, _, _⟩
  · exact wG_of (pg_unl hc pt hn hst) ⟨a, vs, rfl, hs, ln, go⟩
  · exact wG_of (pg_tup hc pt hn hst) ⟨a, vs, rfl, hs, ln, go⟩⟩
/-- target = e -/
def gAsg (g : GE) (t : GG) : GS := fun D σ G => g σ G fun x G1 => t x σ G1 D.nx
theorem qs_asg {tg e : Expr} {g : GE} {vs : List Nat} {t : GG} (he : QE m X e g) (hg : QG m X tg vs t) (hs : swapsWithSole [tg] e pos.line X.env = pure false := by rfl) (hw : swappedStores [tg] e X.env = pure none := by rfl)
    (h1 : (assignEach [tg] X.env).map (·.2) = [assign tg X.env] := by rfl) : QS m X (.Assign [tg] e pos) (gAsg g t) := ⟨fun τ H σ G D S C q => by
  refine wS_of (ps_asg (wE_pe e) (wG_pg tg) hs hw h1) ?_
  show wE X e τ H fun x H1 => wG X tg x τ H1 (LD m X H D).nx
  refine wE_mono (he.run τ H σ G _ S C q) fun v H1 ⟨d, G1, k1, C1, hd, q1⟩ => ?_
  intro pins s u I r
  exact thn (hg.run τ H1 v d σ G1 _ (S.keep k1) C1 hd q1 pins s u I r) fun _ s2 ⟨τ', H2, I2, _, q2⟩ => ⟨τ', H2, I2, q2.keep k1⟩⟩
end

/-! ### while -/
def gWhile (c : GT) (b : GS) : GS := fun D σ G => ∃ W : Nat → GSt → GH → Prop, (∃ n, W n σ G) ∧ ∀ n σ G, W n σ G →
  c σ G fun k G1 => if k = true then b { nx := fun σ' G' => ∃ m', m' < n ∧ W m' σ' G', ct := fun σ' G' => ∃ m', m' < n ∧ W m' σ' G', rt := D.rt, bk := D.nx } σ G1 else D.nx σ G1
section
variable {m : Gm} {X : Cx} {pos : Pos}
theorem qs_while {c : Expr} {body : List Stmt} {gc : GT} {gb : GS} (hp : PassesOwn (model X.prog X.w) X.A X.env X.xe) (hc : QT m X c gc) (hb : QB m X body gb) : QS m X (.While c body [] pos) (gWhile gc gb) := ⟨fun τ H σ G D S C q => by
  obtain ⟨W, ⟨n0, w0⟩, turn⟩ := q
  refine wS_of (ps_while hp (wT_pt c) (wB_pss body)) ⟨fun n τ1 H1 => ∃ σ1 G1, KeepT H H1 ∧ Sl X.K H1 σ1 τ1 ∧ Cp m X H1 G1 ∧ W n σ1 G1, ⟨n0, σ, G, KeepT.refl H, S, C, w0⟩, ?_⟩
  rintro n τ1 H1 ⟨σ1, G1, k1, S1, C1, w1⟩
  refine wT_mono (hc.run τ1 H1 σ1 G1 _ S1 C1 (turn n σ1 G1 w1)) fun k H2 ⟨G2, k2, C2, q2⟩ => ?_
  cases k with
  | true =>
    refine ⟨LN m X H (fun σ' G' => ∃ m', m' < n ∧ W m' σ' G'), fun τ' H' ⟨σ', G', k', S', C', m', lt, w'⟩ => ⟨m', lt, σ', G', k', S', C', w'⟩, ?_⟩
    exact wB_mono (hb.run τ1 H2 σ1 G2 _ (S1.keep k2) C2 q2) (LD.keep (D := { nx := fun σ' G' => ∃ m', m' < n ∧ W m' σ' G', ct := fun σ' G' => ∃ m', m' < n ∧ W m' σ' G', rt := D.rt, bk := D.nx }) (k1.trans k2))
  | false => exact ⟨σ1, G2, k1.trans k2, S1.keep k2, C2, q2⟩⟩
end

/-! ### what is walked -/
abbrev GI := GSt → GH → (List D → (GH → Prop) → GH → Prop) → Prop
structure Sim (m : Gm) (X : Cx) (H0 : Hp) (J : It) (ds : List D) (ok : GH → Prop) : Prop where
  go : ∀ i H G d, KeepT H0 H → Cp m X H G → ok G → ds[i]? = some d → J.go i H ∧ ∀ x H', J.yld i H x H' → KeepT H H' ∧ Cp m X H' G ∧ Dat X.K H' d x
  stop : ∀ i H G, KeepT H0 H → Cp m X H G → ok G → ds.length ≤ i → J.stop i H
def wI (X : Cx) (tg iter : Expr) : TI := fun τ H R => ∀ pins s, Inv X pins τ H s → wpAny (model X.prog X.w) X.A (eval iter X.env) (fun v s1 => wpAny (model X.prog X.w) X.A (pyIter v) (PIE X pins τ tg R) X.xe s1) X.xe s
def LI (m : Gm) (X : Cx) (H : Hp) (Q : List D → (GH → Prop) → GH → Prop) : It → Hp → Prop := fun J H1 => ∃ ds ok G1, KeepT H H1 ∧ Cp m X H1 G1 ∧ Sim m X H1 J ds ok ∧ ok G1 ∧ Q ds ok G1
structure QI (m : Gm) (X : Cx) (tg iter : Expr) (g : GI) : Prop where
  run : ∀ (τ : L2.St) (H : Hp) (σ : GSt) (G : GH) (Q : List D → (GH → Prop) → GH → Prop), Sl X.K H σ τ → Cp m X H G → g σ G Q → wI X tg iter τ H (LI m X H Q)
section
variable {m : Gm} {X : Cx} {pos p : Pos} {tg e a b : Expr}
theorem wI_pi (tg iter : Expr) : PI X tg iter (wI X tg iter) := ⟨fun pins s τ H R I h => h pins s I⟩
theorem wI_of {iter : Expr} {t : TI} {τ : L2.St} {H : Hp} {R : It → Hp → Prop} (h : PI X tg iter t) (q : t τ H R) : wI X tg iter τ H R := fun pins s I => h.run pins s τ H R I q
def yes : GH → Prop := fun _ => True
theorem sim_range {H0 : Hp} {lo : Int} {n : Nat} : Sim m X H0 (Itr lo n) ((List.range n).map fun i => .int (lo + (i : Nat))) yes where
  go := fun i H G d k C _ e => by
    have hi : i < n := by
      have := (List.getElem?_eq_some_iff.mp e).1
      simpa using this
    refine ⟨hi, fun x H' ⟨e1, e2⟩ => ?_⟩
    subst e1 e2
    rw [List.getElem?_map, List.getElem?_range hi] at e
    simp only [Option.map_some, Option.some.injEq] at e
    subst e
    exact ⟨KeepT.refl _, C, dI _⟩
  stop := fun i H G k C _ h => by
    rw [List.length_map, List.length_range] at h
    exact h
theorem sim_tup {H0 : Hp} {a : Addr} {xs : List D} {vs : List V} (ha : H0 a = some (.tup vs)) (t : All2 (Dat X.K H0) xs vs) : Sim m X H0 (Itt X.K a) xs yes where
  go := fun i H G d k C _ e => by
    obtain ⟨b, hb, db⟩ := t.get e
    have hs : SqT X.K H a vs := SqT.of (k.tup _ _ ha)
    refine ⟨⟨vs, b, hs, hb⟩, fun x H' ⟨e1, h⟩ => ?_⟩
    subst e1
    have := h vs hs
    rw [hb] at this
    cases this
    exact ⟨KeepT.refl _, C, Dat.keep k _ _ db⟩
  stop := fun i H G k C _ h => ⟨vs, SqT.of (k.tup _ _ ha), by rw [← t.length]; exact h⟩
theorem sim_lst {H0 : Hp} {a : Addr} {xs : List D} : Sim m X H0 (Itl X.K a) xs (fun G => G a = some (.lst xs)) where
  go := fun i H G d k C h e => by
    obtain ⟨vs, ha, t⟩ := C a _ h
    obtain ⟨b, hb, db⟩ := t.get e
    have hs : SqL X.K H a vs := SqL.of ha
    refine ⟨⟨vs, b, hs, hb⟩, fun x H' ⟨e1, h⟩ => ?_⟩
    subst e1
    have := h vs hs
    rw [hb] at this
    cases this
    exact ⟨KeepT.refl _, C, db⟩
  stop := fun i H G k C h z => by
    obtain ⟨vs, ha, t⟩ := C a _ h
    exact ⟨vs, SqL.of ha, by rw [← t.length]; exact z⟩
theorem sim_ro {H0 : Hp} {a : Addr} {xs : List D} {vs : List V} (ha : (∃ o, H0 a = some (.frz o (.lst vs))) ∨ SqL X.K (fun _ => none) a vs) (t : All2 (Dat X.K H0) xs vs) : Sim m X H0 (Itl X.K a) xs yes := by
  have st : ∀ H, KeepT H0 H → SqL X.K H a vs := fun H k => by
    rcases ha with ⟨o, h⟩ | h
    · exact .inl (.inr ⟨o, k.frz _ _ _ h⟩)
    · rcases h with (h | ⟨o, h⟩) | h
      · cases h
      · cases h
      · exact .inr h
  exact {
    go := fun i H G d k C _ e => by
      obtain ⟨b, hb, db⟩ := t.get e
      refine ⟨⟨vs, b, st H k, hb⟩, fun x H' ⟨e1, h⟩ => ?_⟩
      subst e1
      have := h vs (st _ k)
      rw [hb] at this
      cases this
      exact ⟨KeepT.refl _, C, Dat.keep k _ _ db⟩
    stop := fun i H G k C _ z => ⟨vs, st H k, by rw [← t.length]; exact z⟩ }
/-- range(n), range(i, j) -/
def gRng1 (a : GA) : GI := fun σ G R => a σ G fun ds G1 => ∃ j : Int, ds = [.int j] ∧ -(2 ^ 62) ≤ j ∧ j < 2 ^ 62 ∧ R ((List.range j.toNat).map fun i : Nat => D.int (i : Int)) yes G1
theorem qi_range1 {ga : GA} (hg : Gl X "range") (hm : X.mg "range" = none) (ha : QA m X [a] ga) (hs : starEach [a] X.env = [(false, eval a X.env)] := by rfl) : QI m X tg (.Call (.Name "range" p) [a] [] pos) (gRng1 ga) := ⟨fun τ H σ G Q S C q => by
  refine wI_of (pi_range1 hg hm (wA_pa _) hs) ?_
  refine wA_mono (ha.run τ H σ G _ S C q) fun vs H1 ⟨ds, G1, k1, C1, d1, j, e, h1, h2, q1⟩ => ?_
  subst e
  obtain ⟨v, rfl, dv⟩ := all2_one d1
  refine ⟨j, by rw [dat_int.mp dv], h1, h2, _, yes, G1, k1, C1, sim_range, True.intro, ?_⟩
  simpa using q1⟩
/-- for .. in a tuple (of any kind), a list -/
def okOf (x : D) (xs : List D) : GH → Prop := match x with
  | .ref a => fun G => G a = some (.lst xs)
  | _ => yes
def itE (x : D) (G : GH) (R : List D → (GH → Prop) → GH → Prop) : Prop := ∃ xs, itemsG x G = some xs ∧ R xs (okOf x xs) G
def gIter (g : GE) : GI := fun σ G R => g σ G fun x G1 => itE x G1 R
theorem items_ref {a : Addr} {G : GH} {xs : List D} (h : itemsG (.ref a) G = some xs) : G a = some (.lst xs) := by
  unfold itemsG at h
  cases hg : G a with
  | none => simp [hg] at h
  | some o =>
    cases o with
    | lst ds => simp [hg] at h; rw [h]
    | _ => simp [hg] at h
def iSeq (K : PySem.W.Frag) (te : TE) : TI := fun σ H R => te σ H fun x H1 => ∃ a, x = .ref a ∧ (((∃ xs, SqL K H1 a xs) ∧ R (Itl K a) H1) ∨ ((∃ xs, SqT K H1 a xs) ∧ R (Itt K a) H1))
theorem pi_seq {l : Expr} {tl : TE} (hl : PE X l tl) : PI X tg l (iSeq X.K tl) := by
  refine ⟨fun pins s σ H R I h => ?_⟩
  refine thn (hl.run pins s σ H _ I h) fun v s1 ⟨x, H1, I1, r1, q1⟩ => ?_
  obtain ⟨a, e, q⟩ := q1
  subst e
  cases r1
  rcases q with ⟨⟨xs, hq⟩, q⟩ | ⟨⟨xs, hq⟩, q⟩
  · obtain ⟨its, rv, p, hz⟩ := I1.list hq
    refine wpAny_pyIter_list p.isList ?_
    refine ⟨s1.heap.objs.size, [s1.heap.objs.size], _, _, H1, rfl, I1.kept (t' := s1.toks) fun b o e => Heap.get?_push_of_some _ e, turn_list a _, ⟨_, Heap.get?_push_size _ rfl, rfl, rfl⟩, fun b hb => ?_, q⟩
    have e : b = s1.heap.objs.size := by simpa using hb
    subst e
    exact I1.fpOk (Nat.le_refl _) (I1.hok.fresh (Nat.le_refl _))
  · obtain ⟨its, rv, p, hz⟩ := I1.tuple hq
    refine wpAny_pyIter_tuple (show s1.heap.IsTuple a its.toArray from p) ?_
    refine ⟨s1.heap.objs.size, [s1.heap.objs.size], _, _, H1, rfl, I1.kept (t' := s1.toks) fun b o e => Heap.get?_push_of_some _ e, turn_tuple a _, ⟨_, Heap.get?_push_size _ rfl, rfl, rfl⟩, fun b hb => ?_, q⟩
    have e : b = s1.heap.objs.size := by simpa using hb
    subst e
    exact I1.fpOk (Nat.le_refl _) (I1.hok.fresh (Nat.le_refl _))
theorem qi_seq {g : GE} (h : QE m X e g) : QI m X tg e (gIter g) := ⟨fun τ H σ G Q S C q => by
  refine wI_of (pi_seq (wE_pe e)) ?_
  refine wE_mono (h.run τ H σ G _ S C q) fun v H1 ⟨x, G1, k1, C1, d1, xs, hi, q1⟩ => ?_
  cases x with
  | tup ds =>
    unfold itemsG at hi
    cases hi
    obtain ⟨a, vs, e1, ha, t⟩ := dat_tup.mp d1
    subst e1
    exact ⟨a, rfl, .inr ⟨⟨vs, SqT.of ha⟩, xs, yes, G1, k1, C1, sim_tup ha t, True.intro, q1⟩⟩
  | ro ds =>
    unfold itemsG at hi
    cases hi
    have d2 := dat_ro d1
    obtain ⟨a, vs, e1, ha, t⟩ := d2
    unfold Dat at d1
    obtain ⟨a', vs', e2, h2, t2⟩ := d1
    rw [e1] at e2
    cases e2
    subst e1
    exact ⟨a, rfl, .inl ⟨⟨vs, ha⟩, xs, yes, G1, k1, C1, sim_ro h2 (dats_all2.mp t2), True.intro, q1⟩⟩
  | ref a =>
    have hg := items_ref hi
    rw [dat_ref.mp d1]
    obtain ⟨vs, ha, t⟩ := C1 a _ hg
    exact ⟨a, rfl, .inl ⟨⟨vs, SqL.of ha⟩, xs, _, G1, k1, C1, sim_lst, hg, q1⟩⟩
  | _ => simp [itemsG] at hi⟩
end

/-! ### for -/
/-- the invariant by the turn -/
def gTurns (E : GEnds) (g : GG) (b : GS) (ds : List D) (ok : GH → Prop) (σ : GSt) (G : GH) : Prop := ∃ W : Nat → GSt → GH → Prop, W 0 σ G ∧
  (∀ i d σ G, ds[i]? = some d → ok G → W i σ G → g d σ G fun σ1 G1 => b { nx := fun σ2 G2 => ok G2 ∧ W (i + 1) σ2 G2, ct := fun σ2 G2 => ok G2 ∧ W (i + 1) σ2 G2, rt := E.rt, bk := E.nx } σ1 G1) ∧ ∀ σ G, ok G → W ds.length σ G → E.nx σ G
def gFor (it : GI) (g : GG) (b : GS) : GS := fun D σ G => it σ G fun ds ok G1 => gTurns D g b ds ok σ G1
theorem qs_for {m : Gm} {X : Cx} {tg iter : Expr} {body : List Stmt} {it : GI} {g : GG} {vs : List Nat} {b : GS} {pos : Pos} (hp : PassesOwn (model X.prog X.w) X.A X.env X.xe) (hc : X.calm = true) (hi : QI m X tg iter it) (hg : QG m X tg vs g) (hb : QB m X body b)
    (hs : ∀ x, foldedSetIterable iter X.env x = pure x := by intro _; rfl) : QS m X (.For tg iter body [] pos) (gFor it g b) := ⟨fun τ H σ G D S C q => by
  refine wS_of (ps_for hp hc (wI_pi tg iter) (wG_pg tg) (wB_pss body) hs) ?_
  intro pins s I
  refine thn (hi.run τ H σ G _ S C q pins s I) fun v s1 h1 => thn h1 fun itv s2 h2 => ?_
  obtain ⟨ia, fp, tn, J, H1, e, I1, T, st, f2, ds, ok, G1, k1, C1, sim, ok1, q1⟩ := h2
  refine ⟨ia, fp, tn, J, H1, e, I1, T, st, f2, ?_⟩
  obtain ⟨W, w0, turn, fin⟩ := q1
  refine ⟨fun i n τ' H' => n = ds.length - i ∧ i ≤ ds.length ∧ ∃ σ' G', KeepT H1 H' ∧ Sl X.K H' σ' τ' ∧ Cp m X H' G' ∧ ok G' ∧ W i σ' G', ⟨_, rfl, Nat.zero_le _, σ, G1, KeepT.refl H1, S.keep k1, C1, ok1, w0⟩, ?_⟩
  rintro i n τ' H' ⟨rfl, hi, σ', G', k', S', C', ok', q'⟩
  by_cases lt : i < ds.length
  · have e1 : ds[i]? = some ds[i] := List.getElem?_eq_getElem lt
    obtain ⟨go, yl⟩ := sim.go i H' G' ds[i] k' C' ok' e1
    have q' := turn i ds[i] σ' G' e1 ok' q'
    refine .inr ⟨go, LN m X H1 (fun σ2 G2 => ok G2 ∧ W (i + 1) σ2 G2), fun τ2 H2 ⟨σ2, G2, k2, S2, C2, o2, t2⟩ => ⟨ds.length - (i + 1), by omega, rfl, lt, σ2, G2, k2, S2, C2, o2, t2⟩, fun x H2 y => ?_⟩
    obtain ⟨k2, C2, d2⟩ := yl x H2 y
    intro pins' s' u I' r
    refine thn (hg.run τ' H2 x ds[i] σ' G' _ (S'.keep k2) C2 d2 q' pins' s' u I' r) fun _ s3 ⟨τ3, H3, I3, _, σ3, G3, k3, S3, C3, q3⟩ => ⟨τ3, H3, I3, ?_⟩
    refine wB_mono (hb.run τ3 H3 σ3 G3 _ S3 C3 q3) ?_
    have kk : KeepT H1 H3 := (k'.trans k2).trans k3
    exact ⟨fun _ _ h => LN.keep kk h, fun _ _ h => LQ.keep (k1.trans kk) h, fun _ _ h => LN.keep (k1.trans kk) h, fun _ _ h => LN.keep kk h⟩
  · have e : i = ds.length := by omega
    subst e
    exact .inl ⟨sim.stop _ H' G' k' C' ok' (Nat.le_refl _), σ', G', k1.trans k', S', C', fin σ' G' ok' q'⟩⟩

/-! ### list comprehensions -/
structure QTs (m : Gm) (X : Cx) (ifs : List Expr) (g : GT) : Prop where
  run : ∀ (τ : L2.St) (H : Hp) (σ : GSt) (G : GH) (Q : Bool → GH → Prop), Sl X.K H σ τ → Cp m X H G → g σ G Q → ∀ pins s, Inv X pins τ H s →
    wpAny (model X.prog X.w) X.A (forIn ifs true fun c r => if r = true then do let ok ← isTrue c X.env (eval c X.env); pure (ForInStep.yield ok) else pure (ForInStep.yield r)) (TP X pins τ (LT m X H Q)) X.xe s
def gYes : GT := fun _ G Q => Q true G
theorem qts_nil {m : Gm} {X : Cx} : QTs m X [] gYes := ⟨fun τ H σ G Q S C q pins s I => wpAny_tests_nil ⟨H, I, G, KeepT.refl H, C, q⟩⟩
theorem qts_one {m : Gm} {X : Cx} {c : Expr} {t : GT} (h : QT m X c t) : QTs m X [c] t := ⟨fun τ H σ G Q S C q pins s I => wpAny_tests_one (h.run τ H σ G Q S C q pins s I)⟩
def wTs (X : Cx) (ifs : List Expr) : TT := fun τ H Q => ∀ pins s, Inv X pins τ H s → wpAny (model X.prog X.w) X.A (forIn ifs true fun c r => if r = true then do let ok ← isTrue c X.env (eval c X.env); pure (ForInStep.yield ok) else pure (ForInStep.yield r)) (TP X pins τ Q) X.xe s
theorem wTs_pts {X : Cx} (ifs : List Expr) : PTs X ifs (wTs X ifs) := ⟨fun pins s τ H Q I h => h pins s I⟩
def wipeG (σ : GSt) : List Nat → GSt
  | [] => σ
  | v :: vs => (wipeG σ vs).set v none
theorem sl_wipe {K : PySem.W.Frag} {H : Hp} {σ : GSt} {τ : L2.St} (S : Sl K H σ τ) : ∀ vs : List Nat, Sl K H (wipeG σ vs) (wipe τ vs)
  | [] => S
  | v :: vs => (sl_wipe S vs).forget v none
theorem tLc_mono {wi : TI} {g : TG} {tt : TT} {te : TE} {vs : List Nat} {τ : L2.St} {H : Hp} {Q Q' : VK} (h : tLc (wi) g tt te vs τ H Q) (f : ∀ v H', Q v H' → Q' v H') (hm : ∀ R R' : It → Hp → Prop, (∀ J H', R J H' → R' J H') → wi τ H R → wi τ H R') : tLc wi g tt te vs τ H Q' := by
  refine hm _ _ (fun J H1 h D hD => ?_) h
  obtain ⟨W, w0, turn⟩ := h D hD
  refine ⟨W, w0, fun i m H w => ?_⟩
  rcases turn i m H w with ⟨a, b⟩ | z
  · exact .inl ⟨a, f _ _ b⟩
  · exact .inr z
theorem wI_mono {X : Cx} {tg iter : Expr} {τ : L2.St} {H : Hp} (R R' : It → Hp → Prop) (f : ∀ J H', R J H' → R' J H') (h : wI X tg iter τ H R) : wI X tg iter τ H R' := fun pins s I =>
  thn (h pins s I) fun v s1 h1 => thn h1 fun itv s2 ⟨it, fp, tn, J, H', e, I2, T, st, ff, r⟩ => ⟨it, fp, tn, J, H', e, I2, T, st, ff, f J H' r⟩
/-- the turns of a list's making; the list is at p -/
def gLcL (p : Addr) (g : GG) (t : GT) (e : GE) (σ : GSt) (Q : GH → Prop) (ds : List D) (ok : GH → Prop) (G : GH) : Prop := ∃ W : Nat → List D → GH → Prop, W 0 [] G ∧
  (∀ i d acc G, ds[i]? = some d → ok G → G p = some (.lst acc) → W i acc G → g d σ G fun σ1 G1 => t σ1 G1 fun b G2 => if b = true then e σ1 G2 fun y G3 => G3 p = some (.lst acc) ∧ acc.length < lim ∧ ok (G3.set p (.lst (acc ++ [y]))) ∧ W (i + 1) (acc ++ [y]) (G3.set p (.lst (acc ++ [y])))
    else G2 p = some (.lst acc) ∧ ok G2 ∧ W (i + 1) acc G2) ∧ ∀ acc G, ok G → G p = some (.lst acc) → W ds.length acc G → Q G
def gLc (it : GI) (g : GG) (t : GT) (e : GE) (vs : List Nat) : GE := fun σ G Q => it σ G fun ds ok G1 => ∀ p, G1 p = none → ok (G1.set p (.lst [])) ∧ gLcL p g t e (wipeG σ vs) (fun G2 => Q (.ref p) G2) ds ok (G1.set p (.lst []))
section
variable {m : Gm} {X : Cx} {pos : Pos} {elt tg iter : Expr} {ifs : List Expr} {scope : Scope} {own : List (Str × Nat)} {it : GI} {g : GG} {t : GT} {ge : GE} {ws : List Nat}
/-- the readings that hold at each block's context -/
theorem lc_sim (hi : QI m X tg iter it) (hw : ∀ i ∈ ws, i ∈ own.map (·.2))
    (hg : ∀ (s : Shared) (H : Hp) (C : Addr) (cl : List (Str × Addr)) (fp : List Addr), QG m (X.blk s H scope (compEnvC scope cl C X.env) fp) tg ws g)
    (ht : ∀ (s : Shared) (H : Hp) (C : Addr) (cl : List (Str × Addr)) (fp : List Addr), QTs m (X.blk s H scope (compEnvC scope cl C X.env) fp) ifs t)
    (he : ∀ (s : Shared) (H : Hp) (C : Addr) (cl : List (Str × Addr)) (fp : List Addr), QE m (X.blk s H scope (compEnvC scope cl C X.env) fp) elt ge)
    {τ : L2.St} {H : Hp} {σ : GSt} {G : GH} {Q : GQ} (S : Sl X.K H σ τ) (C : Cp m X H G) (q : gLc it g t ge (own.map (·.2)) σ G Q) :
    tLc (wI X tg iter) (fun v τ H Q => ∀ s H0 C cl fp, wG (X.blk s H0 scope (compEnvC scope cl C X.env) fp) tg v τ H Q) (fun τ H Q => ∀ s H0 C cl fp, wTs (X.blk s H0 scope (compEnvC scope cl C X.env) fp) ifs τ H Q) (fun τ H Q => ∀ s H0 C cl fp, wE (X.blk s H0 scope (compEnvC scope cl C X.env) fp) elt τ H Q) (own.map (·.2)) τ H (LQ m X H Q) := by
  intro pins s I
  refine thn (hi.run τ H σ G _ S C q pins s I) fun v s1 h1 => thn h1 fun itv s2 h2 => ?_
  obtain ⟨ia, fp, tn, J, H1, e, I1, T, st, f2, ds, ok, G1, k1, C1, sim, ok1, q1⟩ := h2
  refine ⟨ia, fp, tn, J, H1, e, I1, T, st, f2, fun p hp => ?_⟩
  obtain ⟨ok2, q1⟩ := q1 p (C1.free hp)
  have kn := KeepT.new (o := HO.lst []) hp
  obtain ⟨W, w0, turn, fin⟩ := q1
  refine ⟨fun i n H' => n = ds.length - i ∧ i ≤ ds.length ∧ ∃ acc G', KeepT (upd H1 p (.lst [])) H' ∧ Cp m X H' G' ∧ G' p = some (.lst acc) ∧ ok G' ∧ W i acc G',
    ⟨_, rfl, Nat.zero_le _, [], _, KeepT.refl _, new_lst C1 hp .nil, set_same, ok2, w0⟩, ?_⟩
  rintro i n H' ⟨rfl, hi, acc, G', k', C', gp, ok', q'⟩
  have kA : KeepT H1 H' := kn.trans k'
  by_cases lt : i < ds.length
  · have e1 : ds[i]? = some ds[i] := List.getElem?_eq_getElem lt
    obtain ⟨go, yl⟩ := sim.go i H' G' ds[i] kA C' ok' e1
    have q' := turn i ds[i] acc G' e1 ok' gp q'
    refine .inr ⟨go, fun H2 => ∃ acc G', KeepT (upd H1 p (.lst [])) H2 ∧ Cp m X H2 G' ∧ G' p = some (.lst acc) ∧ ok G' ∧ W (i + 1) acc G', fun H2 z => ⟨ds.length - (i + 1), by omega, rfl, lt, z⟩, fun x H2 y => ?_⟩
    obtain ⟨k2, C2, d2⟩ := yl x H2 y
    intro s' H0 Cc cl fp' pins' s'' u I' r
    have Sw : Sl X.K H2 (wipeG σ (own.map (·.2))) (wipe τ (own.map (·.2))) := (sl_wipe S _).keep ((k1.trans kA).trans k2)
    refine thn ((hg s' H0 Cc cl fp').run _ H2 x ds[i] _ G' _ Sw C2 d2 q' pins' s'' u I' r) fun _ s3 ⟨τ3, H3, I3, wp, σ3, G3, k3, S3, C3, q3⟩ => ⟨τ3, H3, I3, ?_, ?_⟩
    · rw [wp _ hw]
      have : ∀ us : List Nat, wipe (wipe τ us) us = wipe τ us := fun us => by
        apply List.ext_getElem?
        intro j
        have aux := fun (ρ : L2.St) => wipe_get us ρ j
        rw [aux, aux]
        by_cases hj : j ∈ us
        · simp [hj, wipe_length]
        · simp [hj]
      rw [this]
    · intro s4 H4 Cc2 cl2 fp2 pins2 s5 I5
      have kB : KeepT (upd H1 p (.lst [])) H3 := (k'.trans k2).trans k3
      refine thn ((ht s4 H4 Cc2 cl2 fp2).run τ3 H3 σ3 G3 _ S3 C3 q3 pins2 s5 I5) fun b s6 ⟨H6, I6, G6, k6, C6, q6⟩ => ⟨H6, I6, ?_⟩
      cases b with
      | false =>
        obtain ⟨g6, o6, q6⟩ := q6
        exact ⟨acc, G6, kB.trans k6, C6, g6, o6, q6⟩
      | true =>
        simp only [if_true] at q6 ⊢
        intro s7 H7 Cc3 cl3 fp3
        refine wE_mono ((he s7 H7 Cc3 cl3 fp3).run τ3 H6 σ3 G6 _ (S3.keep k6) C6 q6) fun v H8 ⟨d, G8, k8, C8, d8, g8, l8, o8, q8⟩ => ?_
        obtain ⟨vs, ha, tt⟩ := C8 p _ g8
        obtain ⟨k9, C9⟩ := cp_lst C8 g8 (tt.snoc d8)
        exact ⟨vs, ha, by rw [← tt.length]; exact lim_lt l8, acc ++ [d], _, ((kB.trans k6).trans k8).trans k9, C9, set_same, o8, q8⟩
  · have e : i = ds.length := by omega
    subst e
    exact .inl ⟨sim.stop _ H' G' kA C' ok' (Nat.le_refl _), .ref p, G', k1.trans kA, C', dat_ref.mpr rfl, fin acc G' ok' gp q'⟩
theorem q_lc (hc : X.calm = true) (hN : X.N.Nodup) (hi : QI m X tg iter it) (ok : BlkOk X.N X.env.scope scope own) (hw : ∀ i ∈ ws, i ∈ own.map (·.2))
    (hg : ∀ (s : Shared) (H : Hp) (C : Addr) (cl : List (Str × Addr)) (fp : List Addr), QG m (X.blk s H scope (compEnvC scope cl C X.env) fp) tg ws g)
    (ht : ∀ (s : Shared) (H : Hp) (C : Addr) (cl : List (Str × Addr)) (fp : List Addr), QTs m (X.blk s H scope (compEnvC scope cl C X.env) fp) ifs t)
    (he : ∀ (s : Shared) (H : Hp) (C : Addr) (cl : List (Str × Addr)) (fp : List Addr), QE m (X.blk s H scope (compEnvC scope cl C X.env) fp) elt ge) (hs : ∀ x, foldedSetIterable iter X.env x = pure x := by intro _; rfl) :
    QE m X (.ListComp elt [⟨tg, iter, ifs, 0⟩] scope pos) (gLc it g t ge (own.map (·.2))) := ⟨fun τ H σ G Q S C q => by
  refine wE_of (pe_lc hc hN (wI_pi tg iter) ok (g := fun v τ H Q => ∀ s H0 C cl fp, wG (X.blk s H0 scope (compEnvC scope cl C X.env) fp) tg v τ H Q) ?_ (tt := fun τ H Q => ∀ s H0 C cl fp, wTs (X.blk s H0 scope (compEnvC scope cl C X.env) fp) ifs τ H Q) ?_ (te := fun τ H Q => ∀ s H0 C cl fp, wE (X.blk s H0 scope (compEnvC scope cl C X.env) fp) elt τ H Q) ?_ hs) (lc_sim hi hw hg ht he S C q)
  · exact fun s H0 C cl fp => ⟨fun pins s' τ H v u Q I r h => (wG_pg tg).run pins s' τ H v u Q I r (h s H0 C cl fp)⟩
  · exact fun s H0 C cl fp => ⟨fun pins s' τ H Q I h => (wTs_pts ifs).run pins s' τ H Q I (h s H0 C cl fp)⟩
  · exact fun s H0 C cl fp => ⟨fun pins s' τ H Q I h => (wE_pe elt).run pins s' τ H Q I (h s H0 C cl fp)⟩⟩
/-- name = [..] on one line -/
theorem qs_setLc {i : Nat} {y : Str} {py spos : Pos} (hc : X.calm = true) (hN : X.N.Nodup) (hy : X.N[i]? = some y) (hyl : X.env.scope.names.lookup y = some .local)
    (hsw : swapsWith (.ListComp elt [⟨tg, iter, ifs, 0⟩] scope pos) (some (.Name y py)) spos.line X.env = pure true) (hi : QI m X tg iter it) (ok : BlkOk X.N X.env.scope scope own) (hw : ∀ i ∈ ws, i ∈ own.map (·.2))
    (hg : ∀ (s : Shared) (H : Hp) (C : Addr) (cl : List (Str × Addr)) (fp : List Addr), QG m (X.blk s H scope (compEnvC scope cl C X.env) fp) tg ws g)
    (ht : ∀ (s : Shared) (H : Hp) (C : Addr) (cl : List (Str × Addr)) (fp : List Addr), QTs m (X.blk s H scope (compEnvC scope cl C X.env) fp) ifs t)
    (he : ∀ (s : Shared) (H : Hp) (C : Addr) (cl : List (Str × Addr)) (fp : List Addr), QE m (X.blk s H scope (compEnvC scope cl C X.env) fp) elt ge) (hs : ∀ x, foldedSetIterable iter X.env x = pure x := by intro _; rfl) :
    QS m X (.Assign [.Name y py] (.ListComp elt [⟨tg, iter, ifs, 0⟩] scope pos) spos) (gSet i (gLc it g t ge (own.map (·.2)))) := ⟨fun τ H σ G E S C q => by
  refine wS_of (ps_setLc hc hN hy hyl hsw (wI_pi tg iter) ok (g := fun v τ H Q => ∀ s H0 C cl fp, wG (X.blk s H0 scope (compEnvC scope cl C X.env) fp) tg v τ H Q) ?_ (tt := fun τ H Q => ∀ s H0 C cl fp, wTs (X.blk s H0 scope (compEnvC scope cl C X.env) fp) ifs τ H Q) ?_ (te := fun τ H Q => ∀ s H0 C cl fp, wE (X.blk s H0 scope (compEnvC scope cl C X.env) fp) elt τ H Q) ?_ hs) ?_
  · exact fun s H0 C cl fp => ⟨fun pins s' τ H v u Q I r h => (wG_pg tg).run pins s' τ H v u Q I r (h s H0 C cl fp)⟩
  · exact fun s H0 C cl fp => ⟨fun pins s' τ H Q I h => (wTs_pts ifs).run pins s' τ H Q I (h s H0 C cl fp)⟩
  · exact fun s H0 C cl fp => ⟨fun pins s' τ H Q I h => (wE_pe elt).run pins s' τ H Q I (h s H0 C cl fp)⟩
  · refine tLc_mono (lc_sim hi hw hg ht he S C q) (fun v H1 ⟨d, G1, k1, C1, d1, q1⟩ => ?_) wI_mono
    exact ⟨_, G1, k1, Sl.put (S.keep k1) i d1, C1, q1⟩⟩
end
end Cz

/-! Dict displays, chained comparisons, isinstance. -/
namespace Cz
open PySem PySem.Spec PyProof.Rows L2
section
variable {m : Gm} {X : Cx} {pos : Pos}
theorem q_dnewN : QE m X (.Dict [] [] pos) (gDNew .nk) := ⟨fun τ H σ G Q S C q => by
  intro pins s I
  have hp : H s.heap.objs.size = none := I.hok.fresh (Nat.le_refl _)
  have hsys : (s.heap.objs.size == sysModules) = false := beq_eq_false_iff_ne.mpr (Ne.symm (Nat.ne_of_lt I.big))
  refine wpAny_Dict_empty ⟨.ref s.heap.objs.size, _, I.laid (a := s.heap.objs.size) (o := nkO X.w s.heap.objs.size []) (t' := s.toks) (fun _ _ q => Heap.get?_push_of_some _ q) (Nat.le_refl _) ?_, rfl, ?_⟩
  · refine ⟨⟨_, #[], 0, Heap.get?_push_size _ rfl, ⟨rfl, rfl, rfl⟩, rfl, rfl⟩, ⟨_, Heap.get?_push_size _ rfl⟩, fun g1 g2 z k => ?_⟩
    obtain ⟨oo, ea, eb, z1, z2⟩ := z
    exact ⟨oo, ea, eb, k oo z1, z2⟩
  · exact ⟨.ref s.heap.objs.size, _, KeepT.new hp, C.upd (o := .dct .nk []) (KeepT.new hp) ⟨[], upd_same, hsys, Nat.zero_le _, .nil, List.nodup_nil⟩, dat_ref.mpr rfl, q _ (C.free hp)⟩⟩

/-! ### {k: v, ..} with texts or ints for keys; the new dict stands empty while the pairs are made -/
structure QP (m : Gm) (X : Cx) (pos : Pos) (ks : List (Option Expr)) (vs : List Expr) (g : GSt → GH → (List (D × D) → GH → Prop) → Prop) : Prop where
  run : ∀ (τ : L2.St) (H : Hp) (σ : GSt) (G : GH) (Q : List (D × D) → GH → Prop), Sl X.K H σ τ → Cp m X H G → g σ G Q → ∀ pins s, Inv X pins τ H s →
    wpAny (model X.prog X.w) X.A (evalPairs (pairTrees ks vs X.env pos)) (fun us s' => ∃ ps H', Inv X pins τ H' s' ∧ VV ps us ∧ ∃ ds G', KeepT H H' ∧ Cp m X H' G' ∧ All2 (fun (d : D × D) p => Dat X.K H' d.1 p.1 ∧ Dat X.K H' d.2 p.2) ds ps ∧ Q ds G') X.xe s
def gPNil : GSt → GH → (List (D × D) → GH → Prop) → Prop := fun _ G Q => Q [] G
def gPCons (k v : GE) (r : GSt → GH → (List (D × D) → GH → Prop) → Prop) : GSt → GH → (List (D × D) → GH → Prop) → Prop := fun σ G Q => k σ G fun x G1 => v σ G1 fun y G2 => r σ G2 fun ps G3 => Q ((x, y) :: ps) G3
theorem qp_nil : QP m X pos [] [] gPNil := ⟨fun τ H σ G Q S C q pins s I => pairTrees_nil_walk ⟨[], H, I, .nil, [], G, KeepT.refl H, C, .nil, q⟩⟩
theorem qp_cons {k v : Expr} {ks : List (Option Expr)} {vs : List Expr} {gk gv : GE} {r : GSt → GH → (List (D × D) → GH → Prop) → Prop} (hk : QE m X k gk) (hv : QE m X v gv) (hr : QP m X pos ks vs r) : QP m X pos (some k :: ks) (v :: vs) (gPCons gk gv r) := ⟨fun τ H σ G Q S C q pins s I =>
  pairTrees_cons_walk (thn (hk.run τ H σ G _ S C q pins s I) fun u s1 ⟨x, H1, I1, rx, dx, G1, k1, C1, d1, q1⟩ => thn (hv.run τ H1 σ G1 _ (S.keep k1) C1 q1 pins s1 I1) fun w2 s2 ⟨y, H2, I2, ry, dy, G2, k2, C2, d2, q2⟩ =>
    thn (hr.run τ H2 σ G2 _ (S.keep (k1.trans k2)) C2 q2 pins s2 I2) fun ws s3 ⟨ps, H3, I3, rel, ds, G3, k3, C3, d3, q3⟩ =>
      ⟨(x, y) :: ps, H3, I3, .cons ⟨rx, ry⟩ rel, (dx, dy) :: ds, G3, (k1.trans k2).trans k3, C3, .cons ⟨Dat.keep (k2.trans k3) _ _ d1, Dat.keep k3 _ _ d2⟩ d3, q3⟩)⟩
/-- the pairs stored from the left -/
def dputs (ps : List (D × D)) : List (D × D) := ps.foldl (fun acc p => dput acc p.1 p.2) []
def gDisp (g : GSt → GH → (List (D × D) → GH → Prop) → Prop) : GE := fun σ G Q => ∀ p, G p = none → g σ (G.set p (.dct .ik [])) fun ps G2 => G2 p = some (.dct .ik []) ∧ ps.length ≤ 15 ∧ (∀ q ∈ ps, isKey q.1 = true) ∧ Q (.ref p) (G2.set p (.dct .ik (dputs ps)))
theorem kvs_of {H : Hp} : ∀ {ds : List (D × D)} {ps : List (V × V)}, All2 (fun (d : D × D) p => Dat X.K H d.1 p.1 ∧ Dat X.K H d.2 p.2) ds ps → (∀ q ∈ ds, isKey q.1 = true) → ∃ kvs : List (Key × V), ps = kvs.map (fun kv => (kV kv.1, kv.2)) ∧ All2 (IkRel X.K H) ds kvs
  | [], _, h, _ => ⟨[], by rw [show _ = [] from h]; rfl, .nil⟩
  | d :: ds, _, ⟨p, r, e, ⟨h1, h2⟩, t⟩, hk => by
    subst e
    obtain ⟨kvs, e1, t1⟩ := kvs_of t fun q hq => hk q (List.mem_cons_of_mem _ hq)
    obtain ⟨k, ek⟩ := isKey_of (hk d List.mem_cons_self)
    have e2 : p.1 = kV k := by
      rw [ek] at h1
      cases k with
      | inl i => exact dat_int.mp h1
      | inr x => exact dat_str.mp h1
    refine ⟨(k, p.2) :: kvs, ?_, .cons ⟨ek, h2⟩ t1⟩
    rw [List.map_cons, e1, ← e2]
theorem ik_puts {H : Hp} : ∀ {ds : List (D × D)} {kvs : List (Key × V)} {acc : List (D × D)} {hs : List (Key × V)}, All2 (IkRel X.K H) ds kvs → All2 (IkRel X.K H) acc hs → All2 (IkRel X.K H) (ds.foldl (fun acc p => dput acc p.1 p.2) acc) (mergeK hs kvs)
  | [], _, acc, hs, h, t => by rw [show _ = [] from h]; exact t
  | d :: ds, _, acc, hs, ⟨p, r, e, h, z⟩, t => by
    subst e
    obtain ⟨h1, h2⟩ := h
    show All2 _ (ds.foldl _ (dput acc d.1 d.2)) (mergeK (putK hs p.1 p.2) r)
    rw [h1]
    exact ik_puts z (ik_put t h2)
theorem q_disp {ks : List (Option Expr)} {vs : List Expr} {g : GSt → GH → (List (D × D) → GH → Prop) → Prop} (h : QP m X pos ks vs g) (hall : ks.all (·.isSome) = true) (hl : ks.length = vs.length) (h0 : ks ≠ []) (h15 : ks.length ≤ 15) : QE m X (.Dict ks vs pos) (gDisp g) := ⟨fun τ H σ G Q S C q => by
  intro pins s I
  have hn := I.hok.fresh (Nat.le_refl s.heap.objs.size)
  have I1 := I.laid (a := s.heap.objs.size) (o := .dK []) (h' := s.heap.push { cls := .type "dict", data := .dict #[] }) (t' := s.toks) (fun _ _ q => Heap.get?_push_of_some _ q) (Nat.le_refl _) (dk_empty s.heap I.big)
  have kn := KeepT.new (o := HO.dK []) hn
  refine wpAny_Dict_walk (knd := mixKind X.prog X.w) hall hl h0 h15 (thn (h.run τ _ σ _ _ (S.keep kn) (C.upd (o := .dct .ik []) kn ⟨[], upd_same, .nil⟩) (q _ (C.free hn)) pins _ I1) fun ws s2 ⟨ps, H2, I2, rel, ds, G2, k2, C2, d2, g2, l2, hk, q2⟩ => ?_)
  obtain ⟨hs, e, t⟩ := C2 _ _ g2
  rw [show hs = [] from t] at e
  obtain ⟨kvs, ep, tk⟩ := kvs_of d2 hk
  subst ep
  obtain ⟨rs, c, rk⟩ := carries_of (P := X.prog) (w := X.w) rel
  obtain ⟨z, hd, vs0, r0, dd⟩ := dk_of I2.hok e
  cases r0
  have kt : KeepT H2 (upd H2 s.heap.objs.size (.dK (mergeK [] kvs))) := KeepT.mut e (fun _ z => (nomatch z)) fun _ _ z => (nomatch z)
  refine ⟨rs, c, dd, fun h' dd' hs => ⟨.ref s.heap.objs.size, upd H2 s.heap.objs.size (.dK (mergeK [] kvs)), ?_, rfl, .ref s.heap.objs.size, _, (kn.trans k2).trans kt, C2.upd (o := .dct .ik (dputs ds)) kt ⟨_, upd_same, ?_⟩, dat_ref.mpr rfl, q2⟩⟩
  · have hz : (mergeK [] kvs).length ≤ sizeLine := by
      have h1 := length_mergeK kvs []
      rw [List.length_nil] at h1
      have h2 := tk.length
      rw [sizeLine_eq]; omega
    have he : ∃ q, h'.get? s.heap.objs.size = some q := let ⟨q, _, _, hq, _⟩ := dd'; ⟨q, hq⟩
    exact d_write I2 (by rw [e]; exact True.intro) hs he (dk_new hz hd (rk.merge .nil) dd')
  · exact ik_puts (tk.mono fun _ _ z => z.keep kt) .nil⟩

/-! ### a < b < c -/
variable {a b c : Expr} {ga gb gc : GE}
theorem q_chain {op op' : CmpOp} {r r' : R2} {g g' : G2} (ho : OpR X (compareOp op) r) (hg : Says2 m X r g) (ho' : OpR X (compareOp op') r') (hg' : Says2 m X r' g') (ha : QE m X a ga) (hb : QE m X b gb) (hc : QE m X c gc)
    (hm : lastMarks [op, op'] [b, c] = false := by with_unfolding_all rfl) : QE m X (.Compare a [op, op'] [b, c] pos) (gChain g g' ga gb gc) := ⟨fun τ H σ G Q S C q => by
  refine wE_of (pe_chain ho ho' (wE_pe a) (wE_pe b) (wE_pe c) hm) ?_
  refine wE_mono (ha.run τ H σ G _ S C q) fun v H1 ⟨x, G1, k1, C1, d1, q1⟩ => ?_
  refine wE_mono (hb.run τ H1 σ G1 _ (S.keep k1) C1 q1) fun u H2 ⟨y, G2, k2, C2, d2, q2⟩ => ?_
  refine hg H2 G2 x y v u _ _ C2 (Dat.keep k2 _ _ d1) d2 ?_ q2
  intro d G3 z H3 k3 C3 d3 ⟨k, e, q3⟩
  subst e
  refine ⟨k, dat_bl.mp d3, ?_⟩
  have kk := (k1.trans k2).trans k3
  cases k with
  | false => exact ⟨.bl false, G3, kk, C3, dB _, q3⟩
  | true =>
    refine wE_mono (hc.run τ H3 σ G3 _ (S.keep kk) C3 q3) fun w H4 ⟨t, G4, k4, C4, d4, q4⟩ => ?_
    exact hg' H4 G4 y t u w _ _ C4 (Dat.keep (k3.trans k4) _ _ d2) d4 (imp_lq (kk.trans k4)) q4⟩
theorem q_lele (ha : QE m X a ga) (hb : QE m X b gb) (hc : QE m X c gc) (hm : lastMarks [.LtE, .LtE] [b, c] = false := by with_unfolding_all rfl) : QE m X (.Compare a [.LtE, .LtE] [b, c] pos) (gChain gLe gLe ga gb gc) :=
  q_chain op_le (says_int0 fun i j H => dB _) op_le (says_int0 fun i j H => dB _) ha hb hc hm

/-! ### isinstance with built-in types -/
theorem q_tyN {x : Str} {n : String} (hg : Gl X x) (hm : X.mg x = none) (hv : bootBuiltins x = some (.type n)) (hn : x ≠ "__name__" := by decide) (hd : (x == ("__debug__" : Str)) = false := by decide) : QE m X (.Name x pos) (gC (.ty n)) :=
  q_pure (pe_bltn (v := .ty n) hg hm hv rfl hn hd) fun H => dat_ty.mpr rfl
/-- the built-in type of data -/
def tyG (x : D) (G : GH) : Option String := match x with
  | .non => some "NoneType"
  | .bl _ => some "bool"
  | .int _ => some "int"
  | .str _ => some "str"
  | .tup _ => some "tuple"
  | .ref a => (match G a with
    | some (.lst _) => some "list"
    | some (.dct .ik _) => some "dict"
    | _ => none)
  | _ => none
def subTy (a b : String) : Bool := a == b || (a == "bool" && b == "int")
def bIsi : GSp := fun ds G Q => match ds with
  | [x, .ty n] => ∃ t, tyG x G = some t ∧ (n = "bool" ∨ n = "int" ∨ n = "tuple") ∧ Q (.bl (subTy t n)) G
  | _ => False
theorem tyG_of {H : Hp} {G : GH} {x : D} {v : V} {t : String} (C : Cp m X H G) (d : Dat X.K H x v) (h : tyG x G = some t) : TyX X.K H v (.type t) ∧ (t = "NoneType" ∨ t = "bool" ∨ t = "int" ∨ t = "str" ∨ t = "tuple" ∨ t = "list" ∨ t = "dict") := by
  cases x with
  | non => cases h; rw [dat_non.mp d]; exact ⟨.base .non, .inl rfl⟩
  | bl b => cases h; rw [dat_bl.mp d]; exact ⟨.base (.bl b), by simp⟩
  | int b => cases h; rw [dat_int.mp d]; exact ⟨.base (.int b), by simp⟩
  | str b => cases h; rw [dat_str.mp d]; exact ⟨.base (.str b), by simp⟩
  | tup ds =>
    cases h
    obtain ⟨a, vs, e, ha, _⟩ := dat_tup.mp d
    subst e
    exact ⟨.base (.tup ha), by simp⟩
  | ref a =>
    rw [dat_ref.mp d]
    unfold tyG at h
    simp only at h
    split at h
    · rename_i ds hg
      cases h
      obtain ⟨vs, ha, _⟩ := C a _ hg
      exact ⟨.base (.lst ha), by simp⟩
    · rename_i kvs hg
      cases h
      obtain ⟨vs, ha, _⟩ := C a _ hg
      exact ⟨.base (.dK ha), by simp⟩
    · cases h
  | _ => cases h
theorem says_isi : SaysL m X (rIsi X.K) bIsi := by
  intro H G xs vs Q Qh C d I h
  unfold bIsi at h
  split at h
  · obtain ⟨v, u, rfl, dv, du⟩ := all2_two d
    obtain ⟨t, ht, hn, q⟩ := h
    obtain ⟨ty, hl⟩ := tyG_of C dv ht
    have eu := dat_ty.mp du
    subst eu
    refine ⟨v, _, _, _, _, rfl, .ty _, ty, kit_ty ?_, imp_here I C (dB _) q⟩
    rcases hl with rfl | rfl | rfl | rfl | rfl | rfl | rfl <;> rcases hn with rfl | rfl | rfl <;> decide +kernel
  · exact h.elim
end
end Cz

/-! Steps of readings. -/
namespace Cz
open PySem L2
section
variable {m : Gm} {σ : GSt} {G : GH} {Q : GQ} {D0 : GEnds} {t u : GS} {g a b c : GE} {r r' : G2} {i : Nat} {d x y : D} {sp : GSp} {ga gb : GA} {tt tu : GT} {QA' : List D → GH → Prop} {QT' : Bool → GH → Prop}
theorem i_var (h : σ[i]? = some (some d)) (q : Q d G) : gVar i σ G Q := ⟨d, h, q⟩
theorem i_c (q : Q d G) : gC d σ G Q := q
theorem i_bin (q : a σ G fun x G1 => b σ G1 fun y G2 => r x y G2 Q) : gBin r a b σ G Q := q
theorem i_tup (q : ga σ G fun xs G1 => xs.length ≤ lim ∧ Q (.tup xs) G1) : gTup ga σ G Q := q
theorem i_lst (q : ga σ G fun xs G1 => xs.length ≤ lim ∧ ∀ p, G1 p = none → Q (.ref p) (G1.set p (.lst xs))) : gLst ga σ G Q := q
theorem i_andV (q : a σ G fun x G1 => ∃ c, x = .bl c ∧ if c = true then b σ G1 Q else Q (.bl false) G1) : gAndV a b σ G Q := q
theorem i_orV (q : a σ G fun x G1 => ∃ c, x = .bl c ∧ if c = true then Q (.bl true) G1 else b σ G1 Q) : gOrV a b σ G Q := q
theorem i_notV (q : a σ G fun x G1 => ∃ k, truG x G1 k ∧ Q (.bl (!k)) G1) : gNotV a σ G Q := q
theorem i_chain (q : a σ G fun x G1 => b σ G1 fun y G2 => r x y G2 fun z G3 => ∃ k, z = .bl k ∧ if k = true then c σ G3 fun w G4 => r' y w G4 Q else Q (.bl false) G3) : gChain r r' a b c σ G Q := q
theorem i_neg (q : a σ G fun x G1 => ∃ i, x = .int i ∧ Q (.int (-i)) G1) : gNeg a σ G Q := q
theorem i_sl {l h : GO'} (q : a σ G fun x G1 => l σ G1 fun lo G2 => h σ G2 fun hi G3 => gCut x lo hi G3 Q) : gSl a l h σ G Q := q
theorem i_fld {f : Fd} (q : a σ G fun x G1 => ∃ p, x = .ref p ∧ fldG (G1 p) f fun d => Q d G1) : gFld a f σ G Q := q
theorem i_call (q : ga σ G fun ds G1 => sp ds G1 Q) : gCall sp ga σ G Q := q
theorem i_meth {tab : Cl → Option GSp} (q : a σ G fun x G1 => ∃ p, x = .ref p ∧ methG (G1 p) tab fun sp => ga σ G1 fun ds G2 => sp (.ref p :: ds) G2 Q) : gMeth tab a ga σ G Q := q
theorem i_make {c : Cl} (q : ga σ G fun ds G1 => ∀ p, G1 p = none → sp (.ref p :: ds) (G1.set p (.ins c [])) fun d G2 => d = .non ∧ Q (.ref p) G2) : gMake c sp ga σ G Q := q
theorem i_lm {rr : Addr → List D → List D → GH → GQ → Prop} (q : a σ G fun x G1 => ∃ p, x = .ref p ∧ lstG (G1 p) fun _ => ga σ G1 fun ys G2 => lstG (G2 p) fun ds => rr p ds ys G2 Q) : gLm rr a ga σ G Q := q
theorem i_get (q : a σ G fun x G1 => ∃ p, x = .ref p ∧ isDct (G1 p) (b σ G1 fun k G2 => c σ G2 fun z G3 => getG (G3 p) k z fun d => Q d G3)) : gGet a b c σ G Q := q
theorem i_dnew {k : Dk} (q : ∀ p, G p = none → Q (.ref p) (G.set p (.dct k []))) : gDNew k σ G Q := q
theorem i_nil (q : QA' [] G) : gNil σ G QA' := q
theorem i_cons (q : a σ G fun x G1 => ga σ G1 fun xs G2 => QA' (x :: xs) G2) : gCons a ga σ G QA' := q
theorem i_noPart {QO : Option Int → GH → Prop} (q : QO none G) : gNoPart σ G QO := q
theorem i_part {QO : Option Int → GH → Prop} (q : a σ G fun x G1 => ∃ i, x = .int i ∧ QO (some i) G1) : gPart a σ G QO := q
theorem i_test (q : a σ G fun x G1 => ∃ k, x = .bl k ∧ QT' k G1) : gTest a σ G QT' := q
theorem i_tru (q : a σ G fun x G1 => ∃ k, truG x G1 k ∧ QT' k G1) : gTru a σ G QT' := q
theorem i_and (q : tt σ G fun c G1 => if c = true then tu σ G1 QT' else QT' false G1) : gAnd tt tu σ G QT' := q
theorem i_or (q : tt σ G fun c G1 => if c = true then QT' true G1 else tu σ G1 QT') : gOr tt tu σ G QT' := q
theorem i_not (q : tt σ G fun c G1 => QT' (!c) G1) : gNot tt σ G QT' := q
theorem i_next (q : D0.nx σ G) : gNext D0 σ G := q
theorem i_seq (q : t { D0 with nx := u D0 } σ G) : gSeq t u D0 σ G := q
theorem i_if (q : tt σ G fun b G1 => if b = true then t D0 σ G1 else u D0 σ G1) : gIf tt t u D0 σ G := q
theorem i_drop (q : a σ G fun _ G1 => D0.nx σ G1) : gDrop a D0 σ G := q
theorem i_ret (q : a σ G D0.rt) : gRet a D0 σ G := q
theorem i_retN (q : D0.rt .non G) : gRetN D0 σ G := q
theorem i_set (q : a σ G fun x G1 => D0.nx (σ.set i (some x)) G1) : gSet i a D0 σ G := q
theorem i_break (q : D0.bk σ G) : gBreak D0 σ G := q
theorem i_asg {tg : GG} (q : a σ G fun x G1 => tg x σ G1 D0.nx) : gAsg a tg D0 σ G := q
theorem i_setF {f : Fd} (q : b σ G fun d G1 => a σ G1 fun x G2 => ∃ p, x = .ref p ∧ fsetG m (G2 p) f d fun o => D0.nx σ (G2.set p o)) : gSetF m a b f D0 σ G := q
theorem i_put (q : a σ G fun d G1 => b σ G1 fun x G2 => c σ G2 fun i G3 => ∃ p, x = .ref p ∧ setG (G3 p) i d fun o => D0.nx σ (G3.set p o)) : gPut a b c D0 σ G := q
theorem i_for {it : GI} {tg : GG} (q : it σ G fun ds ok G1 => gTurns D0 tg t ds ok σ G1) : gFor it tg t D0 σ G := q
theorem i_rng {QI' : List D → (GH → Prop) → GH → Prop} (q : ga σ G fun ds G1 => ∃ j : Int, ds = [.int j] ∧ -(2 ^ 62) ≤ j ∧ j < 2 ^ 62 ∧ QI' ((List.range j.toNat).map fun i : Nat => D.int (i : Int)) yes G1) : gRng1 ga σ G QI' := q
theorem i_iter {QI' : List D → (GH → Prop) → GH → Prop} (q : a σ G fun x G1 => itE x G1 QI') : gIter a σ G QI' := q
theorem i_nm {R : GSt → GH → Prop} (q : R (σ.set i (some d)) G) : gNm i d σ G R := q
theorem i_lc {it : GI} {tg : GG} {vs : List Nat} (q : it σ G fun ds ok G1 => ∀ p, G1 p = none → ok (G1.set p (.lst [])) ∧ gLcL p tg tt a (wipeG σ vs) (fun G2 => Q (.ref p) G2) ds ok (G1.set p (.lst []))) : gLc it tg tt a vs σ G Q := q
-- ends
theorem e_ref {p : Addr} {P : Addr → Prop} (h : P p) : ∃ q, D.ref p = .ref q ∧ P q := ⟨p, rfl, h⟩
theorem e_bl {k : Bool} {P : Bool → Prop} (h : P k) : ∃ j, D.bl k = .bl j ∧ P j := ⟨k, rfl, h⟩
theorem e_int {k : Int} {P : Int → Prop} (h : P k) : ∃ j, D.int k = .int j ∧ P j := ⟨k, rfl, h⟩
theorem e_ints {k : Int} {P : Int → Prop} (h : P k) : ∃ j, [D.int k] = [.int j] ∧ P j := ⟨k, rfl, h⟩
theorem e_and {p q : Prop} (h : p) (k : q) : p ∧ q := ⟨h, k⟩
-- values
variable {j k n : Int} {ds es : List D} {p : Addr} {kvs : List (D × D)} {neg : Bool}
theorem i_addI (q : Q (.int (j + k)) G) : gAdd (.int j) (.int k) G Q := q
theorem i_addT (h : ds.length + es.length ≤ lim) (q : Q (.tup (ds ++ es)) G) : gAdd (.tup ds) (.tup es) G Q := ⟨h, q⟩
theorem i_addL {r : Addr} (h1 : G p = some (.lst ds)) (h2 : G r = some (.lst es)) (hl : ds.length + es.length ≤ lim) (q : ∀ u, G u = none → Q (.ref u) (G.set u (.lst (ds ++ es)))) : gAdd (.ref p) (.ref r) G Q := ⟨ds, es, h1, h2, hl, q⟩
theorem i_sub (q : Q (.int (j - k)) G) : gSub (.int j) (.int k) G Q := q
theorem i_mulI (h : CMul j k) (q : Q (.int (j * k)) G) : gMul (.int j) (.int k) G Q := ⟨h, q⟩
theorem i_mod (h : 0 < k) (q : Q (.int (j % k)) G) : gMod (.int j) (.int k) G Q := ⟨h, q⟩
theorem i_div (h : CDiv j k) (q : Q (.int (j / k)) G) : gDiv (.int j) (.int k) G Q := ⟨h, q⟩
theorem i_lt (q : Q (.bl (decide (j < k))) G) : gLt (.int j) (.int k) G Q := q
theorem i_le (q : Q (.bl (decide (j ≤ k))) G) : gLe (.int j) (.int k) G Q := q
theorem i_gt (q : Q (.bl (decide (k < j))) G) : gGt (.int j) (.int k) G Q := q
theorem i_ge (q : Q (.bl (decide (k ≤ j))) G) : gGe (.int j) (.int k) G Q := q
theorem i_eqI (q : Q (.bl (decide (j = k))) G) : gEq false (.int j) (.int k) G Q := gEq_int q
theorem i_neI (q : Q (.bl (!decide (j = k))) G) : gEq true (.int j) (.int k) G Q := gEq_int q
theorem i_eqP (h1 : Pkd x) (h2 : Pkd y) (q : Q (.bl (decide (x = y))) G) : gEq false x y G Q := gEq_pure h1 h2 q
theorem i_neP (h1 : Pkd x) (h2 : Pkd y) (q : Q (.bl (!decide (x = y))) G) : gEq true x y G Q := gEq_pure h1 h2 q
theorem i_neB {j k : Bool} (q : Q (.bl (!decide (j = k))) G) : gEq true (.bl j) (.bl k) G Q := gEq_bl q
theorem i_isB {j k : Bool} (q : Q (.bl (decide (j = k))) G) : gIs false (.bl j) (.bl k) G Q := q
theorem i_isntB {j k : Bool} (q : Q (.bl (!decide (j = k))) G) : gIs true (.bl j) (.bl k) G Q := q
theorem i_ixT (h : atI ds j = some d) (q : Q d G) : gIx (.tup ds) (.int j) G Q := ⟨j, d, rfl, h, q⟩
theorem i_ixL (hg : G p = some (.lst ds)) (h : atI ds j = some d) (q : Q d G) : gIx (.ref p) (.int j) G Q := by
  show ixG (G p) (.int j) fun d => Q d G
  rw [hg]; exact ⟨j, d, rfl, h, q⟩
theorem i_ixI (hg : G p = some (.dct .ik kvs)) (hk : isKey y = true) (h : dget kvs y = some d) (q : Q d G) : gIx (.ref p) y G Q := by
  show ixG (G p) y fun d => Q d G
  rw [hg]; exact ⟨hk, d, h, q⟩
theorem i_ixN (hg : G p = some (.dct .nk kvs)) (hk : Pkd y) (h : dget kvs y = some d) (q : Q d G) : gIx (.ref p) y G Q := by
  show ixG (G p) y fun d => Q d G
  rw [hg]; exact ⟨hk, d, h, q⟩
theorem i_lenT (q : Q (.int ds.length) G) : bLen [.tup ds] G Q := q
theorem i_lenL (hg : G p = some (.lst ds)) (q : Q (.int ds.length) G) : bLen [.ref p] G Q := by
  show lenG (.ref p) G fun n => Q (.int n) G
  unfold lenG; simp only [hg]; exact q
theorem i_lenD {kd : Dk} (hg : G p = some (.dct kd kvs)) (q : Q (.int kvs.length) G) : bLen [.ref p] G Q := by
  show lenG (.ref p) G fun n => Q (.int n) G
  unfold lenG; simp only [hg]; exact q
theorem i_abs (q : Q (.int (if j < 0 then -j else j)) G) : bAbs [.int j] G Q := q
theorem i_int (q : Q (.int j) G) : bInt [.int j] G Q := q
theorem i_max (q : Q (.int (if k > j then k else j)) G) : bMax [.int j, .int k] G Q := q
theorem i_min (q : Q (.int (if k < j then k else j)) G) : bMin [.int j, .int k] G Q := q
theorem i_fldR {P : D → Prop} {f : Fd} {c : Cl} {fs : List (Fd × D)} (hg : G p = some (.ins c fs)) (h : fget fs f = some d) (q : P d) : fldG (G p) f P := by
  rw [hg]; exact ⟨d, h, q⟩
theorem i_methR {tab : Cl → Option GSp} {N : GSp → Prop} {c : Cl} {fs : List (Fd × D)} (hg : G p = some (.ins c fs)) (h : tab c = some sp) (q : N sp) : methG (G p) tab N := by
  rw [hg]; show (match tab c with | some sp => N sp | none => False); rw [h]; exact q
theorem i_setFR {N : GO → Prop} {f : Fd} {c : Cl} {fs : List (Fd × D)} (hg : G p = some (.ins c fs)) (h : m.ok c f = true) (hl : fs.length < 100) (q : N (.ins c (fput f d fs))) : fsetG m (G p) f d N := by
  rw [hg]; exact ⟨h, hl, q⟩
theorem i_putL {N : GO → Prop} {jj : Nat} (hg : G p = some (.lst ds)) (h : ixN ds.length j = some jj) (q : N (.lst (ds.set jj d))) : setG (G p) (.int j) d N := by
  rw [hg]; exact ⟨j, jj, rfl, h, q⟩
theorem i_putI {N : GO → Prop} (hg : G p = some (.dct .ik kvs)) (h : isKey y = true) (hl : kvs.length < lim) (q : N (.dct .ik (dput kvs y d))) : setG (G p) y d N := by
  rw [hg]; exact ⟨h, hl, q⟩
theorem i_putN {N : GO → Prop} (hg : G p = some (.dct .nk kvs)) (h : Pkd (.tup es)) (hl : kvs.length < lim) (q : N (.dct .nk (dput kvs (.tup es) d))) : setG (G p) (.tup es) d N := by
  rw [hg]; exact ⟨h, ⟨es, rfl⟩, hl, q⟩
theorem i_inL (hg : G p = some (.lst ds)) (hx : Pkd x) (h : ∀ d ∈ ds, Pkd d) (q : Q (.bl (decide (x ∈ ds))) G) : gIn false x (.ref p) G Q := by
  show inG false (G p) x fun d => Q d G
  rw [hg]; exact ⟨hx, h, q⟩
theorem i_ninL (hg : G p = some (.lst ds)) (hx : Pkd x) (h : ∀ d ∈ ds, Pkd d) (q : Q (.bl (!decide (x ∈ ds))) G) : gIn true x (.ref p) G Q := by
  show inG true (G p) x fun d => Q d G
  rw [hg]; exact ⟨hx, h, q⟩
theorem i_inI (hg : G p = some (.dct .ik kvs)) (hx : isKey x = true) (q : Q (.bl (dget kvs x).isSome) G) : gIn false x (.ref p) G Q := by
  show inG false (G p) x fun d => Q d G
  rw [hg]; exact ⟨hx, q⟩
theorem i_ninI (hg : G p = some (.dct .ik kvs)) (hx : isKey x = true) (q : Q (.bl (!(dget kvs x).isSome)) G) : gIn true x (.ref p) G Q := by
  show inG true (G p) x fun d => Q d G
  rw [hg]; exact ⟨hx, q⟩
theorem i_ninN (hg : G p = some (.dct .nk kvs)) (hx : Pkd (.tup es)) (q : Q (.bl (!(dget kvs (.tup es)).isSome)) G) : gIn true (.tup es) (.ref p) G Q := by
  show inG true (G p) (.tup es) fun d => Q d G
  rw [hg]; exact ⟨hx, ⟨es, rfl⟩, q⟩
theorem i_app (hg : G p = some (.lst ds)) (hl : ds.length < lim) (q : Q .non (G.set p (.lst (ds ++ [y])))) : lstG (G p) fun ds => rApp p ds [y] G Q := by
  rw [hg]; exact ⟨hl, q⟩
theorem i_pop0 (hg : G p = some (.lst (y :: ds))) (q : Q y (G.set p (.lst ds))) : lstG (G p) fun ds => rPop0 p ds [.int 0] G Q := by
  rw [hg]; exact q
theorem i_popL (hg : G p = some (.lst (ds ++ [y]))) (q : Q y (G.set p (.lst ds))) : lstG (G p) fun ds => rPopL p ds [] G Q := by
  rw [hg]; exact ⟨rfl, y, by simp, by rw [List.dropLast_concat]; exact q⟩
theorem i_rev (hg : G p = some (.lst ds)) (q : Q .non (G.set p (.lst ds.reverse))) : lstG (G p) fun ds => rRev p ds [] G Q := by
  rw [hg]; exact ⟨rfl, q⟩
theorem i_idx (hg : G p = some (.lst ds)) (hy : Pkd y) (h : ∀ d ∈ ds, Pkd d) (hm : y ∈ ds) (q : Q (.int (ds.idxOf y)) G) : lstG (G p) fun ds => rIdx p ds [y] G Q := by
  rw [hg]; exact ⟨hy, h, hm, q⟩
theorem ixN_nat {n : Nat} {i : Int} (h0 : 0 ≤ i) (h : i < n) : ixN n i = some i.toNat := by unfold ixN; rw [if_pos h0, if_pos h]
theorem atI_at {xs : List D} {i : Int} (h0 : 0 ≤ i) (h : xs[i.toNat]? = some d) : atI xs i = some d := by
  have hl := (List.getElem?_eq_some_iff.mp h).1
  unfold atI
  rw [ixN_nat h0 (by omega)]
  exact h
theorem atI_zero {xs : List D} : atI (d :: xs) 0 = some d := atI_at (Int.le_refl 0) rfl
theorem i_lm1 (hg : G p = some (.lst ds)) {N : Prop} (q : N) : lstG (G p) fun _ => N := by rw [hg]; exact q
theorem i_isD (hg : ∃ k kvs, G p = some (.dct k kvs)) {N : Prop} (q : N) : isDct (G p) N := by obtain ⟨k, kvs, hg⟩ := hg; rw [hg]; exact q
theorem i_getI {P : D → Prop} (hg : G p = some (.dct .ik kvs)) (hk : isKey x = true) (q : P ((dget kvs x).getD y)) : getG (G p) x y P := by rw [hg]; exact ⟨hk, q⟩
theorem i_getN {P : D → Prop} (hg : G p = some (.dct .nk kvs)) (hk : Pkd x) (q : P ((dget kvs x).getD y)) : getG (G p) x y P := by rw [hg]; exact ⟨hk, q⟩
theorem i_ite {p q : Prop} {c : Prop} [Decidable c] (h1 : c → p) (h2 : ¬ c → q) : if decide c = true then p else q := by
  by_cases h : c
  · rw [if_pos (decide_eq_true h)]; exact h1 h
  · rw [if_neg (by simp [h])]; exact h2 h
theorem i_iteN {p q : Prop} {c : Prop} [Decidable c] (h1 : ¬ c → p) (h2 : c → q) : if (!decide c) = true then p else q := by
  by_cases h : c
  · rw [if_neg (by simp [h])]; exact h2 h
  · rw [if_pos (by simp [h])]; exact h1 h
end
/-! ### the steps that need no thought -/
class Stp (P : Prop) (R : outParam Prop) : Prop where
  ok : R → P
class Go (P : Prop) (R : outParam Prop) : Prop where
  ok : R → P
instance (priority := low) goStop {P : Prop} : Go P P := ⟨id⟩
instance goStep {P R S : Prop} [h : Stp P R] [k : Go R S] : Go P S := ⟨fun z => h.ok (k.ok z)⟩
class Slot (σ : GSt) (i : Nat) (d : outParam D) : Prop where
  ok : σ[i]? = some (some d)
instance slot0 {d : D} {σ : GSt} : Slot (some d :: σ) 0 d := ⟨rfl⟩
instance slotS {d : D} {o : Option D} {σ : GSt} {i : Nat} [h : Slot σ i d] : Slot (o :: σ) (i + 1) d := ⟨by rw [List.getElem?_cons_succ]; exact h.ok⟩
class Stor (σ : GSt) (i : Nat) (d : D) (σ' : outParam GSt) : Prop where
  ok : σ.set i (some d) = σ'
instance stor0 {o : Option D} {d : D} {σ : GSt} : Stor (o :: σ) 0 d (some d :: σ) := ⟨rfl⟩
instance storS {o : Option D} {d : D} {σ σ' : GSt} {i : Nat} [h : Stor σ i d σ'] : Stor (o :: σ) (i + 1) d (o :: σ') := ⟨by rw [List.set_cons_succ, h.ok]⟩
def sto (σ : GSt) (i : Nat) (d : D) (R : GSt → Prop) : Prop := R (σ.set i (some d))
section
variable {m : Gm} {σ σ' : GSt} {G : GH} {Q : GQ} {D0 : GEnds} {t u : GS} {g a b c : GE} {r r' : G2} {i : Nat} {d x y : D} {sp : GSp} {ga gb : GA} {tt tu : GT} {QA' : List D → GH → Prop} {QT' : Bool → GH → Prop} {j k n : Int} {ds es : List D} {p : Addr}
instance s_c : Stp (gC d σ G Q) (Q d G) := ⟨fun q => i_c q⟩
instance s_bin : Stp (gBin r a b σ G Q) (a σ G fun x G1 => b σ G1 fun y G2 => r x y G2 Q) := ⟨fun q => i_bin q⟩
instance s_tup : Stp (gTup ga σ G Q) (ga σ G fun xs G1 => xs.length ≤ lim ∧ Q (.tup xs) G1) := ⟨fun q => i_tup q⟩
instance s_lst : Stp (gLst ga σ G Q) (ga σ G fun xs G1 => xs.length ≤ lim ∧ ∀ p, G1 p = none → Q (.ref p) (G1.set p (.lst xs))) := ⟨fun q => i_lst q⟩
instance s_andV : Stp (gAndV a b σ G Q) (a σ G fun x G1 => ∃ c, x = .bl c ∧ if c = true then b σ G1 Q else Q (.bl false) G1) := ⟨fun q => i_andV q⟩
instance s_orV : Stp (gOrV a b σ G Q) (a σ G fun x G1 => ∃ c, x = .bl c ∧ if c = true then Q (.bl true) G1 else b σ G1 Q) := ⟨fun q => i_orV q⟩
instance s_notV : Stp (gNotV a σ G Q) (a σ G fun x G1 => ∃ k, truG x G1 k ∧ Q (.bl (!k)) G1) := ⟨fun q => i_notV q⟩
instance s_chain : Stp (gChain r r' a b c σ G Q) (a σ G fun x G1 => b σ G1 fun y G2 => r x y G2 fun z G3 => ∃ k, z = .bl k ∧ if k = true then c σ G3 fun w G4 => r' y w G4 Q else Q (.bl false) G3) := ⟨fun q => i_chain q⟩
instance s_neg : Stp (gNeg a σ G Q) (a σ G fun x G1 => ∃ i, x = .int i ∧ Q (.int (-i)) G1) := ⟨fun q => i_neg q⟩
instance s_sl {l h : GO'} : Stp (gSl a l h σ G Q) (a σ G fun x G1 => l σ G1 fun lo G2 => h σ G2 fun hi G3 => gCut x lo hi G3 Q) := ⟨fun q => i_sl q⟩
instance s_fld {f : Fd} : Stp (gFld a f σ G Q) (a σ G fun x G1 => ∃ p, x = .ref p ∧ fldG (G1 p) f fun d => Q d G1) := ⟨fun q => i_fld q⟩
instance s_call : Stp (gCall sp ga σ G Q) (ga σ G fun ds G1 => sp ds G1 Q) := ⟨fun q => i_call q⟩
instance s_meth {tab : Cl → Option GSp} : Stp (gMeth tab a ga σ G Q) (a σ G fun x G1 => ∃ p, x = .ref p ∧ methG (G1 p) tab fun sp => ga σ G1 fun ds G2 => sp (.ref p :: ds) G2 Q) := ⟨fun q => i_meth q⟩
instance s_make {c : Cl} : Stp (gMake c sp ga σ G Q) (ga σ G fun ds G1 => ∀ p, G1 p = none → sp (.ref p :: ds) (G1.set p (.ins c [])) fun d G2 => d = .non ∧ Q (.ref p) G2) := ⟨fun q => i_make q⟩
instance s_lm {rr : Addr → List D → List D → GH → GQ → Prop} : Stp (gLm rr a ga σ G Q) (a σ G fun x G1 => ∃ p, x = .ref p ∧ lstG (G1 p) fun _ => ga σ G1 fun ys G2 => lstG (G2 p) fun ds => rr p ds ys G2 Q) := ⟨fun q => i_lm q⟩
instance s_get : Stp (gGet a b c σ G Q) (a σ G fun x G1 => ∃ p, x = .ref p ∧ isDct (G1 p) (b σ G1 fun k G2 => c σ G2 fun z G3 => getG (G3 p) k z fun d => Q d G3)) := ⟨fun q => i_get q⟩
instance s_dnew {k : Dk} : Stp (gDNew k σ G Q) (∀ p, G p = none → Q (.ref p) (G.set p (.dct k []))) := ⟨fun q => i_dnew q⟩
instance s_nil : Stp (gNil σ G QA') (QA' [] G) := ⟨fun q => i_nil q⟩
instance s_cons : Stp (gCons a ga σ G QA') (a σ G fun x G1 => ga σ G1 fun xs G2 => QA' (x :: xs) G2) := ⟨fun q => i_cons q⟩
instance s_noPart {QO : Option Int → GH → Prop} : Stp (gNoPart σ G QO) (QO none G) := ⟨fun q => i_noPart q⟩
instance s_part {QO : Option Int → GH → Prop} : Stp (gPart a σ G QO) (a σ G fun x G1 => ∃ i, x = .int i ∧ QO (some i) G1) := ⟨fun q => i_part q⟩
instance s_test : Stp (gTest a σ G QT') (a σ G fun x G1 => ∃ k, x = .bl k ∧ QT' k G1) := ⟨fun q => i_test q⟩
instance s_tru : Stp (gTru a σ G QT') (a σ G fun x G1 => ∃ k, truG x G1 k ∧ QT' k G1) := ⟨fun q => i_tru q⟩
instance s_and : Stp (gAnd tt tu σ G QT') (tt σ G fun c G1 => if c = true then tu σ G1 QT' else QT' false G1) := ⟨fun q => i_and q⟩
instance s_or : Stp (gOr tt tu σ G QT') (tt σ G fun c G1 => if c = true then QT' true G1 else tu σ G1 QT') := ⟨fun q => i_or q⟩
instance s_not : Stp (gNot tt σ G QT') (tt σ G fun c G1 => QT' (!c) G1) := ⟨fun q => i_not q⟩
instance s_next : Stp (gNext D0 σ G) (D0.nx σ G) := ⟨fun q => i_next q⟩
instance s_seq : Stp (gSeq t u D0 σ G) (t { D0 with nx := u D0 } σ G) := ⟨fun q => i_seq q⟩
instance s_if : Stp (gIf tt t u D0 σ G) (tt σ G fun b G1 => if b = true then t D0 σ G1 else u D0 σ G1) := ⟨fun q => i_if q⟩
instance s_drop : Stp (gDrop a D0 σ G) (a σ G fun _ G1 => D0.nx σ G1) := ⟨fun q => i_drop q⟩
instance s_ret : Stp (gRet a D0 σ G) (a σ G D0.rt) := ⟨fun q => i_ret q⟩
instance s_retN : Stp (gRetN D0 σ G) (D0.rt .non G) := ⟨fun q => i_retN q⟩
instance s_break : Stp (gBreak D0 σ G) (D0.bk σ G) := ⟨fun q => i_break q⟩
instance s_asg {tg : GG} : Stp (gAsg a tg D0 σ G) (a σ G fun x G1 => tg x σ G1 D0.nx) := ⟨fun q => i_asg q⟩
instance s_setF {f : Fd} : Stp (gSetF m a b f D0 σ G) (b σ G fun d G1 => a σ G1 fun x G2 => ∃ p, x = .ref p ∧ fsetG m (G2 p) f d fun o => D0.nx σ (G2.set p o)) := ⟨fun q => i_setF q⟩
instance s_put : Stp (gPut a b c D0 σ G) (a σ G fun d G1 => b σ G1 fun x G2 => c σ G2 fun i G3 => ∃ p, x = .ref p ∧ setG (G3 p) i d fun o => D0.nx σ (G3.set p o)) := ⟨fun q => i_put q⟩
instance s_for {it : GI} {tg : GG} : Stp (gFor it tg t D0 σ G) (it σ G fun ds ok G1 => gTurns D0 tg t ds ok σ G1) := ⟨fun q => i_for q⟩
instance s_rng {QI' : List D → (GH → Prop) → GH → Prop} : Stp (gRng1 ga σ G QI') (ga σ G fun ds G1 => ∃ j : Int, ds = [.int j] ∧ -(2 ^ 62) ≤ j ∧ j < 2 ^ 62 ∧ QI' ((List.range j.toNat).map fun i : Nat => D.int (i : Int)) yes G1) := ⟨fun q => i_rng q⟩
instance s_iter {QI' : List D → (GH → Prop) → GH → Prop} : Stp (gIter a σ G QI') (a σ G fun x G1 => itE x G1 QI') := ⟨fun q => i_iter q⟩
instance s_lc {it : GI} {tg : GG} {vs : List Nat} : Stp (gLc it tg tt a vs σ G Q) (it σ G fun ds ok G1 => ∀ p, G1 p = none → ok (G1.set p (.lst [])) ∧ gLcL p tg tt a (wipeG σ vs) (fun G2 => Q (.ref p) G2) ds ok (G1.set p (.lst []))) := ⟨fun q => i_lc q⟩
instance s_addI : Stp (gAdd (.int j) (.int k) G Q) (Q (.int (j + k)) G) := ⟨fun q => i_addI q⟩
instance s_sub : Stp (gSub (.int j) (.int k) G Q) (Q (.int (j - k)) G) := ⟨fun q => i_sub q⟩
instance s_lt : Stp (gLt (.int j) (.int k) G Q) (Q (.bl (decide (j < k))) G) := ⟨fun q => i_lt q⟩
instance s_le : Stp (gLe (.int j) (.int k) G Q) (Q (.bl (decide (j ≤ k))) G) := ⟨fun q => i_le q⟩
instance s_gt : Stp (gGt (.int j) (.int k) G Q) (Q (.bl (decide (k < j))) G) := ⟨fun q => i_gt q⟩
instance s_ge : Stp (gGe (.int j) (.int k) G Q) (Q (.bl (decide (k ≤ j))) G) := ⟨fun q => i_ge q⟩
instance s_eqI : Stp (gEq false (.int j) (.int k) G Q) (Q (.bl (decide (j = k))) G) := ⟨fun q => i_eqI q⟩
instance s_neI : Stp (gEq true (.int j) (.int k) G Q) (Q (.bl (!decide (j = k))) G) := ⟨fun q => i_neI q⟩
instance s_neB {j k : Bool} : Stp (gEq true (.bl j) (.bl k) G Q) (Q (.bl (!decide (j = k))) G) := ⟨fun q => i_neB q⟩
instance s_isB {j k : Bool} : Stp (gIs false (.bl j) (.bl k) G Q) (Q (.bl (decide (j = k))) G) := ⟨fun q => i_isB q⟩
instance s_isntB {j k : Bool} : Stp (gIs true (.bl j) (.bl k) G Q) (Q (.bl (!decide (j = k))) G) := ⟨fun q => i_isntB q⟩
instance s_lenT : Stp (bLen [.tup ds] G Q) (Q (.int ds.length) G) := ⟨fun q => i_lenT q⟩
instance s_abs : Stp (bAbs [.int j] G Q) (Q (.int (if j < 0 then -j else j)) G) := ⟨fun q => i_abs q⟩
instance s_int : Stp (bInt [.int j] G Q) (Q (.int j) G) := ⟨fun q => i_int q⟩
instance s_max : Stp (bMax [.int j, .int k] G Q) (Q (.int (if k > j then k else j)) G) := ⟨fun q => i_max q⟩
instance s_min : Stp (bMin [.int j, .int k] G Q) (Q (.int (if k < j then k else j)) G) := ⟨fun q => i_min q⟩
instance s_var [h : Slot σ i d] : Stp (gVar i σ G Q) (Q d G) := ⟨fun q => i_var h.ok q⟩
instance s_set : Stp (gSet i a D0 σ G) (a σ G fun x G1 => sto σ i x (fun σ2 => D0.nx σ2 G1)) := ⟨fun q => q⟩
instance s_nm {R : GSt → GH → Prop} : Stp (gNm i d σ G R) (sto σ i d (fun σ2 => R σ2 G)) := ⟨fun q => q⟩
instance s_sto {R : GSt → Prop} [h : Stor σ i d σ'] : Stp (sto σ i d R) (R σ') := ⟨fun q => by unfold sto; rw [h.ok]; exact q⟩
instance s_e_ref {P : Addr → Prop} : Stp (∃ q, D.ref p = .ref q ∧ P q) (P p) := ⟨fun q => e_ref q⟩
instance s_e_bl {k : Bool} {P : Bool → Prop} : Stp (∃ j, D.bl k = .bl j ∧ P j) (P k) := ⟨fun q => e_bl q⟩
instance s_e_int {P : Int → Prop} : Stp (∃ j, D.int k = .int j ∧ P j) (P k) := ⟨fun q => e_int q⟩
instance s_e_ints {P : Int → Prop} : Stp (∃ j, [D.int k] = [.int j] ∧ P j) (P k) := ⟨fun q => e_ints q⟩
end
theorem i_while {c : GT} {b : GS} {D0 : GEnds} {σ : GSt} {G : GH} (W : Nat → GSt → GH → Prop) (n0 : Nat) (h0 : W n0 σ G)
    (step : ∀ n σ G, W n σ G → c σ G fun k G1 => if k = true then b { nx := fun σ' G' => ∃ m', m' < n ∧ W m' σ' G', ct := fun σ' G' => ∃ m', m' < n ∧ W m' σ' G', rt := D0.rt, bk := D0.nx } σ G1 else D0.nx σ G1) : gWhile c b D0 σ G := by
  exact ⟨W, ⟨n0, h0⟩, step⟩
instance s_iff {A B : Prop} : Stp (if false = true then A else B) B := ⟨fun h => by rw [if_neg (by decide)]; exact h⟩
instance s_ift {A B : Prop} : Stp (if true = true then A else B) A := ⟨fun h => by rw [if_pos rfl]; exact h⟩
instance s_ifnt {A B : Prop} : Stp (if (!true) = true then A else B) B := ⟨fun h => by rw [if_neg (by decide)]; exact h⟩
instance s_ifnf {A B : Prop} : Stp (if (!false) = true then A else B) A := ⟨fun h => by rw [if_pos (by rfl)]; exact h⟩
instance s_ifS {A B : Prop} {α : Type} {z : α} : Stp (if (some z).isSome = true then A else B) A := ⟨fun h => by rw [if_pos (by rfl)]; exact h⟩
instance s_ifN {A B : Prop} {α : Type} : Stp (if (none : Option α).isSome = true then A else B) B := ⟨fun h => by rw [if_neg (by intro z; cases z)]; exact h⟩
instance s_ifnS {A B : Prop} {α : Type} {z : α} : Stp (if (!(some z).isSome) = true then A else B) B := ⟨fun h => by rw [if_neg (by intro z; cases z)]; exact h⟩
instance s_ifnN {A B : Prop} {α : Type} : Stp (if (!(none : Option α).isSome) = true then A else B) A := ⟨fun h => by rw [if_pos (by rfl)]; exact h⟩
instance s_bnx {Q : GQ} {σ : GSt} {G : GH} : Stp ((bodyEnds Q).nx σ G) (Q .non G) := ⟨id⟩
instance s_brt {Q : GQ} {d : D} {G : GH} : Stp ((bodyEnds Q).rt d G) (Q d G) := ⟨id⟩
instance s_itT {ds : List D} {G : GH} {R : List D → (GH → Prop) → GH → Prop} : Stp (itE (.tup ds) G R) (R ds yes G) := ⟨fun h => ⟨ds, rfl, h⟩⟩
instance s_itR {ds : List D} {G : GH} {R : List D → (GH → Prop) → GH → Prop} : Stp (itE (.ro ds) G R) (R ds yes G) := ⟨fun h => ⟨ds, rfl, h⟩⟩
theorem i_itL {p : Addr} {ds : List D} {G : GH} {R : List D → (GH → Prop) → GH → Prop} (hg : G p = some (.lst ds)) (h : R ds (fun G => G p = some (.lst ds)) G) : itE (.ref p) G R := ⟨ds, by unfold itemsG; simp only [hg], h⟩
theorem i_turns {E : GEnds} {g : GG} {b : GS} {ds : List D} {ok : GH → Prop} {σ : GSt} {G : GH} (W : Nat → GSt → GH → Prop) (h0 : W 0 σ G)
    (step : ∀ i d σ G, ds[i]? = some d → ok G → W i σ G → g d σ G fun σ1 G1 => b { nx := fun σ2 G2 => ok G2 ∧ W (i + 1) σ2 G2, ct := fun σ2 G2 => ok G2 ∧ W (i + 1) σ2 G2, rt := E.rt, bk := E.nx } σ1 G1)
    (fin : ∀ σ G, ok G → W ds.length σ G → E.nx σ G) : gTurns E g b ds ok σ G := ⟨W, h0, step, fin⟩
theorem i_lcl {p : Addr} {g : GG} {t : GT} {e : GE} {σ : GSt} {Q : GH → Prop} {ds : List D} {ok : GH → Prop} {G : GH} (W : Nat → List D → GH → Prop) (h0 : W 0 [] G)
    (step : ∀ i d acc G, ds[i]? = some d → ok G → G p = some (.lst acc) → W i acc G → g d σ G fun σ1 G1 => t σ1 G1 fun b G2 => if b = true then e σ1 G2 fun y G3 => G3 p = some (.lst acc) ∧ acc.length < lim ∧ ok (G3.set p (.lst (acc ++ [y]))) ∧ W (i + 1) (acc ++ [y]) (G3.set p (.lst (acc ++ [y])))
      else G2 p = some (.lst acc) ∧ ok G2 ∧ W (i + 1) acc G2)
    (fin : ∀ acc G, ok G → G p = some (.lst acc) → W ds.length acc G → Q G) : gLcL p g t e σ Q ds ok G := ⟨W, h0, step, fin⟩
instance s_yes {σ : GSt} {G : GH} {QT' : Bool → GH → Prop} : Stp (gYes σ G QT') (QT' true G) := ⟨id⟩
instance s_len0 {P : Prop} : Stp (([] : List D).length ≤ lim ∧ P) P := ⟨fun h => ⟨by show 0 ≤ 100000; decide, h⟩⟩
instance s_len1 {P : Prop} {x0 : D} : Stp (([x0] : List D).length ≤ lim ∧ P) P := ⟨fun h => ⟨by show 1 ≤ 100000; decide, h⟩⟩
instance s_len2 {P : Prop} {x0 : D} {x1 : D} : Stp (([x0, x1] : List D).length ≤ lim ∧ P) P := ⟨fun h => ⟨by show 2 ≤ 100000; decide, h⟩⟩
instance s_len3 {P : Prop} {x0 : D} {x1 : D} {x2 : D} : Stp (([x0, x1, x2] : List D).length ≤ lim ∧ P) P := ⟨fun h => ⟨by show 3 ≤ 100000; decide, h⟩⟩
instance s_len4 {P : Prop} {x0 : D} {x1 : D} {x2 : D} {x3 : D} : Stp (([x0, x1, x2, x3] : List D).length ≤ lim ∧ P) P := ⟨fun h => ⟨by show 4 ≤ 100000; decide, h⟩⟩
instance s_len5 {P : Prop} {x0 : D} {x1 : D} {x2 : D} {x3 : D} {x4 : D} : Stp (([x0, x1, x2, x3, x4] : List D).length ≤ lim ∧ P) P := ⟨fun h => ⟨by show 5 ≤ 100000; decide, h⟩⟩
instance s_len6 {P : Prop} {x0 : D} {x1 : D} {x2 : D} {x3 : D} {x4 : D} {x5 : D} : Stp (([x0, x1, x2, x3, x4, x5] : List D).length ≤ lim ∧ P) P := ⟨fun h => ⟨by show 6 ≤ 100000; decide, h⟩⟩
instance s_len7 {P : Prop} {x0 : D} {x1 : D} {x2 : D} {x3 : D} {x4 : D} {x5 : D} {x6 : D} : Stp (([x0, x1, x2, x3, x4, x5, x6] : List D).length ≤ lim ∧ P) P := ⟨fun h => ⟨by show 7 ≤ 100000; decide, h⟩⟩
instance s_len8 {P : Prop} {x0 : D} {x1 : D} {x2 : D} {x3 : D} {x4 : D} {x5 : D} {x6 : D} {x7 : D} : Stp (([x0, x1, x2, x3, x4, x5, x6, x7] : List D).length ≤ lim ∧ P) P := ⟨fun h => ⟨by show 8 ≤ 100000; decide, h⟩⟩
instance s_len9 {P : Prop} {x0 : D} {x1 : D} {x2 : D} {x3 : D} {x4 : D} {x5 : D} {x6 : D} {x7 : D} {x8 : D} : Stp (([x0, x1, x2, x3, x4, x5, x6, x7, x8] : List D).length ≤ lim ∧ P) P := ⟨fun h => ⟨by show 9 ≤ 100000; decide, h⟩⟩
instance s_pnx {n : GSt → GH → Prop} {rt : GQ} {bk ct : GSt → GH → Prop} {σ : GSt} {G : GH} : Stp (GEnds.nx ⟨n, rt, bk, ct⟩ σ G) (n σ G) := ⟨id⟩
instance s_prt {n : GSt → GH → Prop} {rt : GQ} {bk ct : GSt → GH → Prop} {d : D} {G : GH} : Stp (GEnds.rt ⟨n, rt, bk, ct⟩ d G) (rt d G) := ⟨id⟩
theorem go {P R : Prop} [h : Go P R] (q : R) : P := h.ok q
end Cz

/-! Names of rules, as the printed walks use them. -/
namespace Cz
open PySem PySem.Spec PyProof.Rows L2
section
variable {m : Gm} {X : Cx} {p pos : Pos} {e : Expr} {es : List Expr} {ga : GA}
theorem w_len (hg : Gl X "len") (hm : X.mg "len" = none) (ha : QA m X (e :: es) ga)
    (he : starEach (e :: es) X.env = (false, eval e X.env) :: starEach es X.env := by rfl) (hpl : (backTo pos (starEach es X.env)).any (·.1) = false := by rfl) : QE m X (.Call (.Name "len" p) (e :: es) [] pos) (gCall bLen ga) :=
  q_callB (call_len_seq.or (call_lenD.or call_lenN)) says_len hg hm boot_len ha (he := he) (hpl := hpl)
theorem w_abs (hg : Gl X "abs") (hm : X.mg "abs" = none) (ha : QA m X (e :: es) ga)
    (he : starEach (e :: es) X.env = (false, eval e X.env) :: starEach es X.env := by rfl) (hpl : (backTo pos (starEach es X.env)).any (·.1) = false := by rfl) : QE m X (.Call (.Name "abs" p) (e :: es) [] pos) (gCall bAbs ga) :=
  q_callB call_abs says_abs hg hm boot_abs ha (he := he) (hpl := hpl)
theorem w_int (hg : Gl X "int") (hm : X.mg "int" = none) (ha : QA m X (e :: es) ga)
    (he : starEach (e :: es) X.env = (false, eval e X.env) :: starEach es X.env := by rfl) (hpl : (backTo pos (starEach es X.env)).any (·.1) = false := by rfl) : QE m X (.Call (.Name "int" p) (e :: es) [] pos) (gCall bInt ga) :=
  q_callT call_int1 says_int1 hg hm PyProof.Rows.boot_int ha (he := he) (hpl := hpl)
theorem w_max (hc : X.calm = true) (hg : Gl X "max") (hm : X.mg "max" = none) (ha : QA m X (e :: es) ga)
    (he : starEach (e :: es) X.env = (false, eval e X.env) :: starEach es X.env := by rfl) (hpl : (backTo pos (starEach es X.env)).any (·.1) = false := by rfl) : QE m X (.Call (.Name "max" p) (e :: es) [] pos) (gCall bMax ga) :=
  q_callB (call_max2 hc) says_max hg hm boot_max ha (he := he) (hpl := hpl)
theorem w_min (hc : X.calm = true) (hg : Gl X "min") (hm : X.mg "min" = none) (ha : QA m X (e :: es) ga)
    (he : starEach (e :: es) X.env = (false, eval e X.env) :: starEach es X.env := by rfl) (hpl : (backTo pos (starEach es X.env)).any (·.1) = false := by rfl) : QE m X (.Call (.Name "min" p) (e :: es) [] pos) (gCall bMin ga) :=
  q_callB (call_min2 hc) says_min hg hm boot_min ha (he := he) (hpl := hpl)
theorem w_list (hg : Gl X "list") (hm : X.mg "list" = none) (ha : QA m X (e :: es) ga)
    (he : starEach (e :: es) X.env = (false, eval e X.env) :: starEach es X.env := by rfl) (hpl : (backTo pos (starEach es X.env)).any (·.1) = false := by rfl) : QE m X (.Call (.Name "list" p) (e :: es) [] pos) (gCall bList ga) :=
  q_callT call_list_of says_list hg hm PyProof.Rows.boot_list ha (he := he) (hpl := hpl)
theorem w_tuple (hg : Gl X "tuple") (hm : X.mg "tuple" = none) (ha : QA m X (e :: es) ga)
    (he : starEach (e :: es) X.env = (false, eval e X.env) :: starEach es X.env := by rfl) (hpl : (backTo pos (starEach es X.env)).any (·.1) = false := by rfl) : QE m X (.Call (.Name "tuple" p) (e :: es) [] pos) (gCall bTup ga) :=
  q_callT call_tuple_of says_tup hg hm PyProof.Rows.boot_tuple ha (he := he) (hpl := hpl)
theorem w_dict (hg : Gl X "dict") (hm : X.mg "dict" = none) (ha : QA m X (e :: es) ga)
    (he : starEach (e :: es) X.env = (false, eval e X.env) :: starEach es X.env := by rfl) (hpl : (backTo pos (starEach es X.env)).any (·.1) = false := by rfl) : QE m X (.Call (.Name "dict" p) (e :: es) [] pos) (gCall bDict ga) :=
  q_callT call_dictC says_dict hg hm PyProof.Rows.boot_dict ha (he := he) (hpl := hpl)
theorem w_sum (hc : X.calm = true) (hg : Gl X "sum") (hm : X.mg "sum" = none) (ha : QA m X (e :: es) ga)
    (he : starEach (e :: es) X.env = (false, eval e X.env) :: starEach es X.env := by rfl) (hpl : (backTo pos (starEach es X.env)).any (·.1) = false := by rfl) : QE m X (.Call (.Name "sum" p) (e :: es) [] pos) (gCall bSum ga) :=
  q_callB (cr_sum hc) says_sum hg hm (by decide +kernel) ha (he := he) (hpl := hpl)
theorem w_sortI (hg : Gl X "sorted") (hm : X.mg "sorted" = none) (ha : QA m X (e :: es) ga)
    (he : starEach (e :: es) X.env = (false, eval e X.env) :: starEach es X.env := by rfl) (hpl : (backTo pos (starEach es X.env)).any (·.1) = false := by rfl) : QE m X (.Call (.Name "sorted" p) (e :: es) [] pos) (gCall bSortI ga) :=
  q_callB cr_sortedI says_sortI hg hm PyProof.Rows.boot_sorted ha (he := he) (hpl := hpl)
theorem w_isi (hg : Gl X "isinstance") (hm : X.mg "isinstance" = none) (ha : QA m X (e :: es) ga)
    (he : starEach (e :: es) X.env = (false, eval e X.env) :: starEach es X.env := by rfl) (hpl : (backTo pos (starEach es X.env)).any (·.1) = false := by rfl) : QE m X (.Call (.Name "isinstance" p) (e :: es) [] pos) (gCall bIsi ga) :=
  q_callB call_isi says_isi hg hm boot_isinstance ha (he := he) (hpl := hpl)
theorem v (i : Nat) {x : Str} {pos : Pos} (hN : X.N[i]? = some x := by rfl) (hv : Vis X.env.scope x := by first | exact Or.inl rfl | exact Or.inr (Or.inl rfl) | exact Or.inr (Or.inr rfl)) (hd : (x == ("__debug__" : Str)) = false := by decide)
    (hcd : (x == ("__classdict__" : Str)) = false := by decide) : QE m X (.Name x pos) (gVar i) := q_var i (pe_var hN hv hd hcd)
theorem ix (hu : X.A.units + 65 < cLine) {a b : Expr} {ga gb : GE} (ha : QE m X a ga) (hb : QE m X b gb) (hs : PlainIx b := by intro _ _; rfl) : QE m X (.Subscript a b pos) (gBin gIx ga gb) := q_ix (by omega) ha hb hs
theorem get2 (hu : X.A.units + 65 < cLine) {o e f : Expr} {apos cpos : Pos} {go ge gf : GE} (ho : QE m X o go) (he : QE m X e ge) (hf : QE m X f gf)
    (base : attributeBase o "get" X.env (eval o X.env) = eval o X.env := by rfl)
    (few : ((backTo cpos (starEach [e, f] X.env)).all (fun x => !x.1) && (backToKw cpos (keywordEach [] X.env)).all (fun x => x.1.isSome)
      && decide (([e, f] : List Expr).length + ([] : List Keyword).length + (if ([] : List Keyword).isEmpty then 0 else 1) < 30)) = true := by rfl)
    (line : (apos.endLine == cpos.line) = true := by rfl)
    (trees : backTo cpos (starEach [e, f] X.env) = [(false, eval e X.env), (false, eval f X.env)] := by rfl) : QE m X (.Call (.Attribute o "get" apos) [e, f] [] cpos) (gGet go ge gf) := q_get2 (by omega) ho he hf ⟨base, few, line, trees⟩
end
theorem hu65 {k : Nat} {A : Around} (r : Room k A) : A.units + 65 < cLine := by have := r.un; omega
theorem hu64 {n : Nat} (h : n + 65 < cLine) : n + 64 < cLine := by omega
end Cz

/-! sorted: of lists and dicts, any length; with a lambda for the key. -/
namespace Cz
open PySem PySem.Spec PyProof.Rows L2
section
variable {prog : Program} {w : World} {A : Around} {s : Shared} {Q : Value → Shared → Prop} {E : Value → Shared → Prop}
/-- sorted(u, ..): the items are collected, a new list of them is sorted -/
theorem sorted_split {u : Value} {kw : List (Str × Value)} (ha1 : argsOk "sorted" ⟨[u], kw⟩)
    (h : wpAny (model prog w) A.in1 (collect u) (fun vs s1 => vs.length ≤ sizeLine ∧ wpAny (model prog w) A.in1 (call (.builtin "list.sort") [.ref s1.heap.objs.size] kw) (fun v s2 => Q (.ref s1.heap.objs.size) s2) E { s1 with heap := s1.heap.push (PyProof.Rows.seqObj "list" vs.toArray 0) }) E s) :
    wpAny (model prog w) A (call (.builtin "sorted") [u] kw) Q E s := by
  refine PyProof.Rows.call_function_entry_kw PyProof.Rows.kind_sorted PyProof.Rows.plain_sorted PyProof.Rows.entry_sorted ha1 ?_
  unfold Builtin.«sorted»
  refine wpAny_bind (m := checkCount "sorted" 1 1 _) (wpAny_pure ?_)
  refine wpAny_bind (thn h fun vs s1 ⟨hl, h1⟩ => ?_)
  refine wpAny_bind (wpAny_newList ?_ hl)
  exact wpAny_bind (wpAny_holding (thn h1 fun v s2 q => wpAny_pure ⟨_, rfl, q⟩))
end
/-! ### what is collected -/
/-- the items of a list or a tuple, the keys of a dict -/
def keysG (x : D) (G : GH) : Option (List D) := match x with
  | .ref a => (match G a with
    | some (.lst ds) => some ds
    | some (.dct _ kvs) => some (kvs.map (·.1))
    | _ => none)
  | _ => none
theorem pts {K : PySem.W.Frag} {H : Hp} : ∀ {ks : List D} {us : List Value}, ks.length = us.length → (∀ (j : Nat) (d : D) (u : Value), ks[j]? = some d → us[j]? = some u → ∃ v, Dat K H d v ∧ RelV v u) → ∃ vs, All2 (Dat K H) ks vs ∧ Vals vs us
  | [], [], _, _ => ⟨[], .nil, .nil⟩
  | [], _ :: _, h, _ => by simp at h
  | _ :: _, [], h, _ => by simp at h
  | d :: ks, u :: us, h, f => by
    obtain ⟨v, h1, h2⟩ := f 0 d u rfl rfl
    obtain ⟨vs, t1, t2⟩ := pts (ks := ks) (us := us) (by simpa using h) fun j d u e1 e2 => f (j + 1) d u (by simpa using e1) (by simpa using e2)
    exact ⟨v :: vs, .cons h1 t1, .cons h2 t2⟩
section
variable {m : Gm} {X : Cx} {pins : List (Addr × Obj)} {τ : L2.St} {H : Hp} {G : GH} {s : Shared}
theorem collect_at {x : D} {v : V} {u : Value} {ks : List D} {A : Around} {E : Value → Shared → Prop} {Q : List Value → Shared → Prop} (hA : A.handled = none) (I : Inv X pins τ H s) (C : Cp m X H G) (hx : Dat X.K H x v) (rx : RelV v u) (hk : keysG x G = some ks)
    (q : ∀ vs us s1, Inv X pins τ H s1 → (∀ b o, s.heap.get? b = some o → s1.heap.get? b = some o) → All2 (Dat X.K H) ks vs → Vals vs us → us.length ≤ sizeLine → Q us s1) : wpAny (model X.prog X.w) A (collect u) Q E s := by
  cases x with
  | ref a =>
    have ev := dat_ref.mp hx
    subst ev
    obtain rfl : u = Value.ref a := rx
    cases hg : G a with
    | none => simp [keysG, hg] at hk
    | some o =>
      cases o with
      | lst ds =>
        have e : ds = ks := by simpa [keysG, hg] using hk
        subst e
        obtain ⟨vs, ha, t⟩ := C a _ hg
        obtain ⟨its, rv, p, hz⟩ := I.list (SqL.of ha)
        have hl := rv.length
        refine PyProof.Rows.collect_list (s := s) (vs := its) p.isList ?_ (by rw [← hl]; exact hz)
        have kp : ∀ b o, s.heap.get? b = some o → ((s.heap.push (PyProof.Rows.seqObj "list" #[] 0)).update s.heap.objs.size (Obj.mapSeq (· ++ its.toArray))).get? b = some o := fun b o e => by
          rw [Heap.get?_update_ne _ _ _ _ (Nat.ne_of_lt (Heap.lt_size e))]
          exact Heap.get?_push_of_some _ e
        exact q vs its _ (I.kept (t' := s.toks) kp) kp t rv (by rw [← hl]; exact hz)
      | dct kd kvs =>
        have e : kvs.map (·.1) = ks := by simpa [keysG, hg] using hk
        subst e
        cases kd with
        | ik =>
          obtain ⟨hs, ha, t⟩ := C a _ hg
          obtain ⟨z, lo, vs, rel, dd⟩ := dk_of I.hok ha
          obtain ⟨ep, hat⟩ := dd.dictAt
          have l1 := t.length
          have l2 : hs.length = vs.length := Paired.length rel
          refine PySem.W.kdu_collect (A := A) (PySem.W.kdl_dict (knd := mixKind X.prog X.w) (kvs := vs) (ep := ep) lo) hA hat (by rw [← l2]; exact z) fun h' tk acc kp hacc => ?_
          have hl : acc.toList.length = vs.length := by rw [Array.length_toList]; exact hacc.1
          obtain ⟨ws, t1, t2⟩ := pts (K := X.K) (H := H) (ks := kvs.map (·.1)) (us := acc.toList) (by rw [List.length_map, hl, ← l2, l1]) fun j d w e1 e2 => by
            obtain ⟨k, y, hky, hi⟩ := hacc.2 j w (by rw [← Array.getElem?_toList]; exact e2)
            rw [List.getElem?_map] at e1
            obtain ⟨p, hp, rfl⟩ := Option.map_eq_some_iff.mp e1
            obtain ⟨q, hq, rl⟩ := t.get hp
            have e3 : (hs.map (·.1))[j]? = some k := by rw [KV.keys rel, List.getElem?_map, hky]; rfl
            rw [List.getElem?_map, hq] at e3
            have e4 : q.1 = k := by simpa using e3
            refine ⟨kV k, ?_, keyIs_rel hi⟩
            rw [rl.1, e4]
            cases k with
            | inl i => exact dI i
            | inr x => exact dat_str.mpr rfl
          exact q ws acc.toList _ (I.kept kp) kp t1 t2 (by rw [hl, ← l2]; exact z)
        | nk =>
          obtain ⟨xs, ha, hsys, hz, t, nd, dd⟩ := nk_at I C hg
          obtain ⟨o, es, ep, ho, hx2, hdt, he, hi, hn⟩ := dd
          have l1 := t.length
          have l2 : es.size = xs.length := by
            have := congrArg List.length he
            rwa [Array.length_toList, List.length_map] at this
          refine PySem.W.kdu_collect (A := A) (kdl_raw hsys hx2 hdt) hA ho (by rw [l2, ← l1]; exact hz) fun h' tk acc kp hacc => ?_
          have hl : acc.toList.length = es.size := by rw [Array.length_toList]; exact hacc.1
          obtain ⟨ws, t1, t2⟩ := pts (K := X.K) (H := H) (ks := kvs.map (·.1)) (us := acc.toList) (by rw [List.length_map, hl, l2, l1]) fun j d w e1 e2 => by
            obtain ⟨en, hen, ew⟩ := hacc.2 j w (by rw [← Array.getElem?_toList]; exact e2)
            rw [List.getElem?_map] at e1
            obtain ⟨p, hp, rfl⟩ := Option.map_eq_some_iff.mp e1
            obtain ⟨q, hq, rl⟩ := t.get hp
            have e3 : es.toList[j]? = some en := by rw [Array.getElem?_toList]; exact hen
            rw [he, List.getElem?_map, hq] at e3
            have e4 : en.key = .ref q.2.1 := by
              have := Option.some.inj e3
              rw [← this]
              rfl
            exact ⟨.ref q.2.1, rl.2.2.2.1, by rw [ew, e4]; rfl⟩
          exact q ws acc.toList _ (I.kept kp) kp t1 t2 (by rw [hl, l2, ← l1]; exact hz)
      | _ => simp [keysG, hg] at hk
  | _ => simp [keysG] at hk
end
/-! ### plain data as it is read -/
section
variable {h : Heap}
mutual
theorem reads_nil : ∀ (d : D) (u : Value) (as : List Addr), d.plain = true → Reads h u (py d) as → as = []
  | .non, _, _, _, r => by unfold py at r; cases r; rfl
  | .bl _, _, _, _, r => by unfold py at r; cases r; rfl
  | .int _, _, _, _, r => by unfold py at r; cases r; rfl
  | .str _, _, _, _, r => by unfold py at r; cases r; rfl
  | .tup ds, _, _, p, r => by
    rw [D.plain] at p
    unfold py at r
    cases r with
    | tuple h1 h2 h3 h4 => exact readsAll_nil ds _ _ p h4
  | .ty _, _, _, p, _ => by simp [D.plain] at p
  | .ref _, _, _, p, _ => by simp [D.plain] at p
  | .ro _, _, _, p, _ => by simp [D.plain] at p
theorem readsAll_nil : ∀ (ds : List D) (us : List Value) (as : List Addr), plains ds = true → ReadsAll h us (pys ds) as → as = []
  | [], _, _, _, r => by unfold pys at r; cases r; rfl
  | d :: ds, _, _, p, r => by
    rw [plains, Bool.and_eq_true] at p
    unfold pys at r
    cases r with
    | cons h1 h2 => rw [reads_nil d _ _ p.1 h1, readsAll_nil ds _ _ p.2 h2]; rfl
end
end
section
variable {X : Cx} {pins : List (Addr × Obj)} {τ : L2.St} {H : Hp} {s : Shared}
theorem reads_at (I : Inv X pins τ H s) {d : D} {v : V} {u : Value} (p : d.plain = true) (hd : Dat X.K H d v) (r : RelV v u) : Reads s.heap u (py d) [] := by
  obtain ⟨as, h⟩ := Dp.reads I (py d) v u (dp_py X.K d v p hd) r
  rw [reads_nil d u as p h] at h
  exact h
/-- a parameter that holds an object -/
theorem var_at {i : Nat} {x : Str} {pos : Pos} {a : Addr} {E Q : Value → Shared → Prop} (I : Inv X pins τ H s) (hN : X.N[i]? = some x) (hτ : τ[i]? = some (some (.ref a))) (hv : X.env.scope.names.lookup x = some .local) (hd : (x == ("__debug__" : Str)) = false) (q : Q (.ref a) s) :
    wpAny (model X.prog X.w) X.A (eval (.Name x pos) X.env) Q E s := by
  obtain ⟨m, hn, hl⟩ := I.loc
  obtain ⟨u, r, l⟩ := hl i x _ hN hτ (.inl hv)
  obtain rfl : u = Value.ref a := r
  rcases l with ⟨hk, hm⟩ | ⟨hk, _⟩
  · exact wpAny_Name (wpAny_loadName_local I.ok.kind hk hn hm q) hd
  · have hk2 : X.env.scope.names.lookup x = some .cell ∨ X.env.scope.names.lookup x = some .free := hk
    rw [hv] at hk2
    rcases hk2 with z | z <;> cases z
end

/-! ### the lambda's key: (len(x), x) or (-len(x), x) -/
def lamLen (p1 p2 p3 : Pos) (x : Str) : Expr := .Call (.Name "len" p1) [.Name x p2] [] p3
def lamBody (neg : Bool) (p1 p2 p3 p4 p5 p6 : Pos) (k : Nat) (x : Str) : Expr := .Tuple [if neg then .UnaryOp .USub (lamLen p1 p2 p3 x) p4 else lamLen p1 p2 p3 x, .Name x p5] k p6
def keyD' (neg : Bool) (d : D) : PyData := match d with
  | .tup ds => .tuple [.int (if neg then -(ds.length : Int) else ds.length), py d]
  | _ => .none
def oneArg (x : Str) (px : Pos) : Arguments := { posonlyargs := [], args := [{ arg := x, annotation := none, pos := px }], vararg := none, kwonlyargs := [], kw_defaults := [], kwarg := none, defaults := [] }
section
variable {X : Cx} {pins : List (Addr × Obj)} {τ : L2.St} {H : Hp} {s : Shared}
theorem lam_eval {neg : Bool} {p1 p2 p3 p4 p5 p6 : Pos} {k : Nat} {a : Addr} {vs : List V} {E Q : Value → Shared → Prop} (J : Inv X pins τ H s) (hN : X.N[0]? = some ("way" : Str)) (hτ : τ[0]? = some (some (.ref a))) (hv : X.env.scope.names.lookup ("way" : Str) = some .local) (hg : Gl X "len") (hm : X.mg "len" = none) (ha : H a = some (.tup vs))
    (fin : ∀ (z : Int) (t : Tok) (tk2 : Nat), z = (if neg then -(vs.length : Int) else vs.length) → Q (.ref s.heap.objs.size) { s with heap := s.heap.push { cls := .type "tuple", data := .seq [Value.int z t, Value.ref a].toArray }, toks := tk2 }) :
    wpAny (model X.prog X.w) X.A (eval (lamBody neg p1 p2 p3 p4 p5 p6 k "way") X.env) Q E s := by
  obtain ⟨its, rv, p, hz⟩ := J.tuple (SqT.of ha)
  have l1 := rv.length
  have hz2 := hz
  rw [sizeLine_eq] at hz2
  have hsz : (its.toArray.size : Int) = vs.length := by rw [List.size_toArray, ← l1]
  have J2 : ∀ tk2, Inv X pins τ H { s with toks := tk2 } := fun tk2 => J.kept (t' := tk2) fun b o e => e
  have ln : ∀ {R : Value → Shared → Prop}, R (.int its.toArray.size (s.toks + 1)) { s with toks := s.toks + 1 + 1 } → wpAny (model X.prog X.w) X.A (eval (lamLen p1 p2 p3 "way") X.env) R E s := fun {R} hR =>
    wpAny_Call_Name_kw (ld_blt J hg hm boot_len (PyProof.Rows.callWith_builtin1 (PyProof.Rows.args_cons (var_at J hN hτ hv (by decide) (PyProof.Rows.args_nil (len_tuple p (by rw [hsz]; omega) hR)))) rfl rfl))
  have two : ∀ (z : Int) (t : Tok) (tk2 : Nat), z = (if neg then -(vs.length : Int) else vs.length) → wpAny (model X.prog X.w) X.A (spliced (backTo p6 (starEach [.Name "way" p5] X.env))) (fun us s1 => (Value.int z t :: us).length ≤ sizeLine ∧ Q (.ref s1.heap.objs.size) { s1 with heap := s1.heap.push { cls := .type "tuple", data := .seq (Value.int z t :: us).toArray } }) E { s with toks := tk2 } := fun z t tk2 ez =>
    PyProof.Rows.args_cons (var_at (J2 tk2) hN hτ hv (by decide) (PyProof.Rows.args_nil ⟨by show 2 ≤ sizeLine; decide, fin z t tk2 ez⟩))
  cases neg with
  | false => exact wpAny_Tuple_spliced (PyProof.Rows.args_cons (ln (two _ _ _ hsz)))
  | true => exact wpAny_Tuple_spliced (PyProof.Rows.args_cons (UnaryOp_ (ln (neg_int (two _ _ _ (by rw [hsz]; rfl))))))
theorem lam_key {neg : Bool} {p1 p2 p3 p4 p5 p6 px : Pos} {k n : Nat} {qual : Str} {scope : Scope} {pm ctv : Value} {f c' : Addr} {A : Around} {d : D} {v : V} {u : Value} (hm : X.mg "len" = none) (hr : Room (n + 1) A) (hfr : A.frames = X.A.frames) (I : Inv X pins τ H s)
    (ho : s.heap.get? f = some (PySem.W.kla_obj "<lambda>" qual (oneArg "way" px) (lamBody neg p1 p2 p3 p4 p5 p6 k "way") scope [] pm c' ctv)) (hc : H c' = some (LamX.CodeO c' qual)) (S : FnScope ["way"] ["way"] scope) (hx : scope.names.lookup ("way" : Str) = some .local) (hl : scope.names.lookup ("len" : Str) = some .globalImplicit)
    (hd : Dat X.K H d v) (hp : d.plain = true) (ht : ∃ ds, d = .tup ds) (ru : RelV v u) : wpAny (model X.prog X.w) A (call (.ref f) [u]) (PySem.W.KeyPure (keyD' neg d) s) (fun _ _ => False) s := by
  obtain ⟨ds, rfl⟩ := ht
  obtain ⟨a, vs, rfl, ha, tt⟩ := dat_tup.mp hd
  obtain rfl : u = Value.ref a := ru
  obtain ⟨⟨oc, cs, ct, e1, e2, e3⟩, _⟩ := I.hok c' _ hc
  refine wpAny_call (PySem.W.kla_callFunE hr.depth ho rfl S.co S.gen rfl ⟨c', oc, cs, ct, rfl, e1, e2, e3⟩ ?_)
  have hb : bindArgs (PySem.W.kla_fn "<lambda>" qual (oneArg "way" px) (lamBody neg p1 p2 p3 p4 p5 p6 k "way") scope [] pm (.ref c') ctv) ⟨[Value.ref a], []⟩ = pure [(("way" : Str), Value.ref a)] := by rfl
  rw [hb]
  refine wpAny_pure (wpAny_newFunctionEnv_cells S.kind (fun y hy => .inl (by rw [List.mem_singleton.mp hy]; exact hx)) fun env he s1 xc => ?_)
  subst he
  have e0 : Env0 X.prog X.w X.K X.mg X.base A X.stack s H := let e := I.env0; ⟨by rw [hfr]; exact e.frames, e.mod, e.bs, e.bsz, e.funs, e.frf, e.hok, e.bare⟩
  have lim : s.heap.NoLimit := e0.mod.nolimit.keeps fun b o e => (e0.bs b o e).1
  refine ⟨lim.keeps xc.toInCall.keep, PySem.W.kla_codeExpr ?_⟩
  have J : Inv (cxOf CX0 X.prog X.w X.K X.mg X.base ["way"] qual scope f (.ref c') A X.stack s H (fun _ _ _ => False)) [] (L2.start ["way"] [.ref a]) H s1 := inv_start S hr.hd e0 rfl (.cons rfl .nil) xc
  obtain ⟨h1, tk, es, hk⟩ := xc.done
  subst es
  refine lam_eval (X := cxOf CX0 X.prog X.w X.K X.mg X.base ["way"] qual scope f (.ref c') A X.stack s H (fun _ _ _ => False)) J rfl rfl hx hl hm ha fun z t tk2 ez => ?_
  refine ⟨_, _, rfl, fun b o e => Heap.get?_push_of_some _ (hk b o e), ?_⟩
  have kk : ∀ b o, h1.get? b = some o → (h1.push { cls := .type "tuple", data := .seq [Value.int z t, Value.ref a].toArray }).get? b = some o := fun b o e => Heap.get?_push_of_some _ e
  have rd := PyProof.Rows.Reads.keeps kk (reads_at J hp hd (show RelV (.ref a) (.ref a) from rfl))
  have ez2 : z = (if neg then -(ds.length : Int) else ds.length) := by rw [ez, tt.length]
  rw [← show PyData.tuple [.int z, py (.tup ds)] = keyD' neg (.tup ds) by rw [ez2]; rfl]
  exact .tuple (Heap.get?_push_size _ rfl) rfl rfl (.cons (as := []) (bs := []) (.int z t) (.cons (as := []) (bs := []) rd .nil))
end
/-! ### sorted with such a key -/
/-- a tuple of ints -/
def TI (d : D) : Prop := ∃ ns : List Int, d = .tup (ns.map .int)
theorem pys_ints : ∀ ns : List Int, pys (ns.map D.int) = ns.map PyData.int
  | [] => by unfold pys; rfl
  | n :: ns => by
    show py (.int n) :: pys (ns.map D.int) = _
    rw [pys_ints ns]
    unfold py
    rfl
theorem TI.plain {d : D} (h : TI d) : d.plain = true := by
  obtain ⟨ns, rfl⟩ := h
  rw [D.plain]
  induction ns with
  | nil => rfl
  | cons n ns ih => rw [List.map_cons, plains, ih]; rfl
theorem TI.key {d : D} (neg : Bool) (h : TI d) : ∃ (z : Int) (ns : List Int), keyD' neg d = .tuple [.int z, .tuple (ns.map .int)] := by
  obtain ⟨ns, rfl⟩ := h
  refine ⟨if neg then -((ns.map D.int).length : Int) else (ns.map D.int).length, ns, ?_⟩
  show PyData.tuple [.int _, py (.tup (ns.map D.int))] = _
  unfold py
  rw [pys_ints]
theorem TI.depth {d : D} (neg : Bool) (h : TI d) : (keyD' neg d).depth ≤ 2 := by
  obtain ⟨z, ns, e⟩ := h.key neg
  rw [e]
  have := PySem.W.depth_ints ns
  simp only [PyData.depth, PyData.depthAll, this]
  omega
theorem ti_alike {neg : Bool} {ks : List D} (h : ∀ d ∈ ks, TI d) : PySem.W.AllAlike (ks.map (keyD' neg)) := by
  intro p hp q hq
  obtain ⟨d, hd, rfl⟩ := List.mem_map.mp hp
  obtain ⟨e, he, rfl⟩ := List.mem_map.mp hq
  obtain ⟨z, ns, e1⟩ := (h d hd).key neg
  obtain ⟨y, ms, e2⟩ := (h e he).key neg
  rw [e1, e2]
  have := PySem.W.alike_ints ns ms
  simp [PySem.W.alike, PySem.W.alikeAll, this]
theorem ti_sortable {neg : Bool} {ks : List D} (h : ∀ d ∈ ks, TI d) : PySem.W.Sortable (ks.map (keyD' neg)) := .inl fun p hp => by
  obtain ⟨d, hd, rfl⟩ := List.mem_map.mp hp
  obtain ⟨z, ns, e⟩ := (h d hd).key neg
  exact ⟨_, _, e⟩
theorem each_of {K : PySem.W.Frag} {H : Hp} : ∀ {ks : List D} {vs : List V} {us : List Value}, All2 (Dat K H) ks vs → Vals vs us → PySem.W.EachIs (fun (u : Value) (d : D) => ∃ y, RelV y u ∧ Dat K H d y) us ks
  | [], _, _, t, rv => by rw [show _ = [] from t] at rv; cases rv; exact .nil
  | d :: ks, _, _, ⟨v, r, e, h, t⟩, rv => by
    subst e
    cases rv with
    | cons r1 r2 => exact .cons ⟨v, r1, h⟩ (each_of t r2)
theorem of_each {K : PySem.W.Frag} {H : Hp} : ∀ {ks : List D} {us : List Value}, PySem.W.EachIs (fun (u : Value) (d : D) => ∃ y, RelV y u ∧ Dat K H d y) us ks → ∃ vs, All2 (Dat K H) ks vs ∧ Vals vs us
  | _, _, .nil => ⟨[], .nil, .nil⟩
  | _, _, .cons ⟨y, r, h⟩ t => let ⟨vs, t1, t2⟩ := of_each t; ⟨y :: vs, .cons h t1, .cons r t2⟩
section
variable {m : Gm} {X : Cx} {pins : List (Addr × Obj)} {τ : L2.St} {H : Hp} {G : GH} {s : Shared}
/-- the new sorted list is laid -/
theorem sorted_laid {s1 : Shared} {ks : List D} {out : List Value} {c tk : Nat} {h' : Heap} {Qh : VK} (I1 : Inv X pins τ H s1) (kp : ∀ b o, s1.heap.get? b = some o → h'.get? b = some o) (hget : h'.get? s1.heap.objs.size = some (PyProof.Rows.seqObj "list" out.toArray c)) (hl : out.length ≤ sizeLine)
    (he : PySem.W.EachIs (fun (u : Value) (d : D) => ∃ y, RelV y u ∧ Dat X.K H d y) out ks) (q : ∀ p vs', H p = none → All2 (Dat X.K H) ks vs' → Qh (.ref p) (upd H p (.lst vs'))) : EP X pins τ Qh (.ref s1.heap.objs.size) { s1 with heap := h', toks := tk } := by
  obtain ⟨vs, t, rv⟩ := of_each he
  have hn := I1.hok.fresh (Nat.le_refl s1.heap.objs.size)
  refine ⟨.ref s1.heap.objs.size, upd H s1.heap.objs.size (.lst vs), I1.laid (t' := tk) kp (Nat.le_refl _) ?_, rfl, q _ vs hn t⟩
  exact ⟨by rw [rv.length]; exact hl, out, c, rv, hget⟩
theorem sortK_call {neg : Bool} {p1 p2 p3 p4 p5 p6 px : Pos} {k : Nat} {qual : Str} {scope : Scope} {pm ctv : Value} {f c' : Addr} {x : D} {v : V} {u : Value} {ks : List D} {Qh : VK} (hm : X.mg "len" = none) (hr : Room 3 X.A) (I : Inv X pins τ H s) (C : Cp m X H G)
    (ho : s.heap.get? f = some (PySem.W.kla_obj "<lambda>" qual (oneArg "way" px) (lamBody neg p1 p2 p3 p4 p5 p6 k "way") scope [] pm c' ctv)) (hc : H c' = some (LamX.CodeO c' qual)) (S : FnScope ["way"] ["way"] scope) (hx : scope.names.lookup ("way" : Str) = some .local) (hl : scope.names.lookup ("len" : Str) = some .globalImplicit)
    (dx : Dat X.K H x v) (rx : RelV v u) (hk : keysG x G = some ks) (hks : ∀ d ∈ ks, TI d) (q : ∀ p vs', H p = none → All2 (Dat X.K H) (ks.mergeSort (PySem.W.dataLe false (keyD' neg))) vs' → Qh (.ref p) (upd H p (.lst vs'))) :
    wpAny (model X.prog X.w) X.A (call (.builtin "sorted") [u] [(Str.ofString "key", .ref f)]) (EP X pins τ Qh) X.xe s := by
  refine sorted_split (PyProof.Rows.ksk_s1 _ _) (collect_at (A := X.A.in1) hr.hd I C dx rx hk fun vs us s1 I1 kp t rv hz => ⟨hz, ?_⟩)
  have hlen : us.length = ks.length := by rw [← rv.length, t.length]
  have hsz : s1.heap.get? s1.heap.objs.size = none := Heap.get?_none_of_le (Nat.le_refl _)
  have up : ∀ {g : Heap}, PySem.W.KeepsBut s1.heap.objs.size (s1.heap.push (PyProof.Rows.seqObj "list" us.toArray 0)) g → ∀ b o, s1.heap.get? b = some o → g.get? b = some o := fun {g} kb b o e => kb b o (Nat.ne_of_lt (Heap.lt_size e)) (Heap.get?_push_of_some _ e)
  refine PySem.W.list_sort_key_data (s := { s1 with heap := s1.heap.push (PyProof.Rows.seqObj "list" us.toArray 0) }) (a := s1.heap.objs.size) (f := .ref f) (b := false) (k := keyD' neg) (R := fun (u : Value) (d : D) => ∃ y, RelV y u ∧ Dat X.K H d y) (bs := ks) (vs := us) (Heap.get?_push_size _ rfl) (each_of t rv) (ti_alike hks) (ti_sortable hks) (by rw [← hlen]; exact hz)
    (fun d hd => ?_) (PyProof.Rows.ksk_l1 _ _) ?_ (fun w d hR hd h tk kb => ?_) fun out c h' tk kb hget hol hE => ?_
  · have h1 := (hks d hd).depth neg
    have h2 := hr.un
    show X.A.units + 1 + 1 + (keyD' neg d).depth < cLine
    omega
  · exact PyProof.Rows.ksk_t1 _ _
  · obtain ⟨y, ry, dy⟩ := hR
    obtain ⟨ns, e⟩ := hks d hd
    have I2 : Inv X pins τ H { s1 with heap := h, toks := tk } := I1.kept (up kb)
    exact lam_key (A := X.A.in1.in1) hm (hr.in1.in1) rfl I2 (up kb _ _ (kp _ _ ho)) hc S hx hl dy (hks d hd).plain ⟨_, e⟩ ry
  · exact sorted_laid I1 (up kb) hget (by rw [hol, ← hlen]; exact hz) hE q
end
theorem clo_nofree {cells : List (Str × Addr)} : ∀ {ns : List (Str × NameKind)} {acc : List (Str × Addr)}, (∀ y ∈ ns, y.2 ≠ .free) → cloFrom cells ns acc = acc
  | [], _, _ => rfl
  | (n, k) :: r, acc, h => by
    have hk : (k == NameKind.free) = false := by
      have := h (n, k) List.mem_cons_self
      cases k <;> simp_all
    unfold cloFrom
    rw [hk]
    exact clo_nofree fun y hy => h y (List.mem_cons_of_mem _ hy)
/-- the code tables of the defs with a lambda are known -/
def TabsG (m : Gm) (G : GH) : Prop := ∀ p ∈ m.tabs, G p.1 = some (.tab p.2)
def gSortK (m : Gm) (neg : Bool) (g : GE) : GE := fun σ G Q => g σ G fun x G1 => ∃ ks, keysG x G1 = some ks ∧ (∀ d ∈ ks, TI d) ∧ TabsG m G1 ∧ ∀ p, G1 p = none → Q (.ref p) (G1.set p (.lst (ks.mergeSort (PySem.W.dataLe false (keyD' neg)))))
/-- what a def with a lambda must know of its code -/
def LamAt (m : Gm) (X : Cx) : Prop := ∃ c P, LamX.TabB X.base X.mg c P ∧ X.env.code = .ref c ∧ (P, X.env.qual ++ "<lambda>") ∈ m.tabs ∧ ∀ p ∈ m.tabs, p.1 = P → p.2 = X.env.qual ++ "<lambda>"
theorem notbl {w : World} {K : PySem.W.Frag} {m : Gm} {H H' : Hp} {a : Addr} {o : GO} (ext : LamX.ExtN H H') (h : GoOk w K m H a o) (ho : ∀ q, o ≠ .tab q) : H' a = H a := by
  cases o with
  | lst ds => obtain ⟨vs, e, _⟩ := h; rw [e]; exact ext _ _ e fun _ z => (nomatch z)
  | dct k kvs => cases k with
    | ik => obtain ⟨vs, e, _⟩ := h; rw [e]; exact ext _ _ e fun _ z => (nomatch z)
    | nk => obtain ⟨vs, e, _⟩ := h; rw [e]; exact ext _ _ e fun _ z => by unfold nkO at z; cases z
  | fdct k kvs => cases k with
    | ik => obtain ⟨ob, vs, e, _⟩ := h; rw [e]; exact ext _ _ e fun _ z => (nomatch z)
    | nk => exact h.elim
  | ins c fs => obtain ⟨dx, gs, e, _⟩ := h; rw [e]; exact ext _ _ e fun _ z => (nomatch z)
  | tab q => exact absurd rfl (ho q)
  | set ns => rw [h.1]; exact ext _ _ h.1 fun _ z => by unfold L2.SetO at z; cases z
section
variable {m : Gm} {X : Cx}
theorem q_sortK {neg : Bool} {e : Expr} {g : GE} {p pos p1 p2 p3 p4 p5 p6 px lpos kpos : Pos} {k : Nat} {scope : Scope} (hg : Gl X "sorted") (hms : X.mg "sorted" = none) (hm : X.mg "len" = none) (hr : Room 3 X.A) (L : LamAt m X) (h : QE m X e g) (S : FnScope ["way"] ["way"] scope)
    (hx : scope.names.lookup ("way" : Str) = some .local) (hl : scope.names.lookup ("len" : Str) = some .globalImplicit)
    (hst : starEach [e] X.env = (false, eval e X.env) :: starEach [] X.env := by rfl) (hbk : backTo pos (starEach [e] X.env) = (false, eval e X.env) :: backTo pos (starEach [] X.env) := by rfl) (hpl : (backTo pos (starEach [e] X.env)).any (·.1) = false := by rfl) :
    QE m X (.Call (.Name "sorted" p) [e] [⟨some "key", .Lambda (oneArg "way" px) (lamBody neg p1 p2 p3 p4 p5 p6 k "way") scope lpos, kpos⟩] pos) (gSortK m neg g) := ⟨fun τ H σ G Q S0 C q => by
  intro pins s I
  obtain ⟨c, P, TB, hcode, hP, hu⟩ := L
  refine wpAny_Call_Name_kw (ld_blt I hg hms PyProof.Rows.boot_sorted ?_)
  refine PyProof.Rows.callWith_kw (PyProof.Rows.args_cons (thn (h.run τ H σ G _ S0 C q pins s I) fun u s1 ⟨v, H1, I1, rv, x, G1, k1, C1, d1, ks, hk, hks, ht, q1⟩ => PyProof.Rows.args_nil ?_) hst) hbk hpl rfl rfl
  show wpAny _ _ (evalAll ((do let v ← eval (.Lambda (oneArg "way" px) (lamBody neg p1 p2 p3 p4 p5 p6 k "way") scope lpos) X.env; standAt pos; pure v) :: (backToKw pos (keywordEach [] X.env)).map (·.2))) _ _ s1
  have hT : LamX.Tabs m.tabs H1 := fun p hp => (C1 p.1 _ (ht p hp)).1
  have nofree : ∀ y ∈ scope.names, y.2 ≠ .free := S.nofree
  refine wpAny_evalAll_cons (wpAny_bind (LamX.lam_make2 I1 TB hcode hP hu hT rfl (fun y hy z => absurd z (nofree y hy)) fun f c' pm ctv H2 s2 I2 ext tabs ho hf hfr hco => wpAny_bind (wpAny_standAt (wpAny_pure (wpAny_evalAll_nil ?_)))))
  rw [clo_nofree nofree] at ho
  -- what the making of the lambda keeps
  have k2 : KeepT H1 H2 := ⟨fun b xs e => ext b _ e (fun _ z => (nomatch z)), fun b o xs e => ext b _ e (fun _ z => (nomatch z)), fun b q e => ext b _ e LamX.codeO_ne⟩
  have C2 : Cp m X H2 G1 := fun b o e => by
    have z := C1 b o e
    cases o with
    | tab q => exact ⟨tabs _ z.2, z.2⟩
    | set ns => exact z.keep k2 (notbl ext z fun _ y => (nomatch y))
    | lst ds => exact z.keep k2 (notbl ext z fun _ y => (nomatch y))
    | dct kd kvs => exact z.keep k2 (notbl ext z fun _ y => (nomatch y))
    | fdct kd kvs => exact z.keep k2 (notbl ext z fun _ y => (nomatch y))
    | ins cc fs => exact z.keep k2 (notbl ext z fun _ y => (nomatch y))
  refine sortK_call (neg := neg) (k := k) hm hr I2 C2 ho hco S hx hl (Dat.keep k2 _ _ d1) rv hk hks fun p vs' hp t => ?_
  exact ⟨.ref p, _, (k1.trans k2).trans (KeepT.new hp), new_lst C2 hp t, dat_ref.mpr rfl, q1 p (C2.free hp)⟩⟩
end
/-! ### sorted with no key: ints; tuples of ints; one empty tuple -/
def SortOk (ks : List D) : Prop := (∀ d ∈ ks, ∃ i, d = .int i) ∨ (∀ d ∈ ks, ∃ (z : Int) (ns : List Int), d = .tup ((z :: ns).map .int)) ∨ ks = [.tup []]
theorem SortOk.plain {ks : List D} (h : SortOk ks) : ∀ d ∈ ks, d.plain = true := by
  intro d hd
  rcases h with h | h | h
  · obtain ⟨i, rfl⟩ := h d hd; rfl
  · obtain ⟨z, ns, rfl⟩ := h d hd; exact TI.plain ⟨_, rfl⟩
  · subst h; rw [List.mem_singleton.mp hd]; rfl
theorem SortOk.depth {ks : List D} (h : SortOk ks) : ∀ d ∈ ks, (py d).depth ≤ 1 := by
  intro d hd
  rcases h with h | h | h
  · obtain ⟨i, rfl⟩ := h d hd
    unfold py PyData.depth
    omega
  · obtain ⟨z, ns, rfl⟩ := h d hd
    unfold py
    rw [pys_ints]
    have := PySem.W.depth_ints (z :: ns)
    simp only [PyData.depth, this]
    omega
  · subst h
    rw [List.mem_singleton.mp hd]
    unfold py pys PyData.depth PyData.depthAll
    omega
theorem SortOk.alike {ks : List D} (h : SortOk ks) : PySem.W.AllAlike (ks.map py) := by
  intro p hp q hq
  obtain ⟨d, hd, rfl⟩ := List.mem_map.mp hp
  obtain ⟨e, he, rfl⟩ := List.mem_map.mp hq
  rcases h with h | h | h
  · obtain ⟨i, rfl⟩ := h d hd
    obtain ⟨j, rfl⟩ := h e he
    unfold py
    simp [PySem.W.alike]
  · obtain ⟨z, ns, rfl⟩ := h d hd
    obtain ⟨y, ms, rfl⟩ := h e he
    unfold py
    rw [pys_ints, pys_ints]
    have := PySem.W.alike_ints (z :: ns) (y :: ms)
    unfold PySem.W.alike
    exact this
  · subst h
    rw [List.mem_singleton.mp hd, List.mem_singleton.mp he]
    unfold py pys
    simp [PySem.W.alike, PySem.W.alikeAll]
section
variable {m : Gm} {X : Cx} {pins : List (Addr × Obj)} {τ : L2.St} {H : Hp} {G : GH} {s : Shared}
theorem each_reads {s1 : Shared} {h : Heap} (I1 : Inv X pins τ H s1) (kp : ∀ b o, s1.heap.get? b = some o → h.get? b = some o) : ∀ {ks : List D} {vs : List V} {us : List Value}, (∀ d ∈ ks, d.plain = true) → All2 (Dat X.K H) ks vs → Vals vs us → PySem.W.EachIs (fun (u : Value) (d : D) => Reads h u (py d) []) us ks
  | [], _, _, _, t, rv => by rw [show _ = [] from t] at rv; cases rv; exact .nil
  | d :: ks, _, _, p, ⟨v, r, e, q, t⟩, rv => by
    subst e
    cases rv with
    | cons r1 r2 => exact .cons (PyProof.Rows.Reads.keeps kp (reads_at I1 (p d List.mem_cons_self) q r1)) (each_reads I1 kp (fun d hd => p d (List.mem_cons_of_mem _ hd)) t r2)
/-- the sort of what was collected -/
theorem sortP_tail {s1 : Shared} {ks : List D} {vs : List V} {us : List Value} {Qh : VK} (hr : Room 2 X.A) (I1 : Inv X pins τ H s1) (t : All2 (Dat X.K H) ks vs) (rv : Vals vs us) (hz : us.length ≤ sizeLine) (hks : SortOk ks)
    (q : ∀ p vs', H p = none → All2 (Dat X.K H) (ks.mergeSort (PySem.W.dataLe false py)) vs' → Qh (.ref p) (upd H p (.lst vs'))) :
    wpAny (model X.prog X.w) X.A.in1 (call (.builtin "list.sort") [.ref s1.heap.objs.size] []) (fun v s2 => EP X pins τ Qh (.ref s1.heap.objs.size) s2) X.xe { s1 with heap := s1.heap.push (PyProof.Rows.seqObj "list" us.toArray 0) } := by
  have hlen : us.length = ks.length := by rw [← rv.length, t.length]
  have hu : ∀ d ∈ ks, X.A.in1.units + 1 + (py d).depth < cLine := fun d hd => by
    have h1 := hks.depth d hd
    have h2 := hr.un
    show X.A.units + 1 + 1 + (py d).depth < cLine
    omega
  have hob : (s1.heap.push (PyProof.Rows.seqObj "list" us.toArray 0)).get? s1.heap.objs.size = some (PyProof.Rows.seqObj "list" us.toArray 0) := Heap.get?_push_size _ rfl
  have up1 : ∀ b o, s1.heap.get? b = some o → (s1.heap.push (PyProof.Rows.seqObj "list" us.toArray 0)).get? b = some o := fun b o e => Heap.get?_push_of_some _ e
  have fin : ∀ out : List Value, out.length = ks.length → PySem.W.EachIs (fun (u : Value) (d : D) => ∃ y, RelV y u ∧ Dat X.K H d y) out (ks.mergeSort (PySem.W.dataLe false py)) →
      EP X pins τ Qh (.ref s1.heap.objs.size) { s1 with heap := PyProof.Rows.sortedHeap (s1.heap.push (PyProof.Rows.seqObj "list" us.toArray 0)) s1.heap.objs.size us out.toArray } := fun out hol hE => by
    obtain ⟨e, he⟩ := PyProof.Rows.sortedHeap_at (vs := us) (out := out.toArray) hob
    refine sorted_laid (tk := s1.toks) I1 (fun b o z => ?_) he (by rw [hol, ← hlen]; exact hz) hE q
    have hb := Heap.lt_size z
    rw [PyProof.Rows.sortedHeap_old (Nat.ne_of_lt hb) (by rw [Heap.size_push]; exact Nat.lt_succ_of_lt hb)]
    exact up1 b o z
  by_cases hs : PySem.W.Sortable (ks.map py)
  · exact PySem.W.list_sort_data (s := { s1 with heap := s1.heap.push (PyProof.Rows.seqObj "list" us.toArray 0) }) (a := s1.heap.objs.size) (enc := py) (R := fun (u : Value) (d : D) => ∃ y, RelV y u ∧ Dat X.K H d y) (bs := ks) (vs := us) hob (each_of t rv)
      ((each_reads I1 up1 hks.plain t rv).mono fun _ _ r => ⟨[], r, by simp⟩) hks.alike hs (by rw [← hlen]; exact hz) hu fun out hol hE => fin out hol hE
  · have e1 : ks = [.tup []] := by
      rcases hks with h | h | h
      · refine absurd (.inr fun p hp => ?_) hs
        obtain ⟨d, hd, rfl⟩ := List.mem_map.mp hp
        obtain ⟨i, rfl⟩ := h d hd
        unfold py
        exact ⟨fun z => (nomatch z), fun _ z => (nomatch z)⟩
      · refine absurd (.inl fun p hp => ?_) hs
        obtain ⟨d, hd, rfl⟩ := List.mem_map.mp hp
        obtain ⟨z, ns, rfl⟩ := h d hd
        unfold py
        rw [pys_ints]
        exact ⟨_, _, rfl⟩
      · exact h
    have er := each_reads (h := PySem.W.sortingHeap (s1.heap.push (PyProof.Rows.seqObj "list" us.toArray 0)) s1.heap.objs.size us) I1 (fun b o z => PySem.W.sortingHeap_old (Nat.ne_of_lt (Heap.lt_size z)) (up1 b o z)) hks.plain t rv
    have er2 : PySem.W.EachIs (fun (u : Value) (d : D) => ∃ as, Reads (PySem.W.sortingHeap (s1.heap.push (PyProof.Rows.seqObj "list" us.toArray 0)) s1.heap.objs.size us) u (py d) as) us ks := er.mono fun _ _ r => ⟨[], r⟩
    have em := PySem.W.each_map (R := fun v d => ∃ as, Reads (PySem.W.sortingHeap (s1.heap.push (PyProof.Rows.seqObj "list" us.toArray 0)) s1.heap.objs.size us) v d as) py er2
    have S : PySem.W.SortsAt X.prog X.w X.A.in1.in1 { s1 with heap := PySem.W.sortingHeap (s1.heap.push (PyProof.Rows.seqObj "list" us.toArray 0)) s1.heap.objs.size us } (PySem.W.dataKind (PySem.W.sortingHeap (s1.heap.push (PyProof.Rows.seqObj "list" us.toArray 0)) s1.heap.objs.size us) (ks.map py)) us := by
      refine ⟨fun v hv => ?_, PyProof.Rows.general', fun E x y a b Q ha hb hq => ?_, fun h2 => ?_⟩
      · obtain ⟨d, hd, as, r⟩ := em.left v hv
        exact ⟨_, PySem.W.dataKind_some hks.alike hd r⟩
      · obtain ⟨d, as, hd, ra, rfl⟩ := PySem.W.dataKind_inv ha
        obtain ⟨d', as', hd', rb, rfl⟩ := PySem.W.dataKind_inv hb
        have hr2 := hr.un
        obtain ⟨d0, hd0, e0⟩ := List.mem_map.mp hd
        have hdp := hks.depth d0 hd0
        rw [e0] at hdp
        have nn : d ≠ .none := by
          rw [e1] at hd0
          rw [← e0, List.mem_singleton.mp hd0]
          unfold py
          exact fun z => nomatch z
        exact PySem.W.oneLt_alike (f := false) (fun z => nomatch z) ra rb (hks.alike d hd d' hd') nn (by show X.A.units + 1 + 1 + min d.depth d'.depth < cLine; omega) hq
      · rw [hlen, e1] at h2
        simp at h2
    refine wpAny_call_entry PyProof.Rows.slot_list_sort ⟨_, hob, rfl⟩ PyProof.Rows.entry_list_sort (PySem.W.list_sort_vals hob S hz ⟨.none, rfl, ?_⟩) (PyProof.Rows.args_list_sort _)
    exact fin _ (by rw [PySem.W.sortVals_length false rfl]; exact hlen) (PySem.W.sortVals_data false (each_of t rv) er2 hks.alike)
theorem sortP_call {x : D} {v : V} {u : Value} {ks : List D} {Qh : VK} (hr : Room 2 X.A) (I : Inv X pins τ H s) (C : Cp m X H G) (dx : Dat X.K H x v) (rx : RelV v u) (hk : keysG x G = some ks) (hks : SortOk ks)
    (q : ∀ p vs', H p = none → All2 (Dat X.K H) (ks.mergeSort (PySem.W.dataLe false py)) vs' → Qh (.ref p) (upd H p (.lst vs'))) : wpAny (model X.prog X.w) X.A (call (.builtin "sorted") [u]) (EP X pins τ Qh) X.xe s := by
  exact sorted_split (PyProof.Rows.args_sorted1 _) (collect_at (A := X.A.in1) hr.hd I C dx rx hk fun vs us s1 I1 kp t rv hz => ⟨hz, sortP_tail hr I1 t rv hz hks q⟩)
end
def bSort : GSp := fun ds G Q => match ds with
  | [x] => ∃ ks, keysG x G = some ks ∧ SortOk ks ∧ ∀ p, G p = none → Q (.ref p) (G.set p (.lst (ks.mergeSort (PySem.W.dataLe false py))))
  | _ => False
section
variable {m : Gm} {X : Cx} {p pos : Pos} {e : Expr} {es : List Expr} {ga : GA}
theorem w_sort (hr : Room 2 X.A) (hg : Gl X "sorted") (hm : X.mg "sorted" = none) (ha : QA m X (e :: es) ga)
    (he : starEach (e :: es) X.env = (false, eval e X.env) :: starEach es X.env := by rfl) (hpl : (backTo pos (starEach es X.env)).any (·.1) = false := by rfl) : QE m X (.Call (.Name "sorted" p) (e :: es) [] pos) (gCall bSort ga) := ⟨fun τ H σ G Q S C q => by
  intro pins s I
  refine wpAny_Call_Name_kw (ld_blt I hg hm PyProof.Rows.boot_sorted ?_)
  refine PyProof.Rows.callWith_builtin1 (thn (ha.run τ H σ G _ S C q pos pins s I) fun us s1 ⟨vs, H1, I1, rv, ds, G1, k1, C1, d1, q1⟩ => ?_) he hpl
  have q1 : bSort ds G1 Q := q1
  unfold bSort at q1
  split at q1
  · obtain ⟨v, rfl, dv⟩ := all2_one d1
    obtain ⟨u, rfl, ru⟩ := vals1 rv
    obtain ⟨ks, hk, hks, q2⟩ := q1
    exact sortP_call hr I1 C1 dv ru hk hks fun p vs' hp t => ⟨.ref p, _, k1.trans (KeepT.new hp), new_lst C1 hp t, dat_ref.mpr rfl, q2 p (C1.free hp)⟩
  · exact q1.elim⟩
end
end Cz

/-! What the laws' helpers and the sealer do. -/
namespace Cz
open PySem L2
/-- what stood stands, but at xs -/
def Keep (G G' : GH) (xs : List Addr) : Prop := ∀ b o, G b = some o → b ∉ xs → G' b = some o
theorem Keep.refl (G : GH) (xs : List Addr) : Keep G G xs := fun _ _ h _ => h
theorem Keep.trans {G G1 G2 : GH} {xs ys : List Addr} (h : Keep G G1 xs) (k : Keep G1 G2 ys) : Keep G G2 (xs ++ ys) := fun b o e n => k b o (h b o e fun z => n (List.mem_append_left _ z)) fun z => n (List.mem_append_right _ z)
theorem Keep.same {G G1 G2 : GH} {xs : List Addr} (h : Keep G G1 xs) (k : Keep G1 G2 xs) : Keep G G2 xs := fun b o e n => k b o (h b o e n) n
theorem Keep.sub {G G' : GH} {xs ys : List Addr} (h : Keep G G' xs) (s : ∀ x ∈ xs, x ∈ ys) : Keep G G' ys := fun b o e n => h b o e fun z => n (s b z)
theorem Keep.new {G : GH} {p : Addr} {o : GO} (h : G p = none) (xs : List Addr) : Keep G (G.set p o) xs := fun b u e _ => by rw [set_ne (gne_none e h)]; exact e
theorem Keep.put {G : GH} {p : Addr} {o : GO} : Keep G (G.set p o) [p] := fun b u e n => by rw [set_ne (fun z => n (by rw [z]; exact List.mem_cons_self))]; exact e
theorem Keep.set {G G' : GH} {p : Addr} {o : GO} {xs : List Addr} (h : Keep G G' xs) (hp : p ∈ xs) : Keep G (G'.set p o) xs := fun b u e n => by rw [set_ne (fun z => n (by rw [z]; exact hp))]; exact h b u e n
theorem Keep.fresh {G G' : GH} {xs : List Addr} {p : Addr} (h : Keep G G' xs) (hp : G' p = none) (hx : p ∉ xs) : G p = none := by
  cases e : G p with
  | none => rfl
  | some o => rw [h p o e hx] at hp; cases hp
/-- the state of the draws: a list [numbers, seed] at a, the numbers at c -/
def St (G : GH) (a c : Addr) : Prop := ∃ (cells : List Int) (seed : Int), G a = some (.lst [.ref c, .int seed]) ∧ G c = some (.lst (cells.map .int)) ∧ cells.length ≤ 63
theorem St.ne {G : GH} {a c : Addr} (h : St G a c) : a ≠ c := by
  obtain ⟨cells, seed, h1, h2, _⟩ := h
  rintro rfl
  rw [h1] at h2
  cases cells <;> simp at h2
theorem St.keep {G G' : GH} {a c : Addr} {xs : List Addr} (h : St G a c) (k : Keep G G' xs) (ha : a ∉ xs) (hc : c ∉ xs) : St G' a c := by
  obtain ⟨cells, seed, h1, h2, h3⟩ := h
  exact ⟨cells, seed, k _ _ h1 ha, k _ _ h2 hc, h3⟩
def sp_Lstate : GSp := fun ds G Q => ∃ (x : D) (ns : List Int), ds = [x] ∧ itemsG x G = some (ns.map .int) ∧ ns.length ≤ 63 ∧ ∀ a c G', St G' a c → Keep G G' [] → G a = none → G c = none → Q (.ref a) G'
def sp_Ldraw : GSp := fun ds G Q => ∃ (a c : Addr) (n : Int), ds = [.ref a, .int n] ∧ St G a c ∧ 0 < n ∧ n < 1073741824 ∧ ∀ r G', 0 ≤ r → r < n → St G' a c → Keep G G' [a, c] → Q (.int r) G'
/-- the texts' dict: marks from n + 1 on -/
def numb : Nat → List D → List (D × D)
  | _, [] => []
  | n, t :: ts => (t, .int (n + 1 : Nat)) :: numb (n + 1) ts
def SealAt (G : GH) (p d : Addr) (ts : List D) : Prop := G p = some (.ins .sealer [(.marks, .ref d)]) ∧ G d = some (.dct .nk (numb 0 ts)) ∧ ts.Nodup ∧ ∀ t ∈ ts, Pkd t ∧ ∃ ds, t = .tup ds
def markOf (ts : List D) (t : D) : Int := if t ∈ ts then (ts.idxOf t : Nat) + 1 else 0
def addT (ts : List D) (t : D) : List D := if t ∈ ts then ts else ts ++ [t]
def sp_sealer_init : GSp := fun ds G Q => ∃ p, ds = [.ref p] ∧ G p = some (.ins .sealer []) ∧ ∀ d G', SealAt G' p d [] → Keep G G' [p] → G d = none → Q .non G'
def sp_sealer_mark : GSp := fun ds G Q => ∃ p d ts t, ds = [.ref p, t] ∧ SealAt G p d ts ∧ Pkd t ∧ (∃ es, t = .tup es) ∧ ts.length < lim ∧ ∀ G', SealAt G' p d (addT ts t) → Keep G G' [d] → Q (.int (markOf (addT ts t) t)) G'
def sp_sealer_knows : GSp := fun ds G Q => ∃ p d ts t k, ds = [.ref p, t, .int k] ∧ SealAt G p d ts ∧ Pkd t ∧ Q (.bl (decide (markOf ts t = k) && decide (k ≠ 0))) G
/-- _law_state: 0 script, 1 seed, 2 cell -/
def rd_Lstate (m : Gm) : GS := gSeq (gSet 1 (gC (.int 7))) (gSeq (gFor (gIter (gVar 0)) (gNm 2) (gSet 1 (gBin gMod (gCall bInt (gCons (gBin gAdd (gBin gMul (gVar 1) (gC (.int 31))) (gVar 2)) (gNil))) (gC (.int 1000003))))) (gRet (gLst (gCons (gLc (gIter (gVar 0)) (gNm 2) (gYes) (gCall bAbs (gCons (gVar 2) (gNil))) [2]) (gCons (gBin gAdd (gVar 1) (gC (.int 1))) (gNil))))))
abbrev N_Lstate : List Str := ["_law_script", "_law_seed", "_law_cell"]
/-- _law_draw: 0 state_here, 1 many, 2 cells, 3 value, 4 mixed -/
def rd_Ldraw (m : Gm) : GS := gSeq (gSet 2 (gBin gIx (gVar 0) (gC (.int 0)))) (gSeq (gWhile (gAnd (gTest (gBin gGt (gCall bLen (gCons (gVar 2) (gNil))) (gC (.int 0)))) (gTest (gBin (gEq false) (gBin gIx (gVar 2) (gC (.int 0))) (gC (.int 0))))) (gDrop (gLm rPop0 (gVar 2) (gCons (gC (.int 0)) (gNil))))) (gSeq (gIf (gTest (gBin gGt (gCall bLen (gCons (gVar 2) (gNil))) (gC (.int 0)))) (gSeq (gSet 3 (gBin gIx (gVar 2) (gC (.int 0)))) (gSeq (gPut (gBin gDiv (gVar 3) (gVar 1)) (gVar 2) (gC (.int 0))) (gRet (gBin gMod (gCall bInt (gCons (gVar 3) (gNil))) (gVar 1))))) (gNext)) (gSeq (gSet 4 (gBin gMod (gCall bInt (gCons (gBin gAdd (gBin gMul (gBin gIx (gVar 0) (gC (.int 1))) (gC (.int 48271))) (gC (.int 12345))) (gNil))) (gC (.int 2147483647)))) (gSeq (gPut (gVar 4) (gVar 0) (gC (.int 1))) (gRet (gBin gMod (gCall bInt (gCons (gBin gDiv (gVar 4) (gC (.int 64))) (gNil))) (gVar 1)))))))
abbrev N_Ldraw : List Str := ["_law_state_here", "_law_many", "_law_cells", "_law_value", "_law_mixed"]
/-- Sealer.__init__: 0 self -/
def rd_sealer_init (m : Gm) : GS := gSetF m (gVar 0) (gDNew .nk) .marks
abbrev N_sealer_init : List Str := ["self"]
/-- Sealer.mark: 0 self, 1 text -/
def rd_sealer_mark (m : Gm) : GS := gSeq (gIf (gTest (gBin (gIn true) (gVar 1) (gFld (gVar 0) .marks))) (gPut (gBin gAdd (gCall bLen (gCons (gFld (gVar 0) .marks) (gNil))) (gC (.int 1))) (gFld (gVar 0) .marks) (gVar 1)) (gNext)) (gRet (gBin gIx (gFld (gVar 0) .marks) (gVar 1)))
abbrev N_sealer_mark : List Str := ["self", "text"]
/-- Sealer.knows: 0 self, 1 text, 2 mark -/
def rd_sealer_knows (m : Gm) : GS := gRet (gAndV (gBin (gEq false) (gGet (gFld (gVar 0) .marks) (gVar 1) (gC (.int 0))) (gVar 2)) (gBin (gEq true) (gVar 2) (gC (.int 0))))
abbrev N_sealer_knows : List Str := ["self", "text", "mark"]

theorem numb_length : ∀ (ts : List D) (n : Nat), (numb n ts).length = ts.length
  | [], _ => rfl
  | t :: ts, n => by rw [numb, List.length_cons, List.length_cons, numb_length ts]
theorem numb_fst : ∀ (ts : List D) (n : Nat), (numb n ts).map (·.1) = ts
  | [], _ => rfl
  | t :: ts, n => by rw [numb, List.map_cons, numb_fst ts]
theorem numb_app : ∀ (ts us : List D) (n : Nat), numb n (ts ++ us) = numb n ts ++ numb (n + ts.length) us
  | [], us, n => by simp [numb]
  | t :: ts, us, n => by rw [List.cons_append, numb, numb, numb_app ts us, List.cons_append, List.length_cons, show n + (ts.length + 1) = n + 1 + ts.length by omega]
theorem dget_numb (t : D) : ∀ (ts : List D) (n : Nat), dget (numb n ts) t = if t ∈ ts then some (.int ((n + ts.idxOf t : Nat) + 1)) else none
  | [], n => by simp [numb, dget]
  | u :: ts, n => by
    rw [numb]
    by_cases h : u = t
    · subst h
      simp [dget]
    · have h2 : ¬ t = u := fun z => h z.symm
      have := dget_numb t ts (n + 1)
      have e2 : (u == t) = false := by simp [h]
      rw [show dget ((u, D.int (n + 1 : Nat)) :: numb (n + 1) ts) t = dget (numb (n + 1) ts) t by simp [dget, h], this, List.idxOf_cons, e2]
      simp only [List.mem_cons, h2, false_or, cond_false]
      split
      · congr 2
        omega
      · rfl
theorem dget_mark (ts : List D) (t : D) : (dget (numb 0 ts) t).getD (.int 0) = .int (markOf ts t) := by
  rw [dget_numb]
  unfold markOf
  split <;> simp
theorem dput_new {kvs : List (D × D)} {k v : D} (h : dget kvs k = none) : dput kvs k v = kvs ++ [(k, v)] := by
  unfold dput
  rw [h]
  rfl
/-! ### proofs of the readings -/
theorem st_get {G : GH} {a c : Addr} {i : Nat} : True := trivial
theorem rdp_Ldraw (m : Gm) (ds : List D) (G : GH) (Q : GQ) (h : sp_Ldraw ds G Q) : rd_Ldraw m (bodyEnds Q) (gstart N_Ldraw ds) G := by
  obtain ⟨a, c, n, rfl, st, n0, n1, k⟩ := h
  obtain ⟨cells, seed, ha, hc, hl⟩ := st
  have ne := St.ne ⟨cells, seed, ha, hc, hl⟩
  rw [show gstart N_Ldraw [.ref a, .int n] = [some (.ref a), some (.int n), none, none, none] from rfl]
  unfold rd_Ldraw
  refine go (i_ixL ha (d := .ref c) rfl (go (go ?_)))
  refine i_while (fun k σ' G' => ∃ cells' : List Int, σ' = [some (D.ref a), some (D.int n), some (D.ref c), none, none] ∧ cells'.length = k ∧ cells'.length ≤ 63 ∧ G' a = some (.lst [.ref c, .int seed]) ∧ G' c = some (.lst (cells'.map .int)) ∧ Keep G G' [a, c]) _ ⟨cells, rfl, rfl, hl, ha, hc, Keep.refl _ _⟩ ?_
  rintro k' σ' G' ⟨cs, rfl, rfl, hl', ha', hc', kk⟩
  refine go (i_lenL hc' (go ?_))
  rw [List.length_map]
  cases cs with
  | nil =>
    refine i_ite (fun h => absurd h (by simp)) fun _ => ?_
    refine go (i_lenL hc' (go (i_ite (fun h => absurd h (by simp)) fun _ => ?_)))
    refine go (i_ixL ha' (d := .int seed) rfl (go (i_mulI (.inr (by decide)) (go (i_mod (by decide) (go (i_putL ha' (jj := 1) rfl (go (i_div ⟨by decide, by decide⟩ (go (i_mod n0 (go ?_))))))))))))
    refine k _ _ (Int.emod_nonneg _ (by omega)) (Int.emod_lt_of_pos _ n0) ⟨[], _, set_same, by rw [set_ne ne.symm]; exact hc', by simp⟩ (kk.set (by simp))
  | cons x r =>
    refine i_ite (fun _ => ?_) fun h => absurd (by simp) h
    refine go (i_ixL hc' (d := .int x) atI_zero (go (i_ite (fun hx => ?_) fun hx => ?_)))
    · refine go (i_lm1 hc' (go (i_pop0 hc' (go ?_))))
      simp only [List.length_cons] at hl'
      exact ⟨r.length, by simp, r, rfl, rfl, by omega, by rw [set_ne ne]; exact ha', set_same, kk.set (by simp)⟩
    · refine go (i_lenL hc' (go ?_))
      rw [List.length_map]
      refine i_ite (fun _ => ?_) fun h => absurd (by simp) h
      refine go (i_ixL hc' (d := .int x) atI_zero (go (i_div ⟨n0, n1⟩ (go (i_putL hc' (jj := 0) (by rw [ixN_nat (Int.le_refl 0) (by simp)]; rfl) (go (i_mod n0 (go ?_))))))))
      simp only [List.length_cons] at hl'
      refine k _ _ (Int.emod_nonneg _ (by omega)) (Int.emod_lt_of_pos _ n0) ⟨(x / n) :: r, seed, by rw [set_ne ne]; exact ha', by rw [set_same]; rfl, by simpa using hl'⟩ (kk.set (by simp))
theorem len_Ldraw (ds : List D) (G : GH) (Q : GQ) (h : sp_Ldraw ds G Q) : ds.length = 2 := by obtain ⟨a, c, n, rfl, _⟩ := h; rfl
theorem rdp_sealer_init (m : Gm) (hm : m.ok .sealer .marks = true) (ds : List D) (G : GH) (Q : GQ) (h : sp_sealer_init ds G Q) : rd_sealer_init m (bodyEnds Q) (gstart N_sealer_init ds) G := by
  obtain ⟨p, rfl, hp, k⟩ := h
  rw [show gstart N_sealer_init [.ref p] = [some (.ref p)] from rfl]
  unfold rd_sealer_init
  refine go fun d hd => go (i_setFR (c := .sealer) (fs := []) (by rw [set_ne (gne_none hp hd)]; exact hp) hm (by decide) (go ?_))
  have ne := gne_none hp hd
  exact k d _ ⟨set_same, by rw [set_ne ne.symm, set_same]; rfl, List.nodup_nil, fun _ z => nomatch z⟩ ((Keep.new hd _).set (by simp)) hd
theorem SealAt.pk {G : GH} {p d : Addr} {ts : List D} (h : SealAt G p d ts) : ∀ t ∈ ts, Pkd t := fun t ht => (h.2.2.2 t ht).1
theorem SealAt.ne {G : GH} {p d : Addr} {ts : List D} (h : SealAt G p d ts) : p ≠ d := by
  intro e
  have h1 := h.1
  have h2 := h.2.1
  rw [e, h2] at h1
  cases h1
theorem SealAt.keep {G G' : GH} {p d : Addr} {ts : List D} {xs : List Addr} (h : SealAt G p d ts) (k : Keep G G' xs) (hp : p ∉ xs) (hd : d ∉ xs) : SealAt G' p d ts := ⟨k _ _ h.1 hp, k _ _ h.2.1 hd, h.2.2⟩
theorem mark_mem {ts : List D} {t : D} (h : t ∈ ts) : markOf ts t = (ts.idxOf t : Nat) + 1 := if_pos h
theorem mark_not {ts : List D} {t : D} (h : t ∉ ts) : markOf ts t = 0 := if_neg h
theorem addT_mem {ts : List D} {t : D} (h : t ∈ ts) : addT ts t = ts := if_pos h
theorem addT_not {ts : List D} {t : D} (h : t ∉ ts) : addT ts t = ts ++ [t] := if_neg h
theorem mem_addT (ts : List D) (t : D) : t ∈ addT ts t := by unfold addT; split <;> simp_all
theorem mark_add {ts : List D} {t : D} (h : t ∉ ts) : markOf (addT ts t) t = ts.length + 1 := by
  rw [addT_not h, mark_mem (by simp), List.idxOf_append, if_neg h]
  simp
theorem rdp_sealer_mark (m : Gm) (ds : List D) (G : GH) (Q : GQ) (h : sp_sealer_mark ds G Q) : rd_sealer_mark m (bodyEnds Q) (gstart N_sealer_mark ds) G := by
  obtain ⟨p, d, ts, t, rfl, sa, pt, ⟨es, rfl⟩, hl, k⟩ := h
  rw [show gstart N_sealer_mark [.ref p, .tup es] = [some (.ref p), some (.tup es)] from rfl]
  unfold rd_sealer_mark
  have h1 := sa.1
  have h2 := sa.2.1
  have ne := sa.ne
  refine go (i_fldR h1 (d := .ref d) rfl (go (i_ninN h2 pt (go ?_))))
  rw [dget_numb]
  by_cases hm : D.tup es ∈ ts
  · rw [if_pos hm]
    refine go (i_fldR h1 (d := .ref d) rfl (go (i_ixN h2 pt (by rw [dget_numb, if_pos hm]) (go ?_))))
    have := k G (by rw [addT_mem hm]; exact sa) (Keep.refl _ _)
    rw [addT_mem hm, mark_mem hm] at this
    simpa using this
  · rw [if_neg hm]
    have e0 : dget (numb 0 ts) (.tup es) = none := by rw [dget_numb, if_neg hm]
    refine go (i_fldR h1 (d := .ref d) rfl (go (i_lenD h2 (go (i_fldR h1 (d := .ref d) rfl (go (i_putN h2 pt (by rw [numb_length]; exact hl) (go ?_))))))))
    rw [numb_length, dput_new e0]
    have e1 : numb 0 ts ++ [(D.tup es, D.int ((ts.length : Int) + 1))] = numb 0 (addT ts (.tup es)) := by
      rw [addT_not hm, numb_app]
      simp [numb]
    rw [e1]
    have sa' : SealAt (G.set d (.dct .nk (numb 0 (addT ts (.tup es))))) p d (addT ts (.tup es)) := by
      refine ⟨by rw [set_ne ne]; exact h1, set_same, ?_, ?_⟩
      · rw [addT_not hm]
        exact List.nodup_append.mpr ⟨sa.2.2.1, by simp, fun a ha b hb => by rw [List.mem_singleton.mp hb]; exact fun e => hm (e ▸ ha)⟩
      · rw [addT_not hm]
        intro t ht
        rcases List.mem_append.mp ht with z | z
        · exact sa.2.2.2 t z
        · rw [List.mem_singleton.mp z]; exact ⟨pt, es, rfl⟩
    refine go (i_fldR sa'.1 (d := .ref d) rfl (go (i_ixN sa'.2.1 pt (by rw [dget_numb, if_pos (mem_addT _ _)]) (go ?_))))
    have := k _ sa' Keep.put
    rw [mark_mem (mem_addT _ _)] at this
    simpa using this
theorem rdp_sealer_knows (m : Gm) (ds : List D) (G : GH) (Q : GQ) (h : sp_sealer_knows ds G Q) : rd_sealer_knows m (bodyEnds Q) (gstart N_sealer_knows ds) G := by
  obtain ⟨p, d, ts, t, k, rfl, sa, pt, q⟩ := h
  rw [show gstart N_sealer_knows [.ref p, t, .int k] = [some (.ref p), some t, some (.int k)] from rfl]
  unfold rd_sealer_knows
  refine go (i_fldR sa.1 (d := .ref d) rfl (go (i_isD ⟨_, _, sa.2.1⟩ (go (i_getN sa.2.1 pt ?_)))))
  rw [dget_mark]
  refine go (i_ite (fun e => ?_) fun e => ?_)
  · refine go (go ?_)
    rw [decide_eq_true e, Bool.true_and] at q
    have e2 : (!decide (k = 0)) = decide (k ≠ 0) := by simp
    rw [e2]
    exact q
  · rw [decide_eq_false e, Bool.false_and] at q
    exact q
theorem ok_of {x : D} {G : GH} {xs : List D} (h : itemsG x G = some xs) : okOf x xs G := by
  cases x with
  | ref a => exact items_ref h
  | _ => exact True.intro
theorem ok_set {x : D} {G : GH} {xs : List D} {p : Addr} {o : GO} (h : okOf x xs G) (hp : G p = none) : okOf x xs (G.set p o) := by
  cases x with
  | ref a => exact (set_ne (gne_none h hp)).trans h
  | _ => exact True.intro
theorem items_of {x : D} {G G' : GH} {xs : List D} (h : itemsG x G = some xs) (k : okOf x xs G') : itemsG x G' = some xs := by
  cases x with
  | ref a =>
    have e : G' a = some (.lst xs) := k
    unfold itemsG
    simp only [e]
  | _ => exact h
theorem rdp_Lstate (m : Gm) (ds : List D) (G : GH) (Q : GQ) (h : sp_Lstate ds G Q) : rd_Lstate m (bodyEnds Q) (gstart N_Lstate ds) G := by
  obtain ⟨x, ns, rfl, hx, hl, k⟩ := h
  rw [show gstart N_Lstate [x] = [some x, none, none] from rfl]
  unfold rd_Lstate
  refine go ⟨_, hx, ?_⟩
  refine i_turns (fun _ σ' G' => ∃ (sd : Int) (o : Option D), σ' = [some x, some (.int sd), o] ∧ G' = G ∧ -(2 ^ 64) < sd ∧ sd < 2 ^ 64) ⟨7, none, rfl, rfl, by decide, by decide⟩ ?_ ?_
  · rintro i d σ' G' hi hok ⟨sd, o, rfl, rfl, h1, h2⟩
    rw [List.getElem?_map] at hi
    obtain ⟨z, hz, rfl⟩ := Option.map_eq_some_iff.mp hi
    refine go (i_mulI (.inr (by decide)) (go (i_mod (by decide) (go ?_))))
    refine ⟨hok, _, _, rfl, rfl, ?_, ?_⟩ <;> omega
  · rintro σ' G' hok ⟨sd, o, rfl, rfl, h1, h2⟩
    refine go ⟨_, hx, fun c hc => ⟨ok_set hok hc, ?_⟩⟩
    rw [show wipeG [some x, some (D.int sd), o] [2] = [some x, some (D.int sd), none] from rfl]
    refine i_lcl (fun i acc G2 => acc = ((ns.take i).map fun z : Int => D.int (if z < 0 then -z else z)) ∧ G2 = G'.set c (.lst acc)) ⟨by simp, by simp⟩ ?_ ?_
    · rintro i d acc G2 hi _ hp ⟨rfl, rfl⟩
      rw [List.getElem?_map] at hi
      obtain ⟨z, hz, rfl⟩ := Option.map_eq_some_iff.mp hi
      refine go ⟨hp, ?_, ?_, ?_, set_set⟩
      · rw [List.length_map, List.length_take]
        unfold lim
        omega
      · rw [set_set]; exact ok_set hok hc
      · rw [List.take_succ, hz]
        simp
    · rintro acc G2 _ hp ⟨rfl, rfl⟩
      rw [List.length_map, List.take_length] at *
      refine go fun a ha => go ?_
      have ne : a ≠ c := by
        rintro rfl
        rw [set_same] at ha
        cases ha
      have ha' : G' a = none := by rw [set_ne ne] at ha; exact ha
      exact k a c _ ⟨ns.map fun z : Int => if z < 0 then -z else z, sd + 1, set_same, by rw [set_ne ne.symm, set_same, List.map_map]; rfl, by simpa using hl⟩ (fun b u e _ => by rw [set_ne (gne_none e ha'), set_ne (gne_none e hc)]; exact e) ha' hc
theorem len_Lstate (ds : List D) (G : GH) (Q : GQ) (h : sp_Lstate ds G Q) : ds.length = 1 := by obtain ⟨x, ns, rfl, _⟩ := h; rfl
theorem len_sealer_init (ds : List D) (G : GH) (Q : GQ) (h : sp_sealer_init ds G Q) : ds.length = 1 := by obtain ⟨ns, rfl, _⟩ := h; rfl
theorem len_sealer_mark (ds : List D) (G : GH) (Q : GQ) (h : sp_sealer_mark ds G Q) : ds.length = 2 := by obtain ⟨p, d, ts, t, rfl, _⟩ := h; rfl
theorem len_sealer_knows (ds : List D) (G : GH) (Q : GQ) (h : sp_sealer_knows ds G Q) : ds.length = 3 := by obtain ⟨p, d, ts, t, k, rfl, _⟩ := h; rfl
end Cz

/-! Shapes, ways, prefixes: what the defs do. -/
namespace Cz
open PySem L2
instance s_sortK {m : Gm} {neg : Bool} {g : GE} {σ : GSt} {G : GH} {Q : GQ} : Stp (gSortK m neg g σ G Q) (g σ G fun x G1 => ∃ ks, keysG x G1 = some ks ∧ (∀ d ∈ ks, TI d) ∧ TabsG m G1 ∧ ∀ p, G1 p = none → Q (.ref p) (G1.set p (.lst (ks.mergeSort (PySem.W.dataLe false (keyD' neg)))))) := ⟨id⟩
structure Shp where
  f : Nat
  d : Nat
  w : Nat
  b : Nat
  s : Nat
structure Shp.Ok (S : Shp) : Prop where
  f2 : 2 ≤ S.f
  f4 : S.f ≤ 4
  d1 : 1 ≤ S.d
  d6 : S.d ≤ 6
  lv : S.f ^ S.d ≤ 64
  w1 : 1 ≤ S.w
  w4 : S.w ≤ 4
  bd : S.d + 1 ≤ S.b
  bm : S.b ≤ 1000
  s3 : S.s ≤ 3
def Shp.fs (S : Shp) : List (Fd × D) := [(.fanout, .int S.f), (.depth, .int S.d), (.words, .int S.w), (.blocks, .int S.b), (.snapshots, .int S.s)]
def ShAt (G : GH) (p : Addr) (S : Shp) : Prop := G p = some (.ins .shape S.fs) ∧ S.Ok
theorem ShAt.keep {G G' : GH} {p : Addr} {S : Shp} {xs : List Addr} (h : ShAt G p S) (k : Keep G G' xs) (hp : p ∉ xs) : ShAt G' p S := ⟨k _ _ h.1 hp, h.2⟩
/-- the number of cells of a whole tree -/
def cellsN (f : Nat) : Nat → Nat
  | 0 => 1
  | d + 1 => cellsN f d + f ^ (d + 1)
/-- the digits of the way to leaf i -/
def wayN (f : Nat) : Nat → Nat → List Nat
  | 0, _ => []
  | k + 1, i => wayN f k (i / f) ++ [i % f]
def intsD (ns : List Nat) : List D := ns.map fun n : Nat => D.int (n : Int)
def wayD (f d i : Nat) : D := .tup (intsD (wayN f d i))
def tkD (f d i l : Nat) : D := .tup (intsD ((wayN f d i).take l))
/-- the keys that prefixes notes -/
def foundD (f d : Nat) (is : List Nat) : List D := is.foldl (fun acc i => (List.range d).foldl (fun acc l => addT acc (tkD f d i l)) acc) []
def prefD (f d : Nat) (is : List Nat) : List D := (foundD f d is).mergeSort (PySem.W.dataLe false (keyD' true))
def sp_require : GSp := fun ds G Q => ∃ n, ds = [.bl true, .str n] ∧ Q .non G
def sp_power : GSp := fun ds G Q => ∃ b e : Nat, ds = [.int b, .int e] ∧ b ≤ 4 ∧ e ≤ 7 ∧ Q (.int ((b ^ e : Nat) : Int)) G
def sp_shape_init : GSp := fun ds G Q => ∃ p S, ds = [.ref p, .int (Shp.f S : Nat), .int S.d, .int S.w, .int S.b, .int S.s] ∧ S.Ok ∧ G p = some (.ins .shape []) ∧ ∀ G', ShAt G' p S → Keep G G' [p] → Q .non G'
def sp_shape_init_kw5 : GSp := sp_shape_init
def sp_shape_leaves : GSp := fun ds G Q => ∃ p S, ds = [.ref p] ∧ ShAt G p S ∧ Q (.int ((Shp.f S ^ S.d : Nat) : Int)) G
def sp_shape_cells : GSp := fun ds G Q => ∃ p S, ds = [.ref p] ∧ ShAt G p S ∧ ∀ G', Keep G G' [] → Q (.int ((cellsN S.f S.d : Nat) : Int)) G'
def sp_shape_way : GSp := fun ds G Q => ∃ (p : Addr) (S : Shp) (i : Nat), ds = [.ref p, .int i] ∧ ShAt G p S ∧ ∀ G', Keep G G' [] → Q (wayD S.f S.d i) G'
def tab_way : Cl → Option GSp := fun c => match c with
  | .shape => some sp_shape_way
  | _ => none
def tab_leaves : Cl → Option GSp := fun c => match c with
  | .shape => some sp_shape_leaves
  | _ => none
def tab_cells : Cl → Option GSp := fun c => match c with
  | .shape => some sp_shape_cells
  | _ => none
def sp_prefixes (m : Gm) : GSp := fun ds G Q => ∃ (p : Addr) (S : Shp) (a : Addr) (is : List Nat), ds = [.ref p, .ref a] ∧ ShAt G p S ∧ G a = some (.lst (intsD is)) ∧ is.length ≤ 64 ∧ TabsG m G ∧ ∀ l G', G' l = some (.lst (prefD S.f S.d is)) → G l = none → Keep G G' [] → Q (.ref l) G'
def sp_needed (m : Gm) : GSp := fun ds G Q => ∃ (p : Addr) (S : Shp) (a : Addr) (is : List Nat), ds = [.ref p, .ref a] ∧ ShAt G p S ∧ G a = some (.lst (intsD is)) ∧ is.length ≤ 64 ∧ TabsG m G ∧ ∀ G', Keep G G' [] → Q (.int ((is.length + (prefD S.f S.d is).length : Nat) : Int)) G'
/-- the blocks that the law gives a shape -/
def ampleN (f d s : Nat) : Nat := (s + 2) * cellsN f d
def sp_Lshape : GSp := fun ds G Q => ∃ (a c : Addr) (k : Nat), ds = [.ref a, .int k] ∧ k ≤ 2 ∧ St G a c ∧ ∀ p S G', ShAt G' p S → (k = 0 → S.b = ampleN S.f S.d S.s) → (k = 1 → ampleN S.f S.d S.s ≤ S.b) → St G' a c → Keep G G' [a, c] → G p = none → Q (.ref p) G'
def sp_Lleaves : GSp := fun ds G Q => ∃ p S, ds = [.ref p] ∧ ShAt G p S ∧ Q (.int ((Shp.f S ^ S.d : Nat) : Int)) G
/-- require: 0 holds, 1 name -/
def rd_require (m : Gm) : GS := gIf (gNot (gTru (gVar 0))) (gNever) (gNext)
abbrev N_require : List Str := ["holds", "name"]
/-- power: 0 base, 1 exponent, 2 total, 3 k -/
def rd_power (m : Gm) : GS := gSeq (gSet 2 (gC (.int 1))) (gSeq (gFor (gRng1 (gCons (gVar 1) (gNil))) (gNm 3) (gSet 2 (gBin gMul (gVar 2) (gVar 0)))) (gRet (gVar 2)))
abbrev N_power : List Str := ["base", "exponent", "total", "k"]
/-- Shape.__init__: 0 self, 1 fanout, 2 depth, 3 words, 4 blocks, 5 snapshots -/
def rd_shape_init (m : Gm) : GS := gSeq (gDrop (gCall sp_require (gCons (gChain gLe gLe (gC (.int 2)) (gVar 1) (gC (.int 4))) (gCons (gC (.str "fanout")) (gNil))))) (gSeq (gDrop (gCall sp_require (gCons (gAndV (gChain gLe gLe (gC (.int 1)) (gVar 2) (gC (.int 6))) (gBin gLe (gCall sp_power (gCons (gVar 1) (gCons (gVar 2) (gNil)))) (gC (.int 64)))) (gCons (gC (.str "depth")) (gNil))))) (gSeq (gDrop (gCall sp_require (gCons (gChain gLe gLe (gC (.int 1)) (gVar 3) (gC (.int 4))) (gCons (gC (.str "words")) (gNil))))) (gSeq (gDrop (gCall sp_require (gCons (gChain gLe gLe (gBin gAdd (gVar 2) (gC (.int 1))) (gVar 4) (gC (.int 1000))) (gCons (gC (.str "blocks")) (gNil))))) (gSeq (gDrop (gCall sp_require (gCons (gChain gLe gLe (gC (.int 0)) (gVar 5) (gC (.int 3))) (gCons (gC (.str "snapshots")) (gNil))))) (gSeq (gSetF m (gVar 0) (gVar 1) .fanout) (gSeq (gSetF m (gVar 0) (gVar 2) .depth) (gSeq (gSetF m (gVar 0) (gVar 3) .words) (gSeq (gSetF m (gVar 0) (gVar 4) .blocks) (gSetF m (gVar 0) (gVar 5) .snapshots)))))))))
abbrev N_shape_init : List Str := ["self", "fanout", "depth", "words", "blocks", "snapshots"]
/-- Shape.leaves: 0 self -/
def rd_shape_leaves (m : Gm) : GS := gRet (gCall sp_power (gCons (gFld (gVar 0) .fanout) (gCons (gFld (gVar 0) .depth) (gNil))))
abbrev N_shape_leaves : List Str := ["self"]
def rd_shape_way_1 (m : Gm) : GS := gSeq (gSet 2 (gBin gAdd (gLst (gCons (gBin gMod (gVar 3) (gFld (gVar 0) .fanout)) (gNil))) (gVar 2))) (gSet 3 (gBin gDiv (gVar 3) (gFld (gVar 0) .fanout)))
/-- Shape.way: 0 self, 1 index, 2 digits, 3 rest, 4 k -/
def rd_shape_way (m : Gm) : GS := gSeq (gSet 2 (gLst (gNil))) (gSeq (gSet 3 (gVar 1)) (gSeq (gFor (gRng1 (gCons (gFld (gVar 0) .depth) (gNil))) (gNm 4) (rd_shape_way_1 m)) (gRet (gCall bTup (gCons (gVar 2) (gNil))))))
abbrev N_shape_way : List Str := ["self", "index", "digits", "rest", "k"]
/-- Shape.cells: 0 self, 1 level -/
def rd_shape_cells (m : Gm) : GS := gRet (gCall bSum (gCons (gLc (gRng1 (gCons (gBin gAdd (gFld (gVar 0) .depth) (gC (.int 1))) (gNil))) (gNm 1) (gYes) (gCall sp_power (gCons (gFld (gVar 0) .fanout) (gCons (gVar 1) (gNil)))) [1]) (gNil)))
abbrev N_shape_cells : List Str := ["self", "level"]
def rd_prefixes_1 (m : Gm) : GS := gPut (gC (.bl true)) (gVar 2) (gSl (gVar 4) (gNoPart) (gPart (gVar 5)))
def rd_prefixes_2 (m : Gm) : GS := gSeq (gSet 4 (gMeth tab_way (gVar 0) (gCons (gVar 3) (gNil)))) (gFor (gRng1 (gCons (gFld (gVar 0) .depth) (gNil))) (gNm 5) (rd_prefixes_1 m))
/-- prefixes: 0 shape, 1 indexes, 2 found, 3 index, 4 way, 5 level -/
def rd_prefixes (m : Gm) : GS := gSeq (gSet 2 (gDNew .nk)) (gSeq (gFor (gIter (gVar 1)) (gNm 3) (rd_prefixes_2 m)) (gRet (gSortK m true (gVar 2))))
abbrev N_prefixes : List Str := ["shape", "indexes", "found", "index", "way", "level"]
/-- needed: 0 shape, 1 indexes -/
def rd_needed (m : Gm) : GS := gRet (gBin gAdd (gCall bLen (gCons (gVar 1) (gNil))) (gCall bLen (gCons (gCall (sp_prefixes m) (gCons (gVar 0) (gCons (gVar 1) (gNil)))) (gNil))))
abbrev N_needed : List Str := ["shape", "indexes"]
def rd_Lshape_1 (m : Gm) : GS := gSeq (gSet 6 (gBin gAdd (gVar 6) (gVar 7))) (gSet 7 (gBin gMul (gVar 7) (gVar 2)))
def rd_Lshape_2 (m : Gm) : GS := gSeq (gSet 9 (gBin gMul (gBin gAdd (gVar 5) (gC (.int 2))) (gVar 6))) (gSeq (gSet 10 (gCall bMin (gCons (gC (.int 1000)) (gCons (gBin gIx (gLst (gCons (gVar 9) (gCons (gBin gAdd (gVar 9) (gCall sp_Ldraw (gCons (gVar 0) (gCons (gC (.int 9)) (gNil))))) (gCons (gCall bMax (gCons (gBin gAdd (gVar 3) (gC (.int 1))) (gCons (gBin gSub (gVar 9) (gCall sp_Ldraw (gCons (gVar 0) (gCons (gVar 9) (gNil))))) (gNil)))) (gNil))))) (gVar 1)) (gNil))))) (gRet (gMake .shape sp_shape_init_kw5 (gCons (gVar 2) (gCons (gVar 3) (gCons (gVar 4) (gCons (gVar 10) (gCons (gVar 5) (gNil)))))))))
/-- _law_shape: 0 state_here, 1 blocks, 2 fanout, 3 depth, 4 words_here, 5 snapshots, 6 cells, 7 wide, 8 level, 9 ample, 10 many -/
def rd_Lshape (m : Gm) : GS := gSeq (gSet 2 (gBin gAdd (gC (.int 2)) (gCall sp_Ldraw (gCons (gVar 0) (gCons (gC (.int 3)) (gNil)))))) (gSeq (gSet 3 (gBin gAdd (gC (.int 1)) (gCall sp_Ldraw (gCons (gVar 0) (gCons (gBin gIx (gLst (gCons (gC (.int 6)) (gCons (gC (.int 3)) (gCons (gC (.int 3)) (gNil))))) (gBin gSub (gVar 2) (gC (.int 2)))) (gNil)))))) (gSeq (gSet 4 (gBin gAdd (gC (.int 1)) (gCall sp_Ldraw (gCons (gVar 0) (gCons (gC (.int 4)) (gNil)))))) (gSeq (gSet 5 (gCall sp_Ldraw (gCons (gVar 0) (gCons (gC (.int 4)) (gNil))))) (gSeq (gSet 6 (gC (.int 0))) (gSeq (gSet 7 (gC (.int 1))) (gSeq (gFor (gRng1 (gCons (gBin gAdd (gVar 3) (gC (.int 1))) (gNil))) (gNm 8) (rd_Lshape_1 m)) (rd_Lshape_2 m)))))))
abbrev N_Lshape : List Str := ["_law_state_here", "_law_blocks", "_law_fanout", "_law_depth", "_law_words_here", "_law_snapshots", "_law_cells", "_law_wide", "_law_level", "_law_ample", "_law_many"]
/-- _law_leaves: 0 shape_here, 1 total, 2 level -/
def rd_Lleaves (m : Gm) : GS := gSeq (gSet 1 (gC (.int 1))) (gSeq (gFor (gRng1 (gCons (gFld (gVar 0) .depth) (gNil))) (gNm 2) (gSet 1 (gBin gMul (gVar 1) (gFld (gVar 0) .fanout)))) (gRet (gVar 1)))
abbrev N_Lleaves : List Str := ["_law_shape_here", "_law_total", "_law_level"]

theorem rdp_require (m : Gm) (ds : List D) (G : GH) (Q : GQ) (h : sp_require ds G Q) : rd_require m (bodyEnds Q) (gstart N_require ds) G := by
  obtain ⟨n, rfl, q⟩ := h
  rw [show gstart N_require [.bl true, .str n] = [some (.bl true), some (.str n)] from rfl]
  unfold rd_require
  exact go ⟨true, rfl, go q⟩
theorem len_require (ds : List D) (G : GH) (Q : GQ) (h : sp_require ds G Q) : ds.length = 2 := by obtain ⟨n, rfl, _⟩ := h; rfl
theorem rdp_power (m : Gm) (ds : List D) (G : GH) (Q : GQ) (h : sp_power ds G Q) : rd_power m (bodyEnds Q) (gstart N_power ds) G := by
  obtain ⟨b, e, rfl, hb, he, q⟩ := h
  rw [show gstart N_power [.int b, .int e] = [some (.int b), some (.int e), none, none] from rfl]
  unfold rd_power
  refine go ⟨by omega, by omega, ?_⟩
  refine i_turns (fun i σ' G' => ∃ x3, σ' = [some (.int b), some (.int e), some (.int ((b ^ i : Nat) : Int)), x3] ∧ G' = G) ⟨none, rfl, rfl⟩ ?_ ?_
  · rintro i d σ' G' hi _ ⟨x3, rfl, rfl⟩
    have hi2 : i < e := by
      have := (List.getElem?_eq_some_iff.mp hi).1
      simpa using this
    refine go (i_mulI (.inr (by omega)) (go ⟨True.intro, some d, ?_, rfl⟩))
    rw [Nat.pow_succ, Int.natCast_mul]
  · rintro σ' G' _ ⟨x3, rfl, rfl⟩
    refine go ?_
    simpa using q
theorem len_power (ds : List D) (G : GH) (Q : GQ) (h : sp_power ds G Q) : ds.length = 2 := by obtain ⟨b, e, rfl, _⟩ := h; rfl
theorem i_req {n : Str} {G : GH} {Q : GQ} (q : Q .non G) : sp_require [.bl true, .str n] G Q := ⟨n, rfl, q⟩
theorem i_yes {p q : Prop} {c : Prop} [Decidable c] (h : c) (k : p) : if decide c = true then p else q := by rw [if_pos (decide_eq_true h)]; exact k
theorem i_no {p q : Prop} {c : Prop} [Decidable c] (h : ¬ c) (k : q) : if decide c = true then p else q := by rw [if_neg (by simp [h])]; exact k
theorem i_reqD {n : Str} {G : GH} {Q : GQ} {c : Prop} [Decidable c] (h : c) (q : Q .non G) : sp_require [.bl (decide c), .str n] G Q := ⟨n, by rw [decide_eq_true h], q⟩
theorem rdp_shape_init (m : Gm) (hm : ∀ f ∈ [Fd.fanout, .depth, .words, .blocks, .snapshots], m.ok .shape f = true) (ds : List D) (G : GH) (Q : GQ) (h : sp_shape_init ds G Q) : rd_shape_init m (bodyEnds Q) (gstart N_shape_init ds) G := by
  obtain ⟨p, S, rfl, ok, hp, k⟩ := h
  rw [show gstart N_shape_init [.ref p, .int (S.f : Nat), .int S.d, .int S.w, .int S.b, .int S.s] = [some (.ref p), some (.int S.f), some (.int S.d), some (.int S.w), some (.int S.b), some (.int S.s)] from rfl]
  unfold rd_shape_init
  have h1 := ok.f2
  have h2 := ok.f4
  have h3 := ok.d1
  have h4 := ok.d6
  have h5 := ok.lv
  have h6 := ok.w1
  have h7 := ok.w4
  have h8 := ok.bd
  have h9 := ok.bm
  have h10 := ok.s3
  refine go (i_yes (by omega) (go (i_reqD (by omega) (go ?_))))
  refine i_yes (by omega) (go (i_yes (by omega) (go ⟨S.f, S.d, rfl, h2, by omega, go (i_reqD (by omega) (go ?_))⟩)))
  refine i_yes (by omega) (go (i_reqD (by omega) (go ?_)))
  refine i_yes (by omega) (go (i_reqD (by omega) (go ?_)))
  refine i_yes (by omega) (go (i_reqD (by omega) (go ?_)))
  refine i_setFR hp (hm _ (by simp)) (by decide) (go (i_setFR set_same (hm _ (by simp)) (by exact (by decide : 1 < 100)) (go (i_setFR set_same (hm _ (by simp)) (by exact (by decide : 2 < 100)) (go (i_setFR set_same (hm _ (by simp)) (by exact (by decide : 3 < 100)) (go (i_setFR set_same (hm _ (by simp)) (by exact (by decide : 4 < 100)) (go ?_)))))))))
  simp only [set_set]
  exact k _ ⟨set_same, ok⟩ Keep.put
theorem len_shape_init (ds : List D) (G : GH) (Q : GQ) (h : sp_shape_init ds G Q) : ds.length = 6 := by obtain ⟨p, S, rfl, _⟩ := h; rfl
theorem rdp_shape_leaves (m : Gm) (ds : List D) (G : GH) (Q : GQ) (h : sp_shape_leaves ds G Q) : rd_shape_leaves m (bodyEnds Q) (gstart N_shape_leaves ds) G := by
  obtain ⟨p, S, rfl, hs, q⟩ := h
  rw [show gstart N_shape_leaves [.ref p] = [some (.ref p)] from rfl]
  unfold rd_shape_leaves
  refine go (i_fldR hs.1 (d := .int S.f) rfl (go (i_fldR hs.1 (d := .int S.d) rfl (go ⟨S.f, S.d, rfl, hs.2.f4, by have := hs.2.d6; omega, go q⟩))))
theorem len_shape_leaves (ds : List D) (G : GH) (Q : GQ) (h : sp_shape_leaves ds G Q) : ds.length = 1 := by obtain ⟨p, S, rfl, _⟩ := h; rfl
theorem cellsN_sum (f : Nat) : ∀ d : Nat, (((List.range (d + 1)).map fun l : Nat => ((f ^ l : Nat) : Int))).sum = (cellsN f d : Nat)
  | 0 => by simp [cellsN]
  | d + 1 => by
    rw [List.range_succ, List.map_append, List.sum_append, cellsN_sum f d, cellsN]
    simp
theorem rdp_shape_cells (m : Gm) (ds : List D) (G : GH) (Q : GQ) (h : sp_shape_cells ds G Q) : rd_shape_cells m (bodyEnds Q) (gstart N_shape_cells ds) G := by
  obtain ⟨p, S, rfl, hs, k⟩ := h
  rw [show gstart N_shape_cells [.ref p] = [some (.ref p), none] from rfl]
  unfold rd_shape_cells
  have d6 := hs.2.d6
  refine go (i_fldR hs.1 (d := .int S.d) rfl (go ⟨by omega, by omega, fun l hl => ⟨True.intro, ?_⟩⟩))
  rw [show wipeG [some (D.ref p), none] [1] = [some (D.ref p), none] from rfl]
  refine i_lcl (fun i acc G2 => acc = ((List.range i).map fun l : Nat => D.int ((S.f ^ l : Nat) : Int)) ∧ G2 = G.set l (.lst acc)) ⟨by simp, by simp⟩ ?_ ?_
  · rintro i d acc G2 hi _ hp ⟨rfl, rfl⟩
    rw [List.getElem?_map] at hi
    obtain ⟨z, hz, rfl⟩ := Option.map_eq_some_iff.mp hi
    obtain ⟨hz1, hz2⟩ := List.getElem?_eq_some_iff.mp hz
    rw [List.getElem_range] at hz2
    subst hz2
    rw [List.length_range] at hz1
    refine go (i_fldR (by rw [set_ne (gne_none hs.1 hl)]; exact hs.1) (d := .int S.f) rfl (go ⟨S.f, i, rfl, hs.2.f4, by omega, go ⟨set_same, ?_, True.intro, ?_, set_set⟩⟩))
    · rw [List.length_map, List.length_range]
      exact Nat.lt_of_lt_of_le (show i < 10 by omega) (by decide)
    · rw [List.range_succ, List.map_append]
      rfl
  · rintro acc G2 _ hp ⟨rfl, rfl⟩
    rw [List.length_map, List.length_range, show ((S.d : Int) + 1).toNat = S.d + 1 by omega] at *
    refine go ⟨(List.range (S.d + 1)).map fun l : Nat => ((S.f ^ l : Nat) : Int), by unfold itemsG; simp only [hp, List.map_map]; rfl, True.intro, go ?_⟩
    rw [cellsN_sum]
    exact k _ (Keep.new hl [])
theorem len_shape_cells (ds : List D) (G : GH) (Q : GQ) (h : sp_shape_cells ds G Q) : ds.length = 1 := by obtain ⟨p, S, rfl, _⟩ := h; rfl
theorem intsD_app (a b : List Nat) : intsD (a ++ b) = intsD a ++ intsD b := by unfold intsD; rw [List.map_append]
theorem intsD_len (a : List Nat) : (intsD a).length = a.length := by unfold intsD; rw [List.length_map]
theorem wayN_len (f : Nat) : ∀ k i : Nat, (wayN f k i).length = k
  | 0, _ => rfl
  | k + 1, i => by rw [wayN, List.length_append, wayN_len f k]; rfl
theorem rdp_shape_way (m : Gm) (ds : List D) (G : GH) (Q : GQ) (h : sp_shape_way ds G Q) : rd_shape_way m (bodyEnds Q) (gstart N_shape_way ds) G := by
  obtain ⟨p, S, i, rfl, hs, k⟩ := h
  rw [show gstart N_shape_way [.ref p, .int i] = [some (.ref p), some (.int i), none, none, none] from rfl]
  unfold rd_shape_way
  have d6 := hs.2.d6
  have f2 := hs.2.f2
  have f4 := hs.2.f4
  refine go fun l hl => go ?_
  have k0 : Keep G (G.set l (.lst [])) [] := Keep.new hl []
  refine i_fldR (hs.keep k0 (by simp)).1 (d := .int S.d) rfl (go ⟨by omega, by omega, ?_⟩)
  refine i_turns (fun j σ' G' => ∃ (l : Addr) (rest : Nat) (ds : List Nat) (x4 : Option D), σ' = [some (.ref p), some (.int i), some (.ref l), some (.int rest), x4] ∧ G' l = some (.lst (intsD ds)) ∧ Keep G G' [] ∧ ds.length = j ∧ wayN S.f S.d i = wayN S.f (S.d - j) rest ++ ds) ⟨l, i, [], none, rfl, set_same, k0, rfl, by simp⟩ ?_ ?_
  · rintro j d σ' G' hi _ ⟨l, rest, ds, x4, rfl, hl, kk, rfl, hw⟩
    have hj : ds.length < S.d := by
      have := (List.getElem?_eq_some_iff.mp hi).1
      simpa using this
    unfold rd_shape_way_1
    have hs1 := hs.keep kk (by simp)
    refine go (i_fldR hs1.1 (d := .int S.f) rfl (go (i_mod (by omega) (go fun a ha => go ?_))))
    refine i_addL set_same (by rw [set_ne (gne_none hl ha)]; exact hl) (by rw [intsD_len]; exact Nat.le_trans (show 1 + ds.length ≤ 10 by omega) (by decide)) fun r hr => go ?_
    have kk2 : Keep G ((G'.set a (.lst [.int (rest % S.f : Int)])).set r (.lst ([.int (rest % S.f : Int)] ++ intsD ds))) [] := ((kk.trans (Keep.new ha [])).trans (Keep.new hr [])).sub (by simp)
    have hs2 := hs.keep kk2 (by simp)
    refine i_fldR hs2.1 (d := .int S.f) rfl (go (i_div ⟨by omega, by omega⟩ (go ⟨True.intro, r, rest / S.f, (rest % S.f) :: ds, some d, ?_, ?_, kk2, by simp, ?_⟩)))
    · rw [Int.natCast_ediv]
    · rw [set_same]
      simp [intsD]
    · rw [hw, show S.d - ds.length = (S.d - (ds.length + 1)) + 1 by omega, wayN, List.append_assoc]
      rfl
  · rintro σ' G' _ ⟨l, rest, ds, x4, rfl, hl, kk, hd, hw⟩
    rw [List.length_map, List.length_range] at hd hw
    have hd2 : ds.length = S.d := by simpa using hd
    rw [show ((S.d : Int)).toNat = S.d by omega] at hw
    refine go ⟨intsD ds, by unfold itemsG; simp only [hl], go ?_⟩
    have e : wayN S.f S.d i = ds := by rw [hw, Nat.sub_self]; rfl
    have := k G' kk
    unfold wayD at this
    rw [e] at this
    exact this
theorem len_shape_way (ds : List D) (G : GH) (Q : GQ) (h : sp_shape_way ds G Q) : ds.length = 2 := by obtain ⟨p, S, i, rfl, _⟩ := h; rfl
/-! ### prefixes -/
theorem TabsG.keep {m : Gm} {G G' : GH} (h : TabsG m G) (k : Keep G G' []) : TabsG m G' := fun p hp => k _ _ (h p hp) (by simp)
theorem pkd_ints (ns : List Nat) : Pkd (.tup (intsD ns)) := by
  refine ⟨?_, ?_⟩
  · rw [D.pure]
    induction ns with
    | nil => rfl
    | cons n ns ih => exact (show (true && pures (intsD ns)) = true by rw [ih]; rfl)
  · have : ∀ ns : List Nat, NestedKey.depthAll (keys (intsD ns)) ≤ 0 := by
      intro ns
      induction ns with
      | nil => unfold intsD keys; simp [NestedKey.depthAll]
      | cons n ns ih =>
        show NestedKey.depthAll (D.key (.int n) :: keys (intsD ns)) ≤ 0
        unfold NestedKey.depthAll D.key NestedKey.depth
        omega
    have := this ns
    unfold D.key NestedKey.depth
    omega
theorem ti_ints (ns : List Nat) : TI (.tup (intsD ns)) := ⟨ns.map fun n : Nat => (n : Int), by unfold intsD; rw [List.map_map]; rfl⟩
def keysT (ks : List D) : List (D × D) := ks.map fun k => (k, .bl true)
theorem keysT_fst (ks : List D) : (keysT ks).map (·.1) = ks := by unfold keysT; rw [List.map_map]; exact List.map_id _
theorem dput_T (ks : List D) (k : D) : dput (keysT ks) k (.bl true) = keysT (addT ks k) := by
  by_cases h : k ∈ ks
  · have e : (dget (keysT ks) k).isSome = true := by
      cases e : dget (keysT ks) k with
      | none => rw [dget_none_iff, keysT_fst] at e; exact absurd h e
      | some d => rfl
    unfold dput
    rw [if_pos e, addT_mem h]
    unfold keysT
    rw [List.map_map]
    apply List.map_congr_left
    intro a _
    simp only [Function.comp]
    split <;> rfl
  · rw [addT_not h, dput_new (by rw [dget_none_iff, keysT_fst]; exact h)]
    unfold keysT
    rw [List.map_append]
    rfl
theorem addT_len (ks : List D) (k : D) : (addT ks k).length ≤ ks.length + 1 := by unfold addT; split <;> simp
theorem cut_take (ds : List D) (l : Nat) : cutD ds none (some (l : Int)) = ds.take l := by
  unfold cutD
  rw [HT.sIx_none, HT.sIx_nat, List.drop_zero, Nat.sub_zero]
  by_cases h : l ≤ ds.length
  · rw [Nat.min_eq_left h]
  · rw [List.take_of_length_le (by omega), List.take_of_length_le (by omega)]
theorem addT_ti {ks : List D} {k : D} (h : ∀ d ∈ ks, TI d) (hk : TI k) : ∀ d ∈ addT ks k, TI d := by
  intro d hd
  unfold addT at hd
  split at hd
  · exact h d hd
  · rcases List.mem_append.mp hd with z | z
    · exact h d z
    · rw [List.mem_singleton.mp z]; exact hk
def innerD (f d i : Nat) (acc : List D) (n : Nat) : List D := (List.range n).foldl (fun acc l => addT acc (tkD f d i l)) acc
theorem inner_succ (f d i : Nat) (acc : List D) (n : Nat) : innerD f d i acc (n + 1) = addT (innerD f d i acc n) (tkD f d i n) := by unfold innerD; rw [List.range_succ, List.foldl_append]; rfl
theorem found_snoc (f d : Nat) (is : List Nat) (i : Nat) : foundD f d (is ++ [i]) = innerD f d i (foundD f d is) d := by unfold foundD innerD; rw [List.foldl_append]; rfl
theorem rdp_prefixes (m : Gm) (ds : List D) (G : GH) (Q : GQ) (h : sp_prefixes m ds G Q) : rd_prefixes m (bodyEnds Q) (gstart N_prefixes ds) G := by
  obtain ⟨p, S, a, is, rfl, hs, ha, hl, ht, k⟩ := h
  rw [show gstart N_prefixes [.ref p, .ref a] = [some (.ref p), some (.ref a), none, none, none, none] from rfl]
  unfold rd_prefixes
  have d6 := hs.2.d6
  refine go fun t hn => go (i_itL ((set_ne (gne_none ha hn)).trans ha) ?_)
  refine i_turns (fun j σ' G' => ∃ x3 x4 x5, σ' = [some (.ref p), some (.ref a), some (.ref t), x3, x4, x5] ∧ Keep G G' [] ∧ G' t = some (.dct .nk (keysT (foundD S.f S.d (is.take j)))) ∧ (foundD S.f S.d (is.take j)).length ≤ j * 6 ∧ ∀ d ∈ foundD S.f S.d (is.take j), TI d)
    ⟨none, none, none, rfl, Keep.new hn [], set_same, by simp [foundD], by simp [foundD]⟩ ?_ ?_
  · rintro j d σ' G' hi hok ⟨x3, x4, x5, rfl, kk, hf, hln, hti⟩
    unfold intsD at hi
    rw [List.getElem?_map] at hi
    obtain ⟨i, hz, rfl⟩ := Option.map_eq_some_iff.mp hi
    have hj := (List.getElem?_eq_some_iff.mp hz).1
    unfold rd_prefixes_2
    refine go (i_methR (hs.keep kk (by simp)).1 (sp := sp_shape_way) rfl (go ⟨p, S, i, rfl, hs.keep kk (by simp), fun G1 k1 => go ?_⟩))
    have kk1 : Keep G G1 [] := kk.same k1
    refine i_fldR (hs.keep kk1 (by simp)).1 (d := .int S.d) rfl (go ⟨by omega, by omega, ?_⟩)
    refine i_turns (fun n σ2 G2 => ∃ x5, σ2 = [some (.ref p), some (.ref a), some (.ref t), some (.int i), some (wayD S.f S.d i), x5] ∧ Keep G G2 [] ∧ G2 t = some (.dct .nk (keysT (innerD S.f S.d i (foundD S.f S.d (is.take j)) n))) ∧ (innerD S.f S.d i (foundD S.f S.d (is.take j)) n).length ≤ j * 6 + n ∧ ∀ d ∈ innerD S.f S.d i (foundD S.f S.d (is.take j)) n, TI d)
      ⟨x5, rfl, kk1, k1 _ _ hf (by simp), hln, hti⟩ ?_ ?_
    · rintro n d σ2 G2 hi2 _ ⟨x5, rfl, kk2, hf2, hln2, hti2⟩
      rw [List.getElem?_map] at hi2
      obtain ⟨n', hn', rfl⟩ := Option.map_eq_some_iff.mp hi2
      obtain ⟨hn1, hn2⟩ := List.getElem?_eq_some_iff.mp hn'
      rw [List.getElem_range] at hn2
      subst hn2
      rw [List.length_range] at hn1
      unfold rd_prefixes_1
      refine go ?_
      have e : gCut (wayD S.f S.d i) none (some (n : Int)) G2 = fun Q => Q (tkD S.f S.d i n) G2 := by
        funext Q
        show Q (.tup (cutD _ _ _)) G2 = _
        rw [cut_take]
        unfold tkD intsD
        rw [List.map_take]
      rw [e]
      refine go (i_putN hf2 (pkd_ints _) ?_ (go ⟨True.intro, some (.int n), rfl, ?_, ?_, ?_, ?_⟩))
      · unfold keysT
        rw [List.length_map]
        exact Nat.lt_of_lt_of_le (show _ < 1000 by omega) (by decide)
      · exact fun b o e n => by
          have z := kk2 b o e n
          rw [set_ne (fun y => by rw [y, hn] at e; cases e)]
          exact z
      · rw [set_same, inner_succ]
        exact congrArg (fun z => some (GO.dct .nk z)) (dput_T _ _)
      · rw [inner_succ]
        have := addT_len (innerD S.f S.d i (foundD S.f S.d (is.take j)) n) (tkD S.f S.d i n)
        omega
      · rw [inner_succ]
        exact addT_ti hti2 (ti_ints _)
    · rintro σ2 G2 _ ⟨x5, rfl, kk2, hf2, hln2, hti2⟩
      rw [List.length_map, List.length_range, show ((S.d : Int)).toNat = S.d by omega] at hf2 hln2 hti2
      have e : is.take (j + 1) = is.take j ++ [i] := by rw [List.take_add_one, hz]; rfl
      rw [← found_snoc, ← e] at hf2 hln2 hti2
      exact go ⟨kk2 _ _ ha (by simp), _, _, _, rfl, kk2, hf2, by omega, hti2⟩
  · rintro σ' G' hok ⟨x3, x4, x5, rfl, kk, hf, hln, hti⟩
    rw [intsD_len, List.take_length] at hf hln hti
    refine go ⟨foundD S.f S.d is, ?_, hti, ht.keep kk, fun l hl => go ?_⟩
    · unfold keysG
      simp only [hf, keysT_fst]
    · refine k l _ set_same ?_ (kk.trans (Keep.new hl []) |>.sub (by simp))
      exact Keep.fresh kk hl (by simp)
theorem len_prefixes (m : Gm) (ds : List D) (G : GH) (Q : GQ) (h : sp_prefixes m ds G Q) : ds.length = 2 := by obtain ⟨p, S, a, is, rfl, _⟩ := h; rfl
theorem rdp_needed (m : Gm) (ds : List D) (G : GH) (Q : GQ) (h : sp_needed m ds G Q) : rd_needed m (bodyEnds Q) (gstart N_needed ds) G := by
  obtain ⟨p, S, a, is, rfl, hs, ha, hl, ht, k⟩ := h
  rw [show gstart N_needed [.ref p, .ref a] = [some (.ref p), some (.ref a)] from rfl]
  unfold rd_needed
  refine go (i_lenL ha (go ⟨p, S, a, is, rfl, hs, ha, hl, ht, fun l G' h1 h2 h3 => go (i_lenL h1 (go ?_))⟩))
  have := k G' h3
  rw [intsD_len]
  simpa using this
theorem len_needed (m : Gm) (ds : List D) (G : GH) (Q : GQ) (h : sp_needed m ds G Q) : ds.length = 2 := by obtain ⟨p, S, a, is, rfl, _⟩ := h; rfl
/-! ### the law's shapes -/
theorem i_draw {a c : Addr} {n : Int} {G : GH} {Q : GQ} (st : St G a c) (h0 : 0 < n) (h1 : n < 1073741824) (k : ∀ r G', 0 ≤ r → r < n → St G' a c → Keep G G' [a, c] → Q (.int r) G') : sp_Ldraw [.ref a, .int n] G Q := ⟨a, c, n, rfl, st, h0, h1, k⟩
theorem St.new {G : GH} {a c p : Addr} {o : GO} (h : St G a c) (hp : G p = none) : St (G.set p o) a c := h.keep (Keep.new hp []) (by simp) (by simp)
theorem St.nea {G : GH} {a c p : Addr} (h : St G a c) (hp : G p = none) : p ≠ a := fun e => by obtain ⟨_, _, h1, _⟩ := h; rw [← e, hp] at h1; cases h1
theorem St.nec {G : GH} {a c p : Addr} (h : St G a c) (hp : G p = none) : p ≠ c := fun e => by obtain ⟨_, _, _, h1, _⟩ := h; rw [← e, hp] at h1; cases h1
theorem rdp_Lleaves (m : Gm) (ds : List D) (G : GH) (Q : GQ) (h : sp_Lleaves ds G Q) : rd_Lleaves m (bodyEnds Q) (gstart N_Lleaves ds) G := by
  obtain ⟨p, S, rfl, hs, q⟩ := h
  rw [show gstart N_Lleaves [.ref p] = [some (.ref p), none, none] from rfl]
  unfold rd_Lleaves
  have d6 := hs.2.d6
  have f4 := hs.2.f4
  refine go (i_fldR hs.1 (d := .int S.d) rfl (go ⟨by omega, by omega, ?_⟩))
  refine i_turns (fun i σ' G' => ∃ x2, σ' = [some (.ref p), some (.int ((S.f ^ i : Nat) : Int)), x2] ∧ G' = G) ⟨none, rfl, rfl⟩ ?_ ?_
  · rintro i d σ' G' hi _ ⟨x2, rfl, rfl⟩
    refine go (i_fldR hs.1 (d := .int S.f) rfl (go (i_mulI (.inr (by omega)) (go ⟨True.intro, some d, ?_, rfl⟩))))
    rw [Nat.pow_succ, Int.natCast_mul]
  · rintro σ' G' _ ⟨x2, rfl, rfl⟩
    refine go ?_
    simpa using q
theorem len_Lleaves (ds : List D) (G : GH) (Q : GQ) (h : sp_Lleaves ds G Q) : ds.length = 1 := by obtain ⟨p, S, rfl, _⟩ := h; rfl
def csum (f : Nat) : Nat → Nat
  | 0 => 0
  | i + 1 => csum f i + f ^ i
theorem csum_cells (f : Nat) : ∀ d : Nat, csum f (d + 1) = cellsN f d
  | 0 => by simp [csum, cellsN]
  | d + 1 => by rw [csum, csum_cells f d, cellsN]
theorem ample_le : ∀ f ≤ 4, ∀ d ≤ 6, ∀ s ≤ 3, f ^ d ≤ 64 → ampleN f d s ≤ 635 := by decide +kernel
theorem ample_ge : ∀ f ≤ 4, ∀ d ≤ 6, ∀ s ≤ 3, 1 ≤ f → d + 1 ≤ ampleN f d s := by decide +kernel
theorem rdp_Lshape (m : Gm) (ds : List D) (G : GH) (Q : GQ) (h : sp_Lshape ds G Q) : rd_Lshape m (bodyEnds Q) (gstart N_Lshape ds) G := by
  obtain ⟨a, c, kb, rfl, hkb, st, k⟩ := h
  rw [show gstart N_Lshape [.ref a, .int kb] = [some (.ref a), some (.int kb), none, none, none, none, none, none, none, none, none] from rfl]
  unfold rd_Lshape
  refine go (i_draw st (by decide) (by decide) fun r1 G1 r10 r11 st1 k1 => go fun p hp => go ?_)
  obtain ⟨f, hf⟩ : ∃ f : Nat, (2 + r1 : Int) = f := ⟨(2 + r1).toNat, by omega⟩
  rw [hf]
  have f2 : 2 ≤ f := by omega
  have f4 : f ≤ 4 := by omega
  obtain ⟨dm, hat, hdm⟩ : ∃ dm : Nat, atI [D.int 6, D.int 3, D.int 3] ((f : Int) - 2) = some (.int dm) ∧ (dm = if f = 2 then 6 else 3) := by
    have : f = 2 ∨ f = 3 ∨ f = 4 := by omega
    rcases this with rfl | rfl | rfl
    · exact ⟨6, rfl, rfl⟩
    · exact ⟨3, rfl, rfl⟩
    · exact ⟨3, rfl, rfl⟩
  have hdm6 : dm ≤ 6 := by rw [hdm]; split <;> omega
  have hdm0 : 0 < dm := by rw [hdm]; split <;> omega
  refine i_ixL set_same hat (go (i_draw (st1.new hp) (by omega) (by omega) fun r2 G2 r20 r21 st2 k2 => go ?_))
  obtain ⟨d, hd⟩ : ∃ d : Nat, (1 + r2 : Int) = d := ⟨(1 + r2).toNat, by omega⟩
  rw [hd]
  have d1 : 1 ≤ d := by omega
  have d6 : d ≤ 6 := by omega
  have lv : f ^ d ≤ 64 := by
    have hd2 : d ≤ if f = 2 then 6 else 3 := by rw [← hdm]; omega
    have key : ∀ f ≤ 4, 2 ≤ f → ∀ d ≤ 6, (d ≤ if f = 2 then 6 else 3) → f ^ d ≤ 64 := by decide +kernel
    exact key f f4 f2 d d6 hd2
  refine i_draw st2 (by decide) (by decide) fun r3 G3 r30 r31 st3 k3 => go ?_
  obtain ⟨w, hw⟩ : ∃ w : Nat, (1 + r3 : Int) = w := ⟨(1 + r3).toNat, by omega⟩
  rw [hw]
  refine i_draw st3 (by decide) (by decide) fun r4 G4 r40 r41 st4 k4 => go ⟨by omega, by omega, ?_⟩
  obtain ⟨s, hs⟩ : ∃ s : Nat, (r4 : Int) = s := ⟨r4.toNat, by omega⟩
  rw [hs]
  have kk4 : Keep G G4 [a, c] := ((((k1.trans (Keep.new hp [])).trans k2).trans k3).trans k4).sub (by simp)
  refine i_turns (fun i σ' G' => ∃ x8, σ' = [some (.ref a), some (.int kb), some (.int f), some (.int d), some (.int w), some (.int s), some (.int (csum f i : Nat)), some (.int ((f ^ i : Nat) : Int)), x8, none, none] ∧ G' = G4) ⟨none, by simp [csum], rfl⟩ ?_ ?_
  · rintro i dd σ' G' hi _ ⟨x8, rfl, rfl⟩
    unfold rd_Lshape_1
    refine go (i_mulI (.inr (by omega)) (go ⟨True.intro, some dd, ?_, rfl⟩))
    rw [Nat.pow_succ, Int.natCast_mul, csum, Int.natCast_add]
  · rintro σ' G' _ ⟨x8, rfl, rfl⟩
    rw [List.length_map, List.length_range, show ((d : Int) + 1).toNat = d + 1 by omega, csum_cells]
    unfold rd_Lshape_2
    have am : ((s : Int) + 2) * (cellsN f d : Nat) = (ampleN f d s : Nat) := by unfold ampleN; rw [Int.natCast_mul, Int.natCast_add]; rfl
    have al := ample_le f f4 d d6 s (by omega) lv
    have ag := ample_ge f f4 d d6 s (by omega) (by omega)
    refine go (i_mulI (.inl (by omega)) (go ?_))
    rw [am]
    refine i_draw st4 (by decide) (by decide) fun r5 G5 r50 r51 st5 k5 => go (i_draw st5 (by omega) (by omega) fun r6 G6 r60 r61 st6 k6 => go fun p2 hp2 => go ?_)
    obtain ⟨x, hx, hx2, hx3, hx4⟩ : ∃ x : Nat, atI [D.int (ampleN f d s : Nat), D.int ((ampleN f d s : Nat) + r5), D.int (if (ampleN f d s : Nat) - r6 > (d : Int) + 1 then (ampleN f d s : Nat) - r6 else (d : Int) + 1)] (kb : Int) = some (.int x) ∧ (kb = 0 → x = ampleN f d s) ∧ (kb = 1 → ampleN f d s ≤ x) ∧ d + 1 ≤ x ∧ x ≤ 700 := by
      have : kb = 0 ∨ kb = 1 ∨ kb = 2 := by omega
      rcases this with rfl | rfl | rfl
      · exact ⟨ampleN f d s, rfl, fun _ => rfl, fun z => by omega, by omega, by omega⟩
      · refine ⟨((ampleN f d s : Nat) + r5 : Int).toNat, ?_, fun z => by omega, fun _ => by omega, by omega, by omega⟩
        rw [Int.toNat_of_nonneg (by omega)]
        rfl
      · refine ⟨(if (ampleN f d s : Nat) - r6 > (d : Int) + 1 then (ampleN f d s : Nat) - r6 else (d : Int) + 1 : Int).toNat, ?_, fun z => by omega, fun z => by omega, by split <;> omega, by split <;> omega⟩
        rw [Int.toNat_of_nonneg (by split <;> omega)]
        rfl
    refine i_ixL set_same hx (go ?_)
    rw [if_pos (show (x : Int) < 1000 by omega)]
    refine fun p3 hp3 => ⟨p3, ⟨f, d, w, x, s⟩, rfl, ⟨f2, f4, d1, d6, lv, (by show 1 ≤ w; omega), (by show w ≤ 4; omega), hx4.1, (by show x ≤ 1000; omega), (by show s ≤ 3; omega)⟩, set_same, fun G' hs' k' => ⟨rfl, go ?_⟩⟩
    have z0 : Keep G (G6.set p2 (.lst [D.int (ampleN f d s : Nat), D.int ((ampleN f d s : Nat) + r5), D.int (if (ampleN f d s : Nat) - r6 > (d : Int) + 1 then (ampleN f d s : Nat) - r6 else (d : Int) + 1)])) [a, c] := (((kk4.trans k5).trans k6).trans (Keep.new hp2 [])).sub (by simp)
    have s6 := st6.new (o := .lst [D.int (ampleN f d s : Nat), D.int ((ampleN f d s : Nat) + r5), D.int (if (ampleN f d s : Nat) - r6 > (d : Int) + 1 then (ampleN f d s : Nat) - r6 else (d : Int) + 1)]) hp2
    have na := s6.nea hp3
    have nc := s6.nec hp3
    have g3 : G p3 = none := z0.fresh hp3 (by simp [na, nc])
    exact k p3 ⟨f, d, w, x, s⟩ G' hs' hx2 hx3 ((s6.new hp3).keep k' (by simp [na.symm]) (by simp [nc.symm])) (fun b o e n => k' b o (Keep.new hp3 [] b o (z0 b o e n) (by simp)) (by simp [gne_none e g3])) g3
theorem len_Lshape (ds : List D) (G : GH) (Q : GQ) (h : sp_Lshape ds G Q) : ds.length = 2 := by obtain ⟨a, c, kb, rfl, _⟩ := h; rfl
end Cz

/-! CzLam: defs with a lambda: what the head tells of their code tables; the law's first heap. -/
namespace Cz
open PySem PySem.Spec PyProof.Rows L2
/-- what a def with a lambda knows of its code -/
def LamT (base : Heap) (mg : Str → Option Value) (m : Gm) (c : Addr) (qual : Str) : Prop := ∃ P, LamX.TabB base mg c P ∧ (P, qual ++ ".<locals>." ++ "<lambda>") ∈ m.tabs ∧ ∀ p ∈ m.tabs, p.1 = P → p.2 = qual ++ ".<locals>." ++ "<lambda>"
section
variable {P : Program} {w : World} {K : PySem.W.Frag} {mg : Str → Option Value} {base : Heap} {m : Gm}
/-- THE RULE for a def whose code object is known -/
theorem fn_okC {x qual : Str} {params : Arguments} {body : List Stmt} {scope : Scope} {dvs : List V} {kws : List (Str × V)} {f c : Addr} {fd : FuncData} {N ps : List Str} {k : Nat} {sp : GSp} {t : GS} (F : FunD K x qual params body scope dvs kws f fd) (hc : fd.code = .ref c) (T : LamT base mg m c qual) (S : FnScope N ps scope)
    (len : ∀ ds G Q, sp ds G Q → ds.length = ps.length)
    (hb : ∀ (A : Around) (outer : List Env) (s : Shared) (H : Hp) (E : XK), Room k (A.deeper (envOfC qual scope s.heap.objs.size f (.ref c))) → LamAt m (cxOf CX0 P w K mg base N qual scope f (.ref c) A outer s H E).nox → QB m (cxOf CX0 P w K mg base N qual scope f (.ref c) A outer s H E).nox body t)
    (rd : ∀ ds G Q, sp ds G Q → t (bodyEnds Q) (gstart N ds) G) : FnOk P w K mg base CX0 (k + 1) f fd ps (low w K m sp) := by
  obtain ⟨oc, od, dV, kV, doc, pm, an, cdv, ct, osl, rfl, lk, hcd, _, _⟩ := F.ex
  have hc2 : cdv = .ref c := hc
  subst hc2
  obtain ⟨Pt, T1, T2, T3⟩ := T
  refine fn_of lk hcd S (fun vs H Q E ⟨ds, G, Qg, hd, _, h, _⟩ => by rw [← hd.length]; exact len ds G Qg h) fun A outer s H vs Q E hr ⟨ds, G, Qg, hd, C, h, hq⟩ => ?_
  refine ⟨wB (cxOf CX0 P w K mg base N qual scope f (.ref c) A outer s H E).nox body, (wB_pss _).nox, ?_⟩
  refine wB_mono ((hb A outer s H E hr ⟨c, Pt, T1, rfl, T2, T3⟩).run (L2.start N vs) H (gstart N ds) G (bodyEnds Qg) (sl_start hd) C (rd ds G Qg h)) ⟨fun τ H' ⟨σ, G', k', S', C', q⟩ => hq .non G' .non H' k' C' (dat_non.mpr rfl) q, fun v H' ⟨d, G', k', C', hd', q⟩ => hq d G' v H' k' C' hd' q, fun _ _ ⟨_, _, _, _, _, q⟩ => q, fun _ _ ⟨_, _, _, _, _, q⟩ => q⟩
end
/-! ### the head's hook -/
def lamTab (K : PySem.W.Frag) (p : Str × Option Str) : Addr × Addr := match K.lookup (He.fAd K p) with
  | some ⟨_, _, .func fd, _⟩ => (match fd.code with
    | .ref c => (match K.lookup c with
      | some ⟨_, _, .fields vs, _⟩ => (match (vs[11]? : Option Value) with
        | some (.ref P) => (c, P)
        | _ => (0, 0))
      | _ => (0, 0))
    | _ => (0, 0))
  | _ => (0, 0)
def codeB (K : PySem.W.Frag) (f c : Addr) : Bool := match K.lookup f with
  | some ⟨_, _, .func fd, _⟩ => (match fd.code with
    | .ref c' => c' == c
    | _ => false)
  | _ => false
def noneB (K : PySem.W.Frag) (P : Addr) : Bool := match K.lookup P with
  | none => true
  | some _ => false
def emptyB (K : PySem.W.Frag) (P : Addr) : Bool := match K.lookup P with
  | some ⟨.none, none, .fields vs, osl⟩ => vs.toList.isEmpty && osl.toList.isEmpty
  | _ => false
abbrev Lam : Type := List ((Str × Option Str) × Str)
def tabsZ (K0 : PySem.W.Frag) (lam : Lam) : List (Addr × Str) := lam.map fun p => ((lamTab K0 p.1).2, p.2)
def lookB (T : List (Addr × Str)) : Bool := T.all fun p => decide (T.lookup p.1 = some p.2)
def lamB (K0 K : PySem.W.Frag) (lam : Lam) : Bool := lookB (tabsZ K0 lam) && lam.all fun p => codeB K (He.fAd K p.1) (lamTab K0 p.1).1 && (PySem.W.codeHdIn K0 (lamTab K0 p.1).1 (lamTab K0 p.1).2 && (emptyB K0 (lamTab K0 p.1).2 && noneB K (lamTab K0 p.1).2))
def frZ (g : Addr → Option Obj) (as : List Addr) (lam : Lam) : PySem.W.Frag := He.frG g (as.filter fun a => !(lam.any fun p => a == (lamTab (He.frG g as) p.1).2))
def obsZ (n : Nat) (fa : List He.Fa) (fn : List He.DefD) (lam : Lam) (g : Addr → Option Obj) : He.AlD × Bool := (He.obsD fa fn (frZ g (He.asD g n) lam), lamB (He.frG g (He.asD g n)) (frZ g (He.asD g n) lam) lam)
def SaysZ (fa : List He.Fa) (fn : List He.DefD) (lam : Lam) (h : Heap) : Prop := ∃ K0 K : PySem.W.Frag, K0.In h ∧ K.In h ∧ He.SaysD fa fn K ∧ lamB K0 K lam = true
def hookZ (n : Nat) (fa : List He.Fa) (fn : List He.DefD) (lam : Lam) : PySem.W.Hook where
  α := He.AlD × Bool
  obs := fun s => obsZ n fa fn lam s.heap.get?
  val := fun _ => (He.valD fn, true)
  says := fun _ h => SaysZ fa fn lam h
  of := fun _ _ e => ⟨_, _, He.frG_in, He.frG_in, congrArg Prod.fst e, congrArg Prod.snd e⟩
  keeps := fun _ _ _ ⟨K0, K, h0, hK, c, d⟩ k => ⟨K0, K, PySem.W.Frag.In.keeps h0 k, PySem.W.Frag.In.keeps hK k, c, d⟩
theorem obsZ_eq {n : Nat} {fa : List He.Fa} {fn : List He.DefD} {lam : Lam} {g : Addr → Option Obj} {s : Shared} (h : ∀ a, g a = s.heap.get? a) : obsZ n fa fn lam g = (hookZ n fa fn lam).obs s := by
  have e : g = s.heap.get? := funext h
  rw [e] <;> rfl
/-- what the hook's word on the lambdas means -/
theorem lamB_ok {K0 K : PySem.W.Frag} {lam : Lam} {h : Heap} (h0 : K0.In h) (e : lamB K0 K lam = true) : (∀ p ∈ tabsZ K0 lam, (tabsZ K0 lam).lookup p.1 = some p.2) ∧
    ∀ p ∈ lam, h.get? (lamTab K0 p.1).2 = some { cls := .none, data := .fields #[] } ∧ K.lookup (lamTab K0 p.1).2 = none ∧ PySem.W.CodeHd h (lamTab K0 p.1).1 (lamTab K0 p.1).2 ∧
      ∀ {oc : Value} {od : Option Addr} {fd : FuncData} {osl : Array (Option Value)}, K.lookup (He.fAd K p.1) = some ⟨oc, od, .func fd, osl⟩ → fd.code = .ref (lamTab K0 p.1).1 := by
  obtain ⟨e1, e2⟩ := He.ba e
  refine ⟨fun p hp => of_decide_eq_true (List.all_eq_true.mp e1 p hp), fun p hp => ?_⟩
  obtain ⟨e3, e4⟩ := He.ba (List.all_eq_true.mp e2 p hp)
  obtain ⟨e5, e6⟩ := He.ba e4
  obtain ⟨e7, e8⟩ := He.ba e6
  refine ⟨?_, ?_, PySem.W.codeHd_of_K h0 e5, fun {oc od fd osl} lk => ?_⟩
  · unfold emptyB at e7
    split at e7
    · rename_i vs osl q
      obtain ⟨z1, z2⟩ := He.ba e7
      have y1 : vs = #[] := by
        cases vs with | mk l => cases l with | nil => rfl | cons _ _ => cases z1
      have y2 : osl = #[] := by
        cases osl with | mk l => cases l with | nil => rfl | cons _ _ => cases z2
      subst y1 y2
      exact h0 _ _ q
    · cases e7
  · unfold noneB at e8
    cases q : K.lookup (lamTab K0 p.1).2 with
    | none => rfl
    | some _ => rw [q] at e8; cases e8
  · unfold codeB at e3
    rw [lk] at e3
    cases q : fd.code with
    | ref c' =>
      simp only [q] at e3
      rw [beq_iff_eq.mp e3]
    | _ => simp only [q] at e3; cases e3
theorem lamT_of {K0 K : PySem.W.Frag} {lam : Lam} {h base : Heap} {mg : Str → Option Value} {m : Gm} {q : Str} {p : (Str × Option Str) × Str} (h0 : K0.In h) (e : lamB K0 K lam = true) (TB : ∀ p ∈ lam, LamX.TabB base mg (lamTab K0 p.1).1 (lamTab K0 p.1).2) (hp : p ∈ lam) (hq : p.2 = q ++ ".<locals>." ++ "<lambda>" := by rfl) (hm : m.tabs = tabsZ K0 lam := by rfl) :
    LamT base mg m (lamTab K0 p.1).1 q := by
  have l := (lamB_ok h0 e).1
  have hmem : ((lamTab K0 p.1).2, p.2) ∈ tabsZ K0 lam := List.mem_map_of_mem (f := fun p : (Str × Option Str) × Str => ((lamTab K0 p.1).2, p.2)) hp
  refine ⟨(lamTab K0 p.1).2, TB p hp, by rw [hm, ← hq]; exact hmem, fun r hr er => ?_⟩
  rw [hm] at hr
  have l1 := l r hr
  have l2 := l _ hmem
  rw [er] at l1
  rw [← hq]
  exact Option.some.inj (l1.symm.trans l2)
/-- the law's first heap: the code tables -/
def G0 (T : List (Addr × Str)) : GH := fun b => (T.lookup b).map GO.tab
theorem lookup_mem' : ∀ {T : List (Addr × Str)} {b : Addr} {q : Str}, T.lookup b = some q → (b, q) ∈ T
  | [], _, _, h => nomatch h
  | (c, r) :: T, b, q, h => by
    rw [List.lookup_cons] at h
    cases e : (b == c) with
    | true =>
      rw [e] at h
      cases h
      rw [beq_iff_eq.mp e]
      exact List.mem_cons_self
    | false =>
      rw [e] at h
      exact List.mem_cons_of_mem _ (lookup_mem' h)
theorem low_lawT {w : World} {K : PySem.W.Frag} {m : Gm} {H : Hp} {a : Addr} {ns : List Int} {E : XK} {sp : GSp} (hk : ∀ p ∈ m.tabs, m.tabs.lookup p.1 = some p.2) (hT : ∀ p ∈ m.tabs, H p.1 = some (.tbl #[])) (hs : SqL K H a (ns.map V.int))
    (hsp : ∀ x G Q, itemsG x G = some (ns.map .int) → TabsG m G → (∀ G', Q (.bl true) G') → sp [x] G Q) : low w K m sp [.ref a] H (fun v _ => v = .bl true) E := by
  have all : All2 (Dat K H) (ns.map D.int) (ns.map V.int) := by
    clear hs hsp
    induction ns with
    | nil => exact .nil
    | cons n ns ih => exact .cons (dI n) ih
  have c0 : Cpl w K m H (G0 m.tabs) := fun b o e => by
    unfold G0 at e
    obtain ⟨q, hq, rfl⟩ := Option.map_eq_some_iff.mp e
    have hm := lookup_mem' hq
    exact ⟨⟨#[], hT _ hm, by first | exact trivial | simp [TriplesOk] | decide, fun pos cv z => by first | (cases z; done) | simp [codeAmong] at z⟩, hm⟩
  have t0 : TabsG m (G0 m.tabs) := fun p hp => by unfold G0; rw [hk p hp]; rfl
  have fin : ∀ d G' v H', KeepT H H' → Cpl w K m H' G' → Dat K H' d v → d = D.bl true → v = V.bl true := fun d G' v H' _ _ hd e => by
    rw [e] at hd
    exact dat_bl.mp hd
  rcases hs with (h | ⟨o, h⟩) | h
  · refine ⟨[.ref a], (G0 m.tabs).set a (.lst (ns.map .int)), fun d _ => d = .bl true, .cons (dat_ref.mpr rfl) .nil, fun b o e => ?_, hsp _ _ _ (by show (match (G0 m.tabs).set a (.lst (ns.map .int)) a with | some (.lst ds) => some ds | _ => none) = some (ns.map D.int); rw [set_same]) (fun p hp => ?_) (fun _ => rfl), fin⟩
    · by_cases z : b = a
      · subst z
        rw [set_same] at e
        cases e
        exact ⟨_, h, all⟩
      · rw [set_ne z] at e
        exact c0 b o e
    · rw [set_ne (fun z => by have := hT p hp; rw [z, h] at this; cases this)]
      exact t0 p hp
  · refine ⟨[.ro (ns.map .int)], G0 m.tabs, fun d _ => d = .bl true, .cons ?_ .nil, c0, hsp _ _ _ rfl t0 (fun _ => rfl), fin⟩
    unfold Dat
    exact ⟨a, ns.map V.int, rfl, .inl ⟨o, h⟩, dats_all2.mpr all⟩
  · refine ⟨[.ro (ns.map .int)], G0 m.tabs, fun d _ => d = .bl true, .cons ?_ .nil, c0, hsp _ _ _ rfl t0 (fun _ => rfl), fin⟩
    unfold Dat
    exact ⟨a, ns.map V.int, rfl, .inr (.inr h), dats_all2.mpr all⟩
end Cz

/-! CzHook: the head's hook, with lambdas' tables and one more word. -/
namespace Cz
open PySem PySem.Spec PyProof.Rows L2
def asY (g : Addr → Option Obj) (n : Nat) : List Addr := He.asD g n ++ [cStatics]
def obsY (n : Nat) (fa : List He.Fa) (fn : List He.DefD) (lam : Lam) (xb : PySem.W.Frag → Bool) (g : Addr → Option Obj) : He.AlD × Bool :=
  (He.obsD fa fn (frZ g (asY g n) lam), lamB (He.frG g (asY g n)) (frZ g (asY g n) lam) lam && xb (frZ g (asY g n) lam))
def SaysY (fa : List He.Fa) (fn : List He.DefD) (lam : Lam) (xb : PySem.W.Frag → Bool) (h : Heap) : Prop := ∃ K0 K : PySem.W.Frag, K0.In h ∧ K.In h ∧ He.SaysD fa fn K ∧ lamB K0 K lam = true ∧ xb K = true
def hookY (n : Nat) (fa : List He.Fa) (fn : List He.DefD) (lam : Lam) (xb : PySem.W.Frag → Bool) : PySem.W.Hook where
  α := He.AlD × Bool
  obs := fun s => obsY n fa fn lam xb s.heap.get?
  val := fun _ => (He.valD fn, true)
  says := fun _ h => SaysY fa fn lam xb h
  of := fun _ _ e => ⟨_, _, He.frG_in, He.frG_in, congrArg Prod.fst e, (He.ba (congrArg Prod.snd e)).1, (He.ba (congrArg Prod.snd e)).2⟩
  keeps := fun _ _ _ ⟨K0, K, h0, hK, c, d, x⟩ k => ⟨K0, K, PySem.W.Frag.In.keeps h0 k, PySem.W.Frag.In.keeps hK k, c, d, x⟩
theorem obsY_eq {n : Nat} {fa : List He.Fa} {fn : List He.DefD} {lam : Lam} {xb : PySem.W.Frag → Bool} {g : Addr → Option Obj} {s : Shared} (h : ∀ a, g a = s.heap.get? a) : obsY n fa fn lam xb g = (hookY n fa fn lam xb).obs s := by
  have e : g = s.heap.get? := funext h
  rw [e] <;> rfl
/-- a class's own def, read off the class -/
def unB (K : PySem.W.Frag) (x n : Str) : Bool := PySem.W.readsIn K (He.ga K x) (.type "type") && (decide (PySem.W.specialIn K (.ref (He.ga K x)) "__getattribute__" = some (some (.builtin "type.__getattribute__"))) &&
  ((match PySem.W.findCls K (.ref (He.ga K x)) (.type "type") n with
    | some (.val (.ref f)) => decide (f = He.fAd K (x, some n))
    | _ => false) && PySem.W.keepIn K (.ref (He.fAd K (x, some n)))))
theorem unB_ok {K : PySem.W.Frag} {x n : Str} (h : unB K x n = true) : PySem.W.readsIn K (He.ga K x) (.type "type") = true ∧ PySem.W.specialIn K (.ref (He.ga K x)) "__getattribute__" = some (some (.builtin "type.__getattribute__")) ∧
    PySem.W.findCls K (.ref (He.ga K x)) (.type "type") n = some (.val (.ref (He.fAd K (x, some n)))) ∧ PySem.W.keepIn K (.ref (He.fAd K (x, some n))) = true := by
  obtain ⟨h1, h⟩ := He.ba h
  obtain ⟨h2, h⟩ := He.ba h
  obtain ⟨h3, h4⟩ := He.ba h
  refine ⟨h1, of_decide_eq_true h2, ?_, h4⟩
  split at h3
  · rename_i f e
    rw [e, of_decide_eq_true h3]
  · cases h3
/-- what isinstance asks of a class -/
def insB (K : PySem.W.Frag) (x : Str) : Bool := decide (PySem.W.findIn K (.ref (He.ga K x)) "__class__" = some (some (.builtin "object.__class__"))) && (decide (PySem.W.specialIn K (.builtin "object.__class__") "__get__" = some (some (.builtin "getset_descriptor.__get__"))) &&
  (decide (PySem.W.takesIn K (.builtin "object.__class__") = some true) && (decide (PySem.W.mroIn K (He.ga K x) (.type "object") = some true) && decide (PySem.W.kitOne K (.ref (He.ga K x)) (.ref (He.ga K x)) = some true))))
theorem insB_ok {K : PySem.W.Frag} {x : Str} (c : Cls K (He.ga K x)) (h : insB K x = true) : C8.InsC K (He.ga K x) := by
  obtain ⟨h1, h⟩ := He.ba h
  obtain ⟨h2, h⟩ := He.ba h
  obtain ⟨h3, h⟩ := He.ba h
  obtain ⟨h4, h5⟩ := He.ba h
  exact ⟨c, of_decide_eq_true h1, of_decide_eq_true h2, of_decide_eq_true h3, of_decide_eq_true h4, of_decide_eq_true h5⟩
def kiB (K : PySem.W.Frag) (x y : Str) (b : Bool) : Bool := decide (PySem.W.kitOne K (.ref (He.ga K x)) (.ref (He.ga K y)) = some b)
theorem kiB_ok {K : PySem.W.Frag} {x y : Str} {b : Bool} (h : kiB K x y b = true) : PySem.W.kitOne K (.ref (He.ga K x)) (.ref (He.ga K y)) = some b := of_decide_eq_true h
theorem huE {n : Nat} (h : n + 65 < cLine) : n < cLine := by omega
end Cz

/-! CzExc: the program's own error: made, raised through defs, caught. -/
namespace Cz
open PySem PySem.Spec PyProof.Rows L2
/-- what is told of ShapeError, at C, its base at B, its __init__ at f -/
structure ExC (K : PySem.W.Frag) (mg : Str → Option Value) (C B f : Addr) : Prop where
  o : OexC K C
  gC : mg "ShapeError" = some (.ref C)
  gB : mg "CaissonError" = some (.ref B)
  bR : PySem.W.readsIn K B (.type "type") = true
  bS : PySem.W.specialIn K (.ref B) "__getattribute__" = some (some (.builtin "type.__getattribute__"))
  bI : PySem.W.findCls K (.ref B) (.type "type") "__init__" = some (.val (.builtin "ValueError.__init__"))
  iC : PySem.W.findIn K (.ref C) "__init__" = some (some (.ref f))
  tI : PySem.W.typeIn K (.ref f) = some (.type "function")
  noN : PySem.W.findIn K (.ref C) "name" = some none
  xf : XfC K C
  te : PySem.W.exmOne K (.ref C) (.ref C) = some true
  cl : (PySem.W.clsIn K C).isSome = true
  ca : PySem.W.findIn K (.ref C) "__class__" = some (some (.builtin "object.__class__"))
  cg : PySem.W.specialIn K (.builtin "object.__class__") "__get__" = some (some (.builtin "getset_descriptor.__get__"))
  ct : PySem.W.takesIn K (.builtin "object.__class__") = some true
  co : PySem.W.mroIn K C (.type "object") = some true
  kB : PySem.W.kitOne K (.ref C) (.ref B) = some true
  kV : PySem.W.kitOne K (.ref C) (.type "ValueError") = some true
/-- the error's own dict -/
def xdN (n : Str) : HO := .xd [("name", .str n)]
/-- what is wished of the error: raised from H0 on, with the name n, in the data G -/
def XW (m : Gm) (X : Cx) (C : Addr) (H0 : Hp) (W : Str → GH → Prop) : WX := fun cls d _ H' => cls = .ref C ∧ ∃ (n : Str) (dx : Addr) (H1 : Hp) (G1 : GH), d = some dx ∧ H1 dx = none ∧ H' = upd H1 dx (xdN n) ∧ KeepT H0 H1 ∧ Cp m X H1 G1 ∧ W n G1
theorem XW.keep {m : Gm} {X : Cx} {C : Addr} {H0 H : Hp} {W : Str → GH → Prop} (k : KeepT H0 H) : ∀ c d σ H', XW m X C H W c d σ H' → XW m X C H0 W c d σ H' := fun c d σ H' ⟨e, n, dx, H1, G1, a, b, c', k', r⟩ => ⟨e, n, dx, H1, G1, a, b, c', k.trans k', r⟩
abbrev GX := Str → GH → Prop
abbrev GSX := GX → GS
abbrev GSpX := List D → GH → GQ → GX → Prop
structure QBX (m : Gm) (X : Cx) (C : Addr) (sts : List Stmt) (g : GSX) : Prop where
  run : ∀ (τ : L2.St) (H : Hp) (σ : GSt) (G : GH) (D : GEnds) (W : GX), Sl X.K H σ τ → Cp m X H G → Takes X (XW m X C H W) → g W D σ G → wB X sts (LD m X H D) τ H
/-- a promise that may end in the error -/
def lowX (w : World) (K : PySem.W.Frag) (m : Gm) (C : Addr) (sp : GSpX) : Sp := fun vs H Q E => ∃ (ds : List D) (G : GH) (Qg : GQ) (Wg : GX), All2 (Dat K H) ds vs ∧ Cpl w K m H G ∧ sp ds G Qg Wg ∧ (∀ d G' v H', KeepT H H' → Cpl w K m H' G' → Dat K H' d v → Qg d G' → Q v H') ∧
  ∀ n G' H' dx, KeepT H H' → Cpl w K m H' G' → Wg n G' → H' dx = none → E (.ref C) (some dx) (upd H' dx (xdN n))
section
variable {m : Gm} {X : Cx} {C B f : Addr} {st : Stmt} {sts rest : List Stmt} {gs : GS} {gb : GSX} {n k : Nat} {x : Str} {sp : GSpX} {p pos apos : Pos} {e : Expr} {es : List Expr} {ga : GA}
theorem qbx_nil : QBX m X C [] fun _ => gNext := ⟨fun τ H σ G D W S Cc tk q => wB_of pss_nil (LN.refl S Cc q)⟩
theorem qbx_cons (h : QS m X st gs) (r : QBX m X C rest gb) : QBX m X C (st :: rest) fun W => gSeq gs (gb W) := ⟨fun τ H σ G D W S Cc tk q => by
  refine wB_of (pss_cons (wS_ps st) (wB_pss rest)) ?_
  show wS X st { LD m X H D with nx := wB X rest (LD m X H D) } τ H
  refine wS_mono (h.run τ H σ G _ S Cc q) ⟨fun τ1 H1 ⟨σ1, G1, k1, S1, C1, q1⟩ => ?_, fun _ _ z => z, fun _ _ z => z, fun _ _ z => z⟩
  exact wB_mono (r.run τ1 H1 σ1 G1 D W S1 C1 (tk.imp (XW.keep k1)) q1) (LD.keep k1)⟩
/-- a call that may end in the error, as a statement -/
theorem qbx_call {fd : FuncData} {ps : List Str} {p2 : Pos} (F : FnOk X.prog X.w X.K X.mg X.base (L2.CX X.prog X.w) k f fd ps (lowX X.w X.K m C sp)) (hr : Room n X.A) (hle : k ≤ n) (hg : Gl X x) (hm : X.mg x = some (.ref f)) (hk : PySem.W.keepIn X.K (.ref f) = true) (hb : Binds X.K fd ps []) (ha : QA m X (e :: es) ga) (r : QBX m X C rest gb)
    (hdb : (x == ("__debug__" : Str)) = false := by decide) (he : starEach (e :: es) X.env = (false, eval e X.env) :: starEach es X.env := by rfl) (hpl : (backTo pos (starEach es X.env)).any (·.1) = false := by rfl) (hs : swapsWith (.Call (.Name x p) (e :: es) [] pos) none p2.line X.env = pure false := by rfl) :
    QBX m X C (.Expr (.Call (.Name x p) (e :: es) [] pos) p2 :: rest) fun W D σ G => ga σ G fun ds G1 => sp ds G1 (fun _ G2 => gb W D σ G2) W := ⟨fun τ H σ G D W S Cc tk q => by
  refine wB_of (pss_cons (ps_expr (wE_pe _) hs) (wB_pss rest)) ?_
  show wE X (.Call (.Name x p) (e :: es) [] pos) τ H fun _ H1 => wB X rest (LD m X H D) τ H1
  refine wE_of (pe_callS F (hr.mono hle) hg hm hk hb (fun σ => passAt tk σ) (wA_pa _) hdb he hpl) ?_
  refine wA_mono (ha.run τ H σ G _ S Cc q) fun vs H1 ⟨ds, G1, k1, C1, d1, q1⟩ => ?_
  refine ⟨ds, G1, _, W, d1, C1, q1, fun d G' v H' k' C' _ q2 => ?_, fun nm G' H' dx k' C' hw hdx => ⟨rfl, nm, dx, H', G', rfl, hdx, rfl, k1.trans k', C', hw⟩⟩
  exact wB_mono (r.run τ H' σ G' D W (S.keep (k1.trans k')) C' (tk.imp (XW.keep (k1.trans k'))) q2) (LD.keep (k1.trans k'))⟩
/-! ### the error's __init__ -/
/-- CaissonError.__init__(self, ..): ValueError's -/
theorem pe_cinit {mg : Str → Option Value} {pl : Sem Bool} {ta : TA} {p1 p2 : Pos} (T : ExC X.K X.mg C B f) (hg : Gl X "CaissonError") (ha : PA X (e :: es) ta)
    (hc : eval (.Call (.Attribute (.Name "CaissonError" p1) "__init__" p2) (e :: es) [] pos) X.env = (do
      let ov ← eval (.Name "CaissonError" p1) X.env
      standAt p2.atName
      let (f, first) ← holding [ov] (getMethod ov "__init__" pl)
      callWith pos f first (backTo pos (starEach (e :: es) X.env)) (backToKw pos (keywordEach [] X.env))) := by rfl)
    (he : starEach (e :: es) X.env = (false, eval e X.env) :: starEach es X.env := by rfl) (hpl : (backTo pos (starEach es X.env)).any (·.1) = false := by rfl) :
    PE X (.Call (.Attribute (.Name "CaissonError" p1) "__init__" p2) (e :: es) [] pos) (tVeI X.K ta) := by
  refine ⟨fun pins s σ H Q I h => ?_⟩
  refine PySem.W.methodCall_KW (ld_glob I hg T.gB ?_) hc
  refine PySem.W.method_cls I.kIn T.bS ?_
  refine PySem.W.cls_value I.kIn T.bR T.bI (by decide +kernel) ?_
  show wpAny _ _ (callWith pos (Value.builtin "ValueError.__init__") [] (backTo pos (starEach (e :: es) X.env)) []) _ _ _
  refine PyProof.Rows.callWith_method1 (thn (ha.run pos pins _ σ H _ (I.tok _) h) fun us s1 ⟨vs, H1, I1, r1, a, C', ws, ev, hl, T', ea, q⟩ => ?_) he hpl
  subst ev
  cases r1 with
  | @cons _ u0 _ ur ra rw' =>
    obtain rfl : u0 = Value.ref a := ra
    have hlen : ur.length ≤ sizeLine := by
      rw [← Paired.length rw', sizeLine_eq]
      omega
    exact oinit_ok T' I1 ea hlen fun s' J => ⟨.non, H1, J, rfl, q⟩
/-- ShapeError.__init__ -/
def spEI (K : PySem.W.Frag) (C : Addr) : Sp := fun vs H Q _ => ∃ (a : Addr) (y : V), vs = [.ref a, y] ∧ H a = some (exo a C none) ∧ ∀ dx, H dx = none → dx ≠ a → Q .non (upd (upd H dx (exd dx [("name", y)])) a (exo a C (some dx)))
def t_einit (K : PySem.W.Frag) (t : Str) : TS := tSeq (tDrop (tVeI K (tCons (tVar 0) (tCons (tC (.str t)) tNil)))) (tOst K "name" (tVar 0) (tVar 1))
theorem pure_einit {K : PySem.W.Frag} {mg : Str → Option Value} {t : Str} (T : ExC K mg C B f) (vs : List V) (H : Hp) (Q : VK) (E : XK) (h : spEI K C vs H Q E) : t_einit K t { nx := fun _ H' => Q .non H', rt := Q } (L2.start ["self", "name"] vs) H := by
  obtain ⟨a, y, rfl, ha, k⟩ := h
  refine ⟨_, rfl, a, C, [.str t], rfl, by simp, T.o, ha, ?_⟩
  refine ⟨_, rfl, _, rfl, a, C, rfl, T.o, T.noN, .inl ⟨ha, fun dx h1 h2 => k dx h1 h2⟩⟩
theorem ok_einit {P : Program} {w : World} {K : PySem.W.Frag} {mg : Str → Option Value} {base : Heap} {qual : Str} {params : Arguments} {body : List Stmt} {scope : Scope} {dvs : List V} {kws : List (Str × V)} {fd : FuncData} {t : Str} (T : ExC K mg C B f) (F : FunD K "__init__" qual params body scope dvs kws f fd) (S : FnScope ["self", "name"] ["self", "name"] scope)
    (hb : ∀ (cdv : Value) (A : Around) (outer : List Env) (s : Shared) (H : Hp) (E : XK), PSs (cxOf CX0 P w K mg base ["self", "name"] qual scope f cdv A outer s H E) body (t_einit K t)) : FnOk P w K mg base CX0 1 f fd ["self", "name"] (spEI K C) :=
  F.ok S (fun vs H Q E h => by obtain ⟨a, y, rfl, _⟩ := h; rfl) fun cdv A outer s H vs Q E hr h => ⟨_, hb cdv A outer s H E, pure_einit T vs H Q E h⟩
/-! ### if ..: raise ShapeError(e) -/
theorem qbx_raise {fd : FuncData} {gt : GT} {ge : GE} {tst : Expr} {p1 p2 p3 p4 : Pos} (hc : X.calm = true) (T : ExC X.K X.mg C B f) (F : FnOk X.prog X.w X.K X.mg X.base CX0 k f fd ["self", "name"] (spEI X.K C)) (hr : Room n X.A) (hle : k + 1 ≤ n) (hb : Binds X.K fd ["self", "name"] []) (hg : Gl X "ShapeError") (ht : QT m X tst gt) (he0 : QE m X e ge)
    (he : starEach (e :: []) X.env = (false, eval e X.env) :: starEach [] X.env := by rfl) (hpl : (backTo p2 (starEach [] X.env)).any (·.1) = false := by rfl) :
    QBX m X C [.If tst [.Raise (some (.Call (.Name "ShapeError" p1) [e] [] p2)) none p3] [] p4] fun W D σ G => gt σ G fun b G1 => if b = true then ge σ G1 fun y G2 => ∃ nm, y = .str nm ∧ W nm G2 else D.nx σ G1 := ⟨fun τ H σ G D W S Cc tk q => by
  have hpm := pmk_oex (CX := CX0) (X := X) (x := "ShapeError") (p := p1) (pos := p2) (dvs := []) (ds := []) T.o T.iC T.tI F (hr.mono hle) hb .nil (pass0 (X := X)) hg T.gC (wA_pa (X := X) [e]) (by decide) he hpl
  refine wB_of (pss_one (ps_if (wT_pt tst) (pss_one (ps_raise hc tk hpm)) pss_nil)) ?_
  refine wT_mono (ht.run τ H σ G _ S Cc q) fun b H1 ⟨G1, k1, C1, q1⟩ => ?_
  cases b with
  | false => exact ⟨σ, G1, k1, S.keep k1, C1, q1⟩
  | true =>
    show tMkO C (spEI X.K C) [] (wA X [e]) τ H1 fun cls d H' => XW m X C H W cls d τ H'
    have he1 : QA m X [e] (gCons ge gNil) := qa_cons he0 qa_nil he
    refine wA_mono (he1.run τ H1 σ G1 (fun ds G2 => match ds with | [y] => ∃ nm, y = .str nm ∧ W nm G2 | _ => False) (S.keep k1) C1 (by rw [if_pos rfl] at q1; exact q1)) fun vs H2 ⟨ds, G2, k2, C2, d2, hm⟩ => ?_
    dsimp only at hm
    split at hm
    · obtain ⟨nm, rfl, hw⟩ := hm
      obtain ⟨v, rfl, dv⟩ := all2_one d2
      obtain rfl := dat_str.mp dv
      refine ⟨by simp, fun a ha => ⟨a, .str nm, rfl, upd_same, fun dx h1 h2 => ?_⟩⟩
      have hdx : H2 dx = none := by rw [upd_ne h2] at h1; exact h1
      refine ⟨rfl, dx, [("name", .str nm)], upd_same, by rw [upd_ne h2, upd_same], hdx, rfl, nm, dx, H2, G2, rfl, hdx, ?_, k1.trans k2, C2, hw⟩
      funext b
      by_cases e1 : b = dx
      · subst e1; rw [upd_same, upd_same]; rfl
      · rw [upd_ne e1, upd_ne e1]
        by_cases e2 : b = a
        · subst e2; rw [del_same, ha]
        · rw [del_ne e2, upd_ne e2, upd_ne e1, upd_ne e2]
    · exact hm.elim⟩
end
end Cz

/-! CzExcH: what the head reads off the program's own error. -/
namespace Cz
open PySem PySem.Spec PyProof.Rows L2
def oxD (C : Addr) (d : ClassData) : Bool := match d with
  | ⟨_, _, mro, _, _, hd, _, _, _, _, del⟩ => (match mro with
    | .ref c :: bm => decide (c = C) && PySem.HandSPX.refsVE bm
    | _ => false) && (hd && !del)
def oxS (l : List (Option Value)) : Bool := match l with
  | [_, _, _, _, some (.builtin n), _] => decide (n = "ValueError.__new__")
  | _ => false
def oxO (C : Addr) (o : Obj) : Bool := (match o.cls with
  | .type t => decide (t = "type")
  | _ => false) && ((match o.data with
  | .cls d => oxD C d
  | _ => false) && oxS o.slots.toList)
theorem oxO_ok {C : Addr} {o : Obj} (h : oxO C o = true) : ∃ nm q N bs bm sn sub ab col dd k0 k1 k2 k3 k5, o = excClassObj nm q C N bs bm true sn sub ab col dd k0 k1 k2 k3 k5 "ValueError.__new__" ∧ PySem.HandSPX.refsVE bm = true := by
  obtain ⟨cls, dict, data, slots⟩ := o
  obtain ⟨sl⟩ := slots
  obtain ⟨h1, h⟩ := He.ba h
  obtain ⟨h2, h3⟩ := He.ba h
  dsimp only at h1 h2 h3
  split at h1
  · rename_i t _
    obtain rfl := of_decide_eq_true h1
    split at h2
    · rename_i d _
      unfold oxD at h2
      obtain ⟨nm, bs, mro, ns, qn, hd, sn, sb, ab, col, del⟩ := d
      dsimp only at h2
      obtain ⟨h4, h5⟩ := He.ba h2
      obtain ⟨h6, h7⟩ := He.ba h5
      obtain rfl : hd = true := h6
      obtain rfl : del = false := by cases del <;> simp_all
      unfold oxS at h3
      split at h3
      · obtain rfl := of_decide_eq_true h3
        split at h4
        · obtain ⟨h8, h9⟩ := He.ba h4
          obtain rfl := of_decide_eq_true h8
          exact ⟨nm, qn, ns, bs, _, sn, sb, ab, col, dict, _, _, _, _, _, rfl, h9⟩
        · cases h4
      · cases h3
    · cases h2
  · cases h1
def oexB (K : PySem.W.Frag) (C : Addr) : Bool := (match K.lookup C with
  | some o => oxO C o
  | none => false) && (decide (PySem.W.findIn K (.ref C) "__setattr__" = some (some (.builtin "object.__setattr__"))) && (decide (PySem.W.subIn K (.ref C) (.type "BaseException") = some true) && (decide (PySem.W.typeIn K (.ref C) = some (.type "type")) && PySem.W.keepIn K (.ref C))))
theorem oexB_ok {K : PySem.W.Frag} {C : Addr} (h : oexB K C = true) : OexC K C := by
  obtain ⟨h1, h⟩ := He.ba h
  obtain ⟨h2, h⟩ := He.ba h
  obtain ⟨h3, h⟩ := He.ba h
  obtain ⟨h4, h5⟩ := He.ba h
  refine ⟨?_, of_decide_eq_true h2, of_decide_eq_true h3, of_decide_eq_true h4, h5⟩
  split at h1
  · rename_i o e
    obtain ⟨nm, q, N, bs, bm, sn, sub, ab, col, dd, k0, k1, k2, k3, k5, rfl, hr⟩ := oxO_ok h1
    exact ⟨nm, q, N, bs, bm, sn, sub, ab, col, dd, k0, k1, k2, k3, k5, e, hr⟩
  · cases h1
/-- all that is told of the error -/
def exB (K : PySem.W.Frag) (C B f : Addr) : Bool := oexB K C && (PySem.W.readsIn K B (.type "type") && (decide (PySem.W.specialIn K (.ref B) "__getattribute__" = some (some (.builtin "type.__getattribute__"))) && ((match PySem.W.findCls K (.ref B) (.type "type") "__init__" with
    | some (.val (.builtin n)) => decide (n = "ValueError.__init__")
    | _ => false) && (decide (PySem.W.findIn K (.ref C) "__init__" = some (some (.ref f))) && (decide (PySem.W.typeIn K (.ref f) = some (.type "function")) && (decide (PySem.W.findIn K (.ref C) "name" = some none) && (xfB K C && (decide (PySem.W.exmOne K (.ref C) (.ref C) = some true) && ((PySem.W.clsIn K C).isSome &&
  (decide (PySem.W.findIn K (.ref C) "__class__" = some (some (.builtin "object.__class__"))) && (decide (PySem.W.specialIn K (.builtin "object.__class__") "__get__" = some (some (.builtin "getset_descriptor.__get__"))) && (decide (PySem.W.takesIn K (.builtin "object.__class__") = some true) && (decide (PySem.W.mroIn K C (.type "object") = some true) &&
  (decide (PySem.W.kitOne K (.ref C) (.ref B) = some true) && decide (PySem.W.kitOne K (.ref C) (.type "ValueError") = some true)))))))))))))))
theorem exB_ok {K : PySem.W.Frag} {mg : Str → Option Value} {C B f : Addr} (h : exB K C B f = true) (gC : mg "ShapeError" = some (.ref C)) (gB : mg "CaissonError" = some (.ref B)) : ExC K mg C B f := by
  obtain ⟨h1, h⟩ := He.ba h
  obtain ⟨h2, h⟩ := He.ba h
  obtain ⟨h3, h⟩ := He.ba h
  obtain ⟨h4, h⟩ := He.ba h
  obtain ⟨h5, h⟩ := He.ba h
  obtain ⟨h6, h⟩ := He.ba h
  obtain ⟨h7, h⟩ := He.ba h
  obtain ⟨h8, h⟩ := He.ba h
  obtain ⟨h9, h⟩ := He.ba h
  obtain ⟨h10, h⟩ := He.ba h
  obtain ⟨h11, h⟩ := He.ba h
  obtain ⟨h12, h⟩ := He.ba h
  obtain ⟨h13, h⟩ := He.ba h
  obtain ⟨h14, h⟩ := He.ba h
  obtain ⟨h15, h16⟩ := He.ba h
  refine ⟨oexB_ok h1, gC, gB, h2, of_decide_eq_true h3, ?_, of_decide_eq_true h5, of_decide_eq_true h6, of_decide_eq_true h7, xfB_ok h8, of_decide_eq_true h9, h10, of_decide_eq_true h11, of_decide_eq_true h12, of_decide_eq_true h13, of_decide_eq_true h14, of_decide_eq_true h15, of_decide_eq_true h16⟩
  split at h4
  · rename_i n e
    rw [e, of_decide_eq_true h4]
  · cases h4
def kiTB (K : PySem.W.Frag) (x : Str) (t : String) (b : Bool) : Bool := decide (PySem.W.kitOne K (.ref (He.ga K x)) (.type t) = some b)
end Cz

namespace Cz.W01
open PySem PySem.Spec PyProof.Rows L2 Cz
def top (i : Nat) : Stmt := PySem.Challenge.pw_caisson_k01_shapes.main.body.getD i (.Pass ⟨0, 0, 0, 0⟩)
end Cz.W01
namespace Cz.H01
open PySem PySem.Spec PyProof.Rows L2 Cz
def dd_d_Lstate : He.DefD := ⟨("_law_state", none), "_law_state", "_law_state", defArgs (W01.top 10), defBody (W01.top 10), defScope (W01.top 10), [], []⟩
def dd_d_Ldraw : He.DefD := ⟨("_law_draw", none), "_law_draw", "_law_draw", defArgs (W01.top 11), defBody (W01.top 11), defScope (W01.top 11), [], []⟩
def dd_d_require : He.DefD := ⟨("require", none), "require", "require", defArgs (W01.top 6), defBody (W01.top 6), defScope (W01.top 6), [], []⟩
def dd_d_power : He.DefD := ⟨("power", none), "power", "power", defArgs (W01.top 7), defBody (W01.top 7), defScope (W01.top 7), [], []⟩
def dd_d_Lnear : He.DefD := ⟨("_law_near", none), "_law_near", "_law_near", defArgs (W01.top 12), defBody (W01.top 12), defScope (W01.top 12), [], []⟩
def dd_d_Llevels : He.DefD := ⟨("_law_levels", none), "_law_levels", "_law_levels", defArgs (W01.top 14), defBody (W01.top 14), defScope (W01.top 14), [], []⟩
def dd_d_Lmade : He.DefD := ⟨("_law_made", none), "_law_made", "_law_made", defArgs (W01.top 13), defBody (W01.top 13), defScope (W01.top 13), [], []⟩
def dd_d_law : He.DefD := ⟨("law", none), "law", "law", defArgs (W01.top 15), defBody (W01.top 15), defScope (W01.top 15), [], []⟩
def dd_mt_shape_leaves : He.DefD := ⟨("Shape", some "leaves"), "leaves", "Shape.leaves", defArgs (inClass (W01.top 8) 1), defBody (inClass (W01.top 8) 1), defScope (inClass (W01.top 8) 1), [], []⟩
def dd_mt_shape_cells : He.DefD := ⟨("Shape", some "cells"), "cells", "Shape.cells", defArgs (inClass (W01.top 8) 3), defBody (inClass (W01.top 8) 3), defScope (inClass (W01.top 8) 3), [], []⟩
def dd_mt_shape_ample : He.DefD := ⟨("Shape", some "ample"), "ample", "Shape.ample", defArgs (inClass (W01.top 8) 4), defBody (inClass (W01.top 8) 4), defScope (inClass (W01.top 8) 4), [], []⟩
def dd_mk_shape : He.DefD := ⟨("Shape", some "__init__"), "__init__", "Shape.__init__", defArgs (inClass (W01.top 8) 0), defBody (inClass (W01.top 8) 0), defScope (inClass (W01.top 8) 0), [], [("snapshots", .int 0)]⟩
def dd_exc : He.DefD := ⟨("ShapeError", some "__init__"), "__init__", "ShapeError.__init__", defArgs (inClass (W01.top 3) 0), defBody (inClass (W01.top 3) 0), defScope (inClass (W01.top 3) 0), [], []⟩
def fn : List He.DefD := [dd_d_Lstate, dd_d_Ldraw, dd_d_require, dd_d_power, dd_d_Lnear, dd_d_Llevels, dd_d_Lmade, dd_d_law, dd_mt_shape_leaves, dd_mt_shape_cells, dd_mt_shape_ample, dd_mk_shape, dd_exc]
def fa0 : List He.Fa := [.free "ValueError", .free "range", .free "isinstance", .free "tuple", .free "sum", .free "len", .free "int", .free "abs", .glo "_law_state", .glo "_law_draw", .glo "require", .glo "power", .glo "_law_near", .glo "_law_levels", .glo "_law_made", .glo "law", .meth "Shape" "leaves", .cls "Shape", .meth "Shape" "cells", .meth "Shape" "ample", .mkr "Shape", .glo "Shape", .glo "ShapeError", .glo "CaissonError", .noat "Shape" "fanout", .noat "Shape" "depth", .noat "Shape" "words", .noat "Shape" "blocks", .noat "Shape" "snapshots", .int "MOST_LEAVES" 64]
def fa : List He.Fa := fa0
def loose0 : List Str := ["_wall", "__name__", "CaissonError", "ShapeError", "MOST_LEAVES", "require", "power", "Shape", "_law_state", "_law_draw", "_law_near", "_law_made", "_law_levels"]
def loose : List Str := loose0
def lam : Lam := []
def xb (K : PySem.W.Frag) : Bool := exB K (He.ga K "ShapeError") (He.ga K "CaissonError") (He.fAd K ("ShapeError", some "__init__")) && (insB K "Shape" && (kiTB K "Shape" "tuple" false))
theorem xb_0 {K : PySem.W.Frag} (h : xb K = true) : exB K (He.ga K "ShapeError") (He.ga K "CaissonError") (He.fAd K ("ShapeError", some "__init__")) = true := (He.ba h).1
theorem xb_1 {K : PySem.W.Frag} (h : xb K = true) : insB K "Shape" = true := (He.ba (He.ba h).2).1
theorem xb_2 {K : PySem.W.Frag} (h : xb K = true) : kiTB K "Shape" "tuple" false = true := (He.ba (He.ba h).2).2
abbrev R : PySem.W.OpenRow := PySem.W.OpenLaw.row PySem.Challenge.rw_caisson_k01_shapes
abbrev hk : PySem.W.Hook := hookY 5 fa fn lam xb
def ob (s : PySem.W.SharedT) : He.AlD × Bool := obsY 5 fa fn lam xb (HandSHeadRun.getT s)
theorem ob_eq (s : PySem.W.SharedT) : ob s = hk.obs s.abs := obsY_eq (HandSHeadRun.getT_eq s)
theorem run (w : World) : HandSHeadRun.RunEq R (PySem.W.view R.prog [15]) hk ob 6000 loose w := by
  intro os
  kernel_rfl
end Cz.H01

/-! CzSet: sorted({elt for tg in iter ..}), elt an int. -/
namespace Cz
open PySem PySem.Spec PyProof.Rows L2 PpSet
/-- k into a set's members -/
def addI (ns : List Int) (k : Int) : List Int := if k ∈ ns then ns else ns ++ [k]
theorem addI_nodup {ns : List Int} {k : Int} (h : ns.Nodup) : (addI ns k).Nodup := by
  unfold addI
  split
  · exact h
  · rename_i hn
    exact List.nodup_append.mpr ⟨h, by simp, fun a ha b hb => by rw [List.mem_singleton.mp hb]; exact fun e => hn (e ▸ ha)⟩
theorem addI_fun (ns : List Int) (k : Int) : (fun j => decide (j ∈ ns) || decide (j = k)) = fun j => decide (j ∈ addI ns k) := by
  funext j
  unfold addI
  split
  · rename_i h
    by_cases e : j = k
    · subst e; simp [h]
    · simp [e]
  · simp
theorem addI_len (ns : List Int) (k : Int) : (if decide (k ∈ ns) = true then ns.length else ns.length + 1) = (addI ns k).length := by
  unfold addI
  by_cases h : k ∈ ns
  · rw [if_pos (decide_eq_true h), if_pos h]
  · rw [if_neg (by simp [h]), if_neg h, List.length_append, List.length_singleton]
/-- the turns of a set's making; the set is at p -/
def gSetL (p : Addr) (g : GG) (t : GT) (e : GE) (σ : GSt) (Q : GH → Prop) (ds : List D) (ok : GH → Prop) (G : GH) : Prop := ∃ W : Nat → List Int → GH → Prop, W 0 [] G ∧
  (∀ i d acc G, ds[i]? = some d → ok G → G p = some (.set acc) → W i acc G → g d σ G fun σ1 G1 => t σ1 G1 fun b G2 => if b = true then e σ1 G2 fun y G3 => ∃ k, y = .int k ∧ G3 p = some (.set acc) ∧ acc.length + 1 < scanBound ∧ ok (G3.set p (.set (addI acc k))) ∧ W (i + 1) (addI acc k) (G3.set p (.set (addI acc k)))
    else G2 p = some (.set acc) ∧ ok G2 ∧ W (i + 1) acc G2) ∧ ∀ acc G, ok G → G p = some (.set acc) → W ds.length acc G → Q G
def gSc (it : GI) (g : GG) (t : GT) (e : GE) (vs : List Nat) : GE := fun σ G Q => it σ G fun ds ok G1 => ∀ p, G1 p = none → ok (G1.set p (.set [])) ∧ gSetL p g t e (wipeG σ vs) (fun G2 => Q (.ref p) G2) ds ok (G1.set p (.set []))
/-- a set is no code object -/
theorem setO_ne {w : World} {p : Addr} {S : Int → Bool} {n : Nat} (q : Str) : SetO w p S n ≠ LamX.CodeO p q := fun z => by
  have e : (fun h => SetR w h p S n) = fun h : Heap => ∃ (oc : Obj) (vs : Array Value) (t : Tok), h.get? p = some oc ∧ oc.data = .fields vs ∧ vs[1]? = some (.str q t) := HO.ext.inj z
  have e2 := iff_of_eq <| congrFun e { objs := Array.replicate (p + 1) { cls := .none, data := .fields #[.none, .str q default] } }
  have g : ({ objs := Array.replicate (p + 1) { cls := .none, data := .fields #[.none, .str q default] } } : Heap).get? p = some { cls := .none, data := .fields #[.none, .str q default] } := by
    unfold Heap.get?
    simp
  obtain ⟨o, es, ep, t, ho, _, hd, _⟩ := e2.mpr ⟨_, _, default, g, rfl, rfl⟩
  rw [g] at ho
  cases ho
  cases hd
section
variable {m : Gm} {X : Cx} {H : Hp} {G : GH}
theorem new_set {p : Addr} (C : Cp m X H G) (hp : H p = none) : Cp m X (upd H p (SetO X.w p (fun _ => false) 0)) (G.set p (.set [])) :=
  C.upd (KeepT.new hp) ⟨by
    have e : (fun _ : Int => false) = fun j => decide (j ∈ ([] : List Int)) := by funext j; simp
    rw [e]
    exact upd_same, List.nodup_nil⟩
theorem cp_set {p : Addr} {ns : List Int} {k : Int} (C : Cp m X H G) (h : G p = some (.set ns)) : ∃ S n, H p = some (SetO X.w p S n) ∧ n = ns.length ∧ KeepT H (upd H p (SetO X.w p (fun j => S j || decide (j = k)) (if S k = true then n else n + 1))) ∧
    Cp m X (upd H p (SetO X.w p (fun j => S j || decide (j = k)) (if S k = true then n else n + 1))) (G.set p (.set (addI ns k))) := by
  obtain ⟨e, nd⟩ := C p _ h
  have kk : KeepT H (upd H p (SetO X.w p (fun j => decide (j ∈ ns) || decide (j = k)) (if decide (k ∈ ns) = true then ns.length else ns.length + 1))) := KeepT.mut e (fun _ z => by unfold L2.SetO at z; cases z) (fun _ _ z => by unfold L2.SetO at z; cases z) (fun q => setO_ne q)
  refine ⟨_, _, e, rfl, kk, C.upd kk ⟨?_, addI_nodup nd⟩⟩
  rw [← addI_fun, ← addI_len]
  exact upd_same
end
section
variable {m : Gm} {X : Cx} {pos : Pos} {elt tg iter : Expr} {ifs : List Expr} {scope : Scope} {own : List (Str × Nat)} {it : GI} {g : GG} {t : GT} {ge : GE} {ws : List Nat}
theorem wipe_wipe (us : List Nat) (τ : L2.St) : wipe (wipe τ us) us = wipe τ us := by
  apply List.ext_getElem?
  intro j
  have aux := fun (ρ : L2.St) => wipe_get us ρ j
  rw [aux, aux]
  by_cases hj : j ∈ us
  · simp [hj, wipe_length]
  · simp [hj]
theorem q_sc (hc : X.calm = true) (hN : X.N.Nodup) (hi : QI m X tg iter it) (ok : BlkOk X.N X.env.scope scope own) (hw : ∀ i ∈ ws, i ∈ own.map (·.2))
    (hg : ∀ (s : Shared) (H : Hp) (C : Addr) (cl : List (Str × Addr)) (fp : List Addr), QG m (X.blk s H scope (compEnvC scope cl C X.env) fp) tg ws g)
    (ht : ∀ (s : Shared) (H : Hp) (C : Addr) (cl : List (Str × Addr)) (fp : List Addr), QTs m (X.blk s H scope (compEnvC scope cl C X.env) fp) ifs t)
    (he : ∀ (s : Shared) (H : Hp) (C : Addr) (cl : List (Str × Addr)) (fp : List Addr), QE m (X.blk s H scope (compEnvC scope cl C X.env) fp) elt ge) (hs : ∀ x, foldedSetIterable iter X.env x = pure x := by intro _; rfl) :
    QE m X (.SetComp elt [⟨tg, iter, ifs, 0⟩] scope pos) (gSc it g t ge (own.map (·.2))) := ⟨fun τ H σ G Q S C q => by
  intro pins s I
  rw [eval_SetComp]
  have hfree : ∀ y ∈ scope.names, y.2 = .free → ∃ c, X.env.cells.lookup y.1 = some c := fun y hy e => by
    rcases ok.free y hy e with k | k
    · exact I.ok.has _ (.inl k)
    · exact I.ok.has _ (.inr k)
  refine wpAny_comprehension_free (use := none) rfl hs (closure_ok hfree) ok.kind (fun y hy e => by rw [ok.uniq y hy, e])
    (thn (hi.run τ H σ G _ S C q pins s I) fun xv s1 hx => thn hx fun itv s2 h2 => ?_)
  obtain ⟨ia, fp, tn, J, H1, e, I2, T, st2, f2, ds, okk, G1, k1, C1, sim, ok1, q1⟩ := h2
  subst e
  refine newSet_ok (newEnv_comp ?_)
  generalize hD : s2.heap.objs.size = p
  have hp : H1 p = none := I2.hok.fresh (Nat.le_of_eq hD)
  obtain ⟨ok2, q1⟩ := q1 p (C1.free hp)
  have kn := KeepT.new (o := SetO X.w p (fun _ => false) 0) hp
  have C3 := new_set C1 hp
  obtain ⟨W, w0, turn, fin⟩ := q1
  generalize hs3 : ({ s2 with heap := s2.heap.push { cls := .type "set", dict := none, data := .set #[] 0 (.fresh 0 0 (!X.w.params.followText "set-order")) } } : Shared) = s3
  have I3 : L2.Inv X pins τ (upd H1 p (SetO X.w p (fun _ => false) 0)) s3 := by
    rw [← hs3]
    refine I2.laid (t' := s2.toks) (fun b o e => Heap.get?_push_of_some _ e) (Nat.le_of_eq hD) ?_
    rw [← hD]
    exact setO_new (setR_fresh X.w)
  have h3 : s3.heap = s2.heap.push { cls := .type "set", dict := none, data := .set #[] 0 (.fresh 0 0 (!X.w.params.followText "set-order")) } := by rw [← hs3]
  have f3 : ∀ b ∈ fp, FpOk X pins (upd H1 p (SetO X.w p (fun _ => false) 0)) b ∧ b < s3.heap.objs.size := fun b hb => by
    obtain ⟨o, e, _⟩ := T.obj _ _ st2 b hb
    have hlt := Heap.lt_size e
    refine ⟨⟨?_, (f2 b hb).2⟩, by rw [h3, Heap.size_push]; exact Nat.lt_succ_of_lt hlt⟩
    rw [upd_ne (by rw [← hD]; exact Nat.ne_of_lt hlt)]
    exact (f2 b hb).1
  have st3 : tn 0 s3.heap := T.keep _ _ _ st2 fun b _ o e => by rw [h3]; exact Heap.get?_push_of_some _ e
  have I4 := block_start I3 ok hN f3
  have nfp : ∀ b ∈ fp, (upd H1 p (SetO X.w p (fun _ => false) 0)) b = none := fun b hb => (f3 b hb).1.1
  generalize hH3 : upd H1 p (SetO X.w p (fun _ => false) 0) = H3 at I3 I4 nfp f3 C3 kn
  have hg := hg s3 H3 s3.heap.objs.size (cellsFrom (s3.heap.objs.size + 1) scope.names (cloFrom X.env.cells scope.names [])) fp
  have ht := ht s3 H3 s3.heap.objs.size (cellsFrom (s3.heap.objs.size + 1) scope.names (cloFrom X.env.cells scope.names [])) fp
  have he := he s3 H3 s3.heap.objs.size (cellsFrom (s3.heap.objs.size + 1) scope.names (cloFrom X.env.cells scope.names [])) fp
  show codeAny _ _ (.compStart (.SetComp elt [⟨tg, iter, ifs, 0⟩] scope pos) 0 (.ref ia) (.ref p) (compEnvC scope (cellsFrom (s3.heap.objs.size + 1) scope.names (cloFrom X.env.cells scope.names [])) s3.heap.objs.size X.env)) (compPost (model X.prog X.w) X.A X.xe none _ (.ref p) s3.heap.objs.size) { s3 with heap := pushCells (s3.heap.push { cls := .type "dict", data := .dict #[] }) scope.names }
  generalize hce : compEnvC scope (cellsFrom (s3.heap.objs.size + 1) scope.names (cloFrom X.env.cells scope.names [])) s3.heap.objs.size X.env = ce at I4 hg ht he ⊢
  have cL : ce.locals = s3.heap.objs.size := by subst hce; rfl
  generalize hs4 : ({ s3 with heap := pushCells (s3.heap.push { cls := .type "dict", data := .dict #[] }) scope.names } : Shared) = s4 at I4 ⊢
  have st4 : tn 0 s4.heap := T.keep _ _ _ st3 fun b _ o e => by rw [← hs4]; exact pushCells_keeps _ _ _ _ (Heap.get?_push_of_some _ e)
  have stat : ∀ {σ' : L2.St} {H' : Hp} {s' : Shared}, L2.Inv (X.blk s3 H3 scope ce fp) [] σ' H' s' → (∀ b ∈ fp, H' b = none) → ∀ b ∈ fp, FpOk (X.blk s3 H3 scope ce fp) [] H' b := fun {σ' H' s'} I' hn b hb =>
    ⟨hn b hb, (I'.ok.exf b hb).1, I'.ok.exfs b hb, .inl hb, fun x c e => (I'.ok.exf b hb).2 x c e, fun p hp => absurd (show p ∈ ([] : List (Addr × Obj)) ++ [] from hp) (by simp)⟩
  -- what holds before each turn
  refine codeAny_compStart_set ?loop (T.self X.A 0 _ _ _ st4 ?loop)
  refine compLoopS_any (fun n s' => ∃ i H' acc G', n = ds.length - i ∧ i ≤ ds.length ∧ L2.Inv (X.blk s3 H3 scope ce fp) [] (wipe τ (own.map (·.2))) H' s' ∧ tn i s'.heap ∧ (∀ b ∈ fp, H' b = none) ∧ KeepT H3 H' ∧ Cp m X H' G' ∧ G' p = some (.set acc) ∧ okk G' ∧ W i acc G') ?_ _ ⟨0, H3, [], _, rfl, Nat.zero_le _, I4, st4, nfp, KeepT.refl _, C3, set_same, ok2, w0⟩
  rintro n s5 ⟨i, H5, acc, G5, rfl, hil, I5, st5, n5, k5, C5, gp, ok5, w5⟩
  have kA : KeepT H1 H5 := kn.trans k5
  by_cases lt : i < ds.length
  · have e1 : ds[i]? = some ds[i] := List.getElem?_eq_getElem lt
    obtain ⟨go, yl⟩ := sim.go i H5 G5 ds[i] kA C5 ok5 e1
    have w5 := turn i ds[i] acc G5 e1 ok5 gp w5
    have ti := T.item (X.blk s3 H3 scope ce fp) rfl rfl rfl hc i [] s5 _ H5 (fun _ _ => False) I5 (stat I5 n5) st5 go
    refine thnF ti fun r s6 ⟨u, hr, h6⟩ => ?_
    subst hr
    refine thnF h6 fun _ s7 ⟨x, H7, I7, r7, y7, st7, n7⟩ => ?_
    have I7' := I7.pinned (stat I7 n7) (T.obj _ _ st7)
    obtain ⟨k7, C7, d7⟩ := yl x H7 y7
    have Sw : Sl X.K H7 (wipeG σ (own.map (·.2))) (wipe τ (own.map (·.2))) := (sl_wipe S _).keep ((k1.trans kA).trans k7)
    refine thnF (hg.run _ H7 x ds[i] _ G5 _ Sw C7 d7 w5 _ s7 u I7' r7) fun _ s8 ⟨τ8, H8, I8, wp, σ8, G8, k8, S8, C8, q8⟩ => ?_
    refine thnF (ht.run τ8 H8 σ8 G8 _ S8 C8 q8 _ s8 I8) fun b s9 ⟨H9, I9, G9, k9, C9, q9⟩ => ?_
    have hw8 : wipe τ8 (own.map (·.2)) = wipe τ (own.map (·.2)) := by rw [wp _ hw, wipe_wipe]
    have kB : KeepT H3 H9 := ((k5.trans k7).trans k8).trans k9
    have fin2 : ∀ {s' : Shared} {H' : Hp} {acc' : List Int} {G' : GH}, L2.Inv (X.blk s3 H3 scope ce fp) ([] ++ pinsAt fp s7.heap) τ8 H' s' → KeepT H3 H' → Cp m X H' G' → G' p = some (.set acc') → okk G' → W (i + 1) acc' G' →
        ∃ mm, mm < ds.length - i ∧ ∃ i H' acc G', mm = ds.length - i ∧ i ≤ ds.length ∧ L2.Inv (X.blk s3 H3 scope ce fp) [] (wipe τ (own.map (·.2))) H' s' ∧ tn i s'.heap ∧ (∀ b ∈ fp, H' b = none) ∧ KeepT H3 H' ∧ Cp m X H' G' ∧ G' p = some (.set acc) ∧ okk G' ∧ W i acc G' := fun {s' H' acc' G'} I' kk CC gg oo ww => by
      have pin' : ∀ b ∈ fp, ∀ o, s7.heap.get? b = some o → s'.heap.get? b = some o ∧ H' b = none := fun b hb o e =>
        let z := I'.pin (b, o) (List.mem_append_right _ (List.mem_append_right _ (mem_pinsAt hb e)))
        ⟨z.1, z.2.1⟩
      have hl : (wipe τ (own.map (·.2))).length = τ8.length := by rw [← hw8, wipe_length]
      refine ⟨ds.length - (i + 1), by omega, i + 1, H', acc', G', rfl, lt, (I'.unpinned (pins := [])).weak hl (fun j v e => ?_), T.keep _ _ _ st7 fun b hb o e => (pin' b hb o e).1, fun b hb => ?_, kk, CC, gg, oo, ww⟩
      · rw [← hw8] at e
        exact (wipe_some e).1
      · obtain ⟨o, e, _⟩ := T.obj _ _ st7 b hb
        exact (pin' b hb o e).2
    cases b with
    | false =>
      obtain ⟨g9, o9, w9⟩ := q9
      exact fin2 I9 kB C9 g9 o9 w9
    | true =>
      simp only [if_true] at q9 ⊢
      refine thnF (he.run τ8 H9 σ8 G9 _ (S8.keep k9) C9 q9 _ s9 I9) fun z s10 ⟨yv, H10, I10, r10, d10, G10, k10, C10, dd10, k, ey, g10, l10, o10, w10⟩ => ?_
      subst ey
      have ev : yv = V.int k := dat_int.mp dd10
      subst ev
      obtain ⟨S0, n0, ha, hn0, kk, CC⟩ := cp_set (k := k) C10 g10
      refine thnF (mt_sadd (X := X.blk s3 H3 scope ce fp) _ s10 τ8 H10 (.ref p) [V.int k] (.ref p) [z] (fun v H' => H' = upd H10 p (SetO X.w p (fun j => S0 j || decide (j = k)) (if S0 k = true then n0 else n0 + 1))) I10 rfl (.cons r10 .nil) ⟨p, k, S0, n0, rfl, rfl, ha, by rw [hn0]; exact l10, rfl⟩) fun _ s11 ⟨v11, H11, I11, _, e11⟩ => ?_
      subst e11
      exact fin2 I11 ((kB.trans k10).trans kk) CC set_same o10 w10
  · have e : i = ds.length := by omega
    subst e
    have td := T.done (X.blk s3 H3 scope ce fp) rfl rfl rfl hc _ [] s5 _ H5 (fun _ _ => False) I5 (stat I5 n5) st5 (sim.stop _ H5 G5 kA C5 ok5 (Nat.le_refl _))
    refine thnF td fun r s6 ⟨hr, I6⟩ => ?_
    subst hr
    have I7 : L2.Inv X pins τ H5 s6 := I3.call' (ch := fp) I6.os I6.base I6.hok I6.bare fun b hb => ⟨(f3 b hb).1.2.2.2.1, (f3 b hb).1.2.1, (f3 b hb).1.2.2.2.2.1, (f3 b hb).1.2.2.2.2.2⟩
    have nC : H5 s3.heap.objs.size = none := by
      have z : H5 ce.locals = none := I6.free
      rw [cL] at z
      exact z
    obtain ⟨mm, hn, _⟩ := I6.loc
    have hn : s6.heap.Ns ce.locals mm := hn
    rw [cL] at hn
    obtain ⟨f0, f1, f2', f3', f4, f5⟩ := I3.fpOk (Nat.le_refl _) nC
    refine ⟨mm, hn, fun h'' sb => ?_⟩
    exact ⟨.ref p, H5, I7.turned (t' := s6.toks) (fun b o hb e => (sb.2 b hb).trans e) f0 f1 f3' f4 f5, rfl, .ref p, G5, (k1.trans kA), C5, dat_ref.mpr rfl, fin acc G5 ok5 gp w5⟩⟩
end
/-! ### sorted of a set of ints -/
def bSortS : GSp := fun ds G Q => match ds with
  | [.ref a] => ∃ ns, G a = some (.set ns) ∧ ∀ (zs : List Int) (p : Addr), zs.Perm ns → zs.Pairwise (· < ·) → G p = none → Q (.ref p) (G.set p (.lst (zs.map .int)))
  | _ => False
theorem rawOf_int (k : Int) (t : Tok) : Builtin.Re.reRawOf (Value.int k t) = k := rfl
theorem ints_dat {K : PySem.W.Frag} {H : Hp} : ∀ {us : List Value}, (∀ v ∈ us, ∃ k tk, v = Value.int k tk) → ∃ ns : List Int, ns = us.map Builtin.Re.reRawOf ∧ All2 (Dat K H) (ns.map D.int) (ns.map V.int) ∧ Vals (ns.map V.int) us
  | [], _ => ⟨[], rfl, .nil, .nil⟩
  | u :: us, h => by
    obtain ⟨k, tk, rfl⟩ := h u List.mem_cons_self
    obtain ⟨ns, e, h1, h2⟩ := ints_dat (us := us) fun v hv => h v (List.mem_cons_of_mem _ hv)
    exact ⟨k :: ns, by rw [List.map_cons, ← e]; rfl, .cons (dI k) h1, .cons ⟨tk, rfl⟩ h2⟩
section
variable {m : Gm} {X : Cx} {pins : List (Addr × Obj)} {τ : L2.St} {H : Hp} {G : GH} {s : Shared}
theorem leInts (ns : List Int) : ((ns.map D.int).mergeSort (PySem.W.dataLe false py)) = (ns.mergeSort (fun a b => decide (a ≤ b))).map D.int := by
  symm
  refine List.map_mergeSort (r := fun a b => decide (a ≤ b)) (s := PySem.W.dataLe false py) (f := D.int) (fun a _ b _ => ?_)
  rw [PySem.W.dataLe_eq]
  show _ = (!PySem.W.dataLt (py (D.int b)) (py (D.int a)))
  unfold py
  rw [PySem.W.dataLt_int]
  by_cases h : a ≤ b
  · rw [decide_eq_true h, decide_eq_false (by omega)]; rfl
  · rw [decide_eq_false h, decide_eq_true (by omega)]; rfl
theorem sortS_call {a : Addr} {ns : List Int} {Qh : VK} (hr : Room 2 X.A) (I : L2.Inv X pins τ H s) (C : Cp m X H G) (hg : G a = some (.set ns))
    (q : ∀ (zs : List Int) (p : Addr), zs.Perm ns → zs.Pairwise (· < ·) → H p = none → Qh (.ref p) (upd H p (.lst (zs.map V.int)))) : wpAny (model X.prog X.w) X.A (call (.builtin "sorted") [.ref a]) (EP X pins τ Qh) X.xe s := by
  obtain ⟨e, nd⟩ := C a _ hg
  obtain ⟨o, es, ep, t, ho, hex, hd, gd, nd', hm, hb, hf, hn, hr', hl⟩ := setO_get I e
  refine sorted_split (PyProof.Rows.args_sorted1 _) (collect_set (A := X.A.in1) hr.hd ⟨o, ho, hex.1, hd⟩ hf hb hr' hl fun s1 out k1 hz g1 o1 pm => ?_)
  have hI : ∀ v ∈ out, ∃ k tk, v = Value.int k tk := fun v hv => by
    obtain ⟨x, hx, q⟩ := List.mem_map.mp (pm.mem_iff.mp hv)
    obtain ⟨k, tk, h1, _⟩ := gd x hx
    exact ⟨k, tk, by rw [← q]; exact h1⟩
  have I1 : L2.Inv X pins τ H s1 := by
    have J := I.call' (s' := s1) (ch := []) o1 (Un.kept k1) (I.hok.kept k1) (by rw [g1]; exact I.bare) (fun _ z => nomatch z)
    exact J
  obtain ⟨ms, em, d1, r1⟩ := ints_dat (K := X.K) (H := H) hI
  have pk : ms.Perm (es.toList.map keyOf) := by
    have q := pm.map Builtin.Re.reRawOf
    rw [List.map_map] at q
    rw [em]
    exact q
  have hlen : out.length ≤ sizeLine := by
    rw [pm.length_eq, List.length_map, Array.length_toList]
    exact fits_of_scanBound hb
  refine ⟨hlen, sortP_tail hr I1 d1 r1 hlen (.inl fun d hd => ?_) fun p vs' hp t' => ?_⟩
  · obtain ⟨i, _, rfl⟩ := List.mem_map.mp hd
    exact ⟨i, rfl⟩
  · rw [leInts] at t'
    have pp := List.mergeSort_perm ms (fun a b => decide (a ≤ b))
    have e2 := vals_int (X := X) (H := H) (ns := ms.mergeSort (fun a b => decide (a ≤ b))) t'
    subst e2
    have mn : ms.Perm ns := by
      refine (List.perm_ext_iff_of_nodup (pk.nodup_iff.mpr nd') nd).mpr fun x => ?_
      rw [pk.mem_iff, ← hm x]
      exact decide_eq_true_iff
    refine q _ p (pp.trans mn) ?_ hp
    refine lt_of_le_nodup _ ?_ ((pp.trans mn).nodup_iff.mpr nd)
    have sp := List.pairwise_mergeSort (le := fun a b : Int => decide (a ≤ b)) (fun a b c h1 h2 => by simp at *; omega) (fun a b => by simp; omega) ms
    exact sp.imp fun h => of_decide_eq_true h
end
section
variable {m : Gm} {X : Cx} {p pos : Pos} {e : Expr} {es : List Expr} {ga : GA}
theorem w_sortS (hr : Room 2 X.A) (hg : Gl X "sorted") (hm : X.mg "sorted" = none) (ha : QA m X (e :: es) ga)
    (he : starEach (e :: es) X.env = (false, eval e X.env) :: starEach es X.env := by rfl) (hpl : (backTo pos (starEach es X.env)).any (·.1) = false := by rfl) : QE m X (.Call (.Name "sorted" p) (e :: es) [] pos) (gCall bSortS ga) := ⟨fun τ H σ G Q S C q => by
  intro pins s I
  refine wpAny_Call_Name_kw (ld_blt I hg hm PyProof.Rows.boot_sorted ?_)
  refine PyProof.Rows.callWith_builtin1 (thn (ha.run τ H σ G _ S C q pos pins s I) fun us s1 ⟨vs, H1, I1, rv, ds, G1, k1, C1, d1, q1⟩ => ?_) he hpl
  have q1 : bSortS ds G1 Q := q1
  unfold bSortS at q1
  split at q1
  · rename_i a q0
    obtain ⟨v, rfl, dv⟩ := all2_one d1
    obtain ⟨u, rfl, ru⟩ := vals1 rv
    rw [dat_ref.mp dv] at ru
    obtain rfl : u = Value.ref a := ru
    obtain ⟨ns, hk, q2⟩ := q1
    exact sortS_call hr I1 C1 hk fun zs p hp hs hn => ⟨.ref p, _, k1.trans (KeepT.new hn), new_lst C1 hn (dats_int zs), dat_ref.mpr rfl, q2 zs p hp hs (C1.free hn)⟩
  · exact q1.elim⟩
end
end Cz

/-! CzMisc: isinstance of own classes, class names as values, for over a dict, dict comprehensions, a dict of one tuple key, == {}. -/
namespace Cz
open PySem PySem.Spec PyProof.Rows L2
/-! ### isinstance of own classes -/
def subCl (c c' : Cl) : Bool := decide (c = c') || (decide (c' = .talk) && (decide (c = .read) || decide (c = .scan) || decide (c = .change) || decide (c = .commit)))
def isTalk (c : Cl) : Bool := subCl c .talk
structure Isa (m : Gm) (K : PySem.W.Frag) : Prop where
  cl : ∀ c, isTalk c = true → C8.InsC K (m.cls c)
  is : ∀ c c', isTalk c = true → isTalk c' = true → PySem.W.kitOne K (.ref (m.cls c)) (.ref (m.cls c')) = some (subCl c c')
def bIsiO (m : Gm) : GSp := fun ds G Q => match ds with
  | [.ref a, .ref b] => ∃ c fs c', G a = some (.ins c fs) ∧ b = m.cls c' ∧ isTalk c = true ∧ isTalk c' = true ∧ Q (.bl (subCl c c')) G
  | _ => False
section
variable {m : Gm} {X : Cx} {p pos : Pos} {e : Expr} {es : List Expr} {ga : GA} {x : Str}
theorem says_isiO (T : Isa m X.K) : SaysL m X (rIsi X.K) (bIsiO m) := by
  intro H G xs vs Q Qh C d I h
  unfold bIsiO at h
  split at h
  · rename_i a b
    obtain ⟨v, u, rfl, dv, du⟩ := all2_two d
    obtain ⟨c, fs, c', hg, rfl, h1, h2, q⟩ := h
    have ev := dat_ref.mp dv
    have eu := dat_ref.mp du
    subst ev eu
    obtain ⟨dx, gs, ha, _, _⟩ := C a _ hg
    have k := T.cl c h1
    exact ⟨_, _, _, _, _, rfl, .own _, .base (TyOf.ins ha k.cl k.ha k.hn k.htk k.hm), T.is c c' h1 h2, imp_here I C (dB _) q⟩
  · exact h.elim
theorem w_isiO (T : Isa m X.K) (hg : Gl X "isinstance") (hm : X.mg "isinstance" = none) (ha : QA m X (e :: es) ga)
    (he : starEach (e :: es) X.env = (false, eval e X.env) :: starEach es X.env := by rfl) (hpl : (backTo pos (starEach es X.env)).any (·.1) = false := by rfl) : QE m X (.Call (.Name "isinstance" p) (e :: es) [] pos) (gCall (bIsiO m) ga) :=
  q_callB call_isi (says_isiO T) hg hm PyProof.Rows.boot_isinstance ha (by decide) (by decide) he hpl
theorem q_cls {c : Cl} (hg : Gl X x) (hm : X.mg x = some (.ref (m.cls c))) (hd : (x == ("__debug__" : Str)) = false := by decide) : QE m X (.Name x pos) (gC (.ref (m.cls c))) :=
  q_pure (pe_glob (v := .ref (m.cls c)) hg hm rfl hd) fun H => dat_ref.mpr rfl
end
/-! ### for k in d -/
def lockN (a : Addr) (kvs : List (D × D)) (N : GH → Prop) : GH → Prop := fun G => G a = some (.fdct .ik kvs) ∧ N (G.set a (.dct .ik kvs))
def gForK (o : GE) (g : GG) (b : GS) : GS := fun E σ G => ∃ a kvs, G a = some (.dct .ik kvs) ∧ o σ (G.set a (.fdct .ik kvs)) fun x G1 => x = .ref a ∧ G1 a = some (.fdct .ik kvs) ∧
  gTurns { nx := fun σ' => lockN a kvs (E.nx σ'), rt := fun d => lockN a kvs (E.rt d), bk := fun σ' => lockN a kvs (E.bk σ'), ct := fun σ' => lockN a kvs (E.ct σ') } g b (kvs.map (·.1)) (fun G => G a = some (.fdct .ik kvs)) σ G1
section
variable {m : Gm} {X : Cx}
theorem sim_keys {H0 : Hp} {a : Addr} {ob : Obj} {kvs : List (D × D)} {hs : List (Key × V)} (ha : H0 a = some (.frz ob (.dK hs))) (t : All2 (IkRel X.K H0) kvs hs) : Sim m X H0 (Itk a ob hs) (kvs.map (·.1)) (fun G => G a = some (.fdct .ik kvs)) where
  go := fun i H G d k C ok e => by
    rw [List.getElem?_map] at e
    obtain ⟨p, hp, rfl⟩ := Option.map_eq_some_iff.mp e
    obtain ⟨q, hq, rl⟩ := t.get hp
    refine ⟨⟨k.frz _ _ _ ha, (List.getElem?_eq_some_iff.mp hq).1⟩, ?_⟩
    rintro x H' ⟨rfl, kk, v, h1, rfl⟩
    rw [hq] at h1
    cases h1
    refine ⟨KeepT.refl _, C, ?_⟩
    rw [rl.1]
    exact dat_kV kk
  stop := fun i H G k C ok h => ⟨k.frz _ _ _ ha, by rw [← t.length]; simpa using h⟩
theorem qs_forK {tg iter : Expr} {body : List Stmt} {o : GE} {g : GG} {vs : List Nat} {b : GS} {pos : Pos} (hp : PassesOwn (model X.prog X.w) X.A X.env X.xe) (hc : X.calm = true) (ho : QE m X iter o) (hg : QG m X tg vs g) (hb : QB m X body b)
    (hs : ∀ x, foldedSetIterable iter X.env x = pure x := by intro _; rfl) : QS m X (.For tg iter body [] pos) (gForK o g b) := ⟨fun τ H σ G D S C q => by
  obtain ⟨a, kvs, hG, q⟩ := q
  obtain ⟨hs0, ha, t⟩ := C a _ hG
  refine wS_of (ps_lock (ps_for hp hc (pi_keys (wE_pe iter)) (wG_pg tg) (wB_pss body) hs)) ?_
  refine ⟨a, .dK hs0, ha, trivial, fun od => ?_⟩
  have kL : KeepT H (upd H a (.frz od (.dK hs0))) := KeepT.mut ha (fun _ z => (nomatch z)) fun _ _ z => (nomatch z)
  have CL : Cp m X (upd H a (.frz od (.dK hs0))) (G.set a (.fdct .ik kvs)) := C.upd kL ⟨od, hs0, upd_same, t.mono fun _ _ z => z.keep kL⟩
  have unl : ∀ {H' : Hp} {G' : GH}, KeepT (upd H a (.frz od (.dK hs0))) H' → Cp m X H' G' → KeepT H' (upd H' a (.dK hs0)) ∨ True := fun _ _ => .inr trivial
  -- behind the loop
  have back : ∀ {H' : Hp} {G' : GH}, KeepT (upd H a (.frz od (.dK hs0))) H' → Cp m X H' G' → G' a = some (.fdct .ik kvs) → H' a = some (.frz od (.dK hs0)) ∧ KeepT H (upd H' a (.dK hs0)) ∧ Cp m X (upd H' a (.dK hs0)) (G'.set a (.dct .ik kvs)) ∧ (∀ d v, Dat X.K H' d v → Dat X.K (upd H' a (.dK hs0)) d v) := by
    intro H' G' k' C' g'
    have e : H' a = some (.frz od (.dK hs0)) := k'.frz _ _ _ upd_same
    have kk : KeepT H (upd H' a (.dK hs0)) := by
      refine ⟨fun b xs z => ?_, fun b ob xs z => ?_, fun b q z => ?_⟩
      · have nb : b ≠ a := fun y => by rw [y, ha] at z; cases z
        rw [upd_ne nb]; exact k'.tup _ _ (by rw [upd_ne nb]; exact z)
      · have nb : b ≠ a := fun y => by rw [y, ha] at z; cases z
        rw [upd_ne nb]; exact k'.frz _ _ _ (by rw [upd_ne nb]; exact z)
      · have nb : b ≠ a := fun y => by rw [y, ha] at z; unfold LamX.CodeO at z; cases z
        rw [upd_ne nb]; exact k'.code _ _ (by rw [upd_ne nb]; exact z)
    -- of the data: nothing of it is a dict
    have kd : ∀ (H1 : Hp), H1 = upd H' a (.dK hs0) → (∀ d v, Dat X.K H' d v → Dat X.K H1 d v) ∧ (∀ ds vs, Dats X.K H' ds vs → Dats X.K H1 ds vs) := by
      rintro H1 rfl
      have main : ∀ n : Nat, (∀ d v, sizeOf d ≤ n → Dat X.K H' d v → Dat X.K (upd H' a (.dK hs0)) d v) ∧ (∀ ds vs, sizeOf ds ≤ n → Dats X.K H' ds vs → Dats X.K (upd H' a (.dK hs0)) ds vs) := by
        intro n
        induction n with
        | zero =>
          refine ⟨fun d v hn => ?_, fun ds vs hn => ?_⟩
          · cases d <;> simp at hn
          · cases ds <;> simp at hn
        | succ n ih =>
          refine ⟨fun d v hn h => ?_, fun ds vs hn h => ?_⟩
          · cases d with
            | ro ds =>
              unfold Dat at h ⊢
              obtain ⟨p, vs, e1, h1, h2⟩ := h
              refine ⟨p, vs, e1, ?_, ih.2 ds vs (by simp at hn; omega) h2⟩
              rcases h1 with ⟨o1, h1⟩ | h1
              · refine .inl ⟨o1, ?_⟩
                rw [upd_ne fun y => by rw [y, e] at h1; cases h1]
                exact h1
              · exact .inr h1
            | tup ds =>
              unfold Dat at h ⊢
              obtain ⟨p, vs, e1, h1, h2⟩ := h
              refine ⟨p, vs, e1, ?_, ih.2 ds vs (by simp at hn; omega) h2⟩
              rw [upd_ne fun y => by rw [y, e] at h1; cases h1]
              exact h1
            | _ => exact h
          · cases ds with
            | nil => exact h
            | cons d ds =>
              unfold Dats at h ⊢
              obtain ⟨v, r, e1, h1, h2⟩ := h
              exact ⟨v, r, e1, ih.1 d v (by simp at hn; omega) h1, ih.2 ds r (by simp at hn; omega) h2⟩
      exact ⟨fun d v => (main _).1 d v (Nat.le_refl _), fun ds vs => (main _).2 ds vs (Nat.le_refl _)⟩
    have kd1 := (kd _ rfl).1
    have ka : ∀ ds vs, All2 (Dat X.K H') ds vs → All2 (Dat X.K (upd H' a (.dK hs0))) ds vs := fun ds vs h => h.mono fun d v => kd1 d v
    refine ⟨e, kk, ?_, kd1⟩
    intro b o hb
    by_cases hba : b = a
    · subst hba
      rw [set_same] at hb
      cases hb
      exact ⟨hs0, upd_same, t.mono fun _ _ z => ⟨z.1, Dat.keep kk _ _ z.2⟩⟩
    · rw [set_ne hba] at hb
      have ok := C' b o hb
      have eb : upd H' a (.dK hs0) b = H' b := upd_ne hba
      cases o with
      | lst ds => obtain ⟨vs, h1, h2⟩ := ok; exact ⟨vs, eb.trans h1, ka _ _ h2⟩
      | dct kd0 kv =>
        cases kd0 with
        | ik => obtain ⟨vs, h1, h2⟩ := ok; exact ⟨vs, eb.trans h1, h2.mono fun _ _ z => ⟨z.1, kd1 _ _ z.2⟩⟩
        | nk =>
          obtain ⟨vs, h1, s1, l1, h2, n1⟩ := ok
          exact ⟨vs, eb.trans h1, s1, l1, h2.mono fun _ _ z => ⟨z.1, z.2.1, z.2.2.1, kd1 _ _ z.2.2.2.1, let ⟨v, r, d⟩ := z.2.2.2.2; ⟨v, r, kd1 _ _ d⟩⟩, n1⟩
      | fdct kd0 kv =>
        cases kd0 with
        | ik => obtain ⟨ob, vs, h1, h2⟩ := ok; exact ⟨ob, vs, eb.trans h1, h2.mono fun _ _ z => ⟨z.1, kd1 _ _ z.2⟩⟩
        | nk => exact ok.elim
      | ins c fs => obtain ⟨dx, gs, h1, h2, h3⟩ := ok; exact ⟨dx, gs, eb.trans h1, h2.mono fun _ _ z => ⟨z.1, kd1 _ _ z.2⟩, h3⟩
      | tab q =>
        obtain ⟨⟨ps, z, ht, hc⟩, n⟩ := ok
        refine ⟨⟨ps, eb.trans z, ht, fun pos cv hv => ?_⟩, n⟩
        obtain ⟨c, e1, e2⟩ := hc pos cv hv
        exact ⟨c, e1, by rw [upd_ne fun y => by rw [y, e] at e2; unfold LamX.CodeO at e2; cases e2]; exact e2⟩
      | set ns => exact ⟨eb.trans ok.1, ok.2⟩
  show wE X iter τ (upd H a (.frz od (.dK hs0))) _
  refine wE_mono (ho.run τ _ σ _ _ (S.keep kL) CL q) fun v H1 ⟨x, G1, k1, C1, d1, ex, g1, q1⟩ => ?_
  subst ex
  rw [dat_ref.mp d1]
  have h1 : H1 a = some (.frz od (.dK hs0)) := k1.frz _ _ _ upd_same
  refine ⟨a, od, rfl, .inl ⟨hs0, h1, ?_⟩⟩
  have sim := sim_keys (m := m) (X := X) h1 (t.mono fun _ _ z => z.keep (kL.trans k1))
  obtain ⟨W, w0, turn, fin⟩ := q1
  refine ⟨fun i n τ' H' => n = (kvs.map (·.1)).length - i ∧ i ≤ (kvs.map (·.1)).length ∧ ∃ σ' G', KeepT H1 H' ∧ Sl X.K H' σ' τ' ∧ Cp m X H' G' ∧ G' a = some (.fdct .ik kvs) ∧ W i σ' G', ⟨_, rfl, Nat.zero_le _, σ, G1, KeepT.refl H1, S.keep (kL.trans k1), C1, g1, w0⟩, ?_⟩
  rintro i n τ' H' ⟨rfl, hi, σ', G', k', S', C', ok', q'⟩
  by_cases lt : i < (kvs.map (·.1)).length
  · have e1 : (kvs.map (·.1))[i]? = some (kvs.map (·.1))[i] := List.getElem?_eq_getElem lt
    obtain ⟨go, yl⟩ := sim.go i H' G' _ k' C' ok' e1
    have q' := turn i _ σ' G' e1 ok' q'
    refine .inr ⟨go, LN m X H1 (fun σ2 G2 => G2 a = some (.fdct .ik kvs) ∧ W (i + 1) σ2 G2), fun τ2 H2 ⟨σ2, G2, k2, S2, C2, o2, t2⟩ => ⟨(kvs.map (·.1)).length - (i + 1), by omega, rfl, lt, σ2, G2, k2, S2, C2, o2, t2⟩, fun x H2 y => ?_⟩
    obtain ⟨k2, C2, d2⟩ := yl x H2 y
    intro pins' s' u I' r
    refine thn (hg.run τ' H2 x _ σ' G' _ (S'.keep k2) C2 d2 q' pins' s' u I' r) fun _ s3 ⟨τ3, H3, I3, _, σ3, G3, k3, S3, C3, q3⟩ => ⟨τ3, H3, I3, ?_⟩
    refine wB_mono (hb.run τ3 H3 σ3 G3 _ S3 C3 q3) ?_
    have kk : KeepT H1 H3 := (k'.trans k2).trans k3
    have kq : KeepT (upd H a (.frz od (.dK hs0))) H3 := k1.trans kk
    refine ⟨fun _ _ h => LN.keep kk h, fun v H4 h => ?_, fun τ4 H4 h => ?_, fun _ _ h => LN.keep kk h⟩
    · obtain ⟨d, G4, k4, C4, d4, g4, q4⟩ := h
      obtain ⟨b1, b2, b3, b4⟩ := back (kq.trans k4) C4 g4
      exact ⟨b1, d, _, b2, b3, b4 _ _ d4, q4⟩
    · obtain ⟨σ4, G4, k4, S4, C4, g4, q4⟩ := h
      obtain ⟨b1, b2, b3, b4⟩ := back (kq.trans k4) C4 g4
      exact ⟨b1, σ4, _, b2, S4.mono fun d v z => (by
        cases d with
        | none => trivial
        | some d => obtain ⟨u, e, y⟩ := z; exact ⟨u, e, b4 _ _ y⟩), b3, q4⟩
  · have e : i = (kvs.map (·.1)).length := by omega
    subst e
    refine .inl ⟨sim.stop _ H' G' k' C' ok' (Nat.le_refl _), ?_⟩
    obtain ⟨g4, q4⟩ := fin σ' G' ok' q'
    obtain ⟨b1, b2, b3, b4⟩ := back (k1.trans k') C' g4
    exact ⟨b1, σ', _, b2, S'.mono fun d v z => (by
      cases d with
      | none => trivial
      | some d => obtain ⟨u, e, y⟩ := z; exact ⟨u, e, b4 _ _ y⟩), b3, q4⟩⟩
end
/-! ### dict comprehensions, keys ints or texts -/
def gDcL (p : Addr) (g : GG) (t : GT) (ek ev : GE) (σ : GSt) (Q : GH → Prop) (ds : List D) (ok : GH → Prop) (G : GH) : Prop := ∃ W : Nat → List (D × D) → GH → Prop, W 0 [] G ∧
  (∀ i d acc G, ds[i]? = some d → ok G → G p = some (.dct .ik acc) → W i acc G → g d σ G fun σ1 G1 => t σ1 G1 fun b G2 => if b = true then ek σ1 G2 fun y G3 => ev σ1 G3 fun z G4 => isKey y = true ∧ G4 p = some (.dct .ik acc) ∧ acc.length < lim ∧ ok (G4.set p (.dct .ik (dput acc y z))) ∧ W (i + 1) (dput acc y z) (G4.set p (.dct .ik (dput acc y z)))
    else G2 p = some (.dct .ik acc) ∧ ok G2 ∧ W (i + 1) acc G2) ∧ ∀ acc G, ok G → G p = some (.dct .ik acc) → W ds.length acc G → Q G
def gDc (it : GI) (g : GG) (t : GT) (ek ev : GE) (vs : List Nat) : GE := fun σ G Q => it σ G fun ds ok G1 => ∀ p, G1 p = none → ok (G1.set p (.dct .ik [])) ∧ gDcL p g t ek ev (wipeG σ vs) (fun G2 => Q (.ref p) G2) ds ok (G1.set p (.dct .ik []))
section
variable {m : Gm} {X : Cx} {pos : Pos} {kx vx tg iter : Expr} {ifs : List Expr} {scope : Scope} {own : List (Str × Nat)} {it : GI} {g : GG} {t : GT} {gk gv : GE} {ws : List Nat}
theorem wipe_wipe2 (us : List Nat) (τ : L2.St) : wipe (wipe τ us) us = wipe τ us := by
  apply List.ext_getElem?
  intro j
  have aux := fun (ρ : L2.St) => wipe_get us ρ j
  rw [aux, aux]
  by_cases hj : j ∈ us
  · simp [hj, wipe_length]
  · simp [hj]
theorem cp_dct {a : Addr} {kvs : List (D × D)} {H : Hp} {G : GH} {k : Key} {dv : D} {v : V} (C : Cp m X H G) (h : G a = some (.dct .ik kvs)) (hv : Dat X.K H dv v) : ∃ hs, H a = some (.dK hs) ∧ kvs.length = hs.length ∧ KeepT H (upd H a (.dK (putK hs k v))) ∧
    Cp m X (upd H a (.dK (putK hs k v))) (G.set a (.dct .ik (dput kvs (keyD k) dv))) := by
  obtain ⟨hs, ha, t⟩ := C a _ h
  have kt : KeepT H (upd H a (.dK (putK hs k v))) := KeepT.mut ha (fun _ z => (nomatch z)) fun _ _ z => (nomatch z)
  exact ⟨hs, ha, t.length, kt, C.upd kt ⟨_, upd_same, (ik_put t hv).mono fun _ _ z => z.keep kt⟩⟩
theorem dc_sim (hi : QI m X tg iter it) (hw : ∀ i ∈ ws, i ∈ own.map (·.2))
    (hg : ∀ (s : Shared) (H : Hp) (C : Addr) (cl : List (Str × Addr)) (fp : List Addr), QG m (X.blk s H scope (compEnvC scope cl C X.env) fp) tg ws g)
    (ht : ∀ (s : Shared) (H : Hp) (C : Addr) (cl : List (Str × Addr)) (fp : List Addr), QTs m (X.blk s H scope (compEnvC scope cl C X.env) fp) ifs t)
    (hk : ∀ (s : Shared) (H : Hp) (C : Addr) (cl : List (Str × Addr)) (fp : List Addr), QE m (X.blk s H scope (compEnvC scope cl C X.env) fp) kx gk)
    (he : ∀ (s : Shared) (H : Hp) (C : Addr) (cl : List (Str × Addr)) (fp : List Addr), QE m (X.blk s H scope (compEnvC scope cl C X.env) fp) vx gv)
    {τ : L2.St} {H : Hp} {σ : GSt} {G : GH} {Q : GQ} (S : Sl X.K H σ τ) (C : Cp m X H G) (q : gDc it g t gk gv (own.map (·.2)) σ G Q) :
    tDc (wI X tg iter) (fun v τ H Q => ∀ s H0 C cl fp, wG (X.blk s H0 scope (compEnvC scope cl C X.env) fp) tg v τ H Q) (fun τ H Q => ∀ s H0 C cl fp, wTs (X.blk s H0 scope (compEnvC scope cl C X.env) fp) ifs τ H Q) (fun τ H Q => ∀ s H0 C cl fp, wE (X.blk s H0 scope (compEnvC scope cl C X.env) fp) kx τ H Q) (fun τ H Q => ∀ s H0 C cl fp, wE (X.blk s H0 scope (compEnvC scope cl C X.env) fp) vx τ H Q) (own.map (·.2)) τ H (LQ m X H Q) := by
  intro pins s I
  refine thn (hi.run τ H σ G _ S C q pins s I) fun v s1 h1 => thn h1 fun itv s2 h2 => ?_
  obtain ⟨ia, fp, tn, J, H1, e, I1, T, st, f2, ds, ok, G1, k1, C1, sim, ok1, q1⟩ := h2
  refine ⟨ia, fp, tn, J, H1, e, I1, T, st, f2, fun p hp => ?_⟩
  obtain ⟨ok2, q1⟩ := q1 p (C1.free hp)
  have kn := KeepT.new (o := HO.dK []) hp
  have Cn : Cp m X (upd H1 p (.dK [])) (G1.set p (.dct .ik [])) := C1.upd (o := .dct .ik []) kn ⟨[], upd_same, .nil⟩
  obtain ⟨W, w0, turn, fin⟩ := q1
  refine ⟨fun i n H' => n = ds.length - i ∧ i ≤ ds.length ∧ ∃ acc G', KeepT (upd H1 p (.dK [])) H' ∧ Cp m X H' G' ∧ G' p = some (.dct .ik acc) ∧ ok G' ∧ W i acc G',
    ⟨_, rfl, Nat.zero_le _, [], _, KeepT.refl _, Cn, set_same, ok2, w0⟩, ?_⟩
  rintro i n H' ⟨rfl, hi, acc, G', k', C', gp, ok', q'⟩
  have kA : KeepT H1 H' := kn.trans k'
  by_cases lt : i < ds.length
  · have e1 : ds[i]? = some ds[i] := List.getElem?_eq_getElem lt
    obtain ⟨go, yl⟩ := sim.go i H' G' ds[i] kA C' ok' e1
    have q' := turn i ds[i] acc G' e1 ok' gp q'
    refine .inr ⟨go, fun H2 => ∃ acc G', KeepT (upd H1 p (.dK [])) H2 ∧ Cp m X H2 G' ∧ G' p = some (.dct .ik acc) ∧ ok G' ∧ W (i + 1) acc G', fun H2 z => ⟨ds.length - (i + 1), by omega, rfl, lt, z⟩, fun x H2 y => ?_⟩
    obtain ⟨k2, C2, d2⟩ := yl x H2 y
    intro s' H0 Cc cl fp' pins' s'' u I' r
    have Sw : Sl X.K H2 (wipeG σ (own.map (·.2))) (wipe τ (own.map (·.2))) := (sl_wipe S _).keep ((k1.trans kA).trans k2)
    refine thn ((hg s' H0 Cc cl fp').run _ H2 x ds[i] _ G' _ Sw C2 d2 q' pins' s'' u I' r) fun _ s3 ⟨τ3, H3, I3, wp, σ3, G3, k3, S3, C3, q3⟩ => ⟨τ3, H3, I3, ?_, ?_⟩
    · rw [wp _ hw, wipe_wipe2]
    · intro s4 H4 Cc2 cl2 fp2 pins2 s5 I5
      have kB : KeepT (upd H1 p (.dK [])) H3 := (k'.trans k2).trans k3
      refine thn ((ht s4 H4 Cc2 cl2 fp2).run τ3 H3 σ3 G3 _ S3 C3 q3 pins2 s5 I5) fun b s6 ⟨H6, I6, G6, k6, C6, q6⟩ => ⟨H6, I6, ?_⟩
      cases b with
      | false =>
        obtain ⟨g6, o6, q6⟩ := q6
        exact ⟨acc, G6, kB.trans k6, C6, g6, o6, q6⟩
      | true =>
        simp only [if_true] at q6 ⊢
        intro s7 H7 Cc3 cl3 fp3
        refine wE_mono ((hk s7 H7 Cc3 cl3 fp3).run τ3 H6 σ3 G6 _ (S3.keep k6) C6 q6) fun yv H8 ⟨dy, G8, k8, C8, d8, q8⟩ => ?_
        intro s8 H9 Cc4 cl4 fp4
        refine wE_mono ((he s8 H9 Cc4 cl4 fp4).run τ3 H8 σ3 G8 _ (S3.keep (k6.trans k8)) C8 q8) fun zv Ha ⟨dz, Ga, ka, Ca, da, hkey, ga, la, oa, qa⟩ => ?_
        obtain ⟨kk, rfl⟩ := isKey_of hkey
        obtain ⟨hs, hh, hlen, kt, Ct⟩ := cp_dct (k := kk) Ca ga da
        exact ⟨hs, kk, dat_keyD d8, hh, by rw [← hlen]; exact lim_lt la, dput acc (keyD kk) dz, _, (((kB.trans k6).trans k8).trans ka).trans kt, Ct, set_same, oa, qa⟩
  · have e : i = ds.length := by omega
    subst e
    exact .inl ⟨sim.stop _ H' G' kA C' ok' (Nat.le_refl _), .ref p, G', k1.trans kA, C', dat_ref.mpr rfl, fin acc G' ok' gp q'⟩
theorem q_dc (hc : X.calm = true) (hN : X.N.Nodup) (hi : QI m X tg iter it) (ok : BlkOk X.N X.env.scope scope own) (hw : ∀ i ∈ ws, i ∈ own.map (·.2))
    (hg : ∀ (s : Shared) (H : Hp) (C : Addr) (cl : List (Str × Addr)) (fp : List Addr), QG m (X.blk s H scope (compEnvC scope cl C X.env) fp) tg ws g)
    (ht : ∀ (s : Shared) (H : Hp) (C : Addr) (cl : List (Str × Addr)) (fp : List Addr), QTs m (X.blk s H scope (compEnvC scope cl C X.env) fp) ifs t)
    (hk : ∀ (s : Shared) (H : Hp) (C : Addr) (cl : List (Str × Addr)) (fp : List Addr), QE m (X.blk s H scope (compEnvC scope cl C X.env) fp) kx gk)
    (he : ∀ (s : Shared) (H : Hp) (C : Addr) (cl : List (Str × Addr)) (fp : List Addr), QE m (X.blk s H scope (compEnvC scope cl C X.env) fp) vx gv) (hs : ∀ x, foldedSetIterable iter X.env x = pure x := by intro _; rfl) :
    QE m X (.DictComp kx vx [⟨tg, iter, ifs, 0⟩] scope pos) (gDc it g t gk gv (own.map (·.2))) := ⟨fun τ H σ G Q S C q => by
  refine wE_of (pe_dc hc hN (wI_pi tg iter) ok (g := fun v τ H Q => ∀ s H0 C cl fp, wG (X.blk s H0 scope (compEnvC scope cl C X.env) fp) tg v τ H Q) ?_ (tt := fun τ H Q => ∀ s H0 C cl fp, wTs (X.blk s H0 scope (compEnvC scope cl C X.env) fp) ifs τ H Q) ?_ (tk := fun τ H Q => ∀ s H0 C cl fp, wE (X.blk s H0 scope (compEnvC scope cl C X.env) fp) kx τ H Q) ?_ (tv := fun τ H Q => ∀ s H0 C cl fp, wE (X.blk s H0 scope (compEnvC scope cl C X.env) fp) vx τ H Q) ?_ hs) (dc_sim hi hw hg ht hk he S C q)
  · exact fun s H0 C cl fp => ⟨fun pins s' τ H v u Q I r h => (wG_pg tg).run pins s' τ H v u Q I r (h s H0 C cl fp)⟩
  · exact fun s H0 C cl fp => ⟨fun pins s' τ H Q I h => (wTs_pts ifs).run pins s' τ H Q I (h s H0 C cl fp)⟩
  · exact fun s H0 C cl fp => ⟨fun pins s' τ H Q I h => (wE_pe kx).run pins s' τ H Q I (h s H0 C cl fp)⟩
  · exact fun s H0 C cl fp => ⟨fun pins s' τ H Q I h => (wE_pe vx).run pins s' τ H Q I (h s H0 C cl fp)⟩⟩
end
/-! ### {k: e}, k a tuple -/
def gDisp1 (gk gv : GE) : GE := fun σ G Q => ∀ p, G p = none → gk σ (G.set p (.dct .nk [])) fun k G1 => gv σ G1 fun d G2 => (∃ ds, k = .tup ds) ∧ Pkd k ∧ G2 p = some (.dct .nk []) ∧ Q (.ref p) (G2.set p (.dct .nk [(k, d)]))
section
variable {m : Gm} {X : Cx} {pos : Pos} {k v : Expr} {gk gv : GE}
theorem q_disp1 (hu : X.A.units + 64 < cLine) (hk : QE m X k gk) (hv : QE m X v gv) : QE m X (.Dict [some k] [v] pos) (gDisp1 gk gv) := ⟨fun τ H σ G Q S C q => by
  intro pins s I
  have hn : H s.heap.objs.size = none := I.hok.fresh (Nat.le_refl _)
  have hsys : (s.heap.objs.size == sysModules) = false := beq_eq_false_iff_ne.mpr (Ne.symm (Nat.ne_of_lt I.big))
  have q := q s.heap.objs.size (C.free hn)
  have I1 := I.laid (a := s.heap.objs.size) (o := nkO X.w s.heap.objs.size []) (h' := s.heap.push { cls := .type "dict", data := .dict #[] }) (t' := s.toks) (fun _ _ q => Heap.get?_push_of_some _ q) (Nat.le_refl _) ⟨⟨_, #[], 0, Heap.get?_push_size _ rfl, ⟨rfl, rfl, rfl⟩, rfl, rfl⟩, ⟨_, Heap.get?_push_size _ rfl⟩, fun g1 g2 z k => by
    obtain ⟨oo, ea, eb, z1, z2⟩ := z
    exact ⟨oo, ea, eb, k oo z1, z2⟩⟩
  have kn := KeepT.new (o := nkO X.w s.heap.objs.size []) hn
  have C1 : Cp m X (upd H s.heap.objs.size (nkO X.w s.heap.objs.size [])) (G.set s.heap.objs.size (.dct .nk [])) := C.upd (o := .dct .nk []) kn ⟨[], upd_same, hsys, Nat.zero_le _, .nil, List.nodup_nil⟩
  generalize hp : s.heap.objs.size = p at q I1 kn C1 hn hsys
  rw [arm_eval_Dict, show (evalEachOpt [some k] X.env).zip ((evalEach [v] X.env).map fun v => do let x ← v; standAt pos; pure x) = (pairTrees [some k] [v] X.env pos).map fun p => (some p.1, p.2) from zip_pairTrees [some k] [v] X.env pos rfl rfl, dictDisplay_pairs (pairTrees [some k] [v] X.env pos) (fun z => nomatch z) (by show 1 < 17; omega)]
  refine wpAny_bind (wpAny_standAt (wpAny_bind (wpAny_subDictH (knd := nestedKind X.prog X.w) (Q := fun d s' => wpAny (model X.prog X.w) X.A (pure (Value.ref d)) (EP X pins τ (LQ m X H Q)) X.xe s') (by show X.A.units + 8 < cLine; omega) (by show 1 ≤ 15; omega) (pairTrees_cons_walk (thn (hk.run τ _ σ _ _ (S.keep kn) C1 q pins _ I1) fun ku s2 h2 => ?_)))))
  obtain ⟨kx, H2, I2, rk, dk, G2, k2, C2, d2, q2⟩ := h2
  refine thn (hv.run τ H2 σ G2 _ (S.keep (kn.trans k2)) C2 q2 pins s2 I2) fun vu s3 ⟨vx, H3, I3, rv, dv, G3, k3, C3, d3, ⟨ds, e⟩, pk, g3, q3⟩ => ?_
  subst e
  refine pairTrees_nil_walk ?_
  obtain ⟨a, vs, ea, ha, ta⟩ := dat_tup.mp (Dat.keep k3 _ _ d2)
  subst ea
  obtain rfl : ku = Value.ref a := rk
  obtain ⟨hnest, _⟩ := key_ref I3 pk (Dat.keep k3 _ _ d2) (show RelV (.ref a) (.ref a) from rfl)
  obtain ⟨xs, e3, hd3, l3, t3, n3, dd3⟩ := nk_at I3 C3 g3
  have ex : xs = [] := by
    have := t3.length
    cases xs with
    | nil => rfl
    | cons _ _ => simp at this
  subst ex
  refine ⟨[((D.tup ds).key, a, vu)], ⟨rfl, rfl, ⟨hnest, pk.2⟩, trivial⟩, by rw [hp]; exact dd3, fun h' tk dd' hs => ?_⟩
  rw [hp] at dd' hs ⊢
  refine wpAny_pure ?_
  have kt : KeepT H3 (upd H3 p (nkO X.w p [((D.tup ds).key, a, vu)])) := KeepT.mut e3 (fun _ z => (nomatch z)) (fun _ _ z => (nomatch z)) nkO_ne
  refine ⟨.ref p, upd H3 p (nkO X.w p [((D.tup ds).key, a, vu)]), ?_, rfl, .ref p, _, ((kn.trans k2).trans k3).trans kt, C3.upd (o := .dct .nk [(D.tup ds, dv)]) kt ⟨_, upd_same, hsys, by show 1 ≤ _; rw [sizeLine_eq]; omega, .cons ⟨pk, ⟨ds, rfl⟩, rfl, Dat.keep (k3.trans kt) _ _ d2, vx, rv, Dat.keep kt _ _ d3⟩ .nil, by simp⟩, dat_ref.mpr rfl, q3⟩
  obtain ⟨o', es', ep', h1, h2, h3, h4, h5, h6⟩ := dd'
  refine d_write I3 (by rw [e3]; exact True.intro) hs ⟨o', h1⟩ ⟨⟨o', es', ep', h1, h2, h3, h4⟩, ⟨o', h1⟩, fun g1 g2 z k => ?_⟩
  obtain ⟨oo, ea, eb, z1, z2⟩ := z
  exact ⟨oo, ea, eb, k oo z1, z2⟩⟩
end
/-! ### d == {}, d a dict without keys -/
def gEqE (a : GE) : GE := fun σ G Q => a σ G fun x G1 => ∃ p, x = .ref p ∧ G1 p = some (.dct .ik []) ∧ Q (.bl true) G1
section
variable {m : Gm} {X : Cx} {pos p2 : Pos} {a : Expr} {ga : GE}
theorem q_eqE (hu : X.A.units < cLine) (ha : QE m X a ga) : QE m X (.Compare a [.Eq] [.Dict [] [] p2] pos) (gEqE ga) := ⟨fun τ H σ G Q S C q => by
  refine wE_of (pe_cmpR (op_eq_dictA hu) (wE_pe a) pe_dnewK (nomark _)) ?_
  refine wE_mono (ha.run τ H σ G _ S C q) fun v H1 ⟨x, G1, k1, C1, d1, p, e, g1, q1⟩ => ?_
  subst e
  rw [dat_ref.mp d1]
  obtain ⟨hs, h1, t⟩ := C1 p _ g1
  rw [show hs = [] from t] at h1
  intro r hr
  have hne : p ≠ r := fun z => by rw [z, hr] at h1; cases h1
  refine ⟨p, r, [], [], rfl, rfl, by rw [upd_ne hne]; exact h1, upd_same, rfl, (fun _ z => nomatch z), ?_⟩
  exact ⟨.bl true, G1, k1.trans (KeepT.new hr), C1.ext hr, dB _, q1⟩⟩
end
end Cz

/-! CzCell: cells, entries, trees; no program in sight. -/
namespace Cz
open PySem L2
abbrev Ent := Nat × Nat
inductive PCell where
  | leaf (ws : List Nat) | node (es : List Ent)
  deriving DecidableEq
def entD (e : Ent) : D := .tup [.int e.1, .int e.2]
def cellD : PCell → D
  | .leaf ws => .tup (.str "leaf" :: intsD ws)
  | .node es => .tup (.str "node" :: es.map entD)
theorem entD_inj {a b : Ent} (h : entD a = entD b) : a = b := by
  obtain ⟨a1, a2⟩ := a
  obtain ⟨b1, b2⟩ := b
  unfold entD at h
  injection h with h
  simp only [List.cons.injEq, D.int.injEq, Int.natCast_inj, and_true] at h
  rw [h.1, h.2]
theorem entD_iff {a b : Ent} : entD a = entD b ↔ a = b := ⟨entD_inj, fun h => by rw [h]⟩
theorem intsD_inj {a b : List Nat} (h : intsD a = intsD b) : a = b := List.map_inj_right (fun x y e => by injection e with e; exact Int.ofNat.inj e) |>.mp h
theorem ents_inj {a b : List Ent} (h : a.map entD = b.map entD) : a = b := List.map_inj_right (fun x y e => entD_inj e) |>.mp h
theorem leafNode : ¬ (("leaf" : Str) = ("node" : Str)) := fun h => absurd (ofString_inj.mp h) (by decide)
theorem cellD_inj : ∀ {a b : PCell}, cellD a = cellD b → a = b
  | .leaf a, .leaf b, h => by
    unfold cellD at h
    injection h with h
    injection h with _ h
    rw [intsD_inj h]
  | .node a, .node b, h => by
    unfold cellD at h
    injection h with h
    injection h with _ h
    rw [ents_inj h]
  | .leaf a, .node b, h => by
    unfold cellD at h
    injection h with h
    injection h with h
    injection h with h
    exact absurd h leafNode
  | .node a, .leaf b, h => by
    unfold cellD at h
    injection h with h
    injection h with h
    injection h with h
    exact absurd h.symm leafNode
theorem cellD_iff {a b : PCell} : cellD a = cellD b ↔ a = b := ⟨cellD_inj, fun h => by rw [h]⟩
theorem depthAll_le {n : Nat} : ∀ {ds : List D}, (∀ d ∈ ds, d.key.depth ≤ n) → NestedKey.depthAll (keys ds) ≤ n
  | [], _ => by unfold keys NestedKey.depthAll; omega
  | d :: ds, h => by
    have h1 := h d List.mem_cons_self
    have h2 := depthAll_le (ds := ds) fun x hx => h x (List.mem_cons_of_mem _ hx)
    unfold keys NestedKey.depthAll
    omega
theorem pures_of : ∀ {ds : List D}, (∀ d ∈ ds, d.pure = true) → pures ds = true
  | [], _ => rfl
  | d :: ds, h => by
    rw [pures, h d List.mem_cons_self, pures_of fun x hx => h x (List.mem_cons_of_mem _ hx)]
    rfl
theorem pure_tup {ds : List D} (h : ∀ d ∈ ds, d.pure = true) : (D.tup ds).pure = true := by rw [D.pure]; exact pures_of h
theorem depth_tup {n : Nat} {ds : List D} (h : ∀ d ∈ ds, d.key.depth ≤ n) : (D.tup ds).key.depth ≤ n + 1 := by
  have := depthAll_le h
  unfold D.key NestedKey.depth
  omega
theorem depth_int (i : Int) : (D.int i).key.depth = 0 := by unfold D.key NestedKey.depth; rfl
theorem depth_str (x : Str) : (D.str x).key.depth = 0 := by unfold D.key NestedKey.depth; rfl
theorem ent_pure (e : Ent) : (entD e).pure = true := rfl
theorem ent_depth (e : Ent) : (entD e).key.depth ≤ 1 := depth_tup (n := 0) fun d hd => by
  simp only [List.mem_cons, List.not_mem_nil, or_false] at hd
  rcases hd with rfl | rfl <;> rw [depth_int] <;> exact Nat.le_refl 0
theorem pkd_ent (e : Ent) : Pkd (entD e) := ⟨ent_pure e, Nat.le_trans (ent_depth e) (by decide)⟩
theorem cell_pure : ∀ c : PCell, (cellD c).pure = true
  | .leaf ws => pure_tup fun d hd => by
    rcases List.mem_cons.mp hd with rfl | hd
    · exact sOk_of "leaf"
    · unfold intsD at hd
      obtain ⟨n, _, rfl⟩ := List.mem_map.mp hd
      rfl
  | .node es => pure_tup fun d hd => by
    rcases List.mem_cons.mp hd with rfl | hd
    · exact sOk_of "node"
    · obtain ⟨n, _, rfl⟩ := List.mem_map.mp hd
      exact ent_pure n
theorem cell_depth : ∀ c : PCell, (cellD c).key.depth ≤ 2
  | .leaf ws => depth_tup fun d hd => by
    rcases List.mem_cons.mp hd with rfl | hd
    · rw [depth_str]; omega
    · unfold intsD at hd
      obtain ⟨n, _, rfl⟩ := List.mem_map.mp hd
      rw [depth_int]; omega
  | .node es => depth_tup fun d hd => by
    rcases List.mem_cons.mp hd with rfl | hd
    · rw [depth_str]; omega
    · obtain ⟨n, _, rfl⟩ := List.mem_map.mp hd
      exact ent_depth n
theorem pkd_cell (c : PCell) : Pkd (cellD c) := ⟨cell_pure c, Nat.le_trans (cell_depth c) (by decide)⟩
theorem cell_tup : ∀ c : PCell, ∃ ds, cellD c = .tup ds
  | .leaf _ => ⟨_, rfl⟩
  | .node _ => ⟨_, rfl⟩
/-! ### the texts that have marks -/
def cellAt (cs : List PCell) (k : Nat) : Option PCell := if k = 0 then none else cs[k - 1]?
def addC (cs : List PCell) (c : PCell) : List PCell := if c ∈ cs then cs else cs ++ [c]
def markC (cs : List PCell) (c : PCell) : Nat := if c ∈ cs then cs.idxOf c + 1 else 0
theorem mem_cells {cs : List PCell} {c : PCell} : cellD c ∈ cs.map cellD ↔ c ∈ cs := by
  rw [List.mem_map]
  constructor
  · rintro ⟨d, hd, e⟩; rw [← cellD_inj e]; exact hd
  · intro h; exact ⟨c, h, rfl⟩
theorem addT_cells (cs : List PCell) (c : PCell) : addT (cs.map cellD) (cellD c) = (addC cs c).map cellD := by
  unfold addT addC
  by_cases h : c ∈ cs
  · rw [if_pos h, if_pos (mem_cells.mpr h)]
  · rw [if_neg h, if_neg (fun z => h (mem_cells.mp z)), List.map_append]; rfl
theorem idxOf_cells (c : PCell) : ∀ cs : List PCell, (cs.map cellD).idxOf (cellD c) = cs.idxOf c
  | [] => rfl
  | d :: cs => by
    rw [List.map_cons, List.idxOf_cons, List.idxOf_cons, idxOf_cells c cs]
    by_cases h : d = c
    · subst h; simp
    · have h2 : ¬ cellD d = cellD c := fun z => h (cellD_inj z)
      have e1 : (d == c) = false := by simp [h]
      have e2 : (cellD d == cellD c) = false := by simp [h2]
      rw [e1, e2]
theorem markOf_cells (cs : List PCell) (c : PCell) : markOf (cs.map cellD) (cellD c) = (markC cs c : Nat) := by
  unfold markOf markC
  by_cases h : c ∈ cs
  · rw [if_pos h, if_pos (mem_cells.mpr h), idxOf_cells]; rfl
  · rw [if_neg h, if_neg (fun z => h (mem_cells.mp z))]; rfl
theorem addC_mem (cs : List PCell) (c : PCell) : c ∈ addC cs c := by unfold addC; split <;> simp_all
theorem cellAt_mark (cs : List PCell) (c : PCell) : cellAt (addC cs c) (markC (addC cs c) c) = some c := by
  unfold markC
  rw [if_pos (addC_mem cs c)]
  unfold cellAt
  rw [if_neg (by omega), Nat.add_sub_cancel, List.getElem?_eq_getElem (List.idxOf_lt_length_of_mem (addC_mem cs c)), List.getElem_idxOf]
theorem cellAt_some {cs : List PCell} {k : Nat} {c : PCell} (h : cellAt cs k = some c) : k ≠ 0 ∧ cs[k - 1]? = some c := by
  unfold cellAt at h
  by_cases e : k = 0
  · rw [if_pos e] at h; cases h
  · rw [if_neg e] at h; exact ⟨e, h⟩
/-- more texts, the old ones keep their marks -/
def Pre (cs cs' : List PCell) : Prop := ∃ r, cs' = cs ++ r
theorem Pre.refl (cs : List PCell) : Pre cs cs := ⟨[], by simp⟩
theorem Pre.trans {a b c : List PCell} (h : Pre a b) (k : Pre b c) : Pre a c := by
  obtain ⟨r, rfl⟩ := h
  obtain ⟨q, rfl⟩ := k
  exact ⟨r ++ q, by simp⟩
theorem pre_addC (cs : List PCell) (c : PCell) : Pre cs (addC cs c) := by
  unfold addC
  split
  · exact Pre.refl _
  · exact ⟨[c], rfl⟩
theorem Pre.cell {cs cs' : List PCell} (h : Pre cs cs') {k : Nat} {c : PCell} (e : cellAt cs k = some c) : cellAt cs' k = some c := by
  obtain ⟨r, rfl⟩ := h
  obtain ⟨h1, h2⟩ := cellAt_some e
  unfold cellAt
  rw [if_neg h1, List.getElem?_append_left (List.getElem?_eq_some_iff.mp h2).1]
  exact h2
theorem addC_nodup {cs : List PCell} (c : PCell) (h : cs.Nodup) : (addC cs c).Nodup := by
  unfold addC
  split
  · exact h
  · rename_i hn
    exact List.nodup_append.mpr ⟨h, by simp, fun a ha b hb => by rw [List.mem_singleton.mp hb]; exact fun e => hn (e ▸ ha)⟩
/-- asked for a mark -/
def knowsB (cs : List PCell) (v : D) (k : Nat) : Bool := match cellAt cs k with
  | some c => decide (v = cellD c)
  | none => false
theorem knows_eq {cs : List PCell} (nd : (cs.map cellD).Nodup) (v : D) (k : Nat) : (decide (markOf (cs.map cellD) v = (k : Int)) && decide ((k : Int) ≠ 0)) = knowsB cs v k := by
  unfold knowsB
  by_cases hk : k = 0
  · subst hk
    simp [cellAt]
  · have e0 : decide ((k : Int) ≠ 0) = true := decide_eq_true (by omega)
    rw [e0, Bool.and_true]
    by_cases hv : v ∈ cs.map cellD
    · rw [mark_mem hv]
      have hl := List.idxOf_lt_length_of_mem hv
      have hg : (cs.map cellD)[(cs.map cellD).idxOf v]? = some v := by rw [List.getElem?_eq_getElem hl, List.getElem_idxOf]
      by_cases e : (cs.map cellD).idxOf v + 1 = k
      · rw [decide_eq_true (by omega)]
        rw [List.getElem?_map] at hg
        obtain ⟨c, h1, h2⟩ := Option.map_eq_some_iff.mp hg
        have : cellAt cs k = some c := by unfold cellAt; rw [if_neg hk, ← e, Nat.add_sub_cancel]; exact h1
        rw [this]
        exact (decide_eq_true h2.symm).symm
      · rw [decide_eq_false (by omega)]
        cases h : cellAt cs k with
        | none => rfl
        | some c =>
          obtain ⟨_, h1⟩ := cellAt_some h
          symm
          refine decide_eq_false fun z => e ?_
          have h3 : (cs.map cellD)[k - 1]? = some v := by rw [List.getElem?_map, h1, z]; rfl
          have := (List.getElem?_inj hl nd).mp (hg.trans h3.symm)
          omega
    · rw [mark_not hv, decide_eq_false (by omega)]
      cases h : cellAt cs k with
      | none => rfl
      | some c =>
        obtain ⟨_, h1⟩ := cellAt_some h
        symm
        exact decide_eq_false fun z => hv (by rw [z]; exact mem_cells.mpr (List.mem_of_getElem? h1))
theorem knowsB_iff {cs : List PCell} {v : D} {k : Nat} : knowsB cs v k = true ↔ ∃ c, cellAt cs k = some c ∧ v = cellD c := by
  unfold knowsB
  cases h : cellAt cs k with
  | none => simp
  | some c => simp
/-- the sealer, by cells -/
def SealC (G : GH) (s d : Addr) (cs : List PCell) : Prop := SealAt G s d (cs.map cellD)
theorem SealC.nd {G : GH} {s d : Addr} {cs : List PCell} (h : SealC G s d cs) : (cs.map cellD).Nodup := h.2.2.1
theorem SealC.ndc {G : GH} {s d : Addr} {cs : List PCell} (h : SealC G s d cs) : cs.Nodup := by
  have := h.nd
  exact List.Pairwise.of_map (f := cellD) (fun a b z e => z (by rw [e])) this
theorem SealC.keep {G G' : GH} {s d : Addr} {cs : List PCell} {xs : List Addr} (h : SealC G s d cs) (k : Keep G G' xs) (hs : s ∉ xs) (hd : d ∉ xs) : SealC G' s d cs := SealAt.keep h k hs hd
theorem i_knows {G : GH} {Q : GQ} {s d : Addr} {cs : List PCell} {v : D} {k : Nat} (h : SealC G s d cs) (pv : Pkd v) (q : Q (.bl (knowsB cs v k)) G) : sp_sealer_knows [.ref s, v, .int k] G Q :=
  ⟨s, d, _, v, k, rfl, h, pv, by rw [knows_eq h.nd]; exact q⟩
theorem i_mark {G : GH} {Q : GQ} {s d : Addr} {cs : List PCell} {c : PCell} (h : SealC G s d cs) (hl : cs.length < lim) (q : ∀ G', SealC G' s d (addC cs c) → Keep G G' [d] → Q (.int (markC (addC cs c) c : Nat)) G') : sp_sealer_mark [.ref s, cellD c] G Q := by
  refine ⟨s, d, _, _, rfl, h, pkd_cell c, cell_tup c, by rw [List.length_map]; exact hl, fun G' h1 h2 => ?_⟩
  rw [addT_cells] at h1 ⊢
  rw [markOf_cells]
  exact q G' h1 h2
/-! ### trees -/
/-- the cell with mark k is the root of a tree of height h, whose leaves hold what g says by their ways -/
def Holds (cs : List PCell) (f : Nat) : Nat → Nat → (List Nat → List Nat) → Prop
  | 0, k, g => cellAt cs k = some (.leaf (g []))
  | h + 1, k, g => ∃ es, cellAt cs k = some (.node es) ∧ es.length = f ∧ ∀ c e, es[c]? = some e → Holds cs f h e.2 fun w => g (c :: w)
theorem Holds.pre {cs cs' : List PCell} {f : Nat} (p : Pre cs cs') : ∀ {h k : Nat} {g : List Nat → List Nat}, Holds cs f h k g → Holds cs' f h k g
  | 0, _, _, e => p.cell e
  | _ + 1, _, _, ⟨es, e, l, t⟩ => ⟨es, p.cell e, l, fun c x hx => (t c x hx).pre p⟩
theorem Holds.congr {cs : List PCell} {f : Nat} : ∀ {h k : Nat} {g g' : List Nat → List Nat}, (∀ w : List Nat, w.length = h → (∀ c ∈ w, c < f) → g w = g' w) → Holds cs f h k g → Holds cs f h k g'
  | 0, _, _, _, q, e => by rw [Holds] at e ⊢; rw [← q [] rfl (by simp)]; exact e
  | h + 1, _, _, _, q, ⟨es, e, l, t⟩ => ⟨es, e, l, fun c x hx => (t c x hx).congr fun w hw hf => q (c :: w) (by simp [hw]) fun d hd => by
    rcases List.mem_cons.mp hd with rfl | hd
    · have := (List.getElem?_eq_some_iff.mp hx).1; omega
    · exact hf d hd⟩
def kidsOf (cs : List PCell) (k : Nat) : List Ent := match cellAt cs k with
  | some (.node es) => es
  | _ => []
/-- all entries of a tree, each as often as it is met -/
def unf (cs : List PCell) : Nat → Ent → List Ent
  | 0, e => [e]
  | h + 1, e => e :: (kidsOf cs e.2).flatMap (unf cs h)
theorem kids_node {cs : List PCell} {k : Nat} {es : List Ent} (h : cellAt cs k = some (.node es)) : kidsOf cs k = es := by unfold kidsOf; rw [h]
theorem self_unf (cs : List PCell) (h : Nat) (e : Ent) : e ∈ unf cs h e := by cases h <;> simp [unf]
theorem Holds.unf_pre {cs cs' : List PCell} {f : Nat} (p : Pre cs cs') : ∀ {h : Nat} {e : Ent} {g : List Nat → List Nat}, Holds cs f h e.2 g → unf cs' h e = unf cs h e
  | 0, _, _, _ => rfl
  | h + 1, e, g, ⟨es, he, l, t⟩ => by
    rw [unf, unf, kids_node he, kids_node (p.cell he)]
    congr 1
    rw [List.flatMap_def, List.flatMap_def]
    congr 1
    refine List.map_congr_left fun x hx => ?_
    obtain ⟨c, hc⟩ := List.getElem?_of_mem hx
    exact (t c x hc).unf_pre p
theorem cellsN_succ (f : Nat) : ∀ h : Nat, cellsN f (h + 1) = 1 + f * cellsN f h
  | 0 => by simp [cellsN]
  | h + 1 => by
    have ih := cellsN_succ f h
    have e : f * cellsN f (h + 1) = f * cellsN f h + f ^ (h + 1) * f := by
      show f * (cellsN f h + f ^ (h + 1)) = _
      rw [Nat.mul_add, Nat.mul_comm (f ^ (h + 1)) f]
    show cellsN f (h + 1) + f ^ (h + 1 + 1) = _
    rw [e, Nat.pow_succ, ih]
    omega
theorem Holds.unf_len {cs : List PCell} {f : Nat} : ∀ {h : Nat} {e : Ent} {g : List Nat → List Nat}, Holds cs f h e.2 g → (unf cs h e).length = cellsN f h
  | 0, _, _, _ => rfl
  | h + 1, e, g, ⟨es, he, l, t⟩ => by
    rw [unf, kids_node he, List.length_cons, List.length_flatMap, cellsN_succ]
    have : es.map (fun x => (unf cs h x).length) = es.map fun _ => cellsN f h := List.map_congr_left fun x hx => by
      obtain ⟨c, hc⟩ := List.getElem?_of_mem hx
      exact (t c x hc).unf_len
    rw [this, List.map_const', List.sum_replicate_nat, l]
    omega
/-- the cell on the disk for an entry -/
def OnD (dk : Nat → Option D) (cs : List PCell) (e : Ent) : Prop := ∃ c, cellAt cs e.2 = some c ∧ dk e.1 = some (cellD c)
/-- a tree on the disk -/
def Good (dk : Nat → Option D) (cs : List PCell) (f h : Nat) (e : Ent) (g : List Nat → List Nat) : Prop := Holds cs f h e.2 g ∧ ∀ x ∈ unf cs h e, OnD dk cs x
theorem Good.kid {dk : Nat → Option D} {cs : List PCell} {f h : Nat} {e x : Ent} {g : List Nat → List Nat} {es : List Ent} {c : Nat} (G : Good dk cs f (h + 1) e g) (he : cellAt cs e.2 = some (.node es)) (hx : es[c]? = some x) : Good dk cs f h x fun w => g (c :: w) := by
  obtain ⟨⟨es', e1, l, t⟩, on⟩ := G
  rw [he] at e1
  cases e1
  refine ⟨t c x hx, fun y hy => on y ?_⟩
  rw [unf, kids_node he]
  exact List.mem_cons_of_mem _ (List.mem_flatMap.mpr ⟨x, List.mem_of_getElem? hx, hy⟩)
theorem Good.on {dk : Nat → Option D} {cs : List PCell} {f h : Nat} {e : Ent} {g : List Nat → List Nat} (G : Good dk cs f h e g) : OnD dk cs e := G.2 e (self_unf cs h e)
theorem OnD.inj {dk : Nat → Option D} {cs : List PCell} (nd : cs.Nodup) {a b : Ent} (ha : OnD dk cs a) (hb : OnD dk cs b) (h : a.1 = b.1) : a = b := by
  obtain ⟨c, h1, h2⟩ := ha
  obtain ⟨c', h3, h4⟩ := hb
  rw [h, h4] at h2
  have := cellD_inj (Option.some.inj h2)
  subst this
  obtain ⟨n1, e1⟩ := cellAt_some h1
  obtain ⟨n2, e2⟩ := cellAt_some h3
  have := (List.getElem?_inj (List.getElem?_eq_some_iff.mp e1).1 nd).mp (e1.trans e2.symm)
  obtain ⟨a1, a2⟩ := a
  obtain ⟨b1, b2⟩ := b
  simp only at h n1 n2 this ⊢
  rw [h, show a2 = b2 by omega]
/-- a tree has one height only -/
theorem Holds.height {cs : List PCell} {f : Nat} (f0 : 0 < f) : ∀ {h h' k : Nat} {g g' : List Nat → List Nat}, Holds cs f h k g → Holds cs f h' k g' → h = h'
  | 0, 0, _, _, _, _, _ => rfl
  | 0, _ + 1, _, _, _, e, ⟨es, e', _, _⟩ => by rw [Holds] at e; rw [e] at e'; cases e'
  | _ + 1, 0, _, _, _, ⟨es, e', _, _⟩, e => by rw [Holds] at e; rw [e] at e'; cases e'
  | h + 1, h' + 1, _, _, _, ⟨es, e, l, t⟩, ⟨es', e', l', t'⟩ => by
    rw [e] at e'
    cases e'
    have hx := List.getElem?_eq_getElem (show 0 < es.length by omega)
    rw [(t 0 _ hx).height f0 (t' 0 _ hx)]
end Cz

/-! CzTalk: blank volumes, talks that read, scan. -/
namespace Cz
open PySem L2
/-- the fields of the classes -/
def flds : Cl → List Fd
  | .shape => [.fanout, .depth, .words, .blocks, .snapshots]
  | .sealer => [.marks]
  | .talk => [.present, .answers]
  | .read => [.present, .answers, .shape, .sealer, .way, .entry, .cells]
  | .scan => [.present, .answers, .shape, .sealer, .queue, .seen, .at_]
  | .change => [.present, .answers, .requests]
  | .commit => [.present, .answers, .shape, .sealer, .anchor, .changed, .free, .inner, .entries, .order, .at_, .requests]
  | .volume => [.shape, .sealer, .anchor, .used, .changed]
def OkC (m : Gm) (c : Cl) : Prop := ∀ f ∈ flds c, m.ok c f = true
def reqD (x : String) (r : List D) : D := .tup (.str x :: r)
abbrev readR (b : Nat) : D := reqD "read" [.int b]
abbrev refR (b : Nat) : D := reqD "refused" [.int b]
abbrev doneR (x : D) : D := reqD "done" [x]
def tab_mark : Cl → Option GSp := fun c => match c with
  | .sealer => some sp_sealer_mark
  | _ => none
def tab_knows : Cl → Option GSp := fun c => match c with
  | .sealer => some sp_sealer_knows
  | _ => none
/-! ### blank volumes -/
def blankP (S : Shp) : Nat → PCell
  | 0 => .leaf (List.replicate S.w 0)
  | l + 1 => .node (List.replicate S.f (l, l + 1))
def blankC (S : Shp) : List PCell := (List.range (S.d + 1)).map (blankP S)
def blankW (S : Shp) : List D := (List.range (S.d + 1)).map fun l : Nat => D.tup [.int l, cellD (blankP S l)]
def anchD (ep : Nat) (rs : List Ent) : D := .tup [.str "anchor", .int ep, .tup (rs.map entD)]
def sp_leaf (m : Gm) : GSp := fun ds G Q => ∃ x ws, ds = [x] ∧ itemsG x G = some ws ∧ ws.length < lim ∧ Q (.tup (.str "leaf" :: ws)) G
def sp_node (m : Gm) : GSp := fun ds G Q => ∃ x ws, ds = [x] ∧ itemsG x G = some ws ∧ ws.length < lim ∧ Q (.tup (.str "node" :: ws)) G
def sp_blank_volume (m : Gm) : GSp := fun ds G Q => ∃ p S s d, ds = [.ref p, .ref s] ∧ ShAt G p S ∧ SealC G s d [] ∧ ∀ w G', G' w = some (.lst (blankW S)) → SealC G' s d (blankC S) → Keep G G' [d] → G w = none → Q (.tup [.ref w, anchD 0 [(S.d, S.d + 1)]]) G'
/-! ### talks -/
def sp_talk_init (m : Gm) : GSp := fun ds G Q => ∃ t c pr, ds = [.ref t, pr] ∧ G t = some (.ins c []) ∧ m.ok c .present = true ∧ m.ok c .answers = true ∧ Q .non (G.set t (.ins c [(.present, pr), (.answers, .int 0)]))
def sp_talk_request (m : Gm) : GSp := fun ds G Q => ∃ t c fs pr, ds = [.ref t] ∧ G t = some (.ins c fs) ∧ fget fs .present = some pr ∧ Q pr G
def sp_talk_has_ended (m : Gm) : GSp := fun ds G Q => ∃ t c fs x r, ds = [.ref t] ∧ G t = some (.ins c fs) ∧ fget fs .present = some (reqD x r) ∧ Q (.bl (decide (x = "done") || decide (x = "refused"))) G
def sp_talk_go_on (m : Gm) : GSp := fun ds G Q => ∃ t c fs v, ds = [.ref t, v] ∧ G t = some (.ins c fs) ∧ m.ok c .present = true ∧ fs.length < 100 ∧ Q .non (G.set t (.ins c (fput .present (doneR v) fs)))
def spAnswer (m : Gm) (tab : Cl → Option GSp) : GSp := fun ds G Q => ∃ t v c fs x r n sp, ds = [.ref t, v] ∧ G t = some (.ins c fs) ∧ fget fs .present = some (reqD x r) ∧ x ≠ "done" ∧ x ≠ "refused" ∧ fget fs .answers = some (.int n) ∧ isTalk c = true ∧ m.ok c .answers = true ∧ fs.length < 100 ∧ tab c = some sp ∧
  sp [.ref t, v] (G.set t (.ins c (fput .answers (.int (n + 1)) fs))) fun _ G' => Q .non G'
/-! ### reads -/
def rdF (pr : D) (n : Int) (p s : Addr) (way : D) (e : Ent) (c : Addr) : List (Fd × D) := [(.present, pr), (.answers, .int n), (.shape, .ref p), (.sealer, .ref s), (.way, way), (.entry, entD e), (.cells, .ref c)]
def sp_read_init (m : Gm) : GSp := fun ds G Q => ∃ (t p s : Addr) (S : Shp) (e : Ent) (i : Nat), ds = [.ref t, .ref p, .ref s, entD e, .int i] ∧ G t = some (.ins .read []) ∧ ShAt G p S ∧
  ∀ c G', G' t = some (.ins .read (rdF (readR e.1) 0 p s (wayD S.f S.d i) e c)) → G' c = some (.lst []) → Keep G G' [t] → G c = none → Q .non G'
/-- what a read's answer brings: the request, the entry, the cells -/
def rdStep (cs : List PCell) (d : Nat) (way : List Nat) (e : Ent) (vs : List D) (v : D) : D × Ent × List D := match knowsB cs v e.2, v with
  | true, .tup (_ :: r) => if vs.length = d then (doneR (.tup r), e, vs ++ [v]) else (match cellAt cs e.2 with
    | some (.node es) => (match (way[vs.length]?).bind fun c => es[c]? with
      | some e' => (readR e'.1, e', vs ++ [v])
      | none => (refR e.1, e, vs))
    | _ => (refR e.1, e, vs))
  | _, _ => (refR e.1, e, vs)
def sp_read_go_on (m : Gm) : GSp := fun ds G Q => ∃ (t p s c sd : Addr) (S : Shp) (i : Nat) (pr v : D) (n : Int) (e : Ent) (vs : List D) (cs : List PCell), ds = [.ref t, v] ∧ G t = some (.ins .read (rdF pr n p s (wayD S.f S.d i) e c)) ∧ G c = some (.lst vs) ∧ ShAt G p S ∧ SealC G s sd cs ∧ Pkd v ∧ vs.length ≤ S.d ∧
  (knowsB cs v e.2 = true → vs.length < S.d → ∃ es, cellAt cs e.2 = some (.node es) ∧ es.length = S.f) ∧
  ∀ G', G' t = some (.ins .read (rdF (rdStep cs S.d (wayN S.f S.d i) e vs v).1 n p s (wayD S.f S.d i) (rdStep cs S.d (wayN S.f S.d i) e vs v).2.1 c)) → G' c = some (.lst (rdStep cs S.d (wayN S.f S.d i) e vs v).2.2) → Keep G G' [t, c] → Q .non G'
/-! ### scans -/
def quD (q : Ent × Nat) : D := .tup [entD q.1, .int q.2]
def scF (pr : D) (n : Int) (p s q se : Addr) (at_ : Nat) : List (Fd × D) := [(.present, pr), (.answers, .int n), (.shape, .ref p), (.sealer, .ref s), (.queue, .ref q), (.seen, .ref se), (.at_, .int at_)]
structure ScAt (G : GH) (t p s q se : Addr) (pr : D) (n : Int) (qu : List (Ent × Nat)) (at_ : Nat) : Prop where
  o : G t = some (.ins .scan (scF pr n p s q se at_))
  q : G q = some (.lst (qu.map quD))
  se : G se = some (.dct .nk (keysT (qu.map fun x => entD x.1)))
  nd : (qu.map (·.1)).Nodup
def putQ (qu : List (Ent × Nat)) (e : Ent) (l : Nat) : List (Ent × Nat) := if e ∈ qu.map (·.1) then qu else qu ++ [(e, l)]
def putsQ (qu : List (Ent × Nat)) (l : Nat) (es : List Ent) : List (Ent × Nat) := es.foldl (fun q e => putQ q e l) qu
def sp_scan_put (m : Gm) : GSp := fun ds G Q => ∃ (t p s q se : Addr) (pr : D) (n : Int) (qu : List (Ent × Nat)) (a l : Nat) (e : Ent), ds = [.ref t, entD e, .int l] ∧ ScAt G t p s q se pr n qu a ∧ qu.length < 4000 ∧ ∀ G', ScAt G' t p s q se pr n (putQ qu e l) a → Keep G G' [q, se] → Q .non G'
def tab_put (m : Gm) : Cl → Option GSp := fun c => match c with
  | .scan => some (sp_scan_put m)
  | _ => none
def sp_scan_init (m : Gm) : GSp := fun ds G Q => ∃ (t p s : Addr) (e : Ent) (rs : List Ent), ds = [.ref t, .ref p, .ref s, .tup ((e :: rs).map entD)] ∧ G t = some (.ins .scan []) ∧ rs.length < 100 ∧
  ∀ q se G', ScAt G' t p s q se (readR e.1) 0 (putsQ [] 0 (e :: rs)) 0 → Keep G G' [t] → G q = none → G se = none → Q .non G'
/-- the queue behind an accepted answer -/
def scQ (cs : List PCell) (d : Nat) (qu : List (Ent × Nat)) (e : Ent) (l : Nat) : List (Ent × Nat) := if l < d then putsQ qu (l + 1) (kidsOf cs e.2) else qu
def sp_scan_go_on (m : Gm) : GSp := fun ds G Q => ∃ (t p s q se sd : Addr) (S : Shp) (pr v : D) (n : Int) (qu : List (Ent × Nat)) (a l : Nat) (e : Ent) (cs : List PCell), ds = [.ref t, v] ∧ ScAt G t p s q se pr n qu a ∧ qu[a]? = some (e, l) ∧ ShAt G p S ∧ SealC G s sd cs ∧ Pkd v ∧ qu.length < 2000 ∧
  (knowsB cs v e.2 = true → l < S.d → ∃ es, cellAt cs e.2 = some (.node es) ∧ es.length = S.f) ∧
  (knowsB cs v e.2 = false → ∀ G', ScAt G' t p s q se (refR e.1) n qu a → Keep G G' [t] → Q .non G') ∧
  (knowsB cs v e.2 = true → (∀ x y, (scQ cs S.d qu e l)[a + 1]? = some (x, y) → ∀ G', ScAt G' t p s q se (readR x.1) n (scQ cs S.d qu e l) (a + 1) → Keep G G' [t, q, se] → Q .non G') ∧
    (a + 1 = (scQ cs S.d qu e l).length → ∀ z (zs : List Nat) G', (∀ b, b ∈ zs ↔ ∃ x ∈ scQ cs S.d qu e l, x.1.1 = b) → zs.Pairwise (· < ·) → G' z = some (.lst (intsD zs)) → G z = none → ScAt G' t p s q se (doneR (.ref z)) n (scQ cs S.d qu e l) (a + 1) → Keep G G' [t, q, se] → Q .non G'))
def sp_mount (m : Gm) : GSp := fun ds G Q => ∃ (p s : Addr) (x y : D) (e : Ent) (rs : List Ent), ds = [.ref p, .ref s, .tup [x, y, .tup ((e :: rs).map entD)]] ∧ rs.length < 100 ∧
  ∀ t q se G', ScAt G' t p s q se (readR e.1) 0 (putsQ [] 0 (e :: rs)) 0 → Keep G G' [] → G t = none → G q = none → G se = none → Q (.ref t) G'
instance s_eqS {a b : String} {G : GH} {Q : GQ} : Stp (gEq false (.str (Str.ofString a)) (.str (Str.ofString b)) G Q) (Q (.bl (decide (a = b))) G) := ⟨fun q => i_eqP (pkd_str (sOk_of a)) (pkd_str (sOk_of b)) (by
  have e : decide (D.str (Str.ofString a) = D.str (Str.ofString b)) = decide (a = b) := by
    by_cases h : a = b
    · subst h; simp
    · rw [decide_eq_false h, decide_eq_false fun z => h (ofString_inj.mp (by injection z))]
  rw [e]; exact q)⟩
instance s_neS {a b : String} {G : GH} {Q : GQ} : Stp (gEq true (.str (Str.ofString a)) (.str (Str.ofString b)) G Q) (Q (.bl (!decide (a = b))) G) := ⟨fun q => i_neP (pkd_str (sOk_of a)) (pkd_str (sOk_of b)) (by
  have e : decide (D.str (Str.ofString a) = D.str (Str.ofString b)) = decide (a = b) := by
    by_cases h : a = b
    · subst h; simp
    · rw [decide_eq_false h, decide_eq_false fun z => h (ofString_inj.mp (by injection z))]
  rw [e]; exact q)⟩
theorem cut_drop (ds : List D) (l : Nat) : cutD ds (some (l : Int)) none = ds.drop l := by
  unfold cutD
  rw [HT.sIx_none, HT.sIx_nat]
  by_cases h : l ≤ ds.length
  · rw [Nat.min_eq_left h, List.take_of_length_le (by rw [List.length_drop]; exact Nat.le_refl _)]
  · rw [Nat.min_eq_right (by omega), List.drop_of_length_le (Nat.le_refl _), List.drop_of_length_le (by omega), List.take_nil]
instance s_cut1 {x : D} {r : List D} {G : GH} {Q : GQ} : Stp (gCut (.tup (x :: r)) (some 1) none G Q) (Q (.tup r) G) := ⟨fun q => by
  show Q (.tup (cutD (x :: r) (some 1) none)) G
  rw [show cutD (x :: r) (some 1) none = r from cut_drop (x :: r) 1]
  exact q⟩
instance s_sc {it : GI} {tg : GG} {tt : GT} {a : GE} {vs : List Nat} {σ : GSt} {G : GH} {Q : GQ} : Stp (gSc it tg tt a vs σ G Q) (it σ G fun ds ok G1 => ∀ p, G1 p = none → ok (G1.set p (.set [])) ∧ gSetL p tg tt a (wipeG σ vs) (fun G2 => Q (.ref p) G2) ds ok (G1.set p (.set []))) := ⟨id⟩
theorem i_scl {p : Addr} {g : GG} {t : GT} {e : GE} {σ : GSt} {Q : GH → Prop} {ds : List D} {ok : GH → Prop} {G : GH} (W : Nat → List Int → GH → Prop) (h0 : W 0 [] G)
    (step : ∀ i d acc G, ds[i]? = some d → ok G → G p = some (.set acc) → W i acc G → g d σ G fun σ1 G1 => t σ1 G1 fun b G2 => if b = true then e σ1 G2 fun y G3 => ∃ k, y = .int k ∧ G3 p = some (.set acc) ∧ acc.length + 1 < PySem.scanBound ∧ ok (G3.set p (.set (addI acc k))) ∧ W (i + 1) (addI acc k) (G3.set p (.set (addI acc k)))
      else G2 p = some (.set acc) ∧ ok G2 ∧ W (i + 1) acc G2)
    (fin : ∀ acc G, ok G → G p = some (.set acc) → W ds.length acc G → Q G) : gSetL p g t e σ Q ds ok G := ⟨W, h0, step, fin⟩
theorem wayN_lt {f : Nat} (f0 : 0 < f) : ∀ (k i : Nat), ∀ c ∈ wayN f k i, c < f
  | 0, _, c, h => nomatch h
  | k + 1, i, c, h => by
    rw [wayN] at h
    rcases List.mem_append.mp h with h | h
    · exact wayN_lt f0 k _ c h
    · rw [List.mem_singleton.mp h]; exact Nat.mod_lt _ f0
theorem atI_ints {ws : List Nat} {n w : Nat} (h : ws[n]? = some w) : atI (intsD ws) (n : Int) = some (.int w) := atI_at (Int.natCast_nonneg n) (by
  rw [Int.toNat_natCast]
  unfold intsD
  rw [List.getElem?_map, h]; rfl)
theorem atI_succ {x : D} {r : List D} {n : Nat} {d : D} (h : r[n]? = some d) : atI (x :: r) (1 + (n : Int)) = some d := atI_at (by omega) (by
  rw [show (1 + (n : Int)).toNat = n + 1 by omega, List.getElem?_cons_succ]
  exact h)
theorem keysT_some (ks : List D) (k : D) : (dget (keysT ks) k).isSome = decide (k ∈ ks) := by
  by_cases h : k ∈ ks
  · rw [decide_eq_true h]
    cases e : dget (keysT ks) k with
    | none => rw [dget_none_iff, keysT_fst] at e; exact absurd h e
    | some d => rfl
  · rw [decide_eq_false h, dget_none_iff.mpr (by rw [keysT_fst]; exact h)]; rfl
theorem mem_entD {es : List Ent} {e : Ent} : entD e ∈ es.map entD ↔ e ∈ es := by
  rw [List.mem_map]
  constructor
  · rintro ⟨x, h, q⟩; rw [← entD_inj q]; exact h
  · intro h; exact ⟨e, h, rfl⟩
theorem putQ_nd {qu : List (Ent × Nat)} {e : Ent} {l : Nat} (h : (qu.map (·.1)).Nodup) : ((putQ qu e l).map (·.1)).Nodup := by
  unfold putQ
  split
  · exact h
  · rename_i hn
    rw [List.map_append]
    exact List.nodup_append.mpr ⟨h, by simp, fun a ha b hb => by simp at hb; rw [hb]; exact fun z => hn (z ▸ ha)⟩
theorem putQ_len (qu : List (Ent × Nat)) (e : Ent) (l : Nat) : (putQ qu e l).length ≤ qu.length + 1 := by unfold putQ; split <;> simp
theorem putsQ_len (l : Nat) : ∀ (es : List Ent) (qu : List (Ent × Nat)), (putsQ qu l es).length ≤ qu.length + es.length
  | [], _ => Nat.le_refl _
  | e :: es, qu => by
    have h1 := putsQ_len l es (putQ qu e l)
    have h2 := putQ_len qu e l
    show (putsQ (putQ qu e l) l es).length ≤ _
    rw [List.length_cons]
    omega
theorem putsQ_snoc (qu : List (Ent × Nat)) (l : Nat) (es : List Ent) (e : Ent) : putsQ qu l (es ++ [e]) = putQ (putsQ qu l es) e l := by unfold putsQ; rw [List.foldl_append]; rfl
theorem ScAt.keep {G G' : GH} {t p s q se : Addr} {pr : D} {n : Int} {qu : List (Ent × Nat)} {a : Nat} {xs : List Addr} (h : ScAt G t p s q se pr n qu a) (k : Keep G G' xs) (ht : t ∉ xs) (hq : q ∉ xs) (hse : se ∉ xs) : ScAt G' t p s q se pr n qu a := ⟨k _ _ h.o ht, k _ _ h.q hq, k _ _ h.se hse, h.nd⟩
theorem ScAt.ntq {G : GH} {t p s q se : Addr} {pr : D} {n : Int} {qu : List (Ent × Nat)} {a : Nat} (h : ScAt G t p s q se pr n qu a) : t ≠ q := fun z => by have := h.o; rw [z, h.q] at this; cases this
theorem ScAt.nts {G : GH} {t p s q se : Addr} {pr : D} {n : Int} {qu : List (Ent × Nat)} {a : Nat} (h : ScAt G t p s q se pr n qu a) : t ≠ se := fun z => by have := h.o; rw [z, h.se] at this; cases this
theorem ScAt.nqs {G : GH} {t p s q se : Addr} {pr : D} {n : Int} {qu : List (Ent × Nat)} {a : Nat} (h : ScAt G t p s q se pr n qu a) : q ≠ se := fun z => by have := h.q; rw [z, h.se] at this; cases this
/-- other fields of the talk -/
theorem ScAt.put {G : GH} {t p s q se : Addr} {pr pr' : D} {n n' : Int} {qu : List (Ent × Nat)} {a a' : Nat} (h : ScAt G t p s q se pr n qu a) : ScAt (G.set t (.ins .scan (scF pr' n' p s q se a'))) t p s q se pr' n' qu a' :=
  ⟨set_same, by rw [set_ne h.ntq.symm]; exact h.q, by rw [set_ne h.nts.symm]; exact h.se, h.nd⟩
theorem mem_quE {qu : List (Ent × Nat)} {e : Ent} : entD e ∈ (qu.map fun x => entD x.1) ↔ e ∈ qu.map (·.1) := by
  have h : (qu.map fun x => entD x.1) = (qu.map (·.1)).map entD := by rw [List.map_map]; rfl
  rw [h]
  exact mem_entD
/-- the blocks of a queue, as the set comprehension gathers them -/
def blkS (qu : List (Ent × Nat)) : List Int := qu.foldl (fun acc x => addI acc (x.1.1 : Int)) []
theorem addI_len' (ns : List Int) (k : Int) : (addI ns k).length ≤ ns.length + 1 := by unfold addI; split <;> simp
theorem mem_addI {ns : List Int} {k x : Int} : x ∈ addI ns k ↔ x ∈ ns ∨ x = k := by
  unfold addI
  split
  · constructor
    · exact .inl
    · rintro (h | h)
      · exact h
      · rw [h]; assumption
  · simp
theorem blkS_snoc (qu : List (Ent × Nat)) (x : Ent × Nat) : blkS (qu ++ [x]) = addI (blkS qu) (x.1.1 : Int) := by unfold blkS; rw [List.foldl_append]; rfl
theorem blkS_len (qu : List (Ent × Nat)) : (blkS qu).length ≤ qu.length := by
  unfold blkS
  have : ∀ (l : List (Ent × Nat)) (acc : List Int), (l.foldl (fun acc x => addI acc (x.1.1 : Int)) acc).length ≤ acc.length + l.length := by
    intro l
    induction l with
    | nil => intro acc; exact Nat.le_refl _
    | cons x l ih =>
      intro acc
      have h1 := ih (addI acc x.1.1)
      have h2 := addI_len' acc x.1.1
      rw [List.foldl_cons, List.length_cons]
      omega
  have := this qu []
  simpa using this
theorem blkS_mem (qu : List (Ent × Nat)) (k : Int) : k ∈ blkS qu ↔ ∃ x ∈ qu, (x.1.1 : Int) = k := by
  unfold blkS
  have : ∀ (l : List (Ent × Nat)) (acc : List Int), k ∈ l.foldl (fun acc x => addI acc (x.1.1 : Int)) acc ↔ k ∈ acc ∨ ∃ x ∈ l, (x.1.1 : Int) = k := by
    intro l
    induction l with
    | nil => intro acc; simp
    | cons x l ih =>
      intro acc
      rw [List.foldl_cons, ih, mem_addI]
      simp only [List.mem_cons, exists_eq_or_imp]
      constructor
      · rintro ((h | h) | h)
        · exact .inl h
        · exact .inr (.inl h.symm)
        · exact .inr (.inr h)
      · rintro (h | h | h)
        · exact .inl (.inl h)
        · exact .inl (.inr h.symm)
        · exact .inr h
  rw [this]
  simp
/-- natural numbers in a list of ints -/
theorem nats_of {zs : List Int} (h : ∀ z ∈ zs, 0 ≤ z) : ∃ ns : List Nat, zs = ns.map fun n : Nat => (n : Int) := by
  induction zs with
  | nil => exact ⟨[], rfl⟩
  | cons z zs ih =>
    obtain ⟨ns, e⟩ := ih fun y hy => h y (List.mem_cons_of_mem _ hy)
    exact ⟨z.toNat :: ns, by rw [List.map_cons, ← e, Int.toNat_of_nonneg (h z List.mem_cons_self)]⟩
/-- leaf: 0 words -/
def rd_leaf (m : Gm) : GS := gRet (gBin gAdd (gTup (gCons (gC (.str "leaf")) (gNil))) (gCall bTup (gCons (gVar 0) (gNil))))
abbrev N_leaf : List Str := ["words"]
/-- node: 0 entries -/
def rd_node (m : Gm) : GS := gRet (gBin gAdd (gTup (gCons (gC (.str "node")) (gNil))) (gCall bTup (gCons (gVar 0) (gNil))))
abbrev N_node : List Str := ["entries"]
def rd_blank_volume_1 (m : Gm) : GS := gSeq (gSet 5 (gTup (gCons (gVar 4) (gCons (gMeth tab_mark (gVar 1) (gCons (gVar 2) (gNil))) (gNil))))) (gSeq (gSet 2 (gCall (sp_node m) (gCons (gBin gMul (gLst (gCons (gVar 5) (gNil))) (gFld (gVar 0) .fanout)) (gNil)))) (gDrop (gLm rApp (gVar 3) (gCons (gTup (gCons (gBin gAdd (gVar 4) (gC (.int 1))) (gCons (gVar 2) (gNil)))) (gNil)))))
def rd_blank_volume_2 (m : Gm) : GS := gRet (gTup (gCons (gVar 3) (gCons (gTup (gCons (gC (.str "anchor")) (gCons (gC (.int 0)) (gCons (gTup (gCons (gTup (gCons (gFld (gVar 0) .depth) (gCons (gMeth tab_mark (gVar 1) (gCons (gVar 2) (gNil))) (gNil)))) (gNil))) (gNil))))) (gNil))))
/-- blank_volume: 0 shape, 1 sealer, 2 cell, 3 writes, 4 level, 5 entry -/
def rd_blank_volume (m : Gm) : GS := gSeq (gSet 2 (gCall (sp_leaf m) (gCons (gBin gMul (gLst (gCons (gC (.int 0)) (gNil))) (gFld (gVar 0) .words)) (gNil)))) (gSeq (gSet 3 (gLst (gCons (gTup (gCons (gC (.int 0)) (gCons (gVar 2) (gNil)))) (gNil)))) (gSeq (gFor (gRng1 (gCons (gFld (gVar 0) .depth) (gNil))) (gNm 4) (rd_blank_volume_1 m)) (rd_blank_volume_2 m)))
abbrev N_blank_volume : List Str := ["shape", "sealer", "cell", "writes", "level", "entry"]
/-- Talk.__init__: 0 self, 1 request -/
def rd_talk_init (m : Gm) : GS := gSeq (gSetF m (gVar 0) (gVar 1) .present) (gSetF m (gVar 0) (gC (.int 0)) .answers)
abbrev N_talk_init : List Str := ["self", "request"]
/-- Talk.request: 0 self -/
def rd_talk_request (m : Gm) : GS := gRet (gFld (gVar 0) .present)
abbrev N_talk_request : List Str := ["self"]
/-- Talk.has_ended: 0 self -/
def rd_talk_has_ended (m : Gm) : GS := gRet (gOrV (gBin (gEq false) (gBin gIx (gFld (gVar 0) .present) (gC (.int 0))) (gC (.str "done"))) (gBin (gEq false) (gBin gIx (gFld (gVar 0) .present) (gC (.int 0))) (gC (.str "refused"))))
abbrev N_talk_has_ended : List Str := ["self"]
/-- Talk.go_on: 0 self, 1 value -/
def rd_talk_go_on (m : Gm) : GS := gSetF m (gVar 0) (gTup (gCons (gC (.str "done")) (gCons (gVar 1) (gNil)))) .present
abbrev N_talk_go_on : List Str := ["self", "value"]
/-- ReadTalk.__init__: 0 self, 1 shape, 2 sealer, 3 root, 4 index -/
def rd_read_init (m : Gm) : GS := gSeq (gDrop (gCall (sp_talk_init m) (gCons (gVar 0) (gCons (gTup (gCons (gC (.str "read")) (gCons (gBin gIx (gVar 3) (gC (.int 0))) (gNil)))) (gNil))))) (gSeq (gSetF m (gVar 0) (gVar 1) .shape) (gSeq (gSetF m (gVar 0) (gVar 2) .sealer) (gSeq (gSetF m (gVar 0) (gMeth tab_way (gVar 1) (gCons (gVar 4) (gNil))) .way) (gSeq (gSetF m (gVar 0) (gVar 3) .entry) (gSetF m (gVar 0) (gLst (gNil)) .cells)))))
abbrev N_read_init : List Str := ["self", "shape", "sealer", "root", "index"]
def rd_read_go_on_1 (m : Gm) : GS := gSeq (gDrop (gLm rApp (gFld (gVar 0) .cells) (gCons (gVar 1) (gNil)))) (gSeq (gSet 2 (gBin gSub (gCall bLen (gCons (gFld (gVar 0) .cells) (gNil))) (gC (.int 1)))) (gIf (gTest (gBin (gEq false) (gVar 2) (gFld (gFld (gVar 0) .shape) .depth))) (gSetF m (gVar 0) (gTup (gCons (gC (.str "done")) (gCons (gSl (gVar 1) (gPart (gC (.int 1))) (gNoPart)) (gNil)))) .present) (gSeq (gSetF m (gVar 0) (gBin gIx (gVar 1) (gBin gAdd (gC (.int 1)) (gBin gIx (gFld (gVar 0) .way) (gVar 2)))) .entry) (gSetF m (gVar 0) (gTup (gCons (gC (.str "read")) (gCons (gBin gIx (gFld (gVar 0) .entry) (gC (.int 0))) (gNil)))) .present))))
/-- ReadTalk.go_on: 0 self, 1 value, 2 level -/
def rd_read_go_on (m : Gm) : GS := gSeq (gIf (gNot (gTest (gMeth tab_knows (gFld (gVar 0) .sealer) (gCons (gVar 1) (gCons (gBin gIx (gFld (gVar 0) .entry) (gC (.int 1))) (gNil)))))) (gSeq (gSetF m (gVar 0) (gTup (gCons (gC (.str "refused")) (gCons (gBin gIx (gFld (gVar 0) .entry) (gC (.int 0))) (gNil)))) .present) (gRetN)) (gNext)) (rd_read_go_on_1 m)
abbrev N_read_go_on : List Str := ["self", "value", "level"]
/-- ScanTalk.put: 0 self, 1 entry, 2 level -/
def rd_scan_put (m : Gm) : GS := gIf (gTest (gBin (gIn true) (gVar 1) (gFld (gVar 0) .seen))) (gSeq (gPut (gC (.bl true)) (gFld (gVar 0) .seen) (gVar 1)) (gDrop (gLm rApp (gFld (gVar 0) .queue) (gCons (gTup (gCons (gVar 1) (gCons (gVar 2) (gNil)))) (gNil))))) (gNext)
abbrev N_scan_put : List Str := ["self", "entry", "level"]
def rd_scan_init_1 (m : Gm) : GS := gDrop (gMeth (tab_put m) (gVar 0) (gCons (gVar 4) (gCons (gC (.int 0)) (gNil))))
/-- ScanTalk.__init__: 0 self, 1 shape, 2 sealer, 3 roots, 4 root -/
def rd_scan_init (m : Gm) : GS := gSeq (gDrop (gCall (sp_talk_init m) (gCons (gVar 0) (gCons (gTup (gCons (gC (.str "read")) (gCons (gBin gIx (gBin gIx (gVar 3) (gC (.int 0))) (gC (.int 0))) (gNil)))) (gNil))))) (gSeq (gSetF m (gVar 0) (gVar 1) .shape) (gSeq (gSetF m (gVar 0) (gVar 2) .sealer) (gSeq (gSetF m (gVar 0) (gLst (gNil)) .queue) (gSeq (gSetF m (gVar 0) (gDNew .nk) .seen) (gSeq (gSetF m (gVar 0) (gC (.int 0)) .at_) (gFor (gIter (gVar 3)) (gNm 4) (rd_scan_init_1 m)))))))
abbrev N_scan_init : List Str := ["self", "shape", "sealer", "roots", "root"]
def rd_scan_go_on_1 (m : Gm) : GS := gDrop (gMeth (tab_put m) (gVar 0) (gCons (gVar 4) (gCons (gBin gAdd (gVar 3) (gC (.int 1))) (gNil))))
def rd_scan_go_on_2 (m : Gm) : GS := gSeq (gSetF m (gVar 0) (gBin gAdd (gFld (gVar 0) .at_) (gC (.int 1))) .at_) (gIf (gTest (gBin (gEq false) (gFld (gVar 0) .at_) (gCall bLen (gCons (gFld (gVar 0) .queue) (gNil))))) (gSetF m (gVar 0) (gTup (gCons (gC (.str "done")) (gCons (gCall bSortS (gCons (gSc (gIter (gFld (gVar 0) .queue)) (gNm 5) (gYes) (gBin gIx (gBin gIx (gVar 5) (gC (.int 0))) (gC (.int 0))) [5]) (gNil))) (gNil)))) .present) (gSetF m (gVar 0) (gTup (gCons (gC (.str "read")) (gCons (gBin gIx (gBin gIx (gBin gIx (gFld (gVar 0) .queue) (gFld (gVar 0) .at_)) (gC (.int 0))) (gC (.int 0))) (gNil)))) .present))
def rd_scan_go_on_3 (m : Gm) : GS := gSeq (gIf (gTest (gBin gLt (gVar 3) (gFld (gFld (gVar 0) .shape) .depth))) (gFor (gIter (gSl (gVar 1) (gPart (gC (.int 1))) (gNoPart))) (gNm 4) (rd_scan_go_on_1 m)) (gNext)) (rd_scan_go_on_2 m)
/-- ScanTalk.go_on: 0 self, 1 value, 2 entry, 3 level, 4 below, 5 one -/
def rd_scan_go_on (m : Gm) : GS := gSeq (gAsg (gBin gIx (gFld (gVar 0) .queue) (gFld (gVar 0) .at_)) (gUn [2, 3])) (gSeq (gIf (gNot (gTest (gMeth tab_knows (gFld (gVar 0) .sealer) (gCons (gVar 1) (gCons (gBin gIx (gVar 2) (gC (.int 1))) (gNil)))))) (gSeq (gSetF m (gVar 0) (gTup (gCons (gC (.str "refused")) (gCons (gBin gIx (gVar 2) (gC (.int 0))) (gNil)))) .present) (gRetN)) (gNext)) (rd_scan_go_on_3 m))
abbrev N_scan_go_on : List Str := ["self", "value", "entry", "level", "below", "one"]
/-- mount: 0 shape, 1 sealer, 2 anchor -/
def rd_mount (m : Gm) : GS := gRet (gMake .scan (sp_scan_init m) (gCons (gVar 0) (gCons (gVar 1) (gCons (gBin gIx (gVar 2) (gC (.int 2))) (gNil)))))
abbrev N_mount : List Str := ["shape", "sealer", "anchor"]

theorem rdp_leaf (m : Gm) (ds : List D) (G : GH) (Q : GQ) (h : sp_leaf m ds G Q) : rd_leaf m (bodyEnds Q) (gstart N_leaf ds) G := by
  obtain ⟨x, ws, rfl, hx, hl, q⟩ := h
  rw [show gstart N_leaf [x] = [some x] from rfl]
  unfold rd_leaf
  refine go ⟨ws, hx, ?_⟩
  refine i_addT (by simp; omega) (go q)
theorem len_leaf (m : Gm) (ds : List D) (G : GH) (Q : GQ) (h : sp_leaf m ds G Q) : ds.length = 1 := by obtain ⟨x, ws, rfl, _⟩ := h; rfl
theorem rdp_node (m : Gm) (ds : List D) (G : GH) (Q : GQ) (h : sp_node m ds G Q) : rd_node m (bodyEnds Q) (gstart N_node ds) G := by
  obtain ⟨x, ws, rfl, hx, hl, q⟩ := h
  rw [show gstart N_node [x] = [some x] from rfl]
  unfold rd_node
  refine go ⟨ws, hx, ?_⟩
  refine i_addT (by simp; omega) (go q)
theorem len_node (m : Gm) (ds : List D) (G : GH) (Q : GQ) (h : sp_node m ds G Q) : ds.length = 1 := by obtain ⟨x, ws, rfl, _⟩ := h; rfl
theorem rdp_talk_init (m : Gm) (ds : List D) (G : GH) (Q : GQ) (h : sp_talk_init m ds G Q) : rd_talk_init m (bodyEnds Q) (gstart N_talk_init ds) G := by
  obtain ⟨t, c, pr, rfl, hG, o1, o2, q⟩ := h
  rw [show gstart N_talk_init [.ref t, pr] = [some (.ref t), some pr] from rfl]
  unfold rd_talk_init
  refine go (i_setFR hG o1 (by decide) (go (i_setFR set_same o2 (by exact (by decide : 1 < 100)) (go ?_))))
  rw [set_set]
  exact q
theorem len_talk_init (m : Gm) (ds : List D) (G : GH) (Q : GQ) (h : sp_talk_init m ds G Q) : ds.length = 2 := by obtain ⟨t, c, pr, rfl, _⟩ := h; rfl
theorem rdp_talk_request (m : Gm) (ds : List D) (G : GH) (Q : GQ) (h : sp_talk_request m ds G Q) : rd_talk_request m (bodyEnds Q) (gstart N_talk_request ds) G := by
  obtain ⟨t, c, fs, pr, rfl, hG, hp, q⟩ := h
  rw [show gstart N_talk_request [.ref t] = [some (.ref t)] from rfl]
  unfold rd_talk_request
  exact go (i_fldR hG hp (go q))
theorem len_talk_request (m : Gm) (ds : List D) (G : GH) (Q : GQ) (h : sp_talk_request m ds G Q) : ds.length = 1 := by obtain ⟨t, c, fs, pr, rfl, _⟩ := h; rfl
theorem rdp_talk_has_ended (m : Gm) (ds : List D) (G : GH) (Q : GQ) (h : sp_talk_has_ended m ds G Q) : rd_talk_has_ended m (bodyEnds Q) (gstart N_talk_has_ended ds) G := by
  obtain ⟨t, c, fs, x, r, rfl, hG, hp, q⟩ := h
  rw [show gstart N_talk_has_ended [.ref t] = [some (.ref t)] from rfl]
  unfold rd_talk_has_ended
  refine go (i_fldR hG hp (go (i_ixT atI_zero (go ?_))))
  by_cases h1 : x = "done"
  · refine i_yes h1 (go ?_)
    rw [decide_eq_true h1, Bool.true_or] at q
    exact q
  · refine i_no h1 (go (i_fldR hG hp (go (i_ixT atI_zero (go ?_)))))
    rw [decide_eq_false h1, Bool.false_or] at q
    exact q
theorem len_talk_has_ended (m : Gm) (ds : List D) (G : GH) (Q : GQ) (h : sp_talk_has_ended m ds G Q) : ds.length = 1 := by obtain ⟨t, c, fs, x, r, rfl, _⟩ := h; rfl
theorem rdp_talk_go_on (m : Gm) (ds : List D) (G : GH) (Q : GQ) (h : sp_talk_go_on m ds G Q) : rd_talk_go_on m (bodyEnds Q) (gstart N_talk_go_on ds) G := by
  obtain ⟨t, c, fs, v, rfl, hG, ok, hl, q⟩ := h
  rw [show gstart N_talk_go_on [.ref t, v] = [some (.ref t), some v] from rfl]
  unfold rd_talk_go_on
  exact go (i_setFR hG ok hl (go q))
theorem len_talk_go_on (m : Gm) (ds : List D) (G : GH) (Q : GQ) (h : sp_talk_go_on m ds G Q) : ds.length = 2 := by obtain ⟨t, c, fs, v, rfl, _⟩ := h; rfl
theorem rdp_read_init (m : Gm) (hm : OkC m .read) (ds : List D) (G : GH) (Q : GQ) (h : sp_read_init m ds G Q) : rd_read_init m (bodyEnds Q) (gstart N_read_init ds) G := by
  obtain ⟨t, p, s, S, e, i, rfl, hG, hs, k⟩ := h
  rw [show gstart N_read_init [.ref t, .ref p, .ref s, entD e, .int i] = [some (.ref t), some (.ref p), some (.ref s), some (entD e), some (.int i)] from rfl]
  unfold rd_read_init
  have np : p ≠ t := fun z => by rw [z] at hs; rw [hs.1] at hG; cases hG
  refine go (i_ixT (d := .int e.1) atI_zero (go ⟨t, .read, _, rfl, hG, hm _ (by decide), hm _ (by decide), go ?_⟩))
  refine i_setFR set_same (hm _ (by decide)) (by exact (by decide : 2 < 100)) (go (i_setFR set_same (hm _ (by decide)) (by exact (by decide : 3 < 100)) (go ?_)))
  simp only [set_set]
  have hs1 : ShAt (G.set t (.ins .read [(.present, readR e.1), (.answers, .int 0), (.shape, .ref p), (.sealer, .ref s)])) p S := ⟨by rw [set_ne np]; exact hs.1, hs.2⟩
  refine i_methR hs1.1 (sp := sp_shape_way) rfl (go ⟨p, S, i, rfl, hs1, fun G1 k1 => go ?_⟩)
  refine i_setFR (k1 _ _ set_same (by simp)) (hm _ (by decide)) (by exact (by decide : 4 < 100)) (go (i_setFR set_same (hm _ (by decide)) (by exact (by decide : 5 < 100)) (go fun c hc => go ?_)))
  have nt : t ≠ c := fun z => by rw [← z, set_same] at hc; cases hc
  refine i_setFR (by rw [set_ne nt]; exact set_same) (hm _ (by decide)) (by exact (by decide : 6 < 100)) (go ?_)
  have kk : Keep G G1 [t] := (Keep.put.trans k1).sub (by simp)
  refine k c _ set_same (by rw [set_ne nt.symm]; exact set_same) ?_ ?_
  · rw [set_set] at *
    exact (((kk.set (by simp)).trans (Keep.new hc [])).sub (by simp)).set (by simp)
  · rw [set_set, set_ne nt.symm] at hc
    exact kk.fresh hc (by simp [nt.symm])
theorem len_read_init (m : Gm) (ds : List D) (G : GH) (Q : GQ) (h : sp_read_init m ds G Q) : ds.length = 5 := by obtain ⟨t, p, s, S, e, i, rfl, _⟩ := h; rfl
theorem rdp_read_go_on (m : Gm) (hm : OkC m .read) (ds : List D) (G : GH) (Q : GQ) (h : sp_read_go_on m ds G Q) : rd_read_go_on m (bodyEnds Q) (gstart N_read_go_on ds) G := by
  obtain ⟨t, p, s, c, sd, S, i, pr, v, n, e, vs, cs, rfl, hG, hc, hs, sl, pv, hl, hn, k⟩ := h
  rw [show gstart N_read_go_on [.ref t, v] = [some (.ref t), some v, none] from rfl]
  unfold rd_read_go_on
  have ntc : t ≠ c := fun z => by rw [z, hc] at hG; cases hG
  have npc : p ≠ c := fun z => by have := hs.1; rw [z, hc] at this; cases this
  have d6 := hs.2.d6
  refine go (i_fldR hG (d := .ref s) rfl (go (i_methR sl.1 (sp := sp_sealer_knows) rfl (go (i_fldR hG (d := entD e) rfl (go (i_ixT (d := .int e.2) rfl (go (i_knows sl pv (go ?_))))))))))
  cases hk : knowsB cs v e.2 with
  | false =>
    refine go (i_fldR hG (d := entD e) rfl (go (i_ixT (d := .int e.1) rfl (go (i_setFR hG (hm _ (by decide)) (by exact (by decide : 7 < 100)) (go ?_))))))
    have e1 : rdStep cs S.d (wayN S.f S.d i) e vs v = (refR e.1, e, vs) := by unfold rdStep; rw [hk]
    rw [e1] at k
    exact k _ set_same (by rw [set_ne ntc.symm]; exact hc) (Keep.put.sub (by simp))
  | true =>
    obtain ⟨cell, hcell, hv⟩ := knowsB_iff.mp hk
    obtain ⟨x, r, hx⟩ : ∃ x r, v = .tup (x :: r) := by rw [hv]; cases cell <;> exact ⟨_, _, rfl⟩
    subst hx
    unfold rd_read_go_on_1
    refine go (i_fldR hG (d := .ref c) rfl (go (i_lm1 hc (go (i_app hc (Nat.lt_of_le_of_lt hl (Nat.lt_of_le_of_lt d6 (by decide))) (go ?_))))))
    have hG1 : (G.set c (.lst (vs ++ [.tup (x :: r)]))) t = some (.ins .read (rdF pr n p s (wayD S.f S.d i) e c)) := by rw [set_ne ntc]; exact hG
    have hs1 : (G.set c (.lst (vs ++ [.tup (x :: r)]))) p = some (.ins .shape S.fs) := by rw [set_ne npc]; exact hs.1
    refine i_fldR hG1 (d := .ref c) rfl (go (i_lenL set_same (go (i_fldR hG1 (d := .ref p) rfl (go (i_fldR hs1 (d := .int S.d) rfl (go ?_)))))))
    rw [show ((vs ++ [D.tup (x :: r)]).length : Int) - 1 = (vs.length : Nat) by rw [List.length_append]; simp]
    have e1 : rdStep cs S.d (wayN S.f S.d i) e vs (.tup (x :: r)) = if vs.length = S.d then (doneR (.tup r), e, vs ++ [.tup (x :: r)]) else (match cellAt cs e.2 with
      | some (.node es) => (match ((wayN S.f S.d i)[vs.length]?).bind fun c => es[c]? with
        | some e' => (readR e'.1, e', vs ++ [.tup (x :: r)])
        | none => (refR e.1, e, vs))
      | _ => (refR e.1, e, vs)) := by unfold rdStep; rw [hk]
    rw [e1] at k
    by_cases h : vs.length = S.d
    · rw [if_pos h] at k
      refine i_yes (by omega) (go (i_setFR hG1 (hm _ (by decide)) (by exact (by decide : 7 < 100)) (go ?_)))
      exact k _ set_same (by rw [set_ne ntc.symm]; exact set_same) (((Keep.put (p := c)).trans (Keep.put (p := t))).sub (by simp))
    · rw [if_neg h] at k
      obtain ⟨es, hes, hel⟩ := hn hk (by omega)
      rw [hcell] at hes
      cases hes
      have hr : r = es.map entD := by injection hv with hv; injection hv
      rw [hcell] at k
      obtain ⟨w, hw⟩ : ∃ w, (wayN S.f S.d i)[vs.length]? = some w := ⟨_, List.getElem?_eq_getElem (by rw [wayN_len]; omega)⟩
      have hwf : w < es.length := by rw [hel]; exact wayN_lt (by have := hs.2.f2; omega) _ _ _ (List.mem_of_getElem? hw)
      have he2 : es[w]? = some es[w] := List.getElem?_eq_getElem hwf
      have hrw : r[w]? = some (entD es[w]) := by rw [hr, List.getElem?_map, he2]; rfl
      simp only [hw, Option.bind_some, he2] at k
      refine i_no (by omega) (go (i_fldR hG1 (d := wayD S.f S.d i) rfl (go (i_ixT (atI_ints hw) (go (i_ixT (atI_succ hrw) (go (i_setFR hG1 (hm _ (by decide)) (by exact (by decide : 7 < 100)) (go ?_)))))))))
      refine i_fldR set_same (d := entD es[w]) rfl (go (i_ixT (d := .int es[w].1) rfl (go (i_setFR set_same (hm _ (by decide)) (by exact (by decide : 7 < 100)) (go ?_)))))
      rw [set_set]
      exact k _ set_same (by rw [set_ne ntc.symm]; exact set_same) (((Keep.put (p := c)).trans (Keep.put (p := t))).sub (by simp))
theorem len_read_go_on (m : Gm) (ds : List D) (G : GH) (Q : GQ) (h : sp_read_go_on m ds G Q) : ds.length = 2 := by obtain ⟨t, p, s, c, sd, S, i, pr, v, n, e, vs, cs, rfl, _⟩ := h; rfl
theorem rdp_scan_put (m : Gm) (ds : List D) (G : GH) (Q : GQ) (h : sp_scan_put m ds G Q) : rd_scan_put m (bodyEnds Q) (gstart N_scan_put ds) G := by
  obtain ⟨t, p, s, q, se, pr, n, qu, a, l, e, rfl, sc, hl, k⟩ := h
  rw [show gstart N_scan_put [.ref t, entD e, .int l] = [some (.ref t), some (entD e), some (.int l)] from rfl]
  unfold rd_scan_put
  refine go (i_fldR sc.o (d := .ref se) rfl (go (i_ninN sc.se (pkd_ent e) (go ?_))))
  rw [keysT_some, show decide (D.tup [.int e.1, .int e.2] ∈ qu.map fun x => entD x.1) = decide (e ∈ qu.map (·.1)) from decide_eq_decide.mpr mem_quE]
  by_cases h : e ∈ qu.map (·.1)
  · have e1 : putQ qu e l = qu := if_pos h
    rw [e1] at k
    refine i_iteN (fun z => absurd h z) fun _ => go ?_
    exact k G sc (Keep.refl _ _)
  · have e1 : putQ qu e l = qu ++ [(e, l)] := if_neg h
    refine i_iteN (fun _ => ?_) fun z => absurd z h
    have hk : entD e ∉ qu.map fun x => entD x.1 := fun z => h (mem_quE.mp z)
    refine go (i_fldR sc.o (d := .ref se) rfl (go (i_putN sc.se (pkd_ent e) (by unfold keysT; rw [List.length_map, List.length_map]; exact Nat.lt_trans hl (by decide)) (go ?_))))
    refine i_fldR (by rw [set_ne sc.nts]; exact sc.o) (d := .ref q) rfl (go (i_lm1 (by rw [set_ne sc.nqs]; exact sc.q) (go (i_app (by rw [set_ne sc.nqs]; exact sc.q) (by rw [List.length_map]; exact Nat.lt_trans hl (by decide)) (go ?_)))))
    refine k _ ⟨by rw [set_ne sc.ntq, set_ne sc.nts]; exact sc.o, ?_, ?_, putQ_nd sc.nd⟩ (((Keep.put (p := se)).trans (Keep.put (p := q))).sub (by simp))
    · rw [set_same, e1, List.map_append]
      rfl
    · rw [set_ne sc.nqs.symm, set_same, e1, List.map_append]
      refine congrArg (fun z => some (GO.dct .nk z)) ?_
      have := dput_T (qu.map fun x => entD x.1) (entD e)
      rw [addT_not hk] at this
      exact this
theorem len_scan_put (m : Gm) (ds : List D) (G : GH) (Q : GQ) (h : sp_scan_put m ds G Q) : ds.length = 3 := by obtain ⟨t, p, s, q, se, pr, n, qu, a, l, e, rfl, _⟩ := h; rfl
theorem rdp_scan_init (m : Gm) (hm : OkC m .scan) (ds : List D) (G : GH) (Q : GQ) (h : sp_scan_init m ds G Q) : rd_scan_init m (bodyEnds Q) (gstart N_scan_init ds) G := by
  obtain ⟨t, p, s, e, rs, rfl, hG, hl, k⟩ := h
  rw [show gstart N_scan_init [.ref t, .ref p, .ref s, .tup ((e :: rs).map entD)] = [some (.ref t), some (.ref p), some (.ref s), some (.tup ((e :: rs).map entD)), none] from rfl]
  unfold rd_scan_init
  refine go (i_ixT (d := entD e) atI_zero (go (i_ixT (d := .int e.1) atI_zero (go ⟨t, .scan, _, rfl, hG, hm _ (by decide), hm _ (by decide), go ?_⟩))))
  refine i_setFR set_same (hm _ (by decide)) (by exact (by decide : 2 < 100)) (go (i_setFR set_same (hm _ (by decide)) (by exact (by decide : 3 < 100)) (go ?_)))
  simp only [set_set]
  refine fun q hq => go ?_
  have ntq : t ≠ q := fun z => by rw [← z, set_same] at hq; cases hq
  refine i_setFR (by rw [set_ne ntq]; exact set_same) (hm _ (by decide)) (by exact (by decide : 4 < 100)) (go fun se hse => go ?_)
  have nts : t ≠ se := fun z => by rw [← z, set_same] at hse; cases hse
  have nqs : q ≠ se := fun z => by rw [← z, set_ne ntq.symm, set_same] at hse; cases hse
  refine i_setFR (by rw [set_ne nts]; exact set_same) (hm _ (by decide)) (by exact (by decide : 5 < 100)) (go (i_setFR set_same (hm _ (by decide)) (by exact (by decide : 6 < 100)) (go ?_)))
  have gq : G q = none := by rw [set_ne ntq.symm] at hq; exact hq
  have gse : G se = none := by rw [set_ne nts.symm, set_ne nqs.symm, set_ne nts.symm] at hse; exact hse
  refine i_turns (fun i σ' G' => ∃ x4, σ' = [some (.ref t), some (.ref p), some (.ref s), some (.tup ((e :: rs).map entD)), x4] ∧ ScAt G' t p s q se (readR e.1) 0 (putsQ [] 0 ((e :: rs).take i)) 0 ∧ Keep G G' [t]) ⟨none, rfl, ⟨set_same, ?_, ?_, by simp [putsQ]⟩, ?_⟩ ?_ ?_
  · rw [set_ne ntq.symm, set_ne ntq.symm, set_ne nqs, set_ne ntq.symm]
    exact set_same
  · rw [set_ne nts.symm, set_ne nts.symm]
    exact set_same
  · exact fun b o hb nb => by
      have n1 : b ≠ t := fun z => nb (by rw [z]; simp)
      rw [set_ne n1, set_ne n1, set_ne (gne_none hb gse), set_ne n1, set_ne (gne_none hb gq), set_ne n1]
      exact hb
  · rintro i d σ' G' hi _ ⟨x4, rfl, sc, kk⟩
    rw [List.getElem?_map] at hi
    obtain ⟨y, hy, rfl⟩ := Option.map_eq_some_iff.mp hi
    have hlen := putsQ_len 0 ((e :: rs).take i) []
    have hlen2 : ((e :: rs).take i).length ≤ 100 := by rw [List.length_take, List.length_cons]; omega
    unfold rd_scan_init_1
    refine go (i_methR sc.o (sp := sp_scan_put m) rfl (go ⟨t, p, s, q, se, _, _, _, 0, 0, y, rfl, sc, by simp at hlen; omega, fun G2 sc2 k2 => go ⟨True.intro, _, rfl, ?_, ?_⟩⟩))
    · have e3 : (e :: rs).take (i + 1) = (e :: rs).take i ++ [y] := by rw [List.take_add_one, hy]; rfl
      rw [e3, putsQ_snoc]
      exact sc2
    · exact fun b o hb nb => k2 _ _ (kk b o hb nb) (by simp [gne_none hb gq, gne_none hb gse])
  · rintro σ' G' _ ⟨x4, rfl, sc, kk⟩
    rw [List.length_map, List.take_length] at sc
    exact go (k q se G' sc kk gq gse)
theorem len_scan_init (m : Gm) (ds : List D) (G : GH) (Q : GQ) (h : sp_scan_init m ds G Q) : ds.length = 4 := by obtain ⟨t, p, s, e, rs, rfl, _⟩ := h; rfl
theorem rdp_mount (m : Gm) (ds : List D) (G : GH) (Q : GQ) (h : sp_mount m ds G Q) : rd_mount m (bodyEnds Q) (gstart N_mount ds) G := by
  obtain ⟨p, s, x, y, e, rs, rfl, hl, k⟩ := h
  rw [show gstart N_mount [.ref p, .ref s, .tup [x, y, .tup ((e :: rs).map entD)]] = [some (.ref p), some (.ref s), some (.tup [x, y, .tup ((e :: rs).map entD)])] from rfl]
  unfold rd_mount
  refine go (i_ixT (d := .tup ((e :: rs).map entD)) rfl (go fun t ht => ⟨t, p, s, e, rs, rfl, set_same, hl, fun q se G' sc kk hq hse => ⟨rfl, go (k t q se G' sc ?_ ht ?_ ?_)⟩⟩))
  · exact fun b o hb _ => kk b o (by rw [set_ne (gne_none hb ht)]; exact hb) (by simp [gne_none hb ht])
  · exact (Keep.new ht []).fresh hq (by simp)
  · exact (Keep.new ht []).fresh hse (by simp)
theorem len_mount (m : Gm) (ds : List D) (G : GH) (Q : GQ) (h : sp_mount m ds G Q) : ds.length = 3 := by obtain ⟨p, s, x, y, e, rs, rfl, _⟩ := h; rfl
theorem quD_at {qu : List (Ent × Nat)} {a : Nat} {x : Ent × Nat} (h : qu[a]? = some x) : atI (qu.map quD) (a : Int) = some (quD x) := atI_at (Int.natCast_nonneg a) (by rw [Int.toNat_natCast, List.getElem?_map, h]; rfl)
theorem rdp_scan_go_on (m : Gm) (hm : OkC m .scan) (ds : List D) (G : GH) (Q : GQ) (h : sp_scan_go_on m ds G Q) : rd_scan_go_on m (bodyEnds Q) (gstart N_scan_go_on ds) G := by
  obtain ⟨t, p, s, q, se, sd, S, pr, v, n, qu, a, l, e, cs, rfl, sc, ha, hs, sl, pv, hl, hn, kF, kT⟩ := h
  rw [show gstart N_scan_go_on [.ref t, v] = [some (.ref t), some v, none, none, none, none] from rfl]
  unfold rd_scan_go_on
  have npt : p ≠ t := fun z => by have := hs.1; rw [z, sc.o] at this; cases this
  have npq : p ≠ q := fun z => by have := hs.1; rw [z, sc.q] at this; cases this
  have nps : p ≠ se := fun z => by have := hs.1; rw [z, sc.se] at this; cases this
  refine go (i_fldR sc.o (d := .ref q) rfl (go (i_fldR sc.o (d := .int a) rfl (go (i_ixL sc.q (quD_at ha) (go ⟨[entD e, .int l], rfl, rfl, ?_⟩))))))
  rw [show setAll [2, 3] [entD e, .int l] [some (.ref t), some v, none, none, none, none] = [some (.ref t), some v, some (entD e), some (.int l), none, none] from rfl]
  refine go (i_fldR sc.o (d := .ref s) rfl (go (i_methR sl.1 (sp := sp_sealer_knows) rfl (go (i_ixT (d := .int e.2) rfl (go (i_knows sl pv (go ?_))))))))
  cases hk : knowsB cs v e.2 with
  | false =>
    refine go (i_ixT (d := .int e.1) rfl (go (i_setFR sc.o (hm _ (by decide)) (by exact (by decide : 7 < 100)) (go ?_))))
    exact kF hk _ sc.put (Keep.put.sub (by simp))
  | true =>
    obtain ⟨kR, kD⟩ := kT hk
    obtain ⟨cell, hcell, hv⟩ := knowsB_iff.mp hk
    obtain ⟨x, r, hx⟩ : ∃ x r, v = .tup (x :: r) := by rw [hv]; cases cell <;> exact ⟨_, _, rfl⟩
    subst hx
    unfold rd_scan_go_on_3
    refine go (i_fldR sc.o (d := .ref p) rfl (go (i_fldR hs.1 (d := .int S.d) rfl (go ?_))))
    -- the tail, from the queue as it is then
    have tl : ∀ (G1 : GH) (x4 : Option D), ScAt G1 t p s q se pr n (scQ cs S.d qu e l) a → Keep G G1 [q, se] → rd_scan_go_on_2 m (bodyEnds Q) [some (.ref t), some (.tup (x :: r)), some (entD e), some (.int l), x4, none] G1 := by
      intro G1 x4 sc1 k1
      unfold rd_scan_go_on_2
      have sc2 := sc1.put (pr' := pr) (n' := n) (a' := a + 1)
      have k2 : Keep G (G1.set t (.ins .scan (scF pr n p s q se (a + 1)))) [t, q, se] := ((k1.sub (by simp)).set (by simp))
      refine go (i_fldR sc1.o (d := .int a) rfl (go (i_setFR sc1.o (hm _ (by decide)) (by exact (by decide : 7 < 100)) (go ?_))))
      show fldG ((G1.set t (.ins .scan (scF pr n p s q se (a + 1)))) t) _ _
      refine i_fldR sc2.o (d := .int ((a + 1 : Nat) : Int)) rfl (go (i_fldR sc2.o (d := .ref q) rfl (go (i_lenL sc2.q (go ?_)))))
      rw [List.length_map]
      by_cases hend : a + 1 = (scQ cs S.d qu e l).length
      · refine i_yes (by omega) (go (i_fldR sc2.o (d := .ref q) rfl (go (i_itL sc2.q fun z hz => ?_))))
        have nqz : q ≠ z := fun y => by rw [← y, sc2.q] at hz; cases hz
        have ntz : t ≠ z := fun y => by rw [← y, sc2.o] at hz; cases hz
        refine ⟨(set_ne nqz).trans sc2.q, ?_⟩
        rw [show wipeG [some (.ref t), some (.tup (x :: r)), some (entD e), some (.int l), x4, none] [5] = [some (.ref t), some (.tup (x :: r)), some (entD e), some (.int l), x4, none] from rfl]
        have hlen : (scQ cs S.d qu e l).length < 4000 := by
          unfold scQ
          by_cases hld : l < S.d
          · rw [if_pos hld]
            have h1 := putsQ_len (l + 1) (kidsOf cs e.2) qu
            have h2 : (kidsOf cs e.2).length ≤ 4 := by
              obtain ⟨es, hes, hel⟩ := hn hk hld
              rw [kids_node hes, hel]
              exact hs.2.f4
            omega
          · rw [if_neg hld]; omega
        refine i_scl (fun i acc G2 => acc = blkS ((scQ cs S.d qu e l).take i) ∧ G2 = (G1.set t (.ins .scan (scF pr n p s q se (a + 1)))).set z (.set acc)) ⟨by simp [blkS], by simp⟩ ?_ ?_
        · rintro i d acc G2 hi hok hp ⟨rfl, rfl⟩
          rw [List.getElem?_map] at hi
          obtain ⟨y, hy, rfl⟩ := Option.map_eq_some_iff.mp hi
          refine go (i_ixT (d := entD y.1) atI_zero (go (i_ixT (d := .int y.1.1) atI_zero ⟨y.1.1, rfl, hp, ?_, ?_, ?_, ?_⟩)))
          · have h1 := blkS_len ((scQ cs S.d qu e l).take i)
            have h2 : ((scQ cs S.d qu e l).take i).length ≤ (scQ cs S.d qu e l).length := by rw [List.length_take]; omega
            show _ < 4096
            omega
          · rw [set_set]; exact (set_ne nqz).trans sc2.q
          · rw [List.take_add_one, hy]
            exact (blkS_snoc _ _).symm
          · rw [set_set]
        · rintro acc G2 hok hp ⟨rfl, rfl⟩
          rw [List.length_map, List.take_length] at hp ⊢
          refine go ⟨_, set_same, fun zs z2 pm ps hz2 => go ?_⟩
          have nzz : z ≠ z2 := fun y => by rw [← y, set_same] at hz2; cases hz2
          have nt2 : t ≠ z2 := fun y => by rw [← y, set_ne ntz, sc2.o] at hz2; cases hz2
          have sc3 : ScAt ((((G1.set t (.ins .scan (scF pr n p s q se (a + 1)))).set z (.set (blkS (scQ cs S.d qu e l)))).set z2 (.lst (zs.map .int)))) t p s q se pr n (scQ cs S.d qu e l) (a + 1) := sc2.keep ((Keep.new hz []).trans (Keep.new hz2 [])) (by simp) (by simp) (by simp)
          refine i_setFR sc3.o (hm _ (by decide)) (by exact (by decide : 7 < 100)) (go ?_)
          have hmem : ∀ k : Int, k ∈ zs ↔ ∃ x ∈ scQ cs S.d qu e l, (x.1.1 : Int) = k := fun k => by rw [pm.mem_iff, blkS_mem]
          obtain ⟨ns, hns⟩ := nats_of (zs := zs) fun y hy => by
            obtain ⟨w, _, e⟩ := (hmem y).mp hy
            omega
          subst hns
          have gz2 : G z2 = none := by
            rw [set_ne nzz.symm] at hz2
            exact k2.fresh hz2 (by
              simp only [List.mem_cons, List.not_mem_nil, or_false, not_or]
              refine ⟨nt2.symm, fun y => ?_, fun y => ?_⟩
              · rw [y, sc2.q] at hz2; cases hz2
              · rw [y, sc2.se] at hz2; cases hz2)
          refine kD hend z2 ns _ (fun b => ?_) ?_ ?_ gz2 sc3.put ?_
          · have := hmem b
            rw [List.mem_map] at this
            constructor
            · intro hb
              obtain ⟨w, hw, e⟩ := this.mp ⟨b, hb, rfl⟩
              exact ⟨w, hw, by omega⟩
            · rintro ⟨w, hw, e⟩
              obtain ⟨c, hc, e2⟩ := this.mpr ⟨w, hw, by omega⟩
              have : c = b := by omega
              rw [← this]; exact hc
          · rw [List.pairwise_map] at ps
            exact ps.imp fun h => by omega
          · rw [set_ne nt2.symm, set_same, List.map_map]
            rfl
          · exact (((k2.trans (Keep.new hz [])).trans (Keep.new hz2 [])).sub (by simp)).set (by simp)
      · refine i_no (by omega) (go (i_fldR sc2.o (d := .ref q) rfl (go (i_fldR sc2.o (d := .int ((a + 1 : Nat) : Int)) rfl (go ?_)))))
        have hlt : a + 1 < (scQ cs S.d qu e l).length := by
          have h1 : a < qu.length := (List.getElem?_eq_some_iff.mp ha).1
          have h2 : qu.length ≤ (scQ cs S.d qu e l).length := by
            unfold scQ
            split
            · have : ∀ (es : List Ent) (qu : List (Ent × Nat)), qu.length ≤ (putsQ qu (l + 1) es).length := by
                intro es
                induction es with
                | nil => intro qu; exact Nat.le_refl _
                | cons y es ih =>
                  intro qu
                  refine Nat.le_trans ?_ (ih (putQ qu y (l + 1)))
                  unfold putQ
                  split <;> simp
              exact this _ _
            · exact Nat.le_refl _
          omega
        obtain ⟨⟨e2, l2⟩, hx2⟩ : ∃ y, (scQ cs S.d qu e l)[a + 1]? = some y := ⟨_, List.getElem?_eq_getElem hlt⟩
        refine i_ixL sc2.q (quD_at hx2) (go (i_ixT (d := entD e2) atI_zero (go (i_ixT (d := .int e2.1) atI_zero (go (i_setFR sc2.o (hm _ (by decide)) (by exact (by decide : 7 < 100)) (go ?_)))))))
        exact kR e2 l2 hx2 _ sc2.put (k2.set (by simp))
    by_cases hld : l < S.d
    · obtain ⟨es, hes, hel⟩ := hn hk hld
      rw [hcell] at hes
      cases hes
      have hr : r = es.map entD := by injection hv with hv; injection hv
      have hq : scQ cs S.d qu e l = putsQ qu (l + 1) es := by unfold scQ; rw [if_pos hld, kids_node hcell]
      have f4 := hs.2.f4
      refine i_yes (by omega) (go ?_)
      rw [hr]
      refine i_turns (fun i σ' G' => ∃ x4, σ' = [some (.ref t), some (.tup (x :: r)), some (entD e), some (.int l), x4, none] ∧ ScAt G' t p s q se pr n (putsQ qu (l + 1) (es.take i)) a ∧ Keep G G' [q, se]) ⟨none, by rw [hr], by simpa [putsQ] using sc, Keep.refl _ _⟩ ?_ ?_
      · rintro i d σ' G' hi _ ⟨x4, rfl, sc1, kk⟩
        rw [List.getElem?_map] at hi
        obtain ⟨y, hy, rfl⟩ := Option.map_eq_some_iff.mp hi
        have hlen := putsQ_len (l + 1) (es.take i) qu
        have hlen2 : (es.take i).length ≤ 4 := by rw [List.length_take]; omega
        unfold rd_scan_go_on_1
        refine go (i_methR sc1.o (sp := sp_scan_put m) rfl (go ⟨t, p, s, q, se, _, _, _, _, l + 1, y, rfl, sc1, by omega, fun G2 sc2 k2 => go ⟨True.intro, _, rfl, ?_, kk.same k2⟩⟩))
        have e3 : es.take (i + 1) = es.take i ++ [y] := by rw [List.take_add_one, hy]; rfl
        rw [e3, putsQ_snoc]
        exact sc2
      · rintro σ' G' _ ⟨x4, rfl, sc1, kk⟩
        rw [List.length_map, List.take_length, ← hq] at sc1
        exact go (tl G' x4 sc1 kk)
    · have hq : scQ cs S.d qu e l = qu := by unfold scQ; rw [if_neg hld]
      refine i_no (by omega) (go (tl G none (by rw [hq]; exact sc) (Keep.refl _ _)))
theorem len_scan_go_on (m : Gm) (ds : List D) (G : GH) (Q : GQ) (h : sp_scan_go_on m ds G Q) : ds.length = 2 := by obtain ⟨t, p, s, q, se, sd, S, pr, v, n, qu, a, l, e, cs, rfl, _⟩ := h; rfl
theorem items_lst {G : GH} {p : Addr} {ds : List D} (h : G p = some (.lst ds)) : itemsG (.ref p) G = some ds := by unfold itemsG; simp only [h]
theorem flat_rep {α : Type} (x : α) : ∀ n : Nat, (List.replicate n [x]).flatten = List.replicate n x
  | 0 => rfl
  | n + 1 => by rw [List.replicate_succ, List.flatten_cons, flat_rep x n, List.replicate_succ]; rfl
theorem blankP_inj {S : Shp} (ok : S.Ok) : ∀ {i j : Nat}, blankP S i = blankP S j → i = j
  | 0, 0, _ => rfl
  | 0, _ + 1, h => by unfold blankP at h; cases h
  | _ + 1, 0, h => by unfold blankP at h; cases h
  | i + 1, j + 1, h => by
    unfold blankP at h
    injection h with h
    have f2 := ok.f2
    obtain ⟨f, hf⟩ : ∃ f, S.f = f + 1 := ⟨S.f - 1, by omega⟩
    rw [hf, List.replicate_succ, List.replicate_succ] at h
    injection h with h
    injection h with h
    try rw [h]
def blankN (S : Shp) (i : Nat) : List PCell := (List.range i).map (blankP S)
theorem blankN_len (S : Shp) (i : Nat) : (blankN S i).length = i := by unfold blankN; simp
theorem blank_not {S : Shp} (ok : S.Ok) (i : Nat) : blankP S i ∉ blankN S i := fun h => by
  unfold blankN at h
  obtain ⟨j, hj, e⟩ := List.mem_map.mp h
  have := blankP_inj ok e
  rw [List.mem_range] at hj
  omega
theorem blank_add {S : Shp} (ok : S.Ok) (i : Nat) : addC (blankN S i) (blankP S i) = blankN S (i + 1) := by
  unfold addC
  rw [if_neg (blank_not ok i)]
  unfold blankN
  rw [List.range_succ, List.map_append]
  try rfl
theorem blank_mark {S : Shp} (ok : S.Ok) (i : Nat) : markC (blankN S (i + 1)) (blankP S i) = i + 1 := by
  rw [← blank_add ok]
  unfold markC
  rw [if_pos (addC_mem _ _)]
  unfold addC
  rw [if_neg (blank_not ok i), List.idxOf_append, if_neg (blank_not ok i), blankN_len]
  simp
theorem leaf_cell (ws : List Nat) : cellD (.leaf ws) = .tup (.str "leaf" :: intsD ws) := rfl
theorem node_cell (es : List Ent) : cellD (.node es) = .tup (.str "node" :: es.map entD) := rfl
theorem rdp_blank_volume (m : Gm) (ds : List D) (G : GH) (Q : GQ) (h : sp_blank_volume m ds G Q) : rd_blank_volume m (bodyEnds Q) (gstart N_blank_volume ds) G := by
  obtain ⟨p, S, s, d, rfl, hs, sl, k⟩ := h
  rw [show gstart N_blank_volume [.ref p, .ref s] = [some (.ref p), some (.ref s), none, none, none, none] from rfl]
  unfold rd_blank_volume
  have w1 := hs.2.w1
  have w4 := hs.2.w4
  have d6 := hs.2.d6
  have f2 := hs.2.f2
  have f4 := hs.2.f4
  refine go fun a ha => go ?_
  have hs1 : (G.set a (.lst [.int 0])) p = some (.ins .shape S.fs) := by rw [set_ne (gne_none hs.1 ha)]; exact hs.1
  refine i_fldR hs1 (d := .int S.w) rfl ⟨_, set_same, by omega, by omega, by simp, fun b hb => go ⟨.ref b, _, rfl, items_lst set_same, ?_, go fun w hw => go ?_⟩⟩
  · rw [Int.toNat_natCast, flat_rep, List.length_replicate]
    exact Nat.lt_of_le_of_lt w4 (by decide)
  rw [Int.toNat_natCast, flat_rep] at hw ⊢
  have kab : Keep G ((G.set a (.lst [.int 0])).set b (.lst (List.replicate S.w (.int 0)))) [] := ((Keep.new ha []).trans (Keep.new hb [])).sub (by simp)
  have kw : Keep G ((((G.set a (.lst [.int 0])).set b (.lst (List.replicate S.w (.int 0)))).set w (.lst [.tup [.int 0, .tup (.str "leaf" :: List.replicate S.w (.int 0))]]))) [] := (kab.trans (Keep.new hw [])).sub (by simp)
  have gw : G w = none := kab.fresh hw (by simp)
  refine i_fldR (kw _ _ hs.1 (by simp)) (d := .int S.d) rfl (go ⟨by omega, by omega, ?_⟩)
  have hc0 : D.tup (.str "leaf" :: List.replicate S.w (.int 0)) = cellD (blankP S 0) := by
    unfold blankP
    rw [leaf_cell]
    unfold intsD
    rw [List.map_replicate]
    rfl
  rw [hc0] at kw ⊢
  refine i_turns (fun i σ' G' => ∃ x4 x5, σ' = [some (.ref p), some (.ref s), some (cellD (blankP S i)), some (.ref w), x4, x5] ∧ G' w = some (.lst ((List.range (i + 1)).map fun l : Nat => D.tup [.int l, cellD (blankP S l)])) ∧ SealC G' s d (blankN S i) ∧ Keep G G' [d])
    ⟨none, none, rfl, set_same, sl.keep kw (by simp) (by simp), kw.sub (by simp)⟩ ?_ ?_
  · rintro i dd σ' G' hi _ ⟨x4, x5, rfl, hw1, sl1, kk⟩
    rw [List.getElem?_map] at hi
    obtain ⟨y, hy, rfl⟩ := Option.map_eq_some_iff.mp hi
    obtain ⟨hi1, hi2⟩ := List.getElem?_eq_some_iff.mp hy
    rw [List.getElem_range] at hi2
    subst hi2
    rw [List.length_range] at hi1
    have npd : p ≠ d := fun z => by have := hs.1; rw [z, sl.2.1] at this; cases this
    unfold rd_blank_volume_1
    refine go (i_methR sl1.1 (sp := sp_sealer_mark) rfl (go (i_mark sl1 (by rw [blankN_len]; exact Nat.lt_trans (show i < 10 by omega) (by decide)) fun G2 sl2 k2 => go fun c hc => go ?_)))
    rw [blank_add hs.2] at sl2 ⊢
    rw [blank_mark hs.2]
    have kk2 : Keep G G2 [d] := kk.same k2
    have hs2 : G2 p = some (.ins .shape S.fs) := kk2 _ _ hs.1 (by simp [npd])
    refine i_fldR (by rw [set_ne (gne_none hs2 hc)]; exact hs2) (d := .int S.f) rfl ⟨_, set_same, by omega, by omega, by simp, fun e he => go ⟨.ref e, _, rfl, items_lst set_same, ?_, go ?_⟩⟩
    · rw [Int.toNat_natCast, flat_rep, List.length_replicate]
      exact Nat.lt_of_le_of_lt f4 (by decide)
    rw [Int.toNat_natCast, flat_rep]
    have hcell : D.tup (.str "node" :: List.replicate S.f (.tup [.int i, .int ((i + 1 : Nat) : Int)])) = cellD (blankP S (i + 1)) := by
      unfold blankP
      rw [node_cell, List.map_replicate]
      rfl
    rw [hcell]
    have ndw : w ≠ d := fun z => by rw [z, sl1.2.1] at hw1; cases hw1
    have hw2 : G2 w = some (.lst ((List.range (i + 1)).map fun l : Nat => D.tup [.int l, cellD (blankP S l)])) := k2 _ _ hw1 (by simp [ndw])
    have kce : Keep G2 ((G2.set c (.lst [.tup [.int i, .int ((i + 1 : Nat) : Int)]])).set e (.lst (List.replicate S.f (.tup [.int i, .int ((i + 1 : Nat) : Int)])))) [] := ((Keep.new hc []).trans (Keep.new he [])).sub (by simp)
    have hw3 := kce _ _ hw2 (by simp)
    refine i_lm1 hw3 (go (i_app hw3 (by rw [List.length_map, List.length_range]; exact Nat.lt_trans (show i + 1 < 10 by omega) (by decide)) (go ⟨True.intro, _, _, rfl, ?_, ?_, ?_⟩)))
    · rw [set_same, List.range_succ (n := i + 1), List.map_append]
      rfl
    · have nsw : s ≠ w := fun z => by have := sl1.1; rw [z, hw1] at this; cases this
      exact SealC.keep (xs := [w]) sl2 ((kce.trans (Keep.put (p := w))).sub (by simp)) (by simp [nsw]) (by simp [ndw.symm])
    · exact fun b o hb nb => by
        rw [set_ne (gne_none hb gw)]
        exact kce _ _ (kk2 _ _ hb nb) (by simp)
  · rintro σ' G' _ ⟨x4, x5, rfl, hw1, sl1, kk⟩
    rw [List.length_map, List.length_range, show ((S.d : Int)).toNat = S.d by omega] at hw1 sl1 ⊢
    have npd : p ≠ d := fun z => by have := hs.1; rw [z, sl.2.1] at this; cases this
    unfold rd_blank_volume_2
    refine go (i_fldR (kk _ _ hs.1 (by simp [npd])) (d := .int S.d) rfl (go (i_methR sl1.1 (sp := sp_sealer_mark) rfl (go (i_mark sl1 (by rw [blankN_len]; exact Nat.lt_trans (show S.d < 10 by omega) (by decide)) fun G2 sl2 k2 => go ?_)))))
    rw [blank_add hs.2] at sl2 ⊢
    rw [blank_mark hs.2]
    have ndw : w ≠ d := fun z => by rw [z, sl1.2.1] at hw1; cases hw1
    exact k w G2 (k2 _ _ hw1 (by simp [ndw])) sl2 (kk.same k2) gw
theorem len_blank_volume (m : Gm) (ds : List D) (G : GH) (Q : GQ) (h : sp_blank_volume m ds G Q) : ds.length = 2 := by obtain ⟨p, S, s, d, rfl, _⟩ := h; rfl
/-- Talk.answer, by what the classes' go_on promise -/
def rdAns (m : Gm) (te tg : Cl → Option GSp) : GS := gSeq (gIf (gTest (gMeth te (gVar 0) gNil)) (gNever) (gNext)) (gSeq (gSetF m (gVar 0) (gBin gAdd (gFld (gVar 0) .answers) (gC (.int 1))) .answers) (gDrop (gMeth tg (gVar 0) (gCons (gVar 1) (gNil)))))
theorem rdp_ans (m : Gm) (te tg : Cl → Option GSp) (he : ∀ c, tg c ≠ none → te c = some (sp_talk_has_ended m)) (ds : List D) (G : GH) (Q : GQ) (h : spAnswer m tg ds G Q) : rdAns m te tg (bodyEnds Q) (gstart ["self", "value"] ds) G := by
  obtain ⟨t, v, c, fs, x, r, n, sp, rfl, hG, hp, h1, h2, hn, _, ok, hl, ht, q⟩ := h
  rw [show gstart ["self", "value"] [.ref t, v] = [some (.ref t), some v] from rfl]
  unfold rdAns
  refine go (i_methR hG (he c (by rw [ht]; exact fun z => nomatch z)) (go ⟨t, c, fs, x, r, rfl, hG, hp, go ?_⟩))
  rw [decide_eq_false h1, decide_eq_false h2, Bool.or_self]
  refine go (i_fldR hG hn (go (i_setFR hG ok hl (go (i_methR set_same ht (go ?_))))))
  exact q
theorem len_ans (m : Gm) (tab : Cl → Option GSp) (ds : List D) (G : GH) (Q : GQ) (h : spAnswer m tab ds G Q) : ds.length = 2 := by obtain ⟨t, v, c, fs, x, r, n, sp, rfl, _⟩ := h; rfl
end Cz

/-! CzRun: reads and scans, turn by turn. -/
namespace Cz
open PySem L2
/-! ### the path of a read -/
def stepE (cs : List PCell) (e : Ent) (c : Nat) : Ent := ((kidsOf cs e.2)[c]?).getD (0, 0)
def pathE (cs : List PCell) (root : Ent) (ws : List Nat) : Ent := ws.foldl (stepE cs) root
def cellOf (cs : List PCell) (e : Ent) : D := match cellAt cs e.2 with
  | some c => cellD c
  | none => .non
def vsAt (cs : List PCell) (root : Ent) (way : List Nat) (l : Nat) : List D := (List.range l).map fun j => cellOf cs (pathE cs root (way.take j))
theorem vsAt_len (cs : List PCell) (root : Ent) (way : List Nat) (l : Nat) : (vsAt cs root way l).length = l := by unfold vsAt; simp
theorem vsAt_succ (cs : List PCell) (root : Ent) (way : List Nat) (l : Nat) : vsAt cs root way (l + 1) = vsAt cs root way l ++ [cellOf cs (pathE cs root (way.take l))] := by unfold vsAt; rw [List.range_succ, List.map_append]; rfl
theorem pathE_snoc (cs : List PCell) (root : Ent) (ws : List Nat) (c : Nat) : pathE cs root (ws ++ [c]) = stepE cs (pathE cs root ws) c := by unfold pathE; rw [List.foldl_append]; rfl
theorem Good.step {dk : Nat → Option D} {cs : List PCell} {f h : Nat} {e : Ent} {g : List Nat → List Nat} {c : Nat} (G : Good dk cs f (h + 1) e g) (hc : c < f) : ∃ es, cellAt cs e.2 = some (.node es) ∧ es.length = f ∧ es[c]? = some (stepE cs e c) ∧ Good dk cs f h (stepE cs e c) fun w => g (c :: w) := by
  obtain ⟨es, e1, l, t⟩ := G.1
  have hx : es[c]? = some es[c] := List.getElem?_eq_getElem (by omega)
  have hs : stepE cs e c = es[c] := by unfold stepE; rw [kids_node e1, hx]; rfl
  exact ⟨es, e1, l, by rw [hs]; exact hx, by rw [hs]; exact G.kid e1 hx⟩
theorem Good.path {dk : Nat → Option D} {cs : List PCell} {f : Nat} : ∀ {ws : List Nat} {h : Nat} {e : Ent} {g : List Nat → List Nat}, Good dk cs f h e g → ws.length ≤ h → (∀ c ∈ ws, c < f) → Good dk cs f (h - ws.length) (pathE cs e ws) fun w => g (ws ++ w)
  | [], h, e, g, G, _, _ => G
  | c :: ws, 0, e, g, G, hl, _ => by simp at hl
  | c :: ws, h + 1, e, g, G, hl, hf => by
    obtain ⟨es, _, _, _, G1⟩ := G.step (hf c List.mem_cons_self)
    have := G1.path (ws := ws) (by simpa using hl) fun d hd => hf d (List.mem_cons_of_mem _ hd)
    rw [List.length_cons, show h + 1 - (ws.length + 1) = h - ws.length by omega]
    exact this
theorem OnD.known {dk : Nat → Option D} {cs : List PCell} {e : Ent} {v : D} (h : OnD dk cs e) (hv : dk e.1 = some v) : knowsB cs v e.2 = true := by
  obtain ⟨c, h1, h2⟩ := h
  rw [hv] at h2
  exact knowsB_iff.mpr ⟨c, h1, Option.some.inj h2⟩
theorem knows_cell {dk : Nat → Option D} {cs : List PCell} {e : Ent} {v : D} (h : OnD dk cs e) (hk : knowsB cs v e.2 = true) : dk e.1 = some v ∧ v = cellOf cs e := by
  obtain ⟨c, h1, h2⟩ := h
  obtain ⟨c', h3, h4⟩ := knowsB_iff.mp hk
  rw [h1] at h3
  cases h3
  exact ⟨by rw [h2, h4], by unfold cellOf; rw [h1]; exact h4⟩
section
variable {dk : Nat → Option D} {cs : List PCell} {f d : Nat} {root : Ent} {g : List Nat → List Nat} {way : List Nat} {v : D} {l : Nat}
theorem rdStep_run (G : Good dk cs f d root g) (hw : way.length = d) (hf : ∀ c ∈ way, c < f) (hl : l < d) (hk : knowsB cs v (pathE cs root (way.take l)).2 = true) :
    rdStep cs d way (pathE cs root (way.take l)) (vsAt cs root way l) v = (readR (pathE cs root (way.take (l + 1))).1, pathE cs root (way.take (l + 1)), vsAt cs root way (l + 1)) := by
  have hw2 : way[l]? = some way[l] := List.getElem?_eq_getElem (by omega)
  have GP := G.path (ws := way.take l) (by rw [List.length_take]; omega) fun c hc => hf c (List.mem_of_mem_take hc)
  have e1 : (way.take l).length = l := by rw [List.length_take]; omega
  rw [e1, show d - l = (d - (l + 1)) + 1 by omega] at GP
  obtain ⟨es, h1, h2, h3, h4⟩ := GP.step (hf _ (List.mem_of_getElem? hw2))
  have ht : way.take (l + 1) = way.take l ++ [way[l]] := by rw [List.take_add_one, hw2]; rfl
  have hv := (knows_cell GP.on hk).2
  obtain ⟨x, r, hx⟩ : ∃ x r, v = .tup (x :: r) := by rw [hv]; unfold cellOf; rw [h1]; exact ⟨_, _, rfl⟩
  rw [ht, pathE_snoc, vsAt_succ, ← hv]
  unfold rdStep
  rw [hk]
  subst hx
  simp only [vsAt_len, if_neg (show ¬ l = d by omega), h1, hw2, Option.bind_some, h3]
theorem rdStep_end (G : Good dk cs f d root g) (hw : way.length = d) (hf : ∀ c ∈ way, c < f) (hk : knowsB cs v (pathE cs root (way.take d)).2 = true) :
    rdStep cs d way (pathE cs root (way.take d)) (vsAt cs root way d) v = (doneR (.tup (intsD (g way))), pathE cs root (way.take d), vsAt cs root way (d + 1)) := by
  have e1 : way.take d = way := by rw [← hw, List.take_length]
  have GP := G.path (ws := way) (by omega) hf
  rw [hw, Nat.sub_self] at GP
  have h1 : cellAt cs (pathE cs root way).2 = some (.leaf (g (way ++ []))) := GP.1
  rw [List.append_nil] at h1
  rw [e1] at hk
  have hv := (knows_cell GP.on hk).2
  have hx : v = .tup (.str "leaf" :: intsD (g way)) := by rw [hv]; unfold cellOf; rw [h1]; rfl
  rw [vsAt_succ, e1, ← hv]
  unfold rdStep
  rw [hk]
  subst hx
  simp only [vsAt_len, if_true]
theorem rdStep_no {e : Ent} {vs : List D} (hk : knowsB cs v e.2 = false) : rdStep cs d way e vs v = (refR e.1, e, vs) := by unfold rdStep; rw [hk]
end
/-- a read in its course: the answers left, the request -/
def RdT (t p s sd c : Addr) (S : Shp) (cs : List PCell) (dk : Nat → Option D) (root : Ent) (g : List Nat → List Nat) (i : Nat) (n : Nat) (x : String) (r : List D) (ys : List Addr) (G : GH) : Prop :=
  ys = [t, c, p, s, sd] ∧ ShAt G p S ∧ SealC G s sd cs ∧ Good dk cs S.f S.d root g ∧ ∃ (nn : Int) (l : Nat), l ≤ S.d + 1 ∧ G c = some (.lst (vsAt cs root (wayN S.f S.d i) l)) ∧
    ((x = "read" ∧ l ≤ S.d ∧ n + l = S.d + 1 ∧ r = [.int (pathE cs root ((wayN S.f S.d i).take l)).1] ∧ G t = some (.ins .read (rdF (reqD x r) nn p s (wayD S.f S.d i) (pathE cs root ((wayN S.f S.d i).take l)) c))) ∨
     (n = 0 ∧ ∃ e, G t = some (.ins .read (rdF (reqD x r) nn p s (wayD S.f S.d i) e c)) ∧ ((x = "done" ∧ l = S.d + 1 ∧ r = [.tup (intsD (g (wayN S.f S.d i)))]) ∨ x = "refused")))
theorem RdT.keep {t p s sd c : Addr} {S : Shp} {cs : List PCell} {dk : Nat → Option D} {root : Ent} {g : List Nat → List Nat} {i n : Nat} {x : String} {r : List D} {ys xs : List Addr} {G G' : GH} (h : RdT t p s sd c S cs dk root g i n x r ys G) (k : Keep G G' xs) (hd : ∀ y ∈ ys, y ∉ xs) : RdT t p s sd c S cs dk root g i n x r ys G' := by
  obtain ⟨rfl, h1, h2, h3, nn, l, hl, hc, ht⟩ := h
  have kt := hd t (by simp)
  have kc := hd c (by simp)
  refine ⟨rfl, h1.keep k (hd p (by simp)), h2.keep k (hd s (by simp)) (hd sd (by simp)), h3, nn, l, hl, k _ _ hc kc, ?_⟩
  rcases ht with ⟨a1, a2, a3, a4, a5⟩ | ⟨a1, e, a2, a3⟩
  · exact .inl ⟨a1, a2, a3, a4, k _ _ a5 kt⟩
  · exact .inr ⟨a1, e, k _ _ a2 kt, a3⟩
theorem RdT.alloc {t p s sd c : Addr} {S : Shp} {cs : List PCell} {dk : Nat → Option D} {root : Ent} {g : List Nat → List Nat} {i n : Nat} {x : String} {r : List D} {ys : List Addr} {G : GH} (h : RdT t p s sd c S cs dk root g i n x r ys G) : ∀ y ∈ ys, G y ≠ none := by
  obtain ⟨rfl, h1, h2, h3, nn, l, hl, hc, ht⟩ := h
  have htt : G t ≠ none := by
    rcases ht with ⟨_, _, _, _, a5⟩ | ⟨_, e, a2, _⟩
    · rw [a5]; exact fun z => nomatch z
    · rw [a2]; exact fun z => nomatch z
  intro y hy
  simp only [List.mem_cons, List.not_mem_nil, or_false] at hy
  rcases hy with rfl | rfl | rfl | rfl | rfl
  · exact htt
  · rw [hc]; exact fun z => nomatch z
  · rw [h1.1]; exact fun z => nomatch z
  · rw [h2.1]; exact fun z => nomatch z
  · rw [h2.2.1]; exact fun z => nomatch z
/-- the talk as it stands -/
def TkAt (G : GH) (t : Addr) (x : String) (r : List D) (c : Cl) : Prop := ∃ fs n, G t = some (.ins c fs) ∧ fget fs .present = some (reqD x r) ∧ fget fs .answers = some (.int n) ∧ fs.length < 50
theorem RdT.tk {t p s sd c : Addr} {S : Shp} {cs : List PCell} {dk : Nat → Option D} {root : Ent} {g : List Nat → List Nat} {i n : Nat} {x : String} {r : List D} {ys : List Addr} {G : GH} (h : RdT t p s sd c S cs dk root g i n x r ys G) : TkAt G t x r .read := by
  obtain ⟨rfl, h1, h2, h3, nn, l, hl, hc, ht⟩ := h
  rcases ht with ⟨_, _, _, _, a5⟩ | ⟨_, e, a2, _⟩
  · exact ⟨_, nn, a5, rfl, rfl, by exact (by decide : 7 < 50)⟩
  · exact ⟨_, nn, a2, rfl, rfl, by exact (by decide : 7 < 50)⟩
theorem RdT.start {t p s sd c : Addr} {S : Shp} {cs : List PCell} {dk : Nat → Option D} {root : Ent} {g : List Nat → List Nat} {i : Nat} {nn : Int} {G : GH} (hs : ShAt G p S) (sl : SealC G s sd cs) (gd : Good dk cs S.f S.d root g) (ht : G t = some (.ins .read (rdF (readR root.1) nn p s (wayD S.f S.d i) root c))) (hc : G c = some (.lst [])) :
    RdT t p s sd c S cs dk root g i (S.d + 1) "read" [.int root.1] [t, c, p, s, sd] G := ⟨rfl, hs, sl, gd, nn, 0, by omega, by rw [hc]; rfl, .inl ⟨rfl, by omega, rfl, rfl, ht⟩⟩
/-- an answer to a read -/
theorem RdT.ans {m : Gm} {tab : Cl → Option GSp} (htab : tab .read = some (sp_read_go_on m)) (hm : OkC m .read) {t p s sd c : Addr} {S : Shp} {cs : List PCell} {dk : Nat → Option D} {root : Ent} {g : List Nat → List Nat} {i n : Nat} {x : String} {r : List D} {ys : List Addr} {G : GH} {v : D} {Q : GQ}
    (h : RdT t p s sd c S cs dk root g i n x r ys G) (hx : x = "read") (pv : Pkd v)
    (q : ∀ b : Nat, r = [.int b] → ∀ G' n' x' r', (dk b = some v → x' ≠ "refused") → (dk b ≠ some v → x' = "refused" ∧ r' = r) → n' < n → RdT t p s sd c S cs dk root g i n' x' r' ys G' → Keep G G' ys → Q .non G') : spAnswer m tab [.ref t, v] G Q := by
  obtain ⟨rfl, h1, h2, h3, nn, l, hl, hc, ht⟩ := h
  rcases ht with ⟨_, a2, a3, a4, a5⟩ | ⟨_, _, _, z⟩
  rotate_left
  · subst hx
    rcases z with ⟨z, _⟩ | z <;> exact absurd z (by decide)
  subst hx
  have ntc : t ≠ c := fun z => by rw [z, hc] at a5; cases a5
  have ntp : p ≠ t := fun z => by have := h1.1; rw [z, a5] at this; cases this
  have nts : s ≠ t := fun z => by have := h2.1; rw [z, a5] at this; cases this
  have ntd : sd ≠ t := fun z => by have := h2.2.1; rw [z, a5] at this; cases this
  have npc : p ≠ c := fun z => by have := h1.1; rw [z, hc] at this; cases this
  have nsc : s ≠ c := fun z => by have := h2.1; rw [z, hc] at this; cases this
  have ndc : sd ≠ c := fun z => by have := h2.2.1; rw [z, hc] at this; cases this
  refine ⟨t, v, .read, _, "read", r, nn, _, rfl, a5, rfl, by decide, by decide, rfl, rfl, hm _ (by decide), by exact (by decide : 7 < 100), htab, ?_⟩
  have hw := wayN_len S.f S.d i
  have hf : ∀ c ∈ wayN S.f S.d i, c < S.f := wayN_lt (by have := h1.2.f2; omega) _ _
  have GP := h3.path (ws := (wayN S.f S.d i).take l) (by rw [List.length_take]; omega) fun c hc => hf c (List.mem_of_mem_take hc)
  have e1 : ((wayN S.f S.d i).take l).length = l := by rw [List.length_take]; omega
  have k1 : Keep G (G.set t (.ins .read (fput .answers (.int (nn + 1)) (rdF (reqD "read" r) nn p s (wayD S.f S.d i) (pathE cs root ((wayN S.f S.d i).take l)) c)))) [t] := Keep.put
  have hs1 := h1.keep k1 (by simp [ntp])
  have sl1 := h2.keep k1 (by simp [nts]) (by simp [ntd])
  have hq := q (pathE cs root ((wayN S.f S.d i).take l)).1 a4
  refine ⟨t, p, s, c, sd, S, i, reqD "read" r, v, nn + 1, pathE cs root ((wayN S.f S.d i).take l), _, cs, rfl, set_same, by rw [set_ne ntc.symm]; exact hc, hs1, sl1, pv, by rw [vsAt_len]; exact a2, fun _ hlt => ?_, fun G' ht' hc' kk => ?_⟩
  · rw [vsAt_len] at hlt
    rw [e1, show S.d - l = (S.d - (l + 1)) + 1 by omega] at GP
    obtain ⟨es, z1, z2, _⟩ := GP.1
    exact ⟨es, z1, z2⟩
  · have kk2 : Keep G G' [t, c] := (k1.trans kk).sub (by simp)
    have hs2 := h1.keep kk2 (by simp [ntp, npc])
    have sl2 := h2.keep kk2 (by simp [nts, nsc]) (by simp [ntd, ndc])
    have kk3 : Keep G G' [t, c, p, s, sd] := kk2.sub (by simp)
    cases hk : knowsB cs v (pathE cs root ((wayN S.f S.d i).take l)).2 with
    | false =>
      rw [rdStep_no hk] at ht' hc'
      have hnot : dk (pathE cs root ((wayN S.f S.d i).take l)).1 ≠ some v := fun z => by
        have := GP.on.known z
        rw [hk] at this; cases this
      refine hq G' 0 "refused" [.int (pathE cs root ((wayN S.f S.d i).take l)).1] (fun z => absurd z hnot) (fun _ => ⟨rfl, a4.symm⟩) (by omega) ⟨rfl, hs2, sl2, h3, nn + 1, l, hl, hc', .inr ⟨rfl, _, ht', .inr rfl⟩⟩ kk3
    | true =>
      have hyes : dk (pathE cs root ((wayN S.f S.d i).take l)).1 = some v := (knows_cell GP.on hk).1
      by_cases hld : l < S.d
      · rw [rdStep_run h3 hw hf hld hk] at ht' hc'
        exact hq G' (n - 1) "read" [.int (pathE cs root ((wayN S.f S.d i).take (l + 1))).1] (fun _ => by decide) (fun z => absurd hyes z) (by omega) ⟨rfl, hs2, sl2, h3, nn + 1, l + 1, by omega, hc', .inl ⟨rfl, by omega, by omega, rfl, ht'⟩⟩ kk3
      · have e : l = S.d := by omega
        subst e
        rw [rdStep_end h3 hw hf hk] at ht' hc'
        exact hq G' 0 "done" [.tup (intsD (g (wayN S.f S.d i)))] (fun _ => by decide) (fun z => absurd hyes z) (by omega) ⟨rfl, hs2, sl2, h3, nn + 1, S.d + 1, by omega, hc', .inr ⟨rfl, _, ht', .inl ⟨rfl, rfl, rfl⟩⟩⟩ kk3
/-! ### scans -/
def allE (cs : List PCell) (d : Nat) (rs : List Ent) : List Ent := rs.flatMap (unf cs d)
structure ScI (S : Shp) (cs : List PCell) (dk : Nat → Option D) (rs : List Ent) (qu : List (Ent × Nat)) (a : Nat) : Prop where
  good : ∀ x ∈ qu, x.2 ≤ S.d ∧ ∃ g, Good dk cs S.f (S.d - x.2) x.1 g
  sub : ∀ x ∈ qu, x.1 ∈ allE cs S.d rs
  root : ∀ r ∈ rs, r ∈ qu.map (·.1)
  kid : ∀ j, j < a → ∀ e l, qu[j]? = some (e, l) → l < S.d → ∀ k ∈ kidsOf cs e.2, k ∈ qu.map (·.1)
theorem putQ_mem {qu : List (Ent × Nat)} {e : Ent} {l : Nat} {x : Ent × Nat} (h : x ∈ putQ qu e l) : x ∈ qu ∨ x = (e, l) := by
  unfold putQ at h
  split at h
  · exact .inl h
  · rcases List.mem_append.mp h with z | z
    · exact .inl z
    · exact .inr (List.mem_singleton.mp z)
theorem putQ_ents {qu : List (Ent × Nat)} {e : Ent} {l : Nat} : e ∈ (putQ qu e l).map (·.1) := by
  unfold putQ
  split
  · assumption
  · simp
theorem putQ_pre (qu : List (Ent × Nat)) (e : Ent) (l : Nat) : ∃ r, putQ qu e l = qu ++ r := by
  unfold putQ
  split
  · exact ⟨[], by simp⟩
  · exact ⟨_, rfl⟩
theorem putsQ_pre (l : Nat) : ∀ (es : List Ent) (qu : List (Ent × Nat)), ∃ r, putsQ qu l es = qu ++ r
  | [], qu => ⟨[], by simp [putsQ]⟩
  | e :: es, qu => by
    obtain ⟨r1, h1⟩ := putQ_pre qu e l
    obtain ⟨r2, h2⟩ := putsQ_pre l es (putQ qu e l)
    exact ⟨r1 ++ r2, by rw [← List.append_assoc, ← h1, ← h2]; rfl⟩
theorem putsQ_mem (l : Nat) {x : Ent × Nat} : ∀ (es : List Ent) (qu : List (Ent × Nat)), x ∈ putsQ qu l es → x ∈ qu ∨ (x.2 = l ∧ x.1 ∈ es)
  | [], _, h => .inl h
  | e :: es, qu, h => by
    rcases putsQ_mem l es (putQ qu e l) h with z | ⟨z1, z2⟩
    · rcases putQ_mem z with z | z
      · exact .inl z
      · subst z; exact .inr ⟨rfl, List.mem_cons_self⟩
    · exact .inr ⟨z1, List.mem_cons_of_mem _ z2⟩
theorem pre_ents {qu r : List (Ent × Nat)} {e : Ent} (h : e ∈ qu.map (·.1)) : e ∈ (qu ++ r).map (·.1) := by rw [List.map_append]; exact List.mem_append_left _ h
theorem putsQ_ents (l : Nat) : ∀ (es : List Ent) (qu : List (Ent × Nat)), ∀ e ∈ es, e ∈ (putsQ qu l es).map (·.1)
  | [], _, _, h => nomatch h
  | y :: es, qu, e, h => by
    rcases List.mem_cons.mp h with rfl | h
    · obtain ⟨r, hr⟩ := putsQ_pre l es (putQ qu e l)
      show e ∈ (putsQ (putQ qu e l) l es).map (·.1)
      rw [hr]
      exact pre_ents putQ_ents
    · exact putsQ_ents l es (putQ qu y l) e h
theorem ScI.start {S : Shp} {cs : List PCell} {dk : Nat → Option D} {rs : List Ent} (h : ∀ r ∈ rs, ∃ g, Good dk cs S.f S.d r g) : ScI S cs dk rs (putsQ [] 0 rs) 0 where
  good := fun x hx => by
    rcases putsQ_mem 0 rs [] hx with z | ⟨z1, z2⟩
    · cases z
    · rw [z1]; exact ⟨Nat.zero_le _, h _ z2⟩
  sub := fun x hx => by
    rcases putsQ_mem 0 rs [] hx with z | ⟨z1, z2⟩
    · cases z
    · exact List.mem_flatMap.mpr ⟨_, z2, self_unf _ _ _⟩
  root := fun r hr => putsQ_ents 0 rs [] r hr
  kid := fun j hj => by omega
/-- what is below an entry of the whole -/
theorem unf_kid {cs : List PCell} {f : Nat} (f0 : 0 < f) : ∀ {h : Nat} {root e : Ent} {g g' : List Nat → List Nat} {k : Nat}, Holds cs f h root.2 g → e ∈ unf cs h root → Holds cs f (k + 1) e.2 g' → ∀ y ∈ kidsOf cs e.2, y ∈ unf cs h root
  | 0, root, e, g, g', k, H, he, H', y, hy => by
    rw [unf, List.mem_singleton] at he
    subst he
    have := H.height f0 H'
    omega
  | h + 1, root, e, g, g', k, ⟨es, h1, h2, h3⟩, he, H', y, hy => by
    rw [unf] at he ⊢
    rcases List.mem_cons.mp he with rfl | he
    · exact List.mem_cons_of_mem _ (List.mem_flatMap.mpr ⟨y, hy, self_unf _ _ _⟩)
    · obtain ⟨z, hz, hz2⟩ := List.mem_flatMap.mp he
      refine List.mem_cons_of_mem _ (List.mem_flatMap.mpr ⟨z, hz, ?_⟩)
      rw [kids_node h1] at hz
      obtain ⟨c, hc⟩ := List.getElem?_of_mem hz
      exact unf_kid f0 (h3 c z hc) hz2 H' y hy
theorem ScI.step {S : Shp} {cs : List PCell} {dk : Nat → Option D} {rs : List Ent} {qu : List (Ent × Nat)} {a l : Nat} {e : Ent} (ok : S.Ok) (hr : ∀ r ∈ rs, ∃ g, Good dk cs S.f S.d r g) (I : ScI S cs dk rs qu a) (ha : qu[a]? = some (e, l)) : ScI S cs dk rs (scQ cs S.d qu e l) (a + 1) := by
  have hm := List.mem_of_getElem? ha
  obtain ⟨hl, g, gd⟩ := I.good _ hm
  have f2 := ok.f2
  have hpre : ∃ r, scQ cs S.d qu e l = qu ++ r := by
    unfold scQ
    split
    · exact putsQ_pre _ _ _
    · exact ⟨[], by simp⟩
  have hin : ∀ x ∈ scQ cs S.d qu e l, x ∈ qu ∨ (l < S.d ∧ x.2 = l + 1 ∧ x.1 ∈ kidsOf cs e.2) := fun x hx => by
    unfold scQ at hx
    split at hx
    · rcases putsQ_mem _ _ _ hx with z | ⟨z1, z2⟩
      · exact .inl z
      · exact .inr ⟨by assumption, z1, z2⟩
    · exact .inl hx
  have hkids : l < S.d → ∀ y ∈ kidsOf cs e.2, y ∈ (scQ cs S.d qu e l).map (·.1) := fun h y hy => by
    unfold scQ
    rw [if_pos h]
    exact putsQ_ents _ _ _ y hy
  obtain ⟨r, hr2⟩ := hpre
  refine ⟨fun x hx => ?_, fun x hx => ?_, fun y hy => ?_, fun j hj e' l' hj2 hl' k hk => ?_⟩
  · rcases hin x hx with z | ⟨z0, z1, z2⟩
    · exact I.good x z
    · rw [z1]
      rw [show S.d - l = (S.d - (l + 1)) + 1 by omega] at gd
      obtain ⟨es, h1, h2, h3⟩ := gd.1
      rw [kids_node h1] at z2
      obtain ⟨c, hc⟩ := List.getElem?_of_mem z2
      exact ⟨by omega, _, gd.kid h1 hc⟩
  · rcases hin x hx with z | ⟨z0, z1, z2⟩
    · exact I.sub x z
    · obtain ⟨y, hy, hy2⟩ := List.mem_flatMap.mp (I.sub _ hm)
      obtain ⟨g', gd'⟩ := hr y hy
      rw [show S.d - l = (S.d - (l + 1)) + 1 by omega] at gd
      exact List.mem_flatMap.mpr ⟨y, hy, unf_kid (by omega) gd'.1 hy2 gd.1 _ z2⟩
  · rw [hr2]; exact pre_ents (I.root y hy)
  · have hjl : j < qu.length := by have := (List.getElem?_eq_some_iff.mp ha).1; omega
    by_cases e1 : j = a
    · subst e1
      rw [hr2, List.getElem?_append_left hjl, ha] at hj2
      cases hj2
      exact hkids hl' k hk
    · rw [hr2, List.getElem?_append_left hjl] at hj2
      rw [hr2]
      exact pre_ents (I.kid j (by omega) e' l' hj2 hl' k hk)
theorem ScI.closed {S : Shp} {cs : List PCell} {dk : Nat → Option D} {rs : List Ent} {qu : List (Ent × Nat)} (ok : S.Ok) (hr : ∀ r ∈ rs, ∃ g, Good dk cs S.f S.d r g) (I : ScI S cs dk rs qu qu.length) : ∀ e, e ∈ qu.map (·.1) ↔ e ∈ allE cs S.d rs := by
  have f2 := ok.f2
  have main : ∀ (h : Nat) (e : Ent) (g : List Nat → List Nat), Holds cs S.f h e.2 g → e ∈ qu.map (·.1) → ∀ x ∈ unf cs h e, x ∈ qu.map (·.1) := by
    intro h
    induction h with
    | zero => intro e g _ he x hx; rw [unf, List.mem_singleton] at hx; rw [hx]; exact he
    | succ h ih =>
      intro e g hh he x hx
      rw [unf] at hx
      rcases List.mem_cons.mp hx with rfl | hx
      · exact he
      · obtain ⟨y, hy, hy2⟩ := List.mem_flatMap.mp hx
        obtain ⟨⟨e', l⟩, hm, e1⟩ := List.mem_map.mp he
        simp only at e1
        subst e1
        obtain ⟨hl, g', gd⟩ := I.good _ hm
        have hh2 := hh.height (by omega) gd.1
        simp only at hh2 hl
        obtain ⟨j, hj⟩ := List.getElem?_of_mem hm
        have hky := I.kid j (List.getElem?_eq_some_iff.mp hj).1 e' l hj (by omega) y hy
        obtain ⟨es, h1, h2, h3⟩ := hh
        rw [kids_node h1] at hy
        obtain ⟨c, hc⟩ := List.getElem?_of_mem hy
        exact ih y _ (h3 c y hc) hky x hy2
  intro e
  constructor
  · intro he
    obtain ⟨x, hx, rfl⟩ := List.mem_map.mp he
    exact I.sub x hx
  · intro he
    obtain ⟨y, hy, hy2⟩ := List.mem_flatMap.mp he
    obtain ⟨g, gd⟩ := hr y hy
    exact main S.d y g gd.1 (I.root y hy) e hy2
theorem ScI.len {S : Shp} {cs : List PCell} {dk : Nat → Option D} {rs : List Ent} {qu : List (Ent × Nat)} {a : Nat} (I : ScI S cs dk rs qu a) (nd : (qu.map (·.1)).Nodup) : qu.length ≤ (allE cs S.d rs).length := by
  have := List.Nodup.length_le_of_subset (l₁ := qu.map (·.1)) (l₂ := allE cs S.d rs) nd fun e he => by
    obtain ⟨x, hx, rfl⟩ := List.mem_map.mp he
    exact I.sub x hx
  simpa using this
theorem allE_len {S : Shp} {cs : List PCell} {dk : Nat → Option D} : ∀ {rs : List Ent}, (∀ r ∈ rs, ∃ g, Good dk cs S.f S.d r g) → (allE cs S.d rs).length = rs.length * cellsN S.f S.d
  | [], _ => by simp [allE]
  | r :: rs, h => by
    obtain ⟨g, gd⟩ := h r List.mem_cons_self
    have ih := allE_len (rs := rs) fun x hx => h x (List.mem_cons_of_mem _ hx)
    unfold allE at ih ⊢
    rw [List.flatMap_cons, List.length_append, ih, gd.1.unf_len, List.length_cons, Nat.succ_mul]
    omega
/-- the number of cells of a tree -/
theorem cells_le : ∀ f ≤ 4, ∀ d ≤ 6, f ^ d ≤ 64 → cellsN f d ≤ 127 := by decide +kernel
/-- a scan in its course; asked: what it has read -/
def ScT (t p s sd q se : Addr) (S : Shp) (cs : List PCell) (dk : Nat → Option D) (rs : List Ent) (n : Nat) (x : String) (r : List D) (ys : List Addr) (asked : List Nat) (G : GH) : Prop :=
  ShAt G p S ∧ SealC G s sd cs ∧ (∀ r ∈ rs, ∃ g, Good dk cs S.f S.d r g) ∧ rs.length ≤ 4 ∧ ∃ (nn : Int) (qu : List (Ent × Nat)) (a : Nat), ScAt G t p s q se (reqD x r) nn qu a ∧ ScI S cs dk rs qu a ∧ asked = (qu.take a).map (fun y => y.1.1) ∧
    ((x = "read" ∧ n + a = (allE cs S.d rs).length ∧ (∃ e l, qu[a]? = some (e, l) ∧ r = [.int e.1]) ∧ ys = [t, q, se, p, s, sd]) ∨
     (x = "done" ∧ n = 0 ∧ a = qu.length ∧ (∃ z zs, r = [.ref z] ∧ G z = some (.lst (intsD zs)) ∧ zs.Pairwise (· < ·) ∧ (∀ b, b ∈ zs ↔ ∃ e ∈ allE cs S.d rs, e.1 = b) ∧ ys = [t, q, se, p, s, sd, z])) ∨
     (x = "refused" ∧ n = 0 ∧ a < qu.length ∧ (∃ e l, qu[a]? = some (e, l) ∧ r = [.int e.1]) ∧ ys = [t, q, se, p, s, sd]))
section
variable {t p s sd q se : Addr} {S : Shp} {cs : List PCell} {dk : Nat → Option D} {rs : List Ent} {n : Nat} {x : String} {r : List D} {ys xs : List Addr} {asked : List Nat} {G G' : GH}
theorem ScT.tk (h : ScT t p s sd q se S cs dk rs n x r ys asked G) : TkAt G t x r .scan := by
  obtain ⟨_, _, _, _, nn, qu, a, sc, _⟩ := h
  exact ⟨_, nn, sc.o, rfl, rfl, by exact (by decide : 7 < 50)⟩
theorem ScT.ys6 (h : ScT t p s sd q se S cs dk rs n x r ys asked G) : ∀ y ∈ [t, q, se, p, s, sd], y ∈ ys := by
  obtain ⟨_, _, _, _, nn, qu, a, sc, _, _, ht⟩ := h
  rcases ht with ⟨_, _, _, rfl⟩ | ⟨_, _, _, z, zs, _, _, _, _, rfl⟩ | ⟨_, _, _, _, rfl⟩
  · exact fun y hy => hy
  · intro y hy
    exact List.mem_append_left (bs := [z]) hy
  · exact fun y hy => hy
theorem ScT.keep (h : ScT t p s sd q se S cs dk rs n x r ys asked G) (k : Keep G G' xs) (hd : ∀ y ∈ ys, y ∉ xs) : ScT t p s sd q se S cs dk rs n x r ys asked G' := by
  have h6 := h.ys6
  have hh := fun y hy => hd y (h6 y hy)
  obtain ⟨h1, h2, h3, h4, nn, qu, a, sc, I, as, ht⟩ := h
  refine ⟨h1.keep k (hh p (by simp)), h2.keep k (hh s (by simp)) (hh sd (by simp)), h3, h4, nn, qu, a, sc.keep k (hh t (by simp)) (hh q (by simp)) (hh se (by simp)), I, as, ?_⟩
  rcases ht with z | ⟨z1, z2, z3, z, zs, z4, z5, z6, z7, z8⟩ | z
  · exact .inl z
  · exact .inr (.inl ⟨z1, z2, z3, z, zs, z4, k _ _ z5 (hd z (by rw [z8]; simp)), z6, z7, z8⟩)
  · exact .inr (.inr z)
theorem ScT.alloc (h : ScT t p s sd q se S cs dk rs n x r ys asked G) : ∀ y ∈ ys, G y ≠ none := by
  obtain ⟨h1, h2, h3, h4, nn, qu, a, sc, I, as, ht⟩ := h
  have h6 : ∀ y ∈ [t, q, se, p, s, sd], G y ≠ none := by
    intro y hy
    simp only [List.mem_cons, List.not_mem_nil, or_false] at hy
    rcases hy with rfl | rfl | rfl | rfl | rfl | rfl
    · rw [sc.o]; exact fun z => nomatch z
    · rw [sc.q]; exact fun z => nomatch z
    · rw [sc.se]; exact fun z => nomatch z
    · rw [h1.1]; exact fun z => nomatch z
    · rw [h2.1]; exact fun z => nomatch z
    · rw [h2.2.1]; exact fun z => nomatch z
  rcases ht with ⟨_, _, _, rfl⟩ | ⟨_, _, _, z, zs, _, hz, _, _, rfl⟩ | ⟨_, _, _, _, rfl⟩
  · exact h6
  · intro y hy
    rcases List.mem_append.mp (show y ∈ [t, q, se, p, s, sd] ++ [z] from hy) with hy | hy
    · exact h6 y hy
    · rw [List.mem_singleton.mp hy, hz]; exact fun z => nomatch z
  · exact h6
theorem ScT.start {e : Ent} {nn : Int} (hs : ShAt G p S) (sl : SealC G s sd cs) (hr : ∀ r ∈ e :: rs, ∃ g, Good dk cs S.f S.d r g) (h4 : (e :: rs).length ≤ 4) (sc : ScAt G t p s q se (readR e.1) nn (putsQ [] 0 (e :: rs)) 0) :
    ScT t p s sd q se S cs dk (e :: rs) (allE cs S.d (e :: rs)).length "read" [.int e.1] [t, q, se, p, s, sd] [] G := by
  refine ⟨hs, sl, hr, h4, nn, _, 0, sc, ScI.start hr, rfl, .inl ⟨rfl, rfl, ⟨e, 0, ?_, rfl⟩, rfl⟩⟩
  obtain ⟨r, hr⟩ := putsQ_pre 0 rs (putQ [] e 0)
  show (putsQ (putQ [] e 0) 0 rs)[0]? = _
  rw [hr]
  rfl
/-- an answer to a scan -/
theorem ScT.ans {m : Gm} {tab : Cl → Option GSp} {v : D} {Q : GQ} (htab : tab .scan = some (sp_scan_go_on m)) (hm : OkC m .scan) (h : ScT t p s sd q se S cs dk rs n x r ys asked G) (hx : x = "read") (pv : Pkd v)
    (k : ∀ b : Nat, r = [.int b] → ∀ G' n' x' r' ys' asked', (dk b = some v → x' ≠ "refused" ∧ asked' = asked ++ [b]) → (dk b ≠ some v → x' = "refused" ∧ r' = r ∧ asked' = asked) → n' < n → ScT t p s sd q se S cs dk rs n' x' r' ys' asked' G' → Keep G G' ys → (∀ y ∈ ys', y ∈ ys ∨ G y = none) → Q .non G') : spAnswer m tab [.ref t, v] G Q := by
  obtain ⟨h1, h2, h3, h4, nn, qu, a, sc, I, as, ht⟩ := h
  rcases ht with ⟨_, hn, ⟨e, l, ha, hr⟩, hys⟩ | ⟨z, _⟩ | ⟨z, _⟩
  rotate_left
  · rw [hx] at z; exact absurd z (by decide)
  · rw [hx] at z; exact absurd z (by decide)
  subst hx hys hr
  have halt := (List.getElem?_eq_some_iff.mp ha).1
  have hqlen := I.len sc.nd
  have hall := allE_len h3
  have hcl := cells_le S.f h1.2.f4 S.d h1.2.d6 h1.2.lv
  have hbig : (allE cs S.d rs).length ≤ 508 := by
    rw [hall]
    exact Nat.le_trans (Nat.mul_le_mul h4 hcl) (by decide)
  obtain ⟨hl, g, gd⟩ := I.good _ (List.mem_of_getElem? ha)
  have ntp : p ≠ t := fun z => by have := h1.1; rw [z, sc.o] at this; cases this
  have nts : s ≠ t := fun z => by have := h2.1; rw [z, sc.o] at this; cases this
  have ntd : sd ≠ t := fun z => by have := h2.2.1; rw [z, sc.o] at this; cases this
  have npq : p ≠ q := fun z => by have := h1.1; rw [z, sc.q] at this; cases this
  have nsq : s ≠ q := fun z => by have := h2.1; rw [z, sc.q] at this; cases this
  have ndq : sd ≠ q := fun z => by have := h2.2.1; rw [z, sc.q] at this; cases this
  have npe : p ≠ se := fun z => by have := h1.1; rw [z, sc.se] at this; cases this
  have nse : s ≠ se := fun z => by have := h2.1; rw [z, sc.se] at this; cases this
  refine ⟨t, v, .scan, _, "read", _, nn, _, rfl, sc.o, rfl, by decide, by decide, rfl, rfl, hm _ (by decide), by exact (by decide : 7 < 100), htab, ?_⟩
  have k1 : Keep G (G.set t (.ins .scan (scF (readR e.1) (nn + 1) p s q se a))) [t] := Keep.put
  have sc1 : ScAt (G.set t (.ins .scan (scF (readR e.1) (nn + 1) p s q se a))) t p s q se (readR e.1) (nn + 1) qu a := sc.put
  have hs1 := h1.keep k1 (by simp [ntp])
  have sl1 := h2.keep k1 (by simp [nts]) (by simp [ntd])
  have kq := k e.1 rfl
  by_cases nde : sd = se
  · -- the sealer's dict holds cells, the scan's holds entries: told apart below
    have z1 := h2.2.1
    rw [nde, sc.se] at z1
    have z2 : keysT (qu.map fun x => entD x.1) = numb 0 (cs.map cellD) := by injection z1 with z1; injection z1
    have z3 : qu.length ≠ 0 := by omega
    exfalso
    obtain ⟨y, r, hy⟩ : ∃ y r, qu = y :: r := by cases qu with | nil => simp at z3 | cons y r => exact ⟨y, r, rfl⟩
    rw [hy] at z2
    cases cs with
    | nil => cases z2
    | cons c cs =>
      have z4 : (entD y.1, D.bl true) = (cellD c, D.int ((0 + 1 : Nat) : Int)) := by injection z2
      injection z4 with _ z5
      cases z5
  refine ⟨t, p, s, q, se, sd, S, _, v, nn + 1, qu, a, l, e, cs, rfl, sc1, ha, hs1, sl1, pv, by omega, fun _ hlt => ?_, fun hk G' sc' kk => ?_, fun hk => ⟨fun y ly hy G' sc' kk => ?_, fun hend z zs G' hz1 hz2 hz3 hz4 sc' kk => ?_⟩⟩
  · rw [show S.d - l = (S.d - (l + 1)) + 1 by omega] at gd
    obtain ⟨es, z1, z2, _⟩ := gd.1
    exact ⟨es, z1, z2⟩
  · have kk2 : Keep G G' [t] := (k1.trans kk).sub (by simp)
    have hnot : dk e.1 ≠ some v := fun z => by have := gd.on.known z; rw [hk] at this; cases this
    refine kq G' 0 "refused" [.int e.1] [t, q, se, p, s, sd] asked (fun z => absurd z hnot) (fun _ => ⟨rfl, rfl, rfl⟩) (by omega) ⟨h1.keep kk2 (by simp [ntp]), h2.keep kk2 (by simp [nts]) (by simp [ntd]), h3, h4, nn + 1, qu, a, sc', I, as, .inr (.inr ⟨rfl, rfl, halt, ⟨e, l, ha, rfl⟩, rfl⟩)⟩ (kk2.sub (by simp)) fun y hy => .inl hy
  all_goals
    have hyes : dk e.1 = some v := (knows_cell gd.on hk).1
    have I2 := ScI.step h1.2 h3 I ha
    have has : asked ++ [e.1] = ((scQ cs S.d qu e l).take (a + 1)).map (fun y => y.1.1) := by
      have hpre : ∃ r, scQ cs S.d qu e l = qu ++ r := by
        unfold scQ
        split
        · exact putsQ_pre _ _ _
        · exact ⟨[], by simp⟩
      obtain ⟨rr, hrr⟩ := hpre
      rw [hrr, List.take_append_of_le_length (by omega), List.take_add_one, ha, as, List.map_append]
      rfl
  · have kk2 : Keep G G' [t, q, se] := (k1.trans kk).sub (by simp)
    have hlen2 := I2.len sc'.nd
    have hlt := (List.getElem?_eq_some_iff.mp hy).1
    exact kq G' (n - 1) "read" [.int y.1] [t, q, se, p, s, sd] (asked ++ [e.1]) (fun _ => ⟨by decide, rfl⟩) (fun z => absurd hyes z) (by omega) ⟨h1.keep kk2 (by simp [ntp, npq, npe]), h2.keep kk2 (by simp [nts, nsq, nse]) (by simp [ntd, ndq, nde]), h3, h4, nn + 1, _, a + 1, sc', I2, has, .inl ⟨rfl, by omega, ⟨y, ly, hy, rfl⟩, rfl⟩⟩ (kk2.sub (by simp)) fun y hy => .inl hy
  · have kk2 : Keep G G' [t, q, se] := (k1.trans kk).sub (by simp)
    have cl := ScI.closed h1.2 h3 (by rw [hend] at I2; exact I2)
    have gz : G z = none := k1.fresh hz4 (by
      simp only [List.mem_singleton]
      intro zt
      rw [zt, set_same] at hz4
      cases hz4)
    refine kq G' 0 "done" [.ref z] [t, q, se, p, s, sd, z] (asked ++ [e.1]) (fun _ => ⟨by decide, rfl⟩) (fun z => absurd hyes z) (by omega) ⟨h1.keep kk2 (by simp [ntp, npq, npe]), h2.keep kk2 (by simp [nts, nsq, nse]) (by simp [ntd, ndq, nde]), h3, h4, nn + 1, _, a + 1, sc', I2, has, .inr (.inl ⟨rfl, rfl, hend, z, zs, rfl, hz3, hz2, fun b => ?_, rfl⟩)⟩ (kk2.sub (by simp)) fun y hy => ?_
    · rw [hz1]
      constructor
      · rintro ⟨w, hw, rfl⟩
        exact ⟨w.1, (cl _).mp (List.mem_map.mpr ⟨w, hw, rfl⟩), rfl⟩
      · rintro ⟨w, hw, rfl⟩
        obtain ⟨u, hu, rfl⟩ := List.mem_map.mp ((cl _).mpr hw)
        exact ⟨u, hu, rfl⟩
    · rcases List.mem_append.mp (show y ∈ [t, q, se, p, s, sd] ++ [z] from hy) with hy | hy
      · exact .inl hy
      · rw [List.mem_singleton.mp hy]; exact .inr gz
end
/-- lists of blocks that rise are told by their members -/
theorem rise_eq {a b : List Nat} (ha : a.Pairwise (· < ·)) (hb : b.Pairwise (· < ·)) (h : ∀ x, x ∈ a ↔ x ∈ b) : a = b := by
  have na : a.Nodup := ha.imp fun h => Nat.ne_of_lt h
  have nb : b.Nodup := hb.imp fun h => Nat.ne_of_lt h
  refine List.Perm.eq_of_pairwise (le := fun x y => x < y) (fun x y _ _ h1 h2 => by omega) ha hb ((List.perm_ext_iff_of_nodup na nb).mpr h)
end Cz

/-! CzBlank: blank volumes as trees; drawn words; comparisons of lists. -/
namespace Cz
open PySem L2
theorem blank_eq (S : Shp) : blankC S = blankN S (S.d + 1) := rfl
theorem blank_cell {S : Shp} {l : Nat} (h : l ≤ S.d) : cellAt (blankC S) (l + 1) = some (blankP S l) := by
  unfold cellAt blankC
  rw [if_neg (by omega), Nat.add_sub_cancel, List.getElem?_map, List.getElem?_range (by omega)]
  rfl
theorem blank_holds {S : Shp} : ∀ {l : Nat}, l ≤ S.d → Holds (blankC S) S.f l (l + 1) fun _ => List.replicate S.w 0
  | 0, h => blank_cell h
  | l + 1, h => by
    refine ⟨List.replicate S.f (l, l + 1), blank_cell h, by simp, fun c e he => ?_⟩
    have := List.mem_of_getElem? he
    rw [List.eq_of_mem_replicate this]
    exact blank_holds (by omega)
theorem blank_unf {S : Shp} (ok : S.Ok) : ∀ {l : Nat}, l ≤ S.d → ∀ x, x ∈ unf (blankC S) l (l, l + 1) ↔ ∃ j, j ≤ l ∧ x = (j, j + 1)
  | 0, _, x => by
    rw [unf, List.mem_singleton]
    constructor
    · intro h; exact ⟨0, Nat.le_refl 0, h⟩
    · rintro ⟨j, hj, rfl⟩; rw [show j = 0 by omega]
  | l + 1, h, x => by
    have f2 := ok.f2
    have ih := blank_unf ok (l := l) (by omega) x
    rw [unf, kids_node (blank_cell h), List.mem_cons, List.mem_flatMap]
    constructor
    · rintro (rfl | ⟨y, hy, hx⟩)
      · exact ⟨l + 1, Nat.le_refl _, rfl⟩
      · rw [List.eq_of_mem_replicate hy] at hx
        obtain ⟨j, hj, e⟩ := ih.mp hx
        exact ⟨j, by omega, e⟩
    · rintro ⟨j, hj, rfl⟩
      by_cases e : j = l + 1
      · subst e; exact .inl rfl
      · refine .inr ⟨(l, l + 1), List.mem_replicate.mpr ⟨by omega, rfl⟩, ih.mpr ⟨j, by omega, rfl⟩⟩
/-- the disk of a blank volume -/
def blankK (S : Shp) (n : Nat) : List (D × D) := (List.range n).map fun l : Nat => (D.int (l : Int), cellD (blankP S l))
theorem blankK_get (S : Shp) (b : Nat) : ∀ n, dget (blankK S n) (.int b) = if b < n then some (cellD (blankP S b)) else none
  | 0 => rfl
  | n + 1 => by
    unfold blankK
    rw [List.range_succ, List.map_append]
    have ih := blankK_get S b n
    unfold blankK at ih
    have h0 : ∀ j, dget ((List.range n).map fun l : Nat => (D.int (l : Int), cellD (blankP S l))) (.int j) = none ∨ True := fun _ => .inr trivial
    have hn : dget ((List.range n).map fun l : Nat => (D.int (l : Int), cellD (blankP S l))) (.int (n : Int)) = none := dget_none_iff.mpr (by
      rw [List.map_map]
      intro z
      obtain ⟨y, hy, e⟩ := List.mem_map.mp z
      rw [List.mem_range] at hy
      simp only [Function.comp, D.int.injEq] at e
      omega)
    rw [List.map_singleton, dget_snoc _ _ _ _ hn, ih]
    by_cases e : b = n
    · subst e; simp
    · rw [if_neg (by simp only [D.int.injEq]; omega)]
      by_cases h : b < n
      · rw [if_pos h, if_pos (by omega)]
      · rw [if_neg h, if_neg (by omega)]
theorem blankK_put (S : Shp) (n : Nat) : dput (blankK S n) (.int n) (cellD (blankP S n)) = blankK S (n + 1) := by
  rw [dput_new (by rw [blankK_get, if_neg (by omega)])]
  unfold blankK
  rw [List.range_succ, List.map_append]
  rfl
theorem blank_good {S : Shp} (ok : S.Ok) {dk : Nat → Option D} (hd : ∀ b, b ≤ S.d → dk b = some (cellD (blankP S b))) : Good dk (blankC S) S.f S.d (S.d, S.d + 1) fun _ => List.replicate S.w 0 :=
  ⟨blank_holds (Nat.le_refl _), fun x hx => by
    obtain ⟨j, hj, rfl⟩ := (blank_unf ok (Nat.le_refl _) x).mp hx
    exact ⟨_, blank_cell hj, hd j hj⟩⟩
/-! ### comparisons -/
theorem eqLL {neg : Bool} {p q : Addr} {ds es : List D} {G : GH} {Q : GQ} (h1 : G p = some (.lst ds)) (h2 : G q = some (.lst es)) (p1 : ∀ d ∈ ds, Pkd d) (p2 : ∀ d ∈ es, Pkd d) (k : Q (.bl (if neg then !decide (ds = es) else decide (ds = es))) G) : gEq neg (.ref p) (.ref q) G Q := by
  refine ⟨.list (pys ds), .list (pys es), ?_, ?_, shaped_lst p1, shaped_lst p2, ?_⟩
  · unfold pyv; simp only [h1]; rw [if_pos (plains_of p1)]
  · unfold pyv; simp only [h2]; rw [if_pos (plains_of p2)]
  · have e : PyData.eqv (.list (pys ds)) (.list (pys es)) = decide (ds = es) := by
      have a1 : pures ds = true := pures_of fun d hd => (p1 d hd).1
      have a2 : pures es = true := pures_of fun d hd => (p2 d hd).1
      have := eqvs_pys ds es a1 a2
      unfold PyData.eqv
      rw [this, beqs_dec]
    rw [e]
    exact k
/-- two pairs of a text and a list -/
theorem eqTL {neg : Bool} {x y : String} {p q : Addr} {ds es : List D} {G : GH} {Q : GQ} (h1 : G p = some (.lst ds)) (h2 : G q = some (.lst es)) (p1 : ∀ d ∈ ds, Pkd d) (p2 : ∀ d ∈ es, Pkd d)
    (k : Q (.bl (if neg then !(decide (x = y) && decide (ds = es)) else (decide (x = y) && decide (ds = es)))) G) : gEq neg (.tup [.str x, .ref p]) (.tup [.str y, .ref q]) G Q := by
  have e1 : pyv G (.ref p) = some (.list (pys ds)) := by unfold pyv; simp only [h1]; rw [if_pos (plains_of p1)]
  have e2 : pyv G (.ref q) = some (.list (pys es)) := by unfold pyv; simp only [h2]; rw [if_pos (plains_of p2)]
  have v : ∀ (z : String) (r : Addr) (l : PyData), pyv G (.ref r) = some l → pyv G (.tup [.str z, .ref r]) = some (.tuple [.str z, l]) := fun z r l h => by
    have hs : pyv G (.str (z : Str)) = some (.str z) := by unfold pyv; rw [if_pos (sOk_of z)]
    unfold pyv
    simp only [pyvs, hs, h]
  have sh : ∀ (z : String) (l : List D), (∀ d ∈ l, Pkd d) → SeqAt.shaped (.tuple [.str z, .list (pys l)]) = true := fun z l h => by
    have a1 := lay_pys l (plains_of h)
    have a2 := depths_of h
    have a3 := sOk_of z
    unfold SeqAt.shaped
    have b1 : (PyData.tuple [.str z, .list (pys l)]).canLay0 = true := by
      have c1 := lay_py (.str z) (show D.plain (.str z) = true from a3)
      have c2 : (PyData.list (pys l)).canLay0 = true := by unfold PyData.canLay0; exact a1
      unfold py at c1
      unfold PyData.canLay0 PyData.canLayAll0 PyData.canLayAll0 PyData.canLayAll0
      rw [c1, c2]
      rfl
    have b2 : (PyData.tuple [.str z, .list (pys l)]).depth ≤ 64 := by
      unfold PyData.depth PyData.depthAll PyData.depthAll PyData.depthAll PyData.depth
      omega
    rw [b1, decide_eq_true b2]
    rfl
  refine ⟨_, _, v x p _ e1, v y q _ e2, sh x ds p1, sh y es p2, ?_⟩
  have e : PyData.eqv (.tuple [.str x, .list (pys ds)]) (.tuple [.str y, .list (pys es)]) = (decide (x = y) && decide (ds = es)) := by
    have a1 : pures ds = true := pures_of fun d hd => (p1 d hd).1
    have a2 : pures es = true := pures_of fun d hd => (p2 d hd).1
    have h1 := eqvs_pys ds es a1 a2
    have h2 := eqv_py (.str x) (.str y) (sOk_of x) (sOk_of y)
    unfold py at h2
    unfold PyData.eqv PyData.eqvAll PyData.eqvAll PyData.eqvAll
    rw [h2, beq_dec, show decide (D.str x = D.str y) = decide (x = y) from decide_eq_decide.mpr ⟨fun z => ofString_inj.mp (by injection z), fun z => by rw [z]⟩]
    unfold PyData.eqv
    rw [h1, beqs_dec, Bool.and_true]
  rw [e]
  exact k
theorem pkd_ints2 {ns : List Nat} : ∀ d ∈ intsD ns, Pkd d := fun d hd => by
  unfold intsD at hd
  obtain ⟨n, _, rfl⟩ := List.mem_map.mp hd
  exact pkd_int _
theorem pkd_tup {ds : List D} (h : ∀ d ∈ ds, d.pure = true ∧ d.key.depth ≤ 7) : Pkd (.tup ds) := ⟨pure_tup fun d hd => (h d hd).1, depth_tup fun d hd => (h d hd).2⟩
/-- the draws -/
def sp_Lwords (m : Gm) : GSp := fun ds G Q => ∃ a c p S, ds = [.ref a, .ref p] ∧ St G a c ∧ ShAt G p S ∧ ∀ r (ws : List Nat) G', G' r = some (.lst (intsD ws)) → ws.length = S.w → St G' a c → Keep G G' [a, c] → G r = none → Q (.ref r) G'
/-- _law_words: 0 state_here, 1 shape_here, 2 k -/
def rd_Lwords (m : Gm) : GS := gRet (gLc (gRng1 (gCons (gFld (gVar 1) .words) (gNil))) (gNm 2) (gYes) (gCall sp_Ldraw (gCons (gVar 0) (gCons (gBin gIx (gLst (gCons (gC (.int 3)) (gCons (gC (.int 256)) (gNil)))) (gCall sp_Ldraw (gCons (gVar 0) (gCons (gC (.int 2)) (gNil))))) (gNil)))) [2])
abbrev N_Lwords : List Str := ["_law_state_here", "_law_shape_here", "_law_k"]

theorem rdp_Lwords (m : Gm) (ds : List D) (G : GH) (Q : GQ) (h : sp_Lwords m ds G Q) : rd_Lwords m (bodyEnds Q) (gstart N_Lwords ds) G := by
  obtain ⟨a, c, p, S, rfl, st, hs, k⟩ := h
  rw [show gstart N_Lwords [.ref a, .ref p] = [some (.ref a), some (.ref p), none] from rfl]
  unfold rd_Lwords
  have w4 := hs.2.w4
  have npa : p ≠ a := fun z => by obtain ⟨_, _, h1, _⟩ := st; have := hs.1; rw [z, h1] at this; cases this
  have npc : p ≠ c := fun z => by obtain ⟨_, _, _, h1, _⟩ := st; have := hs.1; rw [z, h1] at this; cases this
  refine go (i_fldR hs.1 (d := .int S.w) rfl (go ⟨by omega, by omega, fun r hr => ⟨True.intro, ?_⟩⟩))
  have nra := st.nea hr
  have nrc := st.nec hr
  rw [show wipeG [some (D.ref a), some (.ref p), none] [2] = [some (.ref a), some (.ref p), none] from rfl]
  refine i_lcl (fun i acc G2 => ∃ ws : List Nat, acc = intsD ws ∧ ws.length = i ∧ St G2 a c ∧ Keep G G2 [a, c]) ⟨[], rfl, rfl, st.new hr, (Keep.new hr _)⟩ ?_ ?_
  · rintro i d acc G2 hi _ hp ⟨ws, rfl, hl, st2, kk⟩
    have hi1 : i < (S.w : Int).toNat := by
      have := (List.getElem?_eq_some_iff.mp hi).1
      simpa using this
    refine go fun q hq => go (i_draw (st2.new hq) (by decide) (by decide) fun x G3 x0 x1 st3 k3 => go ?_)
    have hq3 : G3 q = some (.lst [.int 3, .int 256]) := k3 _ _ set_same (by simp [st2.nea hq, st2.nec hq])
    obtain ⟨y, hy, hy2⟩ : ∃ y : Int, atI [D.int 3, D.int 256] x = some (.int y) ∧ 0 < y ∧ y ≤ 256 := by
      have : x = 0 ∨ x = 1 := by omega
      rcases this with rfl | rfl
      · exact ⟨3, rfl, by omega⟩
      · exact ⟨256, rfl, by omega⟩
    refine i_ixL hq3 hy (go (i_draw st3 (by omega) (by omega) fun z G4 z0 z1 st4 k4 => ?_))
    have kq : Keep G2 G4 [a, c] := ((Keep.new hq []).trans (k3.same k4)).sub (by simp)
    have hp4 := kq _ _ hp (by simp [nra, nrc])
    have kk4 := kk.same kq
    refine ⟨hp4, ?_, True.intro, ws ++ [z.toNat], ?_, by simp [hl], ?_, ?_⟩
    · rw [intsD_len]
      exact Nat.lt_of_lt_of_le (show ws.length < 10 by omega) (by decide)
    · rw [intsD_app]
      unfold intsD
      rw [List.map_singleton, Int.toNat_of_nonneg z0]
    · exact st4.keep (Keep.put (p := r)) (by simp [nra.symm]) (by simp [nrc.symm])
    · exact fun b o hb nb => by
        rw [set_ne (gne_none hb hr)]
        exact kk4 b o hb nb
  · rintro acc G2 _ hp ⟨ws, rfl, hl, st2, kk⟩
    rw [List.length_map, List.length_range] at hl
    refine go (k r ws G2 hp (by omega) st2 kk hr)
theorem len_Lwords (m : Gm) (ds : List D) (G : GH) (Q : GQ) (h : sp_Lwords m ds G Q) : ds.length = 2 := by obtain ⟨a, c, p, S, rfl, _⟩ := h; rfl
end Cz

/-! k02: the plain law: prefixes, sorted row by row. -/
namespace Cz.K02
open PySem L2 Cz
def zs (a : List Nat) : List Int := a.map fun n : Nat => (n : Int)
theorem zs_inj {a b : List Nat} (h : zs a = zs b) : a = b := by
  unfold zs at h
  exact List.map_inj_right (fun x y e => Int.ofNat.inj e) |>.mp h
theorem py_ints (a : List Nat) : py (.tup (intsD a)) = .tuple ((zs a).map .int) := by
  have e : intsD a = (zs a).map D.int := by unfold intsD zs; rw [List.map_map]; rfl
  rw [e]
  unfold py
  rw [pys_ints]
theorem lt_tup (a b : List Nat) : PySem.W.dataLt (.tuple ((zs a).map .int)) (.tuple ((zs b).map .int)) = decide (zs a < zs b) := PySem.W.dataLt_ints (zs a) (zs b)
theorem le_py (a b : List Nat) : PySem.W.dataLe false py (.tup (intsD a)) (.tup (intsD b)) = decide (zs a ≤ zs b) := by
  rw [PySem.W.dataLe_eq]
  show (!PySem.W.dataLt (py (.tup (intsD b))) (py (.tup (intsD a)))) = _
  rw [py_ints, py_ints, lt_tup]
  by_cases h : zs b < zs a
  · rw [decide_eq_true h, decide_eq_false (fun z => z h)]; rfl
  · rw [decide_eq_false h, decide_eq_true (show zs a ≤ zs b from h)]; rfl
theorem key_ints (a : List Nat) : keyD' true (.tup (intsD a)) = .tuple [.int (-(a.length : Int)), .tuple ((zs a).map .int)] := by
  have := py_ints a
  show PyData.tuple [.int (-((intsD a).length : Int)), py (.tup (intsD a))] = _
  rw [this, intsD_len]
theorem le_key (a b : List Nat) : PySem.W.dataLe false (keyD' true) (.tup (intsD a)) (.tup (intsD b)) = decide (b.length < a.length ∨ (a.length = b.length ∧ zs a ≤ zs b)) := by
  rw [PySem.W.dataLe_eq]
  show (!PySem.W.dataLt (keyD' true (.tup (intsD b))) (keyD' true (.tup (intsD a)))) = _
  rw [key_ints, key_ints, PySem.W.dataLt_pair (by simp [PySem.W.alike]) (by unfold PySem.W.alike; exact PySem.W.alike_ints _ _), PySem.W.dataLt_int, lt_tup]
  have e1 : PyData.eqv (.tuple ((zs b).map .int)) (.tuple ((zs a).map .int)) = decide (b = a) := by
    rw [← py_ints, ← py_ints, eqv_py _ _ (pkd_ints b).1 (pkd_ints a).1, beq_dec]
    by_cases h : b = a
    · rw [h, decide_eq_true rfl, decide_eq_true rfl]
    · rw [decide_eq_false h, decide_eq_false fun z => h (by
        have z2 := py_ints b
        rw [z, py_ints] at z2
        injection z2 with z3
        exact zs_inj (List.map_inj_right (fun x y e => by injection e) |>.mp z3).symm)]
  have e2 : PyData.eqv (.int (-(b.length : Int))) (.int (-(a.length : Int))) = decide (b.length = a.length) := by
    unfold PyData.eqv
    by_cases h : b.length = a.length
    · rw [h]; simp
    · rw [decide_eq_false h]; simp; omega
  rw [e1, e2]
  by_cases h1 : b.length = a.length
  · rw [if_pos (decide_eq_true h1)]
    by_cases h2 : b = a
    · rw [if_pos (decide_eq_true h2), decide_eq_true]
      · rfl
      · exact .inr ⟨h1.symm, by rw [h2]; exact List.le_refl _⟩
    · rw [if_neg (by simp [h2])]
      by_cases h3 : zs b < zs a
      · rw [decide_eq_true h3, decide_eq_false]
        · rfl
        · rintro (z | ⟨_, z⟩)
          · omega
          · exact z h3
      · rw [decide_eq_false h3, decide_eq_true]
        · rfl
        · exact .inr ⟨h1.symm, h3⟩
  · rw [if_neg (by simp [h1])]
    by_cases h2 : (-(b.length : Int)) < -(a.length : Int)
    · rw [decide_eq_true h2, decide_eq_false]
      · rfl
      · rintro (z | ⟨z, _⟩)
        · omega
        · omega
    · rw [decide_eq_false h2, decide_eq_true]
      · rfl
      · exact .inl (by omega)
theorem total_data (k : D → PyData) : PySem.W.TotalLe (PySem.W.dataLe false k) := by unfold PySem.W.dataLe; exact PySem.W.sortLe_total _ _ _
/-- the order of prefixes on ways -/
def Rk (x y : D) : Prop := PySem.W.dataLe false (keyD' true) x y = true
def rowD (f d : Nat) (is : List Nat) (l : Nat) : List D := is.foldl (fun acc i => addT acc (tkD f d i l)) []
def dueD (f d : Nat) (is : List Nat) : Nat → List D
  | 0 => []
  | l + 1 => (rowD f d is l).mergeSort (PySem.W.dataLe false py) ++ dueD f d is l
theorem addT_nodup {ks : List D} {k : D} (h : ks.Nodup) : (addT ks k).Nodup := by
  unfold addT
  split
  · exact h
  · rename_i hn
    exact List.nodup_append.mpr ⟨h, by simp, fun a ha b hb => by rw [List.mem_singleton.mp hb]; exact fun e => hn (e ▸ ha)⟩
theorem mem_addT' {ks : List D} {k x : D} : x ∈ addT ks k ↔ x ∈ ks ∨ x = k := by
  unfold addT
  split
  · constructor
    · exact .inl
    · rintro (h | h)
      · exact h
      · rw [h]; assumption
  · simp
theorem fold_nodup {α : Type} (g : α → D) : ∀ (l : List α) (acc : List D), acc.Nodup → (l.foldl (fun acc i => addT acc (g i)) acc).Nodup
  | [], _, h => h
  | i :: l, acc, h => fold_nodup g l _ (addT_nodup h)
theorem fold_mem {α : Type} (g : α → D) (x : D) : ∀ (l : List α) (acc : List D), x ∈ l.foldl (fun acc i => addT acc (g i)) acc ↔ x ∈ acc ∨ ∃ i ∈ l, x = g i
  | [], _ => by simp
  | i :: l, acc => by
    rw [List.foldl_cons, fold_mem g x l, mem_addT']
    simp only [List.mem_cons, exists_eq_or_imp]
    constructor
    · rintro ((h | h) | h)
      · exact .inl h
      · exact .inr (.inl h)
      · exact .inr (.inr h)
    · rintro (h | h | h)
      · exact .inl (.inl h)
      · exact .inl (.inr h)
      · exact .inr h
theorem row_mem {f d : Nat} {is : List Nat} {l : Nat} {x : D} : x ∈ rowD f d is l ↔ ∃ i ∈ is, x = tkD f d i l := by
  unfold rowD
  rw [fold_mem (fun i => tkD f d i l)]
  simp
theorem found_nodup (f d : Nat) : ∀ (is : List Nat) (acc : List D), acc.Nodup → (is.foldl (fun acc i => (List.range d).foldl (fun acc l => addT acc (tkD f d i l)) acc) acc).Nodup
  | [], _, h => h
  | i :: is, acc, h => found_nodup f d is _ (fold_nodup (fun l => tkD f d i l) _ _ h)
theorem found_mem' (f d : Nat) (x : D) : ∀ (is : List Nat) (acc : List D), x ∈ is.foldl (fun acc i => (List.range d).foldl (fun acc l => addT acc (tkD f d i l)) acc) acc ↔ x ∈ acc ∨ ∃ i ∈ is, ∃ l, l < d ∧ x = tkD f d i l
  | [], _ => by simp
  | i :: is, acc => by
    rw [List.foldl_cons, found_mem' f d x is, fold_mem (fun l => tkD f d i l)]
    simp only [List.mem_cons, exists_eq_or_imp, List.mem_range]
    constructor
    · rintro ((h | h) | h)
      · exact .inl h
      · exact .inr (.inl h)
      · exact .inr (.inr h)
    · rintro (h | h | h)
      · exact .inl (.inl h)
      · exact .inl (.inr h)
      · exact .inr h
theorem found_mem {f d : Nat} {is : List Nat} {x : D} : x ∈ foundD f d is ↔ ∃ i ∈ is, ∃ l, l < d ∧ x = tkD f d i l := by
  unfold foundD
  rw [found_mem' f d x is]
  simp
theorem sort_mem {ks : List D} {le : D → D → Bool} {x : D} : x ∈ ks.mergeSort le ↔ x ∈ ks := (List.mergeSort_perm ks le).mem_iff
theorem due_mem {f d : Nat} {is : List Nat} {x : D} : ∀ {n : Nat}, x ∈ dueD f d is n ↔ ∃ i ∈ is, ∃ l, l < n ∧ x = tkD f d i l
  | 0 => by simp [dueD]
  | n + 1 => by
    rw [dueD, List.mem_append, sort_mem, row_mem, due_mem]
    constructor
    · rintro (⟨i, hi, e⟩ | ⟨i, hi, l, hl, e⟩)
      · exact ⟨i, hi, n, by omega, e⟩
      · exact ⟨i, hi, l, by omega, e⟩
    · rintro ⟨i, hi, l, hl, e⟩
      by_cases h : l = n
      · subst h; exact .inl ⟨i, hi, e⟩
      · exact .inr ⟨i, hi, l, by omega, e⟩
theorem tk_len {f d i l : Nat} (h : l ≤ d) : ((wayN f d i).take l).length = l := by rw [List.length_take, wayN_len]; omega
theorem due_pair {f d : Nat} {is : List Nat} : ∀ {n : Nat}, n ≤ d → (dueD f d is n).Pairwise Rk
  | 0, _ => .nil
  | n + 1, hn => by
    rw [dueD]
    refine List.pairwise_append.mpr ⟨?_, due_pair (by omega), ?_⟩
    · have hp := PySem.W.sort_pairwise (total_data py) (rowD f d is n)
      refine hp.imp_of_mem fun {a b} ha hb h => ?_
      obtain ⟨i, hi, rfl⟩ := row_mem.mp (sort_mem.mp ha)
      obtain ⟨j, hj, rfl⟩ := row_mem.mp (sort_mem.mp hb)
      have h2 : PySem.W.dataLe false py (tkD f d i n) (tkD f d j n) = true := h
      unfold tkD at h2 ⊢
      rw [le_py] at h2
      unfold Rk
      rw [le_key]
      exact decide_eq_true (.inr ⟨by rw [tk_len (by omega), tk_len (by omega)], of_decide_eq_true h2⟩)
    · intro a ha b hb
      obtain ⟨i, hi, rfl⟩ := row_mem.mp (sort_mem.mp ha)
      obtain ⟨j, hj, l, hl, rfl⟩ := due_mem.mp hb
      unfold Rk tkD
      rw [le_key]
      exact decide_eq_true (.inl (by rw [tk_len (by omega), tk_len (by omega)]; exact hl))
theorem due_nodup {f d : Nat} {is : List Nat} : ∀ {n : Nat}, n ≤ d → (dueD f d is n).Nodup
  | 0, _ => List.nodup_nil
  | n + 1, hn => by
    rw [dueD]
    refine List.nodup_append.mpr ⟨((List.mergeSort_perm _ _).nodup_iff).mpr (fold_nodup (fun i => tkD f d i n) _ _ List.nodup_nil), due_nodup (by omega), fun a ha b hb e => ?_⟩
    obtain ⟨i, hi, rfl⟩ := row_mem.mp (sort_mem.mp ha)
    obtain ⟨j, hj, l, hl, rfl⟩ := due_mem.mp hb
    unfold tkD at e
    injection e with e
    have := congrArg List.length e
    rw [intsD_len, intsD_len, tk_len (by omega), tk_len (by omega)] at this
    omega
theorem due_pref (f d : Nat) (is : List Nat) : dueD f d is d = prefD f d is := by
  have hp : (prefD f d is).Pairwise Rk := PySem.W.sort_pairwise (total_data (keyD' true)) (foundD f d is)
  refine List.Perm.eq_of_pairwise (le := Rk) (fun a b ha hb h1 h2 => ?_) (due_pair (Nat.le_refl d)) hp ?_
  · obtain ⟨i, hi, l, hl, rfl⟩ := due_mem.mp ha
    obtain ⟨j, hj, k, hk, rfl⟩ := found_mem.mp (sort_mem.mp hb)
    unfold Rk tkD at h1 h2
    rw [le_key] at h1 h2
    have z1 := of_decide_eq_true h1
    have z2 := of_decide_eq_true h2
    have e : zs ((wayN f d i).take l) = zs ((wayN f d j).take k) := by
      rcases z1 with z1 | ⟨z1, y1⟩
      · rcases z2 with z2 | ⟨z2, y2⟩ <;> omega
      · rcases z2 with z2 | ⟨z2, y2⟩
        · omega
        · exact List.le_antisymm y1 y2
    unfold tkD
    rw [zs_inj e]
  · refine (List.perm_ext_iff_of_nodup (due_nodup (Nat.le_refl d)) (((List.mergeSort_perm _ _).nodup_iff).mpr (found_nodup f d is _ List.nodup_nil))).mpr fun x => ?_
    rw [due_mem, sort_mem]
    exact found_mem.symm
end Cz.K02

/-! CzPlan: what a commit plans; no program in sight. -/
namespace Cz
open PySem L2
abbrev Way := List Nat
def wD (w : Way) : D := .tup (intsD w)
theorem wD_inj {a b : Way} (h : wD a = wD b) : a = b := intsD_inj (by unfold wD at h; injection h)
theorem wD_iff {a b : Way} : wD a = wD b ↔ a = b := ⟨wD_inj, fun h => by rw [h]⟩
structure PSt where
  cs : List PCell
  E : Way → Option Ent
  I : Way → Option (List Ent)
  wr : List (Nat × PCell)
def newE (st : PSt) (c : PCell) (b : Nat) : Ent := (b, markC (addC st.cs c) c)
def place (st : PSt) (w : Way) (c : PCell) (b : Nat) : PSt where
  cs := addC st.cs c
  E := fun v => if v = w then some (newE st c b) else st.E v
  I := fun v => if w ≠ [] ∧ v = w.dropLast then (st.I v).map fun es => es.set (w.getLastD 0) (newE st c b) else st.I v
  wr := st.wr ++ [(b, c)]
def planL (fr : Nat → Nat) : PSt → Nat → List (Way × List Nat) → PSt
  | st, _, [] => st
  | st, k, x :: r => planL fr (place st x.1 (.leaf x.2) (fr k)) (k + 1) r
def planW (fr : Nat → Nat) : PSt → Nat → List Way → PSt
  | st, _, [] => st
  | st, k, w :: r => planW fr (place st w (.node ((st.I w).getD [])) (fr k)) (k + 1) r
theorem planL_snoc (fr : Nat → Nat) (x : Way × List Nat) : ∀ (l : List (Way × List Nat)) (st : PSt) (k : Nat), planL fr st k (l ++ [x]) = place (planL fr st k l) x.1 (.leaf x.2) (fr (k + l.length))
  | [], st, k => rfl
  | y :: l, st, k => by
    rw [List.cons_append, planL, planL, planL_snoc fr x l, List.length_cons, show k + 1 + l.length = k + (l.length + 1) by omega]
theorem planW_snoc (fr : Nat → Nat) (w : Way) : ∀ (l : List Way) (st : PSt) (k : Nat), planW fr st k (l ++ [w]) = place (planW fr st k l) w (.node (((planW fr st k l).I w).getD [])) (fr (k + l.length))
  | [], st, k => rfl
  | y :: l, st, k => by
    rw [List.cons_append, planW, planW, planW_snoc fr w l, List.length_cons, show k + 1 + l.length = k + (l.length + 1) by omega]
section
variable (f d : Nat) (cs0 : List PCell) (root : Ent)
/-- an entry that is good in the new state -/
def NG (st : PSt) (h : Nat) (e : Ent) (g : Way → List Nat) : Prop := Holds st.cs f h e.2 g ∧ ∀ x ∈ unf st.cs h e, x ∈ unf cs0 d root ∨ ∃ c, (x.1, c) ∈ st.wr ∧ cellAt st.cs x.2 = some c
structure PI (T : Way → Prop) (g' : Way → List Nat) (done : List Way) (st : PSt) : Prop where
  pre : Pre cs0 st.cs
  nd : st.cs.Nodup
  sub : ∀ w ∈ done, T w
  fin : ∀ w ∈ done, ∃ e, st.E w = some e ∧ NG f d cs0 root st (d - w.length) e fun v => g' (w ++ v)
  inn : ∀ w, T w → w.length < d → ∃ es, st.I w = some es ∧ es.length = f ∧ ∀ c, c < f → (w ++ [c] ∈ done → es[c]? = st.E (w ++ [c])) ∧ (w ++ [c] ∉ done → es[c]? = some (pathE cs0 root (w ++ [c])))
end
section
variable {f d : Nat} {cs0 : List PCell} {root : Ent}
theorem NG.mono {st st' : PSt} {h : Nat} {e : Ent} {g : Way → List Nat} (n : NG f d cs0 root st h e g) (p : Pre st.cs st'.cs) (hw : ∀ x ∈ st.wr, x ∈ st'.wr) : NG f d cs0 root st' h e g := by
  refine ⟨n.1.pre p, fun x hx => ?_⟩
  rw [n.1.unf_pre p] at hx
  rcases n.2 x hx with z | ⟨c, h1, h2⟩
  · exact .inl z
  · exact .inr ⟨c, hw _ h1, p.cell h2⟩
theorem place_pre (st : PSt) (w : Way) (c : PCell) (b : Nat) : Pre st.cs (place st w c b).cs := pre_addC _ _
theorem place_cell (st : PSt) (w : Way) (c : PCell) (b : Nat) : cellAt (place st w c b).cs (newE st c b).2 = some c := cellAt_mark _ _
theorem getLastD_snoc (p : Way) (c : Nat) : (p ++ [c]).getLastD 0 = c := by simp [List.getLastD_eq_getLast?]
theorem PI.place {T : Way → Prop} {g' : Way → List Nat} {done : List Way} {st : PSt} (I : PI f d cs0 root T g' done st) {w : Way} {c : PCell} {b : Nat} (hT : T w) (hn : w ∉ done) (hl : w.length ≤ d) (hwf : ∀ x ∈ w, x < f)
    (hg : NG f d cs0 root (place st w c b) (d - w.length) (newE st c b) fun v => g' (w ++ v)) : PI f d cs0 root T g' (w :: done) (place st w c b) where
  pre := I.pre.trans (place_pre _ _ _ _)
  nd := addC_nodup _ I.nd
  sub := fun v hv => by
    rcases List.mem_cons.mp hv with rfl | hv
    · exact hT
    · exact I.sub v hv
  fin := fun v hv => by
    rcases List.mem_cons.mp hv with rfl | hv
    · exact ⟨_, if_pos rfl, hg⟩
    · have hne : v ≠ w := fun z => hn (z ▸ hv)
      obtain ⟨e, h1, h2⟩ := I.fin v hv
      exact ⟨e, (if_neg hne).trans h1, h2.mono (place_pre _ _ _ _) fun x hx => List.mem_append_left _ hx⟩
  inn := fun v hv hvl => by
    obtain ⟨es, h1, h2, h3⟩ := I.inn v hv hvl
    by_cases hp : w ≠ [] ∧ v = w.dropLast
    · obtain ⟨hw0, rfl⟩ := hp
      obtain ⟨p, c0, rfl⟩ : ∃ p c0, w = p ++ [c0] := ⟨w.dropLast, w.getLast hw0, (List.dropLast_concat_getLast hw0).symm⟩
      rw [List.dropLast_concat] at h1 h3 hv hvl ⊢
      have hc0 : c0 < f := hwf c0 (by simp)
      refine ⟨es.set c0 (newE st c b), ?_, by rw [List.length_set]; exact h2, fun k hk => ?_⟩
      · show (if p ++ [c0] ≠ [] ∧ p = (p ++ [c0]).dropLast then _ else _) = _
        rw [if_pos ⟨by simp, by rw [List.dropLast_concat]⟩, h1, getLastD_snoc]
        rfl
      · obtain ⟨h4, h5⟩ := h3 k hk
        by_cases e : k = c0
        · subst e
          refine ⟨fun _ => ?_, fun z => absurd List.mem_cons_self z⟩
          rw [List.getElem?_set_self (by omega)]
          exact (if_pos rfl).symm
        · have hne : p ++ [k] ≠ p ++ [c0] := fun z => e (by simpa using z)
          rw [List.getElem?_set_ne (fun z => e z.symm)]
          refine ⟨fun z => ?_, fun z => h5 fun y => z (List.mem_cons_of_mem _ y)⟩
          rcases List.mem_cons.mp z with z | z
          · exact absurd z hne
          · exact (h4 z).trans (if_neg hne).symm
    · refine ⟨es, (if_neg hp).trans h1, h2, fun k hk => ?_⟩
      obtain ⟨h4, h5⟩ := h3 k hk
      have hne : v ++ [k] ≠ w := fun z => hp ⟨by rw [← z]; simp, by rw [← z, List.dropLast_concat]⟩
      refine ⟨fun z => ?_, fun z => h5 fun y => z (List.mem_cons_of_mem _ y)⟩
      rcases List.mem_cons.mp z with z | z
      · exact absurd z hne
      · exact (h4 z).trans (if_neg hne).symm
/-- a changed leaf -/
theorem NG.leaf {st : PSt} {w : Way} {ws : List Nat} {b : Nat} {g : Way → List Nat} (h : g [] = ws) : NG f d cs0 root (place st w (.leaf ws) b) 0 (newE st (.leaf ws) b) g := by
  have hc := place_cell st w (.leaf ws) b
  refine ⟨by rw [Holds, h]; exact hc, fun x hx => ?_⟩
  rw [unf, List.mem_singleton] at hx
  subst hx
  exact .inr ⟨_, by show (b, _) ∈ st.wr ++ [(b, PCell.leaf ws)]; simp, hc⟩
/-- an inner cell above changed leaves -/
theorem NG.node {T : Way → Prop} {g g' : Way → List Nat} {done : List Way} {st : PSt} (I : PI f d cs0 root T g' done st) (H0 : Holds cs0 f d root.2 g) (hU : ∀ w, ¬ T w → ∀ v, g' (w ++ v) = g (w ++ v)) {w : Way} {b : Nat} (hT : T w) (hl : w.length < d) (hwf : ∀ x ∈ w, x < f)
    (hk : ∀ c, c < f → T (w ++ [c]) → w ++ [c] ∈ done) : NG f d cs0 root (place st w (.node ((st.I w).getD [])) b) (d - w.length) (newE st (.node ((st.I w).getD [])) b) fun v => g' (w ++ v) := by
  obtain ⟨es, h1, h2, h3⟩ := I.inn w hT hl
  rw [h1, Option.getD_some]
  have hc := place_cell st w (.node es) b
  have hpre := place_pre st w (.node es) b
  -- each child
  have kid : ∀ c e, es[c]? = some e → NG f d cs0 root (place st w (.node es) b) (d - w.length - 1) e fun v => g' (w ++ c :: v) := fun c e he => by
    have hcf : c < f := by rw [← h2]; exact (List.getElem?_eq_some_iff.mp he).1
    obtain ⟨h4, h5⟩ := h3 c hcf
    have eg : (fun v => g' (w ++ c :: v)) = fun v => g' (w ++ [c] ++ v) := by funext v; rw [List.append_assoc]; rfl
    rw [eg]
    by_cases ht : T (w ++ [c])
    · have hd := hk c hcf ht
      obtain ⟨e2, h6, h7⟩ := I.fin _ hd
      rw [h4 hd, h6] at he
      cases he
      rw [List.length_append, List.length_singleton, show d - (w.length + 1) = d - w.length - 1 by omega] at h7
      exact h7.mono hpre fun x hx => List.mem_append_left _ hx
    · have hnd : w ++ [c] ∉ done := fun z => ht (I.sub _ z)
      rw [h5 hnd] at he
      cases he
      have eg2 : (fun v => g' (w ++ [c] ++ v)) = fun v => g (w ++ [c] ++ v) := by funext v; exact hU _ ht v
      rw [eg2]
      -- the old tree at w ++ [c]
      have old : ∀ (ws : Way) (h : Nat) (r : Ent) (gg : Way → List Nat), Holds cs0 f h r.2 gg → ws.length ≤ h → (∀ x ∈ ws, x < f) → Holds cs0 f (h - ws.length) (pathE cs0 r ws).2 (fun v => gg (ws ++ v)) ∧ ∀ x ∈ unf cs0 (h - ws.length) (pathE cs0 r ws), x ∈ unf cs0 h r := by
        intro ws
        induction ws with
        | nil => intro h r gg hh _ _; exact ⟨hh, fun x hx => hx⟩
        | cons k ws ih =>
          intro h r gg hh hle hlt
          cases h with
          | zero => simp at hle
          | succ h =>
            obtain ⟨es', z1, z2, z3⟩ := hh
            have hki : k < es'.length := by rw [z2]; exact hlt k List.mem_cons_self
            have hxk : es'[k]? = some es'[k] := List.getElem?_eq_getElem hki
            have hs : stepE cs0 r k = es'[k] := by unfold stepE; rw [kids_node z1, hxk]; rfl
            obtain ⟨i1, i2⟩ := ih h (stepE cs0 r k) (fun v => gg (k :: v)) (by rw [hs]; exact z3 k _ hxk) (by simpa using hle) fun x hx => hlt x (List.mem_cons_of_mem _ hx)
            rw [List.length_cons, show h + 1 - (ws.length + 1) = h - ws.length by omega]
            refine ⟨i1, fun x hx => ?_⟩
            rw [unf, kids_node z1]
            exact List.mem_cons_of_mem _ (List.mem_flatMap.mpr ⟨stepE cs0 r k, by rw [hs]; exact List.mem_of_getElem? hxk, i2 x hx⟩)
      obtain ⟨o1, o2⟩ := old (w ++ [c]) d root g H0 (by rw [List.length_append, List.length_singleton]; omega) fun x hx => by
        rcases List.mem_append.mp hx with z | z
        · exact hwf x z
        · rw [List.mem_singleton.mp z]; exact hcf
      rw [List.length_append, List.length_singleton, show d - (w.length + 1) = d - w.length - 1 by omega] at o1 o2
      have pr : Pre cs0 (place st w (.node es) b).cs := I.pre.trans hpre
      refine ⟨o1.pre pr, fun x hx => ?_⟩
      rw [o1.unf_pre pr] at hx
      exact .inl (o2 x hx)
  rw [show d - w.length = (d - w.length - 1) + 1 by omega]
  refine ⟨⟨es, hc, h2, fun c e he => (kid c e he).1⟩, fun x hx => ?_⟩
  rw [unf, kids_node hc] at hx
  rcases List.mem_cons.mp hx with rfl | hx
  · exact .inr ⟨_, by show (b, _) ∈ st.wr ++ [(b, PCell.node es)]; simp, hc⟩
  · obtain ⟨y, hy, hy2⟩ := List.mem_flatMap.mp hx
    obtain ⟨c, hc2⟩ := List.getElem?_of_mem hy
    exact (kid c y hc2).2 x hy2
/-- the leaves' turn -/
theorem PI.planL {T : Way → Prop} {g' : Way → List Nat} {fr : Nat → Nat} : ∀ {lv : List (Way × List Nat)} {done : List Way} {st : PSt} {k : Nat}, PI f d cs0 root T g' done st → (∀ x ∈ lv, T x.1 ∧ x.1.length = d ∧ (∀ y ∈ x.1, y < f) ∧ g' x.1 = x.2) → (lv.map (·.1)).Nodup → (∀ x ∈ lv, x.1 ∉ done) →
    PI f d cs0 root T g' ((lv.map (·.1)).reverse ++ done) (planL fr st k lv)
  | [], _, _, _, I, _, _, _ => I
  | x :: lv, done, st, k, I, h, nd, hd => by
    obtain ⟨h1, h2, h3, h4⟩ := h x List.mem_cons_self
    rw [List.map_cons, List.nodup_cons] at nd
    have I2 := I.place (c := .leaf x.2) (b := fr k) h1 (hd x List.mem_cons_self) (by omega) h3 (by rw [h2, Nat.sub_self]; exact NG.leaf (by rw [List.append_nil]; exact h4))
    have := I2.planL (lv := lv) (k := k + 1) (fr := fr) (fun y hy => h y (List.mem_cons_of_mem _ hy)) nd.2 fun y hy z => by
      rcases List.mem_cons.mp z with z | z
      · exact nd.1 (List.mem_map.mpr ⟨y, hy, z⟩)
      · exact hd y (List.mem_cons_of_mem _ hy) z
    rw [List.map_cons, List.reverse_cons, List.append_assoc]
    exact this
/-- the inner cells' turn, longer ways first -/
theorem PI.planW {T : Way → Prop} {g g' : Way → List Nat} {fr : Nat → Nat} (H0 : Holds cs0 f d root.2 g) (hU : ∀ w, ¬ T w → ∀ v, g' (w ++ v) = g (w ++ v)) :
    ∀ {ws : List Way} {done : List Way} {st : PSt} {k : Nat}, PI f d cs0 root T g' done st → (∀ w ∈ ws, T w ∧ w.length < d ∧ ∀ y ∈ w, y < f) → ws.Nodup → (∀ w ∈ ws, w ∉ done) → (ws.Pairwise fun a b => b.length ≤ a.length) → (∀ w ∈ ws, ∀ c, c < f → T (w ++ [c]) → w ++ [c] ∈ done ∨ w ++ [c] ∈ ws) →
    PI f d cs0 root T g' (ws.reverse ++ done) (planW fr st k ws)
  | [], _, _, _, I, _, _, _, _, _ => I
  | w :: ws, done, st, k, I, h, nd, hd, pw, hk => by
    obtain ⟨h1, h2, h3⟩ := h w List.mem_cons_self
    rw [List.nodup_cons] at nd
    rw [List.pairwise_cons] at pw
    have I2 := I.place (c := .node ((st.I w).getD [])) (b := fr k) h1 (hd w List.mem_cons_self) (by omega) h3 (NG.node I H0 hU h1 h2 h3 fun c hc ht => by
      rcases hk w List.mem_cons_self c hc ht with z | z
      · exact z
      · exfalso
        rcases List.mem_cons.mp z with z | z
        · have := congrArg List.length z; rw [List.length_append, List.length_singleton] at this; omega
        · have := pw.1 _ z; rw [List.length_append, List.length_singleton] at this; omega)
    have := I2.planW H0 hU (ws := ws) (k := k + 1) (fr := fr) (fun y hy => h y (List.mem_cons_of_mem _ hy)) nd.2 (fun y hy z => by
      rcases List.mem_cons.mp z with z | z
      · exact nd.1 (z ▸ hy)
      · exact hd y (List.mem_cons_of_mem _ hy) z) pw.2 fun y hy c hc ht => by
      rcases hk y (List.mem_cons_of_mem _ hy) c hc ht with z | z
      · exact .inl (List.mem_cons_of_mem _ z)
      · rcases List.mem_cons.mp z with z | z
        · exact .inl (by rw [z]; exact List.mem_cons_self)
        · exact .inr z
    rw [List.reverse_cons, List.append_assoc]
    exact this
end
/-! ### the blocks that are written -/
theorem planL_wr (fr : Nat → Nat) : ∀ (lv : List (Way × List Nat)) (st : PSt) (k : Nat), (planL fr st k lv).wr.map (·.1) = st.wr.map (·.1) ++ (List.range lv.length).map fun j => fr (k + j)
  | [], st, k => by simp [planL]
  | x :: lv, st, k => by
    rw [planL, planL_wr fr lv, List.length_cons, List.range_succ_eq_map, List.map_cons, List.map_map]
    show List.map (fun y : Nat × PCell => y.1) (st.wr ++ [(fr k, PCell.leaf x.2)]) ++ _ = _
    rw [List.map_append, List.append_assoc]
    congr 1
    show fr k :: _ = fr (k + 0) :: _
    rw [Nat.add_zero]
    congr 1
    refine List.map_congr_left fun j _ => ?_
    show fr (k + 1 + j) = fr (k + (j + 1))
    congr 1
    omega
theorem planW_wr (fr : Nat → Nat) : ∀ (ws : List Way) (st : PSt) (k : Nat), (planW fr st k ws).wr.map (·.1) = st.wr.map (·.1) ++ (List.range ws.length).map fun j => fr (k + j)
  | [], st, k => by simp [planW]
  | w :: ws, st, k => by
    rw [planW, planW_wr fr ws, List.length_cons, List.range_succ_eq_map, List.map_cons, List.map_map]
    show List.map (fun y : Nat × PCell => y.1) (st.wr ++ [(fr k, PCell.node ((st.I w).getD []))]) ++ _ = _
    rw [List.map_append, List.append_assoc]
    congr 1
    show fr k :: _ = fr (k + 0) :: _
    rw [Nat.add_zero]
    congr 1
    refine List.map_congr_left fun j _ => ?_
    show fr (k + 1 + j) = fr (k + (j + 1))
    congr 1
    omega
theorem addC_len (cs : List PCell) (c : PCell) : (addC cs c).length ≤ cs.length + 1 := by unfold addC; split <;> simp
theorem planL_len (fr : Nat → Nat) : ∀ (lv : List (Way × List Nat)) (st : PSt) (k : Nat), (planL fr st k lv).cs.length ≤ st.cs.length + lv.length
  | [], st, k => Nat.le_refl _
  | x :: lv, st, k => by
    have h1 := planL_len fr lv (place st x.1 (.leaf x.2) (fr k)) (k + 1)
    have h2 := addC_len st.cs (.leaf x.2)
    have h3 : (place st x.1 (.leaf x.2) (fr k)).cs = addC st.cs (.leaf x.2) := rfl
    rw [h3] at h1
    rw [planL, List.length_cons]
    omega
theorem planW_len (fr : Nat → Nat) : ∀ (ws : List Way) (st : PSt) (k : Nat), (planW fr st k ws).cs.length ≤ st.cs.length + ws.length
  | [], st, k => Nat.le_refl _
  | w :: ws, st, k => by
    have h1 := planW_len fr ws (place st w (.node ((st.I w).getD [])) (fr k)) (k + 1)
    have h2 := addC_len st.cs (.node ((st.I w).getD []))
    have h3 : (place st w (.node ((st.I w).getD [])) (fr k)).cs = addC st.cs (.node ((st.I w).getD [])) := rfl
    rw [h3] at h1
    rw [planW, List.length_cons]
    omega
end Cz

/-! CzWays: the inner ways in their two orders; what a commit changes. -/
namespace Cz
open PySem L2 Cz.K02
def unI : D → Nat
  | .int i => i.toNat
  | _ => 0
def unW : D → Way
  | .tup ds => ds.map unI
  | _ => []
theorem unW_wD (w : Way) : unW (wD w) = w := by
  show (List.map (fun n : Nat => D.int (n : Int)) w).map unI = w
  rw [List.map_map]
  have : (unI ∘ fun n : Nat => D.int (n : Int)) = id := by funext n; simp [unI]
  rw [this, List.map_id]
def srt (ns : List Nat) : List Nat := ns.mergeSort fun a b => decide (a ≤ b)
theorem srt_perm (ns : List Nat) : (srt ns).Perm ns := List.mergeSort_perm _ _
theorem srt_mem {ns : List Nat} {x : Nat} : x ∈ srt ns ↔ x ∈ ns := (srt_perm ns).mem_iff
theorem srt_len (ns : List Nat) : (srt ns).length = ns.length := (srt_perm ns).length_eq
theorem srt_nodup {ns : List Nat} (h : ns.Nodup) : (srt ns).Nodup := (srt_perm ns).nodup_iff.mpr h
theorem srt_le (ns : List Nat) : (srt ns).Pairwise (· ≤ ·) := by
  have sp := List.pairwise_mergeSort (le := fun a b : Nat => decide (a ≤ b)) (fun a b c h1 h2 => by simp at *; omega) (fun a b => by simp; omega) ns
  exact sp.imp fun h => of_decide_eq_true h
theorem srt_lt {ns : List Nat} (h : ns.Nodup) : (srt ns).Pairwise (· < ·) := by
  have h1 := srt_le ns
  have h2 := srt_nodup h
  have : ∀ {l : List Nat}, l.Pairwise (· ≤ ·) → l.Nodup → l.Pairwise (· < ·) := by
    intro l
    induction l with
    | nil => intro _ _; exact .nil
    | cons x l ih =>
      intro p n
      rw [List.pairwise_cons] at p
      rw [List.nodup_cons] at n
      exact List.pairwise_cons.mpr ⟨fun y hy => by
        have := p.1 y hy
        have : x ≠ y := fun z => n.1 (z ▸ hy)
        omega, ih p.2 n.2⟩
  exact this h1 h2
theorem sortD (ns : List Nat) : (intsD ns).mergeSort (PySem.W.dataLe false py) = intsD (srt ns) := by
  have e : ∀ ns : List Nat, intsD ns = (ns.map fun n : Nat => (n : Int)).map D.int := fun ns => by unfold intsD; rw [List.map_map]; rfl
  rw [e, leInts, e]
  congr 1
  symm
  unfold srt
  refine List.map_mergeSort (r := fun a b : Nat => decide (a ≤ b)) (s := fun a b : Int => decide (a ≤ b)) (f := fun n : Nat => (n : Int)) fun a _ b _ => ?_
  exact decide_eq_decide.mpr (by omega)
def prefW (f d : Nat) (is : List Nat) : List Way := (prefD f d is).map unW
def ordD (f d : Nat) (is : List Nat) : List D := (prefD f d is).mergeSort (PySem.W.dataLe false (keyD' false))
def ordW (f d : Nat) (is : List Nat) : List Way := (ordD f d is).map unW
theorem pref_mem' {f d : Nat} {is : List Nat} {x : D} : x ∈ prefD f d is ↔ ∃ i ∈ is, ∃ l, l < d ∧ x = wD ((wayN f d i).take l) := by
  unfold prefD
  rw [sort_mem]
  exact found_mem
theorem map_un {l : List D} (h : ∀ x ∈ l, ∃ w, x = wD w) : (l.map unW).map wD = l := by
  rw [List.map_map]
  have : ∀ x ∈ l, (wD ∘ unW) x = x := fun x hx => by
    obtain ⟨w, rfl⟩ := h x hx
    show wD (unW (wD w)) = wD w
    rw [unW_wD]
  rw [List.map_congr_left this, List.map_id']
theorem prefD_map (f d : Nat) (is : List Nat) : prefD f d is = (prefW f d is).map wD := (map_un fun x hx => by
  obtain ⟨i, _, l, _, e⟩ := pref_mem'.mp hx
  exact ⟨_, e⟩).symm
theorem ordD_map (f d : Nat) (is : List Nat) : ordD f d is = (ordW f d is).map wD := (map_un fun x hx => by
  unfold ordD at hx
  rw [sort_mem] at hx
  obtain ⟨i, _, l, _, e⟩ := pref_mem'.mp hx
  exact ⟨_, e⟩).symm
theorem mem_prefW {f d : Nat} {is : List Nat} {w : Way} : w ∈ prefW f d is ↔ ∃ i ∈ is, ∃ l, l < d ∧ w = (wayN f d i).take l := by
  unfold prefW
  rw [List.mem_map]
  constructor
  · rintro ⟨x, hx, rfl⟩
    obtain ⟨i, hi, l, hl, e⟩ := pref_mem'.mp hx
    exact ⟨i, hi, l, hl, by rw [e, unW_wD]⟩
  · rintro ⟨i, hi, l, hl, rfl⟩
    exact ⟨_, pref_mem'.mpr ⟨i, hi, l, hl, rfl⟩, unW_wD _⟩
theorem prefD_nodup (f d : Nat) (is : List Nat) : (prefD f d is).Nodup := ((List.mergeSort_perm _ _).nodup_iff).mpr (found_nodup f d is _ List.nodup_nil)
theorem nodup_un {l : List D} (h : ∀ x ∈ l, ∃ w, x = wD w) (nd : l.Nodup) : (l.map unW).Nodup := by
  rw [← map_un h] at nd
  exact List.Pairwise.of_map wD (fun a b z e => z (by rw [e])) nd
theorem prefW_nodup (f d : Nat) (is : List Nat) : (prefW f d is).Nodup := nodup_un (fun x hx => by
  obtain ⟨i, _, l, _, e⟩ := pref_mem'.mp hx
  exact ⟨_, e⟩) (prefD_nodup f d is)
theorem ordW_perm (f d : Nat) (is : List Nat) : (ordW f d is).Perm (prefW f d is) := (List.mergeSort_perm _ _).map unW
theorem ordW_nodup (f d : Nat) (is : List Nat) : (ordW f d is).Nodup := (ordW_perm f d is).nodup_iff.mpr (prefW_nodup f d is)
theorem mem_ordW {f d : Nat} {is : List Nat} {w : Way} : w ∈ ordW f d is ↔ ∃ i ∈ is, ∃ l, l < d ∧ w = (wayN f d i).take l := (ordW_perm f d is).mem_iff.trans mem_prefW
theorem le_keyF (a b : List Nat) : PySem.W.dataLe false (keyD' false) (wD a) (wD b) = decide (a.length < b.length ∨ (a.length = b.length ∧ zs a ≤ zs b)) := by
  have key : ∀ a : List Nat, keyD' false (wD a) = .tuple [.int (a.length : Int), .tuple ((zs a).map .int)] := fun a => by
    have := py_ints a
    show PyData.tuple [.int ((intsD a).length : Int), py (.tup (intsD a))] = _
    rw [this, intsD_len]
  rw [PySem.W.dataLe_eq]
  show (!PySem.W.dataLt (keyD' false (wD b)) (keyD' false (wD a))) = _
  rw [key, key, PySem.W.dataLt_pair (by simp [PySem.W.alike]) (by unfold PySem.W.alike; exact PySem.W.alike_ints _ _), PySem.W.dataLt_int, lt_tup]
  have e1 : PyData.eqv (.tuple ((zs b).map .int)) (.tuple ((zs a).map .int)) = decide (b = a) := by
    rw [← py_ints, ← py_ints, eqv_py _ _ (pkd_ints b).1 (pkd_ints a).1, beq_dec]
    by_cases h : b = a
    · rw [h, decide_eq_true rfl, decide_eq_true rfl]
    · rw [decide_eq_false h, decide_eq_false fun z => h (intsD_inj (by injection z))]
  have e2 : PyData.eqv (.int (b.length : Int)) (.int (a.length : Int)) = decide (b.length = a.length) := by
    unfold PyData.eqv
    by_cases h : b.length = a.length
    · rw [h]; simp
    · rw [decide_eq_false h]; simp; omega
  rw [e1, e2]
  by_cases h1 : b.length = a.length
  · rw [if_pos (decide_eq_true h1)]
    by_cases h2 : b = a
    · rw [if_pos (decide_eq_true h2), decide_eq_true]
      · rfl
      · exact .inr ⟨h1.symm, by rw [h2]; exact List.le_refl _⟩
    · rw [if_neg (by simp [h2])]
      by_cases h3 : zs b < zs a
      · rw [decide_eq_true h3, decide_eq_false]
        · rfl
        · rintro (z | ⟨_, z⟩)
          · omega
          · exact z h3
      · rw [decide_eq_false h3, decide_eq_true]
        · rfl
        · exact .inr ⟨h1.symm, h3⟩
  · rw [if_neg (by simp [h1])]
    by_cases h2 : (b.length : Int) < (a.length : Int)
    · rw [decide_eq_true h2, decide_eq_false]
      · rfl
      · rintro (z | ⟨z, _⟩)
        · omega
        · omega
    · rw [decide_eq_false h2, decide_eq_true]
      · rfl
      · exact .inl (by omega)
theorem prefW_pair (f d : Nat) (is : List Nat) : (prefW f d is).Pairwise fun a b => b.length < a.length ∨ (a.length = b.length ∧ zs a ≤ zs b) := by
  have hp : (prefD f d is).Pairwise Rk := PySem.W.sort_pairwise (total_data (keyD' true)) (foundD f d is)
  rw [prefD_map, List.pairwise_map] at hp
  exact hp.imp fun {a b} h => by
    have h2 : PySem.W.dataLe false (keyD' true) (.tup (intsD a)) (.tup (intsD b)) = true := h
    rw [le_key] at h2
    exact of_decide_eq_true h2
theorem ordW_pair (f d : Nat) (is : List Nat) : (ordW f d is).Pairwise fun a b => a.length < b.length ∨ (a.length = b.length ∧ zs a ≤ zs b) := by
  have hp := PySem.W.sort_pairwise (total_data (keyD' false)) (prefD f d is)
  have e : (prefD f d is).mergeSort (PySem.W.dataLe false (keyD' false)) = (ordW f d is).map wD := ordD_map f d is
  rw [e, List.pairwise_map] at hp
  exact hp.imp fun {a b} h => by
    rw [le_keyF] at h
    exact of_decide_eq_true h
/-! ### the ways and their leaves -/
theorem wayN_inj {f : Nat} (f0 : 0 < f) : ∀ {k i j : Nat}, i < f ^ k → j < f ^ k → wayN f k i = wayN f k j → i = j
  | 0, i, j, hi, hj, _ => by simp at hi hj; omega
  | k + 1, i, j, hi, hj, h => by
    rw [wayN, wayN] at h
    have h1 := List.append_inj' h rfl
    have e1 : i % f = j % f := by simpa using h1.2
    rw [Nat.pow_succ] at hi hj
    have e2 := wayN_inj f0 (Nat.div_lt_of_lt_mul (by rw [Nat.mul_comm]; exact hi)) (Nat.div_lt_of_lt_mul (by rw [Nat.mul_comm]; exact hj)) h1.1
    have a := Nat.div_add_mod i f
    have b := Nat.div_add_mod j f
    rw [e2] at a
    omega
/-- the ways that a change of these leaves touches -/
def Tch (f d : Nat) (is : List Nat) (w : Way) : Prop := ∃ i ∈ is, ∃ l, l ≤ d ∧ w = (wayN f d i).take l
theorem Tch.inner {f d : Nat} {is : List Nat} {w : Way} (h : Tch f d is w) (hl : w.length < d) : w ∈ prefW f d is := by
  obtain ⟨i, hi, l, hl2, rfl⟩ := h
  rw [List.length_take, wayN_len] at hl
  exact mem_prefW.mpr ⟨i, hi, l, by omega, rfl⟩
theorem Tch.of_inner {f d : Nat} {is : List Nat} {w : Way} (h : w ∈ prefW f d is) : Tch f d is w ∧ w.length < d := by
  obtain ⟨i, hi, l, hl, rfl⟩ := mem_prefW.mp h
  exact ⟨⟨i, hi, l, by omega, rfl⟩, by rw [List.length_take, wayN_len]; omega⟩
theorem Tch.leaf {f d : Nat} {is : List Nat} {w : Way} (h : Tch f d is w) (hl : w.length = d) : ∃ i ∈ is, w = wayN f d i := by
  obtain ⟨i, hi, l, hl2, rfl⟩ := h
  rw [List.length_take, wayN_len] at hl
  refine ⟨i, hi, ?_⟩
  rw [List.take_of_length_le (by rw [wayN_len]; omega)]
theorem Tch.of_leaf {f d i : Nat} {is : List Nat} (h : i ∈ is) : Tch f d is (wayN f d i) := ⟨i, h, d, Nat.le_refl d, by rw [List.take_of_length_le (by rw [wayN_len]; omega)]⟩
theorem Tch.lt {f d : Nat} {is : List Nat} {w : Way} (f0 : 0 < f) (h : Tch f d is w) : w.length ≤ d ∧ ∀ x ∈ w, x < f := by
  obtain ⟨i, hi, l, hl, rfl⟩ := h
  exact ⟨by rw [List.length_take, wayN_len]; omega, fun x hx => wayN_lt f0 d i x (List.mem_of_mem_take hx)⟩
theorem Tch.root {f d i : Nat} {is : List Nat} (h : i ∈ is) : Tch f d is [] := ⟨i, h, 0, by omega, by simp⟩
/-- a way that is longer by one, of a touched one, is touched only with it -/
theorem Tch.up {f d : Nat} {is : List Nat} {w v : Way} (h : Tch f d is (w ++ v)) : Tch f d is w := by
  obtain ⟨i, hi, l, hl, e⟩ := h
  refine ⟨i, hi, w.length, ?_, ?_⟩
  · have := congrArg List.length e
    rw [List.length_append, List.length_take, wayN_len] at this
    omega
  · have := congrArg (List.take w.length) e
    rw [List.take_left', List.take_take] at this
    · refine this.trans ?_
      have h2 := congrArg List.length e
      rw [List.length_append, List.length_take, wayN_len] at h2
      rw [show min w.length l = w.length by omega]
    · rfl
/-- changed leaves: indexes and words -/
abbrev Chg := List (Nat × List Nat)
def getC (chg : Chg) (i : Nat) : Option (List Nat) := (chg.find? fun p => decide (p.1 = i)).map (·.2)
def gNew (f d : Nat) (chg : Chg) (g : Way → List Nat) : Way → List Nat := fun w => match chg.find? fun p => decide (wayN f d p.1 = w) with
  | some p => p.2
  | none => g w
def isC (chg : Chg) : List Nat := srt (chg.map (·.1))
def lvC (f d : Nat) (chg : Chg) : List (Way × List Nat) := (isC chg).map fun i => (wayN f d i, (getC chg i).getD [])
structure ChgOk (f d : Nat) (chg : Chg) : Prop where
  nd : (chg.map (·.1)).Nodup
  lt : ∀ p ∈ chg, p.1 < f ^ d
theorem getC_mem {chg : Chg} (nd : (chg.map (·.1)).Nodup) {p : Nat × List Nat} (h : p ∈ chg) : getC chg p.1 = some p.2 := by
  unfold getC
  induction chg with
  | nil => cases h
  | cons q chg ih =>
    rw [List.map_cons, List.nodup_cons] at nd
    rw [List.find?_cons]
    by_cases e : q.1 = p.1
    · rw [decide_eq_true e]
      rcases List.mem_cons.mp h with rfl | h
      · rfl
      · exact absurd (List.mem_map.mpr ⟨p, h, e.symm⟩) nd.1
    · rw [decide_eq_false e]
      rcases List.mem_cons.mp h with rfl | h
      · exact absurd rfl e
      · exact ih nd.2 h
theorem getC_some {chg : Chg} {i : Nat} (h : i ∈ chg.map (·.1)) : ∃ ws, getC chg i = some ws ∧ (i, ws) ∈ chg := by
  unfold getC
  induction chg with
  | nil => cases h
  | cons q chg ih =>
    rw [List.find?_cons]
    by_cases e : q.1 = i
    · rw [decide_eq_true e]
      exact ⟨q.2, rfl, by rw [← e]; exact List.mem_cons_self⟩
    · rw [decide_eq_false e]
      rw [List.map_cons] at h
      rcases List.mem_cons.mp h with h | h
      · exact absurd h.symm e
      · obtain ⟨ws, h1, h2⟩ := ih h
        exact ⟨ws, h1, List.mem_cons_of_mem _ h2⟩
theorem gNew_at {f d : Nat} {chg : Chg} {g : Way → List Nat} (f0 : 0 < f) (ok : ChgOk f d chg) {p : Nat × List Nat} (h : p ∈ chg) : gNew f d chg g (wayN f d p.1) = p.2 := by
  unfold gNew
  cases e : chg.find? fun q => decide (wayN f d q.1 = wayN f d p.1) with
  | none =>
    have := List.find?_eq_none.mp e p h
    simp at this
  | some q =>
    have h1 := List.find?_some e
    have h2 := List.mem_of_find?_eq_some e
    have h3 := wayN_inj f0 (ok.lt q h2) (ok.lt p h) (of_decide_eq_true h1)
    have h4 := getC_mem ok.nd h
    have h5 := getC_mem ok.nd h2
    rw [h3, h4] at h5
    simp only
    exact (Option.some.inj h5).symm
theorem gNew_else {f d : Nat} {chg : Chg} {g : Way → List Nat} {w : Way} (h : ∀ p ∈ chg, wayN f d p.1 ≠ w) : gNew f d chg g w = g w := by
  unfold gNew
  cases e : chg.find? fun q => decide (wayN f d q.1 = w) with
  | none => rfl
  | some q =>
    have h1 := List.find?_some e
    exact absurd (of_decide_eq_true h1) (h q (List.mem_of_find?_eq_some e))
/-- the state ahead of the plan -/
def rdI (cs : List PCell) (root : Ent) (ws : List Way) : Way → Option (List Ent) := fun w => if w ∈ ws then some (kidsOf cs (pathE cs root w).2) else none
def rdE (f : Nat) (cs : List PCell) (root : Ent) (ws : List Way) : Way → Option Ent := fun v => if v = [] then some root else if v.dropLast ∈ ws ∧ v.getLastD 0 < f then some (pathE cs root v) else none
def st0 (f : Nat) (cs : List PCell) (root : Ent) (ws : List Way) : PSt := ⟨cs, rdE f cs root ws, rdI cs root ws, []⟩
/-- all of the plan -/
def plan (f d : Nat) (chg : Chg) (cs : List PCell) (root : Ent) (fr : Nat → Nat) : PSt :=
  planW fr (planL fr (st0 f cs root (ordW f d (isC chg))) 0 (lvC f d chg)) (lvC f d chg).length (prefW f d (isC chg))
def needN (f d : Nat) (chg : Chg) : Nat := chg.length + (prefW f d (isC chg)).length
theorem lvC_len (f d : Nat) (chg : Chg) : (lvC f d chg).length = chg.length := by unfold lvC isC; rw [List.length_map, srt_len, List.length_map]
theorem isC_mem {chg : Chg} {i : Nat} : i ∈ isC chg ↔ i ∈ chg.map (·.1) := srt_mem
theorem plan_wr (f d : Nat) (chg : Chg) (cs : List PCell) (root : Ent) (fr : Nat → Nat) : (plan f d chg cs root fr).wr.map (·.1) = (List.range (needN f d chg)).map fr := by
  unfold plan needN
  rw [planW_wr, planL_wr, lvC_len, List.range_add, List.map_append, List.map_map]
  simp [st0, Function.comp_def]
theorem plan_len (f d : Nat) (chg : Chg) (cs : List PCell) (root : Ent) (fr : Nat → Nat) : (plan f d chg cs root fr).cs.length ≤ cs.length + needN f d chg := by
  unfold plan needN
  have h1 := planW_len fr (prefW f d (isC chg)) (planL fr (st0 f cs root (ordW f d (isC chg))) 0 (lvC f d chg)) (lvC f d chg).length
  have h2 := planL_len fr (lvC f d chg) (st0 f cs root (ordW f d (isC chg))) 0
  rw [lvC_len] at h2
  have h3 : (st0 f cs root (ordW f d (isC chg))).cs = cs := rfl
  rw [h3] at h2
  omega
/-- THE PLAN IS RIGHT -/
theorem plan_ok {f d : Nat} {chg : Chg} {cs : List PCell} {root : Ent} {g : Way → List Nat} {fr : Nat → Nat} (f0 : 0 < f) (d0 : 0 < d) (nd : cs.Nodup) (H : Holds cs f d root.2 g) (ok : ChgOk f d chg) (ne : chg ≠ []) :
    Pre cs (plan f d chg cs root fr).cs ∧ (plan f d chg cs root fr).cs.Nodup ∧ ∃ e, (plan f d chg cs root fr).E [] = some e ∧ NG f d cs root (plan f d chg cs root fr) d e (gNew f d chg g) := by
  have hmem : ∀ i, i ∈ isC chg ↔ i ∈ chg.map (·.1) := fun i => isC_mem
  have hold : ∀ ws : Way, ws.length ≤ d → (∀ x ∈ ws, x < f) → Holds cs f (d - ws.length) (pathE cs root ws).2 fun v => g (ws ++ v) := by
    have : ∀ (ws : Way) (h : Nat) (r : Ent) (gg : Way → List Nat), Holds cs f h r.2 gg → ws.length ≤ h → (∀ x ∈ ws, x < f) → Holds cs f (h - ws.length) (pathE cs r ws).2 fun v => gg (ws ++ v) := by
      intro ws
      induction ws with
      | nil => intro h r gg hh _ _; exact hh
      | cons k ws ih =>
        intro h r gg hh hle hlt
        cases h with
        | zero => simp at hle
        | succ h =>
          obtain ⟨es', z1, z2, z3⟩ := hh
          have hki : k < es'.length := by rw [z2]; exact hlt k List.mem_cons_self
          have hxk : es'[k]? = some es'[k] := List.getElem?_eq_getElem hki
          have hs : stepE cs r k = es'[k] := by unfold stepE; rw [kids_node z1, hxk]; rfl
          have := ih h (stepE cs r k) (fun v => gg (k :: v)) (by rw [hs]; exact z3 k _ hxk) (by simpa using hle) fun x hx => hlt x (List.mem_cons_of_mem _ hx)
          rw [List.length_cons, show h + 1 - (ws.length + 1) = h - ws.length by omega]
          exact this
    exact fun ws => this ws d root g H
  have I0 : PI f d cs root (Tch f d (isC chg)) (gNew f d chg g) [] (st0 f cs root (ordW f d (isC chg))) := by
    refine ⟨Pre.refl _, nd, (fun _ h => nomatch h), (fun _ h => nomatch h), fun w hT hl => ?_⟩
    have hw := (ordW_perm f d (isC chg)).mem_iff.mpr (hT.inner hl)
    have hlt := hT.lt f0
    have hh := hold w (by omega) hlt.2
    rw [show d - w.length = (d - w.length - 1) + 1 by omega] at hh
    obtain ⟨es, h1, h2, h3⟩ := hh
    refine ⟨es, ?_, h2, fun c hc => ⟨(fun z => nomatch z), fun _ => ?_⟩⟩
    · show (if w ∈ _ then some (kidsOf cs (pathE cs root w).2) else none) = _
      rw [if_pos hw, kids_node h1]
    · have hx : es[c]? = some es[c] := List.getElem?_eq_getElem (by omega)
      rw [pathE_snoc, hx]
      unfold stepE
      rw [kids_node h1, hx]
      rfl
  have hlv : ∀ x ∈ lvC f d chg, Tch f d (isC chg) x.1 ∧ x.1.length = d ∧ (∀ y ∈ x.1, y < f) ∧ gNew f d chg g x.1 = x.2 := fun x hx => by
    unfold lvC at hx
    obtain ⟨i, hi, rfl⟩ := List.mem_map.mp hx
    obtain ⟨ws, h1, h2⟩ := getC_some ((hmem i).mp hi)
    refine ⟨Tch.of_leaf hi, wayN_len _ _ _, wayN_lt f0 d i, ?_⟩
    rw [h1]
    exact gNew_at f0 ok h2
  have hnd : ((lvC f d chg).map (·.1)).Nodup := by
    unfold lvC
    rw [List.map_map]
    have h1 : (isC chg).Nodup := srt_nodup ok.nd
    refine List.pairwise_map.mpr (h1.imp_of_mem fun {i j} hi hj hne e => hne ?_)
    obtain ⟨p, hp, rfl⟩ := List.mem_map.mp ((hmem i).mp hi)
    obtain ⟨q, hq, rfl⟩ := List.mem_map.mp ((hmem j).mp hj)
    exact wayN_inj f0 (ok.lt p hp) (ok.lt q hq) e
  have I1 := I0.planL (fr := fr) (k := 0) hlv hnd fun _ _ h => nomatch h
  rw [List.append_nil] at I1
  have hU : ∀ w, ¬ Tch f d (isC chg) w → ∀ v, gNew f d chg g (w ++ v) = g (w ++ v) := fun w hw v => gNew_else fun p hp e => hw (by
    have : Tch f d (isC chg) (w ++ v) := by rw [← e]; exact Tch.of_leaf ((hmem _).mpr (List.mem_map.mpr ⟨p, hp, rfl⟩))
    exact this.up)
  have I2 := I1.planW (fr := fr) (k := (lvC f d chg).length) H hU (ws := prefW f d (isC chg)) (fun w hw => ⟨(Tch.of_inner hw).1, (Tch.of_inner hw).2, ((Tch.of_inner hw).1.lt f0).2⟩) (prefW_nodup _ _ _) (fun w hw z => by
    rw [List.mem_reverse] at z
    obtain ⟨x, hx, rfl⟩ := List.mem_map.mp z
    have := (hlv x hx).2.1
    have := (Tch.of_inner hw).2
    omega) ((prefW_pair f d (isC chg)).imp fun h => by omega) fun w hw c hc ht => by
    have hl := (Tch.of_inner hw).2
    by_cases e : w.length + 1 = d
    · left
      obtain ⟨i, hi, e2⟩ := ht.leaf (by rw [List.length_append, List.length_singleton]; exact e)
      rw [List.mem_reverse]
      unfold lvC
      rw [List.map_map]
      exact List.mem_map.mpr ⟨i, hi, e2.symm⟩
    · exact .inr (ht.inner (by rw [List.length_append, List.length_singleton]; omega))
  refine ⟨I2.pre, I2.nd, ?_⟩
  obtain ⟨p, hp⟩ : ∃ p, p ∈ chg := by cases chg with | nil => exact absurd rfl ne | cons p _ => exact ⟨p, List.mem_cons_self⟩
  have hroot : [] ∈ prefW f d (isC chg) := (Tch.root ((hmem _).mpr (List.mem_map.mpr ⟨p, hp, rfl⟩))).inner d0
  obtain ⟨e, h1, h2⟩ := I2.fin [] (List.mem_append_left _ (List.mem_reverse.mpr hroot))
  exact ⟨e, h1, h2⟩
end Cz

/-! CzCommit: talks that commit, that change the anchor. -/
namespace Cz
open PySem L2 Cz.K02
structure CmA where
  t : Addr
  p : Addr
  s : Addr
  sd : Addr
  ch : Addr
  fr : Addr
  inn : Addr
  ent : Addr
  ord : Addr
def CmA.ys (A : CmA) : List Addr := [A.t, A.p, A.s, A.sd, A.ch, A.fr, A.inn, A.ent, A.ord]
def cmF (A : CmA) (rq : Addr) (pr : D) (n : Int) (an : D) (at_ : Nat) : List (Fd × D) := [(.present, pr), (.answers, .int n), (.shape, .ref A.p), (.sealer, .ref A.s), (.anchor, an), (.changed, .ref A.ch), (.free, .ref A.fr), (.inner, .ref A.inn), (.entries, .ref A.ent), (.order, .ref A.ord), (.at_, .int at_), (.requests, .ref rq)]
def chK (chg : Chg) : List (D × D) := chg.map fun x => (.int (x.1 : Nat), .tup (intsD x.2))
def ilK (il : List (Way × Addr)) : List (D × D) := il.map fun x => (wD x.1, .ref x.2)
def reqW (x : Nat × PCell) : D := reqD "write" [.int x.1, cellD x.2]
/-- what a commit's talk holds -/
structure CmC where
  S : Shp
  ep : Nat
  r0 : Ent
  rs : List Ent
  chg : Chg
  fl : List Nat
def CmC.ord (C : CmC) : List Way := ordW C.S.f C.S.d (isC C.chg)
def CmC.an (C : CmC) : D := anchD C.ep (C.r0 :: C.rs)
def CmC.fr (C : CmC) : Nat → Nat := fun k => C.fl.getD k 0
def CmC.need (C : CmC) : Nat := needN C.S.f C.S.d C.chg
structure CmC.Ok (C : CmC) : Prop where
  ch : ChgOk C.S.f C.S.d C.chg
  wl : ∀ p ∈ C.chg, p.2.length ≤ 100
  rl : C.rs.length ≤ 10
  cl : C.chg.length ≤ 64
structure CmAt (G : GH) (A : CmA) (rq : Addr) (il : List (Way × Addr)) (C : CmC) (pr : D) (n : Int) (at_ : Nat) (rqs : List D) (st : PSt) : Prop where
  o : G A.t = some (.ins .commit (cmF A rq pr n C.an at_))
  sh : ShAt G A.p C.S
  se : SealC G A.s A.sd st.cs
  ch : G A.ch = some (.dct .ik (chK C.chg))
  fr : G A.fr = some (.lst (intsD C.fl))
  inn : G A.inn = some (.dct .nk (ilK il))
  ilw : (il.map (·.1)).Nodup
  ils : ∀ w a, (w, a) ∈ il → ∃ es, st.I w = some es ∧ G a = some (.lst (es.map entD))
  ilI : ∀ w es, st.I w = some es → ∃ a, (w, a) ∈ il
  ent : ∃ ek, G A.ent = some (.dct .nk ek) ∧ (∀ w, dget ek (wD w) = (st.E w).map entD) ∧ ek.length ≤ 10 * (il.length + st.wr.length) + 1
  ord : G A.ord = some (.lst (C.ord.map wD))
  hrq : G rq = some (.lst rqs)
  nd : (A.ys ++ rq :: il.map (·.2)).Nodup
  small : il.length ≤ 1000 ∧ st.wr.length ≤ 1000
  cok : C.Ok
def cmYs (A : CmA) (rq : Addr) (il : List (Way × Addr)) : List Addr := A.ys ++ rq :: il.map (·.2)
def sp_commit_place (m : Gm) : GSp := fun ds G Q => ∃ (A : CmA) (rq : Addr) (il : List (Way × Addr)) (C : CmC) (pr : D) (n : Int) (at_ : Nat) (rqs : List D) (st : PSt) (w : Way) (c : PCell) (b : Nat), ds = [.ref A.t, wD w, cellD c, .int b] ∧ CmAt G A rq il C pr n at_ rqs st ∧
  rqs.length ≤ 1000 ∧ st.cs.length < 90000 ∧ st.wr.length < 1000 ∧ (w ≠ [] → ∃ es, st.I w.dropLast = some es ∧ w.getLastD 0 < es.length) ∧ ∀ G', CmAt G' A rq il C pr n at_ (rqs ++ [reqW (b, c)]) (place st w c b) → Keep G G' (cmYs A rq il) → Q .non G'
def tab_place (m : Gm) : Cl → Option GSp := fun c => match c with
  | .commit => some (sp_commit_place m)
  | _ => none
/-- the plan's requests, the last one first -/
def newAn (C : CmC) (e : Ent) : D := anchD (C.ep + 1) (e :: C.rs)
def lastR (C : CmC) (e : Ent) : List D := [reqD "flush" [], reqD "anchor" [newAn C e], doneR (.tup [.str "committed", newAn C e])]
def CmC.pl (C : CmC) (cs : List PCell) : PSt := plan C.S.f C.S.d C.chg cs C.r0 C.fr
def CmC.e (C : CmC) (cs : List PCell) : Ent := ((C.pl cs).E []).getD (0, 0)
def CmC.reqs (C : CmC) (cs : List PCell) : List D := (C.pl cs).wr.map reqW ++ lastR C (C.e cs)
def sp_commit_plan (m : Gm) : GSp := fun ds G Q => ∃ (A : CmA) (rq : Addr) (il : List (Way × Addr)) (C : CmC) (pr : D) (n : Int) (at_ : Nat) (cs : List PCell) (g : Way → List Nat), ds = [.ref A.t] ∧ CmAt G A rq il C pr n at_ [] (st0 C.S.f cs C.r0 C.ord) ∧
  TabsG m G ∧ cs.length < 80000 ∧ C.need ≤ C.fl.length ∧ C.chg ≠ [] ∧ C.chg.length ≤ 64 ∧ Holds cs C.S.f C.S.d C.r0.2 g ∧ ∀ rq' G', CmAt G' A rq' il C pr n at_ (C.reqs cs).reverse (C.pl cs) → Keep G G' (cmYs A rq il) → G rq' = none → Q .non G'
def tab_plan (m : Gm) : Cl → Option GSp := fun c => match c with
  | .commit => some (sp_commit_plan m)
  | _ => none
def sp_commit_next_request (m : Gm) : GSp := fun ds G Q => ∃ (A : CmA) (rq : Addr) (il : List (Way × Addr)) (C : CmC) (pr : D) (n : Int) (at_ : Nat) (rqs : List D) (x : D) (st : PSt), ds = [.ref A.t] ∧ CmAt G A rq il C pr n at_ (rqs ++ [x]) st ∧ ∀ G', CmAt G' A rq il C x n at_ rqs st → Keep G G' [A.t, rq] → Q .non G'
def tab_next_request (m : Gm) : Cl → Option GSp := fun c => match c with
  | .commit => some (sp_commit_next_request m)
  | _ => none
/-- the state when the first l cells have been read -/
def CmC.rd (C : CmC) (cs : List PCell) (l : Nat) : PSt := st0 C.S.f cs C.r0 (C.ord.take l)
def sp_commit_take_cell (m : Gm) : GSp := fun ds G Q => ∃ (A : CmA) (rq : Addr) (il : List (Way × Addr)) (C : CmC) (pr v : D) (n : Int) (l : Nat) (cs : List PCell) (g : Way → List Nat) (w : Way), ds = [.ref A.t, v] ∧ CmAt G A rq il C pr n l [] (C.rd cs l) ∧
  TabsG m G ∧ cs.length < 80000 ∧ C.need ≤ C.fl.length ∧ C.chg ≠ [] ∧ C.chg.length ≤ 64 ∧ Holds cs C.S.f C.S.d C.r0.2 g ∧ C.ord[l]? = some w ∧ Pkd v ∧
  (knowsB cs v (pathE cs C.r0 w).2 = false → ∀ G', CmAt G' A rq il C (refR (pathE cs C.r0 w).1) n l [] (C.rd cs l) → Keep G G' [A.t] → Q .non G') ∧
  (knowsB cs v (pathE cs C.r0 w).2 = true → (∀ w', C.ord[l + 1]? = some w' → ∀ a G', CmAt G' A rq (il ++ [(w, a)]) C (readR (pathE cs C.r0 w').1) n (l + 1) [] (C.rd cs (l + 1)) → Keep G G' (cmYs A rq il) → G a = none → Q .non G') ∧
    (l + 1 = C.ord.length → ∀ a rq' G' rqs x, (C.reqs cs).reverse = rqs ++ [x] → CmAt G' A rq' (il ++ [(w, a)]) C x n (l + 1) rqs (C.pl cs) → Keep G G' (cmYs A rq il) → G a = none → G rq' = none → Q .non G'))
def tab_take_cell (m : Gm) : Cl → Option GSp := fun c => match c with
  | .commit => some (sp_commit_take_cell m)
  | _ => none
def sp_commit_go_on (m : Gm) : GSp := fun ds G Q => ∃ (A : CmA) (rq : Addr) (il : List (Way × Addr)) (C : CmC) (pr v : D) (n : Int) (l : Nat) (rqs : List D) (st : PSt), ds = [.ref A.t, v] ∧ CmAt G A rq il C pr n l rqs st ∧
  ((l < C.ord.length ∧ sp_commit_take_cell m ds G Q) ∨ (C.ord.length ≤ l ∧ sp_commit_next_request m [.ref A.t] G Q))
def sp_commit_taken (m : Gm) : GSp := fun ds G Q => ∃ (A : CmA) (rq : Addr) (il : List (Way × Addr)) (C : CmC) (pr : D) (n : Int) (at_ : Nat) (rqs : List D) (st : PSt), ds = [.ref A.t] ∧ CmAt G A rq il C pr n at_ rqs st ∧ TabsG m G ∧ C.chg.length ≤ 64 ∧ ∀ G', Keep G G' [] → Q (.int (C.need : Nat)) G'
def tab_taken (m : Gm) : Cl → Option GSp := fun c => match c with
  | .commit => some (sp_commit_taken m)
  | _ => none
/-- the request that a commit starts with -/
def CmC.first (C : CmC) : D := if C.chg = [] then doneR (.tup [.str "committed", C.an]) else if C.fl.length < C.need then doneR (.tup [.str "full", .int (C.need : Nat)]) else readR C.r0.1
def sp_commit_init (m : Gm) : GSp := fun ds G Q => ∃ (t p s sd ch fr : Addr) (C : CmC) (cs : List PCell), ds = [.ref t, .ref p, .ref s, C.an, .ref ch, .ref fr] ∧ G t = some (.ins .commit []) ∧ ShAt G p C.S ∧ SealC G s sd cs ∧ G ch = some (.dct .ik (chK C.chg)) ∧ G fr = some (.lst (intsD C.fl)) ∧ [t, p, s, sd, ch, fr].Nodup ∧ TabsG m G ∧ C.Ok ∧ C.chg.length ≤ 64 ∧
  ∀ inn ent ord rq G', CmAt G' ⟨t, p, s, sd, ch, fr, inn, ent, ord⟩ rq [] C C.first 0 0 [] (C.rd cs 0) → Keep G G' [t] → G inn = none → G ent = none → G ord = none → G rq = none → Q .non G'
/-! ### a talk that only asks -/
def chF (rq : Addr) (pr : D) (n : Int) : List (Fd × D) := [(.present, pr), (.answers, .int n), (.requests, .ref rq)]
def sp_change_init (m : Gm) : GSp := fun ds G Q => ∃ (t l : Addr) (x r : D) (rqs : List D), ds = [.ref t, .ref l, r] ∧ G t = some (.ins .change []) ∧ G l = some (.lst (x :: rqs)) ∧ rqs.length < 100 ∧ ∀ rq G', G' t = some (.ins .change (chF rq x 0)) → G' rq = some (.lst (x :: rqs ++ [doneR r])) → Keep G G' [t] → G rq = none → Q .non G'
def sp_change_go_on (m : Gm) : GSp := fun ds G Q => ∃ (t rq : Addr) (pr v x : D) (n : Nat) (rqs : List D), ds = [.ref t, v] ∧ G t = some (.ins .change (chF rq pr n)) ∧ G rq = some (.lst rqs) ∧ rqs[n]? = some x ∧ Q .non (G.set t (.ins .change (chF rq x n)))
theorem cut_last (ds : List D) : cutD ds none (some (-1)) = ds.dropLast := by
  unfold cutD
  rw [HT.sIx_none]
  have : HT.sIx ds.length ds.length (some (-1)) = ds.length - 1 := by
    unfold HT.sIx
    simp only
    split <;> omega
  rw [this, Nat.sub_zero, List.drop_zero, List.dropLast_eq_take]
theorem atI_last {p : List D} {x : D} : atI (p ++ [x]) (-1) = some x := by
  unfold atI ixN
  rw [if_neg (by omega), if_pos (by rw [List.length_append, List.length_singleton]; omega)]
  simp only [List.length_append, List.length_singleton, Option.bind_some]
  rw [show (-1 + ((p.length + 1 : Nat) : Int)).toNat = p.length by omega]
  simp
/-- CommitTalk.next_request: 0 self -/
def rd_commit_next_request (m : Gm) : GS := gSetF m (gVar 0) (gLm rPopL (gFld (gVar 0) .requests) gNil) .present
abbrev N_commit_next_request : List Str := ["self"]
/-- CommitTalk.place: 0 self, 1 way, 2 cell, 3 address, 4 entry, 5 above -/
def rd_commit_place (m : Gm) : GS := gSeq (gDrop (gLm rApp (gFld (gVar 0) .requests) (gCons (gTup (gCons (gC (.str "write")) (gCons (gVar 3) (gCons (gVar 2) (gNil))))) (gNil)))) (gSeq (gSet 4 (gTup (gCons (gVar 3) (gCons (gMeth tab_mark (gFld (gVar 0) .sealer) (gCons (gVar 2) (gNil))) (gNil))))) (gSeq (gPut (gVar 4) (gFld (gVar 0) .entries) (gVar 1)) (gIf (gTru (gVar 1)) (gSeq (gSet 5 (gBin gIx (gFld (gVar 0) .inner) (gSl (gVar 1) (gNoPart) (gPart (gNeg (gC (.int 1))))))) (gPut (gVar 4) (gVar 5) (gBin gIx (gVar 1) (gNeg (gC (.int 1)))))) (gNext))))
abbrev N_commit_place : List Str := ["self", "way", "cell", "address", "entry", "above"]
def rd_commit_plan_1 (m : Gm) : GS := gSeq (gDrop (gMeth (tab_place m) (gVar 0) (gCons (gMeth tab_way (gFld (gVar 0) .shape) (gCons (gVar 2) (gNil))) (gCons (gCall (sp_leaf m) (gCons (gBin gIx (gFld (gVar 0) .changed) (gVar 2)) (gNil))) (gCons (gBin gIx (gFld (gVar 0) .free) (gVar 1)) (gNil)))))) (gSet 1 (gBin gAdd (gVar 1) (gC (.int 1))))
def rd_commit_plan_2 (m : Gm) : GS := gSeq (gDrop (gMeth (tab_place m) (gVar 0) (gCons (gVar 3) (gCons (gCall (sp_node m) (gCons (gBin gIx (gFld (gVar 0) .inner) (gVar 3)) (gNil))) (gCons (gBin gIx (gFld (gVar 0) .free) (gVar 1)) (gNil)))))) (gSet 1 (gBin gAdd (gVar 1) (gC (.int 1))))
def rd_commit_plan_3 (m : Gm) : GS := gSeq (gSet 4 (gBin gAdd (gTup (gCons (gBin gIx (gFld (gVar 0) .entries) (gTup (gNil))) (gNil))) (gSl (gBin gIx (gFld (gVar 0) .anchor) (gC (.int 2))) (gPart (gC (.int 1))) (gNoPart)))) (gSeq (gSet 5 (gTup (gCons (gC (.str "anchor")) (gCons (gBin gAdd (gBin gIx (gFld (gVar 0) .anchor) (gC (.int 1))) (gC (.int 1))) (gCons (gVar 4) (gNil)))))) (gSeq (gSetF m (gVar 0) (gBin gAdd (gFld (gVar 0) .requests) (gLst (gCons (gTup (gCons (gC (.str "flush")) (gNil))) (gCons (gTup (gCons (gC (.str "anchor")) (gCons (gVar 5) (gNil)))) (gCons (gTup (gCons (gC (.str "done")) (gCons (gTup (gCons (gC (.str "committed")) (gCons (gVar 5) (gNil)))) (gNil)))) (gNil)))))) .requests) (gDrop (gLm rRev (gFld (gVar 0) .requests) gNil))))
def rd_commit_plan_4 (m : Gm) : GS := gSeq (gFor (gIter (gCall (sp_prefixes m) (gCons (gFld (gVar 0) .shape) (gCons (gCall bSort (gCons (gFld (gVar 0) .changed) (gNil))) (gNil))))) (gNm 3) (rd_commit_plan_2 m)) (rd_commit_plan_3 m)
/-- CommitTalk.plan: 0 self, 1 taken, 2 index, 3 way, 4 roots, 5 anchor -/
def rd_commit_plan (m : Gm) : GS := gSeq (gSet 1 (gC (.int 0))) (gSeq (gFor (gIter (gCall bSort (gCons (gFld (gVar 0) .changed) (gNil)))) (gNm 2) (rd_commit_plan_1 m)) (rd_commit_plan_4 m))
abbrev N_commit_plan : List Str := ["self", "taken", "index", "way", "roots", "anchor"]
def rd_commit_take_cell_1 (m : Gm) : GS := gPut (gBin gIx (gVar 1) (gBin gAdd (gC (.int 1)) (gVar 4))) (gFld (gVar 0) .entries) (gBin gAdd (gVar 2) (gTup (gCons (gVar 4) (gNil))))
def rd_commit_take_cell_2 (m : Gm) : GS := gSeq (gSetF m (gVar 0) (gBin gAdd (gFld (gVar 0) .at_) (gC (.int 1))) .at_) (gIf (gTest (gBin gLt (gFld (gVar 0) .at_) (gCall bLen (gCons (gFld (gVar 0) .order) (gNil))))) (gSetF m (gVar 0) (gTup (gCons (gC (.str "read")) (gCons (gBin gIx (gBin gIx (gFld (gVar 0) .entries) (gBin gIx (gFld (gVar 0) .order) (gFld (gVar 0) .at_))) (gC (.int 0))) (gNil)))) .present) (gSeq (gDrop (gMeth (tab_plan m) (gVar 0) gNil)) (gDrop (gMeth (tab_next_request m) (gVar 0) gNil))))
def rd_commit_take_cell_3 (m : Gm) : GS := gSeq (gPut (gCall bList (gCons (gSl (gVar 1) (gPart (gC (.int 1))) (gNoPart)) (gNil))) (gFld (gVar 0) .inner) (gVar 2)) (gSeq (gFor (gRng1 (gCons (gFld (gFld (gVar 0) .shape) .fanout) (gNil))) (gNm 4) (rd_commit_take_cell_1 m)) (rd_commit_take_cell_2 m))
/-- CommitTalk.take_cell: 0 self, 1 value, 2 way, 3 entry, 4 child -/
def rd_commit_take_cell (m : Gm) : GS := gSeq (gSet 2 (gBin gIx (gFld (gVar 0) .order) (gFld (gVar 0) .at_))) (gSeq (gSet 3 (gBin gIx (gFld (gVar 0) .entries) (gVar 2))) (gSeq (gIf (gNot (gTest (gMeth tab_knows (gFld (gVar 0) .sealer) (gCons (gVar 1) (gCons (gBin gIx (gVar 3) (gC (.int 1))) (gNil)))))) (gSeq (gSetF m (gVar 0) (gTup (gCons (gC (.str "refused")) (gCons (gBin gIx (gVar 3) (gC (.int 0))) (gNil)))) .present) (gRetN)) (gNext)) (rd_commit_take_cell_3 m)))
abbrev N_commit_take_cell : List Str := ["self", "value", "way", "entry", "child"]
/-- CommitTalk.go_on: 0 self, 1 value -/
def rd_commit_go_on (m : Gm) : GS := gIf (gTest (gBin gLt (gFld (gVar 0) .at_) (gCall bLen (gCons (gFld (gVar 0) .order) (gNil))))) (gDrop (gMeth (tab_take_cell m) (gVar 0) (gCons (gVar 1) (gNil)))) (gDrop (gMeth (tab_next_request m) (gVar 0) gNil))
abbrev N_commit_go_on : List Str := ["self", "value"]
/-- CommitTalk.taken: 0 self -/
def rd_commit_taken (m : Gm) : GS := gRet (gCall (sp_needed m) (gCons (gFld (gVar 0) .shape) (gCons (gCall bSort (gCons (gFld (gVar 0) .changed) (gNil))) (gNil))))
abbrev N_commit_taken : List Str := ["self"]
/-- CommitTalk.__init__: 0 self, 1 shape, 2 sealer, 3 anchor, 4 changed, 5 free, 6 many -/
def rd_commit_init (m : Gm) : GS := gSeq (gDrop (gCall (sp_talk_init m) (gCons (gVar 0) (gCons (gTup (gCons (gC (.str "done")) (gCons (gTup (gCons (gC (.str "committed")) (gCons (gVar 3) (gNil)))) (gNil)))) (gNil))))) (gSeq (gSetF m (gVar 0) (gVar 1) .shape) (gSeq (gSetF m (gVar 0) (gVar 2) .sealer) (gSeq (gSetF m (gVar 0) (gVar 3) .anchor) (gSeq (gSetF m (gVar 0) (gVar 4) .changed) (gSeq (gSetF m (gVar 0) (gVar 5) .free) (gSeq (gSetF m (gVar 0) (gDNew .nk) .inner) (gSeq (gSetF m (gVar 0) (gDisp1 (gTup (gNil)) (gBin gIx (gBin gIx (gVar 3) (gC (.int 2))) (gC (.int 0)))) .entries) (gSeq (gSetF m (gVar 0) (gSortK m false (gCall (sp_prefixes m) (gCons (gVar 1) (gCons (gCall bSort (gCons (gVar 4) (gNil))) (gNil))))) .order) (gSeq (gSetF m (gVar 0) (gC (.int 0)) .at_) (gSeq (gSetF m (gVar 0) (gLst (gNil)) .requests) (gIf (gTru (gFld (gVar 0) .changed)) (gSeq (gSet 6 (gCall (sp_needed m) (gCons (gVar 1) (gCons (gCall bSort (gCons (gVar 4) (gNil))) (gNil))))) (gSeq (gSetF m (gVar 0) (gTup (gCons (gC (.str "read")) (gCons (gBin gIx (gBin gIx (gBin gIx (gVar 3) (gC (.int 2))) (gC (.int 0))) (gC (.int 0))) (gNil)))) .present) (gIf (gTest (gBin gGt (gVar 6) (gCall bLen (gCons (gVar 5) (gNil))))) (gSetF m (gVar 0) (gTup (gCons (gC (.str "done")) (gCons (gTup (gCons (gC (.str "full")) (gCons (gVar 6) (gNil)))) (gNil)))) .present) (gNext)))) (gNext))))))))))))
abbrev N_commit_init : List Str := ["self", "shape", "sealer", "anchor", "changed", "free", "many"]
/-- ChangeTalk.__init__: 0 self, 1 requests, 2 result -/
def rd_change_init (m : Gm) : GS := gSeq (gDrop (gCall (sp_talk_init m) (gCons (gVar 0) (gCons (gBin gIx (gBin gAdd (gVar 1) (gLst (gCons (gTup (gCons (gC (.str "done")) (gCons (gVar 2) (gNil)))) (gNil)))) (gC (.int 0))) (gNil))))) (gSetF m (gVar 0) (gBin gAdd (gVar 1) (gLst (gCons (gTup (gCons (gC (.str "done")) (gCons (gVar 2) (gNil)))) (gNil)))) .requests)
abbrev N_change_init : List Str := ["self", "requests", "result"]
/-- ChangeTalk.go_on: 0 self, 1 value -/
def rd_change_go_on (m : Gm) : GS := gSetF m (gVar 0) (gBin gIx (gFld (gVar 0) .requests) (gFld (gVar 0) .answers)) .present
abbrev N_change_go_on : List Str := ["self", "value"]

theorem Nd.ne {xs : List Addr} (h : xs.Nodup) (i j : Nat) {a b : Addr} (hi : xs[i]? = some a := by rfl) (hj : xs[j]? = some b := by rfl) (hij : i ≠ j := by decide) : a ≠ b := fun e => by
  subst e
  exact hij ((List.getElem?_inj (List.getElem?_eq_some_iff.mp hi).1 h).mp (hi.trans hj.symm))
theorem TabsG.keepX {m : Gm} {G G' : GH} {xs : List Addr} (h : TabsG m G) (k : Keep G G' xs) (hx : ∀ x ∈ xs, ∀ q, G x ≠ some (.tab q)) : TabsG m G' := fun p hp => k _ _ (h p hp) fun z => hx _ z _ (h p hp)
section
variable {G G' : GH} {A : CmA} {rq : Addr} {il : List (Way × Addr)} {C : CmC} {pr : D} {n : Int} {at_ : Nat} {rqs : List D} {st : PSt}
theorem CmAt.keep {xs : List Addr} (h : CmAt G A rq il C pr n at_ rqs st) (k : Keep G G' xs) (hd : ∀ y ∈ cmYs A rq il, y ∉ xs) : CmAt G' A rq il C pr n at_ rqs st := by
  have ha : ∀ y ∈ A.ys, y ∉ xs := fun y hy => hd y (List.mem_append_left _ hy)
  refine ⟨k _ _ h.o (ha _ (by simp [CmA.ys])), h.sh.keep k (ha _ (by simp [CmA.ys])), h.se.keep k (ha _ (by simp [CmA.ys])) (ha _ (by simp [CmA.ys])), k _ _ h.ch (ha _ (by simp [CmA.ys])), k _ _ h.fr (ha _ (by simp [CmA.ys])), k _ _ h.inn (ha _ (by simp [CmA.ys])), h.ilw, fun w a hw => ?_, h.ilI, ?_, k _ _ h.ord (ha _ (by simp [CmA.ys])), k _ _ h.hrq (hd _ (by simp [cmYs])), h.nd, h.small, h.cok⟩
  · obtain ⟨es, h1, h2⟩ := h.ils w a hw
    exact ⟨es, h1, k _ _ h2 (hd _ (List.mem_append_right _ (List.mem_cons_of_mem _ (List.mem_map.mpr ⟨(w, a), hw, rfl⟩))))⟩
  · obtain ⟨ek, h1, h2⟩ := h.ent
    exact ⟨ek, k _ _ h1 (ha _ (by simp [CmA.ys])), h2⟩
theorem CmAt.alloc (h : CmAt G A rq il C pr n at_ rqs st) : ∀ y ∈ cmYs A rq il, ∃ o, G y = some o ∧ ∀ q, o ≠ .tab q := by
  intro y hy
  unfold cmYs CmA.ys at hy
  simp only [List.mem_append, List.mem_cons, List.not_mem_nil, or_false] at hy
  rcases hy with (rfl | rfl | rfl | rfl | rfl | rfl | rfl | rfl | rfl) | rfl | hy
  · exact ⟨_, h.o, fun q z => nomatch z⟩
  · exact ⟨_, h.sh.1, fun q z => nomatch z⟩
  · exact ⟨_, h.se.1, fun q z => nomatch z⟩
  · exact ⟨_, h.se.2.1, fun q z => nomatch z⟩
  · exact ⟨_, h.ch, fun q z => nomatch z⟩
  · exact ⟨_, h.fr, fun q z => nomatch z⟩
  · exact ⟨_, h.inn, fun q z => nomatch z⟩
  · obtain ⟨ek, h1, _⟩ := h.ent
    exact ⟨_, h1, fun q z => nomatch z⟩
  · exact ⟨_, h.ord, fun q z => nomatch z⟩
  · exact ⟨_, h.hrq, fun q z => nomatch z⟩
  · obtain ⟨⟨w, a⟩, hw, rfl⟩ := List.mem_map.mp hy
    obtain ⟨es, _, h2⟩ := h.ils w a hw
    exact ⟨_, h2, fun q z => nomatch z⟩
theorem CmAt.tabs {m : Gm} {xs : List Addr} (h : CmAt G A rq il C pr n at_ rqs st) (T : TabsG m G) (k : Keep G G' xs) (hx : ∀ x ∈ xs, x ∈ cmYs A rq il) : TabsG m G' := T.keepX k fun x hx2 q z => by
  obtain ⟨o, h1, h2⟩ := h.alloc x (hx x hx2)
  rw [h1] at z
  exact h2 q (Option.some.inj z)
/-- other words of the talk itself -/
theorem CmAt.put {pr' : D} {n' : Int} {a' : Nat} (h : CmAt G A rq il C pr n at_ rqs st) : CmAt (G.set A.t (.ins .commit (cmF A rq pr' n' C.an a'))) A rq il C pr' n' a' rqs st := by
  have nt : ∀ y ∈ (A.p :: A.s :: A.sd :: A.ch :: A.fr :: A.inn :: A.ent :: A.ord :: rq :: il.map (·.2)), y ≠ A.t := by
    have := h.nd
    unfold CmA.ys at this
    rw [List.cons_append, List.nodup_cons] at this
    exact fun y hy z => this.1 (z ▸ hy)
  refine ⟨set_same, ⟨by rw [set_ne (nt _ (by simp))]; exact h.sh.1, h.sh.2⟩, ⟨by rw [set_ne (nt _ (by simp))]; exact h.se.1, by rw [set_ne (nt _ (by simp))]; exact h.se.2.1, h.se.2.2⟩, by rw [set_ne (nt _ (by simp))]; exact h.ch, by rw [set_ne (nt _ (by simp))]; exact h.fr, by rw [set_ne (nt _ (by simp))]; exact h.inn, h.ilw, fun w a hw => ?_, h.ilI, ?_, by rw [set_ne (nt _ (by simp))]; exact h.ord, by rw [set_ne (nt _ (by simp))]; exact h.hrq, h.nd, h.small, h.cok⟩
  · obtain ⟨es, h1, h2⟩ := h.ils w a hw
    refine ⟨es, h1, ?_⟩
    rw [set_ne (nt _ (by
      simp only [List.mem_cons]
      iterate 9 right
      exact List.mem_map.mpr ⟨(w, a), hw, rfl⟩))]
    exact h2
  · obtain ⟨ek, h1, h2⟩ := h.ent
    exact ⟨ek, by rw [set_ne (nt _ (by simp))]; exact h1, h2⟩
end
theorem nodup_inj {α β : Type} {g : α → β} : ∀ {l : List α}, (l.map g).Nodup → ∀ {x y : α}, x ∈ l → y ∈ l → g x = g y → x = y
  | [], _, _, _, h, _, _ => nomatch h
  | z :: l, nd, x, y, hx, hy, e => by
    rw [List.map_cons, List.nodup_cons] at nd
    rcases List.mem_cons.mp hx with h1 | h1 <;> rcases List.mem_cons.mp hy with h2 | h2
    · rw [h1, h2]
    · exact absurd (List.mem_map.mpr ⟨y, h2, by rw [← e, h1]⟩) nd.1
    · exact absurd (List.mem_map.mpr ⟨x, h1, by rw [e, h2]⟩) nd.1
    · exact nodup_inj nd.2 h1 h2 e
theorem ilK_get {il : List (Way × Addr)} (nd : (il.map (·.1)).Nodup) {w : Way} {a : Addr} (h : (w, a) ∈ il) : dget (ilK il) (wD w) = some (.ref a) := by
  have aux : ∀ il : List (Way × Addr), (il.map (·.1)).Nodup → (w, a) ∈ il → dget (ilK il) (wD w) = some (.ref a) := by
    intro il
    induction il with
    | nil => intro _ h; cases h
    | cons x il ih =>
      intro nd h
      rw [List.map_cons, List.nodup_cons] at nd
      show dget ((wD x.1, D.ref x.2) :: ilK il) (wD w) = _
      by_cases e : x.1 = w
      · rcases List.mem_cons.mp h with h | h
        · subst h; simp [dget]
        · exact absurd (List.mem_map.mpr ⟨(w, a), h, e.symm⟩) nd.1
      · have e2 : ¬ wD x.1 = wD w := fun z => e (wD_inj z)
        rcases List.mem_cons.mp h with h | h
        · rw [← h] at e; exact absurd rfl e
        · have := ih nd.2 h
          simp [dget, e2, this]
  exact aux il nd h
section
variable {G G' : GH} {A : CmA} {rq : Addr} {il : List (Way × Addr)} {C : CmC} {pr : D} {n : Int} {at_ : Nat} {rqs : List D} {st : PSt}
theorem CmAt.ilne (h : CmAt G A rq il C pr n at_ rqs st) {w : Way} {a : Addr} (hw : (w, a) ∈ il) : ∀ y ∈ (A.ys ++ [rq]), y ≠ a := by
  have := h.nd
  rw [show A.ys ++ rq :: il.map (·.2) = (A.ys ++ [rq]) ++ il.map (·.2) by simp] at this
  have h2 := (List.nodup_append.mp this).2.2
  exact fun y hy => h2 y hy a (List.mem_map.mpr ⟨(w, a), hw, rfl⟩)
theorem CmAt.ilinj (h : CmAt G A rq il C pr n at_ rqs st) {w w' : Way} {a : Addr} (h1 : (w, a) ∈ il) (h2 : (w', a) ∈ il) : w = w' := by
  have := h.nd
  rw [show A.ys ++ rq :: il.map (·.2) = (A.ys ++ [rq]) ++ il.map (·.2) by simp] at this
  have nd := (List.nodup_append.mp this).2.1
  have := nodup_inj nd h1 h2 rfl
  exact congrArg Prod.fst this
theorem CmAt.ilw' (h : CmAt G A rq il C pr n at_ rqs st) {w : Way} {a a' : Addr} (h1 : (w, a) ∈ il) (h2 : (w, a') ∈ il) : a = a' := congrArg Prod.snd (nodup_inj h.ilw h1 h2 rfl)
theorem CmAt.placed (h : CmAt G A rq il C pr n at_ rqs st) (w : Way) (c : PCell) (b : Nat) {xs : List Addr} (k : Keep G G' xs) (hx : ∀ x ∈ xs, x = rq ∨ x = A.sd ∨ x = A.ent ∨ (∃ p c0, w = p ++ [c0] ∧ (p, x) ∈ il))
    (hse : SealC G' A.s A.sd (addC st.cs c)) {ek : List (D × D)} (he : G A.ent = some (.dct .nk ek)) (he1 : ∀ w, dget ek (wD w) = (st.E w).map entD) (he2 : ek.length ≤ 10 * (il.length + st.wr.length) + 1) (he' : G' A.ent = some (.dct .nk (dput ek (wD w) (entD (newE st c b)))))
    (hrq : G' rq = some (.lst (rqs ++ [reqW (b, c)]))) (hil : ∀ p c0 a, w = p ++ [c0] → (p, a) ∈ il → ∃ es, st.I p = some es ∧ G' a = some (.lst ((es.set c0 (newE st c b)).map entD))) (hw : st.wr.length < 1000) : CmAt G' A rq il C pr n at_ (rqs ++ [reqW (b, c)]) (place st w c b) := by
  have nx : ∀ y, y ∈ A.ys → y ≠ A.sd → y ≠ A.ent → y ∉ xs := fun y hy h1 h2 hy2 => by
    rcases hx y hy2 with z | z | z | ⟨p, c0, _, z⟩
    · have nd := h.nd
      rw [show A.ys ++ rq :: il.map (·.2) = A.ys ++ (rq :: il.map (·.2)) from rfl] at nd
      exact (List.nodup_append.mp nd).2.2 y hy rq List.mem_cons_self z
    · exact h1 z
    · exact h2 z
    · exact h.ilne z y (List.mem_append_left _ hy) rfl
  have nd := h.nd
  refine ⟨k _ _ h.o (nx _ (by simp [CmA.ys]) (Nd.ne nd 0 3) (Nd.ne nd 0 7)), h.sh.keep k (nx _ (by simp [CmA.ys]) (Nd.ne nd 1 3) (Nd.ne nd 1 7)), hse, k _ _ h.ch (nx _ (by simp [CmA.ys]) (Nd.ne nd 4 3) (Nd.ne nd 4 7)), k _ _ h.fr (nx _ (by simp [CmA.ys]) (Nd.ne nd 5 3) (Nd.ne nd 5 7)),
    k _ _ h.inn (nx _ (by simp [CmA.ys]) (Nd.ne nd 6 3) (Nd.ne nd 6 7)), h.ilw, fun v a hva => ?_, fun v es hv => ?_, ⟨_, he', fun v => ?_, ?_⟩, k _ _ h.ord (nx _ (by simp [CmA.ys]) (Nd.ne nd 8 3) (Nd.ne nd 8 7)), hrq, h.nd, ⟨h.small.1, by show (st.wr ++ [(b, c)]).length ≤ 1000; rw [List.length_append, List.length_singleton]; omega⟩, h.cok⟩
  · obtain ⟨es, h1, h2⟩ := h.ils v a hva
    by_cases hp : w ≠ [] ∧ v = w.dropLast
    · obtain ⟨hw0, rfl⟩ := hp
      obtain ⟨p, c0, rfl⟩ : ∃ p c0, w = p ++ [c0] := ⟨w.dropLast, w.getLast hw0, (List.dropLast_concat_getLast hw0).symm⟩
      rw [List.dropLast_concat] at h1 hva ⊢
      obtain ⟨es', h3, h4⟩ := hil p c0 a rfl hva
      rw [h1] at h3
      cases h3
      refine ⟨es.set c0 (newE st c b), ?_, h4⟩
      show (if p ++ [c0] ≠ [] ∧ p = (p ++ [c0]).dropLast then _ else _) = _
      rw [if_pos ⟨by simp, by rw [List.dropLast_concat]⟩, h1, getLastD_snoc]
      rfl
    · refine ⟨es, (if_neg hp).trans h1, k _ _ h2 fun hax => ?_⟩
      rcases hx a hax with z | z | z | ⟨p, c0, z1, z2⟩
      · exact h.ilne hva rq (by simp) z.symm
      · exact h.ilne hva A.sd (by simp [CmA.ys]) z.symm
      · exact h.ilne hva A.ent (by simp [CmA.ys]) z.symm
      · have := h.ilinj hva z2
        exact hp ⟨by rw [z1]; simp, by rw [z1, List.dropLast_concat]; exact this⟩
  · have hv2 : (if w ≠ [] ∧ v = w.dropLast then (st.I v).map fun es => es.set (w.getLastD 0) (newE st c b) else st.I v) = some es := hv
    by_cases hp : w ≠ [] ∧ v = w.dropLast
    · rw [if_pos hp] at hv2
      obtain ⟨es', h1, _⟩ := Option.map_eq_some_iff.mp hv2
      exact h.ilI v es' h1
    · rw [if_neg hp] at hv2
      exact h.ilI v es hv2
  · rw [dget_dput]
    by_cases e : v = w
    · subst e
      rw [if_pos rfl]
      show _ = (if v = v then some (newE st c b) else st.E v).map entD
      rw [if_pos rfl]; rfl
    · rw [if_neg (fun z => e (wD_inj z)), he1]
      show _ = (if v = w then some (newE st c b) else st.E v).map entD
      rw [if_neg e]
  · have := dput_length ek (wD w) (entD (newE st c b))
    show _ ≤ 10 * (il.length + (st.wr ++ [(b, c)]).length) + 1
    rw [List.length_append, List.length_singleton]
    omega
end
theorem wD_emp (w : Way) : (intsD w).isEmpty = w.isEmpty := by cases w <;> rfl
theorem rdp_commit_place (m : Gm) (ds : List D) (G : GH) (Q : GQ) (h : sp_commit_place m ds G Q) : rd_commit_place m (bodyEnds Q) (gstart N_commit_place ds) G := by
  obtain ⟨A, rq, il, C, pr, n, at_, rqs, st, w, c, b, rfl, h, hrl, hcs, hwr, hw, k⟩ := h
  rw [show gstart N_commit_place [.ref A.t, wD w, cellD c, .int b] = [some (.ref A.t), some (wD w), some (cellD c), some (.int b), none, none] from rfl]
  unfold rd_commit_place
  have nd := h.nd
  have n09 := Nd.ne nd 0 9
  have n29 := Nd.ne nd 2 9
  have n39 := Nd.ne nd 3 9
  have n79 := Nd.ne nd 7 9
  have n69 := Nd.ne nd 6 9
  refine go (i_fldR h.o (d := .ref rq) rfl (go (i_lm1 h.hrq (go (i_app h.hrq (by show rqs.length < 100000; omega) (go ?_))))))
  have o1 : (G.set rq (.lst (rqs ++ [reqW (b, c)]))) A.t = some (.ins .commit (cmF A rq pr n C.an at_)) := by rw [set_ne n09]; exact h.o
  have se1 : SealC (G.set rq (.lst (rqs ++ [reqW (b, c)]))) A.s A.sd st.cs := h.se.keep (Keep.put (p := rq)) (by simp [n29]) (by simp [n39])
  refine i_fldR o1 (d := .ref A.s) rfl (go (i_methR se1.1 (sp := sp_sealer_mark) rfl (go (i_mark se1 (by show st.cs.length < 100000; omega) fun G2 se2 k2 => go ?_))))
  obtain ⟨ek, he, he1, he2⟩ := h.ent
  have n03 := Nd.ne nd 0 3
  have n73 := Nd.ne nd 7 3
  have n63 := Nd.ne nd 6 3
  have o2 := k2 _ _ o1 (by simp [n03])
  have e2 : G2 A.ent = some (.dct .nk ek) := k2 _ _ (by rw [set_ne n79]; exact he) (by simp [n73])
  have nE : D.tup [.int b, .int (markC (addC st.cs c) c : Nat)] = entD (newE st c b) := rfl
  rw [nE]
  have hsm := h.small
  refine i_fldR o2 (d := .ref A.ent) rfl (go (i_putN e2 (pkd_ints w) (by show ek.length < 100000; omega) (go ?_)))
  rw [show D.tup (intsD w) = wD w from rfl]
  have kk : Keep G (G2.set A.ent (.dct .nk (dput ek (wD w) (entD (newE st c b))))) [rq, A.sd, A.ent] := (((Keep.put (p := rq)).trans k2).trans (Keep.put (p := A.ent))).sub (by simp)
  have n27 := Nd.ne nd 2 7
  have n37 := Nd.ne nd 3 7
  have se3 : SealC (G2.set A.ent (.dct .nk (dput ek (wD w) (entD (newE st c b))))) A.s A.sd (addC st.cs c) := se2.keep (Keep.put (p := A.ent)) (by simp [n27]) (by simp [n37])
  have rq3 : (G2.set A.ent (.dct .nk (dput ek (wD w) (entD (newE st c b))))) rq = some (.lst (rqs ++ [reqW (b, c)])) := by
    rw [set_ne n79.symm]
    exact k2 _ _ set_same (by simp [n39.symm])
  have e3 : (G2.set A.ent (.dct .nk (dput ek (wD w) (entD (newE st c b))))) A.ent = some (.dct .nk (dput ek (wD w) (entD (newE st c b)))) := set_same
  generalize (G2.set A.ent (.dct .nk (dput ek (wD w) (entD (newE st c b))))) = G3 at kk se3 rq3 e3
  refine ⟨!(intsD w).isEmpty, rfl, ?_⟩
  rw [wD_emp]
  by_cases hw0 : w = []
  · subst hw0
    rw [show ([] : Way).isEmpty = true from rfl]
    refine go ?_
    refine k G3 (h.placed [] c b kk (fun x hx => ?_) se3 he he1 he2 e3 rq3 (fun p c0 a z _ => by simp at z) hwr) (kk.sub fun x hx => ?_)
    · simp only [List.mem_cons, List.not_mem_nil, or_false] at hx
      rcases hx with rfl | rfl | rfl
      · exact .inl rfl
      · exact .inr (.inl rfl)
      · exact .inr (.inr (.inl rfl))
    · simp only [List.mem_cons, List.not_mem_nil, or_false] at hx
      rcases hx with rfl | rfl | rfl <;> simp [cmYs, CmA.ys]
  · obtain ⟨p, c0, rfl⟩ : ∃ p c0, w = p ++ [c0] := ⟨w.dropLast, w.getLast hw0, (List.dropLast_concat_getLast hw0).symm⟩
    rw [show (p ++ [c0]).isEmpty = false by cases p <;> rfl]
    obtain ⟨es, hes, hc0⟩ := hw hw0
    rw [List.dropLast_concat] at hes
    rw [getLastD_snoc] at hc0
    obtain ⟨a, ha⟩ := h.ilI p es hes
    obtain ⟨es', h1, h2⟩ := h.ils p a ha
    rw [hes] at h1
    cases h1
    have hn := h.ilne ha
    have a3 : G3 a = some (.lst (es.map entD)) := kk _ _ h2 (by simp [(hn rq (by simp)).symm, (hn A.sd (by simp [CmA.ys])).symm, (hn A.ent (by simp [CmA.ys])).symm])
    have n67 := Nd.ne nd 6 7
    have i3 : G3 A.inn = some (.dct .nk (ilK il)) := kk _ _ h.inn (by simp [n69, n63, n67])
    have n07 := Nd.ne nd 0 7
    have o3 : G3 A.t = _ := kk _ _ h.o (by simp [n09, n03, n07])
    refine go (i_fldR o3 (d := .ref A.inn) rfl (go ?_))
    have ecut : gCut (wD (p ++ [c0])) none (some (-1)) G3 = fun Q => Q (wD p) G3 := by
      funext Q
      show Q (.tup (cutD _ _ _)) G3 = _
      rw [cut_last, intsD_app]
      show Q (.tup ((intsD p ++ [D.int c0]).dropLast)) G3 = _
      rw [List.dropLast_concat]
      rfl
    rw [ecut]
    refine i_ixN i3 (pkd_ints p) (ilK_get h.ilw ha) (go (i_ixT (ds := intsD (p ++ [c0])) (d := .int c0) (by rw [intsD_app]; exact atI_last) (go (i_putL a3 (jj := c0) ?_ (go ?_)))))
    · rw [ixN_nat (by omega) (by rw [List.length_map]; omega)]
      simp
    · have eset : (es.map entD).set c0 (entD (newE st c b)) = (es.set c0 (newE st c b)).map entD := by rw [List.map_set]
      rw [eset]
      have kk4 : Keep G (G3.set a (.lst ((es.set c0 (newE st c b)).map entD))) [rq, A.sd, A.ent, a] := (kk.sub (by simp)).set (by simp)
      have n2 := (hn A.s (by simp [CmA.ys]))
      refine k _ (h.placed (p ++ [c0]) c b kk4 (fun x hx => ?_) (se3.keep (Keep.put (p := a)) (by simp [n2]) (by simp [hn A.sd (by simp [CmA.ys])])) he he1 he2 (by rw [set_ne (hn A.ent (by simp [CmA.ys]))]; exact e3) (by rw [set_ne (hn rq (by simp))]; exact rq3) (fun p' c0' a' z ha' => ?_) hwr) (kk4.sub fun x hx => ?_)
      · simp only [List.mem_cons, List.not_mem_nil, or_false] at hx
        rcases hx with rfl | rfl | rfl | rfl
        · exact .inl rfl
        · exact .inr (.inl rfl)
        · exact .inr (.inr (.inl rfl))
        · exact .inr (.inr (.inr ⟨p, c0, rfl, ha⟩))
      · obtain ⟨z1, z2⟩ := List.append_inj' z rfl
        have z3 : c0 = c0' := by simpa using z2
        subst z1 z3
        have := h.ilw' ha ha'
        subst this
        exact ⟨es, hes, set_same⟩
      · simp only [List.mem_cons, List.not_mem_nil, or_false] at hx
        rcases hx with rfl | rfl | rfl | rfl
        · simp [cmYs]
        · simp [cmYs, CmA.ys]
        · simp [cmYs, CmA.ys]
        · exact List.mem_append_right _ (List.mem_cons_of_mem _ (List.mem_map.mpr ⟨_, ha, rfl⟩))
theorem len_commit_place (m : Gm) (ds : List D) (G : GH) (Q : GQ) (h : sp_commit_place m ds G Q) : ds.length = 4 := by obtain ⟨A, rq, il, C, pr, n, at_, rqs, st, w, c, b, rfl, _⟩ := h; rfl
theorem rdp_commit_next_request (m : Gm) (hm : OkC m .commit) (ds : List D) (G : GH) (Q : GQ) (h : sp_commit_next_request m ds G Q) : rd_commit_next_request m (bodyEnds Q) (gstart N_commit_next_request ds) G := by
  obtain ⟨A, rq, il, C, pr, n, at_, rqs, x, st, rfl, h, k⟩ := h
  rw [show gstart N_commit_next_request [.ref A.t] = [some (.ref A.t)] from rfl]
  unfold rd_commit_next_request
  have n09 := Nd.ne h.nd 0 9
  refine go (i_fldR h.o (d := .ref rq) rfl (go (i_lm1 h.hrq (go (i_popL h.hrq (go (i_setFR (by rw [set_ne n09]; exact h.o) (hm _ (by decide)) (by exact (by decide : 12 < 100)) (go ?_))))))))
  have h1 : CmAt (G.set rq (.lst rqs)) A rq il C pr n at_ rqs st := by
    have k1 : Keep G (G.set rq (.lst rqs)) [rq] := Keep.put
    have nx : ∀ y ∈ A.ys, y ∉ [rq] := fun y hy z => by
      rw [List.mem_singleton] at z
      have nd := h.nd
      exact (List.nodup_append.mp nd).2.2 y hy rq List.mem_cons_self z
    refine ⟨k1 _ _ h.o (nx _ (by simp [CmA.ys])), h.sh.keep k1 (nx _ (by simp [CmA.ys])), h.se.keep k1 (nx _ (by simp [CmA.ys])) (nx _ (by simp [CmA.ys])), k1 _ _ h.ch (nx _ (by simp [CmA.ys])), k1 _ _ h.fr (nx _ (by simp [CmA.ys])), k1 _ _ h.inn (nx _ (by simp [CmA.ys])), h.ilw, fun w a hw => ?_, h.ilI, ?_, k1 _ _ h.ord (nx _ (by simp [CmA.ys])), set_same, h.nd, h.small, h.cok⟩
    · obtain ⟨es, z1, z2⟩ := h.ils w a hw
      exact ⟨es, z1, k1 _ _ z2 (by simp [(h.ilne hw rq (by simp)).symm])⟩
    · obtain ⟨ek, z1, z2⟩ := h.ent
      exact ⟨ek, k1 _ _ z1 (nx _ (by simp [CmA.ys])), z2⟩
  exact k _ h1.put (((Keep.put (p := rq)).trans (Keep.put (p := A.t))).sub (by simp))
theorem len_commit_next_request (m : Gm) (ds : List D) (G : GH) (Q : GQ) (h : sp_commit_next_request m ds G Q) : ds.length = 1 := by obtain ⟨A, rq, il, C, pr, n, at_, rqs, x, st, rfl, _⟩ := h; rfl
/-! ### sizes -/
theorem found_len' (f d : Nat) : ∀ (is : List Nat) (acc : List D), (is.foldl (fun acc i => (List.range d).foldl (fun acc l => addT acc (tkD f d i l)) acc) acc).length ≤ acc.length + is.length * d
  | [], acc => by simp
  | i :: is, acc => by
    rw [List.foldl_cons, List.length_cons]
    have h1 := found_len' f d is ((List.range d).foldl (fun acc l => addT acc (tkD f d i l)) acc)
    have h2 : ∀ (ls : List Nat) (acc : List D), (ls.foldl (fun acc l => addT acc (tkD f d i l)) acc).length ≤ acc.length + ls.length := by
      intro ls
      induction ls with
      | nil => intro acc; exact Nat.le_refl _
      | cons l ls ih =>
        intro acc
        have a := ih (addT acc (tkD f d i l))
        have b := addT_len acc (tkD f d i l)
        rw [List.foldl_cons, List.length_cons]
        omega
    have h3 := h2 (List.range d) acc
    rw [List.length_range] at h3
    rw [Nat.add_mul]
    omega
theorem prefW_len (f d : Nat) (is : List Nat) : (prefW f d is).length ≤ is.length * d := by
  unfold prefW prefD
  rw [List.length_map, (List.mergeSort_perm _ _).length_eq]
  have := found_len' f d is []
  simpa [foundD] using this
theorem isC_len (chg : Chg) : (isC chg).length = chg.length := by unfold isC; rw [srt_len, List.length_map]
theorem CmC.pref_len {C : CmC} (ok : C.Ok) (d6 : C.S.d ≤ 6) : (prefW C.S.f C.S.d (isC C.chg)).length ≤ 384 := by
  have h1 := prefW_len C.S.f C.S.d (isC C.chg)
  rw [isC_len] at h1
  have h2 := Nat.mul_le_mul ok.cl d6
  omega
theorem CmC.ord_len {C : CmC} (ok : C.Ok) (d6 : C.S.d ≤ 6) : C.ord.length ≤ 384 := by
  unfold CmC.ord
  rw [(ordW_perm _ _ _).length_eq]
  exact C.pref_len ok d6
theorem planL_wl (fr : Nat → Nat) (lv : List (Way × List Nat)) (st : PSt) (k : Nat) : (planL fr st k lv).wr.length = st.wr.length + lv.length := by
  have := congrArg List.length (planL_wr fr lv st k)
  simpa using this
theorem planW_wl (fr : Nat → Nat) (ws : List Way) (st : PSt) (k : Nat) : (planW fr st k ws).wr.length = st.wr.length + ws.length := by
  have := congrArg List.length (planW_wr fr ws st k)
  simpa using this
/-! ### the inner lists keep their lengths -/
def ILen (st : PSt) (w : Way) (k : Nat) : Prop := ∃ es, st.I w = some es ∧ es.length = k
theorem ILen.place {st : PSt} {w v : Way} {k : Nat} {c : PCell} {b : Nat} (h : ILen st w k) : ILen (place st v c b) w k := by
  obtain ⟨es, h1, h2⟩ := h
  by_cases hp : v ≠ [] ∧ w = v.dropLast
  · exact ⟨es.set (v.getLastD 0) (newE st c b), by show (if v ≠ [] ∧ w = v.dropLast then _ else _) = _; rw [if_pos hp, h1]; rfl, by rw [List.length_set]; exact h2⟩
  · exact ⟨es, (if_neg hp).trans h1, h2⟩
theorem ILen.planL {fr : Nat → Nat} {w : Way} {k : Nat} : ∀ {lv : List (Way × List Nat)} {st : PSt} {j : Nat}, ILen st w k → ILen (planL fr st j lv) w k
  | [], _, _, h => h
  | _ :: _, _, _, h => (h.place).planL
theorem ILen.planW {fr : Nat → Nat} {w : Way} {k : Nat} : ∀ {ws : List Way} {st : PSt} {j : Nat}, ILen st w k → ILen (planW fr st j ws) w k
  | [], _, _, h => h
  | _ :: _, _, _, h => (h.place).planW
theorem holds_path {cs : List PCell} {f : Nat} : ∀ {ws : Way} {h : Nat} {r : Ent} {gg : Way → List Nat}, Holds cs f h r.2 gg → ws.length ≤ h → (∀ x ∈ ws, x < f) → Holds cs f (h - ws.length) (pathE cs r ws).2 fun v => gg (ws ++ v)
  | [], h, r, gg, hh, _, _ => hh
  | k :: ws, 0, r, gg, hh, hle, hlt => by simp at hle
  | k :: ws, h + 1, r, gg, ⟨es', z1, z2, z3⟩, hle, hlt => by
    have hki : k < es'.length := by rw [z2]; exact hlt k List.mem_cons_self
    have hxk : es'[k]? = some es'[k] := List.getElem?_eq_getElem hki
    have hs : stepE cs r k = es'[k] := by unfold stepE; rw [kids_node z1, hxk]; rfl
    have := holds_path (ws := ws) (r := stepE cs r k) (gg := fun v => gg (k :: v)) (by rw [hs]; exact z3 k _ hxk) (by simpa using hle) fun x hx => hlt x (List.mem_cons_of_mem _ hx)
    rw [List.length_cons, show h + 1 - (ws.length + 1) = h - ws.length by omega]
    exact this
section
variable {C : CmC} {cs : List PCell} {g : Way → List Nat}
theorem CmC.ordm {w : Way} : w ∈ C.ord ↔ w ∈ prefW C.S.f C.S.d (isC C.chg) := (ordW_perm _ _ _).mem_iff
theorem CmC.node_at (H : Holds cs C.S.f C.S.d C.r0.2 g) (f0 : 0 < C.S.f) {w : Way} (hw : w ∈ C.ord) : ∃ es, cellAt cs (pathE cs C.r0 w).2 = some (.node es) ∧ es.length = C.S.f ∧ ∀ c, c < C.S.f → es[c]? = some (pathE cs C.r0 (w ++ [c])) := by
  obtain ⟨h1, h2⟩ := Tch.of_inner (CmC.ordm.mp hw)
  have h3 := h1.lt f0
  have hh := holds_path (ws := w) H h3.1 h3.2
  rw [show C.S.d - w.length = (C.S.d - w.length - 1) + 1 by omega] at hh
  obtain ⟨es, z1, z2, z3⟩ := hh
  refine ⟨es, z1, z2, fun c hc => ?_⟩
  have hx : es[c]? = some es[c] := List.getElem?_eq_getElem (by omega)
  rw [pathE_snoc, hx]
  unfold stepE
  rw [kids_node z1, hx]
  rfl
theorem CmC.ilen0 (H : Holds cs C.S.f C.S.d C.r0.2 g) (f0 : 0 < C.S.f) {w : Way} (hw : w ∈ C.ord) : ILen (st0 C.S.f cs C.r0 C.ord) w C.S.f := by
  obtain ⟨es, z1, z2, _⟩ := C.node_at H f0 hw
  refine ⟨es, ?_, z2⟩
  show (if w ∈ C.ord then some (kidsOf cs (pathE cs C.r0 w).2) else none) = _
  rw [if_pos hw, kids_node z1]
/-- what stands above a touched way -/
theorem CmC.par {w : Way} (f0 : 0 < C.S.f) (hw : Tch C.S.f C.S.d (isC C.chg) w) (h0 : w ≠ []) : w.dropLast ∈ C.ord ∧ w.getLastD 0 < C.S.f := by
  obtain ⟨p, c0, rfl⟩ : ∃ p c0, w = p ++ [c0] := ⟨w.dropLast, w.getLast h0, (List.dropLast_concat_getLast h0).symm⟩
  rw [List.dropLast_concat, getLastD_snoc]
  have h1 := hw.lt f0
  refine ⟨CmC.ordm.mpr (hw.up.inner ?_), h1.2 c0 (by simp)⟩
  have := h1.1
  rw [List.length_append, List.length_singleton] at this
  omega
/-- the entry of the cell that is read next -/
theorem CmC.rdE_at (f0 : 0 < C.S.f) {l : Nat} {w : Way} (hw : C.ord[l]? = some w) : rdE C.S.f cs C.r0 (C.ord.take l) w = some (pathE cs C.r0 w) := by
  unfold rdE
  by_cases h0 : w = []
  · subst h0; rw [if_pos rfl]; rfl
  · rw [if_neg h0]
    have hm := List.mem_of_getElem? hw
    obtain ⟨h1, h2⟩ := Tch.of_inner (CmC.ordm.mp hm)
    obtain ⟨h3, h4⟩ := CmC.par f0 h1 h0
    refine if_pos ⟨?_, h4⟩
    obtain ⟨j, hj⟩ := List.getElem?_of_mem h3
    have hl : w.dropLast.length < w.length := by rw [List.length_dropLast]; have := List.length_pos_iff.mpr h0; omega
    have hjl : j < l := by
      have pw : C.ord.Pairwise fun a b => a.length < b.length ∨ (a.length = b.length ∧ zs a ≤ zs b) := ordW_pair _ _ _
      by_cases e : j < l
      · exact e
      · exfalso
        by_cases e2 : j = l
        · subst e2; rw [hj] at hw; have := Option.some.inj hw; rw [this] at hl; omega
        · have h5 := (List.getElem?_eq_some_iff.mp hw)
          have h6 := (List.getElem?_eq_some_iff.mp hj)
          have := List.pairwise_iff_getElem.mp pw l j h5.1 h6.1 (by omega)
          rw [h5.2, h6.2] at this
          omega
    exact List.mem_iff_getElem?.mpr ⟨j, by rw [List.getElem?_take_of_lt hjl]; exact hj⟩
end
theorem chK_keys (chg : Chg) : (chK chg).map (·.1) = intsD (chg.map (·.1)) := by unfold chK intsD; rw [List.map_map, List.map_map]; rfl
theorem chK_get {chg : Chg} {i : Nat} {ws : List Nat} (h : getC chg i = some ws) : dget (chK chg) (.int i) = some (.tup (intsD ws)) := by
  unfold getC at h
  induction chg with
  | nil => simp at h
  | cons q chg ih =>
    rw [List.find?_cons] at h
    show dget ((D.int (q.1 : Nat), D.tup (intsD q.2)) :: chK chg) (.int i) = _
    by_cases e : q.1 = i
    · rw [decide_eq_true e] at h
      simp at h
      simp [dget, e, h]
    · rw [decide_eq_false e] at h
      have e2 : ¬ (q.1 : Int) = (i : Int) := by omega
      have := ih h
      simp [dget, e2, this]
theorem i_sortCh {G : GH} {Q : GQ} {ch : Addr} {chg : Chg} (h : G ch = some (.dct .ik (chK chg))) (k : ∀ p, G p = none → Q (.ref p) (G.set p (.lst (intsD (isC chg))))) : bSort [.ref ch] G Q := by
  refine ⟨intsD (chg.map (·.1)), ?_, .inl fun d hd => ?_, fun p hp => ?_⟩
  · unfold keysG
    simp only [h, chK_keys]
  · unfold intsD at hd
    obtain ⟨n, _, rfl⟩ := List.mem_map.mp hd
    exact ⟨_, rfl⟩
  · rw [sortD]
    exact k p hp
theorem getD_at {l : List Nat} {k : Nat} (h : k < l.length) : atI (intsD l) (k : Int) = some (.int (l.getD k 0 : Nat)) := by
  refine atI_ints ?_
  rw [List.getD_eq_getElem?_getD, List.getElem?_eq_getElem h]
  rfl
theorem CmAt.newrq {G G' : GH} {A : CmA} {rq rq' : Addr} {il : List (Way × Addr)} {C : CmC} {pr : D} {n : Int} {at_ : Nat} {rqs rqs' : List D} {st : PSt} (h : CmAt G A rq il C pr n at_ rqs st) (hr : G rq' = none)
    (k : Keep G G' [A.t]) (o : G' A.t = some (.ins .commit (cmF A rq' pr n C.an at_))) (hq : G' rq' = some (.lst rqs')) : CmAt G' A rq' il C pr n at_ rqs' st := by
  have nt : ∀ y ∈ A.ys ++ rq :: il.map (·.2), y ≠ A.t → y ∉ [A.t] := fun y _ h => by simp [h]
  have nd := h.nd
  have nr : ∀ y ∈ cmYs A rq il, y ≠ rq' := fun y hy z => by
    obtain ⟨o, h1, _⟩ := h.alloc y hy
    rw [z, hr] at h1; cases h1
  refine ⟨o, h.sh.keep k (by simp [(Nd.ne nd 1 0)]), h.se.keep k (by simp [(Nd.ne nd 2 0)]) (by simp [(Nd.ne nd 3 0)]), k _ _ h.ch (by simp [(Nd.ne nd 4 0)]), k _ _ h.fr (by simp [(Nd.ne nd 5 0)]), k _ _ h.inn (by simp [(Nd.ne nd 6 0)]), h.ilw, fun w a hw => ?_, h.ilI, ?_, k _ _ h.ord (by simp [(Nd.ne nd 8 0)]), hq, ?_, h.small, h.cok⟩
  · obtain ⟨es, z1, z2⟩ := h.ils w a hw
    exact ⟨es, z1, k _ _ z2 (by simp [(h.ilne hw A.t (by simp [CmA.ys])).symm])⟩
  · obtain ⟨ek, z1, z2⟩ := h.ent
    exact ⟨ek, k _ _ z1 (by simp [(Nd.ne nd 7 0)]), z2⟩
  · have n2 := List.nodup_append.mp nd
    have n3 := List.nodup_cons.mp n2.2.1
    refine List.nodup_append.mpr ⟨n2.1, List.nodup_cons.mpr ⟨fun z => nr rq' (List.mem_append_right _ (List.mem_cons_of_mem _ z)) rfl, n3.2⟩, fun a ha b hb => ?_⟩
    rcases List.mem_cons.mp hb with rfl | hb
    · exact nr a (List.mem_append_left _ ha)
    · exact n2.2.2 a ha b (List.mem_cons_of_mem _ hb)
theorem rdp_commit_plan (m : Gm) (hm : OkC m .commit) (ds : List D) (G : GH) (Q : GQ) (h : sp_commit_plan m ds G Q) : rd_commit_plan m (bodyEnds Q) (gstart N_commit_plan ds) G := by
  obtain ⟨A, rq, il, C, pr, n, at_, cs, g, rfl, h, T, hcs, hneed, hne, hcl, H, k⟩ := h
  rw [show gstart N_commit_plan [.ref A.t] = [some (.ref A.t), none, none, none, none, none] from rfl]
  unfold rd_commit_plan
  have d6 := h.sh.2.d6
  have d1 := h.sh.2.d1
  have f2 := h.sh.2.f2
  have f0 : 0 < C.S.f := by omega
  have cl := h.cok.cl
  have pl := C.pref_len h.cok d6
  have hnd : cs.Nodup := h.se.ndc
  have hneed2 : (lvC C.S.f C.S.d C.chg).length + (prefW C.S.f C.S.d (isC C.chg)).length ≤ C.fl.length := by rw [lvC_len]; exact hneed
  have hll : (lvC C.S.f C.S.d C.chg).length ≤ 64 := by rw [lvC_len]; exact cl
  refine go (i_fldR h.o (d := .ref A.ch) rfl (go (i_sortCh h.ch fun p0 hp0 => ?_)))
  have k0 := Keep.new (o := .lst (intsD (isC C.chg))) hp0 (cmYs A rq il)
  have np0 : ∀ y ∈ cmYs A rq il, y ≠ p0 := fun y hy => by obtain ⟨o, h1, _⟩ := h.alloc y hy; exact gne_none h1 hp0
  refine i_itL set_same ?_
  refine i_turns (fun i σ' G' => ∃ x2, σ' = [some (.ref A.t), some (.int i), x2, none, none, none] ∧ CmAt G' A rq il C pr n at_ ((planL C.fr (st0 C.S.f cs C.r0 C.ord) 0 ((lvC C.S.f C.S.d C.chg).take i)).wr.map reqW) (planL C.fr (st0 C.S.f cs C.r0 C.ord) 0 ((lvC C.S.f C.S.d C.chg).take i)) ∧ TabsG m G' ∧ Keep G G' (cmYs A rq il))
    ⟨none, rfl, h.keep (Keep.new hp0 []) (by simp), T.keep (Keep.new hp0 []), k0⟩ ?_ ?_
  · rintro i d σ' G' hi hok ⟨x2, rfl, h1, T1, kk⟩
    unfold intsD at hi
    rw [List.getElem?_map] at hi
    obtain ⟨j, hj, rfl⟩ := Option.map_eq_some_iff.mp hi
    have hji := List.mem_of_getElem? hj
    obtain ⟨ws, hws, hmem⟩ := getC_some (isC_mem.mp hji)
    have hil : i < (lvC C.S.f C.S.d C.chg).length := by
      have := (List.getElem?_eq_some_iff.mp hj).1
      rw [lvC_len, ← isC_len]; exact this
    have hlv : (lvC C.S.f C.S.d C.chg)[i]? = some (wayN C.S.f C.S.d j, ws) := by
      unfold lvC
      rw [List.getElem?_map, hj, Option.map_some, hws]
      rfl
    unfold rd_commit_plan_1
    refine go (i_methR h1.o (sp := sp_commit_place m) rfl (go (i_fldR h1.o (d := .ref A.p) rfl (go (i_methR h1.sh.1 (sp := sp_shape_way) rfl (go ⟨A.p, C.S, j, rfl, h1.sh, fun G2 k2 => go ?_⟩))))))
    have h2 := h1.keep k2 (by simp)
    have T2 := T1.keep k2
    refine i_fldR h2.o (d := .ref A.ch) rfl (go (i_ixI h2.ch rfl (chK_get hws) (go ⟨.tup (intsD ws), intsD ws, rfl, rfl, ?_, go ?_⟩)))
    · rw [intsD_len]
      exact Nat.lt_of_le_of_lt (h.cok.wl _ hmem) (by decide)
    have hlen1 : ((lvC C.S.f C.S.d C.chg).take i).length = i := by rw [List.length_take]; omega
    have hwl := planL_wl C.fr ((lvC C.S.f C.S.d C.chg).take i) (st0 C.S.f cs C.r0 C.ord) 0
    have hw0 : (st0 C.S.f cs C.r0 C.ord).wr.length = 0 := rfl
    have hcl2 := planL_len C.fr ((lvC C.S.f C.S.d C.chg).take i) (st0 C.S.f cs C.r0 C.ord) 0
    have hc0 : (st0 C.S.f cs C.r0 C.ord).cs.length = cs.length := rfl
    refine i_fldR h2.o (d := .ref A.fr) rfl (go (i_ixL h2.fr (getD_at (k := i) (by omega)) (go ⟨A, rq, il, C, pr, n, at_, _, _, wayN C.S.f C.S.d j, .leaf ws, C.fl.getD i 0, rfl, h2, ?_, ?_, ?_, fun hw => ?_, fun G3 h3 k3 => go ?_⟩)))
    · rw [List.length_map]; omega
    · omega
    · omega
    · obtain ⟨z1, z2⟩ := CmC.par f0 (Tch.of_leaf hji) hw
      obtain ⟨es, z3, z4⟩ := (CmC.ilen0 H f0 z1).planL (fr := C.fr) (lv := (lvC C.S.f C.S.d C.chg).take i) (j := 0)
      exact ⟨es, z3, by rw [z4]; exact z2⟩
    · have etk : (lvC C.S.f C.S.d C.chg).take (i + 1) = (lvC C.S.f C.S.d C.chg).take i ++ [(wayN C.S.f C.S.d j, ws)] := by rw [List.take_add_one, hlv]; rfl
      have epl : planL C.fr (st0 C.S.f cs C.r0 C.ord) 0 ((lvC C.S.f C.S.d C.chg).take (i + 1)) = place (planL C.fr (st0 C.S.f cs C.r0 C.ord) 0 ((lvC C.S.f C.S.d C.chg).take i)) (wayN C.S.f C.S.d j) (.leaf ws) (C.fl.getD i 0) := by
        rw [etk, planL_snoc, hlen1, Nat.zero_add]
        rfl
      have kk3 : Keep G G3 (cmYs A rq il) := (kk.same (k2.sub (by simp))).same k3
      refine ⟨?_, _, rfl, ?_, (h2.tabs T2 k3 fun x hx => hx), kk3⟩
      · exact k3 _ _ (k2 _ _ hok (by simp)) fun z => np0 p0 z rfl
      · rw [epl]
        show CmAt G3 A rq il C pr n at_ (List.map reqW ((planL C.fr (st0 C.S.f cs C.r0 C.ord) 0 ((lvC C.S.f C.S.d C.chg).take i)).wr ++ [(C.fl.getD i 0, PCell.leaf ws)])) _
        rw [List.map_append]
        exact h3
  · rintro σ' G' hok ⟨x2, rfl, h1, T1, kk⟩
    rw [intsD_len, isC_len, ← lvC_len C.S.f C.S.d, List.take_length] at h1
    have hlen : ((isC C.chg).length : Int) = ((lvC C.S.f C.S.d C.chg).length : Nat) := by rw [isC_len, lvC_len]
    rw [intsD_len, hlen]
    clear hok
    unfold rd_commit_plan_4
    have hwl := planL_wl C.fr (lvC C.S.f C.S.d C.chg) (st0 C.S.f cs C.r0 C.ord) 0
    have hw0 : (st0 C.S.f cs C.r0 C.ord).wr.length = 0 := rfl
    have hcl2 := planL_len C.fr (lvC C.S.f C.S.d C.chg) (st0 C.S.f cs C.r0 C.ord) 0
    have hc0 : (st0 C.S.f cs C.r0 C.ord).cs.length = cs.length := rfl
    generalize hst1 : planL C.fr (st0 C.S.f cs C.r0 C.ord) 0 (lvC C.S.f C.S.d C.chg) = st1 at h1 hwl hcl2
    refine go (i_fldR h1.o (d := .ref A.p) rfl (go (i_fldR h1.o (d := .ref A.ch) rfl (go (i_sortCh h1.ch fun p1 hp1 => go ⟨A.p, C.S, p1, isC C.chg, rfl, (h1.keep (Keep.new hp1 []) (by simp)).sh, set_same, by rw [isC_len]; exact cl, T1.keep (Keep.new hp1 []), fun l G2 hl hl0 k2 => ?_⟩)))))
    have kk2 : Keep G' G2 [] := ((Keep.new hp1 []).trans k2).sub (by simp)
    have h2 := h1.keep kk2 (by simp)
    have T2 := T1.keep kk2
    have gl : G' l = none := (Keep.new (o := .lst (intsD (isC C.chg))) hp1 []).fresh hl0 (by simp)
    have npl : ∀ y ∈ cmYs A rq il, y ≠ l := fun y hy => by obtain ⟨o, h1, _⟩ := h1.alloc y hy; exact gne_none h1 gl
    have kk3 : Keep G G2 (cmYs A rq il) := kk.same (kk2.sub (by simp))
    clear hp1 hl0 k2 h1 T1 kk kk2
    rw [prefD_map] at hl
    refine i_itL hl ?_
    refine i_turns (fun i σ' G' => ∃ x3, σ' = [some (.ref A.t), some (.int (((lvC C.S.f C.S.d C.chg).length + i : Nat) : Int)), x2, x3, none, none] ∧ CmAt G' A rq il C pr n at_ ((planW C.fr st1 (lvC C.S.f C.S.d C.chg).length ((prefW C.S.f C.S.d (isC C.chg)).take i)).wr.map reqW) (planW C.fr st1 (lvC C.S.f C.S.d C.chg).length ((prefW C.S.f C.S.d (isC C.chg)).take i)) ∧ TabsG m G' ∧ Keep G G' (cmYs A rq il))
      ⟨none, rfl, h2, T2, kk3⟩ ?_ ?_
    · rintro i d σ' G3 hi hok ⟨x3, rfl, h3, T3, kk⟩
      rw [List.getElem?_map] at hi
      obtain ⟨w, hw, rfl⟩ := Option.map_eq_some_iff.mp hi
      have hwm := List.mem_of_getElem? hw
      have hil := (List.getElem?_eq_some_iff.mp hw).1
      have hlen1 : ((prefW C.S.f C.S.d (isC C.chg)).take i).length = i := by rw [List.length_take]; omega
      have hwl2 := planW_wl C.fr ((prefW C.S.f C.S.d (isC C.chg)).take i) st1 (lvC C.S.f C.S.d C.chg).length
      have hcl3 := planW_len C.fr ((prefW C.S.f C.S.d (isC C.chg)).take i) st1 (lvC C.S.f C.S.d C.chg).length
      have hI : ∀ v ∈ C.ord, ILen (planW C.fr st1 (lvC C.S.f C.S.d C.chg).length ((prefW C.S.f C.S.d (isC C.chg)).take i)) v C.S.f := fun v hv => by
        rw [← hst1]
        exact ((CmC.ilen0 H f0 hv).planL).planW
      generalize hst2 : planW C.fr st1 (lvC C.S.f C.S.d C.chg).length ((prefW C.S.f C.S.d (isC C.chg)).take i) = st2 at h3 hwl2 hcl3 hI
      obtain ⟨es, z1, z2⟩ := hI w (CmC.ordm.mpr hwm)
      obtain ⟨a, ha⟩ := h3.ilI w es z1
      obtain ⟨es', y1, y2⟩ := h3.ils w a ha
      rw [z1] at y1
      cases y1
      have f4 := h.sh.2.f4
      unfold rd_commit_plan_2
      refine go (i_methR h3.o (sp := sp_commit_place m) rfl (go (i_fldR h3.o (d := .ref A.inn) rfl (go (i_ixN h3.inn (pkd_ints w) (ilK_get h3.ilw ha) (go ⟨.ref a, es.map entD, rfl, items_lst y2, ?_, go ?_⟩))))))
      · rw [List.length_map, z2]
        exact Nat.lt_of_le_of_lt f4 (by decide)
      refine i_fldR h3.o (d := .ref A.fr) rfl (go (i_ixL h3.fr (getD_at (k := (lvC C.S.f C.S.d C.chg).length + i) (by omega)) (go ⟨A, rq, il, C, pr, n, at_, _, _, w, .node es, C.fl.getD ((lvC C.S.f C.S.d C.chg).length + i) 0, rfl, h3, ?_, ?_, ?_, fun hw0' => ?_, fun G4 h4 k4 => go ?_⟩)))
      · rw [List.length_map]; omega
      · omega
      · omega
      · obtain ⟨q1, q2⟩ := CmC.par f0 (Tch.of_inner hwm).1 hw0'
        obtain ⟨es2, q3, q4⟩ := hI _ q1
        exact ⟨es2, q3, by rw [q4]; exact q2⟩
      · have etk : (prefW C.S.f C.S.d (isC C.chg)).take (i + 1) = (prefW C.S.f C.S.d (isC C.chg)).take i ++ [w] := by rw [List.take_add_one, hw]; rfl
        have epl : planW C.fr st1 (lvC C.S.f C.S.d C.chg).length ((prefW C.S.f C.S.d (isC C.chg)).take (i + 1)) = place st2 w (.node es) (C.fl.getD ((lvC C.S.f C.S.d C.chg).length + i) 0) := by
          rw [etk, planW_snoc, hst2, hlen1, z1]
          rfl
        have kk4 : Keep G G4 (cmYs A rq il) := kk.same k4
        refine ⟨k4 _ _ hok (fun z => npl l z rfl), some (wD w), ?_, ?_, (h3.tabs T3 k4 fun x hx => hx), kk4⟩
        · rw [show (((lvC C.S.f C.S.d C.chg).length + (i + 1) : Nat) : Int) = (((lvC C.S.f C.S.d C.chg).length + i : Nat) : Int) + 1 by omega]
        · rw [epl]
          show CmAt G4 A rq il C pr n at_ (List.map reqW (st2.wr ++ [(C.fl.getD ((lvC C.S.f C.S.d C.chg).length + i) 0, PCell.node es)])) _
          rw [List.map_append]
          exact h4
    · rintro σ' G3 hok ⟨x3, rfl, h3, T3, kk⟩
      rw [List.length_map, List.take_length] at h3
      rw [List.length_map]
      have epl : planW C.fr st1 (lvC C.S.f C.S.d C.chg).length (prefW C.S.f C.S.d (isC C.chg)) = C.pl cs := by
        rw [← hst1]
        rfl
      rw [epl] at h3
      obtain ⟨_, _, e, he, _⟩ := plan_ok (fr := C.fr) f0 (by omega) hnd H h.cok.ch hne
      have he2 : C.e cs = e := by unfold CmC.e CmC.pl; rw [he]; rfl
      have hwlen : (C.pl cs).wr.length = C.need := by
        have := congrArg List.length (plan_wr C.S.f C.S.d C.chg cs C.r0 C.fr)
        rw [List.length_map, List.length_map, List.length_range] at this
        exact this
      have hneedle : C.need ≤ 448 := by unfold CmC.need needN; omega
      unfold rd_commit_plan_3
      obtain ⟨ek, e1, e2, e3⟩ := h3.ent
      have hget : dget ek (D.tup []) = some (entD e) := by
        have := e2 []
        rw [show (C.pl cs).E [] = some e from he] at this
        exact this
      have rl := h.cok.rl
      refine go (i_fldR h3.o (d := .ref A.ent) rfl (go (i_ixN e1 (pkd_ints []) hget (go (i_fldR h3.o (d := C.an) rfl (go (i_ixT (d := .tup (entD C.r0 :: C.rs.map entD)) rfl (go (i_addT (by rw [List.length_map]; show 1 + C.rs.length ≤ 100000; omega) (go ?_))))))))))
      refine i_fldR h3.o (d := C.an) rfl (go (i_ixT (d := .int C.ep) rfl (go ?_)))
      refine i_fldR h3.o (d := .ref rq) rfl (go fun q hq => ?_)
      have nq0 := gne_none h3.hrq hq
      refine i_addL (ds := (C.pl cs).wr.map reqW) (by rw [set_ne nq0]; exact h3.hrq) set_same (by rw [List.length_map]; show _ + 3 ≤ 100000; omega) fun rq' hrq' => go ?_
      have nrt : A.t ≠ rq' := gne_none ((Keep.new hq []) _ _ h3.o (by simp)) hrq'
      have ntq : A.t ≠ q := gne_none h3.o hq
      refine i_setFR (by rw [set_ne nrt, set_ne ntq]; exact h3.o) (hm _ (by decide)) (by exact (by decide : 12 < 100)) (go (i_fldR set_same (d := .ref rq') rfl (go (i_lm1 (by rw [set_ne nrt.symm]; exact set_same) (go (i_rev (by rw [set_ne nrt.symm]; exact set_same) (go ?_)))))))
      have g3r : G3 rq' = none := (Keep.new hq []).fresh hrq' (by simp)
      have kfin : Keep G3 ((((G3.set q (.lst [reqD "flush" [], reqD "anchor" [newAn C e], doneR (.tup [.str "committed", newAn C e])])).set rq' (.lst ((C.pl cs).wr.map reqW ++ lastR C e))).set A.t (.ins .commit (cmF A rq' pr n C.an at_))).set rq' (.lst ((C.pl cs).wr.map reqW ++ lastR C e).reverse)) [A.t] := fun b o hb nb => by
        have n1 : b ≠ A.t := fun z => nb (by rw [z]; simp)
        rw [set_ne (gne_none hb g3r), set_ne n1, set_ne (gne_none hb g3r), set_ne (gne_none hb hq)]
        exact hb
      have key := k rq' _ (h3.newrq (rqs' := (C.reqs cs).reverse) g3r kfin (by rw [set_ne nrt]; exact set_same) (by rw [set_same]; unfold CmC.reqs; rw [he2])) (kk.same (kfin.sub fun x hx => by simp only [List.mem_singleton] at hx; rw [hx]; simp [cmYs, CmA.ys])) (kk.fresh g3r fun z => by
        obtain ⟨o, y1, _⟩ := h3.alloc rq' z
        rw [g3r] at y1; cases y1)
      exact key
theorem len_commit_plan (m : Gm) (ds : List D) (G : GH) (Q : GQ) (h : sp_commit_plan m ds G Q) : ds.length = 1 := by obtain ⟨A, rq, il, C, pr, n, at_, cs, g, rfl, _⟩ := h; rfl
section
variable {C : CmC} {cs : List PCell} {l : Nat} {w : Way}
theorem take_succ' (hw : C.ord[l]? = some w) : C.ord.take (l + 1) = C.ord.take l ++ [w] := by rw [List.take_add_one, hw]; rfl
theorem not_take (hw : C.ord[l]? = some w) : w ∉ C.ord.take l := fun z => by
  obtain ⟨j, hj⟩ := List.mem_iff_getElem?.mp z
  have hjl : j < l := by
    have := (List.getElem?_eq_some_iff.mp hj).1
    rw [List.length_take] at this
    omega
  rw [List.getElem?_take_of_lt hjl] at hj
  have nd : C.ord.Nodup := ordW_nodup _ _ _
  have := (List.getElem?_inj (List.getElem?_eq_some_iff.mp hj).1 nd).mp (hj.trans hw.symm)
  omega
theorem rdI_old (hw : C.ord[l]? = some w) {v : Way} (hv : v ≠ w) : (C.rd cs (l + 1)).I v = (C.rd cs l).I v := by
  show (if v ∈ C.ord.take (l + 1) then _ else _) = if v ∈ C.ord.take l then _ else _
  rw [take_succ' hw]
  by_cases h : v ∈ C.ord.take l
  · rw [if_pos h, if_pos (List.mem_append_left _ h)]
  · rw [if_neg h, if_neg (fun z => by
      rcases List.mem_append.mp z with z | z
      · exact h z
      · exact hv (List.mem_singleton.mp z))]
theorem rdI_new (hw : C.ord[l]? = some w) : (C.rd cs (l + 1)).I w = some (kidsOf cs (pathE cs C.r0 w).2) := by
  show (if w ∈ C.ord.take (l + 1) then _ else _) = _
  rw [take_succ' hw, if_pos (by simp)]
theorem rdE_succ (hw : C.ord[l]? = some w) (v : Way) : (C.rd cs (l + 1)).E v = if v ≠ [] ∧ v.dropLast = w ∧ v.getLastD 0 < C.S.f then some (pathE cs C.r0 v) else (C.rd cs l).E v := by
  show (if v = [] then some C.r0 else if v.dropLast ∈ C.ord.take (l + 1) ∧ v.getLastD 0 < C.S.f then some (pathE cs C.r0 v) else none) = if v ≠ [] ∧ v.dropLast = w ∧ v.getLastD 0 < C.S.f then some (pathE cs C.r0 v) else if v = [] then some C.r0 else if v.dropLast ∈ C.ord.take l ∧ v.getLastD 0 < C.S.f then some (pathE cs C.r0 v) else none
  rw [take_succ' hw]
  by_cases h0 : v = []
  · rw [if_pos h0, if_neg (fun z => z.1 h0), if_pos h0]
  · rw [if_neg h0, if_neg h0]
    by_cases h1 : v.getLastD 0 < C.S.f
    · by_cases h2 : v.dropLast = w
      · rw [if_pos ⟨by rw [h2]; simp, h1⟩, if_pos ⟨h0, h2, h1⟩]
      · rw [if_neg (c := v ≠ [] ∧ v.dropLast = w ∧ v.getLastD 0 < C.S.f) (fun z => h2 z.2.1)]
        by_cases h3 : v.dropLast ∈ C.ord.take l
        · rw [if_pos ⟨List.mem_append_left _ h3, h1⟩, if_pos ⟨h3, h1⟩]
        · rw [if_neg (fun z => by
            rcases List.mem_append.mp z.1 with z | z
            · exact h3 z
            · exact h2 (List.mem_singleton.mp z)), if_neg (fun z => h3 z.1)]
    · rw [if_neg (fun z => h1 z.2), if_neg (c := v ≠ [] ∧ v.dropLast = w ∧ v.getLastD 0 < C.S.f) (fun z => h1 z.2.2), if_neg (fun z => h1 z.2)]
end
section
variable {G G' : GH} {A : CmA} {rq : Addr} {il : List (Way × Addr)} {C : CmC} {pr : D} {n : Int} {l : Nat} {rqs : List D} {cs : List PCell} {w : Way} {a : Addr}
theorem CmAt.ilsub (h : CmAt G A rq il C pr n l rqs (C.rd cs l)) : ∀ x ∈ il.map (·.1), x ∈ C.ord.take l := fun x hx => by
  obtain ⟨⟨v, b⟩, hv, rfl⟩ := List.mem_map.mp hx
  obtain ⟨es, h1, _⟩ := h.ils v b hv
  have h2 : (if v ∈ C.ord.take l then some (kidsOf cs (pathE cs C.r0 v).2) else none) = some es := h1
  by_cases z : v ∈ C.ord.take l
  · exact z
  · rw [if_neg z] at h2; cases h2
theorem CmAt.illen (h : CmAt G A rq il C pr n l rqs (C.rd cs l)) : il.length ≤ 384 := by
  have h1 := List.Nodup.length_le_of_subset (l₁ := il.map (·.1)) (l₂ := C.ord.take l) h.ilw fun x hx => h.ilsub x hx
  rw [List.length_map, List.length_take] at h1
  have h2 := C.ord_len h.cok h.sh.2.d6
  omega
theorem CmAt.readOn (h : CmAt G A rq il C pr n l rqs (C.rd cs l)) (hw : C.ord[l]? = some w) (ha : G a = none) (k : Keep G G' [A.inn, A.ent]) (hi : G' A.inn = some (.dct .nk (ilK (il ++ [(w, a)])))) (hal : G' a = some (.lst ((kidsOf cs (pathE cs C.r0 w).2).map entD)))
    {ek : List (D × D)} (he : G' A.ent = some (.dct .nk ek)) (he1 : ∀ v, dget ek (wD v) = ((C.rd cs (l + 1)).E v).map entD) (he2 : ek.length ≤ 10 * (il.length + 1) + 1) : CmAt G' A rq (il ++ [(w, a)]) C pr n l rqs (C.rd cs (l + 1)) := by
  have nd := h.nd
  have nx : ∀ y ∈ A.ys, y ≠ A.inn → y ≠ A.ent → y ∉ [A.inn, A.ent] := fun y _ h1 h2 => by simp [h1, h2]
  have nr : ∀ y ∈ cmYs A rq il, y ≠ a := fun y hy z => by
    obtain ⟨o, h1, _⟩ := h.alloc y hy
    rw [z, ha] at h1; cases h1
  have nw : ∀ b, (w, b) ∉ il := fun b z => not_take hw (h.ilsub w (List.mem_map.mpr ⟨(w, b), z, rfl⟩))
  have hsm := h.illen
  refine ⟨k _ _ h.o (by simp [(Nd.ne nd 0 6), (Nd.ne nd 0 7)]), h.sh.keep k (by simp [(Nd.ne nd 1 6), (Nd.ne nd 1 7)]), ?_, k _ _ h.ch (by simp [(Nd.ne nd 4 6), (Nd.ne nd 4 7)]), k _ _ h.fr (by simp [(Nd.ne nd 5 6), (Nd.ne nd 5 7)]), hi, ?_, fun v b hv => ?_, fun v es hv => ?_, ⟨ek, he, he1, ?_⟩, k _ _ h.ord (by simp [(Nd.ne nd 8 6), (Nd.ne nd 8 7)]), k _ _ h.hrq (by simp [(Nd.ne nd 9 6), (Nd.ne nd 9 7)]), ?_, ⟨?_, h.small.2⟩, h.cok⟩
  · exact h.se.keep k (by simp [(Nd.ne nd 2 6), (Nd.ne nd 2 7)]) (by simp [(Nd.ne nd 3 6), (Nd.ne nd 3 7)])
  · rw [List.map_append, List.map_singleton]
    exact List.nodup_append.mpr ⟨h.ilw, by simp, fun x hx y hy => by
      rw [List.mem_singleton.mp hy]
      intro e
      rw [e] at hx
      exact not_take hw (h.ilsub w hx)⟩
  · rcases List.mem_append.mp hv with hv | hv
    · obtain ⟨es, h1, h2⟩ := h.ils v b hv
      have hne : v ≠ w := fun z => nw b (z ▸ hv)
      refine ⟨es, by rw [rdI_old hw hne]; exact h1, k _ _ h2 ?_⟩
      simp [(h.ilne hv A.inn (by simp [CmA.ys])).symm, (h.ilne hv A.ent (by simp [CmA.ys])).symm]
    · have := List.mem_singleton.mp hv
      cases this
      exact ⟨_, rdI_new hw, hal⟩
  · by_cases hne : v = w
    · subst hne; exact ⟨a, by simp⟩
    · rw [rdI_old hw hne] at hv
      obtain ⟨b, hb⟩ := h.ilI v es hv
      exact ⟨b, List.mem_append_left _ hb⟩
  · show ek.length ≤ 10 * ((il ++ [(w, a)]).length + 0) + 1
    rw [List.length_append, List.length_singleton]
    omega
  · rw [List.map_append, List.map_singleton, show A.ys ++ rq :: (il.map (·.2) ++ [a]) = (A.ys ++ rq :: il.map (·.2)) ++ [a] by simp]
    exact List.nodup_append.mpr ⟨nd, by simp, fun x hx y hy => by rw [List.mem_singleton.mp hy]; exact nr x hx⟩
  · rw [List.length_append, List.length_singleton]; omega
end
theorem ilK_not {il : List (Way × Addr)} {w : Way} (h : w ∉ il.map (·.1)) : dget (ilK il) (wD w) = none := by
  rw [dget_none_iff]
  unfold ilK
  rw [List.map_map]
  intro z
  obtain ⟨x, hx, e⟩ := List.mem_map.mp z
  exact h (List.mem_map.mpr ⟨x, hx, wD_inj e⟩)
theorem rdp_commit_take_cell (m : Gm) (hm : OkC m .commit) (ds : List D) (G : GH) (Q : GQ) (h : sp_commit_take_cell m ds G Q) : rd_commit_take_cell m (bodyEnds Q) (gstart N_commit_take_cell ds) G := by
  obtain ⟨A, rq, il, C, pr, v, n, l, cs, g, w, rfl, h, T, hcs, hneed, hne, hcl, H, hw, pv, kF, kT⟩ := h
  rw [show gstart N_commit_take_cell [.ref A.t, v] = [some (.ref A.t), some v, none, none, none] from rfl]
  unfold rd_commit_take_cell
  have f2 := h.sh.2.f2
  have f4 := h.sh.2.f4
  have d6 := h.sh.2.d6
  have f0 : 0 < C.S.f := by omega
  have hwm := List.mem_of_getElem? hw
  obtain ⟨ek, e1, e2, e3⟩ := h.ent
  have hget : dget ek (wD w) = some (entD (pathE cs C.r0 w)) := by
    rw [e2, show (C.rd cs l).E w = some (pathE cs C.r0 w) from CmC.rdE_at f0 hw]; rfl
  have hat : ∀ {j : Nat} {u : Way}, C.ord[j]? = some u → atI (C.ord.map wD) (j : Int) = some (wD u) := fun {j u} hu => atI_at (Int.natCast_nonneg j) (by rw [Int.toNat_natCast, List.getElem?_map, hu]; rfl)
  refine go (i_fldR h.o (d := .ref A.ord) rfl (go (i_fldR h.o (d := .int l) rfl (go (i_ixL h.ord (hat hw) (go (i_fldR h.o (d := .ref A.ent) rfl (go (i_ixN e1 (pkd_ints w) hget (go ?_))))))))))
  refine i_fldR h.o (d := .ref A.s) rfl (go (i_methR h.se.1 (sp := sp_sealer_knows) rfl (go (i_ixT (d := .int (pathE cs C.r0 w).2) rfl (go (i_knows (k := (pathE cs C.r0 w).2) h.se pv (go ?_)))))))
  show if (!knowsB cs v (pathE cs C.r0 w).2) = true then _ else _
  cases hk : knowsB cs v (pathE cs C.r0 w).2 with
  | false =>
    refine go (i_ixT (d := .int (pathE cs C.r0 w).1) rfl (go (i_setFR h.o (hm _ (by decide)) (by exact (by decide : 12 < 100)) (go ?_))))
    exact kF hk _ h.put (Keep.put.sub (by simp))
  | true =>
    obtain ⟨kR, kP⟩ := kT hk
    obtain ⟨cell, hcell, hv⟩ := knowsB_iff.mp hk
    obtain ⟨es, hes, hel, hkid⟩ := CmC.node_at H f0 hwm
    rw [hes] at hcell
    cases hcell
    rw [node_cell] at hv
    subst hv
    have hkd := kids_node hes
    unfold rd_commit_take_cell_3
    have nw : w ∉ il.map (·.1) := fun z => not_take hw (h.ilsub w z)
    have hil := h.illen
    refine go ⟨es.map entD, rfl, fun a ha => go ?_⟩
    have na : ∀ y ∈ cmYs A rq il, y ≠ a := fun y hy => by obtain ⟨o, h1, _⟩ := h.alloc y hy; exact gne_none h1 ha
    have h1 := h.keep (Keep.new (o := .lst (es.map entD)) ha []) (by simp)
    refine i_fldR h1.o (d := .ref A.inn) rfl (go (i_putN h1.inn (pkd_ints w) (by unfold ilK; rw [List.length_map]; show il.length < 100000; omega) (go ?_)))
    rw [show D.tup (intsD w) = wD w from rfl, dput_new (ilK_not nw), show ilK il ++ [(wD w, D.ref a)] = ilK (il ++ [(w, a)]) by unfold ilK; rw [List.map_append]; rfl]
    have n06 := Nd.ne h.nd 0 6
    have n16 := Nd.ne h.nd 1 6
    have n76 := Nd.ne h.nd 7 6
    have n67 := Nd.ne h.nd 6 7
    have nia : A.inn ≠ a := na _ (by simp [cmYs, CmA.ys])
    have nea : A.ent ≠ a := na _ (by simp [cmYs, CmA.ys])
    have k2 : Keep G ((G.set a (.lst (es.map entD))).set A.inn (.dct .nk (ilK (il ++ [(w, a)])))) [A.inn] := ((Keep.new ha []).trans (Keep.put (p := A.inn))).sub (by simp)
    have i2 : ((G.set a (.lst (es.map entD))).set A.inn (.dct .nk (ilK (il ++ [(w, a)])))) A.inn = _ := set_same
    have a2 : ((G.set a (.lst (es.map entD))).set A.inn (.dct .nk (ilK (il ++ [(w, a)])))) a = some (.lst (es.map entD)) := by rw [set_ne nia.symm]; exact set_same
    generalize (G.set a (.lst (es.map entD))).set A.inn (.dct .nk (ilK (il ++ [(w, a)]))) = G2 at k2 i2 a2
    have o2 := k2 _ _ h.o (by simp [n06])
    have sh2 := k2 _ _ h.sh.1 (by simp [n16])
    refine i_fldR o2 (d := .ref A.p) rfl (go (i_fldR sh2 (d := .int C.S.f) rfl (go ⟨by omega, by omega, ?_⟩)))
    refine i_turns (fun i σ' G' => ∃ x4 ek', σ' = [some (.ref A.t), some (.tup (.str "node" :: es.map entD)), some (wD w), some (entD (pathE cs C.r0 w)), x4] ∧ Keep G2 G' [A.ent] ∧ G' A.ent = some (.dct .nk ek') ∧ ek'.length ≤ ek.length + i ∧
      ∀ u, dget ek' (wD u) = (if u ≠ [] ∧ u.dropLast = w ∧ u.getLastD 0 < i then some (pathE cs C.r0 u) else (C.rd cs l).E u).map entD) ⟨none, ek, rfl, Keep.refl _ _, k2 _ _ e1 (by simp [n76]), by omega, fun u => by rw [e2, if_neg (fun z => by omega)]⟩ ?_ ?_
    · rintro i d σ' G' hi hok ⟨x4, ek', rfl, kk, he, hl, hg⟩
      rw [List.getElem?_map] at hi
      obtain ⟨y, hy, rfl⟩ := Option.map_eq_some_iff.mp hi
      obtain ⟨hi1, hi2⟩ := List.getElem?_eq_some_iff.mp hy
      rw [List.getElem_range] at hi2
      subst hi2
      rw [List.length_range] at hi1
      unfold rd_commit_take_cell_1
      have o3 := kk _ _ o2 (by simp [Nd.ne h.nd 0 7])
      refine go (i_ixT (atI_succ (n := i) (d := entD (pathE cs C.r0 (w ++ [i]))) (by rw [List.getElem?_map, hkid i (by omega)]; rfl)) (go (i_fldR o3 (d := .ref A.ent) rfl (go (i_addT (by rw [intsD_len]; have := (Tch.of_inner (CmC.ordm.mp hwm)).2; show w.length + 1 ≤ 100000; omega) (go ?_))))))
      rw [show D.tup (intsD w ++ [D.int (i : Int)]) = wD (w ++ [i]) by unfold wD; rw [intsD_app]; rfl]
      refine i_putN (es := intsD (w ++ [i])) he (pkd_ints _) (by show ek'.length < 100000; have e3' : ek.length ≤ 10 * (il.length + 0) + 1 := e3; omega) (go ⟨True.intro, some (.int i), dput ek' (wD (w ++ [i])) (entD (pathE cs C.r0 (w ++ [i]))), rfl, kk.set (by simp), set_same, ?_, fun u => ?_⟩)
      · have := dput_length ek' (wD (w ++ [i])) (entD (pathE cs C.r0 (w ++ [i])))
        omega
      · rw [dget_dput]
        by_cases e : u = w ++ [i]
        · subst e
          rw [if_pos rfl, if_pos ⟨by simp, by rw [List.dropLast_concat], by rw [getLastD_snoc]; omega⟩]
          rfl
        · rw [if_neg (fun z => e (wD_inj z)), hg]
          congr 1
          by_cases c1 : u ≠ [] ∧ u.dropLast = w ∧ u.getLastD 0 < i
          · rw [if_pos c1, if_pos ⟨c1.1, c1.2.1, by omega⟩]
          · rw [if_neg c1, if_neg (fun c2 => by
              by_cases c3 : u.getLastD 0 < i
              · exact c1 ⟨c2.1, c2.2.1, c3⟩
              · have c4 : u.getLastD 0 = i := by omega
                apply e
                obtain ⟨q, k0, rfl⟩ : ∃ q k0, u = q ++ [k0] := ⟨u.dropLast, u.getLast c2.1, (List.dropLast_concat_getLast c2.1).symm⟩
                rw [getLastD_snoc] at c4
                have := c2.2.1
                rw [List.dropLast_concat] at this
                rw [this, c4])]
    · rintro σ' G3 hok ⟨x4, ek', rfl, kk, he, hl, hg⟩
      rw [List.length_map, List.length_range, show ((C.S.f : Int)).toNat = C.S.f by omega] at hl hg
      have kk3 : Keep G G3 [A.inn, A.ent] := (k2.trans kk).sub (by simp)
      have h3 : CmAt G3 A rq (il ++ [(w, a)]) C pr n l [] (C.rd cs (l + 1)) := h.readOn hw ha kk3 (kk _ _ i2 (by simp [n67])) (by rw [hkd]; exact kk _ _ a2 (by simp [nea.symm])) he (fun u => by rw [hg, rdE_succ hw]) (by have e3' : ek.length ≤ 10 * (il.length + 0) + 1 := e3; omega)
      have T3 : TabsG m G3 := h.tabs T kk3 (by simp [cmYs, CmA.ys])
      have kk4 : Keep G G3 (cmYs A rq il) := kk3.sub (by simp [cmYs, CmA.ys])
      unfold rd_commit_take_cell_2
      refine go (i_fldR h3.o (d := .int l) rfl (go (i_setFR h3.o (hm _ (by decide)) (by exact (by decide : 12 < 100)) (go ?_))))
      have h4 := h3.put (pr' := pr) (n' := n) (a' := l + 1)
      have T4 : TabsG m (G3.set A.t (.ins .commit (cmF A rq pr n C.an (l + 1)))) := h3.tabs T3 (Keep.put (p := A.t)) (by simp [cmYs, CmA.ys])
      have kk5 : Keep G (G3.set A.t (.ins .commit (cmF A rq pr n C.an (l + 1)))) (cmYs A rq il) := kk4.set (by simp [cmYs, CmA.ys])
      rw [show fput Fd.at_ (D.int ((l : Int) + 1)) (cmF A rq pr n C.an l) = cmF A rq pr n C.an (l + 1) from rfl]
      generalize (G3.set A.t (.ins .commit (cmF A rq pr n C.an (l + 1)))) = G4 at h4 T4 kk5
      refine i_fldR h4.o (d := .int ((l + 1 : Nat) : Int)) rfl (go (i_fldR h4.o (d := .ref A.ord) rfl (go (i_lenL h4.ord (go ?_)))))
      rw [List.length_map]
      have hll := (List.getElem?_eq_some_iff.mp hw).1
      by_cases hend : l + 1 < C.ord.length
      · obtain ⟨w', hw'⟩ : ∃ w', C.ord[l + 1]? = some w' := ⟨_, List.getElem?_eq_getElem hend⟩
        obtain ⟨ek4, y1, y2, _⟩ := h4.ent
        have hget4 : dget ek4 (wD w') = some (entD (pathE cs C.r0 w')) := by
          rw [y2, show (C.rd cs (l + 1)).E w' = some (pathE cs C.r0 w') from CmC.rdE_at f0 hw']; rfl
        refine i_yes (by omega) (go (i_fldR h4.o (d := .ref A.ent) rfl (go (i_fldR h4.o (d := .ref A.ord) rfl (go (i_fldR h4.o (d := .int ((l + 1 : Nat) : Int)) rfl (go (i_ixL h4.ord (hat hw') (go (i_ixN y1 (pkd_ints w') hget4 (go (i_ixT (d := .int (pathE cs C.r0 w').1) rfl (go (i_setFR h4.o (hm _ (by decide)) (by exact (by decide : 12 < 100)) (go ?_)))))))))))))))
        exact kR w' hw' a _ h4.put (kk5.set (by simp [cmYs, CmA.ys])) ha
      · have hee : l + 1 = C.ord.length := by omega
        have etk : C.rd cs (l + 1) = st0 C.S.f cs C.r0 C.ord := by unfold CmC.rd; rw [List.take_of_length_le (by omega)]
        rw [etk] at h4
        refine i_no (by omega) (go (i_methR h4.o (sp := sp_commit_plan m) rfl (go ⟨A, rq, il ++ [(w, a)], C, pr, n, l + 1, cs, g, rfl, h4, T4, hcs, hneed, hne, hcl, H, fun rq' G5 h5 k5 hrq' => go ?_⟩)))
        obtain ⟨rqs, x, hx⟩ : ∃ rqs x, (C.reqs cs).reverse = rqs ++ [x] := by
          have hn : (C.reqs cs).reverse ≠ [] := by
            unfold CmC.reqs lastR
            simp
          exact ⟨_, _, (List.dropLast_concat_getLast hn).symm⟩
        rw [hx] at h5
        refine i_methR h5.o (sp := sp_commit_next_request m) rfl (go ⟨A, rq', il ++ [(w, a)], C, pr, n, l + 1, rqs, x, _, rfl, h5, fun G6 h6 k6 => go ?_⟩)
        refine kP hee a rq' G6 rqs x hx h6 ?_ ha ?_
        · -- what stood at the start
          intro b o hb nb
          have z4 := kk5 b o hb nb
          have nba : b ≠ a := gne_none hb ha
          have z5 := k5 b o z4 (fun z => by
            unfold cmYs at z nb
            rw [List.map_append, List.map_singleton] at z
            rcases List.mem_append.mp z with z | z
            · exact nb (List.mem_append_left _ z)
            · rcases List.mem_cons.mp z with z | z
              · exact nb (List.mem_append_right _ (by rw [z]; exact List.mem_cons_self))
              · rcases List.mem_append.mp z with z | z
                · exact nb (List.mem_append_right _ (List.mem_cons_of_mem _ z))
                · exact nba (List.mem_singleton.mp z))
          refine k6 b o z5 (fun z => ?_)
          simp only [List.mem_cons, List.not_mem_nil, or_false] at z
          rcases z with z | z
          · exact nb (by rw [z]; simp [cmYs, CmA.ys])
          · rw [z, hrq'] at z4; cases z4
        · exact kk5.fresh hrq' fun z => by
            obtain ⟨o, y1, _⟩ := h4.alloc rq' (by
              unfold cmYs at z ⊢
              rw [List.map_append]
              rcases List.mem_append.mp z with z | z
              · exact List.mem_append_left _ z
              · rcases List.mem_cons.mp z with z | z
                · exact List.mem_append_right _ (by rw [z]; exact List.mem_cons_self)
                · exact List.mem_append_right _ (List.mem_cons_of_mem _ (List.mem_append_left _ z)))
            rw [hrq'] at y1; cases y1
theorem len_commit_take_cell (m : Gm) (ds : List D) (G : GH) (Q : GQ) (h : sp_commit_take_cell m ds G Q) : ds.length = 2 := by obtain ⟨A, rq, il, C, pr, v, n, l, cs, g, w, rfl, _⟩ := h; rfl
end Cz

/-! CzAbs: steps that forget the heap's form. -/
namespace Cz
open PySem L2
/-- a new object -/
def alloc (o : GO) (G : GH) (Q : GQ) : Prop := ∀ p, G p = none → Q (.ref p) (G.set p o)
theorem i_alloc {o : GO} {G : GH} {Q : GQ} (q : ∀ p G', G p = none → G' p = some o → Keep G G' [] → Q (.ref p) G') : alloc o G Q := fun p hp => q p _ hp set_same (Keep.new hp [])
instance (priority := high) s_lst2 {ga : GA} {σ : GSt} {G : GH} {Q : GQ} : Stp (gLst ga σ G Q) (ga σ G fun xs G1 => xs.length ≤ lim ∧ alloc (.lst xs) G1 Q) := ⟨fun q => q⟩
instance (priority := high) s_dnew2 {k : Dk} {σ : GSt} {G : GH} {Q : GQ} : Stp (gDNew k σ G Q) (alloc (.dct k []) G Q) := ⟨fun q => q⟩
instance (priority := high) s_sortK2 {m : Gm} {neg : Bool} {g : GE} {σ : GSt} {G : GH} {Q : GQ} : Stp (gSortK m neg g σ G Q) (g σ G fun x G1 => ∃ ks, keysG x G1 = some ks ∧ (∀ d ∈ ks, TI d) ∧ TabsG m G1 ∧ alloc (.lst (ks.mergeSort (PySem.W.dataLe false (keyD' neg)))) G1 Q) := ⟨id⟩
theorem i_setFA {m : Gm} {t : Addr} {c : Cl} {fs : List (Fd × D)} {f : Fd} {d : D} {G : GH} {R : GH → Prop} (hg : G t = some (.ins c fs)) (ok : m.ok c f = true) (hl : fs.length < 100) (q : ∀ G', G' t = some (.ins c (fput f d fs)) → Keep G G' [t] → R G') : fsetG m (G t) f d fun o => R (G.set t o) :=
  i_setFR hg ok hl (q _ set_same Keep.put)
theorem i_addLA {p r : Addr} {ds es : List D} {G : GH} {Q : GQ} (h1 : G p = some (.lst ds)) (h2 : G r = some (.lst es)) (hl : ds.length + es.length ≤ lim) (q : ∀ u G', G u = none → G' u = some (.lst (ds ++ es)) → Keep G G' [] → Q (.ref u) G') : gAdd (.ref p) (.ref r) G Q := i_addL h1 h2 hl fun u hu => q u _ hu set_same (Keep.new hu [])
theorem i_tinit {m : Gm} {t : Addr} {c : Cl} {pr : D} {G : GH} {Q : GQ} (h : G t = some (.ins c [])) (h1 : m.ok c .present = true) (h2 : m.ok c .answers = true) (q : ∀ G', G' t = some (.ins c [(.present, pr), (.answers, .int 0)]) → Keep G G' [t] → Q .non G') : sp_talk_init m [.ref t, pr] G Q :=
  ⟨t, c, pr, rfl, h, h1, h2, q _ set_same Keep.put⟩
theorem i_appA {p : Addr} {ds : List D} {y : D} {G : GH} {Q : GQ} (hg : G p = some (.lst ds)) (hl : ds.length < lim) (q : ∀ G', G' p = some (.lst (ds ++ [y])) → Keep G G' [p] → Q .non G') : lstG (G p) fun ds => rApp p ds [y] G Q := i_app hg hl (q _ set_same Keep.put)
theorem i_putIA {p : Addr} {kvs : List (D × D)} {y d : D} {G : GH} {R : GH → Prop} (hg : G p = some (.dct .ik kvs)) (h : isKey y = true) (hl : kvs.length < lim) (q : ∀ G', G' p = some (.dct .ik (dput kvs y d)) → Keep G G' [p] → R G') : setG (G p) y d fun o => R (G.set p o) := i_putI hg h hl (q _ set_same Keep.put)
theorem i_putLA {p : Addr} {ds : List D} {d : D} {j : Int} {jj : Nat} {G : GH} {R : GH → Prop} (hg : G p = some (.lst ds)) (h : ixN ds.length j = some jj) (q : ∀ G', G' p = some (.lst (ds.set jj d)) → Keep G G' [p] → R G') : setG (G p) (.int j) d fun o => R (G.set p o) := i_putL hg h (q _ set_same Keep.put)
theorem i_tupA {x : D} {xs : List D} {G : GH} {Q : GQ} (h : itemsG x G = some xs) (q : Q (.tup xs) G) : bTup [x] G Q := ⟨xs, h, q⟩
theorem i_listA {x : D} {xs : List D} {G : GH} {Q : GQ} (h : itemsG x G = some xs) (q : ∀ p G', G p = none → G' p = some (.lst xs) → Keep G G' [] → Q (.ref p) G') : bList [x] G Q := ⟨xs, h, fun p hp => q p _ hp set_same (Keep.new hp [])⟩
/-- a class made -/
theorem i_mkA {c : Cl} {sp : GSp} {ds : List D} {G : GH} {Q : GQ} (q : ∀ p G', G p = none → G' p = some (.ins c []) → Keep G G' [] → sp (.ref p :: ds) G' fun d G2 => d = .non ∧ Q (.ref p) G2) : ∀ p, G p = none → sp (.ref p :: ds) (G.set p (.ins c [])) fun d G2 => d = .non ∧ Q (.ref p) G2 := fun p hp => q p _ hp set_same (Keep.new hp [])
end Cz

/-! CzCommit2: commits made, gone on with; talks that only ask. -/
namespace Cz
open PySem L2 Cz.K02
theorem rdp_commit_go_on (m : Gm) (ds : List D) (G : GH) (Q : GQ) (h : sp_commit_go_on m ds G Q) : rd_commit_go_on m (bodyEnds Q) (gstart N_commit_go_on ds) G := by
  obtain ⟨A, rq, il, C, pr, v, n, l, rqs, st, rfl, h, hc⟩ := h
  rw [show gstart N_commit_go_on [.ref A.t, v] = [some (.ref A.t), some v] from rfl]
  unfold rd_commit_go_on
  refine go (i_fldR h.o (d := .int l) rfl (go (i_fldR h.o (d := .ref A.ord) rfl (go (i_lenL h.ord (go ?_))))))
  rw [List.length_map]
  rcases hc with ⟨hl, q⟩ | ⟨hl, q⟩
  · exact i_yes (by omega) (go (i_methR h.o (sp := sp_commit_take_cell m) rfl (go q)))
  · exact i_no (by omega) (go (i_methR h.o (sp := sp_commit_next_request m) rfl (go q)))
theorem len_commit_go_on (m : Gm) (ds : List D) (G : GH) (Q : GQ) (h : sp_commit_go_on m ds G Q) : ds.length = 2 := by obtain ⟨A, rq, il, C, pr, v, n, l, rqs, st, rfl, _⟩ := h; rfl
theorem pref_lenD (f d : Nat) (is : List Nat) : (prefD f d is).length = (prefW f d is).length := by rw [prefD_map, List.length_map]
theorem rdp_commit_taken (m : Gm) (ds : List D) (G : GH) (Q : GQ) (h : sp_commit_taken m ds G Q) : rd_commit_taken m (bodyEnds Q) (gstart N_commit_taken ds) G := by
  obtain ⟨A, rq, il, C, pr, n, at_, rqs, st, rfl, h, T, hcl, k⟩ := h
  rw [show gstart N_commit_taken [.ref A.t] = [some (.ref A.t)] from rfl]
  unfold rd_commit_taken
  refine go (i_fldR h.o (d := .ref A.p) rfl (go (i_fldR h.o (d := .ref A.ch) rfl (go (i_sortCh h.ch fun p1 hp1 => go ⟨A.p, C.S, p1, isC C.chg, rfl, h.sh.keep (Keep.new hp1 []) (by simp), set_same, by rw [isC_len]; exact hcl, T.keep (Keep.new hp1 []), fun G' k' => go ?_⟩)))))
  rw [isC_len, pref_lenD]
  exact k G' (((Keep.new hp1 []).trans k').sub (by simp))
theorem len_commit_taken (m : Gm) (ds : List D) (G : GH) (Q : GQ) (h : sp_commit_taken m ds G Q) : ds.length = 1 := by obtain ⟨A, rq, il, C, pr, n, at_, rqs, st, rfl, _⟩ := h; rfl
theorem rdp_change_init (m : Gm) (hm : OkC m .change) (ds : List D) (G : GH) (Q : GQ) (h : sp_change_init m ds G Q) : rd_change_init m (bodyEnds Q) (gstart N_change_init ds) G := by
  obtain ⟨t, l, x, r, rqs, rfl, hG, hl, hn, k⟩ := h
  rw [show gstart N_change_init [.ref t, .ref l, r] = [some (.ref t), some (.ref l), some r] from rfl]
  unfold rd_change_init
  have ntl : t ≠ l := fun z => by rw [z, hl] at hG; cases hG
  refine go (i_alloc fun a G1 ha a1 k1 => go (i_addLA (k1 _ _ hl (by simp)) a1 (by rw [List.length_cons]; show rqs.length + 1 + 1 ≤ 100000; omega) fun b G2 hb b2 k2 => go (i_ixL b2 (d := x) atI_zero (go (i_tinit (k2 _ _ (k1 _ _ hG (by simp)) (by simp)) (hm _ (by decide)) (hm _ (by decide)) fun G3 t3 k3 => go (i_alloc fun a2 G4 ha2 a4 k4 => go ?_))))))
  have kA : Keep G G4 [t] := (((k1.trans k2).trans k3).trans k4).sub (by simp)
  refine i_addLA (kA _ _ hl (by simp [ntl.symm])) a4 (by rw [List.length_cons]; show rqs.length + 1 + 1 ≤ 100000; omega) fun b5 G5 hb5 b5' k5 => go (i_setFA (k5 _ _ (k4 _ _ t3 (by simp)) (by simp)) (hm _ (by decide)) (by exact (by decide : 2 < 100)) fun G6 t6 k6 => go ?_)
  have nt : t ≠ b5 := gne_none (k4 _ _ t3 (by simp)) hb5
  exact k b5 G6 t6 (k6 _ _ b5' (by simp [nt.symm])) (((kA.trans k5).trans k6).sub (by simp)) (kA.fresh hb5 (by simp [nt.symm]))
theorem len_change_init (m : Gm) (ds : List D) (G : GH) (Q : GQ) (h : sp_change_init m ds G Q) : ds.length = 3 := by obtain ⟨t, l, x, r, rqs, rfl, _⟩ := h; rfl
theorem rdp_change_go_on (m : Gm) (hm : OkC m .change) (ds : List D) (G : GH) (Q : GQ) (h : sp_change_go_on m ds G Q) : rd_change_go_on m (bodyEnds Q) (gstart N_change_go_on ds) G := by
  obtain ⟨t, rq, pr, v, x, n, rqs, rfl, hG, hq, hx, k⟩ := h
  rw [show gstart N_change_go_on [.ref t, v] = [some (.ref t), some v] from rfl]
  unfold rd_change_go_on
  refine go (i_fldR hG (d := .ref rq) rfl (go (i_fldR hG (d := .int n) rfl (go (i_ixL hq (atI_at (Int.natCast_nonneg n) (by rw [Int.toNat_natCast]; exact hx)) (go (i_setFR hG (hm _ (by decide)) (by exact (by decide : 3 < 100)) (go k))))))))
theorem len_change_go_on (m : Gm) (ds : List D) (G : GH) (Q : GQ) (h : sp_change_go_on m ds G Q) : ds.length = 2 := by obtain ⟨t, rq, pr, v, x, n, rqs, rfl, _⟩ := h; rfl
theorem i_disp1 {gk gv : GE} {σ : GSt} {G : GH} {Q : GQ} (h : ∀ p, G p = none → gk σ (G.set p (.dct .nk [])) fun k G1 => gv σ G1 fun d G2 => (∃ ds, k = .tup ds) ∧ Pkd k ∧ G2 p = some (.dct .nk []) ∧ Q (.ref p) (G2.set p (.dct .nk [(k, d)]))) : gDisp1 gk gv σ G Q := h
theorem chK_nil {chg : Chg} : (chK chg).isEmpty = chg.isEmpty := by cases chg <;> rfl
theorem rdp_commit_init (m : Gm) (hm : OkC m .commit) (ds : List D) (G : GH) (Q : GQ) (h : sp_commit_init m ds G Q) : rd_commit_init m (bodyEnds Q) (gstart N_commit_init ds) G := by
  obtain ⟨t, p, s, sd, ch, fr, C, cs, rfl, hG, hs, sl, hch, hfr, nd, T, ok, hcl, k⟩ := h
  rw [show gstart N_commit_init [.ref t, .ref p, .ref s, C.an, .ref ch, .ref fr] = [some (.ref t), some (.ref p), some (.ref s), some C.an, some (.ref ch), some (.ref fr), none] from rfl]
  unfold rd_commit_init
  have ntp : p ≠ t := Nd.ne nd 1 0
  have nts : s ≠ t := Nd.ne nd 2 0
  have ntd : sd ≠ t := Nd.ne nd 3 0
  have ntc : ch ≠ t := Nd.ne nd 4 0
  have ntf : fr ≠ t := Nd.ne nd 5 0
  have hmt : ∀ y ∈ m.tabs, y.1 ≠ t := fun y hy z => by have := T y hy; rw [z, hG] at this; cases this
  have TK : ∀ {G' : GH}, Keep G G' [t] → TabsG m G' := fun k y hy => k _ _ (T y hy) (by simp [hmt y hy])
  have an2 : ∀ {G' : GH} {Q' : GQ}, Q' (.tup ((C.r0 :: C.rs).map entD)) G' → gIx C.an (.int 2) G' Q' := fun q => i_ixT (ds := [.str "anchor", .int C.ep, .tup ((C.r0 :: C.rs).map entD)]) rfl q
  have r0 : ∀ {G' : GH} {Q' : GQ}, Q' (entD C.r0) G' → gIx (.tup ((C.r0 :: C.rs).map entD)) (.int 0) G' Q' := fun q => i_ixT (ds := (C.r0 :: C.rs).map entD) atI_zero q
  refine go (i_tinit hG (hm _ (by decide)) (hm _ (by decide)) fun G1 t1 k1 => go ?_)
  refine i_setFA t1 (hm _ (by decide)) (by exact (by decide : 2 < 100)) fun G2 t2 k2 => go (i_setFA t2 (hm _ (by decide)) (by exact (by decide : 3 < 100)) fun G3 t3 k3 => go (i_setFA t3 (hm _ (by decide)) (by exact (by decide : 4 < 100)) fun G4 t4 k4 => go (i_setFA t4 (hm _ (by decide)) (by exact (by decide : 5 < 100)) fun G5 t5 k5 => go (i_setFA t5 (hm _ (by decide)) (by exact (by decide : 6 < 100)) fun G6 t6 k6 => go ?_))))
  have kA : Keep G G6 [t] := ((((k1.same k2).same k3).same k4).same k5).same k6
  clear k1 k2 k3 k4 k5 k6 t1 t2 t3 t4 t5
  refine i_alloc fun inn G7 hinn i7 k7 => go (i_setFA (k7 _ _ t6 (by simp)) (hm _ (by decide)) (by exact (by decide : 7 < 100)) fun G8 t8 k8 => go ?_)
  have ni : inn ≠ t := (gne_none t6 hinn).symm
  have kB : Keep G6 G8 [t] := (k7.trans k8).sub (by simp)
  have i8 := k8 _ _ i7 (by simp [ni])
  have ginn : G inn = none := kA.fresh hinn (by simp [ni])
  have kC : Keep G G8 [t] := kA.same kB
  refine i_disp1 fun ent hent => go (an2 (go (r0 (go ⟨⟨[], rfl⟩, pkd_ints [], set_same, ?_⟩))))
  rw [set_set]
  have nte : ent ≠ t := (gne_none t8 hent).symm
  have nie : inn ≠ ent := gne_none i8 hent
  have gent : G ent = none := kC.fresh hent (by simp [nte])
  have kD := Keep.new (o := .dct .nk [(.tup [], entD C.r0)]) hent [t]
  have t9 := kD
  refine go (i_setFA (by rw [set_ne nte.symm]; exact t8) (hm _ (by decide)) (by exact (by decide : 8 < 100)) fun G10 t10 k10 => go ?_)
  have e10 : G10 ent = some (.dct .nk [(.tup [], entD C.r0)]) := k10 _ _ set_same (by simp [nte])
  have i10 : G10 inn = some (.dct .nk []) := k10 _ _ (by rw [set_ne nie]; exact i8) (by simp [ni])
  have kE : Keep G G10 [t] := (kC.same kD).same k10
  clear k10 kD t9 kC i8 kB k8 t8 i7 k7 kA t6
  have hs10 := hs.keep kE (by simp [ntp])
  have hch10 := kE _ _ hch (by simp [ntc])
  refine i_sortCh hch10 fun p1 hp1 => go ⟨p, C.S, p1, isC C.chg, rfl, hs10.keep (Keep.new hp1 []) (by simp), set_same, by rw [isC_len]; exact hcl, (TK kE).keep (Keep.new hp1 []), fun l G11 hl hl0 k11 => ?_⟩
  have kF : Keep G10 G11 [] := ((Keep.new hp1 []).trans k11).sub (by simp)
  refine ⟨prefD C.S.f C.S.d (isC C.chg), by unfold keysG; simp only [hl], fun d hd => ?_, (TK kE).keep kF, ?_⟩
  · rw [prefD_map] at hd
    obtain ⟨w, _, rfl⟩ := List.mem_map.mp hd
    exact ti_ints w
  refine i_alloc fun ord G12 hord o12 k12 => go (i_setFA (k12 _ _ (kF _ _ t10 (by simp)) (by simp)) (hm _ (by decide)) (by exact (by decide : 9 < 100)) fun G13 t13 k13 => go (i_setFA t13 (hm _ (by decide)) (by exact (by decide : 10 < 100)) fun G14 t14 k14 => go (i_alloc fun rq G15 hrq r15 k15 => go (i_setFA (k15 _ _ t14 (by simp)) (hm _ (by decide)) (by exact (by decide : 11 < 100)) fun G16 t16 k16 => go ?_))))
  have hord0 : (prefD C.S.f C.S.d (isC C.chg)).mergeSort (PySem.W.dataLe false (keyD' false)) = C.ord.map wD := ordD_map _ _ _
  rw [hord0] at o12
  have nto : ord ≠ t := (gne_none (kF _ _ t10 (by simp)) hord).symm
  have ntr : rq ≠ t := (gne_none t14 hrq).symm
  have kG : Keep G10 G14 [t] := (((kF.trans k12).trans k13).trans k14).sub (by simp)
  have kH : Keep G10 G16 [t] := ((kG.trans k15).trans k16).sub (by simp)
  have o14 : G14 ord = some (.lst (C.ord.map wD)) := k14 _ _ (k13 _ _ o12 (by simp [nto])) (by simp [nto])
  have o16 : G16 ord = _ := k16 _ _ (k15 _ _ o14 (by simp)) (by simp [nto])
  have r16 : G16 rq = _ := k16 _ _ r15 (by simp [ntr])
  have kI : Keep G G16 [t] := kE.same kH
  have gord : G ord = none := kE.fresh (kF.fresh hord (by simp)) (by simp [nto])
  have grq : G rq = none := kE.fresh (kG.fresh hrq (by simp [ntr])) (by simp [ntr])
  have neo : ent ≠ ord := gne_none (kF _ _ e10 (by simp)) hord
  have nio : inn ≠ ord := gne_none (kF _ _ i10 (by simp)) hord
  have ner : ent ≠ rq := gne_none (kG _ _ e10 (by simp [nte])) hrq
  have nir : inn ≠ rq := gne_none (kG _ _ i10 (by simp [ni])) hrq
  have nor : ord ≠ rq := gne_none o14 hrq
  have hf : ∀ y ∈ [p, s, sd, ch, fr], ∀ z ∈ [inn, ent, ord, rq], y ≠ z := by
    have a1 : ∀ y ∈ [p, s, sd, ch, fr], G y ≠ none := by
      intro y hy
      simp only [List.mem_cons, List.not_mem_nil, or_false] at hy
      rcases hy with rfl | rfl | rfl | rfl | rfl
      · rw [hs.1]; exact fun z => nomatch z
      · rw [sl.1]; exact fun z => nomatch z
      · rw [sl.2.1]; exact fun z => nomatch z
      · rw [hch]; exact fun z => nomatch z
      · rw [hfr]; exact fun z => nomatch z
    intro y hy z hz e
    subst e
    simp only [List.mem_cons, List.not_mem_nil, or_false] at hz
    rcases hz with rfl | rfl | rfl | rfl
    · exact a1 _ hy ginn
    · exact a1 _ hy gent
    · exact a1 _ hy gord
    · exact a1 _ hy grq
  have ND : (CmA.ys ⟨t, p, s, sd, ch, fr, inn, ent, ord⟩ ++ rq :: ([] : List (Way × Addr)).map (·.2)).Nodup := by
    show ([t, p, s, sd, ch, fr] ++ [inn, ent, ord, rq]).Nodup
    refine List.nodup_append.mpr ⟨nd, by simp [nie, nio, nir, neo, ner, nor], fun a ha b hb => ?_⟩
    rcases List.mem_cons.mp ha with rfl | ha
    · simp only [List.mem_cons, List.not_mem_nil, or_false] at hb
      rcases hb with rfl | rfl | rfl | rfl
      · exact ni.symm
      · exact nte.symm
      · exact nto.symm
      · exact ntr.symm
    · exact hf a ha b hb
  -- the talk as it stands, whatever its request
  have fin : ∀ {G' : GH} {pr : D}, Keep G G' [t] → Keep G16 G' [t] → G' t = some (.ins .commit (cmF ⟨t, p, s, sd, ch, fr, inn, ent, ord⟩ rq pr 0 C.an 0)) → CmAt G' ⟨t, p, s, sd, ch, fr, inn, ent, ord⟩ rq [] C pr 0 0 [] (C.rd cs 0) := fun {G' pr} kk k2 ht => by
    refine ⟨ht, hs.keep kk (by simp [ntp]), sl.keep kk (by simp [nts]) (by simp [ntd]), kk _ _ hch (by simp [ntc]), kk _ _ hfr (by simp [ntf]), k2 _ _ (kH _ _ i10 (by simp [ni])) (by simp [ni]), .nil, (fun _ _ z => nomatch z), fun w es z => ?_, ⟨[(.tup [], entD C.r0)], k2 _ _ (kH _ _ e10 (by simp [nte])) (by simp [nte]), fun w => ?_, by simp⟩, k2 _ _ o16 (by simp [nto]), k2 _ _ r16 (by simp [ntr]), ND, ⟨by simp, by show 0 ≤ 1000; omega⟩, ok⟩
    · have z2 : (if w ∈ C.ord.take 0 then some (kidsOf cs (pathE cs C.r0 w).2) else none) = some es := z
      rw [List.take_zero, if_neg (by simp)] at z2
      cases z2
    · show dget [(wD [], entD C.r0)] (wD w) = (if w = [] then some C.r0 else if w.dropLast ∈ C.ord.take 0 ∧ w.getLastD 0 < C.S.f then some (pathE cs C.r0 w) else none).map entD
      by_cases e : w = []
      · subst e; simp [dget]
      · have e2 : ¬ wD [] = wD w := fun z => e (wD_inj z).symm
        rw [if_neg e, List.take_zero, if_neg (by simp)]
        simp [dget, e2]
  have hch16 := kI _ _ hch (by simp [ntc])
  refine i_fldR t16 (d := .ref ch) rfl ⟨!(chK C.chg).isEmpty, .inr ⟨_, hch16, rfl⟩, ?_⟩
  rw [chK_nil]
  by_cases hc0 : C.chg = []
  · rw [hc0]
    refine go ?_
    have e1 : C.first = doneR (.tup [.str "committed", C.an]) := by unfold CmC.first; rw [if_pos hc0]
    have := k inn ent ord rq G16 (fin kI (Keep.refl _ _) (by rw [e1]; exact t16)) kI ginn gent gord grq
    exact this
  · rw [show C.chg.isEmpty = false by cases h : C.chg with | nil => exact absurd h hc0 | cons _ _ => rfl]
    have hs16 := hs.keep kI (by simp [ntp])
    refine go (i_sortCh hch16 fun p2 hp2 => go ⟨p, C.S, p2, isC C.chg, rfl, hs16.keep (Keep.new hp2 []) (by simp), set_same, by rw [isC_len]; exact hcl, (TK kI).keep (Keep.new hp2 []), fun G17 k17 => go ?_⟩)
    have kJ : Keep G16 G17 [] := ((Keep.new hp2 []).trans k17).sub (by simp)
    rw [isC_len, pref_lenD]
    refine an2 (go (r0 (go (i_ixT (ds := [.int C.r0.1, .int C.r0.2]) (d := .int C.r0.1) atI_zero (go (i_setFA (kJ _ _ t16 (by simp)) (hm _ (by decide)) (by exact (by decide : 12 < 100)) fun G18 t18 k18 => go ?_))))))
    have kK : Keep G16 G18 [t] := (kJ.trans k18).sub (by simp)
    have kL : Keep G G18 [t] := kI.same kK
    refine i_lenL (kL _ _ hfr (by simp [ntf])) (go ?_)
    rw [intsD_len]
    by_cases hfl : C.fl.length < C.need
    · refine i_yes (by show ((C.fl.length : Nat) : Int) < ((C.need : Nat) : Int); omega) (go (i_setFA t18 (hm _ (by decide)) (by exact (by decide : 12 < 100)) fun G19 t19 k19 => go ?_))
      have e1 : C.first = doneR (.tup [.str "full", .int (C.need : Nat)]) := by unfold CmC.first; rw [if_neg hc0, if_pos hfl]
      exact k inn ent ord rq G19 (fin (kL.same k19) (kK.same k19) (by rw [e1]; exact t19)) (kL.same k19) ginn gent gord grq
    · refine i_no (by show ¬ ((C.fl.length : Nat) : Int) < ((C.need : Nat) : Int); omega) (go ?_)
      have e1 : C.first = readR C.r0.1 := by unfold CmC.first; rw [if_neg hc0, if_neg hfl]
      exact k inn ent ord rq G18 (fin kL kK (by rw [e1]; exact t18)) kL ginn gent gord grq
theorem len_commit_init (m : Gm) (ds : List D) (G : GH) (Q : GQ) (h : sp_commit_init m ds G Q) : ds.length = 6 := by obtain ⟨t, p, s, sd, ch, fr, C, cs, rfl, _⟩ := h; rfl
end Cz

/-! CzVol: volumes, papers. -/
namespace Cz
open PySem L2 Cz.K02
def tab_request (m : Gm) : Cl → Option GSp := fun c => match c with
  | .talk => some (sp_talk_request m)
  | .read => some (sp_talk_request m)
  | .scan => some (sp_talk_request m)
  | .change => some (sp_talk_request m)
  | .commit => some (sp_talk_request m)
  | _ => none
def tab_has_ended (m : Gm) : Cl → Option GSp := fun c => match c with
  | .talk => some (sp_talk_has_ended m)
  | .read => some (sp_talk_has_ended m)
  | .scan => some (sp_talk_has_ended m)
  | .change => some (sp_talk_has_ended m)
  | .commit => some (sp_talk_has_ended m)
  | _ => none
def tab_go_on (m : Gm) : Cl → Option GSp := fun c => match c with
  | .talk => some (sp_talk_go_on m)
  | .read => some (sp_read_go_on m)
  | .scan => some (sp_scan_go_on m)
  | .change => some (sp_change_go_on m)
  | .commit => some (sp_commit_go_on m)
  | _ => none
def sp_talk_answer (m : Gm) : GSp := spAnswer m (tab_go_on m)
def tab_answer (m : Gm) : Cl → Option GSp := fun c => match c with
  | .talk => some (sp_talk_answer m)
  | .read => some (sp_talk_answer m)
  | .scan => some (sp_talk_answer m)
  | .change => some (sp_talk_answer m)
  | .commit => some (sp_talk_answer m)
  | _ => none
def vlF (p s u ch : Addr) (an : D) : List (Fd × D) := [(.shape, .ref p), (.sealer, .ref s), (.anchor, an), (.used, .ref u), (.changed, .ref ch)]
structure VlAt (G : GH) (v p s u ch : Addr) (an : D) (used : List Nat) (chg : Chg) : Prop where
  o : G v = some (.ins .volume (vlF p s u ch an))
  hu : G u = some (.lst (intsD used))
  hc : G ch = some (.dct .ik (chK chg))
def freeN (b : Nat) (used : List Nat) : List Nat := (List.range b).filter fun x => decide (x ∉ used)
def putC (chg : Chg) (i : Nat) (ws : List Nat) : Chg := if i ∈ chg.map (·.1) then chg.map (fun x => if x.1 = i then (x.1, ws) else x) else chg ++ [(i, ws)]
def sp_volume_init (m : Gm) : GSp := fun ds G Q => ∃ (v p s : Addr) (an x : D) (used : List Nat), ds = [.ref v, .ref p, .ref s, an, x] ∧ G v = some (.ins .volume []) ∧ itemsG x G = some (intsD used) ∧ (∀ y, x = .ref y → y ≠ v) ∧ ∀ u ch G', VlAt G' v p s u ch an used [] → Keep G G' [v] → G u = none → G ch = none → u ≠ ch → Q .non G'
def sp_volume_free (m : Gm) : GSp := fun ds G Q => ∃ (v p s u ch : Addr) (an : D) (used : List Nat) (chg : Chg) (S : Shp), ds = [.ref v] ∧ VlAt G v p s u ch an used chg ∧ ShAt G p S ∧ used.length ≤ 2000 ∧ ∀ l G', G' l = some (.lst (intsD (freeN S.b used))) → Keep G G' [] → G l = none → Q (.ref l) G'
def tab_free (m : Gm) : Cl → Option GSp := fun c => match c with
  | .volume => some (sp_volume_free m)
  | _ => none
def sp_volume_write (m : Gm) : GSp := fun ds G Q => ∃ (v p s u ch wl : Addr) (an : D) (used : List Nat) (chg : Chg) (i : Nat) (ws : List Nat), ds = [.ref v, .int i, .ref wl] ∧ VlAt G v p s u ch an used chg ∧ u ≠ ch ∧ v ≠ ch ∧ G wl = some (.lst (intsD ws)) ∧ chg.length < 1000 ∧ ∀ G', VlAt G' v p s u ch an used (putC chg i ws) → Keep G G' [ch] → Q .non G'
def tab_write (m : Gm) : Cl → Option GSp := fun c => match c with
  | .volume => some (sp_volume_write m)
  | _ => none
def ReadMade (G : GH) (p s : Addr) (S : Shp) (e : Ent) (i : Nat) (Q : GQ) : Prop := ∀ t c G', G' t = some (.ins .read (rdF (readR e.1) 0 p s (wayD S.f S.d i) e c)) → G' c = some (.lst []) → Keep G G' [] → G t = none → G c = none → Q (.ref t) G'
def sp_volume_read_at (m : Gm) : GSp := fun ds G Q => ∃ (v p s u ch : Addr) (ep : Nat) (rs : List Ent) (used : List Nat) (chg : Chg) (S : Shp) (k i : Nat) (e : Ent), ds = [.ref v, .int k, .int i] ∧ VlAt G v p s u ch (anchD ep rs) used chg ∧ ShAt G p S ∧ rs[k]? = some e ∧ ReadMade G p s S e i Q
def tab_read_at (m : Gm) : Cl → Option GSp := fun c => match c with
  | .volume => some (sp_volume_read_at m)
  | _ => none
def sp_volume_read (m : Gm) : GSp := fun ds G Q => ∃ (v p s u ch : Addr) (ep : Nat) (e : Ent) (rs : List Ent) (used : List Nat) (chg : Chg) (S : Shp) (i : Nat), ds = [.ref v, .int i] ∧ VlAt G v p s u ch (anchD ep (e :: rs)) used chg ∧ ShAt G p S ∧
  (∀ ws, getC chg i = some ws → ∀ t G', G' t = some (.ins .talk [(.present, doneR (.tup (intsD ws))), (.answers, .int 0)]) → Keep G G' [] → G t = none → Q (.ref t) G') ∧ (getC chg i = none → ReadMade G p s S e i Q)
def tab_read (m : Gm) : Cl → Option GSp := fun c => match c with
  | .volume => some (sp_volume_read m)
  | _ => none
def sp_volume_commit (m : Gm) : GSp := fun ds G Q => ∃ (v p s sd u ch : Addr) (used : List Nat) (C : CmC) (cs : List PCell), ds = [.ref v] ∧ VlAt G v p s u ch C.an used C.chg ∧ ShAt G p C.S ∧ SealC G s sd cs ∧ C.fl = freeN C.S.b used ∧ used.length ≤ 2000 ∧ TabsG m G ∧ C.Ok ∧
  ∀ A rq G', A.p = p → A.s = s → A.sd = sd → CmAt G' A rq [] C C.first 0 0 [] (C.rd cs 0) → Keep G G' [] → (∀ y ∈ cmYs A rq [], y ≠ p → y ≠ s → y ≠ sd → G y = none) → Q (.ref A.t) G'
def tab_commit (m : Gm) : Cl → Option GSp := fun c => match c with
  | .volume => some (sp_volume_commit m)
  | _ => none
def ScanMade (G : GH) (p s : Addr) (e : Ent) (rs : List Ent) (Q : GQ) : Prop := ∀ t q se G', ScAt G' t p s q se (readR e.1) 0 (putsQ [] 0 (e :: rs)) 0 → Keep G G' [] → G t = none → G q = none → G se = none → Q (.ref t) G'
def sp_volume_sweep (m : Gm) : GSp := fun ds G Q => ∃ (v p s u ch : Addr) (ep : Nat) (e : Ent) (rs : List Ent) (used : List Nat) (chg : Chg), ds = [.ref v] ∧ VlAt G v p s u ch (anchD ep (e :: rs)) used chg ∧ rs.length < 100 ∧ ScanMade G p s e rs Q
def tab_sweep (m : Gm) : Cl → Option GSp := fun c => match c with
  | .volume => some (sp_volume_sweep m)
  | _ => none
def ChangeMade (G : GH) (ep : Nat) (rs : List Ent) (Q : GQ) : Prop := ∀ t rq G', G' t = some (.ins .change (chF rq (reqD "anchor" [anchD (ep + 1) rs]) 0)) → G' rq = some (.lst [reqD "anchor" [anchD (ep + 1) rs], doneR (.tup [.str "committed", anchD (ep + 1) rs])]) → Keep G G' [] → G t = none → G rq = none → Q (.ref t) G'
def sp_volume_anchor_talk (m : Gm) : GSp := fun ds G Q => ∃ (v p s u ch : Addr) (ep : Nat) (rs0 rs : List Ent) (used : List Nat) (chg : Chg), ds = [.ref v, .tup (rs.map entD)] ∧ VlAt G v p s u ch (anchD ep rs0) used chg ∧ ChangeMade G ep rs Q
def tab_anchor_talk (m : Gm) : Cl → Option GSp := fun c => match c with
  | .volume => some (sp_volume_anchor_talk m)
  | _ => none
def sp_volume_snapshot (m : Gm) : GSp := fun ds G Q => ∃ (v p s u ch : Addr) (ep : Nat) (e : Ent) (rs : List Ent) (used : List Nat) (chg : Chg) (S : Shp), ds = [.ref v] ∧ VlAt G v p s u ch (anchD ep (e :: rs)) used chg ∧ ShAt G p S ∧ rs.length < 100 ∧
  (rs.length = S.s → ∀ t G', G' t = some (.ins .talk [(.present, doneR (.tup [.str "full", .int (rs.length : Nat)])), (.answers, .int 0)]) → Keep G G' [] → G t = none → Q (.ref t) G') ∧ (rs.length ≠ S.s → ChangeMade G ep (e :: rs ++ [e]) Q)
def tab_snapshot (m : Gm) : Cl → Option GSp := fun c => match c with
  | .volume => some (sp_volume_snapshot m)
  | _ => none
def sp_volume_drop (m : Gm) : GSp := fun ds G Q => ∃ (v p s u ch : Addr) (ep k : Nat) (rs : List Ent) (used : List Nat) (chg : Chg), ds = [.ref v, .int k] ∧ VlAt G v p s u ch (anchD ep rs) used chg ∧ rs.length < 100 ∧ ChangeMade G ep (rs.take k ++ rs.drop (k + 1)) Q
def tab_drop (m : Gm) : Cl → Option GSp := fun c => match c with
  | .volume => some (sp_volume_drop m)
  | _ => none
def sp_volume_add_used (m : Gm) : GSp := fun ds G Q => ∃ (v p s u ch : Addr) (an : D) (used : List Nat) (chg : Chg) (A : CmA) (rq : Addr) (il : List (Way × Addr)) (C : CmC) (pr : D) (n : Int) (at_ : Nat) (rqs : List D) (st : PSt), ds = [.ref v, .ref A.t] ∧ VlAt G v p s u ch an used chg ∧ CmAt G A rq il C pr n at_ rqs st ∧ TabsG m G ∧ used.length ≤ 2000 ∧ C.fl.length ≤ 2000 ∧
  (C.chg = [] → Q .non G) ∧ (C.chg ≠ [] → ∀ u' G', VlAt G' v p s u' ch an (srt (used ++ C.fl.take C.need)) chg → Keep G G' [v] → G u' = none → Q .non G')
def tab_add_used (m : Gm) : Cl → Option GSp := fun c => match c with
  | .volume => some (sp_volume_add_used m)
  | _ => none
def sp_volume_finish (m : Gm) : GSp := fun ds G Q => ∃ (v p s u ch t : Addr) (an : D) (used : List Nat) (chg : Chg) (x : String) (r : List D) (c : Cl) (fs : List (Fd × D)), ds = [.ref v, .ref t] ∧ VlAt G v p s u ch an used chg ∧ used.length ≤ 2000 ∧ G t = some (.ins c fs) ∧ fget fs .present = some (reqD x r) ∧ isTalk c = true ∧
  ((x = "refused" ∧ Q .non G) ∨ (x ≠ "refused" ∧
    ((c = .scan ∧ ∃ z zs, r = [.ref z] ∧ z ≠ v ∧ G z = some (.lst (intsD zs)) ∧ ∀ u' G', VlAt G' v p s u' ch an zs chg → Keep G G' [v] → G u' = none → Q .non G') ∨
     (c = .commit ∧ ∃ (y : String) (r' : List D), r = [.tup (.str y :: r')] ∧ ((y ≠ "committed" ∧ Q .non G) ∨ (y = "committed" ∧ ∃ an' A rq il C pr n at_ rqs st, r' = [an'] ∧ t = A.t ∧ CmAt G A rq il C pr n at_ rqs st ∧ TabsG m G ∧ C.fl.length ≤ 2000 ∧ v ∉ cmYs A rq il ∧ (∀ y ∈ m.tabs, y.1 ≠ v) ∧
        ∀ u' ch' G', VlAt G' v p s u' ch' an' (if C.chg = [] then used else srt (used ++ C.fl.take C.need)) [] → Keep G G' [v] → (u' = u ∨ G u' = none) → G ch' = none → u' ≠ ch' → Q .non G'))) ∨
     (c = .change ∧ ∃ an', r = [.tup [.str "committed", an']] ∧ ∀ G', VlAt G' v p s u ch an' used chg → Keep G G' [v] → Q .non G') ∨
     ((c = .read ∨ c = .talk) ∧ Q .non G))))
def sp_paper_of (m : Gm) : GSp := fun ds G Q => ∃ (t c p s : Addr) (pr way : D) (n : Int) (e : Ent) (vs : List D), ds = [.ref t] ∧ G t = some (.ins .read (rdF pr n p s way e c)) ∧ G c = some (.lst vs) ∧ ∀ l G', G' l = some (.lst vs) → Keep G G' [] → G l = none → Q (.ref l) G'
def sp_check_paper (m : Gm) : GSp := fun ds G Q => ∃ (p s sd l : Addr) (S : Shp) (cs : List PCell) (dk : Nat → Option D) (root : Ent) (g : List Nat → List Nat) (i : Nat), ds = [.ref p, .ref s, entD root, .int i, .ref l] ∧ ShAt G p S ∧ SealC G s sd cs ∧ Good dk cs S.f S.d root g ∧ G l = some (.lst (vsAt cs root (wayN S.f S.d i) (S.d + 1))) ∧
  ∀ G', Keep G G' [] → Q (.tup (intsD (g (wayN S.f S.d i)))) G'
instance s_dc {it : GI} {g : GG} {t : GT} {ek ev : GE} {vs : List Nat} {σ : GSt} {G : GH} {Q : GQ} : Stp (gDc it g t ek ev vs σ G Q) (it σ G fun ds ok G1 => ∀ p, G1 p = none → ok (G1.set p (.dct .ik [])) ∧ gDcL p g t ek ev (wipeG σ vs) (fun G2 => Q (.ref p) G2) ds ok (G1.set p (.dct .ik []))) := ⟨id⟩
theorem i_dcl {p : Addr} {g : GG} {t : GT} {ek ev : GE} {σ : GSt} {Q : GH → Prop} {ds : List D} {ok : GH → Prop} {G : GH} (W : Nat → List (D × D) → GH → Prop) (h0 : W 0 [] G)
    (step : ∀ i d acc G, ds[i]? = some d → ok G → G p = some (.dct .ik acc) → W i acc G → g d σ G fun σ1 G1 => t σ1 G1 fun b G2 => if b = true then ek σ1 G2 fun y G3 => ev σ1 G3 fun z G4 => isKey y = true ∧ G4 p = some (.dct .ik acc) ∧ acc.length < lim ∧ ok (G4.set p (.dct .ik (dput acc y z))) ∧ W (i + 1) (dput acc y z) (G4.set p (.dct .ik (dput acc y z)))
      else G2 p = some (.dct .ik acc) ∧ ok G2 ∧ W (i + 1) acc G2)
    (fin : ∀ acc G, ok G → G p = some (.dct .ik acc) → W ds.length acc G → Q G) : gDcL p g t ek ev σ Q ds ok G := ⟨W, h0, step, fin⟩
/-- Volume.__init__: 0 self, 1 shape, 2 sealer, 3 anchor, 4 used -/
def rd_volume_init (m : Gm) : GS := gSeq (gSetF m (gVar 0) (gVar 1) .shape) (gSeq (gSetF m (gVar 0) (gVar 2) .sealer) (gSeq (gSetF m (gVar 0) (gVar 3) .anchor) (gSeq (gSetF m (gVar 0) (gCall bList (gCons (gVar 4) (gNil))) .used) (gSetF m (gVar 0) (gDNew .ik) .changed))))
abbrev N_volume_init : List Str := ["self", "shape", "sealer", "anchor", "used"]
/-- Volume.free: 0 self, 1 held, 2 block -/
def rd_volume_free (m : Gm) : GS := gSeq (gSet 1 (gDc (gIter (gFld (gVar 0) .used)) (gNm 2) (gYes) (gVar 2) (gC (.bl true)) [2])) (gRet (gLc (gRng1 (gCons (gFld (gFld (gVar 0) .shape) .blocks) (gNil))) (gNm 2) (gTest (gBin (gIn true) (gVar 2) (gVar 1))) (gVar 2) [2]))
abbrev N_volume_free : List Str := ["self", "held", "block"]
/-- Volume.write: 0 self, 1 index, 2 words -/
def rd_volume_write (m : Gm) : GS := gPut (gCall bTup (gCons (gVar 2) (gNil))) (gFld (gVar 0) .changed) (gVar 1)
abbrev N_volume_write : List Str := ["self", "index", "words"]
/-- Volume.read_at: 0 self, 1 number, 2 index -/
def rd_volume_read_at (m : Gm) : GS := gRet (gMake .read (sp_read_init m) (gCons (gFld (gVar 0) .shape) (gCons (gFld (gVar 0) .sealer) (gCons (gBin gIx (gBin gIx (gFld (gVar 0) .anchor) (gC (.int 2))) (gVar 1)) (gCons (gVar 2) (gNil))))))
abbrev N_volume_read_at : List Str := ["self", "number", "index"]
def rd_volume_read_1 (m : Gm) : GS := gRet (gMeth (tab_read_at m) (gVar 0) (gCons (gC (.int 0)) (gCons (gVar 1) (gNil))))
/-- Volume.read: 0 self, 1 index -/
def rd_volume_read (m : Gm) : GS := gSeq (gIf (gTest (gBin (gIn false) (gVar 1) (gFld (gVar 0) .changed))) (gRet (gMake .talk (sp_talk_init m) (gCons (gTup (gCons (gC (.str "done")) (gCons (gBin gIx (gFld (gVar 0) .changed) (gVar 1)) (gNil)))) (gNil)))) (gNext)) (rd_volume_read_1 m)
abbrev N_volume_read : List Str := ["self", "index"]
/-- Volume.commit: 0 self -/
def rd_volume_commit (m : Gm) : GS := gRet (gMake .commit (sp_commit_init m) (gCons (gFld (gVar 0) .shape) (gCons (gFld (gVar 0) .sealer) (gCons (gFld (gVar 0) .anchor) (gCons (gCall bDict (gCons (gFld (gVar 0) .changed) (gNil))) (gCons (gMeth (tab_free m) (gVar 0) gNil) (gNil)))))))
abbrev N_volume_commit : List Str := ["self"]
/-- Volume.sweep: 0 self -/
def rd_volume_sweep (m : Gm) : GS := gRet (gMake .scan (sp_scan_init m) (gCons (gFld (gVar 0) .shape) (gCons (gFld (gVar 0) .sealer) (gCons (gBin gIx (gFld (gVar 0) .anchor) (gC (.int 2))) (gNil)))))
abbrev N_volume_sweep : List Str := ["self"]
/-- Volume.anchor_talk: 0 self, 1 roots, 2 anchor -/
def rd_volume_anchor_talk (m : Gm) : GS := gSeq (gSet 2 (gTup (gCons (gC (.str "anchor")) (gCons (gBin gAdd (gBin gIx (gFld (gVar 0) .anchor) (gC (.int 1))) (gC (.int 1))) (gCons (gVar 1) (gNil)))))) (gRet (gMake .change (sp_change_init m) (gCons (gLst (gCons (gTup (gCons (gC (.str "anchor")) (gCons (gVar 2) (gNil)))) (gNil))) (gCons (gTup (gCons (gC (.str "committed")) (gCons (gVar 2) (gNil)))) (gNil)))))
abbrev N_volume_anchor_talk : List Str := ["self", "roots", "anchor"]
def rd_volume_snapshot_1 (m : Gm) : GS := gRet (gMeth (tab_anchor_talk m) (gVar 0) (gCons (gBin gAdd (gBin gIx (gFld (gVar 0) .anchor) (gC (.int 2))) (gTup (gCons (gBin gIx (gBin gIx (gFld (gVar 0) .anchor) (gC (.int 2))) (gC (.int 0))) (gNil)))) (gNil)))
/-- Volume.snapshot: 0 self, 1 many -/
def rd_volume_snapshot (m : Gm) : GS := gSeq (gSet 1 (gBin gSub (gCall bLen (gCons (gBin gIx (gFld (gVar 0) .anchor) (gC (.int 2))) (gNil))) (gC (.int 1)))) (gSeq (gIf (gTest (gBin (gEq false) (gVar 1) (gFld (gFld (gVar 0) .shape) .snapshots))) (gRet (gMake .talk (sp_talk_init m) (gCons (gTup (gCons (gC (.str "done")) (gCons (gTup (gCons (gC (.str "full")) (gCons (gVar 1) (gNil)))) (gNil)))) (gNil)))) (gNext)) (rd_volume_snapshot_1 m))
abbrev N_volume_snapshot : List Str := ["self", "many"]
/-- Volume.drop: 0 self, 1 number -/
def rd_volume_drop (m : Gm) : GS := gRet (gMeth (tab_anchor_talk m) (gVar 0) (gCons (gBin gAdd (gSl (gBin gIx (gFld (gVar 0) .anchor) (gC (.int 2))) (gNoPart) (gPart (gVar 1))) (gSl (gBin gIx (gFld (gVar 0) .anchor) (gC (.int 2))) (gPart (gBin gAdd (gVar 1) (gC (.int 1)))) (gNoPart))) (gNil)))
abbrev N_volume_drop : List Str := ["self", "number"]
/-- Volume.add_used: 0 self, 1 talk -/
def rd_volume_add_used (m : Gm) : GS := gIf (gTru (gFld (gVar 1) .changed)) (gSetF m (gVar 0) (gCall bSort (gCons (gBin gAdd (gFld (gVar 0) .used) (gSl (gFld (gVar 1) .free) (gNoPart) (gPart (gMeth (tab_taken m) (gVar 1) gNil)))) (gNil))) .used) (gNext)
abbrev N_volume_add_used : List Str := ["self", "talk"]
def rd_volume_finish_1 (m : Gm) : GS := gIf (gTest (gCall (bIsiO m) (gCons (gVar 1) (gCons (gC (.ref (m.cls .scan))) (gNil))))) (gSetF m (gVar 0) (gCall bList (gCons (gBin gIx (gVar 2) (gC (.int 1))) (gNil))) .used) (gIf (gAnd (gTest (gCall (bIsiO m) (gCons (gVar 1) (gCons (gC (.ref (m.cls .commit))) (gNil))))) (gTest (gBin (gEq false) (gBin gIx (gBin gIx (gVar 2) (gC (.int 1))) (gC (.int 0))) (gC (.str "committed"))))) (gSeq (gDrop (gMeth (tab_add_used m) (gVar 0) (gCons (gVar 1) (gNil)))) (gSeq (gSetF m (gVar 0) (gBin gIx (gBin gIx (gVar 2) (gC (.int 1))) (gC (.int 1))) .anchor) (gSetF m (gVar 0) (gDNew .ik) .changed))) (gIf (gTest (gCall (bIsiO m) (gCons (gVar 1) (gCons (gC (.ref (m.cls .change))) (gNil))))) (gSetF m (gVar 0) (gBin gIx (gBin gIx (gVar 2) (gC (.int 1))) (gC (.int 1))) .anchor) (gNext)))
/-- Volume.finish: 0 self, 1 talk, 2 result -/
def rd_volume_finish (m : Gm) : GS := gSeq (gSet 2 (gMeth (tab_request m) (gVar 1) gNil)) (gSeq (gIf (gTest (gBin (gEq false) (gBin gIx (gVar 2) (gC (.int 0))) (gC (.str "refused")))) (gRetN) (gNext)) (rd_volume_finish_1 m))
abbrev N_volume_finish : List Str := ["self", "talk", "result"]
/-- paper_of: 0 talk -/
def rd_paper_of (m : Gm) : GS := gRet (gCall bList (gCons (gFld (gVar 0) .cells) (gNil)))
abbrev N_paper_of : List Str := ["talk"]
def rd_check_paper_1 (m : Gm) : GS := gIf (gTest (gBin gLt (gVar 7) (gFld (gVar 0) .depth))) (gSet 6 (gBin gIx (gBin gIx (gVar 4) (gVar 7)) (gBin gAdd (gC (.int 1)) (gBin gIx (gVar 5) (gVar 7))))) (gNext)
def rd_check_paper_2 (m : Gm) : GS := gSeq (gIf (gNot (gTest (gMeth tab_knows (gVar 1) (gCons (gBin gIx (gVar 4) (gVar 7)) (gCons (gBin gIx (gVar 6) (gC (.int 1))) (gNil)))))) (gRet (gC .non)) (gNext)) (rd_check_paper_1 m)
def rd_check_paper_3 (m : Gm) : GS := gRet (gSl (gBin gIx (gVar 4) (gFld (gVar 0) .depth)) (gPart (gC (.int 1))) (gNoPart))
def rd_check_paper_4 (m : Gm) : GS := gSeq (gSet 5 (gMeth tab_way (gVar 0) (gCons (gVar 3) (gNil)))) (gSeq (gSet 6 (gVar 2)) (gSeq (gFor (gRng1 (gCons (gBin gAdd (gFld (gVar 0) .depth) (gC (.int 1))) (gNil))) (gNm 7) (rd_check_paper_2 m)) (rd_check_paper_3 m)))
/-- check_paper: 0 shape, 1 sealer, 2 root, 3 index, 4 paper, 5 way, 6 entry, 7 level -/
def rd_check_paper (m : Gm) : GS := gSeq (gIf (gTest (gBin (gEq true) (gCall bLen (gCons (gVar 4) (gNil))) (gBin gAdd (gFld (gVar 0) .depth) (gC (.int 1))))) (gRet (gC .non)) (gNext)) (rd_check_paper_4 m)
abbrev N_check_paper : List Str := ["shape", "sealer", "root", "index", "paper", "way", "entry", "level"]
def rd_talk_answer_1 (m : Gm) : GS := gSeq (gSetF m (gVar 0) (gBin gAdd (gFld (gVar 0) .answers) (gC (.int 1))) .answers) (gDrop (gMeth (tab_go_on m) (gVar 0) (gCons (gVar 1) (gNil))))
/-- Talk.answer: 0 self, 1 value -/
def rd_talk_answer (m : Gm) : GS := gSeq (gIf (gTest (gMeth (tab_has_ended m) (gVar 0) gNil)) (gNever) (gNext)) (rd_talk_answer_1 m)
abbrev N_talk_answer : List Str := ["self", "value"]

theorem VlAt.keep {G G' : GH} {v p s u ch : Addr} {an : D} {used : List Nat} {chg : Chg} {xs : List Addr} (h : VlAt G v p s u ch an used chg) (k : Keep G G' xs) (hv : v ∉ xs) (hu : u ∉ xs) (hc : ch ∉ xs) : VlAt G' v p s u ch an used chg := ⟨k _ _ h.o hv, k _ _ h.hu hu, k _ _ h.hc hc⟩
theorem VlAt.nvu {G : GH} {v p s u ch : Addr} {an : D} {used : List Nat} {chg : Chg} (h : VlAt G v p s u ch an used chg) : v ≠ u ∧ v ≠ ch ∧ u ≠ ch := ⟨(fun z => by have := h.o; rw [z, h.hu] at this; cases this), (fun z => by have := h.o; rw [z, h.hc] at this; cases this), (fun z => by have := h.hu; rw [z, h.hc] at this; cases this)⟩
theorem putC_chK (chg : Chg) (i : Nat) (ws : List Nat) : dput (chK chg) (.int i) (.tup (intsD ws)) = chK (putC chg i ws) := by
  have hk : (dget (chK chg) (.int i)).isSome = decide (i ∈ chg.map (·.1)) := by
    by_cases h : i ∈ chg.map (·.1)
    · obtain ⟨w, h1, _⟩ := getC_some h
      rw [chK_get h1, decide_eq_true h]; rfl
    · rw [decide_eq_false h]
      have : dget (chK chg) (.int i) = none := by
        rw [dget_none_iff, chK_keys]
        intro z
        unfold intsD at z
        obtain ⟨n, hn, e⟩ := List.mem_map.mp z
        have : n = i := by injection e with e; omega
        exact h (this ▸ hn)
      rw [this]; rfl
  unfold dput putC
  rw [hk]
  by_cases h : i ∈ chg.map (·.1)
  · rw [decide_eq_true h, if_pos rfl, if_pos h]
    unfold chK
    rw [List.map_map, List.map_map]
    refine List.map_congr_left fun x _ => ?_
    show (if D.int (x.1 : Int) = D.int (i : Int) then (D.int (x.1 : Int), D.tup (intsD ws)) else (D.int (x.1 : Int), D.tup (intsD x.2))) = _
    by_cases e : x.1 = i
    · rw [if_pos (by rw [e])]
      show _ = (fun x : Nat × List Nat => (D.int (x.1 : Int), D.tup (intsD x.2))) (if x.1 = i then (x.1, ws) else x)
      rw [if_pos e]
    · rw [if_neg (by simp only [D.int.injEq]; omega)]
      show _ = (fun x : Nat × List Nat => (D.int (x.1 : Int), D.tup (intsD x.2))) (if x.1 = i then (x.1, ws) else x)
      rw [if_neg e]
  · rw [decide_eq_false h, if_neg (by simp), if_neg h]
    unfold chK
    rw [List.map_append]
    rfl
theorem rdp_volume_init (m : Gm) (hm : OkC m .volume) (ds : List D) (G : GH) (Q : GQ) (h : sp_volume_init m ds G Q) : rd_volume_init m (bodyEnds Q) (gstart N_volume_init ds) G := by
  obtain ⟨v, p, s, an, x, used, rfl, hG, hx, hxv, k⟩ := h
  rw [show gstart N_volume_init [.ref v, .ref p, .ref s, an, x] = [some (.ref v), some (.ref p), some (.ref s), some an, some x] from rfl]
  unfold rd_volume_init
  refine go (i_setFA hG (hm _ (by decide)) (by decide) fun G1 v1 k1 => go (i_setFA v1 (hm _ (by decide)) (by exact (by decide : 1 < 100)) fun G2 v2 k2 => go (i_setFA v2 (hm _ (by decide)) (by exact (by decide : 2 < 100)) fun G3 v3 k3 => go ?_)))
  have kA : Keep G G3 [v] := (k1.same k2).same k3
  have hx3 : itemsG x G3 = some (intsD used) := by
    cases x with
    | ref a =>
      have := items_ref hx
      exact items_lst (kA _ _ this (by simp [hxv a rfl]))
    | _ => exact hx
  refine i_listA hx3 fun u G4 hu u4 k4 => go (i_setFA (k4 _ _ v3 (by simp)) (hm _ (by decide)) (by exact (by decide : 3 < 100)) fun G5 v5 k5 => go (i_alloc fun ch G6 hch c6 k6 => go (i_setFA (k6 _ _ v5 (by simp)) (hm _ (by decide)) (by exact (by decide : 4 < 100)) fun G7 v7 k7 => go ?_)))
  have nu : u ≠ v := (gne_none v3 hu).symm
  have nc : ch ≠ v := (gne_none v5 hch).symm
  have u5 := k5 _ _ u4 (by simp [nu])
  have kB : Keep G G5 [v] := ((kA.trans k4).trans k5).sub (by simp)
  exact k u ch G7 ⟨v7, k7 _ _ (k6 _ _ u5 (by simp)) (by simp [nu]), k7 _ _ c6 (by simp [nc])⟩ (((kB.trans k6).trans k7).sub (by simp)) (kA.fresh hu (by simp [nu])) (kB.fresh hch (by simp [nc])) (gne_none u5 hch)
theorem len_volume_init (m : Gm) (ds : List D) (G : GH) (Q : GQ) (h : sp_volume_init m ds G Q) : ds.length = 5 := by obtain ⟨v, p, s, an, x, used, rfl, _⟩ := h; rfl
theorem free_mem_filter (b : Nat) (used : List Nat) (n : Nat) : freeN (n + 1) used = freeN n used ++ (if n ∈ used then [] else [n]) := by
  unfold freeN
  rw [List.range_succ, List.filter_append, List.filter_cons, List.filter_nil]
  by_cases h : n ∈ used <;> simp [h]
theorem freeN_len (b : Nat) (used : List Nat) : (freeN b used).length ≤ b := by
  unfold freeN
  have := List.length_filter_le (fun x => decide (x ∉ used)) (List.range b)
  rwa [List.length_range] at this
theorem rdp_volume_free (m : Gm) (ds : List D) (G : GH) (Q : GQ) (h : sp_volume_free m ds G Q) : rd_volume_free m (bodyEnds Q) (gstart N_volume_free ds) G := by
  obtain ⟨v, p, s, u, ch, an, used, chg, S, rfl, vl, hs, hlen, k⟩ := h
  rw [show gstart N_volume_free [.ref v] = [some (.ref v), none, none] from rfl]
  unfold rd_volume_free
  have bm := hs.2.bm
  refine go (i_fldR vl.o (d := .ref u) rfl (go (i_itL vl.hu fun h hh => ?_)))
  have nuh : u ≠ h := gne_none vl.hu hh
  refine ⟨(set_ne nuh).trans vl.hu, ?_⟩
  simp only [wipeG, List.set_cons_succ, List.set_cons_zero]
  refine i_dcl (fun i acc G' => G' = G.set h (.dct .ik acc) ∧ acc.length ≤ i ∧ ∀ b : Nat, (dget acc (.int b)).isSome = decide (b ∈ used.take i)) ⟨rfl, by simp, fun b => by simp [dget]⟩ ?_ ?_
  · rintro i d acc G' hi hok hp ⟨rfl, hl, hg⟩
    unfold intsD at hi
    rw [List.getElem?_map] at hi
    obtain ⟨y, hy, rfl⟩ := Option.map_eq_some_iff.mp hi
    have hiu := (List.getElem?_eq_some_iff.mp hy).1
    refine go ⟨rfl, set_same, by show acc.length < 100000; omega, by rw [set_set]; exact (set_ne nuh).trans vl.hu, set_set, ?_, fun b => ?_⟩
    · have := dput_length acc (.int y) (.bl true)
      omega
    · rw [dget_dput, List.take_add_one, hy]
      by_cases e : b = y
      · subst e; simp
      · rw [if_neg (by simp only [D.int.injEq]; omega), hg]
        simp [e]
  · rintro acc G' hok hp ⟨rfl, hl, hg⟩
    rw [intsD_len, List.take_length] at hg
    clear hok
    have kA := Keep.new (o := .dct .ik acc) hh []
    have hs1 := hs.keep kA (by simp)
    refine go (i_fldR (kA _ _ vl.o (by simp)) (d := .ref p) rfl (go (i_fldR hs1.1 (d := .int S.b) rfl (go ⟨by omega, by omega, fun l hl0 => ⟨True.intro, ?_⟩⟩))))
    have nhl : h ≠ l := gne_none hp hl0
    simp only [wipeG, List.set_cons_succ, List.set_cons_zero]
    refine i_lcl (fun i acc' G' => acc' = intsD (freeN i used) ∧ G' = (G.set h (.dct .ik acc)).set l (.lst acc')) ⟨rfl, rfl⟩ ?_ ?_
    · rintro i d acc' G' hi hok hp' ⟨rfl, rfl⟩
      rw [List.getElem?_map] at hi
      obtain ⟨y, hy, rfl⟩ := Option.map_eq_some_iff.mp hi
      obtain ⟨hi1, hi2⟩ := List.getElem?_eq_some_iff.mp hy
      rw [List.getElem_range] at hi2
      subst hi2
      rw [List.length_range] at hi1
      refine go (i_ninI (by rw [set_ne nhl]; exact hp) rfl (go ?_))
      rw [hg, free_mem_filter S.b]
      by_cases e : i ∈ used
      · rw [if_pos e]
        refine i_iteN (fun z => absurd e z) fun _ => ⟨set_same, True.intro, by rw [List.append_nil], rfl⟩
      · rw [if_neg e]
        refine i_iteN (fun _ => go ⟨set_same, ?_, True.intro, ?_, set_set⟩) fun z => absurd z e
        · rw [intsD_len]
          have := freeN_len i used
          show (freeN i used).length < 100000
          omega
        · rw [intsD_app]; rfl
    · rintro acc' G' hok hp' ⟨rfl, rfl⟩
      rw [List.length_map, List.length_range, show ((S.b : Int)).toNat = S.b by omega] at hp' ⊢
      exact go (k l _ hp' ((kA.trans (Keep.new hl0 [])).sub (by simp)) (kA.fresh hl0 (by simp)))
theorem len_volume_free (m : Gm) (ds : List D) (G : GH) (Q : GQ) (h : sp_volume_free m ds G Q) : ds.length = 1 := by obtain ⟨v, p, s, u, ch, an, used, chg, S, rfl, _⟩ := h; rfl
theorem rdp_volume_write (m : Gm) (ds : List D) (G : GH) (Q : GQ) (h : sp_volume_write m ds G Q) : rd_volume_write m (bodyEnds Q) (gstart N_volume_write ds) G := by
  obtain ⟨v, p, s, u, ch, wl, an, used, chg, i, ws, rfl, vl, nuc, nvc, hw, hl, k⟩ := h
  rw [show gstart N_volume_write [.ref v, .int i, .ref wl] = [some (.ref v), some (.int i), some (.ref wl)] from rfl]
  unfold rd_volume_write
  refine go (i_tupA (items_lst hw) (go (i_fldR vl.o (d := .ref ch) rfl (go (i_putIA vl.hc rfl (by unfold chK; rw [List.length_map]; show chg.length < 100000; omega) fun G1 c1 k1 => go ?_)))))
  rw [putC_chK] at c1
  exact k G1 ⟨k1 _ _ vl.o (by simp [nvc]), k1 _ _ vl.hu (by simp [nuc]), c1⟩ k1
theorem len_volume_write (m : Gm) (ds : List D) (G : GH) (Q : GQ) (h : sp_volume_write m ds G Q) : ds.length = 3 := by obtain ⟨v, p, s, u, ch, wl, an, used, chg, i, ws, rfl, _⟩ := h; rfl
theorem i_anch {ep : Nat} {rs : List Ent} {G : GH} {Q : GQ} (q : Q (.tup (rs.map entD)) G) : gIx (anchD ep rs) (.int 2) G Q := i_ixT (ds := [.str "anchor", .int ep, .tup (rs.map entD)]) rfl q
theorem i_root {rs : List Ent} {k : Nat} {e : Ent} {G : GH} {Q : GQ} (h : rs[k]? = some e) (q : Q (entD e) G) : gIx (.tup (rs.map entD)) (.int k) G Q := i_ixT (atI_at (Int.natCast_nonneg k) (by rw [Int.toNat_natCast, List.getElem?_map, h]; rfl)) q
theorem rdp_volume_read_at (m : Gm) (ds : List D) (G : GH) (Q : GQ) (h : sp_volume_read_at m ds G Q) : rd_volume_read_at m (bodyEnds Q) (gstart N_volume_read_at ds) G := by
  obtain ⟨v, p, s, u, ch, ep, rs, used, chg, S, k, i, e, rfl, vl, hs, he, q⟩ := h
  rw [show gstart N_volume_read_at [.ref v, .int k, .int i] = [some (.ref v), some (.int k), some (.int i)] from rfl]
  unfold rd_volume_read_at
  refine go (i_fldR vl.o (d := .ref p) rfl (go (i_fldR vl.o (d := .ref s) rfl (go (i_fldR vl.o (d := anchD ep rs) rfl (go (i_anch (go (i_root he (go fun t ht => ⟨t, p, s, S, e, i, rfl, set_same, hs.keep (Keep.new ht []) (by simp), fun c G' ht' hc' k' hc => ⟨rfl, go (q t c G' ht' hc' (fun b o hb _ => k' b o (Keep.new ht [] b o hb (by simp)) (by simp [gne_none hb ht])) ht ((Keep.new ht []).fresh hc (by simp)))⟩⟩))))))))))
theorem len_volume_read_at (m : Gm) (ds : List D) (G : GH) (Q : GQ) (h : sp_volume_read_at m ds G Q) : ds.length = 3 := by obtain ⟨v, p, s, u, ch, ep, rs, used, chg, S, k, i, e, rfl, _⟩ := h; rfl
theorem chK_none {chg : Chg} {i : Nat} (h : getC chg i = none) : dget (chK chg) (.int i) = none := by
  rw [dget_none_iff, chK_keys]
  intro z
  unfold intsD at z
  obtain ⟨n, hn, e⟩ := List.mem_map.mp z
  have : n = i := by injection e with e; omega
  subst this
  obtain ⟨ws, h1, _⟩ := getC_some hn
  rw [h] at h1; cases h1
theorem rdp_volume_read (m : Gm) (hm : OkC m .talk) (ds : List D) (G : GH) (Q : GQ) (h : sp_volume_read m ds G Q) : rd_volume_read m (bodyEnds Q) (gstart N_volume_read ds) G := by
  obtain ⟨v, p, s, u, ch, ep, e, rs, used, chg, S, i, rfl, vl, hs, q1, q2⟩ := h
  rw [show gstart N_volume_read [.ref v, .int i] = [some (.ref v), some (.int i)] from rfl]
  unfold rd_volume_read
  refine go (i_fldR vl.o (d := .ref ch) rfl (go (i_inI vl.hc rfl (go ?_))))
  cases hg : getC chg i with
  | some ws =>
    rw [chK_get hg]
    refine go (i_fldR vl.o (d := .ref ch) rfl (go (i_ixI vl.hc rfl (chK_get hg) (go fun t ht => i_tinit set_same (hm _ (by decide)) (hm _ (by decide)) fun G' t' k' => ⟨rfl, go (q1 ws hg t G' t' (fun b o hb _ => k' b o (Keep.new ht [] b o hb (by simp)) (by simp [gne_none hb ht])) ht)⟩))))
  | none =>
    rw [chK_none hg]
    unfold rd_volume_read_1
    exact go (i_methR vl.o (sp := sp_volume_read_at m) rfl (go ⟨v, p, s, u, ch, ep, e :: rs, used, chg, S, 0, i, e, rfl, vl, hs, rfl, q2 hg⟩))
theorem len_volume_read (m : Gm) (ds : List D) (G : GH) (Q : GQ) (h : sp_volume_read m ds G Q) : ds.length = 2 := by obtain ⟨v, p, s, u, ch, ep, e, rs, used, chg, S, i, rfl, _⟩ := h; rfl
end Cz

/-! CzVol2: volumes' talks, what they bring; papers. -/
namespace Cz
open PySem L2 Cz.K02
theorem rdp_volume_commit (m : Gm) (ds : List D) (G : GH) (Q : GQ) (h : sp_volume_commit m ds G Q) : rd_volume_commit m (bodyEnds Q) (gstart N_volume_commit ds) G := by
  obtain ⟨v, p, s, sd, u, ch, used, C, cs, rfl, vl, hs, sl, hfl, hul, T, ok, k⟩ := h
  rw [show gstart N_volume_commit [.ref v] = [some (.ref v)] from rfl]
  unfold rd_volume_commit
  refine go (i_fldR vl.o (d := .ref p) rfl (go (i_fldR vl.o (d := .ref s) rfl (go (i_fldR vl.o (d := C.an) rfl (go (i_fldR vl.o (d := .ref ch) rfl (go ⟨chK C.chg, vl.hc, fun c2 hc2 => go ?_⟩))))))))
  have k1 := Keep.new (o := .dct .ik (chK C.chg)) hc2 []
  have c1 : (G.set c2 (.dct .ik (chK C.chg))) c2 = some (.dct .ik (chK C.chg)) := set_same
  have vl1 := vl.keep k1 (by simp) (by simp) (by simp)
  have hs1 := hs.keep k1 (by simp)
  have sl1 := sl.keep k1 (by simp) (by simp)
  have T1 := T.keep k1
  have nv : ∀ y, G y ≠ none → y ≠ c2 := fun y hy z => hy (z ▸ hc2)
  generalize G.set c2 (.dct .ik (chK C.chg)) = G1 at k1 c1 vl1 hs1 sl1 T1
  refine i_methR vl1.o (sp := sp_volume_free m) rfl (go ⟨v, p, s, u, ch, C.an, used, C.chg, C.S, rfl, vl1, hs1, hul, fun f2 G2 hf2 k2 gf2 => go fun t ht => ?_⟩)
  rw [← hfl] at hf2
  have kt := Keep.new (o := .ins .commit []) ht []
  have kA : Keep G G2 [] := k1.same k2
  have gp : G p ≠ none := by rw [hs.1]; exact fun z => nomatch z
  have gs : G s ≠ none := by rw [sl.1]; exact fun z => nomatch z
  have gsd : G sd ≠ none := by rw [sl.2.1]; exact fun z => nomatch z
  have tn : ∀ y, G y ≠ none → t ≠ y := fun y hy z => by
    cases hy2 : G y with
    | none => exact hy hy2
    | some o => exact gne_none (kA _ _ hy2 (by simp)) ht z.symm
  have fn : ∀ y, G y ≠ none → f2 ≠ y := fun y hy z => by
    cases hy2 : G y with
    | none => exact hy hy2
    | some o => exact gne_none (k1 _ _ hy2 (by simp)) gf2 z.symm
  have nps : p ≠ s := fun z => by have := hs.1; rw [z, sl.1] at this; cases this
  have npd : p ≠ sd := fun z => by have := hs.1; rw [z, sl.2.1] at this; cases this
  have nsd := sl.ne
  have ncf : c2 ≠ f2 := gne_none c1 gf2
  have ntc : t ≠ c2 := (gne_none (k2 _ _ c1 (by simp)) ht).symm
  have ntf : t ≠ f2 := (gne_none hf2 ht).symm
  refine ⟨t, p, s, sd, c2, f2, C, cs, rfl, set_same, (hs.keep kA (by simp)).keep kt (by simp), (sl.keep kA (by simp) (by simp)).keep kt (by simp) (by simp), kt _ _ (k2 _ _ c1 (by simp)) (by simp), kt _ _ hf2 (by simp), ?_, (T.keep kA).keep kt, ok, ok.cl, fun inn ent ord rq G3 h3 k3 gi ge go' gr => ⟨rfl, go ?_⟩⟩
  · simp [tn _ gp, tn _ gs, tn _ gsd, ntc, ntf, nps, npd, nsd, nv _ gp, nv _ gs, nv _ gsd, (fn _ gp).symm, (fn _ gs).symm, (fn _ gsd).symm, ncf]
  · have gt : G t = none := kA.fresh ht (by simp)
    have gf : G f2 = none := k1.fresh gf2 (by simp)
    have fr : ∀ y, (G2.set t (.ins .commit [])) y = none → G y = none := fun y hy => kA.fresh (kt.fresh hy (by simp)) (by simp)
    refine k ⟨t, p, s, sd, c2, f2, inn, ent, ord⟩ rq G3 rfl rfl rfl h3 (fun b o hb _ => k3 b o (kt b o (kA b o hb (by simp)) (by simp)) (by simp [gne_none hb gt])) fun y hy n1 n2 n3 => ?_
    unfold cmYs CmA.ys at hy
    simp only [List.mem_append, List.mem_cons, List.not_mem_nil, or_false, List.map_nil] at hy
    rcases hy with (rfl | rfl | rfl | rfl | rfl | rfl | rfl | rfl | rfl) | rfl
    · exact gt
    · exact absurd rfl n1
    · exact absurd rfl n2
    · exact absurd rfl n3
    · exact hc2
    · exact gf
    · exact fr _ gi
    · exact fr _ ge
    · exact fr _ go'
    · exact fr _ gr
theorem len_volume_commit (m : Gm) (ds : List D) (G : GH) (Q : GQ) (h : sp_volume_commit m ds G Q) : ds.length = 1 := by obtain ⟨v, p, s, sd, u, ch, used, C, cs, rfl, _⟩ := h; rfl
theorem rdp_volume_sweep (m : Gm) (ds : List D) (G : GH) (Q : GQ) (h : sp_volume_sweep m ds G Q) : rd_volume_sweep m (bodyEnds Q) (gstart N_volume_sweep ds) G := by
  obtain ⟨v, p, s, u, ch, ep, e, rs, used, chg, rfl, vl, hl, k⟩ := h
  rw [show gstart N_volume_sweep [.ref v] = [some (.ref v)] from rfl]
  unfold rd_volume_sweep
  refine go (i_fldR vl.o (d := .ref p) rfl (go (i_fldR vl.o (d := .ref s) rfl (go (i_fldR vl.o (d := anchD ep (e :: rs)) rfl (go (i_anch (go fun t ht => ⟨t, p, s, e, rs, rfl, set_same, hl, fun q se G' sc kk hq hse => ⟨rfl, go (k t q se G' sc ?_ ht ?_ ?_)⟩⟩))))))))
  · exact fun b o hb _ => kk b o (by rw [set_ne (gne_none hb ht)]; exact hb) (by simp [gne_none hb ht])
  · exact (Keep.new ht []).fresh hq (by simp)
  · exact (Keep.new ht []).fresh hse (by simp)
theorem len_volume_sweep (m : Gm) (ds : List D) (G : GH) (Q : GQ) (h : sp_volume_sweep m ds G Q) : ds.length = 1 := by obtain ⟨v, p, s, u, ch, ep, e, rs, used, chg, rfl, _⟩ := h; rfl
theorem rdp_volume_anchor_talk (m : Gm) (ds : List D) (G : GH) (Q : GQ) (h : sp_volume_anchor_talk m ds G Q) : rd_volume_anchor_talk m (bodyEnds Q) (gstart N_volume_anchor_talk ds) G := by
  obtain ⟨v, p, s, u, ch, ep, rs0, rs, used, chg, rfl, vl, k⟩ := h
  rw [show gstart N_volume_anchor_talk [.ref v, .tup (rs.map entD)] = [some (.ref v), some (.tup (rs.map entD)), none] from rfl]
  unfold rd_volume_anchor_talk
  refine go (i_fldR vl.o (d := anchD ep rs0) rfl (go (i_ixT (ds := [.str "anchor", .int ep, .tup (rs0.map entD)]) (d := .int ep) rfl (go (i_alloc fun l G1 hl l1 k1 => go fun t ht => ?_)))))
  have kt := Keep.new (o := .ins .change []) ht []
  refine ⟨t, l, reqD "anchor" [anchD (ep + 1) rs], .tup [.str "committed", anchD (ep + 1) rs], [], rfl, set_same, kt _ _ l1 (by simp), by simp, fun rq G2 t2 r2 k2 hr => ⟨rfl, go (k t rq G2 t2 r2 ?_ ?_ ?_)⟩⟩
  · exact fun b o hb _ => k2 b o (kt b o (k1 b o hb (by simp)) (by simp)) (by simp [gne_none (k1 b o hb (by simp)) ht])
  · exact k1.fresh ht (by simp)
  · exact k1.fresh (kt.fresh hr (by simp)) (by simp)
theorem len_volume_anchor_talk (m : Gm) (ds : List D) (G : GH) (Q : GQ) (h : sp_volume_anchor_talk m ds G Q) : ds.length = 2 := by obtain ⟨v, p, s, u, ch, ep, rs0, rs, used, chg, rfl, _⟩ := h; rfl
theorem rdp_volume_snapshot (m : Gm) (hm : OkC m .talk) (ds : List D) (G : GH) (Q : GQ) (h : sp_volume_snapshot m ds G Q) : rd_volume_snapshot m (bodyEnds Q) (gstart N_volume_snapshot ds) G := by
  obtain ⟨v, p, s, u, ch, ep, e, rs, used, chg, S, rfl, vl, hs, hl, q1, q2⟩ := h
  rw [show gstart N_volume_snapshot [.ref v] = [some (.ref v), none] from rfl]
  unfold rd_volume_snapshot
  refine go (i_fldR vl.o (d := anchD ep (e :: rs)) rfl (go (i_anch (go (i_fldR vl.o (d := .ref p) rfl (go (i_fldR hs.1 (d := .int S.s) rfl (go ?_))))))))
  rw [show (((e :: rs).map entD).length : Int) - 1 = (rs.length : Nat) by rw [List.length_map, List.length_cons]; omega]
  by_cases h : rs.length = S.s
  · refine i_yes (by omega) (go fun t ht => i_tinit set_same (hm _ (by decide)) (hm _ (by decide)) fun G' t' k' => ⟨rfl, go (q1 h t G' t' (fun b o hb _ => k' b o (Keep.new ht [] b o hb (by simp)) (by simp [gne_none hb ht])) ht)⟩)
  · refine i_no (by omega) (go ?_)
    unfold rd_volume_snapshot_1
    refine go (i_methR vl.o (sp := sp_volume_anchor_talk m) rfl (go (i_fldR vl.o (d := anchD ep (e :: rs)) rfl (go (i_anch (go (i_fldR vl.o (d := anchD ep (e :: rs)) rfl (go (i_anch (go (i_root (k := 0) (e := e) rfl (go (i_addT (by rw [List.length_map, List.length_cons]; show rs.length + 1 + 1 ≤ 100000; omega) (go ?_))))))))))))))
    exact ⟨v, p, s, u, ch, ep, e :: rs, e :: rs ++ [e], used, chg, by rw [List.map_append]; rfl, vl, q2 h⟩
theorem len_volume_snapshot (m : Gm) (ds : List D) (G : GH) (Q : GQ) (h : sp_volume_snapshot m ds G Q) : ds.length = 1 := by obtain ⟨v, p, s, u, ch, ep, e, rs, used, chg, S, rfl, _⟩ := h; rfl
instance (priority := low) s_cutT {ds : List D} {lo hi : Option Int} {G : GH} {Q : GQ} : Stp (gCut (.tup ds) lo hi G Q) (Q (.tup (cutD ds lo hi)) G) := ⟨fun q => q⟩
theorem rdp_volume_drop (m : Gm) (ds : List D) (G : GH) (Q : GQ) (h : sp_volume_drop m ds G Q) : rd_volume_drop m (bodyEnds Q) (gstart N_volume_drop ds) G := by
  obtain ⟨v, p, s, u, ch, ep, k, rs, used, chg, rfl, vl, hl, q⟩ := h
  rw [show gstart N_volume_drop [.ref v, .int k] = [some (.ref v), some (.int k)] from rfl]
  unfold rd_volume_drop
  refine go (i_methR vl.o (sp := sp_volume_anchor_talk m) rfl (go (i_fldR vl.o (d := anchD ep rs) rfl (go (i_anch (go ?_))))))
  refine i_fldR vl.o (d := anchD ep rs) rfl (go (i_anch (go ?_)))
  rw [cut_take, show (k : Int) + 1 = ((k + 1 : Nat) : Int) by omega, cut_drop, ← List.map_take, ← List.map_drop]
  refine i_addT (by rw [List.length_map, List.length_map, List.length_take, List.length_drop]; show _ ≤ 100000; omega) (go ⟨v, p, s, u, ch, ep, rs, rs.take k ++ rs.drop (k + 1), used, chg, by rw [List.map_append], vl, q⟩)
theorem len_volume_drop (m : Gm) (ds : List D) (G : GH) (Q : GQ) (h : sp_volume_drop m ds G Q) : ds.length = 2 := by obtain ⟨v, p, s, u, ch, ep, k, rs, used, chg, rfl, _⟩ := h; rfl
theorem rdp_volume_add_used (m : Gm) (hm : OkC m .volume) (ds : List D) (G : GH) (Q : GQ) (h : sp_volume_add_used m ds G Q) : rd_volume_add_used m (bodyEnds Q) (gstart N_volume_add_used ds) G := by
  obtain ⟨v, p, s, u, ch, an, used, chg, A, rq, il, C, pr, n, at_, rqs, st, rfl, vl, h, T, hul, hfl, q1, q2⟩ := h
  rw [show gstart N_volume_add_used [.ref v, .ref A.t] = [some (.ref v), some (.ref A.t)] from rfl]
  unfold rd_volume_add_used
  refine go (i_fldR h.o (d := .ref A.ch) rfl ⟨!(chK C.chg).isEmpty, .inr ⟨_, h.ch, rfl⟩, ?_⟩)
  rw [chK_nil]
  by_cases hc : C.chg = []
  · rw [hc]
    exact go (q1 hc)
  · rw [show C.chg.isEmpty = false by cases h : C.chg with | nil => exact absurd h hc | cons _ _ => rfl]
    refine go (i_fldR vl.o (d := .ref u) rfl (go (i_fldR h.o (d := .ref A.fr) rfl (go (i_methR h.o (sp := sp_commit_taken m) rfl (go ⟨A, rq, il, C, pr, n, at_, rqs, st, rfl, h, T, h.cok.cl, fun G1 k1 => go ⟨intsD C.fl, k1 _ _ h.fr (by simp), fun l hl => ?_⟩⟩))))))
    have kl := Keep.new (o := .lst (cutD (intsD C.fl) none (some (C.need : Int)))) hl []
    have kA : Keep G (G1.set l (.lst (cutD (intsD C.fl) none (some (C.need : Int))))) [] := (k1.trans kl).sub (by simp)
    have ecut : cutD (intsD C.fl) none (some (C.need : Int)) = intsD (C.fl.take C.need) := by rw [cut_take]; unfold intsD; rw [List.map_take]
    rw [ecut] at kA ⊢
    refine i_addLA (kA _ _ vl.hu (by simp)) set_same (by rw [intsD_len, intsD_len, List.length_take]; show _ ≤ 100000; omega) fun w G2 hw w2 k2 => go ?_
    have kB := kA.same k2
    rw [← intsD_app] at w2
    refine ⟨intsD (used ++ C.fl.take C.need), by unfold keysG; simp only [w2], .inl fun d hd => ?_, fun u' hu' => go ?_⟩
    · unfold intsD at hd
      obtain ⟨z, _, rfl⟩ := List.mem_map.mp hd
      exact ⟨_, rfl⟩
    rw [sortD]
    have ku := Keep.new (o := .lst (intsD (srt (used ++ C.fl.take C.need)))) hu' []
    have nuv : v ≠ u' := gne_none (kB _ _ vl.o (by simp)) hu'
    refine i_setFA (ku _ _ (kB _ _ vl.o (by simp)) (by simp)) (hm _ (by decide)) (by exact (by decide : 5 < 100)) fun G4 v4 k4 => go ?_
    have nvc := vl.nvu
    exact q2 hc u' G4 ⟨v4, k4 _ _ set_same (by simp [nuv.symm]), k4 _ _ (ku _ _ (kB _ _ vl.hc (by simp)) (by simp)) (by simp [nvc.2.1.symm])⟩ (((kB.trans ku).trans k4).sub (by simp)) (kB.fresh hu' (by simp))
theorem len_volume_add_used (m : Gm) (ds : List D) (G : GH) (Q : GQ) (h : sp_volume_add_used m ds G Q) : ds.length = 2 := by obtain ⟨v, p, s, u, ch, an, used, chg, A, rq, il, C, pr, n, at_, rqs, st, rfl, _⟩ := h; rfl
theorem rdp_paper_of (m : Gm) (ds : List D) (G : GH) (Q : GQ) (h : sp_paper_of m ds G Q) : rd_paper_of m (bodyEnds Q) (gstart N_paper_of ds) G := by
  obtain ⟨t, c, p, s, pr, way, n, e, vs, rfl, ht, hc, k⟩ := h
  rw [show gstart N_paper_of [.ref t] = [some (.ref t)] from rfl]
  unfold rd_paper_of
  exact go (i_fldR ht (d := .ref c) rfl (go (i_listA (items_lst hc) fun l G' hl l1 k1 => go (k l G' l1 k1 hl))))
theorem len_paper_of (m : Gm) (ds : List D) (G : GH) (Q : GQ) (h : sp_paper_of m ds G Q) : ds.length = 1 := by obtain ⟨t, c, p, s, pr, way, n, e, vs, rfl, _⟩ := h; rfl
theorem rdp_talk_answer (m : Gm) (ds : List D) (G : GH) (Q : GQ) (h : sp_talk_answer m ds G Q) : rd_talk_answer m (bodyEnds Q) (gstart N_talk_answer ds) G := by
  refine rdp_ans m (tab_has_ended m) (tab_go_on m) (fun c hc => ?_) ds G Q h
  cases c <;> first | rfl | exact absurd rfl hc
theorem len_talk_answer (m : Gm) (ds : List D) (G : GH) (Q : GQ) (h : sp_talk_answer m ds G Q) : ds.length = 2 := len_ans m _ ds G Q h
theorem tab_req {m : Gm} {c : Cl} (h : isTalk c = true) : tab_request m c = some (sp_talk_request m) := by
  cases c <;> first | rfl | exact absurd h (by decide)
theorem tab_ans {m : Gm} {c : Cl} (h : isTalk c = true) : tab_answer m c = some (sp_talk_answer m) := by
  cases c <;> first | rfl | exact absurd h (by decide)
theorem i_isi {m : Gm} {a : Addr} {c : Cl} (c' : Cl) (b : Bool) {fs : List (Fd × D)} {G : GH} {Q : GQ} (h : G a = some (.ins c fs)) (h1 : isTalk c = true) (h2 : isTalk c' = true) (e : subCl c c' = b) (q : Q (.bl b) G) : bIsiO m [.ref a, .ref (m.cls c')] G Q := ⟨c, fs, c', h, rfl, h1, h2, e ▸ q⟩
theorem i_seqE {t u : GS} {D0 : GEnds} {σ : GSt} {G : GH} (q : t { D0 with nx := u D0 } σ G) : gSeq t u D0 σ G := q
/-- how a commit ends -/
theorem fin_commit {m : Gm} (hm : OkC m .volume) {v p s u ch : Addr} {an an' : D} {used : List Nat} {chg : Chg} {x y : String} {tt : Option D} {G : GH} {Q : GQ} (vl : VlAt G v p s u ch an used chg)
    (q : ∀ ch' G', VlAt G' v p s u ch' an' used [] → Keep G G' [v] → G ch' = none → u ≠ ch' → Q .non G') :
    gSeq (gSetF m (gVar 0) (gBin gIx (gBin gIx (gVar 2) (gC (.int 1))) (gC (.int 1))) .anchor) (gSetF m (gVar 0) (gDNew .ik) .changed) (bodyEnds Q) [some (.ref v), tt, some (reqD x [.tup [.str (Str.ofString y), an']])] G := by
  refine go (i_ixT (ds := [.str (Str.ofString x), .tup [.str (Str.ofString y), an']]) (d := .tup [.str (Str.ofString y), an']) rfl (go (i_ixT (ds := [.str (Str.ofString y), an']) (d := an') rfl (go (i_setFA vl.o (hm _ (by decide)) (by exact (by decide : 5 < 100)) fun G1 v1 k1 => go (i_alloc fun ch' G2 hch c2 k2 => go (i_setFA (k2 _ _ v1 (by simp)) (hm _ (by decide)) (by exact (by decide : 5 < 100)) fun G3 v3 k3 => go ?_)))))))
  have n := vl.nvu
  have nc : ch' ≠ v := (gne_none v1 hch).symm
  have hu1 := k1 _ _ vl.hu (by simp [n.1.symm])
  exact q ch' G3 ⟨v3, k3 _ _ (k2 _ _ hu1 (by simp)) (by simp [n.1.symm]), k3 _ _ c2 (by simp [nc])⟩ (((k1.trans k2).trans k3).sub (by simp)) (k1.fresh hch (by simp [nc])) (gne_none hu1 hch)
theorem rdp_volume_finish (m : Gm) (hm : OkC m .volume) (ds : List D) (G : GH) (Q : GQ) (h : sp_volume_finish m ds G Q) : rd_volume_finish m (bodyEnds Q) (gstart N_volume_finish ds) G := by
  obtain ⟨v, p, s, u, ch, t, an, used, chg, x, r, c, fs, rfl, vl, hul, ht, hp, htk, H⟩ := h
  rw [show gstart N_volume_finish [.ref v, .ref t] = [some (.ref v), some (.ref t), none] from rfl]
  unfold rd_volume_finish
  refine go (i_methR ht (tab_req htk) (go ⟨t, c, fs, _, rfl, ht, hp, go ?_⟩))
  refine i_ixT (ds := .str x :: r) (d := .str x) atI_zero (go ?_)
  rcases H with ⟨hx, q⟩ | ⟨hx, H⟩
  · exact i_yes hx (go q)
  refine i_no hx (go ?_)
  unfold rd_volume_finish_1
  rcases H with ⟨rfl, z, zs, rfl, hzv, hz, k⟩ | ⟨rfl, y, r', rfl, H⟩ | ⟨rfl, an', rfl, k⟩ | ⟨hc, q⟩
  · refine go (i_isi .scan true ht rfl rfl rfl (go ?_))
    refine i_ixT (j := 1) (ds := [.str x, .ref z]) (d := .ref z) rfl (go (i_listA (items_lst hz) fun u' G1 hu u1 k1 => go (i_setFA (k1 _ _ vl.o (by simp)) (hm _ (by decide)) (by exact (by decide : 5 < 100)) fun G2 v2 k2 => go ?_)))
    have n := vl.nvu
    have nu : u' ≠ v := (gne_none vl.o hu).symm
    exact k u' G2 ⟨v2, k2 _ _ u1 (by simp [nu]), k2 _ _ (k1 _ _ vl.hc (by simp)) (by simp [n.2.1.symm])⟩ ((k1.trans k2).sub (by simp)) hu
  · refine go (i_isi .scan false ht rfl rfl rfl (go ?_))
    refine i_isi .commit true ht rfl rfl rfl (go ?_)
    refine i_ixT (j := 1) (ds := [.str x, .tup (.str y :: r')]) (d := .tup (.str y :: r')) rfl (go (i_ixT (ds := .str y :: r') (d := .str y) atI_zero (go ?_)))
    rcases H with ⟨hy, q⟩ | ⟨hy, an', A, rq, il, C, pr, n, at_, rqs, st, rfl, rfl, hcm, T, hfl, nv, ntb, k⟩
    · refine i_no hy (go ?_)
      exact i_isi .change false ht rfl rfl rfl (go q)
    · refine i_yes hy (go (i_methR vl.o (sp := sp_volume_add_used m) rfl (go ⟨v, p, s, u, ch, an, used, chg, A, rq, il, C, pr, n, at_, rqs, st, rfl, vl, hcm, T, hul, hfl, fun hc => ?_, fun hc u' G' vl' k' hu' => ?_⟩)))
      · refine fin_commit (x := x) (y := y) (an' := an') (tt := some (.ref A.t)) (Q := Q) hm vl fun ch' G' v3 k3 hch n3 => ?_
        refine k u ch' G' ?_ k3 (.inl rfl) hch n3
        rw [if_pos hc]; exact v3
      · refine fin_commit (x := x) (y := y) (an' := an') (tt := some (.ref A.t)) (Q := Q) hm vl' fun ch' G2 v3 k3 hch n3 => ?_
        have nch : ch' ≠ v := (gne_none vl'.o hch).symm
        refine k u' ch' G2 ?_ (k'.same k3) (.inr hu') (k'.fresh hch (by simp [nch])) n3
        rw [if_neg hc]; exact v3
  · refine go (i_isi .scan false ht rfl rfl rfl (go ?_))
    refine i_isi .commit false ht rfl rfl rfl (go ?_)
    refine i_isi .change true ht rfl rfl rfl (go ?_)
    refine i_ixT (ds := [.str x, .tup [.str "committed", an']]) (d := .tup [.str "committed", an']) rfl (go (i_ixT (ds := [.str "committed", an']) (d := an') rfl (go (i_setFA vl.o (hm _ (by decide)) (by exact (by decide : 5 < 100)) fun G1 v1 k1 => go ?_))))
    have n := vl.nvu
    exact k G1 ⟨v1, k1 _ _ vl.hu (by simp [n.1.symm]), k1 _ _ vl.hc (by simp [n.2.1.symm])⟩ k1
  · have e : subCl c .scan = false ∧ subCl c .commit = false ∧ subCl c .change = false := by rcases hc with rfl | rfl <;> exact ⟨rfl, rfl, rfl⟩
    refine go (i_isi .scan false ht htk rfl e.1 (go ?_))
    refine i_isi .commit false ht htk rfl e.2.1 (go ?_)
    exact i_isi .change false ht htk rfl e.2.2 (go q)
theorem len_volume_finish (m : Gm) (ds : List D) (G : GH) (Q : GQ) (h : sp_volume_finish m ds G Q) : ds.length = 2 := by obtain ⟨v, p, s, u, ch, t, an, used, chg, x, r, c, fs, rfl, _⟩ := h; rfl
theorem rdp_check_paper (m : Gm) (ds : List D) (G : GH) (Q : GQ) (h : sp_check_paper m ds G Q) : rd_check_paper m (bodyEnds Q) (gstart N_check_paper ds) G := by
  obtain ⟨p, s, sd, l, S, cs, dk, root, g, i, rfl, hs, sl, gd, hl, k⟩ := h
  rw [show gstart N_check_paper [.ref p, .ref s, entD root, .int i, .ref l] = [some (.ref p), some (.ref s), some (entD root), some (.int i), some (.ref l), none, none, none] from rfl]
  unfold rd_check_paper
  have hw := wayN_len S.f S.d i
  have hf : ∀ c ∈ wayN S.f S.d i, c < S.f := wayN_lt (by have := hs.2.f2; omega) _ _
  have d6 := hs.2.d6
  refine go (i_lenL hl (go (i_fldR hs.1 (d := .int S.d) rfl (go ?_))))
  rw [vsAt_len]
  refine i_iteN (fun z => absurd (by omega) z) fun _ => go ?_
  unfold rd_check_paper_4
  refine go (i_methR hs.1 (sp := sp_shape_way) rfl (go ⟨p, S, i, rfl, hs, fun G1 k1 => go ?_⟩))
  have hs1 := hs.keep k1 (by simp)
  refine i_fldR hs1.1 (d := .int S.d) rfl (go ⟨by omega, by omega, ?_⟩)
  refine i_turns (fun j σ G' => ∃ x7, σ = [some (.ref p), some (.ref s), some (entD root), some (.int i), some (.ref l), some (wayD S.f S.d i), some (entD (pathE cs root ((wayN S.f S.d i).take j))), x7] ∧ Keep G G' []) ⟨none, rfl, k1⟩ ?_ ?_
  · rintro j dj σ G' hj _ ⟨x7, rfl, kk⟩
    rw [List.getElem?_map] at hj
    obtain ⟨y, hy, rfl⟩ := Option.map_eq_some_iff.mp hj
    obtain ⟨hj1, hj2⟩ := List.getElem?_eq_some_iff.mp hy
    rw [List.getElem_range] at hj2
    subst hj2
    rw [List.length_range] at hj1
    have hjd : j ≤ S.d := by omega
    have GP := gd.path (ws := (wayN S.f S.d i).take j) (by rw [List.length_take]; omega) fun c hc => hf c (List.mem_of_mem_take hc)
    obtain ⟨c0, z1, z2⟩ := id GP.on
    have hv : (vsAt cs root (wayN S.f S.d i) (S.d + 1))[j]? = some (cellD c0) := by
      unfold vsAt
      rw [List.getElem?_map, List.getElem?_range (by omega)]
      show some (cellOf cs _) = _
      unfold cellOf; rw [z1]
    have hl1 := kk _ _ hl (by simp)
    have hvi : atI (vsAt cs root (wayN S.f S.d i) (S.d + 1)) (j : Int) = some (cellD c0) := atI_at (Int.natCast_nonneg j) hv
    have sl1 := sl.keep kk (by simp) (by simp)
    have hs2 := hs.keep kk (by simp)
    unfold rd_check_paper_2
    refine go (i_methR sl1.1 (sp := sp_sealer_knows) rfl (go (i_ixL hl1 hvi (go (i_ixT (j := 1) (d := .int (pathE cs root ((wayN S.f S.d i).take j)).2) rfl (go (i_knows sl1 (pkd_cell c0) (go ?_))))))))
    rw [GP.on.known z2]
    refine go ?_
    unfold rd_check_paper_1
    refine go (i_fldR hs2.1 (d := .int S.d) rfl (go ?_))
    by_cases hlt : j < S.d
    · have hw2 : (wayN S.f S.d i)[j]? = some (wayN S.f S.d i)[j] := List.getElem?_eq_getElem (by omega)
      have e1 : ((wayN S.f S.d i).take j).length = j := by rw [List.length_take]; omega
      rw [e1, show S.d - j = (S.d - (j + 1)) + 1 by omega] at GP
      obtain ⟨es, h1, h2, h3, h4⟩ := GP.step (hf _ (List.mem_of_getElem? hw2))
      rw [z1] at h1
      cases h1
      have ht : (wayN S.f S.d i).take (j + 1) = (wayN S.f S.d i).take j ++ [(wayN S.f S.d i)[j]] := by rw [List.take_add_one, hw2]; rfl
      refine i_yes (by omega) (go (i_ixL hl1 hvi (go (i_ixT (atI_ints hw2) (go (i_ixT (ds := .str "node" :: es.map entD) (atI_succ (by rw [List.getElem?_map, h3]; rfl)) (go ⟨True.intro, some (.int j), ?_, kk⟩)))))))
      rw [ht, pathE_snoc]
    · refine i_no (by omega) (go ⟨True.intro, some (.int j), ?_, kk⟩)
      rw [List.take_of_length_le (by omega), List.take_of_length_le (by omega)]
  · rintro σ G' _ ⟨x7, rfl, kk⟩
    have GP := gd.path (ws := wayN S.f S.d i) (by omega) hf
    rw [hw, Nat.sub_self] at GP
    have h1 : cellAt cs (pathE cs root (wayN S.f S.d i)).2 = some (.leaf (g (wayN S.f S.d i ++ []))) := GP.1
    rw [List.append_nil] at h1
    have hv : (vsAt cs root (wayN S.f S.d i) (S.d + 1))[S.d]? = some (.tup (.str "leaf" :: intsD (g (wayN S.f S.d i)))) := by
      unfold vsAt
      rw [List.getElem?_map, List.getElem?_range (by omega)]
      show some (cellOf cs _) = _
      rw [List.take_of_length_le (by omega)]
      unfold cellOf; rw [h1]; rfl
    unfold rd_check_paper_3
    exact go (i_fldR (hs.keep kk (by simp)).1 (d := .int S.d) rfl (go (i_ixL (kk _ _ hl (by simp)) (atI_at (Int.natCast_nonneg S.d) hv) (go (k G' kk)))))
theorem len_check_paper (m : Gm) (ds : List D) (G : GH) (Q : GQ) (h : sp_check_paper m ds G Q) : ds.length = 5 := by obtain ⟨p, s, sd, l, S, cs, dk, root, g, i, rfl, _⟩ := h; rfl
end Cz

/-! CzWorld: the laws' disk. -/
namespace Cz
open PySem L2 Cz.K02
abbrev Dsk := List (Nat × PCell)
def disD (l : Dsk) : List (D × D) := l.map fun x => (.int (x.1 : Nat), cellD x.2)
def getB : Dsk → Nat → Option PCell
  | [], _ => none
  | p :: r, b => if p.1 = b then some p.2 else getB r b
def putB (l : Dsk) (b : Nat) (c : PCell) : Dsk := if (getB l b).isSome then l.map (fun x => if x.1 = b then (x.1, c) else x) else l ++ [(b, c)]
theorem disD_get (b : Nat) : ∀ l : Dsk, dget (disD l) (.int (b : Nat)) = (getB l b).map cellD
  | [] => rfl
  | p :: r => by
    show (if D.int (p.1 : Nat) = D.int (b : Nat) then some (cellD p.2) else dget (disD r) (.int b)) = (if p.1 = b then some p.2 else getB r b).map cellD
    by_cases h : p.1 = b
    · rw [if_pos h, if_pos (by rw [h])]; rfl
    · rw [if_neg h, if_neg (by simp only [D.int.injEq]; omega)]; exact disD_get b r
theorem disD_len (l : Dsk) : (disD l).length = l.length := List.length_map ..
theorem disD_put (l : Dsk) (b : Nat) (c : PCell) : dput (disD l) (.int (b : Nat)) (cellD c) = disD (putB l b c) := by
  unfold dput putB
  rw [disD_get]
  have e : ((getB l b).map cellD).isSome = (getB l b).isSome := by cases getB l b <;> rfl
  rw [e]
  split
  · unfold disD
    rw [List.map_map, List.map_map]
    refine List.map_congr_left fun x _ => ?_
    show (if D.int (x.1 : Nat) = D.int (b : Nat) then (D.int (x.1 : Nat), cellD c) else (D.int (x.1 : Nat), cellD x.2)) = (fun x : Nat × PCell => (D.int (x.1 : Nat), cellD x.2)) (if x.1 = b then (x.1, c) else x)
    by_cases h : x.1 = b
    · rw [if_pos h, if_pos (by rw [h])]
    · rw [if_neg h, if_neg (by simp only [D.int.injEq]; omega)]
  · unfold disD; rw [List.map_append]; rfl
theorem mapCell_inj {a b : Option PCell} (h : a.map cellD = b.map cellD) : a = b := by
  cases a <;> cases b <;> simp at h
  · rfl
  · exact congrArg some (cellD_inj h)
theorem getB_put (l : Dsk) (b b' : Nat) (c : PCell) : getB (putB l b c) b' = if b' = b then some c else getB l b' := by
  refine mapCell_inj ?_
  rw [← disD_get, ← disD_put, dget_dput]
  by_cases h : b' = b
  · rw [if_pos (by rw [h]), if_pos h]; rfl
  · rw [if_neg (by simp only [D.int.injEq]; omega), if_neg h, disD_get]
theorem getB_none {b : Nat} : ∀ {l : Dsk}, getB l b = none ↔ b ∉ l.map (·.1)
  | [] => by simp [getB]
  | p :: r => by
    unfold getB
    by_cases h : p.1 = b
    · rw [if_pos h]; simp [h]
    · rw [if_neg h, getB_none]; simp [Ne.symm h]
theorem putB_keys (l : Dsk) (b : Nat) (c : PCell) : (putB l b c).map (·.1) = if b ∈ l.map (·.1) then l.map (·.1) else l.map (·.1) ++ [b] := by
  unfold putB
  by_cases h : b ∈ l.map (·.1)
  · have : (getB l b).isSome = true := by
      cases e : getB l b with
      | none => exact absurd h (getB_none.mp e)
      | some c => rfl
    rw [if_pos this, if_pos h, List.map_map]
    refine List.map_congr_left fun x _ => ?_
    show (if x.1 = b then (x.1, c) else x).1 = x.1
    split <;> rfl
  · rw [if_neg (by rw [getB_none.mpr h]; decide), if_neg h, List.map_append]; rfl
theorem putB_nodup {l : Dsk} (b : Nat) (c : PCell) (h : (l.map (·.1)).Nodup) : ((putB l b c).map (·.1)).Nodup := by
  rw [putB_keys]
  split
  · exact h
  · rename_i hn
    exact List.nodup_append.mpr ⟨h, by simp, fun x hx y hy => by rw [List.mem_singleton.mp hy]; exact fun e => hn (e ▸ hx)⟩
theorem putB_len (l : Dsk) (b : Nat) (c : PCell) : (putB l b c).length ≤ l.length + 1 := by
  unfold putB
  split
  · rw [List.length_map]; omega
  · rw [List.length_append]; exact Nat.le_refl _
def merge (dk pn : Dsk) : Dsk := pn.foldl (fun d x => putB d x.1 x.2) dk
theorem getB_merge (b : Nat) : ∀ {pn dk : Dsk}, (pn.map (·.1)).Nodup → getB (merge dk pn) b = match getB pn b with | some c => some c | none => getB dk b
  | [], dk, _ => rfl
  | p :: r, dk, nd => by
    rw [List.map_cons, List.nodup_cons] at nd
    show getB (merge (putB dk p.1 p.2) r) b = _
    rw [getB_merge b nd.2, getB_put]
    show _ = match (if p.1 = b then some p.2 else getB r b) with | some c => some c | none => getB dk b
    by_cases h : p.1 = b
    · subst h
      rw [getB_none.mpr nd.1, if_pos rfl, if_pos rfl]
    · rw [if_neg h, if_neg (Ne.symm h)]
theorem merge_len : ∀ (pn dk : Dsk), (merge dk pn).length ≤ dk.length + pn.length
  | [], dk => Nat.le_refl _
  | p :: r, dk => by
    have h1 := merge_len r (putB dk p.1 p.2)
    have h2 := putB_len dk p.1 p.2
    show (merge (putB dk p.1 p.2) r).length ≤ _
    rw [List.length_cons]
    omega
theorem merge_nodup : ∀ {pn dk : Dsk}, (dk.map (·.1)).Nodup → ((merge dk pn).map (·.1)).Nodup
  | [], _, h => h
  | p :: r, _, h => merge_nodup (pn := r) (putB_nodup p.1 p.2 h)
theorem merge_take {pn dk : Dsk} {i : Nat} {x : Nat × PCell} (h : pn[i]? = some x) : merge dk (pn.take (i + 1)) = putB (merge dk (pn.take i)) x.1 x.2 := by
  rw [List.take_add_one, h]
  unfold merge
  rw [List.foldl_append]; rfl
/-- what the world holds -/
structure Wp where
  dk : Dsk
  pn : Dsk
  al : Dsk
  an : D
def Wp.held (W : Wp) (b : Nat) : Option PCell := match getB W.pn b with
  | some c => some c
  | none => getB W.dk b
def Wp.write (W : Wp) (b : Nat) (c : PCell) : Wp := { W with pn := putB W.pn b c, al := W.al ++ [(b, c)] }
def Wp.flush (W : Wp) : Wp := { W with dk := merge W.dk W.pn, pn := [] }
theorem held_write (W : Wp) (b b' : Nat) (c : PCell) : (W.write b c).held b' = if b' = b then some c else W.held b' := by
  unfold Wp.held Wp.write
  simp only [getB_put]
  by_cases h : b' = b
  · rw [if_pos h, if_pos h]
  · rw [if_neg h, if_neg h]
theorem held_flush {W : Wp} (h : (W.pn.map (·.1)).Nodup) (b : Nat) : W.flush.held b = W.held b := by
  unfold Wp.held Wp.flush
  exact getB_merge b h
def heldD (W : Wp) (b : Nat) : D := ((W.held b).map cellD).getD .non
structure WA where
  w : Addr
  dk : Addr
  pd : Addr
  al : Addr
def WA.ys (A : WA) : List Addr := [A.w, A.dk, A.pd, A.al]
def wF (A : WA) (an : D) (lied : Bool) : List (D × D) := [(.str "disk", .ref A.dk), (.str "pending", .ref A.pd), (.str "all", .ref A.al), (.str "anchor", an), (.str "lied", .bl lied)]
def aD (x : Nat × PCell) : D := .tup [.int (x.1 : Nat), cellD x.2]
def pcSize : PCell → Nat
  | .leaf ws => ws.length
  | .node es => es.length
structure WAt (G : GH) (A : WA) (W : Wp) (lied : Bool) : Prop where
  o : G A.w = some (.dct .ik (wF A W.an lied))
  hd : G A.dk = some (.dct .ik (disD W.dk))
  hp : G A.pd = some (.dct .ik (disD W.pn))
  ha : G A.al = some (.lst (W.al.map aD))
  n1 : A.w ≠ A.dk
  n2 : A.w ≠ A.pd
  n3 : A.dk ≠ A.pd
  nk : (W.pn.map (·.1)).Nodup
  nd : (W.dk.map (·.1)).Nodup
  sz : W.dk.length + W.pn.length ≤ W.al.length
  bd : ∀ b c, (getB W.dk b = some c ∨ getB W.pn b = some c) → pcSize c ≤ 100
theorem WAt.held_bd {G : GH} {A : WA} {W : Wp} {l : Bool} (h : WAt G A W l) {b : Nat} {c : PCell} (e : W.held b = some c) : pcSize c ≤ 100 := by
  unfold Wp.held at e
  cases h1 : getB W.pn b with
  | some c' => rw [h1] at e; cases e; exact h.bd b c (.inr h1)
  | none => rw [h1] at e; exact h.bd b c (.inl e)
section
variable {G G' : GH} {A : WA} {W : Wp} {l : Bool} {xs : List Addr}
theorem WAt.keep (h : WAt G A W l) (k : Keep G G' xs) (hx : ∀ y ∈ A.ys, y ∉ xs) : WAt G' A W l := ⟨k _ _ h.o (hx _ (by simp [WA.ys])), k _ _ h.hd (hx _ (by simp [WA.ys])), k _ _ h.hp (hx _ (by simp [WA.ys])), k _ _ h.ha (hx _ (by simp [WA.ys])), h.n1, h.n2, h.n3, h.nk, h.nd, h.sz, h.bd⟩
theorem WAt.n4 (h : WAt G A W l) : A.w ≠ A.al ∧ A.dk ≠ A.al ∧ A.pd ≠ A.al := ⟨(fun z => by have := h.o; rw [z, h.ha] at this; cases this), (fun z => by have := h.hd; rw [z, h.ha] at this; cases this), (fun z => by have := h.hp; rw [z, h.ha] at this; cases this)⟩
theorem WAt.alloc (h : WAt G A W l) : ∀ y ∈ A.ys, G y ≠ none := by
  intro y hy
  simp only [WA.ys, List.mem_cons, List.not_mem_nil, or_false] at hy
  rcases hy with rfl | rfl | rfl | rfl
  · rw [h.o]; exact fun z => nomatch z
  · rw [h.hd]; exact fun z => nomatch z
  · rw [h.hp]; exact fun z => nomatch z
  · rw [h.ha]; exact fun z => nomatch z
theorem WAt.st (h : WAt G A W l) {a c : Addr} (s : St G a c) : A.w ≠ a ∧ A.w ≠ c ∧ A.dk ≠ a ∧ A.dk ≠ c ∧ A.pd ≠ a ∧ A.pd ≠ c := by
  obtain ⟨cells, seed, h1, h2, _⟩ := s
  refine ⟨fun z => ?_, fun z => ?_, fun z => ?_, fun z => ?_, fun z => ?_, fun z => ?_⟩
  · have := h.o; rw [z, h1] at this; cases this
  · have := h.o; rw [z, h2] at this; cases this
  · have := h.hd; rw [z, h1] at this; cases this
  · have := h.hd; rw [z, h2] at this; cases this
  · have := h.hp; rw [z, h1] at this; cases this
  · have := h.hp; rw [z, h2] at this; cases this
end
/-- the draws' lists are not the world's -/
def Off (A : WA) (a c : Addr) : Prop := A.al ≠ a ∧ A.al ≠ c
theorem WAt.off {G : GH} {A : WA} {W : Wp} {l : Bool} (h : WAt G A W l) {a c : Addr} (s : St G a c) (o : Off A a c) : ∀ y ∈ A.ys, y ∉ [a, c] := by
  have n := h.st s
  intro y hy
  simp only [WA.ys, List.mem_cons, List.not_mem_nil, or_false] at hy
  rcases hy with rfl | rfl | rfl | rfl
  · simp [n.1, n.2.1]
  · simp [n.2.2.1, n.2.2.2.1]
  · simp [n.2.2.2.2.1, n.2.2.2.2.2]
  · simp [o.1, o.2]
def sp_Lworld (m : Gm) : GSp := fun ds G Q => ∃ (l : Addr) (ws : Dsk) (an : D), ds = [.ref l, an] ∧ G l = some (.lst (ws.map aD)) ∧ ws.length ≤ 1000 ∧ (∀ x ∈ ws, pcSize x.2 ≤ 100) ∧ ∀ A G', WAt G' A ⟨merge [] ws, [], ws, an⟩ false → Keep G G' [] → (∀ y ∈ A.ys, G y = none) → Q (.ref A.w) G'
def sp_Lheld (m : Gm) : GSp := fun ds G Q => ∃ (A : WA) (W : Wp) (l : Bool) (b : Nat), ds = [.ref A.w, .int b] ∧ WAt G A W l ∧ Q (heldD W b) G
def sp_Llie (m : Gm) : GSp := fun ds G Q => ∃ (a c : Addr) (A : WA) (W : Wp) (l : Bool) (oc : Option PCell), ds = [.ref a, .ref A.w, (oc.map cellD).getD .non] ∧ St G a c ∧ WAt G A W l ∧ Off A a c ∧ W.al ≠ [] ∧ W.al.length ≤ 50000 ∧ (∀ p, oc = some p → pcSize p ≤ 100) ∧ ∀ v G', Pkd v → St G' a c → Keep G G' [a, c] → Q v G'
def sp_Lanswer (m : Gm) : GSp := fun ds G Q => ∃ (a c : Addr) (A : WA) (W : Wp) (b lies : Nat), ds = [.ref a, .ref A.w, .int b, .int lies] ∧ St G a c ∧ WAt G A W false ∧ Off A a c ∧ W.al ≠ [] ∧ W.al.length ≤ 50000 ∧ lies ≤ 1000 ∧ ∀ v l G', Pkd v → l = !decide (v = heldD W b) → (lies = 0 → v = heldD W b) → St G' a c → WAt G' A W l → Keep G G' [a, c, A.w] → Q v G'
/-- what a request does -/
def Perf (x : String) (r : List D) (W W' : Wp) : Prop := (x = "write" ∧ ∃ b c, r = [.int (b : Nat), cellD c] ∧ pcSize c ≤ 100 ∧ W' = W.write b c) ∨ (x = "flush" ∧ r = [] ∧ W' = W.flush) ∨ (x = "anchor" ∧ ∃ an, r = [an] ∧ W' = { W with an := an })
def sp_Lperform (m : Gm) : GSp := fun ds G Q => ∃ (A : WA) (W W' : Wp) (l : Bool) (x : String) (r : List D), ds = [.ref A.w, reqD x r] ∧ WAt G A W l ∧ W.al.length ≤ 50000 ∧ Perf x r W W' ∧ ∀ pd' G', WAt G' { A with pd := pd' } W' l → (pd' = A.pd ∨ G pd' = none) → Keep G G' A.ys → Q .non G'
def rd_Lworld_1 (m : Gm) : GS := gSeq (gSet 5 (gBin gIx (gVar 2) (gC (.str "disk")))) (gSeq (gPut (gVar 4) (gVar 5) (gVar 3)) (gDrop (gLm rApp (gBin gIx (gVar 2) (gC (.str "all"))) (gCons (gTup (gCons (gVar 3) (gCons (gVar 4) (gNil)))) (gNil)))))
/-- _law_world: 0 writes, 1 anchor, 2 world_here, 3 block, 4 cell, 5 disk -/
def rd_Lworld (m : Gm) : GS := gSeq (gSet 2 (gDisp (gPCons (gC (.str "disk")) (gDNew .ik) (gPCons (gC (.str "pending")) (gDNew .ik) (gPCons (gC (.str "all")) (gLst (gNil)) (gPCons (gC (.str "anchor")) (gVar 1) (gPCons (gC (.str "lied")) (gC (.bl false)) (gPNil)))))))) (gSeq (gFor (gIter (gVar 0)) (gUn [3, 4]) (rd_Lworld_1 m)) (gRet (gVar 2)))
abbrev N_Lworld : List Str := ["_law_writes", "_law_anchor", "_law_world_here", "_law_block", "_law_cell", "_law_disk"]
def rd_Lheld_1 (m : Gm) : GS := gRet (gGet (gBin gIx (gVar 0) (gC (.str "disk"))) (gVar 1) (gC .non))
/-- _law_held: 0 world_here, 1 block -/
def rd_Lheld (m : Gm) : GS := gSeq (gIf (gTest (gBin (gIn false) (gVar 1) (gBin gIx (gVar 0) (gC (.str "pending"))))) (gRet (gBin gIx (gBin gIx (gVar 0) (gC (.str "pending"))) (gVar 1))) (gNext)) (rd_Lheld_1 m)
abbrev N_Lheld : List Str := ["_law_world_here", "_law_block"]
def rd_Llie_1 (m : Gm) : GS := gSeq (gSet 7 (gBin gIx (gLst (gCons (gTup (gCons (gBin gAdd (gBin gIx (gVar 6) (gC (.int 0))) (gC (.int 1))) (gCons (gBin gIx (gVar 6) (gC (.int 1))) (gNil)))) (gCons (gTup (gCons (gBin gIx (gVar 6) (gC (.int 0))) (gCons (gBin gSub (gBin gIx (gVar 6) (gC (.int 1))) (gC (.int 1))) (gNil)))) (gCons (gTup (gCons (gBin gIx (gVar 6) (gC (.int 1))) (gCons (gBin gIx (gVar 6) (gC (.int 0))) (gNil)))) (gNil))))) (gCall sp_Ldraw (gCons (gVar 0) (gCons (gC (.int 3)) (gNil)))))) (gRet (gBin gAdd (gBin gAdd (gSl (gVar 2) (gNoPart) (gPart (gVar 5))) (gTup (gCons (gVar 7) (gNil)))) (gSl (gVar 2) (gPart (gBin gAdd (gVar 5) (gC (.int 1)))) (gNoPart))))
def rd_Llie_2 (m : Gm) : GS := gRet (gTup (gCons (gC (.str "leaf")) (gCons (gCall sp_Ldraw (gCons (gVar 0) (gCons (gC (.int 256)) (gNil)))) (gNil))))
def rd_Llie_3 (m : Gm) : GS := gSeq (gIf (gAnd (gTest (gCall bIsi (gCons (gVar 2) (gCons (gC (.ty "tuple")) (gNil))))) (gTest (gBin gGt (gCall bLen (gCons (gVar 2) (gNil))) (gC (.int 1))))) (gSeq (gSet 5 (gBin gAdd (gC (.int 1)) (gCall sp_Ldraw (gCons (gVar 0) (gCons (gBin gSub (gCall bLen (gCons (gVar 2) (gNil))) (gC (.int 1))) (gNil)))))) (gSeq (gSet 6 (gBin gIx (gVar 2) (gVar 5))) (gSeq (gIf (gTest (gCall bIsi (gCons (gVar 6) (gCons (gC (.ty "int")) (gNil))))) (gRet (gBin gAdd (gBin gAdd (gSl (gVar 2) (gNoPart) (gPart (gVar 5))) (gTup (gCons (gBin gAdd (gVar 6) (gC (.int 1))) (gNil)))) (gSl (gVar 2) (gPart (gBin gAdd (gVar 5) (gC (.int 1)))) (gNoPart)))) (gNext)) (rd_Llie_1 m)))) (gNext)) (rd_Llie_2 m)
def rd_Llie_4 (m : Gm) : GS := gSeq (gIf (gAnd (gTest (gBin (gEq false) (gVar 3) (gC (.int 4)))) (gAnd (gTest (gCall bIsi (gCons (gVar 2) (gCons (gC (.ty "tuple")) (gNil))))) (gTest (gBin gGt (gCall bLen (gCons (gVar 2) (gNil))) (gC (.int 1)))))) (gSeq (gSet 5 (gCall sp_Ldraw (gCons (gVar 0) (gCons (gCall bLen (gCons (gVar 2) (gNil))) (gNil))))) (gRet (gBin gAdd (gSl (gVar 2) (gNoPart) (gPart (gVar 5))) (gSl (gVar 2) (gPart (gBin gAdd (gVar 5) (gC (.int 1)))) (gNoPart))))) (gNext)) (rd_Llie_3 m)
def rd_Llie_5 (m : Gm) : GS := gSeq (gIf (gTest (gBin (gEq false) (gVar 3) (gC (.int 3)))) (gSeq (gSet 4 (gLst (gCons (gC .non) (gCons (gC (.int 0)) (gCons (gNeg (gC (.int 7))) (gCons (gC (.str "leaf")) (gCons (gTup (gNil)) (gCons (gTup (gCons (gC (.str "leaf")) (gNil))) (gCons (gTup (gCons (gC (.str "node")) (gCons (gC (.int 1)) (gCons (gC (.int 2)) (gNil))))) (gCons (gTup (gCons (gC (.str "node")) (gCons (gTup (gCons (gC (.int 0)) (gCons (gC (.int 1)) (gNil)))) (gNil)))) (gCons (gTup (gCons (gC (.int 1)) (gCons (gTup (gCons (gC (.int 2)) (gCons (gTup (gCons (gC (.int 3)) (gCons (gTup (gNil)) (gNil)))) (gNil)))) (gNil)))) (gNil)))))))))))) (gRet (gBin gIx (gVar 4) (gCall sp_Ldraw (gCons (gVar 0) (gCons (gC (.int 9)) (gNil))))))) (gNext)) (rd_Llie_4 m)
/-- _law_lie: 0 state_here, 1 world_here, 2 honest, 3 kind, 4 strange, 5 at, 6 other, 7 pair -/
def rd_Llie (m : Gm) : GS := gSeq (gSet 3 (gCall sp_Ldraw (gCons (gVar 0) (gCons (gC (.int 7)) (gNil))))) (gSeq (gIf (gTest (gBin gLt (gVar 3) (gC (.int 3)))) (gRet (gBin gIx (gBin gIx (gBin gIx (gVar 1) (gC (.str "all"))) (gCall sp_Ldraw (gCons (gVar 0) (gCons (gCall bLen (gCons (gBin gIx (gVar 1) (gC (.str "all"))) (gNil))) (gNil))))) (gC (.int 1)))) (gNext)) (rd_Llie_5 m))
abbrev N_Llie : List Str := ["_law_state_here", "_law_world_here", "_law_honest", "_law_kind", "_law_strange", "_law_at", "_law_other", "_law_pair"]
/-- _law_answer: 0 state_here, 1 world_here, 2 block, 3 lies, 4 honest, 5 lie_here -/
def rd_Lanswer (m : Gm) : GS := gSeq (gSet 4 (gCall (sp_Lheld m) (gCons (gVar 1) (gCons (gVar 2) (gNil))))) (gSeq (gIf (gAnd (gTest (gBin gGt (gVar 3) (gC (.int 0)))) (gTest (gBin (gEq false) (gCall sp_Ldraw (gCons (gVar 0) (gCons (gVar 3) (gNil)))) (gC (.int 0))))) (gSeq (gSet 5 (gCall (sp_Llie m) (gCons (gVar 0) (gCons (gVar 1) (gCons (gVar 4) (gNil)))))) (gSeq (gIf (gTest (gBin (gEq true) (gVar 5) (gVar 4))) (gPut (gC (.bl true)) (gVar 1) (gC (.str "lied"))) (gNext)) (gRet (gVar 5)))) (gNext)) (gRet (gVar 4)))
abbrev N_Lanswer : List Str := ["_law_state_here", "_law_world_here", "_law_block", "_law_lies", "_law_honest", "_law_lie_here"]
def rd_Lperform_1 (m : Gm) : GS := gPut (gBin gIx (gBin gIx (gVar 0) (gC (.str "pending"))) (gVar 4)) (gVar 3) (gVar 4)
/-- _law_perform: 0 world_here, 1 request, 2 pending, 3 disk, 4 block -/
def rd_Lperform (m : Gm) : GS := gIf (gTest (gBin (gEq false) (gBin gIx (gVar 1) (gC (.int 0))) (gC (.str "write")))) (gSeq (gSet 2 (gBin gIx (gVar 0) (gC (.str "pending")))) (gSeq (gPut (gBin gIx (gVar 1) (gC (.int 2))) (gVar 2) (gBin gIx (gVar 1) (gC (.int 1)))) (gDrop (gLm rApp (gBin gIx (gVar 0) (gC (.str "all"))) (gCons (gTup (gCons (gBin gIx (gVar 1) (gC (.int 1))) (gCons (gBin gIx (gVar 1) (gC (.int 2))) (gNil)))) (gNil)))))) (gIf (gTest (gBin (gEq false) (gBin gIx (gVar 1) (gC (.int 0))) (gC (.str "flush")))) (gSeq (gSet 3 (gBin gIx (gVar 0) (gC (.str "disk")))) (gSeq (gForK (gBin gIx (gVar 0) (gC (.str "pending"))) (gNm 4) (rd_Lperform_1 m)) (gPut (gDNew .ik) (gVar 0) (gC (.str "pending"))))) (gPut (gBin gIx (gVar 1) (gC (.int 1))) (gVar 0) (gC (.str "anchor"))))
abbrev N_Lperform : List Str := ["_law_world_here", "_law_request", "_law_pending", "_law_disk", "_law_block"]

section
variable {G : GH} {A : WA} {W : Wp} {l : Bool} {Q : GQ}
theorem i_wdk (h : WAt G A W l) (q : Q (.ref A.dk) G) : gIx (.ref A.w) (.str "disk") G Q := i_ixI h.o (by decide) (d := .ref A.dk) rfl q
theorem i_wpd (h : WAt G A W l) (q : Q (.ref A.pd) G) : gIx (.ref A.w) (.str "pending") G Q := i_ixI h.o (by decide) (d := .ref A.pd) rfl q
theorem i_wal (h : WAt G A W l) (q : Q (.ref A.al) G) : gIx (.ref A.w) (.str "all") G Q := i_ixI h.o (by decide) (d := .ref A.al) rfl q
theorem i_wan (h : WAt G A W l) (q : Q W.an G) : gIx (.ref A.w) (.str "anchor") G Q := i_ixI h.o (by decide) (d := W.an) rfl q
theorem i_wli (h : WAt G A W l) (q : Q (.bl l) G) : gIx (.ref A.w) (.str "lied") G Q := i_ixI h.o (by decide) (d := .bl l) rfl q
theorem i_setli (h : WAt G A W l) (b : Bool) {R : GH → Prop} (q : ∀ G', WAt G' A W b → Keep G G' [A.w] → R G') : setG (G A.w) (.str "lied") (.bl b) fun o => R (G.set A.w o) := i_putIA h.o (by decide) (by show 5 < 100000; decide) fun G' w' k' => by
  have n := h.n4
  exact q G' ⟨w', k' _ _ h.hd (by simp [h.n1.symm]), k' _ _ h.hp (by simp [h.n2.symm]), k' _ _ h.ha (by simp [n.1.symm]), h.n1, h.n2, h.n3, h.nk, h.nd, h.sz, h.bd⟩ k'
theorem i_setan (h : WAt G A W l) (an : D) {R : GH → Prop} (q : ∀ G', WAt G' A { W with an := an } l → Keep G G' [A.w] → R G') : setG (G A.w) (.str "anchor") an fun o => R (G.set A.w o) := i_putIA h.o (by decide) (by show 5 < 100000; decide) fun G' w' k' => by
  have n := h.n4
  exact q G' ⟨w', k' _ _ h.hd (by simp [h.n1.symm]), k' _ _ h.hp (by simp [h.n2.symm]), k' _ _ h.ha (by simp [n.1.symm]), h.n1, h.n2, h.n3, h.nk, h.nd, h.sz, h.bd⟩ k'
end
theorem rdp_Lheld (m : Gm) (ds : List D) (G : GH) (Q : GQ) (h : sp_Lheld m ds G Q) : rd_Lheld m (bodyEnds Q) (gstart N_Lheld ds) G := by
  obtain ⟨A, W, l, b, rfl, h, k⟩ := h
  rw [show gstart N_Lheld [.ref A.w, .int b] = [some (.ref A.w), some (.int b)] from rfl]
  unfold rd_Lheld
  refine go (i_wpd h (go (i_inI h.hp rfl (go ?_))))
  rw [disD_get]
  unfold heldD Wp.held at k
  cases hg : getB W.pn b with
  | some c =>
    rw [hg] at k
    rw [Option.map_some]
    exact go (i_wpd h (go (i_ixI h.hp rfl (d := cellD c) (by rw [disD_get, hg]; rfl) (go k))))
  | none =>
    rw [hg] at k
    rw [Option.map_none]
    refine go ?_
    unfold rd_Lheld_1
    refine go (i_wdk h (go (i_isD ⟨_, _, h.hd⟩ (go (i_getI h.hd rfl (go ?_))))))
    rw [disD_get]
    exact k
theorem len_Lheld (m : Gm) (ds : List D) (G : GH) (Q : GQ) (h : sp_Lheld m ds G Q) : ds.length = 2 := by obtain ⟨A, W, l, b, rfl, _⟩ := h; rfl
theorem rdp_Lanswer (m : Gm) (ds : List D) (G : GH) (Q : GQ) (h : sp_Lanswer m ds G Q) : rd_Lanswer m (bodyEnds Q) (gstart N_Lanswer ds) G := by
  obtain ⟨a, c, A, W, b, lies, rfl, st, h, off, hne, hal, hli, k⟩ := h
  rw [show gstart N_Lanswer [.ref a, .ref A.w, .int b, .int lies] = [some (.ref a), some (.ref A.w), some (.int b), some (.int lies), none, none] from rfl]
  unfold rd_Lanswer
  have pk : Pkd (heldD W b) := by
    unfold heldD
    cases W.held b with
    | none => exact pkd_non
    | some c => exact pkd_cell c
  have nw := h.st st
  refine go ⟨A, W, false, b, rfl, h, go ?_⟩
  by_cases h0 : lies = 0
  · subst h0
    refine i_no (by omega) (go ?_)
    exact k _ false G pk (by simp) (fun _ => rfl) st h (Keep.refl _ _)
  refine i_yes (by omega) (go (i_draw st (by omega) (by omega) fun r G1 r0 r1 st1 k1 => go ?_))
  have h1 := h.keep k1 (h.off st off)
  by_cases hr : r = 0
  · refine i_yes hr (go ?_)
    have hbd : ∀ p, W.held b = some p → pcSize p ≤ 100 := fun p hp => h.held_bd hp
    refine ⟨a, c, A, W, false, W.held b, rfl, st1, h1, off, hne, hal, hbd, fun v G2 pv st2 k2 => go ?_⟩
    have h2 := h1.keep k2 (h1.off st1 off)
    have kA := k1.same k2
    refine i_neP pv pk (go ?_)
    by_cases e : v = heldD W b
    · refine i_iteN (fun z => absurd e z) fun _ => go ?_
      exact k v false G2 pv (by simp [e]) (fun _ => e) st2 h2 (kA.sub (by simp))
    · refine i_iteN (fun _ => go (i_setli h2 true fun G3 h3 k3 => go ?_)) fun z => absurd z e
      exact k v true G3 pv (by simp [e]) (fun z => absurd z h0) (st2.keep k3 (by simp [nw.1.symm]) (by simp [nw.2.1.symm])) h3 ((kA.trans k3).sub (by simp))
  · refine i_no hr (go ?_)
    exact k _ false G1 pk (by simp) (fun _ => rfl) st1 h1 (k1.sub (by simp))
theorem len_Lanswer (m : Gm) (ds : List D) (G : GH) (Q : GQ) (h : sp_Lanswer m ds G Q) : ds.length = 4 := by obtain ⟨a, c, A, W, b, lies, rfl, _⟩ := h; rfl
theorem Keep.none {G G' : GH} {xs : List Addr} (k : Keep G G' xs) (h : ∀ x ∈ xs, G x = none) : Keep G G' [] := fun b o hb _ => k b o hb fun z => gne_none hb (h b z) rfl
instance s_pcons {k v : GE} {r : GSt → GH → (List (D × D) → GH → Prop) → Prop} {σ : GSt} {G : GH} {Q : List (D × D) → GH → Prop} : Stp (gPCons k v r σ G Q) (k σ G fun x G1 => v σ G1 fun y G2 => r σ G2 fun ps G3 => Q ((x, y) :: ps) G3) := ⟨id⟩
instance s_pnil {σ : GSt} {G : GH} {Q : List (D × D) → GH → Prop} : Stp (gPNil σ G Q) (Q [] G) := ⟨id⟩
theorem WAt.wr {G G1 G2 : GH} {A : WA} {W : Wp} {l : Bool} {b : Nat} {c : PCell} (h : WAt G A W l) (hc : pcSize c ≤ 100) (h1 : G1 A.pd = some (.dct .ik (disD (putB W.pn b c)))) (k1 : Keep G G1 [A.pd]) (h2 : G2 A.al = some (.lst ((W.al ++ [(b, c)]).map aD))) (k2 : Keep G1 G2 [A.al]) : WAt G2 A (W.write b c) l := by
  have n := h.n4
  refine ⟨k2 _ _ (k1 _ _ h.o (by simp [h.n2])) (by simp [n.1]), k2 _ _ (k1 _ _ h.hd (by simp [h.n3])) (by simp [n.2.1]), k2 _ _ h1 (by simp [n.2.2]), h2, h.n1, h.n2, h.n3, putB_nodup b c h.nk, h.nd, ?_, fun b' c' hb => ?_⟩
  · have := putB_len W.pn b c
    have := h.sz
    show W.dk.length + (putB W.pn b c).length ≤ (W.al ++ [(b, c)]).length
    rw [List.length_append, List.length_singleton]
    omega
  · rcases hb with hb | hb
    · exact h.bd b' c' (.inl hb)
    · have hb : getB (putB W.pn b c) b' = some c' := hb
      rw [getB_put] at hb
      by_cases e : b' = b
      · rw [if_pos e] at hb; cases hb; exact hc
      · rw [if_neg e] at hb; exact h.bd b' c' (.inr hb)
theorem rdp_Lworld (m : Gm) (ds : List D) (G : GH) (Q : GQ) (h : sp_Lworld m ds G Q) : rd_Lworld m (bodyEnds Q) (gstart N_Lworld ds) G := by
  obtain ⟨p, ws, an, rfl, hp, hl, hsz, k⟩ := h
  rw [show gstart N_Lworld [.ref p, an] = [some (.ref p), some an, none, none, none, none] from rfl]
  unfold rd_Lworld
  refine go fun w hw => go (i_alloc fun dk G1 hdk d1 k1 => go (i_alloc fun pd G2 hpd p2 k2 => go (i_alloc fun al G3 hal a3 k3 => go ?_)))
  have kw := Keep.new (o := .dct .ik []) hw []
  have w3 : G3 w = some (.dct .ik []) := k3 _ _ (k2 _ _ (k1 _ _ set_same (by simp)) (by simp)) (by simp)
  have d3 : G3 dk = some (.dct .ik []) := k3 _ _ (k2 _ _ d1 (by simp)) (by simp)
  have p3 : G3 pd = some (.dct .ik []) := k3 _ _ p2 (by simp)
  have nwd : w ≠ dk := gne_none set_same hdk
  have nwp : w ≠ pd := gne_none (k1 _ _ set_same (by simp)) hpd
  have nwa : w ≠ al := gne_none (k2 _ _ (k1 _ _ set_same (by simp)) (by simp)) hal
  have ndp : dk ≠ pd := gne_none d1 hpd
  have k13 : Keep G G3 [] := (((kw.trans k1).trans k2).trans k3).sub (by simp)
  have fdk : G dk = none := kw.fresh hdk (by simp)
  have fpd : G pd = none := (kw.trans k1).fresh hpd (by simp)
  have fal : G al = none := ((kw.trans k1).trans k2).fresh hal (by simp)
  refine ⟨w3, by show 5 ≤ 15; decide, fun q hq => by simp only [List.mem_cons, List.not_mem_nil, or_false] at hq; rcases hq with rfl | rfl | rfl | rfl | rfl <;> rfl, go ?_⟩
  have k4 : Keep G3 (G3.set w (.dct .ik (wF ⟨w, dk, pd, al⟩ an false))) [w] := Keep.put
  have kA : Keep G (G3.set w (.dct .ik (wF ⟨w, dk, pd, al⟩ an false))) [] := ((k13.trans k4).sub (by simp)).none (xs := [w]) (by simp [hw])
  have A0 : WAt (G3.set w (.dct .ik (wF ⟨w, dk, pd, al⟩ an false))) ⟨w, dk, pd, al⟩ ⟨merge [] (ws.take 0), [], ws.take 0, an⟩ false := ⟨set_same, k4 _ _ d3 (by simp [nwd.symm]), k4 _ _ p3 (by simp [nwp.symm]), k4 _ _ a3 (by simp [nwa.symm]), nwd, nwp, ndp, List.nodup_nil, List.nodup_nil, Nat.le_refl _, fun b c z => by rcases z with z | z <;> cases z⟩
  refine i_itL (kA _ _ hp (by simp)) ?_
  refine i_turns (fun i σ G' => ∃ x3 x4 x5, σ = [some (.ref p), some an, some (.ref w), x3, x4, x5] ∧ WAt G' ⟨w, dk, pd, al⟩ ⟨merge [] (ws.take i), [], ws.take i, an⟩ false ∧ Keep G G' []) ⟨none, none, none, rfl, A0, kA⟩ ?_ ?_
  · rintro i d σ G' hi hok ⟨x3, x4, x5, rfl, h, kk⟩
    rw [List.getElem?_map] at hi
    obtain ⟨x, hx, rfl⟩ := Option.map_eq_some_iff.mp hi
    have hi2 := (List.getElem?_eq_some_iff.mp hx).1
    refine ⟨[.int (x.1 : Nat), cellD x.2], rfl, rfl, ?_⟩
    rw [show setAll [3, 4] [D.int (x.1 : Nat), cellD x.2] [some (.ref p), some an, some (.ref w), x3, x4, x5] = [some (.ref p), some an, some (.ref w), some (.int (x.1 : Nat)), some (cellD x.2), x5] from rfl]
    unfold rd_Lworld_1
    have nA := h.n4
    have hdl : (merge [] (ws.take i)).length ≤ 1000 := by
      have := merge_len (ws.take i) []
      rw [List.length_take, List.length_nil] at this
      omega
    refine go (i_wdk h (go (i_putIA h.hd rfl (by rw [disD_len]; show (merge [] (ws.take i)).length < 100000; omega) fun G4 d4 k4 => go ?_)))
    rw [disD_put] at d4
    have h4 : G4 w = some (.dct .ik (wF ⟨w, dk, pd, al⟩ an false)) := k4 _ _ h.o (by simp [nwd])
    refine i_ixI h4 (by decide) (d := .ref al) rfl (go ?_)
    have a4 := k4 _ _ h.ha (by simp [nA.2.1.symm])
    refine i_lm1 a4 (go (i_appA a4 (by rw [List.length_map, List.length_take]; show _ < 100000; omega) fun G5 a5 k5 => go ?_))
    have kB : Keep G G5 [] := ((kk.trans k4).trans k5).none (by simp [fdk, fal])
    refine ⟨kB _ _ hp (by simp), _, _, _, rfl, ⟨k5 _ _ h4 (by simp [nA.1]), ?_, k5 _ _ (k4 _ _ h.hp (by simp [ndp.symm])) (by simp [nA.2.2]), ?_, nwd, nwp, ndp, List.nodup_nil, merge_nodup List.nodup_nil, ?_, fun b c hb => ?_⟩, kB⟩
    · show G5 dk = some (.dct .ik (disD (merge [] (ws.take (i + 1)))))
      rw [merge_take hx]
      exact k5 _ _ d4 (by simp [nA.2.1])
    · show G5 al = some (.lst ((ws.take (i + 1)).map aD))
      rw [a5, List.take_add_one, hx, List.map_append]; rfl
    · have := merge_len (ws.take (i + 1)) []
      simpa using this
    · rcases hb with hb | hb
      · have hb : getB (merge [] (ws.take (i + 1))) b = some c := hb
        rw [merge_take hx, getB_put] at hb
        by_cases e : b = x.1
        · rw [if_pos e] at hb; cases hb; exact hsz x (List.mem_of_getElem? hx)
        · rw [if_neg e] at hb; exact h.bd b c (.inl hb)
      · cases hb
  · rintro σ G' hok ⟨x3, x4, x5, rfl, h, kk⟩
    rw [List.length_map, List.take_length] at h
    refine go (k ⟨w, dk, pd, al⟩ G' h kk fun y hy => ?_)
    simp only [WA.ys, List.mem_cons, List.not_mem_nil, or_false] at hy
    rcases hy with rfl | rfl | rfl | rfl
    · exact hw
    · exact fdk
    · exact fpd
    · exact fal
theorem len_Lworld (m : Gm) (ds : List D) (G : GH) (Q : GQ) (h : sp_Lworld m ds G Q) : ds.length = 2 := by obtain ⟨p, ws, an, rfl, _⟩ := h; rfl
theorem i_ixF {p : Addr} {kvs : List (D × D)} {y d : D} {G : GH} {Q : GQ} (hg : G p = some (.fdct .ik kvs)) (hk : isKey y = true) (h : dget kvs y = some d) (q : Q d G) : gIx (.ref p) y G Q := by
  show ixG (G p) y fun d => Q d G
  rw [hg]; exact ⟨hk, d, h, q⟩
theorem getB_mem {x : Nat × PCell} : ∀ {l : Dsk}, (l.map (·.1)).Nodup → x ∈ l → getB l x.1 = some x.2
  | p :: r, nd, h => by
    rw [List.map_cons, List.nodup_cons] at nd
    unfold getB
    rcases List.mem_cons.mp h with rfl | h
    · rw [if_pos rfl]
    · rw [if_neg fun e => nd.1 (by rw [e]; exact List.mem_map_of_mem h)]
      exact getB_mem nd.2 h
theorem rdp_Lperform (m : Gm) (ds : List D) (G : GH) (Q : GQ) (h : sp_Lperform m ds G Q) : rd_Lperform m (bodyEnds Q) (gstart N_Lperform ds) G := by
  obtain ⟨A, W, W', l, x, r, rfl, h, hal, P, k⟩ := h
  rw [show gstart N_Lperform [.ref A.w, reqD x r] = [some (.ref A.w), some (reqD x r), none, none, none] from rfl]
  unfold rd_Lperform
  have nA := h.n4
  have hsz := h.sz
  refine go (i_ixT (ds := .str x :: r) (d := .str x) atI_zero (go ?_))
  rcases P with ⟨rfl, b, c, rfl, hc, rfl⟩ | ⟨rfl, rfl, rfl⟩ | ⟨rfl, an, rfl, rfl⟩
  · refine i_yes rfl (go (i_wpd h (go ?_)))
    refine i_ixT (j := 2) (ds := [.str "write", .int (b : Nat), cellD c]) (d := cellD c) rfl (go (i_ixT (j := 1) (ds := [.str "write", .int (b : Nat), cellD c]) (d := .int (b : Nat)) rfl (go (i_putIA h.hp rfl (by rw [disD_len]; show W.pn.length < 100000; omega) fun G1 p1 k1 => go ?_))))
    rw [disD_put] at p1
    refine i_ixI (k1 _ _ h.o (by simp [h.n2])) (by decide) (d := .ref A.al) rfl (go ?_)
    have a1 := k1 _ _ h.ha (by simp [nA.2.2.symm])
    refine i_lm1 a1 (go (i_ixT (j := 1) (ds := [.str "write", .int (b : Nat), cellD c]) (d := .int (b : Nat)) rfl (go (i_ixT (j := 2) (ds := [.str "write", .int (b : Nat), cellD c]) (d := cellD c) rfl (go (i_appA a1 (by rw [List.length_map]; show _ < 100000; omega) fun G2 a2 k2 => go ?_))))))
    have h2 : WAt G2 A (W.write b c) l := h.wr hc p1 k1 (by rw [a2, List.map_append]; rfl) k2
    exact k A.pd G2 h2 (.inl rfl) ((k1.trans k2).sub (by simp [WA.ys]))
  · refine i_no (by decide) (go (i_ixT (ds := [.str "flush"]) (d := .str "flush") atI_zero (go (i_yes rfl (go (i_wdk h (go ?_)))))))
    refine ⟨A.pd, disD W.pn, h.hp, ?_⟩
    have kz : Keep G (G.set A.pd (.fdct .ik (disD W.pn))) [A.pd] := Keep.put
    refine go (i_ixI (kz _ _ h.o (by simp [h.n2])) (by decide) (d := .ref A.pd) rfl ⟨rfl, set_same, ?_⟩)
    refine i_turns (fun i σ G' => ∃ x4, σ = [some (.ref A.w), some (reqD "flush" []), none, some (.ref A.dk), x4] ∧ G' A.dk = some (.dct .ik (disD (merge W.dk (W.pn.take i)))) ∧ Keep G G' [A.pd, A.dk]) ⟨none, rfl, kz _ _ h.hd (by simp [h.n3]), kz.sub (by simp)⟩ ?_ ?_
    · rintro i d σ G' hi hok ⟨x4, rfl, hd, kk⟩
      unfold disD at hi
      rw [List.getElem?_map, List.getElem?_map] at hi
      obtain ⟨y, hy, rfl⟩ := Option.map_eq_some_iff.mp hi
      obtain ⟨z, hz, rfl⟩ := Option.map_eq_some_iff.mp hy
      have hi2 := (List.getElem?_eq_some_iff.mp hz).1
      unfold rd_Lperform_1
      refine go (i_ixI (kk _ _ h.o (by simp [h.n2, h.n1])) (by decide) (d := .ref A.pd) rfl (go (i_ixF hok rfl (d := cellD z.2) (by rw [disD_get, getB_mem h.nk (List.mem_of_getElem? hz)]; rfl) (go (i_putIA hd rfl ?_ fun G4 d4 k4 => go ?_)))))
      · have := merge_len (W.pn.take i) W.dk
        rw [List.length_take] at this
        rw [disD_len]; show _ < 100000; omega
      · refine ⟨k4 _ _ hok (by simp [h.n3.symm]), _, rfl, ?_, (kk.trans k4).sub (by simp)⟩
        rw [d4, disD_put, merge_take hz]
    · rintro σ G' hok ⟨x4, rfl, hd, kk⟩
      have e : (disD W.pn).length = W.pn.length := disD_len _
      rw [List.length_map, e, List.take_length] at hd
      refine ⟨hok, ?_⟩
      have ky : Keep G' (G'.set A.pd (.dct .ik (disD W.pn))) [A.pd] := Keep.put
      have kB : Keep G (G'.set A.pd (.dct .ik (disD W.pn))) [A.pd, A.dk] := (kk.trans ky).sub (by simp)
      have d5 := ky _ _ hd (by simp [h.n3])
      have p5 : (G'.set A.pd (.dct .ik (disD W.pn))) A.pd = some (.dct .ik (disD W.pn)) := set_same
      generalize G'.set A.pd (.dct .ik (disD W.pn)) = G5 at kB d5 p5
      have w5 := kB _ _ h.o (by simp [h.n2, h.n1])
      refine go (i_alloc fun pd' G6 hpd p6 k6 => go (i_putIA (k6 _ _ w5 (by simp)) (by decide) (by show 5 < 100000; decide) fun G7 w7 k7 => go ?_))
      have nwp : A.w ≠ pd' := gne_none w5 hpd
      have ndp : A.dk ≠ pd' := gne_none d5 hpd
      have npp : A.pd ≠ pd' := gne_none p5 hpd
      have kC : Keep G5 G7 [A.w] := (k6.trans k7).sub (by simp)
      refine k pd' G7 ⟨w7, kC _ _ d5 (by simp [h.n1.symm]), k7 _ _ p6 (by simp [nwp.symm]), kC _ _ (kB _ _ h.ha (by simp [nA.2.2.symm, nA.2.1.symm])) (by simp [nA.1.symm]), h.n1, nwp, ndp, List.nodup_nil, merge_nodup h.nd, ?_, fun b c hb => ?_⟩ (.inr ?_) ((kB.trans kC).sub (by simp [WA.ys]))
      · have := merge_len W.pn W.dk
        show (merge W.dk W.pn).length + 0 ≤ W.al.length
        omega
      · rcases hb with hb | hb
        · have hb : getB (merge W.dk W.pn) b = some c := hb
          rw [getB_merge b h.nk] at hb
          cases hp : getB W.pn b with
          | some c2 => rw [hp] at hb; cases hb; exact h.bd b c (.inr hp)
          | none => rw [hp] at hb; exact h.bd b c (.inl hb)
        · cases hb
      · cases hG : G pd' with
        | none => rfl
        | some o => rw [kB _ _ hG (by simp [npp.symm, ndp.symm])] at hpd; cases hpd
  · refine i_no (by decide) (go (i_ixT (ds := [.str "anchor", an]) (d := .str "anchor") atI_zero (go (i_no (by decide) (go ?_)))))
    refine i_ixT (j := 1) (ds := [.str "anchor", an]) (d := an) rfl (go (i_setan h an fun G1 h1 k1 => go (k A.pd G1 h1 (.inl rfl) (k1.sub (by simp [WA.ys])))))
theorem len_Lperform (m : Gm) (ds : List D) (G : GH) (Q : GQ) (h : sp_Lperform m ds G Q) : ds.length = 2 := by obtain ⟨A, W, W', l, x, r, rfl, _⟩ := h; rfl
theorem i_isiT {ds : List D} {G : GH} {Q : GQ} (q : Q (.bl true) G) : bIsi [.tup ds, .ty "tuple"] G Q := ⟨"tuple", rfl, .inr (.inr rfl), q⟩
theorem i_isiN {G : GH} {Q : GQ} (q : Q (.bl false) G) : bIsi [.non, .ty "tuple"] G Q := ⟨"NoneType", rfl, .inr (.inr rfl), q⟩
theorem i_isiI {i : Int} {G : GH} {Q : GQ} (q : Q (.bl true) G) : bIsi [.int i, .ty "int"] G Q := ⟨"int", rfl, .inr (.inl rfl), q⟩
theorem i_isiTI {ds : List D} {G : GH} {Q : GQ} (q : Q (.bl false) G) : bIsi [.tup ds, .ty "int"] G Q := ⟨"tuple", rfl, .inr (.inl rfl), q⟩
def Flat (d : D) : Prop := d.pure = true ∧ d.key.depth ≤ 1
theorem flat_int (i : Int) : Flat (.int i) := ⟨rfl, by rw [depth_int]; omega⟩
theorem flat_str (x : String) : Flat (.str (Str.ofString x)) := ⟨sOk_of x, by rw [depth_str]; omega⟩
theorem flat_pair (i j : Int) : Flat (.tup [.int i, .int j]) := ⟨rfl, depth_tup (n := 0) fun d hd => by
  simp only [List.mem_cons, List.not_mem_nil, or_false] at hd
  rcases hd with rfl | rfl <;> rw [depth_int] <;> exact Nat.le_refl 0⟩
theorem pkd_flat {ds : List D} (h : ∀ d ∈ ds, Flat d) : Pkd (.tup ds) := pkd_tup fun d hd => ⟨(h d hd).1, by have := (h d hd).2; omega⟩
theorem cell_flat : ∀ p : PCell, ∃ x r, cellD p = .tup (.str (Str.ofString x) :: r) ∧ r.length = pcSize p ∧ (∀ d ∈ r, Flat d) ∧ ∀ d ∈ r, (∃ i : Int, d = .int i) ∨ ∃ i j : Int, d = .tup [.int i, .int j]
  | .leaf ws => ⟨"leaf", intsD ws, rfl, intsD_len ws, fun d hd => by
      unfold intsD at hd; obtain ⟨n, _, rfl⟩ := List.mem_map.mp hd; exact flat_int n, fun d hd => by
      unfold intsD at hd; obtain ⟨n, _, rfl⟩ := List.mem_map.mp hd; exact .inl ⟨n, rfl⟩⟩
  | .node es => ⟨"node", es.map entD, rfl, List.length_map .., fun d hd => by
      obtain ⟨n, _, rfl⟩ := List.mem_map.mp hd; exact flat_pair _ _, fun d hd => by
      obtain ⟨n, _, rfl⟩ := List.mem_map.mp hd; exact .inr ⟨_, _, rfl⟩⟩
theorem cut_mem {ds : List D} {lo hi : Option Int} {d : D} (h : d ∈ cutD ds lo hi) : d ∈ ds := List.mem_of_mem_drop (List.mem_of_mem_take h)
theorem cut_len (ds : List D) (lo hi : Option Int) : (cutD ds lo hi).length ≤ ds.length := by
  unfold cutD
  rw [List.length_take, List.length_drop]; omega
section
variable {a c : Addr} {A : WA} {G : GH} {Q : GQ} {m : Gm}
theorem lie_leaf {y0 y2 : D} {y3 y4 y5 y6 y7 : Option D} (st : St G a c) (k : ∀ v G', Pkd v → St G' a c → Keep G G' [a, c] → Q v G') : rd_Llie_2 m (bodyEnds Q) [some (.ref a), some y0, some y2, y3, y4, y5, y6, y7] G := by
  unfold rd_Llie_2
  refine go (i_draw st (by decide) (by decide) fun r G1 r0 r1 st1 k1 => go ?_)
  exact k _ G1 (pkd_flat fun d hd => by
    simp only [List.mem_cons, List.not_mem_nil, or_false] at hd
    rcases hd with rfl | rfl
    · exact flat_str "leaf"
    · exact flat_int r) st1 k1
theorem lie_alter {y0 : D} {oc : Option PCell} {y3 y4 y5 y6 y7 : Option D} (st : St G a c) (hb : ∀ p, oc = some p → pcSize p ≤ 100) (k : ∀ v G', Pkd v → St G' a c → Keep G G' [a, c] → Q v G') : rd_Llie_3 m (bodyEnds Q) [some (.ref a), some y0, some ((oc.map cellD).getD .non), y3, y4, y5, y6, y7] G := by
  unfold rd_Llie_3
  cases oc with
  | none =>
    refine go (i_isiN (go ?_))
    exact lie_leaf st k
  | some p =>
    obtain ⟨x, r, e, hr, hf, hk⟩ := cell_flat p
    have hl := hb p rfl
    rw [show ((some p).map cellD).getD .non = cellD p from rfl, e]
    refine go (i_isiT (go ?_))
    by_cases h1 : (1 : Int) < ((D.str (Str.ofString x) :: r).length : Nat)
    · refine i_yes h1 (go ?_)
      rw [List.length_cons] at h1
      refine i_draw st (by rw [List.length_cons]; omega) (by rw [List.length_cons]; omega) fun z G1 z0 z1 st1 k1 => go ?_
      rw [List.length_cons] at z1
      have hfa : ∀ d ∈ D.str (Str.ofString x) :: r, Flat d := fun d hd => by
        rcases List.mem_cons.mp hd with rfl | hd
        · exact flat_str x
        · exact hf d hd
      have hz : z.toNat < r.length := by omega
      have hzr : r[z.toNat]? = some r[z.toNat] := List.getElem?_eq_getElem hz
      have hat : atI (D.str (Str.ofString x) :: r) (1 + z) = some r[z.toNat] := atI_at (by omega) (by
        rw [show (1 + z).toNat = z.toNat + 1 by omega, List.getElem?_cons_succ]; exact hzr)
      refine i_ixT hat (go ?_)
      have fin : ∀ (d : D) (lo hi : Option Int) (G2 : GH), Flat d → St G2 a c → Keep G G2 [a, c] → Q (.tup (cutD (D.str (Str.ofString x) :: r) none hi ++ [d] ++ cutD (D.str (Str.ofString x) :: r) lo none)) G2 := fun d lo hi G2 fd s2 k2 => k _ G2 (pkd_flat fun e he => by
        rw [List.mem_append, List.mem_append] at he
        rcases he with (he | he) | he
        · exact hfa e (cut_mem he)
        · rw [List.mem_singleton.mp he]; exact fd
        · exact hfa e (cut_mem he)) s2 k2
      have c1 : ∀ lo hi, (cutD (D.str (Str.ofString x) :: r) lo hi).length ≤ 101 := fun lo hi => by
        have := cut_len (D.str (Str.ofString x) :: r) lo hi
        rw [List.length_cons] at this
        omega
      rcases hk _ (List.getElem_mem hz) with ⟨i, ei⟩ | ⟨i, j, ei⟩
      · rw [ei]
        refine i_isiI (go ?_)
        refine i_addT (by rw [List.length_singleton]; have := c1 none (some (1 + z)); show _ ≤ 100000; omega) (go ?_)
        refine i_addT (by rw [List.length_append, List.length_singleton]; have := c1 none (some (1 + z)); have := c1 (some (1 + z + 1)) none; show _ ≤ 100000; omega) (go ?_)
        exact fin (.int (i + 1)) _ _ G1 (flat_int _) st1 k1
      · rw [ei]
        refine i_isiTI (go ?_)
        unfold rd_Llie_1
        refine go (i_ixT (j := 0) (ds := [.int i, .int j]) (d := .int i) rfl (go (i_ixT (j := 1) (ds := [.int i, .int j]) (d := .int j) rfl (go (i_ixT (j := 0) (ds := [.int i, .int j]) (d := .int i) rfl (go (i_ixT (j := 1) (ds := [.int i, .int j]) (d := .int j) rfl (go (i_ixT (j := 1) (ds := [.int i, .int j]) (d := .int j) rfl (go (i_ixT (j := 0) (ds := [.int i, .int j]) (d := .int i) rfl (go ?_))))))))))))
        refine i_alloc fun q G2 hq q2 k2 => go (i_draw (st1.keep k2 (by simp) (by simp)) (by decide) (by decide) fun y G3 y0 y1 st3 k3 => go ?_)
        have nqa : q ≠ a := fun z => by obtain ⟨_, _, h1, _⟩ := st1; rw [z, h1] at hq; cases hq
        have nqc : q ≠ c := fun z => by obtain ⟨_, _, _, h1, _⟩ := st1; rw [z, h1] at hq; cases hq
        have q3 := k3 _ _ q2 (by simp [nqa, nqc])
        have kB : Keep G G3 [a, c] := ((k1.trans k2).trans k3).sub (by simp)
        obtain ⟨i', j', hy⟩ : ∃ i' j' : Int, atI [D.tup [.int (i + 1), .int j], .tup [.int i, .int (j - 1)], .tup [.int j, .int i]] y = some (.tup [.int i', .int j']) := by
          have : y = 0 ∨ y = 1 ∨ y = 2 := by omega
          rcases this with rfl | rfl | rfl
          · exact ⟨_, _, rfl⟩
          · exact ⟨_, _, rfl⟩
          · exact ⟨_, _, rfl⟩
        refine i_ixL q3 hy (go ?_)
        refine i_addT (by rw [List.length_singleton]; have := c1 none (some (1 + z)); show _ ≤ 100000; omega) (go ?_)
        refine i_addT (by rw [List.length_append, List.length_singleton]; have := c1 none (some (1 + z)); have := c1 (some (1 + z + 1)) none; show _ ≤ 100000; omega) (go ?_)
        exact fin _ _ _ G3 (flat_pair _ _) st3 kB
    · refine i_no h1 (go ?_)
      exact lie_leaf st k
end
theorem depth_le {n : Nat} {d : D} (h : d.key.depth ≤ n) : ∀ e, e = d → e.key.depth ≤ n := fun e z => z ▸ h
def strange : List D := [.non, .int 0, .int (-7), .str "leaf", .tup [], .tup [.str "leaf"], .tup [.str "node", .int 1, .int 2], .tup [.str "node", .tup [.int 0, .int 1]], .tup [.int 1, .tup [.int 2, .tup [.int 3, .tup []]]]]
theorem strange_pkd : ∀ d ∈ strange, Pkd d := by
  intro d hd
  simp only [strange, List.mem_cons, List.not_mem_nil, or_false] at hd
  have d0 : (D.tup []).key.depth ≤ 1 := depth_tup (n := 0) fun _ h => nomatch h
  have d1 : (D.tup [.int 3, .tup []]).key.depth ≤ 2 := depth_tup (n := 1) fun d hd => by
    simp only [List.mem_cons, List.not_mem_nil, or_false] at hd
    rcases hd with rfl | rfl
    · rw [depth_int]; omega
    · exact d0
  have d2 : (D.tup [.int 2, .tup [.int 3, .tup []]]).key.depth ≤ 3 := depth_tup (n := 2) fun d hd => by
    simp only [List.mem_cons, List.not_mem_nil, or_false] at hd
    rcases hd with rfl | rfl
    · rw [depth_int]; omega
    · exact d1
  rcases hd with rfl | rfl | rfl | rfl | rfl | rfl | rfl | rfl | rfl
  · exact pkd_non
  · exact pkd_int 0
  · exact pkd_int (-7)
  · exact pkd_str (sOk_of "leaf")
  · exact pkd_flat fun _ h => nomatch h
  · exact pkd_flat fun d hd => by rw [List.mem_singleton.mp hd]; exact flat_str "leaf"
  · exact pkd_flat fun d hd => by
      simp only [List.mem_cons, List.not_mem_nil, or_false] at hd
      rcases hd with rfl | rfl | rfl
      · exact flat_str "node"
      · exact flat_int 1
      · exact flat_int 2
  · exact pkd_flat fun d hd => by
      simp only [List.mem_cons, List.not_mem_nil, or_false] at hd
      rcases hd with rfl | rfl
      · exact flat_str "node"
      · exact flat_pair 0 1
  · refine pkd_tup fun d hd => ?_
    simp only [List.mem_cons, List.not_mem_nil, or_false] at hd
    rcases hd with rfl | rfl
    · exact ⟨rfl, by rw [depth_int]; omega⟩
    · exact ⟨rfl, Nat.le_trans d2 (by decide)⟩
section
variable {σ : GSt} {G : GH} {Q : GQ}
instance (priority := high) s_st7 : Stp (gTup (gCons (gC (.str (Str.ofString "node"))) (gCons (gC (.int 1)) (gCons (gC (.int 2)) gNil))) σ G Q) (Q (.tup [.str (Str.ofString "node"), .int 1, .int 2]) G) := ⟨fun q => go q⟩
instance (priority := high) s_st8 : Stp (gTup (gCons (gC (.str (Str.ofString "node"))) (gCons (gTup (gCons (gC (.int 0)) (gCons (gC (.int 1)) gNil))) gNil)) σ G Q) (Q (.tup [.str (Str.ofString "node"), .tup [.int 0, .int 1]]) G) := ⟨fun q => go q⟩
instance (priority := high) s_st9 : Stp (gTup (gCons (gC (.int 1)) (gCons (gTup (gCons (gC (.int 2)) (gCons (gTup (gCons (gC (.int 3)) (gCons (gTup gNil) gNil))) gNil))) gNil)) σ G Q) (Q (.tup [.int 1, .tup [.int 2, .tup [.int 3, .tup []]]]) G) := ⟨fun q => go q⟩
end
theorem rdp_Llie (m : Gm) (ds : List D) (G : GH) (Q : GQ) (h : sp_Llie m ds G Q) : rd_Llie m (bodyEnds Q) (gstart N_Llie ds) G := by
  obtain ⟨a, c, A, W, l, oc, rfl, st, h, off, hne, hal, hb, k⟩ := h
  rw [show gstart N_Llie [.ref a, .ref A.w, (oc.map cellD).getD .non] = [some (.ref a), some (.ref A.w), some ((oc.map cellD).getD .non), none, none, none, none, none] from rfl]
  unfold rd_Llie
  refine go (i_draw st (by decide) (by decide) fun kd G1 k0 k7 st1 k1 => go ?_)
  have h1 := h.keep k1 (h.off st off)
  by_cases h3 : kd < 3
  · refine i_yes h3 (go (i_wal h1 (go (i_wal h1 (go (i_lenL h1.ha (go ?_)))))))
    have hpos : 0 < W.al.length := List.length_pos_iff.mpr hne
    rw [List.length_map]
    refine i_draw st1 (by omega) (by omega) fun r G2 r0 r1 st2 k2 => go ?_
    have h2 := h1.keep k2 (h1.off st1 off)
    have hx : W.al[r.toNat]? = some W.al[r.toNat] := List.getElem?_eq_getElem (by omega)
    refine i_ixL h2.ha (atI_at r0 (by rw [List.getElem?_map, hx]; rfl)) (go (i_ixT (j := 1) (ds := [.int (W.al[r.toNat].1 : Nat), cellD W.al[r.toNat].2]) (d := cellD W.al[r.toNat].2) rfl (go (k _ G2 (pkd_cell _) st2 (k1.same k2)))))
  refine i_no h3 (go ?_)
  unfold rd_Llie_5
  refine go ?_
  by_cases h4 : kd = 3
  · refine i_yes h4 (go (i_alloc fun q G2 hq q2 k2 => go (i_draw (st1.keep k2 (by simp) (by simp)) (by decide) (by decide) fun r G3 r0 r1 st3 k3 => go ?_)))
    have nqa : q ≠ a := fun z => by obtain ⟨_, _, h1, _⟩ := st1; rw [z, h1] at hq; cases hq
    have nqc : q ≠ c := fun z => by obtain ⟨_, _, _, h1, _⟩ := st1; rw [z, h1] at hq; cases hq
    have q3 : G3 q = some (.lst strange) := k3 _ _ q2 (by simp [nqa, nqc])
    have hx : strange[r.toNat]? = some (strange[r.toNat]'(by show r.toNat < 9; omega)) := List.getElem?_eq_getElem _
    refine i_ixL q3 (atI_at r0 hx) (go (k _ G3 (strange_pkd _ (List.mem_of_getElem? hx)) st3 (((k1.trans k2).trans k3).sub (by simp))))
  refine i_no h4 (go ?_)
  unfold rd_Llie_4
  refine go ?_
  by_cases h5 : kd = 4
  · refine i_yes h5 (go ?_)
    cases oc with
    | none =>
      refine i_isiN (go ?_)
      exact lie_alter (oc := none) st1 (fun _ z => nomatch z) fun v G2 pv s2 k2 => k v G2 pv s2 (k1.same k2)
    | some p =>
      obtain ⟨x, r, e, hr, hf, hk⟩ := cell_flat p
      have hl := hb p rfl
      have hal := lie_alter (m := m) (y0 := .ref A.w) (oc := some p) (y3 := some (.int kd)) (y4 := none) (y5 := none) (y6 := none) (y7 := none) st1 hb fun v G2 pv s2 k2 => k v G2 pv s2 (k1.same k2)
      rw [show ((some p).map cellD).getD .non = cellD p from rfl, e] at hal ⊢
      refine i_isiT (go ?_)
      by_cases h6 : (1 : Int) < ((D.str (Str.ofString x) :: r).length : Nat)
      · refine i_yes h6 (go ?_)
        refine i_draw st1 (by rw [List.length_cons]; omega) (by rw [List.length_cons]; omega) fun z G2 z0 z1 st2 k2 => go ?_
        have c1 : ∀ lo hi, (cutD (D.str (Str.ofString x) :: r) lo hi).length ≤ 101 := fun lo hi => by
          have := cut_len (D.str (Str.ofString x) :: r) lo hi
          rw [List.length_cons] at this
          omega
        refine i_addT (by have := c1 none (some z); have := c1 (some (z + 1)) none; show _ ≤ 100000; omega) (go (k _ G2 (pkd_flat fun d hd => ?_) st2 (k1.same k2)))
        have hm : d ∈ D.str (Str.ofString x) :: r := by
          rcases List.mem_append.mp hd with h | h <;> exact cut_mem h
        rcases List.mem_cons.mp hm with rfl | hm
        · exact flat_str x
        · exact hf d hm
      · refine i_no h6 (go ?_)
        exact hal
  · refine i_no h5 (go ?_)
    exact lie_alter st1 hb fun v G2 pv s2 k2 => k v G2 pv s2 (k1.same k2)
theorem len_Llie (m : Gm) (ds : List D) (G : GH) (Q : GQ) (h : sp_Llie m ds G Q) : ds.length = 3 := by obtain ⟨a, c, A, W, l, oc, rfl, _⟩ := h; rfl
end Cz

/-! CzDrive: talks driven over a disk that may lie. -/
namespace Cz
open PySem L2 Cz.K02
/-- how a talk goes: the answers left, the request, its objects, the world -/
abbrev TkP := Nat → String → List D → List Addr → Wp → GH → Prop
structure Tk (m : Gm) (t : Addr) (c : Cl) (T : TkP) : Prop where
  tk : ∀ {n x r ys W G}, T n x r ys W G → TkAt G t x r c
  keep : ∀ {n x r ys W G G' xs}, T n x r ys W G → Keep G G' xs → (∀ y ∈ ys, y ∉ xs) → T n x r ys W G'
  alloc : ∀ {n x r ys W G}, T n x r ys W G → ∀ y ∈ ys, G y ≠ none
  self : ∀ {n x r ys W G}, T n x r ys W G → t ∈ ys
  rd : ∀ {n r ys W G}, T n "read" r ys W G → ∃ (b : Nat) (c0 : PCell), r = [.int (b : Nat)] ∧ W.held b = some c0 ∧ ∀ (v : D) (Q : GQ), Pkd v →
    (∀ G' n' x' r' ys', n' < n → T n' x' r' ys' W G' → (v = cellD c0 → x' ≠ "refused") → (v ≠ cellD c0 → x' = "refused" ∧ r' = r) → Keep G G' ys → (∀ y ∈ ys', y ∈ ys ∨ G y = none) → Q .non G') → sp_talk_answer m [.ref t, v] G Q
  wr : ∀ {n x r ys W G}, T n x r ys W G → x ≠ "read" → x ≠ "done" → x ≠ "refused" → ∃ W', Perf x r W W' ∧ ∀ G1 xs, Keep G G1 xs → (∀ y ∈ ys, y ∉ xs) → ∀ (v : D) (Q : GQ), Pkd v →
    (∀ G' n' x' r' ys', n' < n → T n' x' r' ys' W' G' → x' ≠ "refused" → Keep G1 G' ys → (∀ y ∈ ys', y ∈ ys ∨ G1 y = none) → Q .non G') → sp_talk_answer m [.ref t, v] G1 Q
/-- the world's and the draws' objects -/
def own (A : WA) (a c : Addr) : List Addr := a :: c :: A.ys
def sp_Ldrive (m : Gm) : GSp := fun ds G Q => ∃ (a c t : Addr) (A : WA) (W : Wp) (l0 : Bool) (lies cut : Nat) (k : Cl) (T : TkP) (n0 : Nat) (x0 : String) (r0 : List D) (ys0 : List Addr), ds = [.ref a, .ref A.w, .ref t, .int lies, .int cut] ∧
  St G a c ∧ WAt G A W l0 ∧ Off A a c ∧ W.al ≠ [] ∧ W.al.length + n0 ≤ 50000 ∧ n0 < 800 ∧ lies ≤ 1000 ∧ cut ≤ 1000 ∧ isTalk k = true ∧ Tk m t k T ∧ T n0 x0 r0 ys0 W G ∧ x0 ≠ "refused" ∧ (∀ y ∈ ys0, y ∉ own A a c) ∧
  (∀ n x r ys W' pd' l' G', T n x r ys W' G' → WAt G' { A with pd := pd' } W' l' → St G' a c → Keep G G' (ys0 ++ own A a c) → (∀ y ∈ ys, y ∈ ys0 ++ own A a c ∨ G y = none) → (pd' ∈ ys0 ++ own A a c ∨ G pd' = none) → W'.al ≠ [] → W'.al.length + n ≤ W.al.length + n0 → (∀ y ∈ ys, y ∉ own { A with pd := pd' } a c) →
    ((x = "done" ∧ l' = false → Q (reqD x r) G') ∧ (x = "refused" ∧ l' = true ∧ 0 < lies → Q (reqD x r) G') ∧ (x ≠ "done" → x ≠ "refused" → l' = false → 0 < cut → Q (.tup [.str "cut"]) G')))
def rd_Ldrive_1 (m : Gm) : GS := gIf (gTest (gBin (gEq false) (gBin gIx (gVar 6) (gC (.int 0))) (gC (.str "read")))) (gSeq (gDrop (gMeth (tab_answer m) (gVar 2) (gCons (gCall (sp_Lanswer m) (gCons (gVar 0) (gCons (gVar 1) (gCons (gBin gIx (gVar 6) (gC (.int 1))) (gCons (gVar 3) (gNil)))))) (gNil)))) (gIf (gAnd (gTru (gBin gIx (gVar 1) (gC (.str "lied")))) (gTest (gBin (gEq true) (gMeth (tab_request m) (gVar 2) gNil) (gTup (gCons (gC (.str "refused")) (gCons (gBin gIx (gVar 6) (gC (.int 1))) (gNil))))))) (gRet (gTup (gCons (gC (.str "missed")) (gNil)))) (gNext))) (gSeq (gDrop (gCall (sp_Lperform m) (gCons (gVar 1) (gCons (gVar 6) (gNil))))) (gDrop (gMeth (tab_answer m) (gVar 2) (gCons (gBin gIx (gLst (gCons (gC .non) (gCons (gC (.int 5)) (gCons (gTup (gCons (gC (.str "leaf")) (gCons (gC (.int 1)) (gNil)))) (gNil))))) (gCall sp_Ldraw (gCons (gVar 0) (gCons (gC (.int 3)) (gNil))))) (gNil)))))
def rd_Ldrive_2 (m : Gm) : GS := gSeq (gIf (gAnd (gTest (gBin gGt (gVar 4) (gC (.int 0)))) (gTest (gBin (gEq false) (gCall sp_Ldraw (gCons (gVar 0) (gCons (gVar 4) (gNil)))) (gC (.int 0))))) (gRet (gTup (gCons (gC (.str "cut")) (gNil)))) (gNext)) (rd_Ldrive_1 m)
def rd_Ldrive_3 (m : Gm) : GS := gSeq (gSet 6 (gMeth (tab_request m) (gVar 2) gNil)) (gSeq (gIf (gOr (gTest (gBin (gEq false) (gBin gIx (gVar 6) (gC (.int 0))) (gC (.str "done")))) (gTest (gBin (gEq false) (gBin gIx (gVar 6) (gC (.int 0))) (gC (.str "refused"))))) (gRet (gVar 6)) (gNext)) (rd_Ldrive_2 m))
/-- _law_drive: 0 state_here, 1 world_here, 2 talk, 3 lies, 4 cut, 5 k, 6 request -/
def rd_Ldrive (m : Gm) : GS := gSeq (gPut (gC (.bl false)) (gVar 1) (gC (.str "lied"))) (gSeq (gFor (gRng1 (gCons (gC (.int 800)) (gNil))) (gNm 5) (rd_Ldrive_3 m)) (gRet (gTup (gCons (gC (.str "endless")) (gNil)))))
abbrev N_Ldrive : List Str := ["_law_state_here", "_law_world_here", "_law_talk", "_law_lies", "_law_cut", "_law_k", "_law_request"]

theorem Keep.into {G G' G2 : GH} {X ys : List Addr} (k : Keep G G' X) (k' : Keep G' G2 ys) (h : ∀ y ∈ ys, y ∈ X ∨ G y = Option.none) : Keep G G2 X := fun b o hb nb => k' b o (k b o hb nb) fun z => (h b z).elim nb fun e => gne_none hb e rfl
theorem Keep.grow {G G' : GH} {X ys ys' : List Addr} (k : Keep G G' X) (h : ∀ y ∈ ys, y ∈ X ∨ G y = Option.none) (h' : ∀ y ∈ ys', y ∈ ys ∨ G' y = Option.none) : ∀ y ∈ ys', y ∈ X ∨ G y = Option.none := fun y hy => (h' y hy).elim (h y) fun z => by
  by_cases hX : y ∈ X
  · exact .inl hX
  · exact .inr (k.fresh z hX)
theorem own_alloc {G : GH} {A : WA} {W : Wp} {l : Bool} {a c : Addr} (h : WAt G A W l) (s : St G a c) : ∀ y ∈ own A a c, G y ≠ none := by
  intro y hy
  unfold own at hy
  rcases List.mem_cons.mp hy with rfl | hy
  · obtain ⟨_, _, h1, _⟩ := s; rw [h1]; exact fun z => nomatch z
  rcases List.mem_cons.mp hy with rfl | hy
  · obtain ⟨_, _, _, h1, _⟩ := s; rw [h1]; exact fun z => nomatch z
  · exact h.alloc y hy
theorem pkd_refused (b : Nat) : Pkd (.tup [.str (Str.ofString "refused"), .int (b : Nat)]) := pkd_flat fun d hd => by
  simp only [List.mem_cons, List.not_mem_nil, or_false] at hd
  rcases hd with rfl | rfl
  · exact flat_str "refused"
  · exact flat_int _
def told : List D := [.non, .int 5, .tup [.str (Str.ofString "leaf"), .int 1]]
theorem told_pkd : ∀ d ∈ told, Pkd d := by
  intro d hd
  simp only [told, List.mem_cons, List.not_mem_nil, or_false] at hd
  rcases hd with rfl | rfl | rfl
  · exact pkd_non
  · exact pkd_int 5
  · exact pkd_flat fun d hd => by
      simp only [List.mem_cons, List.not_mem_nil, or_false] at hd
      rcases hd with rfl | rfl
      · exact flat_str "leaf"
      · exact flat_int 1
theorem perf_al {x : String} {r : List D} {W W' : Wp} (P : Perf x r W W') (h : W.al ≠ []) : W'.al ≠ [] ∧ W'.al.length ≤ W.al.length + 1 := by
  rcases P with ⟨_, b, c, _, _, rfl⟩ | ⟨_, _, rfl⟩ | ⟨_, an, _, rfl⟩
  · refine ⟨?_, ?_⟩
    · show W.al ++ _ ≠ []
      simp
    · show (W.al ++ [(b, c)]).length ≤ _
      rw [List.length_append, List.length_singleton]; omega
  · exact ⟨h, Nat.le_succ _⟩
  · exact ⟨h, Nat.le_succ _⟩
theorem rdp_Ldrive (m : Gm) (ds : List D) (G : GH) (Q : GQ) (h : sp_Ldrive m ds G Q) : rd_Ldrive m (bodyEnds Q) (gstart N_Ldrive ds) G := by
  obtain ⟨a, c, t, A, W, l0, lies, cut, k, T, n0, x0, r0, ys0, rfl, st, h, off, hne, hal, hn, hlies, hcut, htk, TK, hT, hx0, nd, fin⟩ := h
  rw [show gstart N_Ldrive [.ref a, .ref A.w, .ref t, .int lies, .int cut] = [some (.ref a), some (.ref A.w), some (.ref t), some (.int lies), some (.int cut), none, none] from rfl]
  unfold rd_Ldrive
  have nw := h.st st
  refine go (i_setli h false fun G1 h1 k1 => go ⟨by decide, by decide, ?_⟩)
  have nw0 : ∀ y ∈ ys0, y ∉ [A.w] := fun y hy z => nd y hy (by unfold own WA.ys; simp at z; simp [z])
  refine i_turns (fun i σ G' => ∃ x5 x6 n x r ys W' pd' l', σ = [some (.ref a), some (.ref A.w), some (.ref t), some (.int lies), some (.int cut), x5, x6] ∧ n + i ≤ n0 ∧ T n x r ys W' G' ∧ WAt G' { A with pd := pd' } W' l' ∧ St G' a c ∧ Keep G G' (ys0 ++ own A a c) ∧ (∀ y ∈ ys, y ∈ ys0 ++ own A a c ∨ G y = none) ∧ (pd' ∈ ys0 ++ own A a c ∨ G pd' = none) ∧ W'.al ≠ [] ∧ W'.al.length + n ≤ W.al.length + n0 ∧ (∀ y ∈ ys, y ∉ own { A with pd := pd' } a c) ∧ (l' = true → x = "refused") ∧ (x = "refused" → l' = true ∧ 0 < lies))
    ⟨none, none, n0, x0, r0, ys0, W, A.pd, false, rfl, by omega, TK.keep hT k1 nw0, h1, st.keep k1 (by simp [nw.1.symm]) (by simp [nw.2.1.symm]), k1.sub (by simp [own, WA.ys]), fun y hy => .inl (List.mem_append_left _ hy), .inl (by simp [own, WA.ys]), hne, by omega, nd, fun z => (nomatch z), fun z => absurd z hx0⟩ ?_ ?_
  · rintro i d σ G' hi _ ⟨x5, x6, n, x, r, ys, W', pd', l', rfl, hni, hT', h', st', kk, hys, hpd, hne', hal', nd', hl1, hl2⟩
    obtain ⟨fs, nn, t1, t2, t3, t4⟩ := TK.tk hT'
    have off' : Off { A with pd := pd' } a c := off
    have F := fin n x r ys W' pd' l' G' hT' h' st' kk hys hpd hne' hal' nd'
    unfold rd_Ldrive_3
    refine go (i_methR t1 (tab_req htk) (go ⟨t, k, fs, _, rfl, t1, t2, go ?_⟩))
    refine i_ixT (ds := .str x :: r) (d := .str x) atI_zero (go ?_)
    by_cases hd : x = "done"
    · refine i_yes hd (go (F.1 ⟨hd, ?_⟩))
      cases hl : l' with
      | false => rfl
      | true => exact absurd (hd.symm.trans (hl1 hl)) (by decide)
    refine i_no hd (go (i_ixT (ds := .str x :: r) (d := .str x) atI_zero (go ?_)))
    by_cases hr : x = "refused"
    · exact i_yes hr (go (F.2.1 ⟨hr, hl2 hr⟩))
    refine i_no hr (go ?_)
    have hlf : l' = false := by
      cases hl : l' with
      | false => rfl
      | true => exact absurd (hl1 hl) hr
    subst hlf
    unfold rd_Ldrive_2
    have facts : ∀ G2, Keep G' G2 [a, c] → WAt G2 { A with pd := pd' } W' false ∧ (∀ y ∈ ys, y ∉ [a, c]) ∧ T n x r ys W' G2 ∧ Keep G G2 (ys0 ++ own A a c) := by
      intro G2 k2
      have h2 := h'.keep k2 (h'.off st' off')
      have nac : ∀ y ∈ ys, y ∉ [a, c] := fun y hy z => nd' y hy (by
        unfold own
        simp only [List.mem_cons, List.not_mem_nil, or_false] at z
        rcases z with rfl | rfl <;> simp)
      have T2 := TK.keep hT' k2 nac
      have kk2 : Keep G G2 (ys0 ++ own A a c) := kk.into k2 fun y hy => .inl (by
        simp only [List.mem_cons, List.not_mem_nil, or_false] at hy
        unfold own
        rcases hy with rfl | rfl <;> simp)
      exact ⟨h2, nac, T2, kk2⟩
    -- what follows the cut
    have rest : ∀ G2, Keep G' G2 [a, c] → St G2 a c → ∀ x5', rd_Ldrive_1 m { nx := fun σ2 G2 => True ∧ ∃ x5 x6 n x r ys W' pd' l', σ2 = [some (.ref a), some (.ref A.w), some (.ref t), some (.int lies), some (.int cut), x5, x6] ∧ n + (i + 1) ≤ n0 ∧ T n x r ys W' G2 ∧ WAt G2 { A with pd := pd' } W' l' ∧ St G2 a c ∧ Keep G G2 (ys0 ++ own A a c) ∧ (∀ y ∈ ys, y ∈ ys0 ++ own A a c ∨ G y = none) ∧ (pd' ∈ ys0 ++ own A a c ∨ G pd' = none) ∧ W'.al ≠ [] ∧ W'.al.length + n ≤ W.al.length + n0 ∧ (∀ y ∈ ys, y ∉ own { A with pd := pd' } a c) ∧ (l' = true → x = "refused") ∧ (x = "refused" → l' = true ∧ 0 < lies), ct := fun _ _ => False, rt := (bodyEnds Q).rt, bk := fun _ _ => False } [some (.ref a), some (.ref A.w), some (.ref t), some (.int lies), some (.int cut), x5', some (reqD x r)] G2 := by
      intro G2 k2 st2 x5'
      obtain ⟨h2, nac, T2, kk2⟩ := facts G2 k2
      unfold rd_Ldrive_1
      refine go (i_ixT (ds := .str x :: r) (d := .str x) atI_zero (go ?_))
      obtain ⟨fs2, nn2, u1, u2, u3, u4⟩ := TK.tk T2
      by_cases hrd : x = "read"
      · subst hrd
        obtain ⟨b, c0, rfl, hb, _⟩ := TK.rd T2
        have hh : heldD W' b = cellD c0 := by unfold heldD; rw [hb]; rfl
        refine i_yes rfl (go (i_methR u1 (tab_ans htk) (go (i_ixT (j := 1) (ds := [.str "read", .int (b : Nat)]) (d := .int (b : Nat)) rfl (go ⟨a, c, { A with pd := pd' }, W', b, lies, rfl, st2, h2, off', hne', by omega, hlies, fun v l G3 pv hl hl0 st3 h3 k3 => go ?_⟩)))))
        have nacw : ∀ y ∈ ys, y ∉ [a, c, A.w] := fun y hy z => nd' y hy (by
          unfold own WA.ys
          simp only [List.mem_cons, List.not_mem_nil, or_false] at z
          rcases z with rfl | rfl | rfl <;> simp)
        have T3 := TK.keep T2 k3 nacw
        have kk3 : Keep G G3 (ys0 ++ own A a c) := kk2.into k3 fun y hy => .inl (by
          simp only [List.mem_cons, List.not_mem_nil, or_false] at hy
          unfold own WA.ys
          rcases hy with rfl | rfl | rfl <;> simp)
        obtain ⟨b', c0', e1, hb', ans⟩ := TK.rd T3
        have eb : b = b' := by injection e1 with e1; injection e1 with e1; omega
        subst eb
        rw [hb] at hb'
        cases hb'
        refine ans v _ pv fun G4 n' x' r' ys' hlt T4 hx1 hx2 k4 hy4 => go ?_
        have no4 : ∀ y ∈ own { A with pd := pd' } a c, y ∉ ys := fun y hy z => nd' y z hy
        have h4 := h3.keep k4 fun y hy => no4 y (by unfold own; simp [hy])
        have st4 := st3.keep k4 (no4 a (by simp [own])) (no4 c (by simp [own]))
        have kk4 : Keep G G4 (ys0 ++ own A a c) := kk3.into k4 hys
        have hys4 : ∀ y ∈ ys', y ∈ ys0 ++ own A a c ∨ G y = none := kk3.grow hys hy4
        have nd4 : ∀ y ∈ ys', y ∉ own { A with pd := pd' } a c := fun y hy z => by
          rcases hy4 y hy with q | q
          · exact nd' y q z
          · exact own_alloc h3 st3 y z q
        refine i_wli (A := { A with pd := pd' }) h4 ⟨l, rfl, ?_⟩
        by_cases hv : v = cellD c0
        · have el : l = false := by rw [hl, hh]; simp [hv]
          subst el
          exact go ⟨True.intro, x5', _, n', x', r', ys', W', pd', false, rfl, by omega, T4, h4, st4, kk4, hys4, hpd, hne', by omega, nd4, fun z => (nomatch z), fun z => absurd z (hx1 hv)⟩
        · have el : l = true := by rw [hl, hh]; simp [hv]
          subst el
          obtain ⟨rfl, rfl⟩ := hx2 hv
          obtain ⟨fs4, nn4, w1, w2, w3, w4⟩ := TK.tk T4
          have hpos : 0 < lies := Nat.pos_of_ne_zero fun z => hv (by rw [hl0 z, hh])
          refine go (i_methR w1 (tab_req htk) (go ⟨t, k, fs4, _, rfl, w1, w2, go (i_ixT (j := 1) (ds := [.str "read", .int (b : Nat)]) (d := .int (b : Nat)) rfl (go (i_neP (pkd_refused b) (pkd_refused b) (go ?_))))⟩))
          refine i_iteN (fun z => absurd rfl z) fun _ => go ?_
          exact ⟨True.intro, x5', _, n', _, _, ys', W', pd', true, rfl, by omega, T4, h4, st4, kk4, hys4, hpd, hne', by omega, nd4, fun _ => rfl, fun _ => ⟨rfl, hpos⟩⟩
      · refine i_no hrd (go ?_)
        obtain ⟨W2, P, ans⟩ := TK.wr T2 hrd hd hr
        have hp2 := perf_al P hne'
        refine ⟨{ A with pd := pd' }, W', W2, false, x, r, rfl, h2, by omega, P, fun pd2 G3 h3 hpd2 k3 => go ?_⟩
        have h3 : WAt G3 { A with pd := pd2 } W2 false := h3
        have noA : ∀ y ∈ ys, y ∉ ({ A with pd := pd' } : WA).ys := fun y hy z => nd' y hy (by unfold own; simp [z])
        have st3 : St G3 a c := by
          have n2 := h2.st st2
          exact st2.keep k3 (by simp [WA.ys, n2.1.symm, n2.2.2.1.symm, n2.2.2.2.2.1.symm, off'.1.symm]) (by simp [WA.ys, n2.2.1.symm, n2.2.2.2.1.symm, n2.2.2.2.2.2.symm, off'.2.symm])
        have off3 : Off { A with pd := pd2 } a c := off
        have kk3 : Keep G G3 (ys0 ++ own A a c) := kk2.into k3 fun y hy => by
          simp only [WA.ys, List.mem_cons, List.not_mem_nil, or_false] at hy
          rcases hy with rfl | rfl | rfl | rfl
          · exact .inl (by simp [own, WA.ys])
          · exact .inl (by simp [own, WA.ys])
          · exact hpd
          · exact .inl (by simp [own, WA.ys])
        refine i_methR (k3 _ _ u1 (fun z => noA t (TK.self T2) z)) (tab_ans htk) (go ?_)
        refine i_alloc fun q G4 hq q4 k4 => go (i_draw (st3.keep k4 (by simp) (by simp)) (by decide) (by decide) fun z G5 z0 z1 st5 k5 => go ?_)
        have nqa : q ≠ a := fun z => own_alloc h3 st3 a (by simp [own]) (z ▸ hq)
        have nqc : q ≠ c := fun z => own_alloc h3 st3 c (by simp [own]) (z ▸ hq)
        have q5 : G5 q = some (.lst told) := k5 _ _ q4 (by simp [nqa, nqc])
        have hx : told[z.toNat]? = some (told[z.toNat]'(by show z.toNat < 3; omega)) := List.getElem?_eq_getElem _
        refine i_ixL q5 (atI_at z0 hx) (go ?_)
        have pv := told_pkd _ (List.mem_of_getElem? hx)
        have k45 : Keep G3 G5 [a, c] := (k4.trans k5).sub (by simp)
        have k25 : Keep G2 G5 (({ A with pd := pd' } : WA).ys ++ [a, c]) := k3.trans k45
        have kk5 : Keep G G5 (ys0 ++ own A a c) := kk3.into k45 fun y hy => .inl (by
          simp only [List.mem_cons, List.not_mem_nil, or_false] at hy
          rcases hy with rfl | rfl <;> simp [own])
        have h5 := h3.keep k45 (h3.off st3 off3)
        refine ans G5 _ k25 (fun y hy z => (List.mem_append.mp z).elim (noA y hy) (nac y hy)) _ _ pv fun G6 n' x' r' ys' hlt T6 hx6 k6 hy6 => go ?_
        have hys6 := kk5.grow hys hy6
        have noy : ∀ y ∈ own { A with pd := pd2 } a c, y ∉ ys := fun y hy z => by
          have : y ∈ own { A with pd := pd' } a c ∨ y = pd2 := by
            unfold own WA.ys at hy ⊢
            simp only [List.mem_cons, List.not_mem_nil, or_false] at hy ⊢
            rcases hy with h | h | h | h | h | h <;> simp [h]
          rcases this with h | rfl
          · exact nd' y z h
          · rcases hpd2 with e | e
            · exact nd' y z (by rw [e]; simp [own, WA.ys])
            · exact TK.alloc T2 y z e
        refine ⟨True.intro, x5', _, n', x', r', ys', W2, pd2, false, rfl, by omega, T6, h5.keep k6 fun y hy => noy y (by unfold own; simp [hy]), st5.keep k6 (noy a (by simp [own])) (noy c (by simp [own])), kk5.into k6 hys, hys6, ?_, hp2.1, by omega, fun y hy z => ?_, fun z => (nomatch z), fun z => absurd z hx6⟩
        · rcases hpd2 with e | e
          · rw [e]; exact hpd
          · by_cases hX : pd2 ∈ ys0 ++ own A a c
            · exact .inl hX
            · exact .inr (kk2.fresh e hX)
        · rcases hy6 y hy with q | q
          · exact noy y z q
          · exact own_alloc h5 st5 y z q
    by_cases hc : 0 < cut
    · refine go (i_yes (by omega) (go (i_draw st' (by omega) (by omega) fun z G2 z0 z1 st2 k2 => go ?_)))
      by_cases hz : z = 0
      · obtain ⟨h2, nac, T2, kk2⟩ := facts G2 k2
        refine i_yes hz (go ?_)
        exact (fin n x r ys W' pd' false G2 T2 h2 st2 kk2 hys hpd hne' hal' nd').2.2 hd hr rfl hc
      · refine i_no hz (go ?_)
        exact rest G2 k2 st2 _
    · refine go (i_no (by omega) (go ?_))
      exact rest G' (Keep.refl _ _) st' _
  · rintro σ G' _ ⟨x5, x6, n, x, r, ys, W', pd', l', rfl, hni, _⟩
    exfalso
    rw [List.length_map, List.length_range] at hni
    have : ((800 : Int)).toNat = 800 := rfl
    omega
theorem len_Ldrive (m : Gm) (ds : List D) (G : GH) (Q : GQ) (h : sp_Ldrive m ds G Q) : ds.length = 5 := by obtain ⟨a, c, t, A, W, l0, lies, cut, k, T, n0, x0, r0, ys0, rfl, _⟩ := h; rfl
end Cz

/-! CzTk: the program's talks, as drives see them. -/
namespace Cz
open PySem L2 Cz.K02
/-- the disk as an honest answer shows it -/
def hD (W : Wp) : Nat → Option D := fun b => (W.held b).map cellD
theorem hD_some {W : Wp} {b : Nat} {c : PCell} (h : hD W b = some (cellD c)) : W.held b = some c := mapCell_inj (b := some c) h
/-! ### talks that have ended -/
def endTk (t : Addr) (d : D) (W0 : Wp) : TkP := fun n x r ys W G => W = W0 ∧ ys = [t] ∧ n = 0 ∧ x = "done" ∧ r = [d] ∧ G t = some (.ins .talk [(.present, doneR d), (.answers, .int 0)])
theorem Tk.ended (m : Gm) (t : Addr) (d : D) (W0 : Wp) : Tk m t .talk (endTk t d W0) where
  tk h := by obtain ⟨_, _, _, rfl, rfl, h⟩ := h; exact ⟨_, 0, h, rfl, rfl, by exact (by decide : 2 < 50)⟩
  keep h k hd := by obtain ⟨hW, rfl, h1, h2, h3, h⟩ := h; exact ⟨hW, rfl, h1, h2, h3, k _ _ h (hd t (by simp))⟩
  alloc h := by
    obtain ⟨_, rfl, h1, h2, h3, h⟩ := h
    intro y hy
    rw [List.mem_singleton.mp hy, h]; exact fun z => nomatch z
  self h := by obtain ⟨_, rfl, _⟩ := h; simp
  rd h := by obtain ⟨_, _, _, z, _⟩ := h; exact absurd z (by decide)
  wr h _ hx _ := by obtain ⟨_, _, _, z, _⟩ := h; exact absurd z hx
/-! ### reads -/
def rdTk (t p s sd c : Addr) (S : Shp) (cs : List PCell) (root : Ent) (g : List Nat → List Nat) (i : Nat) (W0 : Wp) : TkP := fun n x r ys W G => W = W0 ∧ RdT t p s sd c S cs (hD W) root g i n x r ys G
theorem Tk.read {m : Gm} (hm : OkC m .read) (t p s sd c : Addr) (S : Shp) (cs : List PCell) (root : Ent) (g : List Nat → List Nat) (i : Nat) (W0 : Wp) : Tk m t .read (rdTk t p s sd c S cs root g i W0) where
  tk h := RdT.tk h.2
  keep h k hd := ⟨h.1, RdT.keep h.2 k hd⟩
  alloc h := RdT.alloc h.2
  self h := by obtain ⟨_, rfl, _⟩ := h; simp
  rd {n r ys W G} h := by
    obtain ⟨hW, h⟩ := h
    obtain ⟨e1, h1, h2, h3, nn, l, hl, hc, ht⟩ := id h
    rcases ht with ⟨_, a2, a3, a4, a5⟩ | ⟨_, _, _, z⟩
    · have hw := wayN_len S.f S.d i
      have hf : ∀ c ∈ wayN S.f S.d i, c < S.f := wayN_lt (by have := h1.2.f2; omega) _ _
      have GP := h3.path (ws := (wayN S.f S.d i).take l) (by rw [List.length_take]; omega) fun c hc => hf c (List.mem_of_mem_take hc)
      obtain ⟨c0, z1, z2⟩ := GP.on
      refine ⟨_, c0, a4, hD_some z2, fun v Q pv k => ?_⟩
      refine RdT.ans (tab := tab_go_on m) rfl hm h rfl pv fun b hb G' n' x' r' ho hn hlt hT2 k2 => ?_
      have eb : (pathE cs root ((wayN S.f S.d i).take l)).1 = b := by
        rw [a4] at hb
        injection hb with hb
        injection hb with hb
        omega
      rw [← eb] at ho hn
      exact k G' n' x' r' ys hlt ⟨hW, hT2⟩ (fun z => ho (by rw [z]; exact z2)) (fun z => hn (by rw [z2]; exact fun y => z (Option.some.inj y).symm)) k2 fun y hy => .inl hy
    · rcases z with ⟨z, _⟩ | z <;> exact absurd z (by decide)
  wr h h1 h2 h3 := by
    obtain ⟨_, e1, _, _, _, nn, l, hl, hc, ht⟩ := h
    rcases ht with ⟨z, _⟩ | ⟨_, _, _, z⟩
    · exact absurd z h1
    · rcases z with ⟨z, _⟩ | z
      · exact absurd z h2
      · exact absurd z h3
/-! ### scans -/
def scTk (t p s sd q se : Addr) (S : Shp) (cs : List PCell) (rs : List Ent) (W0 : Wp) : TkP := fun n x r ys W G => W = W0 ∧ ∃ asked, ScT t p s sd q se S cs (hD W) rs n x r ys asked G
theorem Tk.scan {m : Gm} (hm : OkC m .scan) (t p s sd q se : Addr) (S : Shp) (cs : List PCell) (rs : List Ent) (W0 : Wp) : Tk m t .scan (scTk t p s sd q se S cs rs W0) where
  tk h := by obtain ⟨_, _, h⟩ := h; exact h.tk
  keep h k hd := by obtain ⟨hW, a, h⟩ := h; exact ⟨hW, a, h.keep k hd⟩
  alloc h := by obtain ⟨_, _, h⟩ := h; exact h.alloc
  self h := by obtain ⟨_, _, h⟩ := h; exact h.ys6 t (by simp)
  rd {n r ys W G} h := by
    obtain ⟨hW, asked, h⟩ := h
    obtain ⟨h1, h2, h3, h4, nn, qu, a, sc, I, as, ht⟩ := id h
    rcases ht with ⟨_, a2, ⟨e, l, ha, a4⟩, a5⟩ | ⟨z, _⟩ | ⟨z, _⟩
    · obtain ⟨hl, g, gd⟩ := I.good _ (List.mem_of_getElem? ha)
      obtain ⟨c0, z1, z2⟩ := gd.on
      refine ⟨_, c0, a4, hD_some z2, fun v Q pv k => ?_⟩
      refine ScT.ans (tab := tab_go_on m) rfl hm h rfl pv fun b hb G' n' x' r' ys' asked' ho hn hlt hT2 k2 hy2 => ?_
      have eb : e.1 = b := by
        rw [a4] at hb
        injection hb with hb
        injection hb with hb
        omega
      rw [← eb] at ho hn
      refine k G' n' x' r' ys' hlt ⟨hW, asked', hT2⟩ (fun z => (ho (by rw [z]; exact z2)).1) (fun z => ?_) k2 hy2
      obtain ⟨y1, y2, _⟩ := hn (by
        show hD W e.1 ≠ some v
        rw [show hD W e.1 = some (cellD c0) from z2]; exact fun y => z (Option.some.inj y).symm)
      exact ⟨y1, y2⟩
    · exact absurd z (by decide)
    · exact absurd z (by decide)
  wr h h1 h2 h3 := by
    obtain ⟨_, asked, _, _, _, _, nn, qu, a, sc, I, as, ht⟩ := h
    rcases ht with ⟨z, _⟩ | ⟨z, _⟩ | ⟨z, _⟩
    · exact absurd z h1
    · exact absurd z h2
    · exact absurd z h3
/-! ### talks that change the anchor alone -/
def comD (an : D) : D := .tup [.str "committed", an]
def chTk (t rq : Addr) (an : D) (W0 : Wp) : TkP := fun n x r ys W G => ys = [t, rq] ∧ G rq = some (.lst [reqD "anchor" [an], doneR (comD an)]) ∧
  ((n = 1 ∧ x = "anchor" ∧ r = [an] ∧ W = W0 ∧ G t = some (.ins .change (chF rq (reqD "anchor" [an]) 0))) ∨ (n = 0 ∧ x = "done" ∧ r = [comD an] ∧ W = { W0 with an := an } ∧ G t = some (.ins .change (chF rq (doneR (comD an)) 1))))
theorem Tk.change {m : Gm} (hm : OkC m .change) (t rq : Addr) (an : D) (W0 : Wp) : Tk m t .change (chTk t rq an W0) where
  tk h := by
    obtain ⟨_, _, ⟨_, rfl, rfl, _, h⟩ | ⟨_, rfl, rfl, _, h⟩⟩ := h
    · exact ⟨_, 0, h, rfl, rfl, by exact (by decide : 3 < 50)⟩
    · exact ⟨_, 1, h, rfl, rfl, by exact (by decide : 3 < 50)⟩
  keep h k hd := by
    obtain ⟨rfl, h1, h⟩ := h
    refine ⟨rfl, k _ _ h1 (hd rq (by simp)), ?_⟩
    rcases h with ⟨a, b, c, d, e⟩ | ⟨a, b, c, d, e⟩
    · exact .inl ⟨a, b, c, d, k _ _ e (hd t (by simp))⟩
    · exact .inr ⟨a, b, c, d, k _ _ e (hd t (by simp))⟩
  alloc h := by
    obtain ⟨rfl, h1, h⟩ := h
    intro y hy
    simp only [List.mem_cons, List.not_mem_nil, or_false] at hy
    rcases hy with rfl | rfl
    · rcases h with ⟨_, _, _, _, e⟩ | ⟨_, _, _, _, e⟩ <;> rw [e] <;> exact fun z => nomatch z
    · rw [h1]; exact fun z => nomatch z
  self h := by obtain ⟨rfl, _⟩ := h; simp
  rd h := by
    obtain ⟨_, _, ⟨_, z, _⟩ | ⟨_, z, _⟩⟩ := h <;> exact absurd z (by decide)
  wr {n x r ys W G} h h1 h2 h3 := by
    obtain ⟨rfl, hq, ⟨rfl, rfl, rfl, rfl, ht⟩ | ⟨_, z, _⟩⟩ := h
    · refine ⟨{ W with an := an }, .inr (.inr ⟨rfl, an, rfl, rfl⟩), fun G1 xs k hd v Q pv q => ?_⟩
      have ht1 := k _ _ ht (hd t (by simp))
      have hq1 := k _ _ hq (hd rq (by simp))
      have ne : rq ≠ t := fun z => by rw [z, ht1] at hq1; cases hq1
      refine ⟨t, v, .change, _, "anchor", _, 0, _, rfl, ht1, rfl, by decide, by decide, rfl, rfl, hm _ (by decide), by exact (by decide : 3 < 100), rfl, ?_⟩
      refine ⟨t, rq, _, v, doneR (comD an), 1, _, rfl, set_same, by rw [set_ne ne]; exact hq1, rfl, ?_⟩
      rw [set_set]
      exact q _ 0 "done" [comD an] [t, rq] (by omega) ⟨rfl, by rw [set_ne ne]; exact hq1, .inr ⟨rfl, rfl, rfl, rfl, set_same⟩⟩ (by decide) (Keep.put.sub (by simp)) fun y hy => .inl hy
    · exact absurd z h2
end Cz

/-! CzTkC: commits, as drives see them. -/
namespace Cz
open PySem L2 Cz.K02
def Wp.writes (W : Wp) (ws : Dsk) : Wp := ws.foldl (fun W x => W.write x.1 x.2) W
theorem writes_take {W : Wp} {ws : Dsk} {j : Nat} {x : Nat × PCell} (h : ws[j]? = some x) : W.writes (ws.take (j + 1)) = (W.writes (ws.take j)).write x.1 x.2 := by
  rw [List.take_add_one, h]
  unfold Wp.writes
  rw [List.foldl_append]; rfl
/-- the world when j of the plan's requests are performed -/
def wN (W : Wp) (ws : Dsk) (an : D) (j : Nat) : Wp := if j ≤ ws.length then W.writes (ws.take j) else if j = ws.length + 1 then (W.writes ws).flush else { (W.writes ws).flush with an := an }
theorem reqD_inj {x y : String} {r q : List D} (h : reqD x r = reqD y q) : x = y ∧ r = q := by
  unfold reqD at h
  injection h with h
  injection h with h1 h2
  injection h1 with h1
  exact ⟨ofString_inj.mp h1, h2⟩
def Sz (st : PSt) : Prop := (∀ w es, st.I w = some es → es.length ≤ 100) ∧ ∀ x ∈ st.wr, pcSize x.2 ≤ 100
theorem Sz.place {st : PSt} (h : Sz st) (w : Way) (c : PCell) (b : Nat) (hc : pcSize c ≤ 100) : Sz (place st w c b) := by
  refine ⟨fun v es hv => ?_, fun x hx => ?_⟩
  · have hv : (if w ≠ [] ∧ v = w.dropLast then (st.I v).map fun es => es.set (w.getLastD 0) (newE st c b) else st.I v) = some es := hv
    split at hv
    · obtain ⟨e0, h1, rfl⟩ := Option.map_eq_some_iff.mp hv
      rw [List.length_set]; exact h.1 v e0 h1
    · exact h.1 v es hv
  · have hx : x ∈ st.wr ++ [(b, c)] := hx
    rcases List.mem_append.mp hx with hx | hx
    · exact h.2 x hx
    · rw [List.mem_singleton.mp hx]; exact hc
theorem Sz.planL {fr : Nat → Nat} : ∀ {l : List (Way × List Nat)} {st : PSt} {k : Nat}, Sz st → (∀ x ∈ l, x.2.length ≤ 100) → Sz (planL fr st k l)
  | [], _, _, h, _ => h
  | x :: l, _, k, h, hl => Sz.planL (l := l) (k := k + 1) (h.place x.1 (.leaf x.2) (fr k) (hl x List.mem_cons_self)) fun y hy => hl y (List.mem_cons_of_mem _ hy)
theorem Sz.planW {fr : Nat → Nat} : ∀ {l : List Way} {st : PSt} {k : Nat}, Sz st → Sz (planW fr st k l)
  | [], _, _, h => h
  | w :: l, st, k, h => Sz.planW (l := l) (k := k + 1) (h.place w _ (fr k) (by
      show ((st.I w).getD []).length ≤ 100
      cases e : st.I w with
      | none => exact Nat.zero_le _
      | some es => exact h.1 w es e))
theorem CmC.size {C : CmC} (ok : C.Ok) {cs : List PCell} {g : Way → List Nat} (f0 : 0 < C.S.f) (f4 : C.S.f ≤ 4) (H : Holds cs C.S.f C.S.d C.r0.2 g) : ∀ x ∈ (C.pl cs).wr, pcSize x.2 ≤ 100 := by
  have h0 : Sz (st0 C.S.f cs C.r0 C.ord) := by
    refine ⟨fun w es hw => ?_, fun _ h => nomatch h⟩
    have hw : (if w ∈ C.ord then some (kidsOf cs (pathE cs C.r0 w).2) else none) = some es := hw
    split at hw
    · rename_i hm
      cases hw
      obtain ⟨es, h1, h2, _⟩ := CmC.node_at H f0 hm
      rw [kids_node h1, h2]; omega
    · cases hw
  refine (Sz.planW (Sz.planL h0 fun x hx => ?_)).2
  unfold lvC at hx
  obtain ⟨i, hi, rfl⟩ := List.mem_map.mp hx
  obtain ⟨ws, h1, h2⟩ := getC_some (isC_mem.mp hi)
  show ((getC C.chg i).getD []).length ≤ 100
  rw [h1]
  exact ok.wl _ h2
/-- the plan's requests, one by one -/
theorem CmC.req_at {C : CmC} {cs : List PCell} {dn rst : List D} {x : String} {r : List D} (h : C.reqs cs = dn ++ reqD x r :: rst) :
    (∃ b c, (C.pl cs).wr[dn.length]? = some (b, c) ∧ x = "write" ∧ r = [.int (b : Nat), cellD c]) ∨ (dn.length = (C.pl cs).wr.length ∧ x = "flush" ∧ r = []) ∨ (dn.length = (C.pl cs).wr.length + 1 ∧ x = "anchor" ∧ r = [newAn C (C.e cs)]) ∨
    (dn.length = (C.pl cs).wr.length + 2 ∧ x = "done" ∧ r = [.tup [.str "committed", newAn C (C.e cs)]] ∧ rst = []) := by
  have hg : (C.reqs cs)[dn.length]? = some (reqD x r) := by rw [h]; simp
  have hl : (C.reqs cs).length = dn.length + 1 + rst.length := by rw [h]; simp; omega
  have hl2 : (C.reqs cs).length = (C.pl cs).wr.length + 3 := by
    unfold CmC.reqs lastR
    rw [List.length_append, List.length_map]; rfl
  unfold CmC.reqs at hg
  by_cases h1 : dn.length < (C.pl cs).wr.length
  · left
    rw [List.getElem?_append_left (by rw [List.length_map]; exact h1), List.getElem?_map, List.getElem?_eq_getElem h1] at hg
    have hg := reqD_inj (Option.some.inj hg)
    exact ⟨_, _, List.getElem?_eq_getElem h1, hg.1.symm, hg.2.symm⟩
  · right
    rw [List.getElem?_append_right (by rw [List.length_map]; omega), List.length_map] at hg
    have : dn.length - (C.pl cs).wr.length = 0 ∨ dn.length - (C.pl cs).wr.length = 1 ∨ dn.length - (C.pl cs).wr.length = 2 := by omega
    rcases this with e | e | e
    · rw [e] at hg
      have hg := reqD_inj (Option.some.inj hg)
      exact .inl ⟨by omega, hg.1.symm, hg.2.symm⟩
    · rw [e] at hg
      have hg := reqD_inj (Option.some.inj hg)
      exact .inr (.inl ⟨by omega, hg.1.symm, hg.2.symm⟩)
    · rw [e] at hg
      have hg := reqD_inj (Option.some.inj hg)
      exact .inr (.inr ⟨by omega, hg.1.symm, hg.2.symm, List.length_eq_zero_iff.mp (by omega)⟩)
theorem CmC.reqs_len {C : CmC} {cs : List PCell} : (C.reqs cs).length = (C.pl cs).wr.length + 3 := by
  unfold CmC.reqs lastR
  rw [List.length_append, List.length_map]; rfl
theorem CmC.reqs_req {C : CmC} {cs : List PCell} {y : D} (h : y ∈ C.reqs cs) : ∃ x r, y = reqD x r := by
  unfold CmC.reqs lastR at h
  rcases List.mem_append.mp h with h | h
  · obtain ⟨z, _, rfl⟩ := List.mem_map.mp h
    exact ⟨_, _, rfl⟩
  · simp only [List.mem_cons, List.not_mem_nil, or_false] at h
    rcases h with rfl | rfl | rfl <;> exact ⟨_, _, rfl⟩
theorem CmC.ord0 {C : CmC} (d0 : 0 < C.S.d) (ne : C.chg ≠ []) : C.ord[0]? = some [] := by
  obtain ⟨p, hp⟩ := List.exists_mem_of_ne_nil _ ne
  have hm : ([] : Way) ∈ C.ord := mem_ordW.mpr ⟨p.1, isC_mem.mpr (List.mem_map_of_mem hp), 0, d0, by simp⟩
  have hP := ordW_pair C.S.f C.S.d (isC C.chg)
  change C.ord.Pairwise _ at hP
  cases e : C.ord with
  | nil => rw [e] at hm; cases hm
  | cons a l =>
    rw [e] at hm hP
    rcases List.mem_cons.mp hm with h | h
    · rw [← h]; rfl
    · have := (List.pairwise_cons.mp hP).1 _ h
      have ha : a = [] := List.length_eq_zero_iff.mp (by
        rcases this with z | ⟨z, _⟩
        · exact absurd z (Nat.not_lt_zero _)
        · exact z)
      rw [ha]; rfl
def cmTk (m : Gm) (A : CmA) (C : CmC) (cs : List PCell) (W0 : Wp) : TkP := fun n x r ys W G =>
  TabsG m G ∧ ∃ (rq : Addr) (il : List (Way × Addr)) (nn : Int) (l : Nat) (rqs : List D) (st : PSt), ys = cmYs A rq il ++ m.tabs.map (·.1) ∧ CmAt G A rq il C (reqD x r) nn l rqs st ∧
   ((n = 0 ∧ W = W0 ∧ st = C.rd cs l ∧ rqs = [] ∧ ((x = "done" ∧ l = 0 ∧ ((C.chg = [] ∧ r = [comD C.an]) ∨ (C.chg ≠ [] ∧ C.fl.length < C.need ∧ r = [.tup [.str "full", .int (C.need : Nat)]]))) ∨ x = "refused")) ∨
    (C.chg ≠ [] ∧ C.need ≤ C.fl.length ∧ W = W0 ∧ st = C.rd cs l ∧ rqs = [] ∧ x = "read" ∧ (∃ w, C.ord[l]? = some w ∧ r = [.int (pathE cs C.r0 w).1]) ∧ n = (C.ord.length - l) + (C.reqs cs).length) ∨
    (C.chg ≠ [] ∧ C.need ≤ C.fl.length ∧ l = C.ord.length ∧ st = C.pl cs ∧ ∃ dn rst, C.reqs cs = dn ++ reqD x r :: rst ∧ rqs = rst.reverse ∧ n = rst.length ∧ W = wN W0 (C.pl cs).wr (newAn C (C.e cs)) dn.length))
theorem Tk.commit {m : Gm} (hm : OkC m .commit) (A : CmA) (C : CmC) (cs : List PCell) (W0 : Wp) (g : Way → List Nat) (gd : Good (hD W0) cs C.S.f C.S.d C.r0 g) (hcs : cs.length < 80000) (ok : C.Ok) (f0 : 0 < C.S.f) (f4 : C.S.f ≤ 4) : Tk m A.t .commit (cmTk m A C cs W0) where
  tk h := by
    obtain ⟨_, rq, il, nn, l, rqs, st, _, h, _⟩ := h
    exact ⟨_, nn, h.o, rfl, rfl, by exact (by decide : 12 < 50)⟩
  keep h k hd := by
    obtain ⟨T, rq, il, nn, l, rqs, st, rfl, h, hc⟩ := h
    exact ⟨fun y hy => k _ _ (T y hy) (hd _ (List.mem_append_right _ (List.mem_map_of_mem hy))), rq, il, nn, l, rqs, st, rfl, h.keep k fun y hy => hd y (List.mem_append_left _ hy), hc⟩
  alloc h := by
    obtain ⟨T, rq, il, nn, l, rqs, st, rfl, h, hc⟩ := h
    intro y hy
    rcases List.mem_append.mp hy with hy | hy
    · obtain ⟨o, h1, _⟩ := h.alloc y hy
      rw [h1]; exact fun z => nomatch z
    · obtain ⟨q, hq, rfl⟩ := List.mem_map.mp hy
      rw [T q hq]; exact fun z => nomatch z
  self h := by
    obtain ⟨T, rq, il, nn, l, rqs, st, rfl, h, hc⟩ := h
    simp [cmYs, CmA.ys]
  rd {n r ys W G} h := by
    obtain ⟨T, rq, il, nn, l, rqs, st, rfl, h, hc⟩ := h
    rcases hc with ⟨_, _, _, _, ⟨z, _⟩ | z⟩ | ⟨hne, hneed, rfl, rfl, rfl, _, ⟨w, hw, rfl⟩, rfl⟩ | ⟨_, _, _, _, dn, rst, z, _⟩
    · exact absurd z (by decide)
    · exact absurd z (by decide)
    rotate_left
    · rcases CmC.req_at z with ⟨_, _, _, z, _⟩ | ⟨_, z, _⟩ | ⟨_, z, _⟩ | ⟨_, z, _⟩ <;> exact absurd z (by decide)
    have hwm := List.mem_of_getElem? hw
    have hlt := (Tch.of_inner (CmC.ordm.mp hwm)).1.lt f0
    have hld := (Tch.of_inner (CmC.ordm.mp hwm)).2
    have GP := gd.path (ws := w) hlt.1 hlt.2
    obtain ⟨c0, z1, z2⟩ := GP.on
    have hl1 := (List.getElem?_eq_some_iff.mp hw).1
    refine ⟨_, c0, rfl, hD_some z2, fun v Q pv q => ?_⟩
    have h1 := h.put (pr' := reqD "read" [.int (pathE cs C.r0 w).1]) (n' := nn + 1) (a' := l)
    have kp : Keep G (G.set A.t (.ins .commit (cmF A rq (reqD "read" [.int (pathE cs C.r0 w).1]) (nn + 1) C.an l))) [A.t] := Keep.put
    have T1 := h.tabs T kp (by simp [cmYs, CmA.ys])
    refine ⟨A.t, v, .commit, _, "read", _, nn, _, rfl, h.o, rfl, by decide, by decide, rfl, rfl, hm _ (by decide), by exact (by decide : 12 < 100), rfl, ?_⟩
    change sp_commit_go_on m [.ref A.t, v] (G.set A.t (.ins .commit (cmF A rq (reqD "read" [.int (pathE cs C.r0 w).1]) (nn + 1) C.an l))) _
    generalize G.set A.t (.ins .commit (cmF A rq (reqD "read" [.int (pathE cs C.r0 w).1]) (nn + 1) C.an l)) = G1 at h1 kp T1
    refine ⟨A, rq, il, C, _, v, nn + 1, l, [], C.rd cs l, rfl, h1, .inl ⟨hl1, A, rq, il, C, _, v, nn + 1, l, cs, g, w, rfl, h1, T1, hcs, hneed, hne, ok.cl, gd.1, hw, pv, fun hk G' h2 k2 => ?_, fun hk => ⟨fun w' hw' a G' h2 k2 ha => ?_, fun hl2 a rq' G' rqs x hx h2 k2 ha hrq => ?_⟩⟩⟩
    · have hrl := CmC.reqs_len (C := C) (cs := cs)
      refine q G' 0 "refused" [.int (pathE cs C.r0 w).1] (cmYs A rq il ++ m.tabs.map (·.1)) (by omega) ⟨h1.tabs T1 k2 (by simp [cmYs, CmA.ys]), rq, il, _, l, [], _, rfl, h2, .inl ⟨rfl, rfl, rfl, rfl, .inr rfl⟩⟩ (fun z => ?_) (fun _ => ⟨rfl, rfl⟩) ((kp.trans k2).sub (by simp [cmYs, CmA.ys])) fun y hy => .inl hy
      rw [z, GP.on.known z2] at hk
      cases hk
    · have hv := (knows_cell GP.on hk).1
      rw [z2] at hv
      have hv := Option.some.inj hv
      have ha0 : G a = none := kp.fresh ha (by
        intro z
        rw [List.mem_singleton.mp z, h1.o] at ha; cases ha)
      refine q G' _ "read" [.int (pathE cs C.r0 w').1] (cmYs A rq (il ++ [(w, a)]) ++ m.tabs.map (·.1)) ?_ ⟨h1.tabs T1 k2 (fun _ z => z), rq, _, _, l + 1, [], _, rfl, h2, .inr (.inl ⟨hne, hneed, rfl, rfl, rfl, rfl, ⟨w', hw', rfl⟩, rfl⟩)⟩ (fun _ => by decide) (fun z => absurd hv.symm z) ?_ ?_
      · have := (List.getElem?_eq_some_iff.mp hw').1
        omega
      · exact (kp.trans k2).sub fun y hy => by
          rcases List.mem_append.mp hy with hy | hy
          · rw [List.mem_singleton.mp hy]; simp [cmYs, CmA.ys]
          · exact List.mem_append_left _ hy
      · intro y hy
        rcases List.mem_append.mp hy with hy | hy
        · unfold cmYs at hy ⊢
          simp only [List.map_append, List.mem_append, List.mem_cons, List.map_cons, List.map_nil, List.not_mem_nil, or_false] at hy ⊢
          rcases hy with hy | hy | hy | hy
          · exact .inl (.inl (.inl hy))
          · exact .inl (.inl (.inr (.inl hy)))
          · exact .inl (.inl (.inr (.inr hy)))
          · exact .inr (hy ▸ ha0)
        · exact .inl (List.mem_append_right _ hy)
    · have hv := (knows_cell GP.on hk).1
      rw [z2] at hv
      have hv := Option.some.inj hv
      have fr : ∀ a, G1 a = none → G a = none := fun a ha => kp.fresh ha (by
        intro z
        rw [List.mem_singleton.mp z, h1.o] at ha; cases ha)
      have hr : C.reqs cs = [] ++ x :: rqs.reverse := by
        have := congrArg List.reverse hx
        rw [List.reverse_reverse, List.reverse_append] at this
        simpa using this
      obtain ⟨x', r', rfl⟩ := CmC.reqs_req (C := C) (cs := cs) (y := x) (by rw [hr]; simp)
      have hrl := congrArg List.length hr
      rw [List.nil_append, List.length_cons] at hrl
      refine q G' _ x' r' (cmYs A rq' (il ++ [(w, a)]) ++ m.tabs.map (·.1)) ?_ ⟨h1.tabs T1 k2 (fun _ z => z), rq', _, _, l + 1, rqs, _, rfl, h2, .inr (.inr ⟨hne, hneed, hl2, rfl, [], rqs.reverse, hr, (List.reverse_reverse _).symm, rfl, ?_⟩)⟩ (fun _ => ?_) (fun z => absurd hv.symm z) ?_ ?_
      · omega
      · unfold wN
        rw [if_pos (show ([] : List D).length ≤ _ from Nat.zero_le _)]; rfl
      · rcases CmC.req_at hr with ⟨_, _, _, z, _⟩ | ⟨_, z, _⟩ | ⟨_, z, _⟩ | ⟨_, z, _⟩ <;> rw [z] <;> decide
      · exact (kp.trans k2).sub fun y hy => by
          rcases List.mem_append.mp hy with hy | hy
          · rw [List.mem_singleton.mp hy]; simp [cmYs, CmA.ys]
          · exact List.mem_append_left _ hy
      · intro y hy
        rcases List.mem_append.mp hy with hy | hy
        · unfold cmYs at hy ⊢
          simp only [List.map_append, List.mem_append, List.mem_cons, List.map_cons, List.map_nil, List.not_mem_nil, or_false] at hy ⊢
          rcases hy with hy | hy | hy | hy
          · exact .inl (.inl (.inl hy))
          · exact .inr (hy ▸ fr _ hrq)
          · exact .inl (.inl (.inr (.inr hy)))
          · exact .inr (hy ▸ fr _ ha)
        · exact .inl (List.mem_append_right _ hy)
  wr {n x r ys W G} h h1 h2 h3 := by
    obtain ⟨T, rq, il, nn, l, rqs, st, rfl, h, hc⟩ := h
    rcases hc with ⟨_, _, _, _, ⟨z, _⟩ | z⟩ | ⟨_, _, _, _, _, z, _⟩ | ⟨hne, hneed, rfl, rfl, dn, rst, hr, rfl, rfl, rfl⟩
    · exact absurd z h2
    · exact absurd z h3
    · exact absurd z h1
    have hsz := CmC.size ok f0 f4 gd.1
    refine ⟨wN W0 (C.pl cs).wr (newAn C (C.e cs)) (dn.length + 1), ?_, fun G1 xs k hd v Q pv q => ?_⟩
    · rcases CmC.req_at hr with ⟨b, c, z1, rfl, rfl⟩ | ⟨z1, rfl, rfl⟩ | ⟨z1, rfl, rfl⟩ | ⟨_, z, _⟩
      · have hlt := (List.getElem?_eq_some_iff.mp z1).1
        refine .inl ⟨rfl, b, c, rfl, hsz _ (List.mem_of_getElem? z1), ?_⟩
        unfold wN
        rw [if_pos (by omega), if_pos (by omega), writes_take z1]
      · refine .inr (.inl ⟨rfl, rfl, ?_⟩)
        unfold wN
        rw [if_neg (by omega), if_pos (by omega), if_pos (by omega), z1, List.take_length]
      · refine .inr (.inr ⟨rfl, _, rfl, ?_⟩)
        unfold wN
        rw [if_neg (by omega), if_neg (by omega), if_neg (by omega), if_pos (by omega)]
      · exact absurd z h2
    · have T1 : TabsG m G1 := fun y hy => k _ _ (T y hy) (hd _ (List.mem_append_right _ (List.mem_map_of_mem hy)))
      have h4 := h.keep k fun y hy => hd y (List.mem_append_left _ hy)
      cases rst with
      | nil =>
        exfalso
        have hl := congrArg List.length hr
        rw [CmC.reqs_len, List.length_append, List.length_singleton] at hl
        rcases CmC.req_at hr with ⟨b, c, z1, _⟩ | ⟨z1, _⟩ | ⟨z1, _⟩ | ⟨_, z, _⟩
        · have := (List.getElem?_eq_some_iff.mp z1).1
          omega
        · omega
        · omega
        · exact h2 z
      | cons y rst =>
        have hr2 : C.reqs cs = (dn ++ [reqD x r]) ++ y :: rst := by rw [hr]; simp
        obtain ⟨x', r', rfl⟩ := CmC.reqs_req (C := C) (cs := cs) (y := y) (by rw [hr2]; simp)
        have h5 := h4.put (pr' := reqD x r) (n' := nn + 1) (a' := C.ord.length)
        have kp : Keep G1 (G1.set A.t (.ins .commit (cmF A rq (reqD x r) (nn + 1) C.an C.ord.length))) [A.t] := Keep.put
        have T5 := h4.tabs T1 kp (by simp [cmYs, CmA.ys])
        refine ⟨A.t, v, .commit, _, x, r, nn, _, rfl, h4.o, rfl, h2, h3, rfl, rfl, hm _ (by decide), by exact (by decide : 12 < 100), rfl, ?_⟩
        change sp_commit_go_on m [.ref A.t, v] (G1.set A.t (.ins .commit (cmF A rq (reqD x r) (nn + 1) C.an C.ord.length))) _
        generalize G1.set A.t (.ins .commit (cmF A rq (reqD x r) (nn + 1) C.an C.ord.length)) = G2 at h5 kp T5
        rw [List.reverse_cons] at h5
        refine ⟨A, rq, il, C, _, v, nn + 1, C.ord.length, _, _, rfl, h5, .inr ⟨Nat.le_refl _, A, rq, il, C, _, nn + 1, C.ord.length, _, _, _, rfl, h5, fun G3 h6 k6 => ?_⟩⟩
        refine q G3 rst.length x' r' (cmYs A rq il ++ m.tabs.map (·.1)) (by rw [List.length_cons]; omega) ⟨h5.tabs T5 k6 (by simp [cmYs, CmA.ys]), rq, il, _, _, _, _, rfl, h6, .inr (.inr ⟨hne, hneed, rfl, rfl, dn ++ [reqD x r], rst, hr2, rfl, rfl, ?_⟩)⟩ ?_ ((kp.trans k6).sub (by simp [cmYs, CmA.ys])) fun y hy => .inl hy
        · rw [List.length_append, List.length_singleton]
        · rcases CmC.req_at hr2 with ⟨_, _, _, z, _⟩ | ⟨_, z, _⟩ | ⟨_, z, _⟩ | ⟨_, z, _⟩ <;> rw [z] <;> decide
end Cz

/-! CzExc2: defs that may end in the error; the class made in a try; the error caught. -/
namespace Cz
open PySem PySem.Spec PyProof.Rows L2
section
variable {P : Program} {w : World} {K : PySem.W.Frag} {mg : Str → Option Value} {base : Heap} {m : Gm} {C : Addr}
/-- THE RULE for a def that may end in the error -/
theorem fn_okX {x qual : Str} {params : Arguments} {body : List Stmt} {scope : Scope} {dvs : List V} {kws : List (Str × V)} {f : Addr} {fd : FuncData} {N ps : List Str} {k : Nat} {sp : GSpX} {t : GSX} (F : FunD K x qual params body scope dvs kws f fd) (S : FnScope N ps scope)
    (len : ∀ ds G Q W, sp ds G Q W → ds.length = ps.length)
    (hb : ∀ (cdv : Value) (A : Around) (outer : List Env) (s : Shared) (H : Hp) (E : XK), Room k (A.deeper (envOfC qual scope s.heap.objs.size f cdv)) → QBX m (cxOf (L2.CX P w) P w K mg base N qual scope f cdv A outer s H E) C body t)
    (rd : ∀ ds G Q W, sp ds G Q W → t W (bodyEnds Q) (gstart N ds) G) : FnOk P w K mg base (L2.CX P w) (k + 1) f fd ps (lowX w K m C sp) := by
  refine F.ok S (fun vs H Q E ⟨ds, G, Qg, Wg, hd, _, h, _⟩ => by rw [← hd.length]; exact len ds G Qg Wg h) fun cdv A outer s H vs Q E hr ⟨ds, G, Qg, Wg, hd, Cc, h, hq, hw⟩ => ?_
  have tk0 : Takes (cxOf (L2.CX P w) P w K mg base N qual scope f cdv A outer s H E) (fun cls d _ H => E cls d H) := takes_of rfl rfl rfl rfl
  have tk : Takes (cxOf (L2.CX P w) P w K mg base N qual scope f cdv A outer s H E) (XW m (cxOf (L2.CX P w) P w K mg base N qual scope f cdv A outer s H E) C H Wg) := tk0.imp fun c d σ H' ⟨e, n, dx, H1, G1, a, b, c', k', C', hw'⟩ => by
    subst e a c'
    exact hw n G1 H1 dx k' C' hw' b
  refine ⟨wB (cxOf (L2.CX P w) P w K mg base N qual scope f cdv A outer s H E) body, wB_pss _, ?_⟩
  exact wB_mono ((hb cdv A outer s H E hr).run (L2.start N vs) H (gstart N ds) G (bodyEnds Qg) Wg (sl_start hd) Cc tk (rd ds G Qg Wg h)) ⟨fun τ H' ⟨σ, G', k', S', C', q⟩ => hq .non G' .non H' k' C' (dat_non.mpr rfl) q, fun v H' ⟨d, G', k', C', hd', q⟩ => hq d G' v H' k' C' hd' q, fun _ _ ⟨_, _, _, _, _, q⟩ => q, fun _ _ ⟨_, _, _, _, _, q⟩ => q⟩
end
/-! ### C(k = v, ..), what its __init__ raises wished for at the slots -/
section
variable {X : Cx} {CX : CXT} {k n : Nat} {f C : Addr} {fd : FuncData} {ps ks : List Str} {sp : Sp} {E : L2.St → XK} {x : Str} {p pos : Pos} {kws : List Keyword} {tk : TA} {g : List Value → List Value → List Value} {gV : List V → List V → List V}
theorem run_makeKS {pins : List (Addr × Obj)} {σ : L2.St} {H : Hp} {s : Shared} {Q : VK} {us ws : List Value} {vs zs : List V} (M : Mk X.K C f) (F : FnOk X.prog X.w X.K X.mg X.base CX k f fd ps sp) (hr : Room (k + 1) X.A) (hb : KBn X.K fd ps (n + 1) ks g gV) (hx : PassesAt CX X σ (E σ))
    (I : Inv X pins σ H s) (r : Vals vs us) (rz : Vals zs ws) (l1 : vs.length = n) (l2 : zs.length = ks.length)
    (h : ∀ x dx, H x = none → H dx = none → dx ≠ x → sp (gV (.ref x :: vs) zs) (upd (upd H dx (.own x)) x (.ins C dx [])) (fun v H2 => v = .non ∧ Q (.ref x) H2) (E σ)) :
    wpAny (model X.prog X.w) X.A (call (.ref C) us (ks.zip ws)) (EP X pins σ Q) X.xe s := by
  have hq := h (s.heap.objs.size + 1) s.heap.objs.size (I.hok.fresh (Nat.le_succ _)) (I.hok.fresh (Nat.le_refl _)) (Nat.ne_of_lt (Nat.lt_succ_self _))
  have I2 := Inv.made (C := C) I
  have r1 : Vals (V.ref (s.heap.objs.size + 1) :: vs) (Value.ref (s.heap.objs.size + 1) :: us) := .cons rfl r
  have r2 := hb.rel r1 rz
  have n1 : (Value.ref (s.heap.objs.size + 1) :: us).length = n + 1 := by
    rw [List.length_cons, ← r.length, l1]
  refine wpAny_call (make_map (f := f) I.kIn M.makes M.init (beq_iff_eq.mp M.fn) (codeAny_mono (F.run _ X.stack _ _ ⟨Value.ref (s.heap.objs.size + 1) :: us, ks.zip ws⟩ (g (Value.ref (s.heap.objs.size + 1) :: us) ws) _ _ (E σ) (hr.make C us (ks.zip ws))
    (I2.env0.make C us (ks.zip ws)) (hb.to _ (Value.ref (s.heap.objs.size + 1) :: us) ws I2.kIn n1 (rz.length.symm.trans l2)) r2 hq) fun r s' hq' => ?_))
  cases r with
  | error e => exact hx pins _ _ e s' I2 hq'
  | ok fl =>
    cases fl with
    | ret u =>
      obtain ⟨v, H', I3, rv, ev, q3⟩ := I2.after hq'
      subst ev
      exact ⟨rv, ⟨V.ref (s.heap.objs.size + 1), H', I3, rfl, q3⟩⟩
    | next => exact False.elim hq'
    | brk => exact False.elim hq'
    | cont => exact False.elim hq'
theorem pe_makeKS (M : Mk X.K C f) (F : FnOk X.prog X.w X.K X.mg X.base CX k f fd ps sp) (hr : Room (k + 1) X.A) (hg : Gl X x) (hm : X.mg x = some (.ref C)) (hb : KBn X.K fd ps 1 ks g gV) (hx : ∀ σ, PassesAt CX X σ (E σ)) (hkw : L2.PK X kws tk)
    (hall : (backToKw pos (keywordEach kws X.env)).all (·.1.isSome) = true := by rfl) (hks : (backToKw pos (keywordEach kws X.env)).filterMap (·.1) = ks := by rfl) (hdb : (x == ("__debug__" : Str)) = false := by decide)
    (hpl : ((backTo pos (starEach [] X.env)).any (·.1) || (backToKw pos (keywordEach kws X.env)).any (·.1.isNone)) = false := by rfl) :
    PE X (.Call (.Name x p) [] kws pos) (fun σ H Q => tMakeK C 0 ks.length sp gV (E σ) tNil tk σ H Q) := by
  refine ⟨fun pins s σ H Q I h => ?_⟩
  refine wpAny_Call_Name_kw (ld_glob I hg hm ?_ hdb)
  refine PySem.W.callWith_KW0 (h₀ := X.base) I.ok.mod.kin M.kp hall ?_ hpl
  refine thn (hkw.run pos pins s σ H _ I h) fun ws s2 ⟨zs, H2, I2, rz, l1, l2, q2⟩ => ⟨I2.kIn, ?_⟩
  rw [hks]
  exact run_makeKS (us := []) (vs := []) M F hr hb (hx σ) I2 .nil rz rfl l2 q2
end
def GMkX (P : Program) (w : World) (K : PySem.W.Frag) (mg : Str → Option Value) (base : Heap) (m : Gm) (Ce : Addr) (k : Nat) (x : Str) (c : Cl) (ks : List Str) (sp : GSpX) : Prop :=
  ∃ (f : Addr) (fd : FuncData) (ps : List Str) (sp' : GSpX) (g : List Value → List Value → List Value) (gV : List V → List V → List V) (gD : List D → List D), FnOk P w K mg base (L2.CX P w) k f fd ps (lowX w K m Ce sp') ∧ Mk K (m.cls c) f ∧ mg x = some (.ref (m.cls c)) ∧ KBn K fd ps 1 ks g gV ∧
    (∀ (p : Addr) (H : Hp) (ds : List D) (vs : List V), ds.length = ks.length → All2 (Dat K H) ds vs → All2 (Dat K H) (gD (.ref p :: ds)) (gV [.ref p] vs)) ∧ ∀ p ds G Q W, sp (.ref p :: ds) G Q W → ds.length = ks.length ∧ sp' (gD (.ref p :: ds)) G Q W
/-! ### the error in the suite -/
section
variable {m : Gm} {X : Cx} {C B f a : Addr} {oe : Obj} {cls : Value} {d : Option Addr} {pn : List (Addr × Obj)} {i : Nat} {n : Str} {p p1 p2 pos : Pos} {arg : Expr} {v : V} {u : Value}
/-- what the suite's readings ask -/
def SuE (C a : Addr) (cls : Value) (d : Option Addr) (i : Nat) (σ : L2.St) (H : Hp) (nm : Str) : Prop := cls = .ref C ∧ (∃ dx, d = some dx ∧ H dx = some (xdN nm)) ∧ σ[i]? = some (some (.ref a))
theorem pe_isiE (T : ExC X.K X.mg C B f) (hz : Zc cls d oe) (hf : ∃ vs, oe.data = .fields vs) (hg : Gl (X.suite a ((a, oe) :: pn)) "isinstance") (hm : X.mg "isinstance" = none) (hn : PE (X.suite a ((a, oe) :: pn)) (.Name n p1) (tVar i)) (ha : PE (X.suite a ((a, oe) :: pn)) arg (tC v)) (hv : ∀ u', RelV v u' → u' = u) (hk : PySem.W.kitOne X.K (.ref C) u = some true)
    (hpa : PA (X.suite a ((a, oe) :: pn)) [.Name n p1, arg] (tCons (tVar i) (tCons (tC v) tNil)))
    (he : starEach [.Name n p1, arg] X.env = (false, eval (.Name n p1) X.env) :: starEach [arg] X.env := by rfl) (hpl : (backTo pos (starEach [arg] X.env)).any (·.1) = false := by rfl) :
    PE (X.suite a ((a, oe) :: pn)) (.Call (.Name "isinstance" p) [.Name n p1, arg] [] pos) (fun σ H Q => (∃ nm, SuE C a cls d i σ H nm) ∧ Q (.bl true) H) := by
  refine ⟨fun pins s σ H Q I ⟨⟨nm, ec, ⟨dd, ed, ea⟩, hi⟩, q⟩ => ?_⟩
  refine wpAny_Call_Name_kw (ld_blt I hg hm PyProof.Rows.boot_isinstance ?_)
  refine PyProof.Rows.callWith_builtin1 (thn (hpa.run pos pins s σ H (fun vs H1 => vs = [.ref a, v] ∧ H = H1) I ⟨_, hi, rfl, rfl⟩) fun us s1 ⟨vs, H1, I1, r1, ev, eH⟩ => ?_) he hpl
  subst ev eH ec ed
  cases r1 with
  | @cons _ ua _ _ ra r2 =>
    cases r2 with
    | @cons _ uv _ _ rv r3 =>
      cases r3
      obtain rfl : ua = Value.ref a := ra
      have eu := hv uv rv
      subst eu
      obtain ⟨hoe, _⟩ := I1.pin (a, oe) (List.mem_append_left _ List.mem_cons_self)
      obtain ⟨fv, hd⟩ := hf
      obtain ⟨mA, hns, _⟩ : ObjOk X.prog X.w H s1.heap dd (xdN nm) := I1.hok dd _ ea
      obtain ⟨od, ho, hl⟩ := lookIn_ns hns
      have J : PySem.W.InstAt s1.heap a oe C (some od) := ⟨hoe, hz.1, by unfold PySem.W.notCls; rw [hd] <;> rfl, by rw [hz.2]; exact ho⟩
      exact PySem.W.kia_one (PySem.W.kitx_exc T.cl T.xf.ga T.xf.gg T.xf.exC T.ca T.cg T.ct T.co) I1.kIn J hk (fun z => nomatch z) fun tk2 => ⟨.bl true, H, I1.kept (t' := tk2) fun b o e => e, rfl, q⟩
end
end Cz

/-! CzExc3: try: return C(..) except ShapeError as e: .. -/
namespace Cz
open PySem PySem.Spec PyProof.Rows L2
/-- what the suite does with the error at a -/
def tSuite (C : Addr) (i : Nat) : Addr → Value → Option Addr → TS := fun a cls d D σ H => ∃ nm, SuE C a cls d i σ H nm ∧ ∀ tp, H tp = none → D.rt (.ref tp) (upd H tp (.tup [.str "error", .str nm]))
section
variable {m : Gm} {X : Cx} {C B f a : Addr} {oe : Obj} {cls : Value} {d : Option Addr} {pn : List (Addr × Obj)} {i : Nat} {n : Str} {q1 q2 q3 q4 q5 q6 q7 q8 q9 q10 q11 q12 q13 q14 q15 q16 q17 q18 : Pos} {j1 j2 j3 : Nat}
theorem suite_ok (T : ExC X.K X.mg C B f) (hz : Zc cls d oe) (hf : ∃ vs, oe.data = .fields vs) (hg : Gl (X.suite a ((a, oe) :: pn)) "isinstance") (hm : X.mg "isinstance" = none) (hgB : Gl (X.suite a ((a, oe) :: pn)) "CaissonError") (hgV : Gl (X.suite a ((a, oe) :: pn)) "ValueError") (hmV : X.mg "ValueError" = none) (hn : ∀ p, PE (X.suite a ((a, oe) :: pn)) (.Name n p) (tVar i)) {wrong : Expr} {k k2 : Nat}
    (hp1 : ∀ arg v, PE (X.suite a ((a, oe) :: pn)) arg (tC v) → starEach [.Name n q2, arg] X.env = (false, eval (.Name n q2) X.env) :: starEach [arg] X.env → starEach [arg] X.env = (false, eval arg X.env) :: starEach [] X.env → True := fun _ _ _ _ _ => True.intro)
    (hb : attributeBase (.Name n q15) "name" X.env (eval (.Name n q15) X.env) = eval (.Name n q15) X.env := by rfl)
    (he1 : starEach [.Name n q2, .Name "CaissonError" q3] X.env = (false, eval (.Name n q2) X.env) :: starEach [.Name "CaissonError" q3] X.env := by rfl) (he2 : starEach [.Name "CaissonError" q3] X.env = (false, eval (.Name "CaissonError" q3) X.env) :: starEach [] X.env := by rfl) (hpl1 : (backTo q4 (starEach [.Name "CaissonError" q3] X.env)).any (·.1) = false := by rfl)
    (he3 : starEach [.Name n q7, .Name "ValueError" q8] X.env = (false, eval (.Name n q7) X.env) :: starEach [.Name "ValueError" q8] X.env := by rfl) (he4 : starEach [.Name "ValueError" q8] X.env = (false, eval (.Name "ValueError" q8) X.env) :: starEach [] X.env := by rfl) (hpl2 : (backTo q9 (starEach [.Name "ValueError" q8] X.env)).any (·.1) = false := by rfl)
    (he5 : starEach [.Constant (.str "error") k q14, .Attribute (.Name n q15) "name" q16] X.env = (false, eval (.Constant (.str "error") k q14) X.env) :: starEach [.Attribute (.Name n q15) "name" q16] X.env := by rfl) (he6 : starEach [.Attribute (.Name n q15) "name" q16] X.env = (false, eval (.Attribute (.Name n q15) "name" q16) X.env) :: starEach [] X.env := by rfl)
    : PSs (X.suite a ((a, oe) :: pn)) [.If (.BoolOp .Or [.UnaryOp .Not (.Call (.Name "isinstance" q1) [.Name n q2, .Name "CaissonError" q3] [] q4) q5, .UnaryOp .Not (.Call (.Name "isinstance" q6) [.Name n q7, .Name "ValueError" q8] [] q9) q10] q11) [.Return (some wrong) q12] [] q13, .Return (some (.Tuple [.Constant (.str "error") k q14, .Attribute (.Name n q15) "name" q16] k2 q17)) q18] (tSuite C i a cls d) := by
  have pB : PE (X.suite a ((a, oe) :: pn)) (.Name "CaissonError" q3) (tC (.ref B)) := pe_glob (v := .ref B) hgB T.gB rfl
  have pV : PE (X.suite a ((a, oe) :: pn)) (.Name "ValueError" q8) (tC (.ty "ValueError")) := pe_bltn (v := .ty "ValueError") hgV hmV PyProof.Rows.Boot.«ValueError» rfl (by decide)
  have i1 := pe_isiE (p := q1) (p1 := q2) (pos := q4) (i := i) (n := n) (v := .ref B) (u := .ref B) T hz hf hg hm (hn q2) pB (fun u' h => h) T.kB (pa_cons (hn q2) (pa_cons pB pa_nil he2) he1) he1 hpl1
  have i2 := pe_isiE (p := q6) (p1 := q7) (pos := q9) (i := i) (n := n) (v := .ty "ValueError") (u := .type "ValueError") T hz hf hg hm (hn q7) pV (fun u' h => h) T.kV (pa_cons (hn q7) (pa_cons pV pa_nil he4) he3) he3 hpl2
  have pN := pe_xf (pos := q16) (n := "name") T.xf T.noN hz hf (hn q15) hb
  have t1 := (pw_or (pos := q11) (pt_not (pos := q5) (pt_val i1 (by intro _; rfl))) (pw_or1 (pos := q11) (pt_not (pos := q10) (pt_val i2 (by intro _; rfl))))).pt
  refine ⟨fun pins s σ H D I ⟨nm, hs, hq⟩ => ?_⟩
  have pR : PS (X.suite a ((a, oe) :: pn)) (.Return (some wrong) q12) (fun _ _ _ => False) := ⟨fun pins s σ H D I h => h.elim⟩
  refine (pss_cons (ps_if t1 (pss_one pR) pss_nil) (pss_one (ps_ret (pe_tup (x1 := k2) (pos := q17) (pa_cons pe_str (pa_cons pN pa_nil he6) he5))))).run pins s σ H D I ?_
  obtain ⟨ec, ⟨dx, ed, ea⟩, hi⟩ := id hs
  refine ⟨⟨nm, hs⟩, ⟨_, rfl, ?_⟩⟩
  refine ⟨⟨nm, hs⟩, ⟨_, rfl, ?_⟩⟩
  refine ⟨_, hi, rfl, ec, dx, _, .str nm, ed, ea, rfl, ?_⟩
  exact ⟨by show 2 ≤ sizeLine; decide, fun tp htp => hq tp htp⟩
end
end Cz

/-! CzExc4: the try that makes a class. -/
namespace Cz
open PySem PySem.Spec PyProof.Rows L2
theorem takesNo {X : Cx} : Takes X (fun _ _ _ _ => False) := fun _ _ x => by
  obtain ⟨_, _, _, _, _, _, _, _, _, _, _, _, _, _, _, _, w⟩ := x
  exact w.elim
def gTryM (c : Cl) (sp : GSpX) (ga : GA) (i : Nat) : GS := fun D σ G => i < σ.length ∧ ga σ G fun ds G1 => ∀ p, G1 p = none → sp (.ref p :: ds) (G1.set p (.ins c [])) (fun d G2 => d = .non ∧ D.rt (.ref p) G2) (fun n G2 => D.rt (.tup [.str "error", .str n]) G2)
section
variable {m : Gm} {X : Cx} {Ce B f : Addr} {i k nn : Nat} {n x : Str} {c : Cl} {ks : List Str} {sp : GSpX} {kws : List Keyword} {ga : GA} {p pos rp np hp tp : Pos} {b0 : Stmt} {suite : List Stmt}
theorem qs_try (T : ExC X.K X.mg Ce B f) (hs : X.stack = X.env :: X.outer) (hfr : X.env.frame = some X.env.locals) (hN : X.N.Nodup) (hi : X.N[i]? = some n) (hln : X.env.kindOf n = some .local) (hgE : Gl X "ShapeError")
    (F : GMkX X.prog X.w X.K X.mg X.base m Ce k x c ks sp) (hr : Room nn X.A) (hle : k + 1 ≤ nn) (hg : Gl X x) (ha : ∀ pn xe, QK m (X.tr pn xe) kws ga)
    (hsu : ∀ (a : Addr) (oe : Obj) (cls : Value) (d : Option Addr) (pn : List (Addr × Obj)), Zc cls d oe → (∃ vs, oe.data = .fields vs) → PSs (X.suite a ((a, oe) :: pn)) (b0 :: suite) (tSuite Ce i a cls d))
    (hall : (backToKw pos (keywordEach kws X.env)).all (·.1.isSome) = true := by rfl) (hks : (backToKw pos (keywordEach kws X.env)).filterMap (·.1) = ks := by rfl) (hdb : (x == ("__debug__" : Str)) = false := by decide)
    (hpl : ((backTo pos (starEach [] X.env)).any (·.1) || (backToKw pos (keywordEach kws X.env)).any (·.1.isNone)) = false := by rfl) :
    QS m X (.Try [.Return (some (.Call (.Name x p) [] kws pos)) rp] [.ExceptHandler (some (.Name "ShapeError" np)) (some n) (b0 :: suite) hp] [] [] tp) (gTryM c sp ga i) := ⟨fun τ H σ G D S Cc q => by
  have PT := ps_try_as (X := X) (x := "ShapeError") (n := n) (c := .ref Ce) (i := i) (np := np) (pos := tp) (pos' := hp) (body := [.Return (some (.Call (.Name x p) [] kws pos)) rp]) (suite := suite) (b₀ := b0) (tb := fun W D σ H => ∀ pn xe, Takes (X.tr pn xe) W → wB (X.tr pn xe) [.Return (some (.Call (.Name x p) [] kws pos)) rp] D σ H)
    (ts := tSuite Ce i) (Wout := fun _ _ _ _ => False) hs hfr hN hi hln ⟨hgE, by decide, .inl T.gC⟩ takesNo (fun W pn xe tk _ => ⟨fun pins s σ H D I h => h pn xe tk pins s I⟩) hsu
  refine wS_of PT ?_
  intro pn xe tk
  obtain ⟨f', fd, ps, sp', g, gV, gD, F, M, hm, hb, hrel, hsp⟩ := F
  obtain ⟨hlt, q⟩ := q
  refine wB_of (pss_one (ps_ret (wE_pe _))) ?_
  show wE (X.tr pn xe) (.Call (.Name x p) [] kws pos) τ H (LQ m X H D.rt)
  refine wE_of (pe_makeKS (X := X.tr pn xe) (CX := L2.CX X.prog X.w) (E := WE (wAs X.K (.ref Ce) i (tSuite Ce i) (fun _ _ _ _ => False) (LD m X H D))) M F (hr.mono hle) hg hm hb (fun σ => passAt tk σ) (wK_pk kws) hall hks hdb hpl) ?_
  intro pos2 pins s I
  refine thn ((ha pn xe).run τ H σ G _ S Cc q pos2 pins s I) fun us s1 ⟨vs, H1, I1, r1, ds, G1, k1, C1, d1, q1⟩ => ⟨vs, H1, I1, r1, ?_⟩
  have hsz : ds.length = ks.length := (hsp s1.heap.objs.size ds _ _ _ (q1 s1.heap.objs.size (Cpl.free (w := X.w) C1 (I1.hok.fresh (Nat.le_refl _))))).1
  refine ⟨rfl, by rw [← d1.length]; exact hsz, fun a dx na ndx ne => ?_⟩
  have k2 := KeepT.new (o := HO.own a) ndx
  have na2 : upd H1 dx (.own a) a = none := by rw [upd_ne ne.symm]; exact na
  have k3 := k2.trans (KeepT.new (o := HO.ins (m.cls c) dx []) na2)
  have C1' : Cp m X H1 G1 := C1
  have C2 : Cp m X (upd (upd H1 dx (.own a)) a (.ins (m.cls c) dx [])) (G1.set a (.ins c [])) :=
    (C1'.ext ndx).upd (o := .ins c []) (KeepT.new na2) ⟨dx, [], upd_same, .nil, fun _ z => (nomatch z)⟩
  refine ⟨gD (.ref a :: ds), _, _, _, hrel a _ ds vs hsz (all_keep k3 d1), C2, (hsp a ds _ _ _ (q1 a (C1'.free na))).2, fun d G' v H' k' C' hd' ⟨e1, q2⟩ => ?_, fun n' G' H' dx' k' C' hw hdx => ?_⟩
  · subst e1
    exact ⟨dat_non.mp hd', .ref a, G', (k1.trans k3).trans k', C', dat_ref.mpr rfl, q2⟩
  · have hlt2 : i < τ.length := by rw [← S.length]; exact hlt
    refine ⟨true, T.te, fun _ a2 ha2 => ⟨n', ⟨rfl, ⟨dx', rfl, upd_same⟩, List.getElem?_set_self hlt2⟩, fun tp htp => ?_⟩, fun z => nomatch z⟩
    have C3 : Cp m X H' G' := C'
    exact ⟨.tup [.str "error", .str n'], G', (((k1.trans k3).trans k').trans (KeepT.new hdx)).trans (KeepT.new htp), (C3.ext hdx).ext htp, dat_tup.mpr ⟨tp, _, rfl, upd_same, .cons (dat_str.mpr rfl) (.cons (dat_str.mpr rfl) .nil)⟩, hw⟩⟩
end
end Cz

/-! k01: the law's own promises. -/
namespace Cz.K01
open PySem PySem.Spec PyProof.Rows L2 Cz
def okF (f : Nat) : Prop := 2 ≤ f ∧ f ≤ 4
def okD (f d : Nat) : Prop := 1 ≤ d ∧ d ≤ 6 ∧ f ^ d ≤ 64
def okW (w : Nat) : Prop := 1 ≤ w ∧ w ≤ 4
def okB (d b : Nat) : Prop := d + 1 ≤ b ∧ b ≤ 1000
def okS (s : Int) : Prop := 0 ≤ s ∧ s ≤ 3
instance (f : Nat) : Decidable (okF f) := by unfold okF; infer_instance
instance (f d : Nat) : Decidable (okD f d) := by unfold okD; infer_instance
instance (w : Nat) : Decidable (okW w) := by unfold okW; infer_instance
instance (d b : Nat) : Decidable (okB d b) := by unfold okB; infer_instance
instance (s : Int) : Decidable (okS s) := by unfold okS; infer_instance
/-- the names of the numbers that are out of range -/
def bads (f d w b : Nat) (s : Int) : List Str := (if okF f then ([] : List Str) else [Str.ofString "fanout"]) ++ ((if okD f d then ([] : List Str) else [Str.ofString "depth"]) ++ ((if okW w then ([] : List Str) else [Str.ofString "words"]) ++ ((if okB d b then ([] : List Str) else [Str.ofString "blocks"]) ++ (if okS s then ([] : List Str) else [Str.ofString "snapshots"]))))
def shp (f d w b : Nat) (s : Int) : Shp := ⟨f, d, w, b, s.toNat⟩
def spx_require : GSpX := fun ds G Q W => ∃ b n, ds = [.bl b, .str n] ∧ (b = true → Q .non G) ∧ (b = false → W n G)
def spx_shape : GSpX := fun ds G Q W => ∃ (p : Addr) (f d w b : Nat) (s : Int), ds = [.ref p, .int f, .int d, .int w, .int b, .int s] ∧ G p = some (.ins .shape []) ∧ (∀ n, (bads f d w b s).head? = some n → W n G) ∧
  (bads f d w b s = [] → ∀ G', ShAt G' p (shp f d w b s) → Keep G G' [p] → Q .non G')
def sp_shape_init_kw4 : GSp := fun ds G Q => ∃ p S, ds = [.ref p, .int (Shp.f S : Nat), .int S.d, .int S.w, .int S.b] ∧ S.s = 0 ∧ S.Ok ∧ G p = some (.ins .shape []) ∧ ∀ G', ShAt G' p S → Keep G G' [p] → Q .non G'
def sp_shape_ample (m : Gm) : GSp := fun ds G Q => ∃ p S, ds = [.ref p] ∧ ShAt G p S ∧ ∀ G', Keep G G' [] → Q (.int ((ampleN S.f S.d S.s : Nat) : Int)) G'
def tab_ample (m : Gm) : Cl → Option GSp := fun c => match c with
  | .shape => some (sp_shape_ample m)
  | _ => none
def sp_Lnear (m : Gm) : GSp := fun ds G Q => ∃ (a c : Addr) (l g : Int), ds = [.ref a, .int l, .int g] ∧ St G a c ∧ l ≤ g ∧ -100 ≤ l ∧ g ≤ 100000 ∧ ∀ r G', l - 1 ≤ r → r ≤ g + 1 → St G' a c → Keep G G' [a, c] → Q (.int r) G'
def powsD (f d : Nat) : List D := (List.range (d + 1)).map fun l : Nat => D.int ((f ^ l : Nat) : Int)
def sp_Llevels (m : Gm) : GSp := fun ds G Q => ∃ (f d : Nat), ds = [.int f, .int d] ∧ f ≤ 5 ∧ d ≤ 7 ∧ ∀ q G', G' q = some (.lst (powsD f d)) → Keep G G' [] → G q = none → Q (.ref q) G'
def vD (f d w b : Nat) (s : Int) : List D := [.int f, .int d, .int w, .int b, .int s]
def sp_Lmade (m : Gm) : GSp := fun ds G Q => ∃ (v : Addr) (f d w b : Nat) (s : Int), ds = [.ref v] ∧ G v = some (.lst (vD f d w b s)) ∧ (∀ n, (bads f d w b s).head? = some n → ∀ G', Keep G G' [] → Q (.tup [.str "error", .str n]) G') ∧
  (bads f d w b s = [] → ∀ p G', G p = none → ShAt G' p (shp f d w b s) → Keep G G' [] → Q (.ref p) G')
/-- isinstance of a shape and tuple -/
structure IsN (m : Gm) (K : PySem.W.Frag) : Prop where
  cl : C8.InsC K (m.cls .shape)
  no : PySem.W.kitOne K (.ref (m.cls .shape)) (.type "tuple") = some false
def bIsiN (m : Gm) : GSp := fun ds G Q => match ds with
  | [.ref a, .ty n] => ∃ fs, n = "tuple" ∧ G a = some (.ins .shape fs) ∧ Q (.bl false) G
  | _ => False
section
variable {m : Gm} {X : Cx} {p pos : Pos} {e : Expr} {es : List Expr} {ga : GA} {x : Str}
theorem says_isiN (T : IsN m X.K) : SaysL m X (rIsi X.K) (bIsiN m) := by
  intro H G xs vs Q Qh C d I h
  unfold bIsiN at h
  split at h
  · rename_i a n
    obtain ⟨v, u, rfl, dv, du⟩ := all2_two d
    obtain ⟨fs, rfl, hg, q⟩ := h
    have ev := dat_ref.mp dv
    have eu := dat_ty.mp du
    subst ev eu
    obtain ⟨dx, gs, ha, _, _⟩ := C a _ hg
    have k := T.cl
    exact ⟨_, _, _, _, _, rfl, .ty _, .base (TyOf.ins ha k.cl k.ha k.hn k.htk k.hm), T.no, imp_here I C (dB _) q⟩
  · exact h.elim
theorem w_isiN (T : IsN m X.K) (hg : Gl X "isinstance") (hm : X.mg "isinstance" = none) (ha : QA m X (e :: es) ga)
    (he : starEach (e :: es) X.env = (false, eval e X.env) :: starEach es X.env := by rfl) (hpl : (backTo pos (starEach es X.env)).any (·.1) = false := by rfl) : QE m X (.Call (.Name "isinstance" p) (e :: es) [] pos) (gCall (bIsiN m) ga) :=
  q_callB call_isi (says_isiN T) hg hm PyProof.Rows.boot_isinstance ha (by decide) (by decide) he hpl
end
def sp_law (m : Gm) : GSp := fun ds G Q => ∃ (x : D) (ns : List Int), ds = [x] ∧ itemsG x G = some (ns.map .int) ∧ ns.length ≤ 63 ∧ TabsG m G ∧ ∀ G', Q (.bl true) G'
/-- Shape.ample: 0 self -/
def rd_shape_ample (m : Gm) : GS := gRet (gBin gMul (gBin gAdd (gFld (gVar 0) .snapshots) (gC (.int 2))) (gMeth tab_cells (gVar 0) gNil))
abbrev N_shape_ample : List Str := ["self"]
def rd_Lnear_1 (m : Gm) : GS := gRet (gBin gAdd (gVar 1) (gCall sp_Ldraw (gCons (gVar 0) (gCons (gBin gAdd (gBin gSub (gVar 2) (gVar 1)) (gC (.int 1))) (gNil)))))
def rd_Lnear_2 (m : Gm) : GS := gSeq (gIf (gTest (gBin (gEq false) (gVar 3) (gC (.int 1)))) (gRet (gBin gIx (gLst (gCons (gVar 1) (gCons (gVar 2) (gNil)))) (gCall sp_Ldraw (gCons (gVar 0) (gCons (gC (.int 2)) (gNil)))))) (gNext)) (rd_Lnear_1 m)
/-- _law_near: 0 state_here, 1 least, 2 greatest, 3 kind -/
def rd_Lnear (m : Gm) : GS := gSeq (gSet 3 (gCall sp_Ldraw (gCons (gVar 0) (gCons (gC (.int 6)) (gNil))))) (gSeq (gIf (gTest (gBin (gEq false) (gVar 3) (gC (.int 0)))) (gRet (gBin gIx (gLst (gCons (gBin gSub (gVar 1) (gC (.int 1))) (gCons (gBin gAdd (gVar 2) (gC (.int 1))) (gNil)))) (gCall sp_Ldraw (gCons (gVar 0) (gCons (gC (.int 2)) (gNil)))))) (gNext)) (rd_Lnear_2 m))
abbrev N_Lnear : List Str := ["_law_state_here", "_law_least", "_law_greatest", "_law_kind"]
def rd_Llevels_1 (m : Gm) : GS := gDrop (gLm rApp (gVar 2) (gCons (gBin gMul (gBin gIx (gVar 2) (gVar 3)) (gVar 0)) (gNil)))
/-- _law_levels: 0 fanout, 1 depth, 2 rows, 3 level -/
def rd_Llevels (m : Gm) : GS := gSeq (gSet 2 (gLst (gCons (gC (.int 1)) (gNil)))) (gSeq (gFor (gRng1 (gCons (gVar 1) (gNil))) (gNm 3) (rd_Llevels_1 m)) (gRet (gVar 2)))
abbrev N_Llevels : List Str := ["_law_fanout", "_law_depth", "_law_rows", "_law_level"]
def rd_law_1 (m : Gm) : GS := gRet (gBin (gEq false) (gFld (gMake .shape sp_shape_init_kw4 (gCons (gC (.int 2)) (gCons (gC (.int 1)) (gCons (gC (.int 1)) (gCons (gC (.int 2)) (gNil)))))) .snapshots) (gC (.int 0)))
def rd_law_2 (m : Gm) : GS := gSeq (gIf (gOr (gTest (gBin (gEq true) (gMeth tab_leaves (gVar 4) gNil) (gBin gIx (gVar 5) (gNeg (gC (.int 1)))))) (gOr (gTest (gBin (gEq true) (gMeth tab_cells (gVar 4) gNil) (gCall bSum (gCons (gVar 5) (gNil))))) (gTest (gBin (gEq true) (gMeth (tab_ample m) (gVar 4) gNil) (gBin gMul (gBin gAdd (gBin gIx (gVar 2) (gC (.int 4))) (gC (.int 2))) (gCall bSum (gCons (gVar 5) (gNil)))))))) (gRet (gC (.bl false))) (gNext)) (rd_law_1 m)
def rd_law_3 (m : Gm) : GS := gSeq (gSet 5 (gCall (sp_Llevels m) (gCons (gBin gIx (gVar 2) (gC (.int 0))) (gCons (gBin gIx (gVar 2) (gC (.int 1))) (gNil))))) (gSeq (gIf (gTest (gBin (gEq true) (gLst (gCons (gFld (gVar 4) .fanout) (gCons (gFld (gVar 4) .depth) (gCons (gFld (gVar 4) .words) (gCons (gFld (gVar 4) .blocks) (gCons (gFld (gVar 4) .snapshots) (gNil))))))) (gVar 2))) (gRet (gC (.bl false))) (gNext)) (rd_law_2 m))
def rd_law_4 (m : Gm) : GS := gSeq (gIf (gTest (gCall (bIsiN m) (gCons (gVar 4) (gCons (gC (.ty "tuple")) (gNil))))) (gRet (gC (.bl false))) (gNext)) (rd_law_3 m)
def rd_law_5 (m : Gm) : GS := gSeq (gSet 4 (gCall (sp_Lmade m) (gCons (gVar 2) (gNil)))) (gSeq (gIf (gTest (gBin gGt (gCall bLen (gCons (gVar 3) (gNil))) (gC (.int 0)))) (gRet (gBin (gEq false) (gVar 4) (gTup (gCons (gC (.str "error")) (gCons (gBin gIx (gVar 3) (gC (.int 0))) (gNil)))))) (gNext)) (rd_law_4 m))
def rd_law_6 (m : Gm) : GS := gSeq (gIf (gOr (gTest (gBin gLt (gBin gIx (gVar 2) (gC (.int 4))) (gC (.int 0)))) (gTest (gBin gGt (gBin gIx (gVar 2) (gC (.int 4))) (gC (.int 3))))) (gDrop (gLm rApp (gVar 3) (gCons (gC (.str "snapshots")) (gNil)))) (gNext)) (rd_law_5 m)
def rd_law_7 (m : Gm) : GS := gSeq (gIf (gOr (gTest (gBin gLt (gBin gIx (gVar 2) (gC (.int 3))) (gBin gAdd (gBin gIx (gVar 2) (gC (.int 1))) (gC (.int 1))))) (gTest (gBin gGt (gBin gIx (gVar 2) (gC (.int 3))) (gC (.int 1000))))) (gDrop (gLm rApp (gVar 3) (gCons (gC (.str "blocks")) (gNil)))) (gNext)) (rd_law_6 m)
def rd_law_8 (m : Gm) : GS := gSeq (gIf (gOr (gTest (gBin gLt (gBin gIx (gVar 2) (gC (.int 2))) (gC (.int 1)))) (gTest (gBin gGt (gBin gIx (gVar 2) (gC (.int 2))) (gC (.int 4))))) (gDrop (gLm rApp (gVar 3) (gCons (gC (.str "words")) (gNil)))) (gNext)) (rd_law_7 m)
def rd_law_9 (m : Gm) : GS := gSeq (gIf (gOr (gTest (gBin gLt (gBin gIx (gVar 2) (gC (.int 1))) (gC (.int 1)))) (gOr (gTest (gBin gGt (gBin gIx (gVar 2) (gC (.int 1))) (gC (.int 6)))) (gTest (gBin gGt (gBin gIx (gCall (sp_Llevels m) (gCons (gBin gIx (gVar 2) (gC (.int 0))) (gCons (gBin gIx (gVar 2) (gC (.int 1))) (gNil)))) (gNeg (gC (.int 1)))) (gC (.int 64)))))) (gDrop (gLm rApp (gVar 3) (gCons (gC (.str "depth")) (gNil)))) (gNext)) (rd_law_8 m)
/-- law: 0 script, 1 state_here, 2 v, 3 bad, 4 made_here, 5 rows -/
def rd_law (m : Gm) : GS := gSeq (gSet 1 (gCall sp_Lstate (gCons (gVar 0) (gNil)))) (gSeq (gSet 2 (gLst (gCons (gCall (sp_Lnear m) (gCons (gVar 1) (gCons (gC (.int 2)) (gCons (gC (.int 4)) (gNil))))) (gCons (gCall (sp_Lnear m) (gCons (gVar 1) (gCons (gC (.int 1)) (gCons (gC (.int 6)) (gNil))))) (gCons (gCall (sp_Lnear m) (gCons (gVar 1) (gCons (gC (.int 1)) (gCons (gC (.int 4)) (gNil))))) (gCons (gC (.int 0)) (gCons (gCall (sp_Lnear m) (gCons (gVar 1) (gCons (gC (.int 0)) (gCons (gC (.int 3)) (gNil))))) (gNil)))))))) (gSeq (gPut (gCall (sp_Lnear m) (gCons (gVar 1) (gCons (gBin gAdd (gBin gIx (gVar 2) (gC (.int 1))) (gC (.int 1))) (gCons (gBin gIx (gLst (gCons (gC (.int 40)) (gCons (gC (.int 1000)) (gNil)))) (gCall sp_Ldraw (gCons (gVar 1) (gCons (gC (.int 2)) (gNil))))) (gNil))))) (gVar 2) (gC (.int 3))) (gSeq (gSet 3 (gLst (gNil))) (gSeq (gIf (gOr (gTest (gBin gLt (gBin gIx (gVar 2) (gC (.int 0))) (gC (.int 2)))) (gTest (gBin gGt (gBin gIx (gVar 2) (gC (.int 0))) (gC (.int 4))))) (gDrop (gLm rApp (gVar 3) (gCons (gC (.str "fanout")) (gNil)))) (gNext)) (rd_law_9 m)))))
abbrev N_law : List Str := ["_law_script", "_law_state_here", "_law_v", "_law_bad", "_law_made_here", "_law_rows"]

end Cz.K01

/-! k01: what the defs compute. -/
namespace Cz.K01
open PySem L2 Cz
/-! ### require, Shape -/
def rdx_require : GSX := fun W D σ G => (gNot (gTru (gVar 0))) σ G fun b G1 => if b = true then (gVar 1) σ G1 fun y G2 => ∃ nm, y = .str nm ∧ W nm G2 else D.nx σ G1
theorem rdxp_require (ds : List D) (G : GH) (Q : GQ) (W : GX) (h : spx_require ds G Q W) : rdx_require W (bodyEnds Q) (gstart N_require ds) G := by
  obtain ⟨b, n, rfl, h1, h2⟩ := h
  rw [show gstart N_require [.bl b, .str n] = [some (.bl b), some (.str n)] from rfl]
  unfold rdx_require
  refine go ⟨b, rfl, ?_⟩
  cases b with
  | true => exact go (h1 rfl)
  | false => exact go ⟨n, rfl, h2 rfl⟩
theorem lenx_require (ds : List D) (G : GH) (Q : GQ) (W : GX) (h : spx_require ds G Q W) : ds.length = 2 := by obtain ⟨b, n, rfl, _⟩ := h; rfl
def reqX (c : GE) (n : String) (k : GSX) : GSX := fun W D σ G => (gCons c (gCons (gC (.str n)) gNil)) σ G fun ds G1 => spx_require ds G1 (fun _ G2 => k W D σ G2) W
def rdx_shape (m : Gm) : GSX := reqX (gChain gLe gLe (gC (.int 2)) (gVar 1) (gC (.int 4))) "fanout" (reqX (gAndV (gChain gLe gLe (gC (.int 1)) (gVar 2) (gC (.int 6))) (gBin gLe (gCall sp_power (gCons (gVar 1) (gCons (gVar 2) (gNil)))) (gC (.int 64)))) "depth"
  (reqX (gChain gLe gLe (gC (.int 1)) (gVar 3) (gC (.int 4))) "words" (reqX (gChain gLe gLe (gBin gAdd (gVar 2) (gC (.int 1))) (gVar 4) (gC (.int 1000))) "blocks" (reqX (gChain gLe gLe (gC (.int 0)) (gVar 5) (gC (.int 3))) "snapshots"
  (fun _ => gSeq (gSetF m (gVar 0) (gVar 1) .fanout) (gSeq (gSetF m (gVar 0) (gVar 2) .depth) (gSeq (gSetF m (gVar 0) (gVar 3) .words) (gSeq (gSetF m (gVar 0) (gVar 4) .blocks) (gSeq (gSetF m (gVar 0) (gVar 5) .snapshots) gNext)))))))))
theorem x_req {c : Prop} [Decidable c] {n : Str} {G : GH} {Q : GQ} {W : GX} (h1 : c → Q .non G) (h2 : ¬ c → W n G) : spx_require [.bl (decide c), .str n] G Q W := ⟨decide c, n, rfl, fun z => h1 (of_decide_eq_true z), fun z => h2 (of_decide_eq_false z)⟩
theorem x_reqF {n : Str} {G : GH} {Q : GQ} {W : GX} (h2 : W n G) : spx_require [.bl false, .str n] G Q W := ⟨false, n, rfl, (fun z => nomatch z), fun _ => h2⟩
theorem rdxp_shape (m : Gm) (hm : ∀ f ∈ [Fd.fanout, .depth, .words, .blocks, .snapshots], m.ok .shape f = true) (ds : List D) (G : GH) (Q : GQ) (W : GX) (h : spx_shape ds G Q W) : rdx_shape m W (bodyEnds Q) (gstart N_shape_init ds) G := by
  obtain ⟨p, f, d, w, b, s, rfl, hp, hbad, hok⟩ := h
  rw [show gstart N_shape_init [.ref p, .int (f : Nat), .int d, .int w, .int b, .int s] = [some (.ref p), some (.int f), some (.int d), some (.int w), some (.int b), some (.int s)] from rfl]
  unfold rdx_shape
  -- fanout
  have nF : ¬ okF f → W "fanout" G := fun z => hbad _ (by unfold bads; rw [if_neg z]; rfl)
  unfold reqX
  refine go (i_ite (fun h1 => go (x_req (fun h2 => ?_) fun h2 => nF fun z => h2 (by have := z.2; omega))) fun h1 => go (x_reqF (nF fun z => h1 (by have := z.1; omega))))
  have hF : okF f := ⟨by omega, by omega⟩
  -- depth
  have nD : ¬ okD f d → W "depth" G := fun z => hbad _ (by unfold bads; rw [if_pos hF, if_neg z]; rfl)
  refine go (i_ite (fun h3 => go (i_ite (fun h4 => go ⟨f, d, rfl, hF.2, by omega, go (x_req (fun h5 => ?_) fun h5 => nD fun z => h5 (by have := z.2.2; omega))⟩) fun h4 => go (x_reqF (nD fun z => h4 (by have := z.2.1; omega))))) fun h3 => go (x_reqF (nD fun z => h3 (by have := z.1; omega))))
  have hD : okD f d := ⟨by omega, by omega, by omega⟩
  -- words
  have nW : ¬ okW w → W "words" G := fun z => hbad _ (by unfold bads; rw [if_pos hF, if_pos hD, if_neg z]; rfl)
  refine go (i_ite (fun h6 => go (x_req (fun h7 => ?_) fun h7 => nW fun z => h7 (by have := z.2; omega))) fun h6 => go (x_reqF (nW fun z => h6 (by have := z.1; omega))))
  have hW : okW w := ⟨by omega, by omega⟩
  -- blocks
  have nB : ¬ okB d b → W "blocks" G := fun z => hbad _ (by unfold bads; rw [if_pos hF, if_pos hD, if_pos hW, if_neg z]; rfl)
  refine go (i_ite (fun h8 => go (x_req (fun h9 => ?_) fun h9 => nB fun z => h9 (by have := z.2; omega))) fun h8 => go (x_reqF (nB fun z => h8 (by have := z.1; omega))))
  have hB : okB d b := ⟨by omega, by omega⟩
  -- snapshots
  have nS : ¬ okS s → W "snapshots" G := fun z => hbad _ (by unfold bads; rw [if_pos hF, if_pos hD, if_pos hW, if_pos hB, if_neg z]; rfl)
  refine go (i_ite (fun h10 => go (x_req (fun h11 => ?_) fun h11 => nS fun z => h11 z.2)) fun h10 => go (x_reqF (nS fun z => h10 z.1)))
  have hS : okS s := ⟨by omega, by omega⟩
  have hnil : bads f d w b s = [] := by unfold bads; rw [if_pos hF, if_pos hD, if_pos hW, if_pos hB, if_pos hS]; rfl
  have ok : (shp f d w b s).Ok := ⟨hF.1, hF.2, hD.1, hD.2.1, hD.2.2, hW.1, hW.2, hB.1, hB.2, by show s.toNat ≤ 3; have := hS.2; omega⟩
  refine go (i_setFR hp (hm _ (by simp)) (by decide) (go (i_setFR set_same (hm _ (by simp)) (by exact (by decide : 1 < 100)) (go (i_setFR set_same (hm _ (by simp)) (by exact (by decide : 2 < 100)) (go (i_setFR set_same (hm _ (by simp)) (by exact (by decide : 3 < 100)) (go (i_setFR set_same (hm _ (by simp)) (by exact (by decide : 4 < 100)) (go ?_))))))))))
  simp only [set_set]
  refine hok hnil _ ⟨?_, ok⟩ Keep.put
  rw [set_same]
  have es : s = ((s.toNat : Nat) : Int) := by have := hS.1; omega
  show some (GO.ins .shape [(.fanout, .int f), (.depth, .int d), (.words, .int w), (.blocks, .int b), (.snapshots, .int s)]) = some (GO.ins .shape [(.fanout, .int f), (.depth, .int d), (.words, .int w), (.blocks, .int b), (.snapshots, .int ((s.toNat : Nat) : Int))])
  rw [← es]
theorem lenx_shape (ds : List D) (G : GH) (Q : GQ) (W : GX) (h : spx_shape ds G Q W) : ds.length = 6 := by obtain ⟨p, f, d, w, b, s, rfl, _⟩ := h; rfl
theorem rdp_shape_ample (m : Gm) (ds : List D) (G : GH) (Q : GQ) (h : sp_shape_ample m ds G Q) : rd_shape_ample m (bodyEnds Q) (gstart N_shape_ample ds) G := by
  obtain ⟨p, S, rfl, hs, q⟩ := h
  rw [show gstart N_shape_ample [.ref p] = [some (.ref p)] from rfl]
  unfold rd_shape_ample
  have s3 := hs.2.s3
  refine go (i_fldR hs.1 (d := .int S.s) rfl (go (i_methR hs.1 (sp := sp_shape_cells) rfl (go ⟨p, S, rfl, hs, fun G' k => go (i_mulI (.inl (by omega)) (go ?_))⟩))))
  have e : ((S.s : Int) + 2) * ((cellsN S.f S.d : Nat) : Int) = ((ampleN S.f S.d S.s : Nat) : Int) := by
    unfold ampleN
    rw [Int.natCast_mul]; rfl
  rw [e]
  exact q G' k
theorem len_shape_ample (m : Gm) (ds : List D) (G : GH) (Q : GQ) (h : sp_shape_ample m ds G Q) : ds.length = 1 := by obtain ⟨p, S, rfl, _⟩ := h; rfl
/-! ### the law's own -/
theorem st_new {G : GH} {a c q : Addr} (h : St G a c) (hq : G q = none) : q ∉ [a, c] := by
  obtain ⟨cells, seed, h1, h2, _⟩ := h
  intro z
  simp only [List.mem_cons, List.not_mem_nil, or_false] at z
  rcases z with rfl | rfl
  · rw [hq] at h1; cases h1
  · rw [hq] at h2; cases h2
theorem near_pick {G : GH} {Q : GQ} {q : Addr} {x y : Int} {r : Int} (hq : G q = some (.lst [.int x, .int y])) (h0 : 0 ≤ r) (h1 : r < 2) (k : ∀ z, z = x ∨ z = y → Q (.int z) G) : gIx (.ref q) (.int r) G Q := by
  have : r = 0 ∨ r = 1 := by omega
  rcases this with rfl | rfl
  · exact i_ixL hq (d := .int x) rfl (k x (.inl rfl))
  · exact i_ixL hq (d := .int y) rfl (k y (.inr rfl))
theorem rdp_Lnear (m : Gm) (ds : List D) (G : GH) (Q : GQ) (h : sp_Lnear m ds G Q) : rd_Lnear m (bodyEnds Q) (gstart N_Lnear ds) G := by
  obtain ⟨a, c, l, g, rfl, st, hlg, hl, hg, K⟩ := h
  rw [show gstart N_Lnear [.ref a, .int l, .int g] = [some (.ref a), some (.int l), some (.int g), none] from rfl]
  unfold rd_Lnear
  refine go (i_draw st (by decide) (by decide) fun k G1 k0 k1 st1 kk1 => go (i_ite (fun hk => ?_) fun hk => ?_))
  · refine go (i_alloc fun q G2 hq q2 k2 => go (i_draw (st1.keep k2 (by simp) (by simp)) (by decide) (by decide) fun r G3 r0 r1 st3 k3 => go ?_))
    refine near_pick (k3 _ _ q2 (st_new st1 hq)) r0 r1 fun z hz => go (K z G3 (by omega) (by omega) st3 (((kk1.trans k2).trans k3).sub (by simp)))
  · unfold rd_Lnear_2
    refine go (i_ite (fun hk2 => ?_) fun hk2 => ?_)
    · refine go (i_alloc fun q G2 hq q2 k2 => go (i_draw (st1.keep k2 (by simp) (by simp)) (by decide) (by decide) fun r G3 r0 r1 st3 k3 => go ?_))
      refine near_pick (k3 _ _ q2 (st_new st1 hq)) r0 r1 fun z hz => go (K z G3 (by omega) (by omega) st3 (((kk1.trans k2).trans k3).sub (by simp)))
    · unfold rd_Lnear_1
      refine go (i_draw st1 (by omega) (by omega) fun r G3 r0 r1 st3 k3 => go (K _ G3 (by omega) (by omega) st3 (kk1.same k3)))
theorem len_Lnear (m : Gm) (ds : List D) (G : GH) (Q : GQ) (h : sp_Lnear m ds G Q) : ds.length = 3 := by obtain ⟨a, c, l, g, rfl, _⟩ := h; rfl
theorem rdp_Llevels (m : Gm) (ds : List D) (G : GH) (Q : GQ) (h : sp_Llevels m ds G Q) : rd_Llevels m (bodyEnds Q) (gstart N_Llevels ds) G := by
  obtain ⟨f, d, rfl, hf, hd, K⟩ := h
  rw [show gstart N_Llevels [.int f, .int d] = [some (.int f), some (.int d), none, none] from rfl]
  unfold rd_Llevels
  refine go (i_alloc fun q G1 hq q1 k1 => go ⟨by omega, by omega, ?_⟩)
  refine i_turns (fun i σ' G' => ∃ x3, σ' = [some (.int f), some (.int d), some (.ref q), x3] ∧ G' q = some (.lst (powsD f i)) ∧ Keep G G' []) ⟨none, rfl, q1, k1⟩ ?_ ?_
  · rintro i e σ' G2 hi _ ⟨x3, rfl, h2, kk⟩
    have hid : i < d := by
      have := (List.getElem?_eq_some_iff.mp hi).1
      simpa using this
    rw [List.getElem?_map, List.getElem?_range (by omega)] at hi
    cases hi
    have hat : atI (powsD f i) (i : Int) = some (.int ((f ^ i : Nat) : Int)) := atI_at (Int.natCast_nonneg i) (by
      rw [Int.toNat_natCast]
      unfold powsD
      rw [List.getElem?_map, List.getElem?_range (by omega)]; rfl)
    unfold rd_Llevels_1
    refine go (i_lm1 h2 (go (i_ixL h2 hat (go (i_mulI (.inr (by omega)) (go (i_appA h2 (by unfold powsD; rw [List.length_map, List.length_range]; show _ < 100000; omega) fun G3 q3 k3 => go ⟨True.intro, _, rfl, ?_, ?_⟩)))))))
    · rw [q3]
      unfold powsD
      rw [List.range_succ (n := i + 1), List.map_append, List.map_singleton, Nat.pow_succ, Int.natCast_mul]
    · exact Keep.none (xs := [q]) ((kk.trans k3).sub (by simp)) (by simpa using hq)
  · rintro σ' G2 _ ⟨x3, rfl, h2, kk⟩
    rw [List.length_map, List.length_range, Int.toNat_natCast] at h2
    exact go (K q G2 h2 kk hq)
theorem len_Llevels (m : Gm) (ds : List D) (G : GH) (Q : GQ) (h : sp_Llevels m ds G Q) : ds.length = 2 := by obtain ⟨f, d, rfl, _⟩ := h; rfl
/-! ### _law_made -/
abbrev N_Lmade : List Str := ["_law_v", "e"]
def rd_Lmade (_m : Gm) : GS := gTryM .shape spx_shape (gCons (gBin gIx (gVar 0) (gC (.int 0))) (gCons (gBin gIx (gVar 0) (gC (.int 1))) (gCons (gBin gIx (gVar 0) (gC (.int 2))) (gCons (gBin gIx (gVar 0) (gC (.int 3))) (gCons (gBin gIx (gVar 0) (gC (.int 4))) gNil))))) 1
theorem rdp_Lmade (m : Gm) (ds : List D) (G : GH) (Q : GQ) (h : sp_Lmade m ds G Q) : rd_Lmade m (bodyEnds Q) (gstart N_Lmade ds) G := by
  obtain ⟨v, f, d, w, b, s, rfl, hv, he, hk⟩ := h
  rw [show gstart N_Lmade [.ref v] = [some (.ref v), none] from rfl]
  refine ⟨Nat.lt_succ_self 1, go (i_ixL hv (j := 0) (d := .int f) rfl (go (i_ixL hv (j := 1) (d := .int d) rfl (go (i_ixL hv (j := 2) (d := .int w) rfl (go (i_ixL hv (j := 3) (d := .int b) rfl (go (i_ixL hv (j := 4) (d := .int s) rfl (go ?_))))))))))⟩
  refine fun p hp => ⟨p, f, d, w, b, s, rfl, set_same, fun n hn => ?_, fun hn G' hs kp => ⟨rfl, ?_⟩⟩
  · exact he n hn _ (Keep.none (xs := [p]) Keep.put (by simpa using hp))
  · refine hk hn p G' hp hs (Keep.none (xs := [p]) (Keep.put.trans kp |>.sub (by simp)) (by simpa using hp))
theorem len_Lmade (m : Gm) (ds : List D) (G : GH) (Q : GQ) (h : sp_Lmade m ds G Q) : ds.length = 1 := by obtain ⟨v, f, d, w, b, s, rfl, _⟩ := h; rfl
end Cz.K01

/-! k01: the law itself. -/
namespace Cz.K01
open PySem L2 Cz
structure LI (G : GH) (a c v bd : Addr) (f d w b : Nat) (s : Int) (acc : List Str) : Prop where
  hv : G v = some (.lst (vD f d w b s))
  hb : G bd = some (.lst (acc.map .str))
  ne : v ≠ bd
  al : acc.length ≤ 5
  f5 : f ≤ 5
  d7 : d ≤ 7
  pk : ∀ n ∈ acc, Pkd (.str n)
variable {m : Gm} {G : GH} {a c v bd : Addr} {f d w b : Nat} {s : Int} {acc : List Str}
theorem pkd_err {n : Str} (h : Pkd (.str n)) : Pkd (.tup [.str (Str.ofString "error"), .str n]) := pkd_tup fun e he => by
  simp only [List.mem_cons, List.not_mem_nil, or_false] at he
  rcases he with rfl | rfl
  · exact ⟨sOk_of "error", by rw [depth_str]; omega⟩
  · exact ⟨h.1, by rw [depth_str]; omega⟩
theorem pkd_vD : ∀ x ∈ vD f d w b s, Pkd x := fun x hx => by
  simp only [vD, List.mem_cons, List.not_mem_nil, or_false] at hx
  rcases hx with rfl | rfl | rfl | rfl | rfl <;> exact pkd_int _
theorem pow_at (f d : Nat) : atI (powsD f d) (-1) = some (.int ((f ^ d : Nat) : Int)) := by
  unfold powsD
  rw [List.range_succ, List.map_append]
  exact atI_last
theorem pow_items {q : Addr} (h : G q = some (.lst (powsD f d))) : itemsG (.ref q) G = some (((List.range (d + 1)).map fun l : Nat => ((f ^ l : Nat) : Int)).map D.int) := by
  rw [items_lst h]
  unfold powsD
  rw [List.map_map]; rfl
/-- all of the numbers are judged -/
theorem law5 (h : LI G a c v bd f d w b s (bads f d w b s)) {x0 x4 x5 : Option D} {E : GEnds} (K : ∀ G', E.rt (.bl true) G') : rd_law_5 m E [x0, some (.ref a), some (.ref v), some (.ref bd), x4, x5] G := by
  unfold rd_law_5
  refine go ⟨v, f, d, w, b, s, rfl, h.hv, fun n hn G1 k1 => go ?_, fun hn p G1 gp hs k1 => go ?_⟩
  · have b1 := k1 _ _ h.hb (by simp)
    obtain ⟨acc', hacc⟩ : ∃ acc', bads f d w b s = n :: acc' := by
      cases e : bads f d w b s with
      | nil => rw [e] at hn; cases hn
      | cons y l => rw [e] at hn; cases hn; exact ⟨l, rfl⟩
    have hpk := h.pk n (by rw [hacc]; simp)
    rw [hacc] at b1
    refine i_lenL b1 (go (i_yes (by rw [List.length_map, List.length_cons]; omega) (go (i_ixL b1 (d := .str n) atI_zero (go (i_eqP (pkd_err hpk) (pkd_err hpk) (go ?_)))))))
    rw [decide_eq_true (show D.tup [D.str (Str.ofString "error"), D.str n] = D.tup [D.str (Str.ofString "error"), D.str n] from rfl)]
    exact K _
  · have b1 := k1 _ _ h.hb (by simp)
    have v1 := k1 _ _ h.hv (by simp)
    rw [hn] at b1
    refine i_lenL b1 (go (i_no (by simp) (go ?_)))
    unfold rd_law_4
    refine go ⟨_, rfl, hs.1, go ?_⟩
    unfold rd_law_3
    refine go (i_ixL v1 (j := 0) (d := .int f) rfl (go (i_ixL v1 (j := 1) (d := .int d) rfl (go ⟨f, d, rfl, h.f5, h.d7, fun q G2 q2 k2 gq => go ?_⟩))))
    have hs2 := hs.keep k2 (by simp)
    have v2 := k2 _ _ v1 (by simp)
    have es : ((s.toNat : Nat) : Int) = s := by
      have : okS s := by
        unfold bads at hn
        by_cases z : okS s
        · exact z
        · rw [if_neg z] at hn
          simp at hn
      have := this.1
      omega
    refine i_fldR hs2.1 (d := .int f) rfl (go (i_fldR hs2.1 (d := .int d) rfl (go (i_fldR hs2.1 (d := .int w) rfl (go (i_fldR hs2.1 (d := .int b) rfl (go (i_fldR hs2.1 (d := .int ((s.toNat : Nat) : Int)) rfl (go ?_)))))))))
    refine i_alloc fun r G3 gr r3 k3 => go (eqLL r3 (k3 _ _ v2 (by simp)) (fun x hx => ?_) pkd_vD (go ?_))
    · simp only [List.mem_cons, List.not_mem_nil, or_false] at hx
      rcases hx with rfl | rfl | rfl | rfl | rfl <;> exact pkd_int _
    rw [es, decide_eq_true (show [D.int (f : Int), D.int d, D.int w, D.int b, D.int s] = vD f d w b s from rfl)]
    simp only [Bool.not_true, if_true, if_false, Bool.false_eq_true]
    refine go ?_
    unfold rd_law_2
    have hs3 := hs2.keep k3 (by simp)
    have q3 := k3 _ _ q2 (by simp)
    have v3 := k3 _ _ v2 (by simp)
    have hsum : (((List.range (d + 1)).map fun l : Nat => ((f ^ l : Nat) : Int))).sum = (cellsN f d : Nat) := cellsN_sum f d
    refine go (i_methR hs3.1 (sp := sp_shape_leaves) rfl (go ⟨p, _, rfl, hs3, go (i_ixL q3 (pow_at f d) (go ?_))⟩))
    rw [decide_eq_true (show (((shp f d w b s).f ^ (shp f d w b s).d : Nat) : Int) = ((f ^ d : Nat) : Int) from rfl)]
    refine go (i_methR hs3.1 (sp := sp_shape_cells) rfl (go ⟨p, _, rfl, hs3, fun G4 k4 => go ⟨_, pow_items (k4 _ _ q3 (by simp)), True.intro, go ?_⟩⟩))
    rw [hsum, decide_eq_true (show ((cellsN (shp f d w b s).f (shp f d w b s).d : Nat) : Int) = ((cellsN f d : Nat) : Int) from rfl)]
    have hs4 := hs3.keep k4 (by simp)
    refine go (i_methR hs4.1 (sp := sp_shape_ample m) rfl (go ⟨p, _, rfl, hs4, fun G5 k5 => go ?_⟩))
    have q5 := k5 _ _ (k4 _ _ q3 (by simp)) (by simp)
    have v5 := k5 _ _ (k4 _ _ v3 (by simp)) (by simp)
    refine i_ixL v5 (j := 4) (d := .int s) rfl (go ⟨_, pow_items q5, True.intro, go ?_⟩)
    have s3 : s ≤ 3 := by have := hs.2.s3; have h3 : s.toNat ≤ 3 := this; omega
    refine i_mulI (.inl (by omega)) (go ?_)
    have e5 : ((ampleN (shp f d w b s).f (shp f d w b s).d (shp f d w b s).s : Nat) : Int) = (s + 2) * (((List.range (d + 1)).map fun l : Nat => ((f ^ l : Nat) : Int))).sum := by
      rw [hsum]
      show (((s.toNat + 2) * cellsN f d : Nat) : Int) = _
      rw [Int.natCast_mul, Int.natCast_add, es]; rfl
    rw [decide_eq_true e5]
    refine go ?_
    unfold rd_law_1
    refine go fun p2 gp2 => ?_
    refine ⟨p2, ⟨2, 1, 1, 2, 0⟩, rfl, rfl, ⟨by decide, by decide, by decide, by decide, by decide, by decide, by decide, by decide, by decide, by decide⟩, set_same, fun G6 hs6 k6 => ⟨rfl, go ?_⟩⟩
    refine i_fldR hs6.1 (d := .int 0) rfl (go ?_)
    exact K _
theorem bad_step (h : LI G a c v bd f d w b s acc) {n : String} (hl : acc.length ≤ 4) {Q : GH → Prop} (q : ∀ G', LI G' a c v bd f d w b s (acc ++ [Str.ofString n]) → Q G') : lstG (G bd) fun ds => rApp bd ds [.str n] G fun _ G1 => Q G1 := by
  refine i_appA h.hb (by rw [List.length_map]; show _ < 100000; omega) fun G1 b1 k1 => q G1 ⟨k1 _ _ h.hv (by simp [h.ne]), ?_, h.ne, by rw [List.length_append, List.length_singleton]; omega, h.f5, h.d7, fun x hx => ?_⟩
  · rw [b1, List.map_append]; rfl
  · rcases List.mem_append.mp hx with z | z
    · exact h.pk x z
    · rw [List.mem_singleton.mp z]; exact pkd_str (sOk_of n)
theorem LI.cast (h : LI G a c v bd f d w b s acc) {acc' : List Str} (e : acc = acc') : LI G a c v bd f d w b s acc' := e ▸ h
def bF (f : Nat) : List Str := if okF f then [] else [Str.ofString "fanout"]
def bD (f d : Nat) : List Str := if okD f d then [] else [Str.ofString "depth"]
def bW (w : Nat) : List Str := if okW w then [] else [Str.ofString "words"]
def bB (d b : Nat) : List Str := if okB d b then [] else [Str.ofString "blocks"]
def bS (s : Int) : List Str := if okS s then [] else [Str.ofString "snapshots"]
theorem bads_eq : bads f d w b s = bF f ++ (bD f d ++ (bW w ++ (bB d b ++ bS s))) := rfl
theorem law6 (h : LI G a c v bd f d w b s (bF f ++ (bD f d ++ (bW w ++ bB d b)))) (hl : (bF f ++ (bD f d ++ (bW w ++ bB d b))).length ≤ 4) {x0 x4 x5 : Option D} {E : GEnds} (K : ∀ G', E.rt (.bl true) G') : rd_law_6 m E [x0, some (.ref a), some (.ref v), some (.ref bd), x4, x5] G := by
  unfold rd_law_6
  have hb : ∀ G', LI G' a c v bd f d w b s ((bF f ++ (bD f d ++ (bW w ++ bB d b))) ++ bS s) → rd_law_5 m E [x0, some (.ref a), some (.ref v), some (.ref bd), x4, x5] G' := fun G' h' => law5 (h'.cast (by rw [bads_eq]; simp only [List.append_assoc])) K
  have bad : ¬ okS s → ∀ G', LI G' a c v bd f d w b s ((bF f ++ (bD f d ++ (bW w ++ bB d b))) ++ [Str.ofString "snapshots"]) → rd_law_5 m E [x0, some (.ref a), some (.ref v), some (.ref bd), x4, x5] G' := fun z G' h' => hb G' (h'.cast (by unfold bS; rw [if_neg z]))
  refine go (i_ixL h.hv (j := 4) (d := .int s) rfl (go (i_ite (fun z => ?_) fun z => ?_)))
  · exact go (i_lm1 h.hb (go (bad_step h hl (bad fun y => by have := y.1; omega))))
  · refine go (i_ixL h.hv (j := 4) (d := .int s) rfl (go (i_ite (fun y => ?_) fun y => ?_)))
    · exact go (i_lm1 h.hb (go (bad_step h hl (bad fun z2 => by have := z2.2; omega))))
    · exact go (hb G (h.cast (by unfold bS; rw [if_pos ⟨by omega, by omega⟩, List.append_nil])))
theorem law7 (h : LI G a c v bd f d w b s (bF f ++ (bD f d ++ bW w))) (hl : (bF f ++ (bD f d ++ bW w)).length ≤ 3) {x0 x4 x5 : Option D} {E : GEnds} (K : ∀ G', E.rt (.bl true) G') : rd_law_7 m E [x0, some (.ref a), some (.ref v), some (.ref bd), x4, x5] G := by
  unfold rd_law_7
  have l1 : (bB d b).length ≤ 1 := by unfold bB; split <;> simp
  have hb : ∀ G', LI G' a c v bd f d w b s ((bF f ++ (bD f d ++ bW w)) ++ bB d b) → rd_law_6 m E [x0, some (.ref a), some (.ref v), some (.ref bd), x4, x5] G' := fun G' h' => law6 (h'.cast (by simp only [List.append_assoc])) (by simp only [List.length_append] at hl ⊢; omega) K
  have bad : ¬ okB d b → ∀ G', LI G' a c v bd f d w b s ((bF f ++ (bD f d ++ bW w)) ++ [Str.ofString "blocks"]) → rd_law_6 m E [x0, some (.ref a), some (.ref v), some (.ref bd), x4, x5] G' := fun z G' h' => hb G' (h'.cast (by unfold bB; rw [if_neg z]))
  refine go (i_ixL h.hv (j := 3) (d := .int b) rfl (go (i_ixL h.hv (j := 1) (d := .int d) rfl (go (i_ite (fun z => ?_) fun z => ?_)))))
  · exact go (i_lm1 h.hb (go (bad_step h (by omega) (bad fun y => by have := y.1; omega))))
  · refine go (i_ixL h.hv (j := 3) (d := .int b) rfl (go (i_ite (fun y => ?_) fun y => ?_)))
    · exact go (i_lm1 h.hb (go (bad_step h (by omega) (bad fun z2 => by have := z2.2; omega))))
    · exact go (hb G (h.cast (by unfold bB; rw [if_pos ⟨by omega, by omega⟩, List.append_nil])))
theorem law8 (h : LI G a c v bd f d w b s (bF f ++ bD f d)) (hl : (bF f ++ bD f d).length ≤ 2) {x0 x4 x5 : Option D} {E : GEnds} (K : ∀ G', E.rt (.bl true) G') : rd_law_8 m E [x0, some (.ref a), some (.ref v), some (.ref bd), x4, x5] G := by
  unfold rd_law_8
  have l1 : (bW w).length ≤ 1 := by unfold bW; split <;> simp
  have hb : ∀ G', LI G' a c v bd f d w b s ((bF f ++ bD f d) ++ bW w) → rd_law_7 m E [x0, some (.ref a), some (.ref v), some (.ref bd), x4, x5] G' := fun G' h' => law7 (h'.cast (by simp only [List.append_assoc])) (by simp only [List.length_append] at hl ⊢; omega) K
  have bad : ¬ okW w → ∀ G', LI G' a c v bd f d w b s ((bF f ++ bD f d) ++ [Str.ofString "words"]) → rd_law_7 m E [x0, some (.ref a), some (.ref v), some (.ref bd), x4, x5] G' := fun z G' h' => hb G' (h'.cast (by unfold bW; rw [if_neg z]))
  refine go (i_ixL h.hv (j := 2) (d := .int w) rfl (go (i_ite (fun z => ?_) fun z => ?_)))
  · exact go (i_lm1 h.hb (go (bad_step h (by omega) (bad fun y => by have := y.1; omega))))
  · refine go (i_ixL h.hv (j := 2) (d := .int w) rfl (go (i_ite (fun y => ?_) fun y => ?_)))
    · exact go (i_lm1 h.hb (go (bad_step h (by omega) (bad fun z2 => by have := z2.2; omega))))
    · exact go (hb G (h.cast (by unfold bW; rw [if_pos ⟨by omega, by omega⟩, List.append_nil])))
theorem LI.keep0 {G' : GH} (h : LI G a c v bd f d w b s acc) (k : Keep G G' []) : LI G' a c v bd f d w b s acc := ⟨k _ _ h.hv (by simp), k _ _ h.hb (by simp), h.ne, h.al, h.f5, h.d7, h.pk⟩
theorem law9 (h : LI G a c v bd f d w b s (bF f)) {x0 x4 x5 : Option D} {E : GEnds} (K : ∀ G', E.rt (.bl true) G') : rd_law_9 m E [x0, some (.ref a), some (.ref v), some (.ref bd), x4, x5] G := by
  unfold rd_law_9
  have l0 : (bF f).length ≤ 1 := by unfold bF; split <;> simp
  have l1 : (bD f d).length ≤ 1 := by unfold bD; split <;> simp
  have hb : ∀ G', LI G' a c v bd f d w b s (bF f ++ bD f d) → rd_law_8 m E [x0, some (.ref a), some (.ref v), some (.ref bd), x4, x5] G' := fun G' h' => law8 h' (by rw [List.length_append]; omega) K
  have bad : ¬ okD f d → ∀ G', LI G' a c v bd f d w b s (bF f ++ [Str.ofString "depth"]) → rd_law_8 m E [x0, some (.ref a), some (.ref v), some (.ref bd), x4, x5] G' := fun z G' h' => hb G' (h'.cast (by unfold bD; rw [if_neg z]))
  refine go (i_ixL h.hv (j := 1) (d := .int d) rfl (go (i_ite (fun z => ?_) fun z => ?_)))
  · exact go (i_lm1 h.hb (go (bad_step h (by omega) (bad fun y => by have := y.1; omega))))
  · refine go (i_ixL h.hv (j := 1) (d := .int d) rfl (go (i_ite (fun y => ?_) fun y => ?_)))
    · exact go (i_lm1 h.hb (go (bad_step h (by omega) (bad fun z2 => by have := z2.2.1; omega))))
    · refine go (i_ixL h.hv (j := 0) (d := .int f) rfl (go (i_ixL h.hv (j := 1) (d := .int d) rfl (go ⟨f, d, rfl, h.f5, h.d7, fun q G1 q1 k1 gq => go (i_ixL q1 (pow_at f d) (go (i_ite (fun t => ?_) fun t => ?_)))⟩))))
      · have h1 := h.keep0 k1
        exact go (i_lm1 h1.hb (go (bad_step h1 (by omega) (bad fun z2 => by have := z2.2.2; omega))))
      · exact go (hb G1 ((h.keep0 k1).cast (by unfold bD; rw [if_pos ⟨by omega, by omega, by omega⟩, List.append_nil])))
theorem rdp_law (m : Gm) (ds : List D) (G : GH) (Q : GQ) (h : sp_law m ds G Q) : rd_law m (bodyEnds Q) (gstart N_law ds) G := by
  obtain ⟨x, ns, rfl, hx, hl, _, K⟩ := h
  rw [show gstart N_law [x] = [some x, none, none, none, none, none] from rfl]
  unfold rd_law
  refine go ⟨x, ns, rfl, hx, hl, fun a c G1 st1 k1 ga gc => go ?_⟩
  refine ⟨a, c, 2, 4, rfl, st1, by decide, by decide, by decide, fun f G2 f0 f1 st2 k2 => go ⟨a, c, 1, 6, rfl, st2, by decide, by decide, by decide, fun d G3 d0 d1 st3 k3 => go ⟨a, c, 1, 4, rfl, st3, by decide, by decide, by decide, fun w G4 w0 w1 st4 k4 => go ⟨a, c, 0, 3, rfl, st4, by decide, by decide, by decide, fun s G5 s0 s1 st5 k5 => go ?_⟩⟩⟩⟩
  obtain ⟨f, rfl⟩ : ∃ n : Nat, f = (n : Int) := ⟨f.toNat, by omega⟩
  obtain ⟨d, rfl⟩ : ∃ n : Nat, d = (n : Int) := ⟨d.toNat, by omega⟩
  obtain ⟨w, rfl⟩ : ∃ n : Nat, w = (n : Int) := ⟨w.toNat, by omega⟩
  refine i_alloc fun v G6 gv v6 k6 => go ?_
  have st6 := st5.keep k6 (by simp) (by simp)
  have nv := st_new st5 gv
  refine i_ixL v6 (j := 1) (d := .int d) rfl (go (i_alloc fun q G7 gq q7 k7 => go (i_draw (st6.keep k7 (by simp) (by simp)) (by decide) (by decide) fun r G8 r0 r1 st8 k8 => go ?_)))
  have v8 := k8 _ _ (k7 _ _ v6 (by simp)) nv
  refine near_pick (k8 _ _ q7 (st_new st6 gq)) r0 r1 fun z hz => go ⟨a, c, (d : Int) + 1, z, rfl, st8, by omega, by omega, by omega, fun b G9 b0 b1 st9 k9 => go ?_⟩
  obtain ⟨b, rfl⟩ : ∃ n : Nat, b = (n : Int) := ⟨b.toNat, by omega⟩
  have v9 := k9 _ _ v8 nv
  refine i_putLA v9 (jj := 3) rfl fun G10 v10 k10 => go (i_alloc fun bd G11 gbd b11 k11 => go ?_)
  have v11 := k11 _ _ v10 (by simp)
  have hne : v ≠ bd := gne_none v10 gbd
  have h0 : LI G11 a c v bd f d w b s [] := ⟨v11, b11, hne, by simp, by omega, by omega, fun _ z => nomatch z⟩
  have hb : ∀ G', LI G' a c v bd f d w b s (bF f) → rd_law_9 m (bodyEnds Q) [some x, some (.ref a), some (.ref v), some (.ref bd), none, none] G' := fun G' h' => law9 h' K
  have bad : ¬ okF f → ∀ G', LI G' a c v bd f d w b s ([] ++ [Str.ofString "fanout"]) → rd_law_9 m (bodyEnds Q) [some x, some (.ref a), some (.ref v), some (.ref bd), none, none] G' := fun z G' h' => hb G' (h'.cast (by unfold bF; rw [if_neg z]; rfl))
  refine i_ixL h0.hv (j := 0) (d := .int f) rfl (go (i_ite (fun z => ?_) fun z => ?_))
  · exact go (i_lm1 h0.hb (go (bad_step h0 (by simp) (bad fun y => by have := y.1; omega))))
  · refine go (i_ixL h0.hv (j := 0) (d := .int f) rfl (go (i_ite (fun y => ?_) fun y => ?_)))
    · exact go (i_lm1 h0.hb (go (bad_step h0 (by simp) (bad fun z2 => by have := z2.2; omega))))
    · exact go (hb G11 (h0.cast (by unfold bF; rw [if_pos ⟨by omega, by omega⟩])))
theorem len_law (m : Gm) (ds : List D) (G : GH) (Q : GQ) (h : sp_law m ds G Q) : ds.length = 1 := by obtain ⟨x, ns, rfl, _⟩ := h; rfl
end Cz.K01

/-! k01: the walk. -/
namespace Cz.W01
open PySem PySem.Spec PyProof.Rows L2 Cz Cz.K01
abbrev FD (K : PySem.W.Frag) (x q : Str) (st : Stmt) (f : Addr) (fd : FuncData) : Prop := FunD K x q (defArgs st) (defBody st) (defScope st) [] [] f fd
structure Env (K : PySem.W.Frag) (mg : Str → Option Value) (base : Heap) (m : Gm) : Prop where
  fld : Fld m K
  n_ValueError : mg "ValueError" = none
  n_range : mg "range" = none
  n_isinstance : mg "isinstance" = none
  n_tuple : mg "tuple" = none
  n_sum : mg "sum" = none
  n_len : mg "len" = none
  n_int : mg "int" = none
  n_abs : mg "abs" = none
  d_Lstate : ∃ f fd, FD K "_law_state" "_law_state" (top 10) f fd ∧ mg "_law_state" = some (.ref f)
  d_Ldraw : ∃ f fd, FD K "_law_draw" "_law_draw" (top 11) f fd ∧ mg "_law_draw" = some (.ref f)
  d_require : ∃ f fd, FD K "require" "require" (top 6) f fd ∧ mg "require" = some (.ref f)
  d_power : ∃ f fd, FD K "power" "power" (top 7) f fd ∧ mg "power" = some (.ref f)
  d_Lnear : ∃ f fd, FD K "_law_near" "_law_near" (top 12) f fd ∧ mg "_law_near" = some (.ref f)
  d_Llevels : ∃ f fd, FD K "_law_levels" "_law_levels" (top 14) f fd ∧ mg "_law_levels" = some (.ref f)
  d_Lmade : ∃ f fd, FD K "_law_made" "_law_made" (top 13) f fd ∧ mg "_law_made" = some (.ref f)
  d_law : ∃ f fd, FD K "law" "law" (top 15) f fd ∧ mg "law" = some (.ref f)
  mt_shape_leaves : ∃ f fd, FD K "leaves" "Shape.leaves" (inClass (top 8) 1) f fd ∧ Meth K (m.cls .shape) "leaves" f ∧ Cls K (m.cls .shape)
  mt_shape_cells : ∃ f fd, FD K "cells" "Shape.cells" (inClass (top 8) 3) f fd ∧ Meth K (m.cls .shape) "cells" f ∧ Cls K (m.cls .shape)
  mt_shape_ample : ∃ f fd, FD K "ample" "Shape.ample" (inClass (top 8) 4) f fd ∧ Meth K (m.cls .shape) "ample" f ∧ Cls K (m.cls .shape)
  mk_shape : ∃ f fd, FunD K "__init__" "Shape.__init__" (defArgs (inClass (top 8) 0)) (defBody (inClass (top 8) 0)) (defScope (inClass (top 8) 0)) [] [("snapshots", V.int 0)] f fd ∧ Mk K (m.cls .shape) f ∧ mg "Shape" = some (.ref (m.cls .shape))
  oks : ∀ f ∈ [Fd.fanout, .depth, .words, .blocks, .snapshots], m.ok .shape f = true
  g_MOST_LEAVES : ∃ t, mg "MOST_LEAVES" = some (.int 64 t)
  isn : IsN m K
  exc : ∃ C B f fd, FD K "__init__" "ShapeError.__init__" (inClass (top 3) 0) f fd ∧ ExC K mg C B f
theorem sc_Lstate : FnScope N_Lstate ["_law_script"] (defScope (top 10)) := C8.fnScope_by (by decide +kernel)
theorem sc_Ldraw : FnScope N_Ldraw ["_law_state_here", "_law_many"] (defScope (top 11)) := C8.fnScope_by (by decide +kernel)
theorem sc_require : FnScope N_require ["holds", "name"] (defScope (top 6)) := C8.fnScope_by (by decide +kernel)
theorem sc_power : FnScope N_power ["base", "exponent"] (defScope (top 7)) := C8.fnScope_by (by decide +kernel)
theorem sc_shape_init : FnScope N_shape_init ["self", "fanout", "depth", "words", "blocks", "snapshots"] (defScope (inClass (top 8) 0)) := C8.fnScope_by (by decide +kernel)
theorem sc_shape_leaves : FnScope N_shape_leaves ["self"] (defScope (inClass (top 8) 1)) := C8.fnScope_by (by decide +kernel)
theorem sc_shape_cells : FnScope N_shape_cells ["self"] (defScope (inClass (top 8) 3)) := C8.fnScope_by (by decide +kernel)
theorem sc_shape_ample : FnScope N_shape_ample ["self"] (defScope (inClass (top 8) 4)) := C8.fnScope_by (by decide +kernel)
theorem sc_Lnear : FnScope N_Lnear ["_law_state_here", "_law_least", "_law_greatest"] (defScope (top 12)) := C8.fnScope_by (by decide +kernel)
theorem sc_Llevels : FnScope N_Llevels ["_law_fanout", "_law_depth"] (defScope (top 14)) := C8.fnScope_by (by decide +kernel)
theorem sc_Lmade : FnScope N_Lmade ["_law_v"] (defScope (top 13)) := C8.fnScope_by (by decide +kernel)
theorem sc_law : FnScope N_law ["_law_script"] (defScope (top 15)) := C8.fnScope_by (by decide +kernel)
section
variable {P : Program} {w : World} {K : PySem.W.Frag} {mg : Str → Option Value} {base : Heap} {m : Gm}
theorem g_Lstate (W : Env K mg base m) : GFn P w K mg base m 1 "_law_state" (sp_Lstate) := by
  obtain ⟨f, fd, F, hm⟩ := W.d_Lstate
  refine ⟨f, fd, ["_law_script"], fn_ok F sc_Lstate (len_Lstate) (fun cdv A outer s H E0 hr => ?_) (rdp_Lstate m), hm, F.kp, F.bindsN fun _ _ _ _ _ _ us hl => match us, hl with | [_], _ => rfl⟩
  have hu := hu65 hr
  have nd := sc_Lstate.nd
  exact qb_cons (qs_set (i := 1) nd rfl (by first | exact .inl rfl | exact .inr rfl) (q_int))
    (qb_cons (qs_for PassesOwn.never rfl (qi_seq (v 0)) (qg_name (i := 2) nd rfl (by first | exact .inl rfl | exact .inr rfl)) (qb_one (qs_set (i := 1) nd rfl (by first | exact .inl rfl | exact .inr rfl) (q_mod (w_int (by rfl) W.n_int (qa_cons (q_add (q_mul (v 1) (q_int)) (v 2)) (qa_nil))) (q_int)))))
    (qb_one (qs_ret (q_lst (qa_cons (q_lc (own := [("_law_cell", 2)]) rfl nd (qi_seq (v 0)) (blkOk_by (N := N_Lstate) (sc := defScope (top 10)) (by decide +kernel)) (by decide) (fun _ _ _ _ _ => qg_name (i := 2) nd rfl (by first | exact .inl rfl | exact .inr rfl)) (fun _ _ _ _ _ => qts_nil) (fun _ _ _ _ _ => w_abs (by rfl) W.n_abs (qa_cons (v 2) (qa_nil)))) (qa_cons (q_add (v 1) (q_int)) (qa_nil)))))))

theorem g_Ldraw (W : Env K mg base m) : GFn P w K mg base m 1 "_law_draw" (sp_Ldraw) := by
  obtain ⟨f, fd, F, hm⟩ := W.d_Ldraw
  refine ⟨f, fd, ["_law_state_here", "_law_many"], fn_ok F sc_Ldraw (len_Ldraw) (fun cdv A outer s H E0 hr => ?_) (rdp_Ldraw m), hm, F.kp, F.bindsN fun _ _ _ _ _ _ us hl => match us, hl with | [_, _], _ => rfl⟩
  have hu := hu65 hr
  have nd := sc_Ldraw.nd
  exact qb_cons (qs_set (i := 2) nd rfl (by first | exact .inl rfl | exact .inr rfl) (ix hu (v 0) (q_int)))
    (qb_cons (qs_while PassesOwn.never ((qw_and (qt_gt (w_len (by rfl) W.n_len (qa_cons (v 2) (qa_nil))) (q_int)) (qw_and1 (qt_eq (hu64 hu) (ix hu (v 2) (q_int)) (q_int)))).qt) (qb_one (qs_drop (q_pop0 (v 2) (qa_cons (q_int) (qa_nil))))))
    (qb_cons (qs_if (qt_gt (w_len (by rfl) W.n_len (qa_cons (v 2) (qa_nil))) (q_int)) (qb_cons (qs_set (i := 3) nd rfl (by first | exact .inl rfl | exact .inr rfl) (ix hu (v 2) (q_int)))
    (qb_cons (qs_put (hu64 hu) (q_div (v 3) (v 1)) (v 2) (q_int))
    (qb_one (qs_ret (q_mod (w_int (by rfl) W.n_int (qa_cons (v 3) (qa_nil))) (v 1)))))) (qb_nil))
    (qb_cons (qs_set (i := 4) nd rfl (by first | exact .inl rfl | exact .inr rfl) (q_mod (w_int (by rfl) W.n_int (qa_cons (q_add (q_mul (ix hu (v 0) (q_int)) (q_int)) (q_int)) (qa_nil))) (q_int)))
    (qb_cons (qs_put (hu64 hu) (v 4) (v 0) (q_int))
    (qb_one (qs_ret (q_mod (w_int (by rfl) W.n_int (qa_cons (q_div (v 4) (q_int)) (qa_nil))) (v 1))))))))

theorem g_require (W : Env K mg base m) : GFn P w K mg base m 1 "require" (sp_require) := by
  obtain ⟨f, fd, F, hm⟩ := W.d_require
  refine ⟨f, fd, ["holds", "name"], fn_ok F sc_require (len_require) (fun cdv A outer s H E0 hr => ?_) (rdp_require m), hm, F.kp, F.bindsN fun _ _ _ _ _ _ us hl => match us, hl with | [_, _], _ => rfl⟩
  have hu := hu65 hr
  have nd := sc_require.nd
  exact qb_one (qs_if (qt_not (qt_tru (v 0))) (qb_one (qs_never)) (qb_nil))

theorem g_power (W : Env K mg base m) : GFn P w K mg base m 1 "power" (sp_power) := by
  obtain ⟨f, fd, F, hm⟩ := W.d_power
  refine ⟨f, fd, ["base", "exponent"], fn_ok F sc_power (len_power) (fun cdv A outer s H E0 hr => ?_) (rdp_power m), hm, F.kp, F.bindsN fun _ _ _ _ _ _ us hl => match us, hl with | [_, _], _ => rfl⟩
  have hu := hu65 hr
  have nd := sc_power.nd
  exact qb_cons (qs_set (i := 2) nd rfl (by first | exact .inl rfl | exact .inr rfl) (q_int))
    (qb_cons (qs_for PassesOwn.never rfl (qi_range1 (by rfl) W.n_range (qa_cons (v 1) (qa_nil))) (qg_name (i := 3) nd rfl (by first | exact .inl rfl | exact .inr rfl)) (qb_one (qs_set (i := 2) nd rfl (by first | exact .inl rfl | exact .inr rfl) (q_mul (v 2) (v 0)))))
    (qb_one (qs_ret (v 2))))

theorem g_shape_init_kw4 (W : Env K mg base m) : GMkK P w K mg base m 2 "Shape" .shape ["fanout", "depth", "words", "blocks"] sp_shape_init_kw4 := by
  obtain ⟨f, fd, F, M, hm⟩ := W.mk_shape
  obtain ⟨mv, hb⟩ := F.kbinds0 (ps := ["self", "fanout", "depth", "words", "blocks", "snapshots"]) 1 ["fanout", "depth", "words", "blocks"] [("snapshots", .int 0)] (fun us mv ws => us ++ ws ++ mv) (by simp) (by simp) (fun h1 h2 h3 => (h1.append h3).append h2) (fun D doc pm an cdv ct us mv ws h1 h2 h3 => match us, mv, ws, h1, h2, h3 with | [_], [_], [_, _, _, _], _, _, _ => ⟨_, _, _, _, _, _, rfl, rfl, rfl⟩)
  refine ⟨f, fd, _, sp_shape_init, _, _, fun ds => ds ++ [.int 0], fn_ok F sc_shape_init len_shape_init (fun cdv A outer s H E0 hr => ?_) (rdp_shape_init m W.oks), M, hm, hb, fun p H ds vs _ h => .cons (dat_ref.mpr rfl) (All2.append h (.cons (dI 0) .nil)), fun p ds G Q h => by
    obtain ⟨p2, S, e, h0, ok, hp, k⟩ := h
    cases e
    exact ⟨rfl, p, S, by rw [h0]; rfl, ok, hp, k⟩⟩
  have hu := hu65 hr
  have nd := sc_shape_init.nd
  have g_require := g_require (P := P) (w := w) (base := base) W
  have g_power := g_power (P := P) (w := w) (base := base) W
  exact qb_cons (qs_drop (q_call g_require hr (by decide) (by rfl) (qa_cons (q_lele (q_int) (v 1) (q_int)) (qa_cons (q_str) (qa_nil)))))
    (qb_cons (qs_drop (q_call g_require hr (by decide) (by rfl) (qa_cons (q_and (q_lele (q_int) (v 2) (q_int)) (q_one (q_le (q_call g_power hr (by decide) (by rfl) (qa_cons (v 1) (qa_cons (v 2) (qa_nil)))) (q_globI (by rfl) W.g_MOST_LEAVES)))) (qa_cons (q_str) (qa_nil)))))
    (qb_cons (qs_drop (q_call g_require hr (by decide) (by rfl) (qa_cons (q_lele (q_int) (v 3) (q_int)) (qa_cons (q_str) (qa_nil)))))
    (qb_cons (qs_drop (q_call g_require hr (by decide) (by rfl) (qa_cons (q_lele (q_add (v 2) (q_int)) (v 4) (q_int)) (qa_cons (q_str) (qa_nil)))))
    (qb_cons (qs_drop (q_call g_require hr (by decide) (by rfl) (qa_cons (q_lele (q_int) (v 5) (q_int)) (qa_cons (q_str) (qa_nil)))))
    (qb_cons (qs_setF W.fld .fanout rfl (v 1) (v 0))
    (qb_cons (qs_setF W.fld .depth rfl (v 2) (v 0))
    (qb_cons (qs_setF W.fld .words rfl (v 3) (v 0))
    (qb_cons (qs_setF W.fld .blocks rfl (v 4) (v 0))
    (qb_one (qs_setF W.fld .snapshots rfl (v 5) (v 0)))))))))))

theorem gm_shape_leaves (W : Env K mg base m) : GMt P w K mg base m 2 .shape "leaves" sp_shape_leaves := by
  obtain ⟨f, fd, F, M, cl⟩ := W.mt_shape_leaves
  refine ⟨f, fd, ["self"], fn_ok F sc_shape_leaves (len_shape_leaves) (fun cdv A outer s H E0 hr => ?_) (rdp_shape_leaves m), M, cl, F.bindsN fun _ _ _ _ _ _ us hl => match us, hl with | [_], _ => rfl⟩
  have hu := hu65 hr
  have nd := sc_shape_leaves.nd
  have g_power := g_power (P := P) (w := w) (base := base) W
  exact qb_one (qs_ret (q_call g_power hr (by decide) (by rfl) (qa_cons (q_fld W.fld .fanout rfl (v 0)) (qa_cons (q_fld W.fld .depth rfl (v 0)) (qa_nil)))))

theorem g_tab_leaves (W : Env K mg base m) : ∀ c sp, tab_leaves c = some sp → GMt P w K mg base m 2 c "leaves" sp := by
  intro c sp h
  cases c
  case shape => cases h; exact gm_shape_leaves W
  case sealer => cases h
  case talk => cases h
  case read => cases h
  case scan => cases h
  case change => cases h
  case commit => cases h
  case volume => cases h
theorem gm_shape_cells (W : Env K mg base m) : GMt P w K mg base m 2 .shape "cells" sp_shape_cells := by
  obtain ⟨f, fd, F, M, cl⟩ := W.mt_shape_cells
  refine ⟨f, fd, ["self"], fn_ok F sc_shape_cells (len_shape_cells) (fun cdv A outer s H E0 hr => ?_) (rdp_shape_cells m), M, cl, F.bindsN fun _ _ _ _ _ _ us hl => match us, hl with | [_], _ => rfl⟩
  have hu := hu65 hr
  have nd := sc_shape_cells.nd
  have g_power := g_power (P := P) (w := w) (base := base) W
  exact qb_one (qs_ret (w_sum rfl (by rfl) W.n_sum (qa_cons (q_lc (own := [("level", 1)]) rfl nd (qi_range1 (by rfl) W.n_range (qa_cons (q_add (q_fld W.fld .depth rfl (v 0)) (q_int)) (qa_nil))) (blkOk_by (N := N_shape_cells) (sc := defScope (inClass (top 8) 3)) (by decide +kernel)) (by decide) (fun _ _ _ _ _ => qg_name (i := 1) nd rfl (by first | exact .inl rfl | exact .inr rfl)) (fun _ _ _ _ _ => qts_nil) (fun _ _ _ _ _ => q_call g_power hr (by decide) (by rfl) (qa_cons (q_fld W.fld .fanout rfl (v 0)) (qa_cons (v 1) (qa_nil))))) (qa_nil))))

theorem g_tab_cells (W : Env K mg base m) : ∀ c sp, tab_cells c = some sp → GMt P w K mg base m 2 c "cells" sp := by
  intro c sp h
  cases c
  case shape => cases h; exact gm_shape_cells W
  case sealer => cases h
  case talk => cases h
  case read => cases h
  case scan => cases h
  case change => cases h
  case commit => cases h
  case volume => cases h
theorem gm_shape_ample (W : Env K mg base m) : GMt P w K mg base m 3 .shape "ample" (sp_shape_ample m) := by
  obtain ⟨f, fd, F, M, cl⟩ := W.mt_shape_ample
  refine ⟨f, fd, ["self"], fn_ok F sc_shape_ample (len_shape_ample m) (fun cdv A outer s H E0 hr => ?_) (rdp_shape_ample m), M, cl, F.bindsN fun _ _ _ _ _ _ us hl => match us, hl with | [_], _ => rfl⟩
  have hu := hu65 hr
  have nd := sc_shape_ample.nd
  have g_tab_cells := g_tab_cells (P := P) (w := w) (base := base) W
  exact qb_one (qs_ret (q_mul (q_add (q_fld W.fld .snapshots rfl (v 0)) (q_int)) (q_meth0 W.fld tab_cells g_tab_cells hr (by decide) (v 0))))

theorem g_tab_ample (W : Env K mg base m) : ∀ c sp, tab_ample m c = some sp → GMt P w K mg base m 3 c "ample" sp := by
  intro c sp h
  cases c
  case shape => cases h; exact gm_shape_ample W
  case sealer => cases h
  case talk => cases h
  case read => cases h
  case scan => cases h
  case change => cases h
  case commit => cases h
  case volume => cases h
theorem g_Lnear (W : Env K mg base m) : GFn P w K mg base m 2 "_law_near" (sp_Lnear m) := by
  obtain ⟨f, fd, F, hm⟩ := W.d_Lnear
  refine ⟨f, fd, ["_law_state_here", "_law_least", "_law_greatest"], fn_ok F sc_Lnear (len_Lnear m) (fun cdv A outer s H E0 hr => ?_) (rdp_Lnear m), hm, F.kp, F.bindsN fun _ _ _ _ _ _ us hl => match us, hl with | [_, _, _], _ => rfl⟩
  have hu := hu65 hr
  have nd := sc_Lnear.nd
  have g_Ldraw := g_Ldraw (P := P) (w := w) (base := base) W
  exact qb_cons (qs_set (i := 3) nd rfl (by first | exact .inl rfl | exact .inr rfl) (q_call g_Ldraw hr (by decide) (by rfl) (qa_cons (v 0) (qa_cons (q_int) (qa_nil)))))
    (qb_cons (qs_if (qt_eq (hu64 hu) (v 3) (q_int)) (qb_one (qs_ret (ix hu (q_lst (qa_cons (q_sub (v 1) (q_int)) (qa_cons (q_add (v 2) (q_int)) (qa_nil)))) (q_call g_Ldraw hr (by decide) (by rfl) (qa_cons (v 0) (qa_cons (q_int) (qa_nil))))))) (qb_nil))
    (qb_cons (qs_if (qt_eq (hu64 hu) (v 3) (q_int)) (qb_one (qs_ret (ix hu (q_lst (qa_cons (v 1) (qa_cons (v 2) (qa_nil)))) (q_call g_Ldraw hr (by decide) (by rfl) (qa_cons (v 0) (qa_cons (q_int) (qa_nil))))))) (qb_nil))
    (qb_one (qs_ret (q_add (v 1) (q_call g_Ldraw hr (by decide) (by rfl) (qa_cons (v 0) (qa_cons (q_add (q_sub (v 2) (v 1)) (q_int)) (qa_nil)))))))))

theorem g_Llevels (W : Env K mg base m) : GFn P w K mg base m 1 "_law_levels" (sp_Llevels m) := by
  obtain ⟨f, fd, F, hm⟩ := W.d_Llevels
  refine ⟨f, fd, ["_law_fanout", "_law_depth"], fn_ok F sc_Llevels (len_Llevels m) (fun cdv A outer s H E0 hr => ?_) (rdp_Llevels m), hm, F.kp, F.bindsN fun _ _ _ _ _ _ us hl => match us, hl with | [_, _], _ => rfl⟩
  have hu := hu65 hr
  have nd := sc_Llevels.nd
  exact qb_cons (qs_set (i := 2) nd rfl (by first | exact .inl rfl | exact .inr rfl) (q_lst (qa_cons (q_int) (qa_nil))))
    (qb_cons (qs_for PassesOwn.never rfl (qi_range1 (by rfl) W.n_range (qa_cons (v 1) (qa_nil))) (qg_name (i := 3) nd rfl (by first | exact .inl rfl | exact .inr rfl)) (qb_one (qs_drop (q_append (v 2) (qa_cons (q_mul (ix hu (v 2) (v 3)) (v 0)) (qa_nil))))))
    (qb_one (qs_ret (v 2))))

theorem sc_exc : FnScope ["self", "name"] ["self", "name"] (defScope (inClass (top 3) 0)) := C8.fnScope_by (by decide +kernel)
theorem gx_exc {C B f : Addr} {fd : FuncData} (Fe : FD K "__init__" "ShapeError.__init__" (inClass (top 3) 0) f fd) (T : ExC K mg C B f) : FnOk P w K mg base CX0 1 f fd ["self", "name"] (spEI K C) :=
  ok_einit (t := "invalid shape") T Fe sc_exc fun cdv A outer s H E => pss_cons (ps_expr (pe_cinit (mg := mg) T (by rfl) (pa_cons (pe_var (i := 0) rfl (by first | exact .inl rfl | exact .inr (.inl rfl) | exact .inr (.inr rfl))) (pa_cons pe_str pa_nil)))) (pss_one (ps_ost (pe_var (i := 0) rfl (by first | exact .inl rfl | exact .inr (.inl rfl) | exact .inr (.inr rfl))) (pe_var (i := 1) rfl (by first | exact .inl rfl | exact .inr (.inl rfl) | exact .inr (.inr rfl)))))
theorem gx_require (W : Env K mg base m) {C B f : Addr} {fd : FuncData} (Fe : FD K "__init__" "ShapeError.__init__" (inClass (top 3) 0) f fd) (T : ExC K mg C B f) : ∃ (f2 : Addr) (fd2 : FuncData), FnOk P w K mg base (L2.CX P w) 3 f2 fd2 ["holds", "name"] (lowX w K m C spx_require) ∧ mg "require" = some (.ref f2) ∧ PySem.W.keepIn K (.ref f2) = true ∧ Binds K fd2 ["holds", "name"] [] := by
  have Fi := gx_exc (P := P) (w := w) (mg := mg) (base := base) Fe T
  have hbi : Binds K fd ["self", "name"] [] := Fe.bindsN fun _ _ _ _ _ _ us hl => match us, hl with | [_, _], _ => rfl
  obtain ⟨f2, fd2, F, hm⟩ := W.d_require
  refine ⟨f2, fd2, fn_okX F sc_require lenx_require (fun cdv A outer s H E0 hr => ?_) rdxp_require, hm, F.kp, F.bindsN fun _ _ _ _ _ _ us hl => match us, hl with | [_, _], _ => rfl⟩
  have hu := hu65 hr
  have nd := sc_require.nd
  exact qbx_raise rfl T Fi hr (by decide) hbi (by rfl) (qt_not (qt_tru (v 0))) (v 1)
theorem gx_shape (W : Env K mg base m) {C B f : Addr} {fd : FuncData} (Fe : FD K "__init__" "ShapeError.__init__" (inClass (top 3) 0) f fd) (T : ExC K mg C B f) : GMkX P w K mg base m C 4 "Shape" .shape ["fanout", "depth", "words", "blocks", "snapshots"] spx_shape := by
  obtain ⟨f2, fd2, F, M, hm⟩ := W.mk_shape
  obtain ⟨mv, hb⟩ := F.kbinds0 (ps := ["self", "fanout", "depth", "words", "blocks", "snapshots"]) 1 ["fanout", "depth", "words", "blocks", "snapshots"] [] (fun us _ ws => us ++ ws) (by simp) (by simp) (fun h1 _ h3 => h1.append h3) (fun D doc pm an cdv ct us mv ws h1 h2 h3 => match us, mv, ws, h1, h2, h3 with | [_], [], [_, _, _, _, _], _, _, _ => rfl)
  obtain ⟨fr, fdr, Fr, hmr, hkr, hbr⟩ := gx_require (P := P) (w := w) (base := base) W Fe T
  refine ⟨f2, fd2, _, spx_shape, _, _, id, fn_okX F sc_shape_init lenx_shape (fun cdv A outer s H E0 hr => ?_) (rdxp_shape m W.oks), M, hm, hb, fun p H ds vs _ h => .cons (dat_ref.mpr rfl) h, fun p ds G Q Wg h => ⟨by have := lenx_shape _ _ _ _ h; simpa using this, h⟩⟩
  have hu := hu65 hr
  have nd := sc_shape_init.nd
  have g_power := g_power (P := P) (w := w) (base := base) W
  exact qbx_call Fr hr (by decide) (by rfl) hmr hkr hbr (qa_cons (q_lele (q_int) (v 1) (q_int)) (qa_cons (q_str) (qa_nil)))
    (qbx_call Fr hr (by decide) (by rfl) hmr hkr hbr (qa_cons (q_and (q_lele (q_int) (v 2) (q_int)) (q_one (q_le (q_call g_power hr (by decide) (by rfl) (qa_cons (v 1) (qa_cons (v 2) (qa_nil)))) (q_globI (by rfl) W.g_MOST_LEAVES)))) (qa_cons (q_str) (qa_nil)))
    (qbx_call Fr hr (by decide) (by rfl) hmr hkr hbr (qa_cons (q_lele (q_int) (v 3) (q_int)) (qa_cons (q_str) (qa_nil)))
    (qbx_call Fr hr (by decide) (by rfl) hmr hkr hbr (qa_cons (q_lele (q_add (v 2) (q_int)) (v 4) (q_int)) (qa_cons (q_str) (qa_nil)))
    (qbx_call Fr hr (by decide) (by rfl) hmr hkr hbr (qa_cons (q_lele (q_int) (v 5) (q_int)) (qa_cons (q_str) (qa_nil)))
    (qbx_cons (qs_setF W.fld .fanout rfl (v 1) (v 0))
    (qbx_cons (qs_setF W.fld .depth rfl (v 2) (v 0))
    (qbx_cons (qs_setF W.fld .words rfl (v 3) (v 0))
    (qbx_cons (qs_setF W.fld .blocks rfl (v 4) (v 0))
    (qbx_cons (qs_setF W.fld .snapshots rfl (v 5) (v 0))
    (qbx_nil))))))))))
theorem g_Lmade (W : Env K mg base m) : GFn P w K mg base m 6 "_law_made" (sp_Lmade m) := by
  obtain ⟨f, fd, F, hm⟩ := W.d_Lmade
  obtain ⟨C, B, fe, fde, Fe, T⟩ := W.exc
  refine ⟨f, fd, ["_law_v"], fn_ok F sc_Lmade (len_Lmade m) (fun cdv A outer s H E0 hr => ?_) (rdp_Lmade m), hm, F.kp, F.bindsN fun _ _ _ _ _ _ us hl => match us, hl with | [_], _ => rfl⟩
  have hu := hu65 hr
  have nd := sc_Lmade.nd
  have gx := gx_shape (P := P) (w := w) (base := base) W Fe T
  exact qb_one (qs_try (i := 1) T rfl rfl nd rfl rfl (by rfl) gx hr (by decide) (by rfl) (fun pn xe => qk_cons (ix hu (v 0) (q_int)) (qk_cons (ix hu (v 0) (q_int)) (qk_cons (ix hu (v 0) (q_int)) (qk_cons (ix hu (v 0) (q_int)) (qk_cons (ix hu (v 0) (q_int)) (qk_nil))))))
    (fun a oe cls d pn hz hf => suite_ok T hz hf (by rfl) W.n_isinstance (by rfl) (by rfl) W.n_ValueError (fun p => pe_var (i := 1) rfl (by first | exact .inl rfl | exact .inr (.inl rfl) | exact .inr (.inr rfl)))))

theorem law_ok {f : Addr} {fd : FuncData} (W : Env K mg base m) (F : FD K "law" "law" (top 15) f fd) : FnOk P w K mg base CX0 7 f fd ["_law_script"] (low w K m (sp_law m)) := by
  refine fn_ok F sc_law (len_law m) (fun cdv A outer s H E0 hr => ?_) (rdp_law m)
  have hu := hu65 hr
  have nd := sc_law.nd
  have g_Lstate := g_Lstate (P := P) (w := w) (base := base) W
  have g_Lnear := g_Lnear (P := P) (w := w) (base := base) W
  have g_Ldraw := g_Ldraw (P := P) (w := w) (base := base) W
  have g_Llevels := g_Llevels (P := P) (w := w) (base := base) W
  have g_Lmade := g_Lmade (P := P) (w := w) (base := base) W
  have g_tab_leaves := g_tab_leaves (P := P) (w := w) (base := base) W
  have g_tab_cells := g_tab_cells (P := P) (w := w) (base := base) W
  have g_tab_ample := g_tab_ample (P := P) (w := w) (base := base) W
  have g_shape_init_kw4 := g_shape_init_kw4 (P := P) (w := w) (base := base) W
  exact qb_cons (qs_set (i := 1) nd rfl (by first | exact .inl rfl | exact .inr rfl) (q_call g_Lstate hr (by decide) (by rfl) (qa_cons (v 0) (qa_nil))))
    (qb_cons (qs_set (i := 2) nd rfl (by first | exact .inl rfl | exact .inr rfl) (q_lst (qa_cons (q_call g_Lnear hr (by decide) (by rfl) (qa_cons (v 1) (qa_cons (q_int) (qa_cons (q_int) (qa_nil))))) (qa_cons (q_call g_Lnear hr (by decide) (by rfl) (qa_cons (v 1) (qa_cons (q_int) (qa_cons (q_int) (qa_nil))))) (qa_cons (q_call g_Lnear hr (by decide) (by rfl) (qa_cons (v 1) (qa_cons (q_int) (qa_cons (q_int) (qa_nil))))) (qa_cons (q_int) (qa_cons (q_call g_Lnear hr (by decide) (by rfl) (qa_cons (v 1) (qa_cons (q_int) (qa_cons (q_int) (qa_nil))))) (qa_nil))))))))
    (qb_cons (qs_put (hu64 hu) (q_call g_Lnear hr (by decide) (by rfl) (qa_cons (v 1) (qa_cons (q_add (ix hu (v 2) (q_int)) (q_int)) (qa_cons (ix hu (q_lst (qa_cons (q_int) (qa_cons (q_int) (qa_nil)))) (q_call g_Ldraw hr (by decide) (by rfl) (qa_cons (v 1) (qa_cons (q_int) (qa_nil))))) (qa_nil))))) (v 2) (q_int))
    (qb_cons (qs_set (i := 3) nd rfl (by first | exact .inl rfl | exact .inr rfl) (q_lst (qa_nil)))
    (qb_cons (qs_if ((qw_or (qt_lt (ix hu (v 2) (q_int)) (q_int)) (qw_or1 (qt_gt (ix hu (v 2) (q_int)) (q_int)))).qt) (qb_one (qs_drop (q_append (v 3) (qa_cons (q_str) (qa_nil))))) (qb_nil))
    (qb_cons (qs_if ((qw_or (qt_lt (ix hu (v 2) (q_int)) (q_int)) (qw_or (qt_gt (ix hu (v 2) (q_int)) (q_int)) (qw_or1 (qt_gt (ix hu (q_call g_Llevels hr (by decide) (by rfl) (qa_cons (ix hu (v 2) (q_int)) (qa_cons (ix hu (v 2) (q_int)) (qa_nil)))) (q_neg (q_int))) (q_int))))).qt) (qb_one (qs_drop (q_append (v 3) (qa_cons (q_str) (qa_nil))))) (qb_nil))
    (qb_cons (qs_if ((qw_or (qt_lt (ix hu (v 2) (q_int)) (q_int)) (qw_or1 (qt_gt (ix hu (v 2) (q_int)) (q_int)))).qt) (qb_one (qs_drop (q_append (v 3) (qa_cons (q_str) (qa_nil))))) (qb_nil))
    (qb_cons (qs_if ((qw_or (qt_lt (ix hu (v 2) (q_int)) (q_add (ix hu (v 2) (q_int)) (q_int))) (qw_or1 (qt_gt (ix hu (v 2) (q_int)) (q_int)))).qt) (qb_one (qs_drop (q_append (v 3) (qa_cons (q_str) (qa_nil))))) (qb_nil))
    (qb_cons (qs_if ((qw_or (qt_lt (ix hu (v 2) (q_int)) (q_int)) (qw_or1 (qt_gt (ix hu (v 2) (q_int)) (q_int)))).qt) (qb_one (qs_drop (q_append (v 3) (qa_cons (q_str) (qa_nil))))) (qb_nil))
    (qb_cons (qs_set (i := 4) nd rfl (by first | exact .inl rfl | exact .inr rfl) (q_call g_Lmade hr (by decide) (by rfl) (qa_cons (v 2) (qa_nil))))
    (qb_cons (qs_if (qt_gt (w_len (by rfl) W.n_len (qa_cons (v 3) (qa_nil))) (q_int)) (qb_one (qs_ret (q_eq (hu64 hu) (v 4) (q_tup (qa_cons (q_str) (qa_cons (ix hu (v 3) (q_int)) (qa_nil))))))) (qb_nil))
    (qb_cons (qs_if (qt_val (w_isiN W.isn (by rfl) W.n_isinstance (qa_cons (v 4) (qa_cons (q_tyN (by rfl) W.n_tuple PyProof.Rows.boot_tuple) (qa_nil))))) (qb_one (qs_ret (q_bl))) (qb_nil))
    (qb_cons (qs_set (i := 5) nd rfl (by first | exact .inl rfl | exact .inr rfl) (q_call g_Llevels hr (by decide) (by rfl) (qa_cons (ix hu (v 2) (q_int)) (qa_cons (ix hu (v 2) (q_int)) (qa_nil)))))
    (qb_cons (qs_if (qt_ne (hu64 hu) (q_lst (qa_cons (q_fld W.fld .fanout rfl (v 4)) (qa_cons (q_fld W.fld .depth rfl (v 4)) (qa_cons (q_fld W.fld .words rfl (v 4)) (qa_cons (q_fld W.fld .blocks rfl (v 4)) (qa_cons (q_fld W.fld .snapshots rfl (v 4)) (qa_nil))))))) (v 2)) (qb_one (qs_ret (q_bl))) (qb_nil))
    (qb_cons (qs_if ((qw_or (qt_ne (hu64 hu) (q_meth0 W.fld tab_leaves g_tab_leaves hr (by decide) (v 4)) (ix hu (v 5) (q_neg (q_int)))) (qw_or (qt_ne (hu64 hu) (q_meth0 W.fld tab_cells g_tab_cells hr (by decide) (v 4)) (w_sum rfl (by rfl) W.n_sum (qa_cons (v 5) (qa_nil)))) (qw_or1 (qt_ne (hu64 hu) (q_meth0 W.fld (tab_ample m) g_tab_ample hr (by decide) (v 4)) (q_mul (q_add (ix hu (v 2) (q_int)) (q_int)) (w_sum rfl (by rfl) W.n_sum (qa_cons (v 5) (qa_nil)))))))).qt) (qb_one (qs_ret (q_bl))) (qb_nil))
    (qb_one (qs_ret (q_eq (hu64 hu) (q_fld W.fld .snapshots rfl (q_makeK g_shape_init_kw4 hr (by decide) (by rfl) (qk_cons (q_int) (qk_cons (q_int) (qk_cons (q_int) (qk_cons (q_int) (qk_nil))))))) (q_int))))))))))))))))))

end
end Cz.W01

/-! k01: the head, the end. -/
namespace Cz.H01
open PySem PySem.Spec PyProof.Rows L2 Cz Cz.K01
def gm (K0 K : PySem.W.Frag) : Gm where
  cls := fun c => match c with
    | .shape => He.ga K "Shape"
    | _ => 0
  ok := fun c f => match c, f with
    | .shape, .fanout => true
    | .shape, .depth => true
    | .shape, .words => true
    | .shape, .blocks => true
    | .shape, .snapshots => true
    | _, _ => false
  tabs := tabsZ K0 lam
theorem env {K0 K : PySem.W.Frag} {h base : Heap} {mg : Str → Option Value} (X0 : K0.In h) (e : lamB K0 K lam = true) (TB : ∀ p ∈ lam, LamX.TabB base mg (lamTab K0 p.1).1 (lamTab K0 p.1).2) (X : K.In h) (G : h.Ns mainGlobals mg) (c : He.SaysD fa fn K) (xb0 : xb K = true) : W01.Env K mg base (gm K0 K) where
  fld := ⟨by
    intro cc f h
    cases cc <;> cases f <;> first | exact Bool.noConfusion (show false = true from h) | skip
    case shape.fanout => exact ⟨He.cls_ok (c.fact 17 rfl), He.noat_ok (c.fact 24 rfl)⟩
    case shape.depth => exact ⟨He.cls_ok (c.fact 17 rfl), He.noat_ok (c.fact 25 rfl)⟩
    case shape.words => exact ⟨He.cls_ok (c.fact 17 rfl), He.noat_ok (c.fact 26 rfl)⟩
    case shape.blocks => exact ⟨He.cls_ok (c.fact 17 rfl), He.noat_ok (c.fact 27 rfl)⟩
    case shape.snapshots => exact ⟨He.cls_ok (c.fact 17 rfl), He.noat_ok (c.fact 28 rfl)⟩⟩
  n_ValueError := He.free_ok X G (c.fact 0 rfl)
  n_range := He.free_ok X G (c.fact 1 rfl)
  n_isinstance := He.free_ok X G (c.fact 2 rfl)
  n_tuple := He.free_ok X G (c.fact 3 rfl)
  n_sum := He.free_ok X G (c.fact 4 rfl)
  n_len := He.free_ok X G (c.fact 5 rfl)
  n_int := He.free_ok X G (c.fact 6 rfl)
  n_abs := He.free_ok X G (c.fact 7 rfl)
  d_Lstate := by
    obtain ⟨fd, F⟩ := c.def_ 0 (d := dd_d_Lstate) rfl
    exact ⟨_, fd, F, He.glo_ok X G (c.fact 8 rfl)⟩
  d_Ldraw := by
    obtain ⟨fd, F⟩ := c.def_ 1 (d := dd_d_Ldraw) rfl
    exact ⟨_, fd, F, He.glo_ok X G (c.fact 9 rfl)⟩
  d_require := by
    obtain ⟨fd, F⟩ := c.def_ 2 (d := dd_d_require) rfl
    exact ⟨_, fd, F, He.glo_ok X G (c.fact 10 rfl)⟩
  d_power := by
    obtain ⟨fd, F⟩ := c.def_ 3 (d := dd_d_power) rfl
    exact ⟨_, fd, F, He.glo_ok X G (c.fact 11 rfl)⟩
  d_Lnear := by
    obtain ⟨fd, F⟩ := c.def_ 4 (d := dd_d_Lnear) rfl
    exact ⟨_, fd, F, He.glo_ok X G (c.fact 12 rfl)⟩
  d_Llevels := by
    obtain ⟨fd, F⟩ := c.def_ 5 (d := dd_d_Llevels) rfl
    exact ⟨_, fd, F, He.glo_ok X G (c.fact 13 rfl)⟩
  d_Lmade := by
    obtain ⟨fd, F⟩ := c.def_ 6 (d := dd_d_Lmade) rfl
    exact ⟨_, fd, F, He.glo_ok X G (c.fact 14 rfl)⟩
  d_law := by
    obtain ⟨fd, F⟩ := c.def_ 7 (d := dd_d_law) rfl
    exact ⟨_, fd, F, He.glo_ok X G (c.fact 15 rfl)⟩
  mt_shape_leaves := by
    obtain ⟨fd, F⟩ := c.def_ 8 (d := dd_mt_shape_leaves) rfl
    exact ⟨_, fd, F, He.meth_ok (c.fact 16 rfl), He.cls_ok (c.fact 17 rfl)⟩
  mt_shape_cells := by
    obtain ⟨fd, F⟩ := c.def_ 9 (d := dd_mt_shape_cells) rfl
    exact ⟨_, fd, F, He.meth_ok (c.fact 18 rfl), He.cls_ok (c.fact 17 rfl)⟩
  mt_shape_ample := by
    obtain ⟨fd, F⟩ := c.def_ 10 (d := dd_mt_shape_ample) rfl
    exact ⟨_, fd, F, He.meth_ok (c.fact 19 rfl), He.cls_ok (c.fact 17 rfl)⟩
  mk_shape := by
    obtain ⟨fd, F⟩ := c.def_ 11 (d := dd_mk_shape) rfl
    exact ⟨_, fd, F, He.mkr_ok (c.fact 20 rfl), He.glo_ok X G (c.fact 21 rfl)⟩
  exc := by
    obtain ⟨fd, F⟩ := c.def_ 12 (d := dd_exc) rfl
    exact ⟨_, _, _, fd, F, exB_ok (xb_0 xb0) (He.glo_ok X G (c.fact 22 rfl)) (He.glo_ok X G (c.fact 23 rfl))⟩
  oks := by
    intro f hf
    simp only [List.mem_cons, List.not_mem_nil, or_false] at hf
    rcases hf with rfl | rfl | rfl | rfl | rfl <;> rfl
  g_MOST_LEAVES := He.int_ok X G (c.fact 29 rfl)
  isn := ⟨insB_ok (He.cls_ok (c.fact 17 rfl)) (xb_1 xb0), of_decide_eq_true (xb_2 xb0)⟩
theorem facts {P : Program} {w : World} {K0 K : PySem.W.Frag} {h : Heap} {mg : Str → Option Value} {f : Addr} (X0 : K0.In h) (e0 : lamB K0 K lam = true) (X : K.In h) (G : h.Ns mainGlobals mg) (hfa : mg ("law" : Str) = some (.ref f)) (c : He.SaysD fa fn K) (xb0 : xb K = true) :
    ∃ fd : FuncData, (∀ (s : Shared) (v : Value), BindsTo s fd ⟨[v], []⟩ [("_law_script", v)]) ∧ ∀ base : Heap, K.In base → base.Ns mainGlobals mg → (∀ p ∈ lam, LamX.TabB base mg (lamTab K0 p.1).1 (lamTab K0 p.1).2) → FnOk P w K mg base CX0 7 f fd ["_law_script"] (low w K (gm K0 K) (sp_law (gm K0 K))) := by
  obtain ⟨fd, F⟩ := c.def_ 7 (d := dd_d_law) rfl
  have e := hfa.symm.trans (He.glo_ok X G (c.fact 15 rfl))
  cases e
  have b := FunD.bindsA (ps := ["_law_script"]) F fun _ _ _ _ _ _ us hl => match us, hl with | [_], _ => rfl
  exact ⟨fd, fun s v => b s [v] rfl, fun base _ _ TB => W01.law_ok (env X0 e0 TB X G c xb0) F⟩
end Cz.H01
open PySem PySem.W PySem.Calls PyProof.Rows
theorem PySem.Challenge.cw_caisson_k01_shapes_holds : PySem.Challenge.rw_caisson_k01_shapes.Holds := by
  w_on; o_law
  refine HandSHeadRun.head_any (r := OpenLaw.row PySem.Challenge.rw_caisson_k01_shapes) (q := view (OpenLaw.row PySem.Challenge.rw_caisson_k01_shapes).prog [15]) (H := Cz.H01.hk) (ob := Cz.H01.ob) (M := 6000) (loose := Cz.H01.loose) (d := HandSHeadRun.topDef (OpenLaw.row PySem.Challenge.rw_caisson_k01_shapes).prog 15) (kwd := []) Cz.H01.ob_eq
    (by kernel_rfl) (fun s => by kernel_rfl) Cz.H01.run (by kernel_rfl) (by kernel_rfl) (by kernel_rfl) (by rfl) (by first | assumption | decide +kernel) (by decide +kernel) ⟨rfl, rfl, rfl, rfl, rfl, by decide +kernel⟩ ?hw ?hc
  case hw => w_witness2
  case hc =>
    refine LamX.walk_ofTsE (l := PySem.Challenge.rw_caisson_k01_shapes) (n := 63) (k := 7) (x := "_law_script") (CX := fun _ => L2.CX0) rfl (by decide) (by kernel_rfl) ⟨rfl, by decide, by decide⟩ ?F (fun _ _ _ _ _ z => z)
    intro w mg fa h Y G hmg0
    obtain ⟨K0, K, X0, KX, c, e, xb0⟩ := Y
    have hmg : mg ("law" : PySem.Str) = some (.ref fa) := by
      have e : (HandSHeadRun.topDef (OpenLaw.row PySem.Challenge.rw_caisson_k01_shapes).prog 15).name = ("law" : PySem.Str) := by kernel_rfl
      rw [← e]
      exact hmg0
    obtain ⟨fd, hb, hF⟩ := Cz.H01.facts (P := (PySem.Challenge.rw_caisson_k01_shapes).prog) (w := w) X0 e KX G hmg c xb0
    have lo := Cz.lamB_ok X0 e
    refine ⟨K, KX, fd, Cz.H01.lam.map fun p => Cz.lamTab K0 p.1, Cz.low w K (Cz.H01.gm K0 K) (Cz.K01.sp_law (Cz.H01.gm K0 K)), ?_, ?_, ?_, hb, fun H a ns hl _ hT hS => ?_, fun base hk hn TB => hF base hk hn fun p hp => TB _ (List.mem_map_of_mem hp)⟩
    · intro p hp
      obtain ⟨q, hq, rfl⟩ := List.mem_map.mp hp
      exact (lo.2 q hq).1
    · intro p hp
      obtain ⟨q, hq, rfl⟩ := List.mem_map.mp hp
      exact (lo.2 q hq).2.1
    · intro p hp
      obtain ⟨q, hq, rfl⟩ := List.mem_map.mp hp
      exact (lo.2 q hq).2.2.1
    · refine Cz.low_lawT (m := Cz.H01.gm K0 K) lo.1 (fun p hp => ?_) hS fun x G Q hx tb k => ⟨x, ns, rfl, hx, hl, tb, k⟩
      obtain ⟨q, hq, rfl⟩ := List.mem_map.mp (show p ∈ Cz.H01.lam.map fun p => ((Cz.lamTab K0 p.1).2, p.2) from hp)
      exact hT _ (List.mem_map_of_mem hq)

