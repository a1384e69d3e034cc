import PyProof.Rows.All
import Wide.All
import OpenK.AllK
import Wide.FinOn
import HandS.ForMost
import HandS.ForExc
import HandS.IsInst
import HandS.Flow
import HandS.Style
import HandS.TupAny
import HandS.TupLe
import HandS.Wide
import HandS.Walk
import HandS.Zip
import KE.KDictKeyed
import HandS.CallSlots
import HandS.TryMany
import HandS.WordsExc
import HandS.Rev
import HandS.Iter
import HandS.TupMul
import HandS.Sort
import HandS.SortOrd
import HandS.SortRule
import HandS.More
import KE.SortData
import KE.DataMinMax
import HandS.ExcIs
import HandS.DictTup
import HandS.Conv
import HandS.TupSets
import HandS.MapSum
import HandS.RaiseMore
import PyProof.Rows.TupDisplay
import PyProof.TupleOfSeq
import PyProof.Rows.ReprOcc
import PySem.Challenge.RW_straightedge_k79_dominoes_or_too_few
set_option Elab.async false
set_option linter.all false
set_option exponentiation.threshold 10000
set_option maxRecDepth 100000
set_option maxHeartbeats 4000000
namespace PD
open PySem PySem.Spec L2
open PyProof.Rows hiding St

/-! ### data -/
inductive D where
  | non | bl (b : Bool) | int (i : Int) | str (x : Str) | tup (xs : List D) | lst (xs : List D) | ref (n : Nat) | scr (xs : List D) | adr (a : Addr)
  deriving Inhabited

/-- an object of the memory: a list; a dict whose keys are tuples (locked while a loop walks it) -/
inductive MO where
  | lst (xs : List D)
  | dct (lk : Bool) (kvs : List (D × D))
  deriving Inhabited
abbrev Mem := List MO

inductive Res (α : Type) where
  | ok (a : α) (m : Mem) | exc (c : Str) (m : Mem) | bad
namespace Res
variable {α β : Type}
def bind (r : Res α) (f : α → Mem → Res β) : Res β := match r with
  | ok a m => f a m
  | exc c m => exc c m
  | bad => bad
@[simp] theorem bind_ok (a : α) (m : Mem) (f : α → Mem → Res β) : (ok a m).bind f = f a m := rfl
@[simp] theorem bind_exc (c : Str) (m : Mem) (f : α → Mem → Res β) : (exc c m : Res α).bind f = exc c m := rfl
@[simp] theorem bind_bad (f : α → Mem → Res β) : (bad : Res α).bind f = bad := rfl
end Res

/-! ### how data lies in the heap -/
structure Zn where
  ρ : List Addr
  φ : List Addr
def Zn.out (Z : Zn) (a : Addr) : Prop := a ∉ Z.ρ ∧ a ∉ Z.φ

mutual
def Rep (H : Hp) (Z : Zn) : D → V → Prop
  | .non, v => v = .non
  | .bl b, v => v = .bl b
  | .int i, v => v = .int i
  | .str x, v => v = .str x
  | .tup xs, v => ∃ a vs, v = .ref a ∧ Rd H a (.tup vs) ∧ Z.out a ∧ Reps H Z xs vs
  | .lst xs, v => ∃ a vs, v = .ref a ∧ H a = some (.lst vs) ∧ Z.out a ∧ Reps H Z xs vs
  | .ref n, v => ∃ a, Z.ρ[n]? = some a ∧ v = .ref a
  | .scr xs, v => ∃ a vs, v = .ref a ∧ Rd H a (.lst vs) ∧ Z.out a ∧ Reps H Z xs vs
  | .adr a, v => v = .ref a
def Reps (H : Hp) (Z : Zn) : List D → List V → Prop
  | [], vs => vs = []
  | x :: xs, vs => ∃ v r, vs = v :: r ∧ Rep H Z x v ∧ Reps H Z xs r
end

/-- what stands stays, the memory's objects set aside -/
structure Ext (Z : Zn) (H : Hp) (Z' : Zn) (H' : Hp) : Prop where
  phi1 : ∀ a, a ∈ Z.φ → a ∈ Z'.φ
  phi2 : ∀ a, a ∈ Z'.φ → a ∈ Z.φ ∨ H a = none
  pre : ∃ more, Z'.ρ = Z.ρ ++ more
  keep : ∀ a o, H a = some o → a ∉ Z.ρ → H' a = some o ∧ a ∉ Z'.ρ
  more : ∀ a o, H a = some o → ∃ o', H' a = some o'
  frz : ∀ a od u, H a = some (.frz od u) → H' a = some (.frz od u)
theorem Ext.refl (Z : Zn) (H : Hp) : Ext Z H Z H := ⟨fun _ h => h, fun _ h => .inl h, ⟨[], by simp⟩, fun a o h n => ⟨h, n⟩, fun a o h => ⟨o, h⟩, fun _ _ _ h => h⟩
theorem Ext.trans {Z Z1 Z2 : Zn} {H H1 H2 : Hp} (a : Ext Z H Z1 H1) (b : Ext Z1 H1 Z2 H2) : Ext Z H Z2 H2 where
  phi1 := fun c h => b.phi1 c (a.phi1 c h)
  phi2 := fun c h => by
    rcases b.phi2 c h with h | h
    · exact a.phi2 c h
    · refine .inr ?_
      cases e : H c with
      | none => rfl
      | some o =>
        obtain ⟨o', e'⟩ := a.more c o e
        rw [h] at e'; cases e'
  pre := by
    obtain ⟨m1, e1⟩ := a.pre
    obtain ⟨m2, e2⟩ := b.pre
    exact ⟨m1 ++ m2, by rw [e2, e1, List.append_assoc]⟩
  keep := fun c o h n => by
    obtain ⟨h1, n1⟩ := a.keep c o h n
    exact b.keep c o h1 n1
  more := fun c o h => by
    obtain ⟨o1, h1⟩ := a.more c o h
    exact b.more c o1 h1
  frz := fun c od u h => b.frz c od u (a.frz c od u h)
theorem Rd.there {H : Hp} {a : Addr} {u : HO} (r : Rd H a u) : ∃ o, H a = some o := by
  rcases r with r | ⟨o, r⟩
  · exact ⟨_, r⟩
  · exact ⟨_, r⟩
theorem Rd.ext {Z Z' : Zn} {H H' : Hp} {a : Addr} {u : HO} (x : Ext Z H Z' H') (r : Rd H a u) (n : Z.out a) : Rd H' a u ∧ Z'.out a := by
  have n2 : a ∉ Z'.φ := fun h => by
    rcases x.phi2 a h with h | h
    · exact n.2 h
    · obtain ⟨o, e⟩ := Rd.there r
      rw [h] at e; cases e
  rcases r with r | ⟨o, r⟩
  · obtain ⟨h1, h2⟩ := x.keep a _ r n.1
    exact ⟨.inl h1, h2, n2⟩
  · obtain ⟨h1, h2⟩ := x.keep a _ r n.1
    exact ⟨.inr ⟨o, h1⟩, h2, n2⟩
mutual
theorem Rep.ext {Z Z' : Zn} {H H' : Hp} (x : Ext Z H Z' H') : ∀ (d : D) (v : V), Rep H Z d v → Rep H' Z' d v
  | .non, v, h => by simp only [Rep] at h ⊢; exact h
  | .bl b, v, h => by simp only [Rep] at h ⊢; exact h
  | .int i, v, h => by simp only [Rep] at h ⊢; exact h
  | .str s, v, h => by simp only [Rep] at h ⊢; exact h
  | .tup xs, v, h => by
    simp only [Rep] at h ⊢
    obtain ⟨a, vs, e, r, n, rs⟩ := h
    obtain ⟨r', n'⟩ := Rd.ext x r n
    exact ⟨a, vs, e, r', n', Reps.ext x xs vs rs⟩
  | .lst xs, v, h => by
    simp only [Rep] at h ⊢
    obtain ⟨a, vs, e, r, n, rs⟩ := h
    obtain ⟨r', n'⟩ := Rd.ext x (.inl r) n
    exact ⟨a, vs, e, (x.keep a _ r n.1).1, n', Reps.ext x xs vs rs⟩
  | .adr a, v, h => by simp only [Rep] at h ⊢; exact h
  | .scr xs, v, h => by
    simp only [Rep] at h ⊢
    obtain ⟨a, vs, e, r, n, rs⟩ := h
    obtain ⟨r', n'⟩ := Rd.ext x r n
    exact ⟨a, vs, e, r', n', Reps.ext x xs vs rs⟩
  | .ref n, v, h => by
    simp only [Rep] at h ⊢
    obtain ⟨a, e, e2⟩ := h
    obtain ⟨more, em⟩ := x.pre
    refine ⟨a, ?_, e2⟩
    rw [em, List.getElem?_append_left (List.getElem?_eq_some_iff.mp e).1]
    exact e
theorem Reps.ext {Z Z' : Zn} {H H' : Hp} (x : Ext Z H Z' H') : ∀ (ds : List D) (vs : List V), Reps H Z ds vs → Reps H' Z' ds vs
  | [], vs, h => by simp only [Reps] at h ⊢; exact h
  | d :: ds, vs, h => by
    simp only [Reps] at h ⊢
    obtain ⟨v, r, e, h1, h2⟩ := h
    exact ⟨v, r, e, Rep.ext x d v h1, Reps.ext x ds r h2⟩
end
theorem reps_len {H : Hp} {Z : Zn} : ∀ {ds : List D} {vs : List V}, Reps H Z ds vs → ds.length = vs.length
  | [], vs, h => by simp only [Reps] at h; subst h; rfl
  | d :: ds, vs, h => by
    simp only [Reps] at h
    obtain ⟨v, r, e, h1, h2⟩ := h
    subst e
    rw [List.length_cons, List.length_cons, reps_len h2]
theorem reps_get {H : Hp} {Z : Zn} : ∀ {ds : List D} {vs : List V} {i : Nat} {d : D}, Reps H Z ds vs → ds[i]? = some d → ∃ v, vs[i]? = some v ∧ Rep H Z d v
  | [], _, _, _, _, e => by simp at e
  | d :: ds, vs, i, d', h, e => by
    simp only [Reps] at h
    obtain ⟨v, r, e1, h1, h2⟩ := h
    subst e1
    cases i with
    | zero => simp at e; subst e; exact ⟨v, rfl, h1⟩
    | succ i =>
      rw [List.getElem?_cons_succ] at e ⊢
      exact reps_get h2 e
theorem reps_get' {H : Hp} {Z : Zn} {ds : List D} {vs : List V} {i : Nat} {v : V} (h : Reps H Z ds vs) (e : vs[i]? = some v) : ∃ d, ds[i]? = some d ∧ Rep H Z d v := by
  have hl := reps_len h
  have hi := (List.getElem?_eq_some_iff.mp e).1
  have hi' : i < ds.length := by omega
  obtain ⟨v', e', r⟩ := reps_get h (List.getElem?_eq_getElem hi')
  rw [e] at e'; cases e'
  exact ⟨_, List.getElem?_eq_getElem hi', r⟩
theorem reps_app {H : Hp} {Z : Zn} : ∀ {ds es : List D} {vs us : List V}, Reps H Z ds vs → Reps H Z es us → Reps H Z (ds ++ es) (vs ++ us)
  | [], es, vs, us, h, k => by simp only [Reps] at h; subst h; exact k
  | d :: ds, es, vs, us, h, k => by
    simp only [Reps] at h
    obtain ⟨v, r, e, h1, h2⟩ := h
    subst e
    show Reps H Z (d :: (ds ++ es)) (v :: (r ++ us))
    simp only [Reps]
    exact ⟨v, r ++ us, rfl, h1, reps_app h2 k⟩
theorem reps_one {H : Hp} {Z : Zn} {d : D} {v : V} (h : Rep H Z d v) : Reps H Z [d] [v] := by
  simp only [Reps]; exact ⟨v, [], rfl, h, rfl⟩
theorem reps_take {H : Hp} {Z : Zn} : ∀ {ds : List D} {vs : List V} (n : Nat), Reps H Z ds vs → Reps H Z (ds.take n) (vs.take n)
  | [], vs, n, h => by simp only [Reps] at h; subst h; simp [Reps]
  | d :: ds, vs, 0, h => by simp [Reps]
  | d :: ds, vs, n + 1, h => by
    simp only [Reps] at h
    obtain ⟨v, r, e, h1, h2⟩ := h
    subst e
    simp only [List.take_succ_cons, Reps]
    exact ⟨v, _, rfl, h1, reps_take n h2⟩
theorem reps_drop {H : Hp} {Z : Zn} : ∀ {ds : List D} {vs : List V} (n : Nat), Reps H Z ds vs → Reps H Z (ds.drop n) (vs.drop n)
  | [], vs, n, h => by simp only [Reps] at h; subst h; simp [Reps]
  | d :: ds, vs, 0, h => h
  | d :: ds, vs, n + 1, h => by
    simp only [Reps] at h
    obtain ⟨v, r, e, h1, h2⟩ := h
    subst e
    simp only [List.drop_succ_cons]
    exact reps_drop n h2
theorem reps_rev {H : Hp} {Z : Zn} : ∀ {ds : List D} {vs : List V}, Reps H Z ds vs → Reps H Z ds.reverse vs.reverse
  | [], vs, h => by simp only [Reps] at h; subst h; simp [Reps]
  | d :: ds, vs, h => by
    simp only [Reps] at h
    obtain ⟨v, r, e, h1, h2⟩ := h
    subst e
    rw [List.reverse_cons, List.reverse_cons]
    exact reps_app (reps_rev h2) (reps_one h1)
theorem reps_set {H : Hp} {Z : Zn} {d : D} {v : V} (k : Rep H Z d v) : ∀ {ds : List D} {vs : List V} (n : Nat), Reps H Z ds vs → Reps H Z (ds.set n d) (vs.set n v)
  | [], vs, n, h => by simp only [Reps] at h; subst h; simp [Reps]
  | e :: ds, vs, n, h => by
    simp only [Reps] at h
    obtain ⟨u, r, e1, h1, h2⟩ := h
    subst e1
    cases n with
    | zero => simp only [List.set_cons_zero, Reps]; exact ⟨v, r, rfl, k, h2⟩
    | succ n => simp only [List.set_cons_succ, Reps]; exact ⟨u, _, rfl, h1, reps_set k n h2⟩

/-! ### the memory -/
mutual
/-- data as a dict's key: nested tuples of whole numbers and None -/
def keyD : D → Option NestedKey
  | .int i => some (.num i)
  | .non => some .none
  | .tup xs => (keyDs xs).map .tup
  | _ => none
def keyDs : List D → Option (List NestedKey)
  | [] => some []
  | x :: xs => (keyD x).bind fun k => (keyDs xs).map (k :: ·)
end
/-- the object of a dict, its keys at their places -/
def dctO (L : List (NestedKey × Addr × V)) (a : Addr) : HO := .ext fun h => (a == sysModules) = false ∧ L.length ≤ sizeLine ∧ (L.map (·.1)).Nodup ∧ (∀ p ∈ L, p.1.depth ≤ 8) ∧
  ∃ xs : List (NestedKey × Addr × Value), Paired (fun (p : NestedKey × Addr × V) (q : NestedKey × Addr × Value) => p.1 = q.1 ∧ p.2.1 = q.2.1 ∧ RelV p.2.2 q.2.2) L xs ∧
  ∃ o es ep, h.get? a = some o ∧ o.ExactDict ∧ o.data = .dict es ep ∧ ∀ w : World, es.toList = xs.map fun x => ⟨x.1.hash w, .ref x.2.1, x.2.2⟩
def lkO (lk : Bool) (u v : HO) : Prop := match lk with
  | true => ∃ od, v = .frz od u
  | false => v = u
def ORep (H : Hp) (Z : Zn) : MO → Addr → Prop
  | .lst xs, a => ∃ vs, H a = some (.lst vs) ∧ Reps H Z xs vs
  | .dct lk kvs, a => ∃ (L : List (NestedKey × Addr × V)) (u : HO), H a = some u ∧ lkO lk (dctO L a) u ∧ Paired (fun (p : D × D) (q : NestedKey × Addr × V) => keyD p.1 = some q.1 ∧ Rep H Z p.1 (.ref q.2.1) ∧ Rep H Z p.2 q.2.2) kvs L
structure MRep (H : Hp) (Z : Zn) (m : Mem) : Prop where
  len : m.length = Z.ρ.length
  nd : Z.ρ.Nodup
  off : ∀ a ∈ Z.ρ, a ∉ Z.φ
  asd : ∀ a ∈ Z.φ, ∃ o, H a = some o
  obj : ∀ (n : Nat) (a : Addr) (o : MO), Z.ρ[n]? = some a → m[n]? = some o → ORep H Z o a
theorem ORep.there {H : Hp} {Z : Zn} {o : MO} {a : Addr} (h : ORep H Z o a) : ∃ u, H a = some u := by
  cases o with
  | lst xs => obtain ⟨vs, e, _⟩ := h; exact ⟨_, e⟩
  | dct lk kvs => obtain ⟨L, u, e, _⟩ := h; exact ⟨_, e⟩
theorem MRep.there {H : Hp} {Z : Zn} {m : Mem} (M : MRep H Z m) {a : Addr} (h : a ∈ Z.ρ) : ∃ u, H a = some u := by
  obtain ⟨n, hn, e⟩ := List.mem_iff_getElem.mp h
  have hm : n < m.length := by rw [M.len]; exact hn
  exact (M.obj n a _ (by rw [List.getElem?_eq_getElem hn, e]) (List.getElem?_eq_getElem hm)).there

/-! ### the slots -/
abbrev Sg := List (Option D)
structure SRep (H : Hp) (Z : Zn) (σd : Sg) (σ : St) : Prop where
  len : σd.length = σ.length
  val : ∀ (i : Nat) (d : D), σd[i]? = some (some d) → ∃ v, σ[i]? = some (some v) ∧ Rep H Z d v
theorem SRep.ext {Z Z' : Zn} {H H' : Hp} {σd : Sg} {σ : St} (S : SRep H Z σd σ) (x : Ext Z H Z' H') : SRep H' Z' σd σ :=
  ⟨S.len, fun i d e => let ⟨v, e', r⟩ := S.val i d e; ⟨v, e', Rep.ext x _ _ r⟩⟩
theorem SRep.set {Z : Zn} {H : Hp} {σd : Sg} {σ : St} {d : D} {v : V} (S : SRep H Z σd σ) (i : Nat) (r : Rep H Z d v) : SRep H Z (σd.set i (some d)) (σ.set i (some v)) := by
  refine ⟨by simp [S.len], fun j d' e => ?_⟩
  by_cases h : i = j
  · subst h
    by_cases hi : i < σd.length
    · rw [List.getElem?_set_self hi] at e
      cases e
      exact ⟨v, by rw [List.getElem?_set_self (by rw [← S.len]; exact hi)], r⟩
    · rw [List.getElem?_eq_none (by simpa using hi)] at e; cases e
  · rw [List.getElem?_set_ne h] at e ⊢
    exact S.val j d' e
end PD
namespace PD
open PySem PySem.Spec L2
open PyProof.Rows hiding St

/-! ### judgements -/
abbrev EF := Sg → Mem → Res D
abbrev TF := Sg → Mem → Res Bool
abbrev AF := Sg → Mem → Res (List D)

def Fin {α : Type} (X : Cx) (W : WX) (σ : St) (H : Hp) (Z : Zn) (r : Res α) (R : α → Mem → Hp → Zn → Prop) : Prop :=
  match r with
  | .ok a m => ∀ H' Z', Ext Z H Z' H' → MRep H' Z' m → R a m H' Z'
  | .exc c m => ∀ u H' Z', X.mg c = some u → Ext Z H Z' H' → MRep H' Z' m → W u none σ H'
  | .bad => False
section
variable {X : Cx} {W : WX} {σ : St} {H : Hp} {Z : Zn} {α β : Type}
theorem Fin.mono {r : Res α} {R R' : α → Mem → Hp → Zn → Prop} (h : Fin X W σ H Z r R) (k : ∀ a m H' Z', Ext Z H Z' H' → MRep H' Z' m → R a m H' Z' → R' a m H' Z') : Fin X W σ H Z r R' := by
  cases r with
  | ok a m => exact fun H' Z' x M => k a m H' Z' x M (h H' Z' x M)
  | exc c m => exact h
  | bad => exact h
theorem Fin.shift {r : Res α} {R : α → Mem → Hp → Zn → Prop} {H1 : Hp} {Z1 : Zn} (x : Ext Z H Z1 H1) (h : Fin X W σ H Z r R) : Fin X W σ H1 Z1 r R := by
  cases r with
  | ok a m => exact fun H' Z' y M => h H' Z' (x.trans y) M
  | exc c m => exact fun u H' Z' e y M => h u H' Z' e (x.trans y) M
  | bad => exact h
theorem Fin.bind {r : Res α} {f : α → Mem → Res β} {R : β → Mem → Hp → Zn → Prop} (h : Fin X W σ H Z (r.bind f) R) : Fin X W σ H Z r fun a m H1 Z1 => Fin X W σ H1 Z1 (f a m) R := by
  cases r with
  | ok a m => exact fun H1 Z1 x M => Fin.shift x h
  | exc c m => exact h
  | bad => exact h
end

def rdE (X : Cx) (W : WX) (f : EF) : TE := fun σ H Q => ∃ Z σd m, SRep H Z σd σ ∧ MRep H Z m ∧ Fin X W σ H Z (f σd m) fun d _ H' Z' => ∀ v, Rep H' Z' d v → Q v H'
def rdT (X : Cx) (W : WX) (f : TF) : TT := fun σ H Q => ∃ Z σd m, SRep H Z σd σ ∧ MRep H Z m ∧ Fin X W σ H Z (f σd m) fun b _ H' _ => Q b H'
def rdA (X : Cx) (W : WX) (f : AF) : TA := fun σ H Q => ∃ Z σd m, SRep H Z σd σ ∧ MRep H Z m ∧ Fin X W σ H Z (f σd m) fun ds _ H' Z' => ∀ vs, Reps H' Z' ds vs → Q vs H'

abbrev E (X : Cx) (W : WX) (e : Expr) (f : EF) : Prop := PE X e (rdE X W f)
abbrev T (X : Cx) (W : WX) (e : Expr) (f : TF) : Prop := PT X e (rdT X W f)
abbrev TW (X : Cx) (W : WX) (e : Expr) (f : TF) : Prop := PW X e (rdT X W f)
abbrev AA (X : Cx) (W : WX) (es : List Expr) (f : AF) : Prop := PA X es (rdA X W f)

theorem PE.imp {X : Cx} {e : Expr} {t t' : TE} (h : PE X e t) (k : ∀ σ H Q, t' σ H Q → t σ H Q) : PE X e t' := ⟨fun pins s σ H Q I q => h.run pins s σ H Q I (k σ H Q q)⟩
theorem PT.imp {X : Cx} {e : Expr} {t t' : TT} (h : PT X e t) (k : ∀ σ H Q, t' σ H Q → t σ H Q) : PT X e t' := ⟨fun pins s σ H Q I q => h.run pins s σ H Q I (k σ H Q q)⟩
theorem PW.imp {X : Cx} {e : Expr} {t t' : TT} (h : PW X e t) (k : ∀ σ H Q, t' σ H Q → t σ H Q) : PW X e t' := ⟨fun wh pins s σ H Q I q => h.run wh pins s σ H Q I (k σ H Q q)⟩
theorem PA.imp {X : Cx} {es : List Expr} {t t' : TA} (h : PA X es t) (k : ∀ σ H Q, t' σ H Q → t σ H Q) : PA X es t' := ⟨fun pos pins s σ H Q I q => h.run pos pins s σ H Q I (k σ H Q q)⟩

/-- what an operation on data is worth: no exception -/
def FinO (H : Hp) (Z : Zn) (r : Res D) (Q : VK) : Prop :=
  match r with
  | .ok d m => ∀ H' Z' v, Ext Z H Z' H' → MRep H' Z' m → Rep H' Z' d v → Q v H'
  | _ => False
def rdO2 (op : D → D → Mem → Res D) : R2 := fun x y H Q => ∃ Z m dx dy, Rep H Z dx x ∧ Rep H Z dy y ∧ MRep H Z m ∧ FinO H Z (op dx dy m) Q
def rdO1 (op : D → Mem → Res D) : V → Hp → VK → Prop := fun x H Q => ∃ Z m dx, Rep H Z dx x ∧ MRep H Z m ∧ FinO H Z (op dx m) Q
def rdC (op : List D → Mem → Res D) : List V → Hp → VK → Prop := fun xs H Q => ∃ Z m ds, Reps H Z ds xs ∧ MRep H Z m ∧ FinO H Z (op ds m) Q
/-- operations that never raise -/
def noexc {α : Type} (r : Res α) : Res α := match r with | .exc _ _ => .bad | r => r
@[simp] theorem noexc_ok {α : Type} (a : α) (m : Mem) : noexc (.ok a m) = .ok a m := rfl
@[simp] theorem noexc_bad {α : Type} : noexc (.bad : Res α) = .bad := rfl
theorem FinO.of {X : Cx} {W : WX} {σ : St} {H : Hp} {Z : Zn} {r : Res D} {Q : VK} (h : Fin X W σ H Z (noexc r) fun d _ H' Z' => ∀ v, Rep H' Z' d v → Q v H') : FinO H Z r Q := by
  cases r with
  | ok d m => exact fun H' Z' v x M r => h H' Z' x M v r
  | exc c m => exact h
  | bad => exact h
section
variable {X : Cx} {W : WX} {pos : Pos}
theorem OpR.by {f : Value → Value → Sem Value} {r : R2} (h : ∀ x y H Q, r x y H Q → ∃ r', OpR X f r' ∧ r' x y H Q) : OpR X f r := fun pins s σ H x y v u Q I rx ry q =>
  let ⟨_, o, q'⟩ := h x y H Q q
  o pins s σ H x y v u Q I rx ry q'
theorem UnR.by {f : Value → Sem Value} {r : V → Hp → VK → Prop} (h : ∀ x H Q, r x H Q → ∃ r', UnR X f r' ∧ r' x H Q) : UnR X f r := fun pins s σ H x v Q I rx q =>
  let ⟨_, o, q'⟩ := h x H Q q
  o pins s σ H x v Q I rx q'
theorem CallR.by {f : Value} {r : List V → Hp → VK → Prop} (h : ∀ xs H Q, r xs H Q → ∃ r', CallR X f r' ∧ r' xs H Q) : CallR X f r := fun pins s σ H xs us Q I rx q =>
  let ⟨_, o, q'⟩ := h xs H Q q
  o pins s σ H xs us Q I rx q'

/-! ### names, constants -/
def eVar (i : Nat) : EF := fun σ m => match σ[i]? with | some (some d) => .ok d m | _ => .bad
def eC (d : D) : EF := fun _ m => .ok d m
theorem e_var (i : Nat) {x : Str} {pos : Pos} (hN : X.N[i]? = some x := by rfl) (hv : Vis X.env.scope x := by first | exact Or.inl rfl | exact Or.inr (Or.inl rfl) | exact Or.inr (Or.inr rfl)) (hd : (x == ("__debug__" : Str)) = false := by decide)
    (hcd : (x == ("__classdict__" : Str)) = false := by decide) : E X W (.Name x pos) (eVar i) := by
  refine PE.imp (pe_var hN hv hd hcd) fun σ H Q ⟨Z, σd, m, S, M, h⟩ => ?_
  unfold eVar at h
  split at h
  · rename_i d e
    obtain ⟨v, e', r⟩ := S.val i d e
    exact ⟨v, e', h H Z (.refl _ _) M v r⟩
  · exact h.elim
theorem e_c {e : Expr} {v : V} {d : D} (h : PE X e (tC v)) (r : ∀ H Z, Rep H Z d v) : E X W e (eC d) :=
  PE.imp h fun σ H Q ⟨Z, σd, m, S, M, h⟩ => h H Z (.refl _ _) M v (r H Z)
theorem e_int {i j pos} : E X W (.Constant (.int i) j pos) (eC (.int i)) := e_c pe_int fun _ _ => by simp only [Rep]
theorem e_bl {b j pos} : E X W (.Constant (.bool b) j pos) (eC (.bl b)) := e_c pe_bl fun _ _ => by simp only [Rep]
theorem e_non {j pos} : E X W (.Constant .none j pos) (eC .non) := e_c pe_non fun _ _ => by simp only [Rep]
theorem e_str {x j pos} : E X W (.Constant (.str x) j pos) (eC (.str x)) := e_c pe_str fun _ _ => by simp only [Rep]
theorem e_glob {x : Str} {i : Int} {t : Tok} {pos : Pos} (hg : Gl X x) (hm : X.mg x = some (.int i t)) (hd : (x == ("__debug__" : Str)) = false := by decide) : E X W (.Name x pos) (eC (.int i)) := e_c (v := .int i) (pe_glob hg hm ⟨_, rfl⟩ hd) fun _ _ => by simp only [Rep]

/-! ### operators -/
def eOp (op : D → D → Mem → Res D) (a b : EF) : EF := fun σ m => (a σ m).bind fun x m => (b σ m).bind fun y m => noexc (op x y m)
def eUn (op : D → Mem → Res D) (a : EF) : EF := fun σ m => (a σ m).bind fun x m => noexc (op x m)
variable {a b : Expr} {fa fb : EF}
theorem rd_op {op : D → D → Mem → Res D} {σ : St} {H : Hp} {Q : VK} (h : rdE X W (eOp op fa fb) σ H Q) : tOp (rdO2 op) (rdE X W fa) (rdE X W fb) σ H Q := by
  obtain ⟨Z, σd, m, S, M, h⟩ := h
  refine ⟨Z, σd, m, S, M, (Fin.bind h).mono fun x m1 H1 Z1 x1 M1 h1 v1 r1 => ?_⟩
  refine ⟨Z1, σd, m1, S.ext x1, M1, (Fin.bind h1).mono fun y m2 H2 Z2 x2 M2 h2 v2 r2 => ?_⟩
  exact ⟨Z2, m2, x, y, Rep.ext x2 _ _ r1, r2, M2, FinO.of h2⟩
theorem e_op {op : Operator} {f : D → D → Mem → Res D} (ho : OpR X (binaryOp op) (rdO2 f)) (ha : E X W a fa) (hb : E X W b fb) : E X W (.BinOp a op b pos) (eOp f fa fb) :=
  PE.imp (pe_op ho ha hb) fun _ _ _ h => rd_op h
theorem e_cmp {op : CmpOp} {f : D → D → Mem → Res D} (ho : OpR X (compareOp op) (rdO2 f)) (ha : E X W a fa) (hb : E X W b fb) (hm : behindInMarks op b = false := by first | exact nomark _ | rfl) : E X W (.Compare a [op] [b] pos) (eOp f fa fb) :=
  PE.imp (pe_cmpR ho ha hb hm) fun _ _ _ h => rd_op h
theorem e_un {op : UnaryOp} {f : D → Mem → Res D} (ho : UnR X (unaryOp op) (rdO1 f)) (ha : E X W a fa) : E X W (.UnaryOp op a pos) (eUn f fa) := by
  refine PE.imp (pe_un ho ha) fun σ H Q h => ?_
  obtain ⟨Z, σd, m, S, M, h⟩ := h
  exact ⟨Z, σd, m, S, M, (Fin.bind h).mono fun x m1 H1 Z1 x1 M1 h1 v1 r1 => ⟨Z1, m1, x, r1, M1, FinO.of h1⟩⟩

/-! ### tests -/
/-- a value that is True or False -/
def asB (d : D) (m : Mem) : Res Bool := match d with | .bl b => .ok b m | _ => .bad
@[simp] theorem asB_bl (b : Bool) (m : Mem) : asB (.bl b) m = .ok b m := rfl
def tE (f : EF) : TF := fun σ m => (f σ m).bind asB
def tCmp (op : D → D → Mem → Res D) (a b : EF) : TF := tE (eOp op a b)
theorem rd_tB {f : EF} {σ : St} {H : Hp} {Q : Bool → Hp → Prop} (h : rdT X W (tE f) σ H Q) : rdE X W f σ H fun x H1 => ∃ c, x = .bl c ∧ Q c H1 := by
  obtain ⟨Z, σd, m, S, M, h⟩ := h
  refine ⟨Z, σd, m, S, M, (Fin.bind h).mono fun x m1 H1 Z1 x1 M1 h1 v1 r1 => ?_⟩
  cases x with
  | bl b =>
    simp only [Rep] at r1
    exact ⟨b, r1, h1 H1 Z1 (.refl _ _) M1⟩
  | _ => exact False.elim h1
theorem t_val {e : Expr} {f : EF} (h : E X W e f) (he : ∀ whole, isTrue e X.env whole = (do let v ← whole; standAt e.pos; holding [v] (truthy v)) := by intro _; rfl) : T X W e (tE f) :=
  PT.imp (pt_val h he) fun σ H Q q => rd_tB q
theorem t_cmp {op : CmpOp} {f : D → D → Mem → Res D} (ho : OpR X (compareOp op) (rdO2 f)) (ha : E X W a fa) (hb : E X W b fb) (hm : behindInMarks op b = false := by first | exact nomark _ | rfl) : T X W (.Compare a [op] [b] pos) (tCmp f fa fb) :=
  PT.imp (pt_cmpR ho ha hb hm) fun σ H Q q => rd_op (rd_tB q)
variable {rest : List Expr} {ta tb : TF}
def tAndD (a b : TF) : TF := fun σ m => (a σ m).bind fun c m => if c then b σ m else .ok false m
def tOrD (a b : TF) : TF := fun σ m => (a σ m).bind fun c m => if c then .ok true m else b σ m
def tNotD (a : TF) : TF := fun σ m => (a σ m).bind fun c m => .ok (!c) m
theorem t_and1 (ha : T X W a ta) : TW X W (.BoolOp .And [a] pos) ta := pw_and1 ha
theorem t_or1 (ha : T X W a ta) : TW X W (.BoolOp .Or [a] pos) ta := pw_or1 ha
theorem t_and (ha : T X W a ta) (hb : TW X W (.BoolOp .And (b :: rest) pos) tb) : TW X W (.BoolOp .And (a :: b :: rest) pos) (tAndD ta tb) := by
  refine PW.imp (pw_and ha hb) fun σ H Q ⟨Z, σd, m, S, M, h⟩ => ?_
  refine ⟨Z, σd, m, S, M, (Fin.bind h).mono fun c m1 H1 Z1 x1 M1 h1 => ?_⟩
  cases c with
  | true => exact iteT ⟨Z1, σd, m1, S.ext x1, M1, h1⟩
  | false => exact iteF (h1 H1 Z1 (.refl _ _) M1)
theorem t_or (ha : T X W a ta) (hb : TW X W (.BoolOp .Or (b :: rest) pos) tb) : TW X W (.BoolOp .Or (a :: b :: rest) pos) (tOrD ta tb) := by
  refine PW.imp (pw_or ha hb) fun σ H Q ⟨Z, σd, m, S, M, h⟩ => ?_
  refine ⟨Z, σd, m, S, M, (Fin.bind h).mono fun c m1 H1 Z1 x1 M1 h1 => ?_⟩
  cases c with
  | true => exact iteT (h1 H1 Z1 (.refl _ _) M1)
  | false => exact iteF ⟨Z1, σd, m1, S.ext x1, M1, h1⟩
theorem t_not (ha : T X W a ta) : T X W (.UnaryOp .Not a pos) (tNotD ta) := by
  refine PT.imp (pt_not ha) fun σ H Q ⟨Z, σd, m, S, M, h⟩ => ?_
  exact ⟨Z, σd, m, S, M, (Fin.bind h).mono fun c m1 H1 Z1 x1 M1 h1 => h1 H1 Z1 (.refl _ _) M1⟩
/-- and, or, not as values -/
def eAnd (a b : EF) : EF := fun σ m => (a σ m).bind fun x m => (asB x m).bind fun c m => if c then b σ m else .ok (.bl false) m
def eOr (a b : EF) : EF := fun σ m => (a σ m).bind fun x m => (asB x m).bind fun c m => if c then .ok (.bl true) m else b σ m
def eNot (a : EF) : EF := fun σ m => (a σ m).bind fun x m => (asB x m).bind fun c m => .ok (.bl (!c)) m
theorem e_one {op} (h : E X W a fa) : E X W (.BoolOp op [a] pos) fa := pe_one h
theorem fin_asB {σ : St} {H : Hp} {Z : Zn} {x : D} {m : Mem} {β : Type} {f : Bool → Mem → Res β} {R : β → Mem → Hp → Zn → Prop} {v : V} (h : Fin X W σ H Z ((asB x m).bind f) R) (r : Rep H Z x v) : ∃ c, v = .bl c ∧ Fin X W σ H Z (f c m) R := by
  cases x with
  | bl b =>
    simp only [Rep] at r
    exact ⟨b, r, h⟩
  | _ => exact False.elim h
theorem e_and (ha : E X W a fa) (hb : E X W (.BoolOp .And (b :: rest) pos) fb) : E X W (.BoolOp .And (a :: b :: rest) pos) (eAnd fa fb) := by
  refine PE.imp (pe_and ha hb) fun σ H Q ⟨Z, σd, m, S, M, h⟩ => ?_
  refine ⟨Z, σd, m, S, M, (Fin.bind h).mono fun x m1 H1 Z1 x1 M1 h1 v r => ?_⟩
  obtain ⟨c, e, h1⟩ := fin_asB h1 r
  refine ⟨c, e, ?_⟩
  cases c with
  | true => exact iteT ⟨Z1, σd, m1, S.ext x1, M1, h1⟩
  | false => exact iteF (h1 H1 Z1 (.refl _ _) M1 _ (by simp only [Rep]))
theorem e_or (ha : E X W a fa) (hb : E X W (.BoolOp .Or (b :: rest) pos) fb) : E X W (.BoolOp .Or (a :: b :: rest) pos) (eOr fa fb) := by
  refine PE.imp (pe_or ha hb) fun σ H Q ⟨Z, σd, m, S, M, h⟩ => ?_
  refine ⟨Z, σd, m, S, M, (Fin.bind h).mono fun x m1 H1 Z1 x1 M1 h1 v r => ?_⟩
  obtain ⟨c, e, h1⟩ := fin_asB h1 r
  refine ⟨c, e, ?_⟩
  cases c with
  | true => exact iteT (h1 H1 Z1 (.refl _ _) M1 _ (by simp only [Rep]))
  | false => exact iteF ⟨Z1, σd, m1, S.ext x1, M1, h1⟩
theorem e_not (ha : E X W a fa) : E X W (.UnaryOp .Not a pos) (eNot fa) := by
  refine PE.imp (pe_not ha) fun σ H Q ⟨Z, σd, m, S, M, h⟩ => ?_
  refine ⟨Z, σd, m, S, M, (Fin.bind h).mono fun x m1 H1 Z1 x1 M1 h1 v r => ?_⟩
  obtain ⟨c, e, h1⟩ := fin_asB h1 r
  exact ⟨c, e, h1 H1 Z1 (.refl _ _) M1 _ (by simp only [Rep])⟩
def eIf (c : TF) (a b : EF) : EF := fun σ m => (c σ m).bind fun k m => if k then a σ m else b σ m
theorem e_if {c : Expr} {fc : TF} (hc : T X W c fc) (ha : E X W a fa) (hb : E X W b fb) : E X W (.IfExp c a b pos) (eIf fc fa fb) := by
  refine PE.imp (pe_ifExp hc ha hb) fun σ H Q ⟨Z, σd, m, S, M, h⟩ => ?_
  refine ⟨Z, σd, m, S, M, (Fin.bind h).mono fun k m1 H1 Z1 x1 M1 h1 => ?_⟩
  cases k with
  | true => exact iteT ⟨Z1, σd, m1, S.ext x1, M1, h1⟩
  | false => exact iteF ⟨Z1, σd, m1, S.ext x1, M1, h1⟩
/-- a < b <= c -/
def eChain (f g : D → D → Mem → Res D) (a b c : EF) : EF := fun σ m => (a σ m).bind fun x m => (b σ m).bind fun y m => (noexc (f x y m)).bind fun z m => (asB z m).bind fun k m =>
  if k then (c σ m).bind fun w m => noexc (g y w m) else .ok (.bl false) m
theorem rd_chain {f g : D → D → Mem → Res D} {fc : EF} {σ : St} {H : Hp} {Q : VK} (h : rdE X W (eChain f g fa fb fc) σ H Q) : tChain (rdO2 f) (rdO2 g) (rdE X W fa) (rdE X W fb) (rdE X W fc) σ H Q := by
  obtain ⟨Z, σd, m, S, M, h⟩ := h
  refine ⟨Z, σd, m, S, M, (Fin.bind h).mono fun x m1 H1 Z1 x1 M1 h1 v1 r1 => ?_⟩
  refine ⟨Z1, σd, m1, S.ext x1, M1, (Fin.bind h1).mono fun y m2 H2 Z2 x2 M2 h2 v2 r2 => ?_⟩
  refine ⟨Z2, m2, x, y, Rep.ext x2 _ _ r1, r2, M2, ?_⟩
  have h3 := Fin.bind h2
  cases ef : f x y m2 with
  | ok d m3 =>
    rw [ef] at h3
    intro H3 Z3 v3 x3 M3 r3
    have h4 := h3 H3 Z3 x3 M3
    obtain ⟨k, e, h5⟩ := fin_asB h4 r3
    refine ⟨k, e, ?_⟩
    cases k with
    | true =>
      refine iteT ⟨Z3, σd, m3, (S.ext x1).ext (x2.trans x3), M3, (Fin.bind h5).mono fun w m4 H4 Z4 x4 M4 h6 v4 r4 => ?_⟩
      exact ⟨Z4, m4, y, w, Rep.ext (x3.trans x4) _ _ r2, r4, M4, FinO.of h6⟩
    | false => exact iteF (h5 H3 Z3 (.refl _ _) M3 _ (by simp only [Rep]))
  | exc c m3 =>
    rw [ef] at h3
    exact False.elim h3
  | bad =>
    rw [ef] at h3
    exact False.elim h3
theorem e_chain {op op' : CmpOp} {f g : D → D → Mem → Res D} {c : Expr} {fc : EF} (ho : OpR X (compareOp op) (rdO2 f)) (ho' : OpR X (compareOp op') (rdO2 g)) (ha : E X W a fa) (hb : E X W b fb) (hc : E X W c fc) (hm : lastMarks [op, op'] [b, c] = false := by with_unfolding_all rfl) :
    E X W (.Compare a [op, op'] [b, c] pos) (eChain f g fa fb fc) := PE.imp (pe_chain ho ho' ha hb hc hm) fun _ _ _ h => rd_chain h
theorem t_chain {op op' : CmpOp} {f g : D → D → Mem → Res D} {c : Expr} {fc : EF} (ho : OpR X (compareOp op) (rdO2 f)) (ho' : OpR X (compareOp op') (rdO2 g)) (ha : E X W a fa) (hb : E X W b fb) (hc : E X W c fc) (hm : lastMarks [op, op'] [b, c] = false := by with_unfolding_all rfl) :
    T X W (.Compare a [op, op'] [b, c] pos) (tE (eChain f g fa fb fc)) := PT.imp (pt_chain ho ho' ha hb hc hm) fun _ _ _ h => rd_chain (rd_tB h)

/-! ### argument lists, displays, calls -/
def aNil : AF := fun _ m => .ok [] m
def aCons (a : EF) (r : AF) : AF := fun σ m => (a σ m).bind fun x m => (r σ m).bind fun xs m => .ok (x :: xs) m
theorem a_nil : AA X W [] aNil := PA.imp pa_nil fun σ H Q ⟨Z, σd, m, S, M, h⟩ => h H Z (.refl _ _) M [] (by simp only [Reps])
theorem a_cons {e : Expr} {es : List Expr} {fe : EF} {fr : AF} (he : E X W e fe) (hr : AA X W es fr) (hs : starEach (e :: es) X.env = (false, eval e X.env) :: starEach es X.env := by rfl) : AA X W (e :: es) (aCons fe fr) := by
  refine PA.imp (pa_cons he hr hs) fun σ H Q ⟨Z, σd, m, S, M, h⟩ => ?_
  refine ⟨Z, σd, m, S, M, (Fin.bind h).mono fun x m1 H1 Z1 x1 M1 h1 v1 r1 => ?_⟩
  refine ⟨Z1, σd, m1, S.ext x1, M1, (Fin.bind h1).mono fun xs m2 H2 Z2 x2 M2 h2 vs r2 => ?_⟩
  refine h2 H2 Z2 (.refl _ _) M2 _ ?_
  simp only [Reps]
  exact ⟨v1, vs, rfl, Rep.ext x2 _ _ r1, r2⟩
theorem Ext.laid {Z : Zn} {H : Hp} {m : Mem} {p : Addr} {o : HO} (M : MRep H Z m) (n : H p = none) : Ext Z H Z (upd H p o) := ⟨fun _ h => h, fun _ h => .inl h, ⟨[], by simp⟩, fun a u h na => ⟨by rw [upd_ne (ne_of_none h n)]; exact h, na⟩, fun a u h => ⟨u, by rw [upd_ne (ne_of_none h n)]; exact h⟩, fun a od u h => by rw [upd_ne (ne_of_none h n)]; exact h⟩
theorem ORep.keep {Z : Zn} {H H' : Hp} {o : MO} {a : Addr} (x : Ext Z H Z H') (e : H' a = H a) (h : ORep H Z o a) : ORep H' Z o a := by
  cases o with
  | lst xs =>
    obtain ⟨vs, h1, h2⟩ := h
    exact ⟨vs, by rw [e]; exact h1, Reps.ext x _ _ h2⟩
  | dct lk kvs =>
    obtain ⟨L, u, h1, h2, h3⟩ := h
    exact ⟨L, u, by rw [e]; exact h1, h2, Paired.mapP h3 fun p q z => ⟨z.1, Rep.ext x _ _ z.2.1, Rep.ext x _ _ z.2.2⟩⟩
theorem MRep.laid {Z : Zn} {H : Hp} {m : Mem} {p : Addr} {o : HO} (M : MRep H Z m) (n : H p = none) : MRep (upd H p o) Z m :=
  ⟨M.len, M.nd, M.off, fun a h => let ⟨u, e⟩ := M.asd a h; ⟨u, by rw [upd_ne (ne_of_none e n)]; exact e⟩, fun i a u e1 e2 => (M.obj i a u e1 e2).keep (Ext.laid M n) (by
    obtain ⟨z, hz⟩ := (M.obj i a u e1 e2).there
    rw [upd_ne (ne_of_none hz n)])⟩
theorem MRep.out {Z : Zn} {H : Hp} {m : Mem} {p : Addr} (M : MRep H Z m) (n : H p = none) : Z.out p := by
  refine ⟨fun h => ?_, fun h => ?_⟩
  · obtain ⟨u, e⟩ := M.there h
    rw [n] at e; cases e
  · obtain ⟨u, e⟩ := M.asd p h
    rw [n] at e; cases e
def lenOk (n : Nat) : Bool := decide (n ≤ 16777216)
theorem lenOk_le {n : Nat} (h : lenOk n = true) : n ≤ sizeLine := by rw [sizeLine_eq]; exact of_decide_eq_true h
end
end PD
namespace PD
open PySem PySem.Spec L2
open PyProof.Rows hiding St

/-! ### new objects -/
def newL (nw : Bool) (xs : List D) (m : Mem) : Res D := if lenOk xs.length then (if nw then .ok (.ref m.length) (m ++ [.lst xs]) else .ok (.lst xs) m) else .bad
def newT (xs : List D) (m : Mem) : Res D := if lenOk xs.length then .ok (.tup xs) m else .bad
section
variable {X : Cx} {W : WX} {H : Hp} {Z : Zn} {m : Mem} {xs : List D} {vs : List V} {Q : VK}
theorem rep_tup_new {p : Addr} (M : MRep H Z m) (r : Reps H Z xs vs) (n : H p = none) : Rep (upd H p (.tup vs)) Z (.tup xs) (.ref p) := by
  simp only [Rep]
  exact ⟨p, vs, rfl, .inl upd_same, M.out n, Reps.ext (Ext.laid M n) _ _ r⟩
theorem rep_lst_new {p : Addr} (M : MRep H Z m) (r : Reps H Z xs vs) (n : H p = none) : Rep (upd H p (.lst vs)) Z (.lst xs) (.ref p) := by
  simp only [Rep]
  exact ⟨p, vs, rfl, upd_same, M.out n, Reps.ext (Ext.laid M n) _ _ r⟩
theorem fin_newT (h : FinO H Z (newT xs m) Q) (M : MRep H Z m) (r : Reps H Z xs vs) : vs.length ≤ sizeLine ∧ ∀ p, H p = none → Q (.ref p) (upd H p (.tup vs)) := by
  unfold newT at h
  split at h
  · rename_i hl
    rw [← reps_len r]
    exact ⟨lenOk_le hl, fun p n => h _ Z _ (Ext.laid M n) (M.laid n) (rep_tup_new M r n)⟩
  · exact h.elim
/-- one more object in the memory -/
abbrev Zn.add (Z : Zn) (p : Addr) : Zn := ⟨Z.ρ ++ [p], Z.φ⟩
theorem Ext.add {p : Addr} {o : HO} (M : MRep H Z m) (n : H p = none) : Ext Z H (Z.add p) (upd H p o) := by
  refine ⟨fun _ h => h, fun _ h => .inl h, ⟨[p], rfl⟩, fun a u h na => ⟨by rw [upd_ne (ne_of_none h n)]; exact h, ?_⟩, fun a u h => ⟨u, by rw [upd_ne (ne_of_none h n)]; exact h⟩, fun a od u h => by rw [upd_ne (ne_of_none h n)]; exact h⟩
  show a ∉ Z.ρ ++ [p]
  rw [List.mem_append, List.mem_singleton]
  rintro (h1 | h1)
  · exact na h1
  · exact ne_of_none h n h1
theorem MRep.add {p : Addr} {o : HO} {u : MO} (M : MRep H Z m) (n : H p = none) (ho : ORep (upd H p o) (Z.add p) u p) : MRep (upd H p o) (Z.add p) (m ++ [u]) := by
  have hout := M.out n
  refine ⟨by simp [M.len], ?_, ?_, ?_, ?_⟩
  · show (Z.ρ ++ [p]).Nodup
    rw [List.nodup_append]
    refine ⟨M.nd, by simp, fun a ha b hb => ?_⟩
    rw [List.mem_singleton] at hb
    subst hb
    rintro rfl
    exact hout.1 ha
  · intro a ha
    rcases List.mem_append.mp ha with h | h
    · exact M.off a h
    · rw [List.mem_singleton] at h; subst h; exact hout.2
  · intro a ha
    obtain ⟨z, e⟩ := M.asd a ha
    exact ⟨z, by rw [upd_ne (ne_of_none e n)]; exact e⟩
  · intro i a z e1 e2
    by_cases hi : i < Z.ρ.length
    · rw [List.getElem?_append_left hi] at e1
      rw [List.getElem?_append_left (by rw [M.len]; exact hi)] at e2
      have q := M.obj i a z e1 e2
      obtain ⟨y, hy⟩ := q.there
      have x : Ext Z H (Z.add p) (upd H p o) := Ext.add M n
      have e : (upd H p o) a = H a := upd_ne (ne_of_none hy n)
      cases z with
      | lst xs =>
        obtain ⟨vs, h1, h2⟩ := q
        exact ⟨vs, by rw [e]; exact h1, Reps.ext x _ _ h2⟩
      | dct lk kvs =>
        obtain ⟨L, u, h1, h2, h3⟩ := q
        exact ⟨L, u, by rw [e]; exact h1, h2, Paired.mapP h3 fun p q z => ⟨z.1, Rep.ext x _ _ z.2.1, Rep.ext x _ _ z.2.2⟩⟩
    · have hl : i = Z.ρ.length := by
        have := (List.getElem?_eq_some_iff.mp e1).1
        simp at this
        omega
      subst hl
      rw [List.getElem?_append_right (Nat.le_refl _), Nat.sub_self] at e1
      rw [List.getElem?_append_right (by rw [M.len]; exact Nat.le_refl _), M.len, Nat.sub_self] at e2
      cases e1
      cases e2
      exact ho
theorem fin_newL {nw : Bool} (h : FinO H Z (newL nw xs m) Q) (M : MRep H Z m) (r : Reps H Z xs vs) : vs.length ≤ sizeLine ∧ ∀ p, H p = none → Q (.ref p) (upd H p (.lst vs)) := by
  unfold newL at h
  split at h
  · rename_i hl
    rw [← reps_len r]
    refine ⟨lenOk_le hl, fun p n => ?_⟩
    cases nw with
    | false => exact h _ Z _ (Ext.laid M n) (M.laid n) (rep_lst_new M r n)
    | true =>
      refine h _ (Z.add p) _ (Ext.add M n) (M.add n ⟨vs, upd_same, Reps.ext (Ext.add M n) _ _ r⟩) ?_
      simp only [Rep]
      exact ⟨p, by rw [M.len, List.getElem?_append_right (Nat.le_refl _), Nat.sub_self]; rfl, rfl⟩
  · exact h.elim
end
section
variable {X : Cx} {W : WX} {pos : Pos} {es : List Expr} {fr : AF} {e : Expr} {fe : EF}
def eTup (a : AF) : EF := fun σ m => (a σ m).bind fun xs m => noexc (newT xs m)
def eLst (nw : Bool) (a : AF) : EF := fun σ m => (a σ m).bind fun xs m => noexc (newL nw xs m)
theorem e_tup {k} (h : AA X W es fr) : E X W (.Tuple es k pos) (eTup fr) := by
  refine PE.imp (pe_tup h) fun σ H Q ⟨Z, σd, m, S, M, h⟩ => ?_
  exact ⟨Z, σd, m, S, M, (Fin.bind h).mono fun xs m1 H1 Z1 x1 M1 h1 vs r => fin_newT (FinO.of h1) M1 r⟩
theorem e_lst {nw : Bool} (h : AA X W es fr) : E X W (.List es pos) (eLst nw fr) := by
  refine PE.imp (pe_lst h) fun σ H Q ⟨Z, σd, m, S, M, h⟩ => ?_
  exact ⟨Z, σd, m, S, M, (Fin.bind h).mono fun xs m1 H1 Z1 x1 M1 h1 vs r => fin_newL (FinO.of h1) M1 r⟩
/-! ### calls -/
def eCall (F : List D → Mem → Res D) (a : AF) : EF := fun σ m => (a σ m).bind F
/-- a def's promise, by a function on data -/
def spM (mg : Str → Option Value) (n : Nat) (F : List D → Mem → Res D) : Sp := fun vs H Q Ex => vs.length = n ∧ ∃ Z ds m, Reps H Z ds vs ∧ MRep H Z m ∧
  match F ds m with
  | .ok d m' => ∀ H' Z' v, Ext Z H Z' H' → MRep H' Z' m' → Rep H' Z' d v → Q v H'
  | .exc c m' => ∀ u H' Z', mg c = some u → Ext Z H Z' H' → MRep H' Z' m' → Ex u none H'
  | .bad => False
abbrev Fn (P : Program) (w : World) (K : PySem.W.Frag) (mg : Str → Option Value) (base : Heap) (k : Nat) (f : Addr) (fd : FuncData) (ps : List Str) (F : List D → Mem → Res D) : Prop :=
  FnOk P w K mg base (L2.CX P w) k f fd ps (spM mg ps.length F)
variable {k : Nat} {f : Addr} {fd : FuncData} {ps : List Str} {F : List D → Mem → Res D} {x : Str} {p : Pos}
theorem fin_sp {σ : St} {H : Hp} {Z : Zn} {ds : List D} {m : Mem} {vs : List V} {Q : VK} {n : Nat} (h : Fin X W σ H Z (F ds m) fun d _ H' Z' => ∀ v, Rep H' Z' d v → Q v H') (M : MRep H Z m) (r : Reps H Z ds vs) (hl : ds.length = n) :
    spM X.mg n F vs H Q (fun c d H' => W c d σ H') := by
  refine ⟨by rw [← reps_len r]; exact hl, Z, ds, m, r, M, ?_⟩
  cases e : F ds m with
  | ok d m' =>
    rw [e] at h
    exact fun H' Z' v x M r => h H' Z' x M v r
  | exc c m' =>
    rw [e] at h
    exact h
  | bad =>
    rw [e] at h
    exact h
def argN (n : Nat) (ds : List D) (m : Mem) : Res (List D) := if ds.length = n then .ok ds m else .bad
theorem e_call (Fk : Fn X.prog X.w X.K X.mg X.base k f fd ps F) (hr : Room k X.A) (hg : Gl X x) (hm : X.mg x = some (.ref f)) (hk : PySem.W.keepIn X.K (.ref f) = true) (hb : Binds X.K fd ps []) (tk : Takes X W) (ha : AA X W (e :: es) fr)
    (hn : ∀ σ m ds m', fr σ m = .ok ds m' → ds.length = ps.length)
    (hdb : (x == ("__debug__" : Str)) = false := by decide) (he : starEach (e :: es) X.env = (false, eval e X.env) :: starEach es X.env := by rfl) (hpl : (backTo pos (starEach es X.env)).any (·.1) = false := by rfl) :
    E X W (.Call (.Name x p) (e :: es) [] pos) (eCall F fr) := by
  refine PE.imp (pe_callSD (E := fun σ c d H => W c d σ H) Fk hr hg hm hk hb .nil (fun σ => passAt tk σ) ha hdb he hpl) fun σ H Q ⟨Z, σd, m, S, M, h⟩ => ?_
  cases efr : fr σd m with
  | ok ds m1 =>
    refine ⟨Z, σd, m, S, M, ?_⟩
    have h' := Fin.bind h
    rw [efr] at h' ⊢
    intro H1 Z1 x1 M1 vs r
    rw [List.append_nil]
    exact fin_sp (h' H1 Z1 x1 M1) M1 r (hn _ _ _ _ efr)
  | exc c m1 =>
    refine ⟨Z, σd, m, S, M, ?_⟩
    have h' := Fin.bind h
    rw [efr] at h' ⊢
    exact h'
  | bad =>
    have h' := Fin.bind h
    rw [efr] at h'
    exact h'.elim
theorem e_call0 (Fk : Fn X.prog X.w X.K X.mg X.base k f fd [] F) (hr : Room k X.A) (hg : Gl X x) (hm : X.mg x = some (.ref f)) (hk : PySem.W.keepIn X.K (.ref f) = true) (hb : Binds X.K fd [] []) (hno : ∀ m c m', F [] m ≠ .exc c m')
    (hdb : (x == ("__debug__" : Str)) = false := by decide) : E X W (.Call (.Name x p) [] [] pos) (eCall F aNil) := by
  refine PE.imp (pe_call0 (E := L2.E0) Fk hr hg hm hk hb .nil passL hdb) fun σ H Q ⟨Z, σd, m, S, M, h⟩ => ?_
  refine ⟨rfl, Z, [], m, by simp [Reps], M, ?_⟩
  have h' : Fin X W σ H Z (F [] m) fun d _ H' Z' => ∀ v, Rep H' Z' d v → Q v H' := h
  cases e : F [] m with
  | ok d m' =>
    rw [e] at h'
    exact fun H' Z' v x M r => h' H' Z' x M v r
  | exc c m' => exact (hno _ _ _ e).elim
  | bad =>
    rw [e] at h'
    exact h'
/-- built-ins -/
def eB (op : List D → Mem → Res D) (a : AF) : EF := fun σ m => (a σ m).bind fun ds m => noexc (op ds m)
theorem rd_B {op : List D → Mem → Res D} {σ : St} {H : Hp} {Q : VK} (h : rdE X W (eB op fr) σ H Q) : tCB (rdC op) (rdA X W fr) σ H Q := by
  obtain ⟨Z, σd, m, S, M, h⟩ := h
  exact ⟨Z, σd, m, S, M, (Fin.bind h).mono fun ds m1 H1 Z1 x1 M1 h1 vs r => ⟨Z1, m1, ds, r, M1, FinO.of h1⟩⟩
theorem e_bi {id : String} {op : List D → Mem → Res D} (hc : CallR X (.builtin id) (rdC op)) (hg : Gl X x) (hm : X.mg x = none) (hv : bootBuiltins x = some (.builtin id)) (ha : AA X W (e :: es) fr) (hn : x ≠ "__name__" := by decide) (hdb : (x == ("__debug__" : Str)) = false := by decide)
    (he : starEach (e :: es) X.env = (false, eval e X.env) :: starEach es X.env := by rfl) (hpl : (backTo pos (starEach es X.env)).any (·.1) = false := by rfl) : E X W (.Call (.Name x p) (e :: es) [] pos) (eB op fr) :=
  PE.imp (pe_callB hc hg hm hv ha hn hdb he hpl) fun σ H Q h => rd_B h
theorem e_ty {T : String} {op : List D → Mem → Res D} (hc : CallR X (.type T) (rdC op)) (hg : Gl X x) (hm : X.mg x = none) (hv : bootBuiltins x = some (.type T)) (ha : AA X W (e :: es) fr) (hn : x ≠ "__name__" := by decide) (hdb : (x == ("__debug__" : Str)) = false := by decide)
    (he : starEach (e :: es) X.env = (false, eval e X.env) :: starEach es X.env := by rfl) (hpl : (backTo pos (starEach es X.env)).any (·.1) = false := by rfl) : E X W (.Call (.Name x p) (e :: es) [] pos) (eB op fr) :=
  PE.imp (pe_callTy hc hg hm hv ha hn hdb he hpl) fun σ H Q h => rd_B h
end

/-! ### statements -/
inductive SRes where
  | nx (σ : Sg) (m : Mem) | rt (d : D) (m : Mem) | bk (σ : Sg) (m : Mem) | ct (σ : Sg) (m : Mem) | exc (c : Str) (σ : Sg) (m : Mem) | bad
abbrev SF := Sg → Mem → SRes
def SRes.then (r : SRes) (f : SF) : SRes := match r with | .nx σ m => f σ m | r => r
@[simp] theorem SRes.then_nx (σ : Sg) (m : Mem) (f : SF) : (SRes.nx σ m).then f = f σ m := rfl
@[simp] theorem SRes.then_rt (d : D) (m : Mem) (f : SF) : (SRes.rt d m).then f = .rt d m := rfl
@[simp] theorem SRes.then_bk (σ : Sg) (m : Mem) (f : SF) : (SRes.bk σ m).then f = .bk σ m := rfl
@[simp] theorem SRes.then_ct (σ : Sg) (m : Mem) (f : SF) : (SRes.ct σ m).then f = .ct σ m := rfl
@[simp] theorem SRes.then_exc (c : Str) (σ : Sg) (m : Mem) (f : SF) : (SRes.exc c σ m).then f = .exc c σ m := rfl
@[simp] theorem SRes.then_bad (f : SF) : (SRes.bad).then f = .bad := rfl
/-- an expression's result within a statement -/
def Res.st {α : Type} (r : Res α) (σ : Sg) (f : α → Mem → SRes) : SRes := match r with | .ok a m => f a m | .exc c m => .exc c σ m | .bad => .bad
@[simp] theorem Res.st_ok {α : Type} (a : α) (m : Mem) (σ : Sg) (f : α → Mem → SRes) : (Res.ok a m).st σ f = f a m := rfl
@[simp] theorem Res.st_exc {α : Type} (c : Str) (m : Mem) (σ : Sg) (f : α → Mem → SRes) : (Res.exc c m : Res α).st σ f = .exc c σ m := rfl
@[simp] theorem Res.st_bad {α : Type} (σ : Sg) (f : α → Mem → SRes) : (Res.bad : Res α).st σ f = .bad := rfl

def FinS (X : Cx) (W : WX) (H : Hp) (Z : Zn) (r : SRes) (D : Ends) : Prop :=
  match r with
  | .nx σd m => ∀ H' Z' σ, Ext Z H Z' H' → MRep H' Z' m → SRep H' Z' σd σ → D.nx σ H'
  | .rt d m => ∀ H' Z' v, Ext Z H Z' H' → MRep H' Z' m → Rep H' Z' d v → D.rt v H'
  | .bk σd m => ∀ H' Z' σ, Ext Z H Z' H' → MRep H' Z' m → SRep H' Z' σd σ → D.bk σ H'
  | .ct σd m => ∀ H' Z' σ, Ext Z H Z' H' → MRep H' Z' m → SRep H' Z' σd σ → D.ct σ H'
  | .exc c σd m => ∀ u H' Z' σ, X.mg c = some u → Ext Z H Z' H' → MRep H' Z' m → SRep H' Z' σd σ → W u none σ H'
  | .bad => False
section
variable {X : Cx} {W : WX} {H : Hp} {Z : Zn} {Dn : Ends}
theorem FinS.shift {r : SRes} {H1 : Hp} {Z1 : Zn} (x : Ext Z H Z1 H1) (h : FinS X W H Z r Dn) : FinS X W H1 Z1 r Dn := by
  cases r with
  | nx σd m => exact fun H' Z' σ y M S => h H' Z' σ (x.trans y) M S
  | rt d m => exact fun H' Z' v y M r => h H' Z' v (x.trans y) M r
  | bk σd m => exact fun H' Z' σ y M S => h H' Z' σ (x.trans y) M S
  | ct σd m => exact fun H' Z' σ y M S => h H' Z' σ (x.trans y) M S
  | exc c σd m => exact fun u H' Z' σ e y M S => h u H' Z' σ e (x.trans y) M S
  | bad => exact h
theorem Fin.st {α : Type} {r : Res α} {σd : Sg} {σ : St} {f : α → Mem → SRes} (h : FinS X W H Z (r.st σd f) Dn) (S : SRep H Z σd σ) : Fin X W σ H Z r fun a m H1 Z1 => FinS X W H1 Z1 (f a m) Dn := by
  cases r with
  | ok a m => exact fun H1 Z1 x M => FinS.shift x h
  | exc c m => exact fun u H1 Z1 e x M => h u H1 Z1 σ e x M (S.ext x)
  | bad => exact h
end
def rdS (X : Cx) (W : WX) (f : SF) : TS := fun D σ H => ∃ Z σd m, SRep H Z σd σ ∧ MRep H Z m ∧ FinS X W H Z (f σd m) D
abbrev S1 (X : Cx) (W : WX) (st : Stmt) (f : SF) : Prop := PS X st (rdS X W f)
abbrev Ss (X : Cx) (W : WX) (st : List Stmt) (f : SF) : Prop := PSs X st (rdS X W f)
theorem PS.imp {X : Cx} {st : Stmt} {t t' : TS} (h : PS X st t) (k : ∀ D σ H, t' D σ H → t D σ H) : PS X st t' := ⟨fun pins s σ H D I q => h.run pins s σ H D I (k D σ H q)⟩
theorem PSs.imp {X : Cx} {st : List Stmt} {t t' : TS} (h : PSs X st t) (k : ∀ D σ H, t' D σ H → t D σ H) : PSs X st t' := ⟨fun pins s σ H D I q => h.run pins s σ H D I (k D σ H q)⟩
section
variable {X : Cx} {W : WX} {st : Stmt} {rest : List Stmt} {f g : SF} {e : Expr} {fe : EF} {pos : Pos}
def sNil : SF := fun σ m => .nx σ m
def sSeq (f g : SF) : SF := fun σ m => (f σ m).then g
theorem ss_nil : Ss X W [] sNil := PSs.imp pss_nil fun D σ H ⟨Z, σd, m, S, M, h⟩ => h H Z σ (.refl _ _) M S
theorem ss_one (h : S1 X W st f) : Ss X W [st] f := pss_one h
theorem ss_cons (h : S1 X W st f) (r : Ss X W rest g) : Ss X W (st :: rest) (sSeq f g) := by
  refine PSs.imp (pss_cons h r) fun D σ H ⟨Z, σd, m, S, M, h⟩ => ?_
  refine ⟨Z, σd, m, S, M, ?_⟩
  unfold sSeq at h
  cases e : f σd m with
  | nx σ1 m1 =>
    rw [e] at h
    exact fun H' Z' σ' x M' S' => ⟨Z', σ1, m1, S', M', FinS.shift x h⟩
  | rt d m1 => rw [e] at h; exact h
  | bk σ1 m1 => rw [e] at h; exact h
  | ct σ1 m1 => rw [e] at h; exact h
  | exc c σ1 m1 => rw [e] at h; exact h
  | bad => rw [e] at h; exact h
def sBk : SF := fun σ m => .bk σ m
def sCt : SF := fun σ m => .ct σ m
theorem s_pass : S1 X W (.Pass pos) sNil := PS.imp ps_pass fun D σ H ⟨Z, σd, m, S, M, h⟩ => h H Z σ (.refl _ _) M S
theorem s_break : S1 X W (.Break pos) sBk := PS.imp ps_break fun D σ H ⟨Z, σd, m, S, M, h⟩ => h H Z σ (.refl _ _) M S
theorem s_continue : S1 X W (.Continue pos) sCt := PS.imp ps_continue fun D σ H ⟨Z, σd, m, S, M, h⟩ => h H Z σ (.refl _ _) M S
def sExpr (fe : EF) : SF := fun σ m => (fe σ m).st σ fun _ m => .nx σ m
theorem s_expr (he : E X W e fe) (hs : swapsWith e none pos.line X.env = pure false := by rfl) : S1 X W (.Expr e pos) (sExpr fe) := by
  refine PS.imp (ps_expr he hs) fun D σ H ⟨Z, σd, m, S, M, h⟩ => ?_
  exact ⟨Z, σd, m, S, M, (Fin.st h S).mono fun a m1 H1 Z1 x1 M1 h1 v r => h1 H1 Z1 σ (.refl _ _) M1 (S.ext x1)⟩
def sRet (fe : EF) : SF := fun σ m => (fe σ m).st σ fun d m => .rt d m
theorem s_ret (he : E X W e fe) : S1 X W (.Return (some e) pos) (sRet fe) := by
  refine PS.imp (ps_ret he) fun D σ H ⟨Z, σd, m, S, M, h⟩ => ?_
  exact ⟨Z, σd, m, S, M, (Fin.st h S).mono fun a m1 H1 Z1 x1 M1 h1 v r => h1 H1 Z1 v (.refl _ _) M1 r⟩
def sRetN : SF := fun _ m => .rt .non m
theorem s_retN : S1 X W (.Return none pos) sRetN := PS.imp ps_retN fun D σ H ⟨Z, σd, m, S, M, h⟩ => h H Z .non (.refl _ _) M (by simp only [Rep])
def sIf (c : TF) (f g : SF) : SF := fun σ m => (c σ m).st σ fun b m => if b then f σ m else g σ m
theorem s_if {c : Expr} {fc : TF} {a b : List Stmt} (hc : T X W c fc) (ha : Ss X W a f) (hb : Ss X W b g) : S1 X W (.If c a b pos) (sIf fc f g) := by
  refine PS.imp (ps_if hc ha hb) fun D σ H ⟨Z, σd, m, S, M, h⟩ => ?_
  refine ⟨Z, σd, m, S, M, (Fin.st h S).mono fun b m1 H1 Z1 x1 M1 h1 => ?_⟩
  cases b with
  | true => exact iteT ⟨Z1, σd, m1, S.ext x1, M1, h1⟩
  | false => exact iteF ⟨Z1, σd, m1, S.ext x1, M1, h1⟩

/-! ### targets, assignments -/
variable {ws : List Nat}
abbrev GF := D → Sg → Mem → SRes
def rdG (ws : List Nat) (g : GF) : TG := fun v σ H Q => ∃ Z σd m d, SRep H Z σd σ ∧ MRep H Z m ∧ Rep H Z d v ∧ ∃ σ1 m1, g d σd m = .nx σ1 m1 ∧ ∀ H' Z' σ', Ext Z H Z' H' → MRep H' Z' m1 → SRep H' Z' σ1 σ' → L2.wipe σ' ws = L2.wipe σ ws → Q σ' H'
abbrev G (X : Cx) (ws : List Nat) (tg : Expr) (g : GF) : Prop := PG X tg (rdG ws g)
theorem PG.imp {tg : Expr} {t t' : TG} (h : PG X tg t) (k : ∀ v σ H Q, t' v σ H Q → t v σ H Q) : PG X tg t' := ⟨fun pins s σ H v u Q I r q => h.run pins s σ H v u Q I r (k v σ H Q q)⟩
abbrev GsF := List D → Sg → Mem → SRes
def rdGs (ws : List Nat) (g : GsF) : TGs := fun vs σ H Q => ∃ Z σd m ds, SRep H Z σd σ ∧ MRep H Z m ∧ Reps H Z ds vs ∧ ∃ σ1 m1, g ds σd m = .nx σ1 m1 ∧ ∀ H' Z' σ', Ext Z H Z' H' → MRep H' Z' m1 → SRep H' Z' σ1 σ' → L2.wipe σ' ws = L2.wipe σ ws → Q σ' H'
abbrev Gs (X : Cx) (ws : List Nat) (tgs : List Expr) (g : GsF) : Prop := PGs X tgs (rdGs ws g)
theorem wipe_set {σ : St} {i : Nat} {x : Option V} : ∀ {ws : List Nat}, i ∈ ws → L2.wipe (σ.set i x) ws = L2.wipe σ ws
  | [], h => by simp at h
  | w :: ws, h => by
    unfold L2.wipe
    by_cases hw : i ∈ ws
    · rw [wipe_set hw]
    · have e : w = i := by
        rcases List.mem_cons.mp h with h | h
        · exact h.symm
        · exact (hw h).elim
      subst e
      have : ∀ (vs : List Nat), L2.wipe (σ.set w x) vs = (L2.wipe σ vs).set w x ∨ L2.wipe (σ.set w x) vs = L2.wipe σ vs := by
        intro vs
        induction vs with
        | nil => exact .inl rfl
        | cons v vs ih =>
          unfold L2.wipe
          rcases ih with e | e
          · rw [e]
            by_cases hv : w = v
            · subst hv; exact .inr (by rw [List.set_set])
            · exact .inl (by rw [List.set_comm _ _ hv])
          · exact .inr (by rw [e])
      rcases this ws with e | e
      · rw [e, List.set_set]
      · rw [e]
theorem PGs.imp {tg : List Expr} {t t' : TGs} (h : PGs X tg t) (k : ∀ v σ H Q, t' v σ H Q → t v σ H Q) : PGs X tg t' := ⟨fun pins s σ H v u Q I r q => h.run pins s σ H v u Q I r (k v σ H Q q)⟩
def gN (i : Nat) : GF := fun d σ m => .nx (σ.set i (some d)) m
theorem g_name {i : Nat} {x : Str} (hN : X.N.Nodup) (hi : X.N[i]? = some x) (hx : Loc X.env.scope x) (hf : X.fn x = true ∨ X.env.scope.names.lookup x = some .local := by first | exact .inl rfl | exact .inr rfl | assumption) (hw : i ∈ ws := by decide) : G X ws (.Name x pos) (gN i) := by
  refine PG.imp (pg_name hN hi hx hf) fun v σ H Q ⟨Z, σd, m, d, S, M, r, σ1, m1, e, q⟩ => ?_
  cases e
  exact q H Z _ (.refl _ _) M (S.set i r) (wipe_set hw)
def gsNil : GsF := fun ds σ m => match ds with | [] => .nx σ m | _ => .bad
def gsCons (g : GF) (r : GsF) : GsF := fun ds σ m => match ds with | d :: ds => (g d σ m).then (r ds) | [] => .bad
theorem gs_nil : Gs X ws [] gsNil := by
  refine PGs.imp pgs_nil fun vs σ H Q ⟨Z, σd, m, ds, S, M, r, σ1, m1, e, q⟩ => ?_
  cases ds with
  | nil =>
    simp only [Reps] at r
    cases e
    exact ⟨r, q H Z σ (.refl _ _) M S rfl⟩
  | cons d ds => cases e
theorem gs_cons {es : List Expr} {g : GF} {r : GsF} (h1 : G X ws e g) (h2 : Gs X ws es r) (hs : (assignEach (e :: es) X.env).map (·.2) = assign e X.env :: (assignEach es X.env).map (·.2) := by rfl) : Gs X ws (e :: es) (gsCons g r) := by
  refine PGs.imp (pgs_cons h1 h2 hs) fun vs σ H Q ⟨Z, σd, m, ds, S, M, rs, σ1, m1, e, q⟩ => ?_
  cases ds with
  | nil => cases e
  | cons d ds =>
    simp only [Reps] at rs
    obtain ⟨v, r', ev, r1, r2⟩ := rs
    refine ⟨v, r', ev, Z, σd, m, d, S, M, r1, ?_⟩
    have e' : (g d σd m).then (r ds) = .nx σ1 m1 := e
    cases eg : g d σd m with
    | nx σ2 m2 =>
      rw [eg] at e'
      exact ⟨σ2, m2, rfl, fun H1 Z1 σ1' x1 M1 S1 w1 => ⟨Z1, σ2, m2, ds, S1, M1, Reps.ext x1 _ _ r2, σ1, m1, e', fun H' Z' σ' x M S w => q H' Z' σ' (x1.trans x) M S (w.trans w1)⟩⟩
    | rt _ _ => rw [eg] at e'; cases e'
    | bk _ _ => rw [eg] at e'; cases e'
    | ct _ _ => rw [eg] at e'; cases e'
    | exc _ _ _ => rw [eg] at e'; cases e'
    | bad => rw [eg] at e'; cases e'
/-- a, b = a tuple -/
def gT (n : Nat) (g : GsF) : GF := fun d σ m => match d with | .tup xs => if xs.length = n then g xs σ m else .bad | _ => .bad
theorem g_tup {es : List Expr} {kk : Nat} {g : GsF} {n : Nat} (hc : X.calm = true) (h : Gs X ws es g) (hn : (assignEach es X.env).length = n := by rfl) (hst : (assignEach es X.env).findIdx? (·.1) = none := by rfl) : G X ws (.Tuple es kk pos) (gT n g) := by
  refine PG.imp (pg_tup hc h hn hst) fun v σ H Q ⟨Z, σd, m, d, S, M, r, σ1, m1, e, q⟩ => ?_
  cases d with
  | tup xs =>
    simp only [Rep] at r
    obtain ⟨a, vs, ev, rd, _, rs⟩ := r
    have e' : (if xs.length = n then g xs σd m else .bad) = SRes.nx σ1 m1 := e
    by_cases hl : xs.length = n
    · rw [if_pos hl] at e'
      exact ⟨a, vs, ev, .inl rd, by rw [← reps_len rs]; exact hl, Z, σd, m, xs, S, M, rs, σ1, m1, e', q⟩
    · rw [if_neg hl] at e'; cases e'
  | _ => cases e
def sAsg (g : GF) (fe : EF) : SF := fun σ m => (fe σ m).st σ fun d m => g d σ m
def GOk (g : GF) : Prop := ∀ d σ m, (∃ σ1 m1, g d σ m = .nx σ1 m1) ∨ g d σ m = .bad
theorem fin_g {g : GF} {H : Hp} {Z : Zn} {σ : St} {σd : Sg} {m : Mem} {d : D} {v : V} {Dn : Ends} (ok : GOk g) (h : FinS X W H Z (g d σd m) Dn) (S : SRep H Z σd σ) (M : MRep H Z m) (r : Rep H Z d v) : rdG ws g v σ H Dn.nx := by
  refine ⟨Z, σd, m, d, S, M, r, ?_⟩
  rcases ok d σd m with ⟨σ1, m1, e⟩ | e
  · rw [e] at h
    exact ⟨σ1, m1, e, fun H' Z' σ' x M S _ => h H' Z' σ' x M S⟩
  · rw [e] at h
    exact h.elim
theorem gok_name {i : Nat} : GOk (gN i) := fun d σ m => .inl ⟨_, _, rfl⟩
def GsOk (g : GsF) : Prop := ∀ ds σ m, (∃ σ1 m1, g ds σ m = .nx σ1 m1) ∨ g ds σ m = .bad
theorem gsok_nil : GsOk gsNil := fun ds σ m => by
  cases ds with
  | nil => exact .inl ⟨_, _, rfl⟩
  | cons d ds => exact .inr rfl
theorem gsok_cons {g : GF} {r : GsF} (h1 : GOk g) (h2 : GsOk r) : GsOk (gsCons g r) := fun ds σ m => by
  cases ds with
  | nil => exact .inr rfl
  | cons d ds =>
    show (∃ σ1 m1, (g d σ m).then (r ds) = .nx σ1 m1) ∨ (g d σ m).then (r ds) = .bad
    rcases h1 d σ m with ⟨σ1, m1, e⟩ | e
    · rw [e]; exact h2 ds σ1 m1
    · rw [e]; exact .inr rfl
theorem gok_tup {n : Nat} {g : GsF} (h : GsOk g) : GOk (gT n g) := fun d σ m => by
  cases d with
  | tup xs =>
    show (∃ σ1 m1, (if xs.length = n then g xs σ m else .bad) = .nx σ1 m1) ∨ (if xs.length = n then g xs σ m else .bad) = .bad
    by_cases hl : xs.length = n
    · rw [if_pos hl]; exact h xs σ m
    · rw [if_neg hl]; exact .inr rfl
  | _ => exact .inr rfl
theorem s_asg {tg : Expr} {g : GF} (he : E X W e fe) (hg : G X ws tg g) (ok : GOk g) (hs : swapsWithSole [tg] e pos.line X.env = pure false := by rfl) (hw : swappedStores [tg] e X.env = pure none := by rfl)
    (h1 : (assignEach [tg] X.env).map (·.2) = [assign tg X.env] := by rfl) : S1 X W (.Assign [tg] e pos) (sAsg g fe) := by
  refine PS.imp (ps_asg he hg hs hw h1) fun D σ H ⟨Z, σd, m, S, M, h⟩ => ?_
  exact ⟨Z, σd, m, S, M, (Fin.st h S).mono fun a m1 H1 Z1 x1 M1 h1 v r => fin_g ok h1 (S.ext x1) M1 r⟩
def sSet (i : Nat) (fe : EF) : SF := fun σ m => (fe σ m).st σ fun d m => .nx (σ.set i (some d)) m
theorem s_set {i : Nat} {x : Str} {pos' : Pos} (hN : X.N.Nodup) (hi : X.N[i]? = some x) (hx : Loc X.env.scope x) (he : E X W e fe) (hs : swapsWith e (some (.Name x pos')) pos.line X.env = pure false := by rfl)
    (hf : X.fn x = true ∨ X.env.scope.names.lookup x = some .local := by first | exact .inl rfl | exact .inr rfl | assumption) : S1 X W (.Assign [.Name x pos'] e pos) (sSet i fe) := by
  refine PS.imp (ps_set hN hi hx he hs hf) fun D σ H ⟨Z, σd, m, S, M, h⟩ => ?_
  exact ⟨Z, σd, m, S, M, (Fin.st h S).mono fun a m1 H1 Z1 x1 M1 h1 v r => h1 H1 Z1 _ (.refl _ _) M1 ((S.ext x1).set i r)⟩
def sPar (i j : Nat) (a : AF) : SF := fun σ m => (a σ m).st σ fun ds m => match ds with | [x, y] => .nx ((σ.set i (some x)).set j (some y)) m | _ => .bad
theorem s_par {i j : Nat} {x y : Str} {a b : Expr} {fa : AF} {px py pt : Pos} {kt k2 pt2} (hc : X.calm = true) (hN : X.N.Nodup) (hi : X.N[i]? = some x) (hj : X.N[j]? = some y) (hij : i ≠ j)
    (hx : X.env.scope.names.lookup x = some .local) (hy : X.env.scope.names.lookup y = some .local) (ha : AA X W [a, b] fa)
    (hw : swappedStores [.Tuple [.Name x px, .Name y py] kt pt] (.Tuple [a, b] k2 pt2) X.env = pure (some [x, y]) := by rfl)
    (hs : swapsWithSole [.Tuple [.Name x px, .Name y py] kt pt] (.Tuple [a, b] k2 pt2) pos.line X.env = pure false := by rfl) :
    S1 X W (.Assign [.Tuple [.Name x px, .Name y py] kt pt] (.Tuple [a, b] k2 pt2) pos) (sPar i j fa) := by
  refine PS.imp (ps_par hc hN hi hj hij hx hy ha hw hs) fun D σ H ⟨Z, σd, m, S, M, h⟩ => ?_
  refine ⟨Z, σd, m, S, M, (Fin.st h S).mono fun ds m1 H1 Z1 x1 M1 h1 vs r => ?_⟩
  match ds, h1, r with
  | [x, y], h1, r =>
    simp only [Reps] at r
    obtain ⟨v, vs', rfl, rv, w, vs'', rfl, rw', rfl⟩ := r
    exact ⟨v, w, rfl, h1 H1 Z1 _ (.refl _ _) M1 (((S.ext x1).set i rv).set j rw')⟩
  | [], h1, _ => exact h1.elim
  | [_], h1, _ => exact h1.elim
  | _ :: _ :: _ :: _, h1, _ => exact h1.elim
def sPar3 (i j l : Nat) (a : AF) : SF := fun σ m => (a σ m).st σ fun ds m => match ds with | [x, y, z] => .nx (((σ.set i (some x)).set j (some y)).set l (some z)) m | _ => .bad
theorem s_par3 {i j l : Nat} {x y z : Str} {a b c : Expr} {fa : AF} {px py pz pt : Pos} {kt k2 pt2} (hc : X.calm = true) (hN : X.N.Nodup) (hi : X.N[i]? = some x) (hj : X.N[j]? = some y) (hl : X.N[l]? = some z) (hij : i ≠ j) (hil : i ≠ l) (hjl : j ≠ l)
    (hx : X.env.scope.names.lookup x = some .local) (hy : X.env.scope.names.lookup y = some .local) (hz : X.env.scope.names.lookup z = some .local) (ha : AA X W [a, b, c] fa)
    (hw : swappedStores [.Tuple [.Name x px, .Name y py, .Name z pz] kt pt] (.Tuple [a, b, c] k2 pt2) X.env = pure (some [x, y, z]) := by rfl)
    (hs : swapsWithSole [.Tuple [.Name x px, .Name y py, .Name z pz] kt pt] (.Tuple [a, b, c] k2 pt2) pos.line X.env = pure false := by rfl) :
    S1 X W (.Assign [.Tuple [.Name x px, .Name y py, .Name z pz] kt pt] (.Tuple [a, b, c] k2 pt2) pos) (sPar3 i j l fa) := by
  refine PS.imp (ps_par3 hc hN hi hj hl hij hil hjl hx hy hz ha hw hs) fun D σ H ⟨Z, σd, m, S, M, h⟩ => ?_
  refine ⟨Z, σd, m, S, M, (Fin.st h S).mono fun ds m1 H1 Z1 x1 M1 h1 vs r => ?_⟩
  match ds, h1, r with
  | [x, y, z], h1, r =>
    simp only [Reps] at r
    obtain ⟨v, vs', rfl, rv, w, vs'', rfl, rw', u, vs3, rfl, ru, rfl⟩ := r
    exact ⟨v, w, u, rfl, h1 H1 Z1 _ (.refl _ _) M1 ((((S.ext x1).set i rv).set j rw').set l ru)⟩
  | [], h1, _ => exact h1.elim
  | [_], h1, _ => exact h1.elim
  | [_, _], h1, _ => exact h1.elim
  | _ :: _ :: _ :: _ :: _, h1, _ => exact h1.elim
end
end PD
namespace PD
open PySem PySem.Spec L2
open PyProof.Rows hiding St

/-! ### while -/
def whileN (c : TF) (b : SF) : Nat → SF
  | 0, _, _ => .bad
  | n + 1, σ, m => (c σ m).st σ fun k m1 => if k then
      (match b σ m1 with
        | .nx σ2 m2 => whileN c b n σ2 m2
        | .ct σ2 m2 => whileN c b n σ2 m2
        | .bk σ2 m2 => .nx σ2 m2
        | r => r)
    else .nx σ m1
/-- turns that are enough for every loop -/
def FUEL : Nat := 20000000
section
variable {X : Cx} {W : WX} {pos : Pos}
theorem s_while {c : Expr} {body : List Stmt} {fc : TF} {fb : SF} (hp : PassesOwn (model X.prog X.w) X.A X.env X.xe) (hc : T X W c fc) (hb : Ss X W body fb) : S1 X W (.While c body [] pos) (whileN fc fb FUEL) := by
  refine PS.imp (ps_while hp hc hb) fun D σ H ⟨Z, σd, m, S, M, h⟩ => ?_
  refine ⟨fun k σ H => ∃ Z σd m, SRep H Z σd σ ∧ MRep H Z m ∧ FinS X W H Z (whileN fc fb k σd m) D, ⟨FUEL, Z, σd, m, S, M, h⟩, ?_⟩
  rintro k σ H ⟨Z, σd, m, S, M, h⟩
  cases k with
  | zero => exact h.elim
  | succ k =>
    refine ⟨Z, σd, m, S, M, (Fin.st h S).mono fun b m1 H1 Z1 x1 M1 h1 => ?_⟩
    cases b with
    | false => exact iteF (h1 H1 Z1 σ (.refl _ _) M1 (S.ext x1))
    | true =>
      refine iteT ⟨fun σ' H' => ∃ Z σd m, SRep H' Z σd σ' ∧ MRep H' Z m ∧ FinS X W H' Z (whileN fc fb k σd m) D, fun σ' H' q => ⟨k, Nat.lt_succ_self _, q⟩, Z1, σd, m1, S.ext x1, M1, ?_⟩
      have h2 : FinS X W H1 Z1 (match fb σd m1 with | .nx σ2 m2 => whileN fc fb k σ2 m2 | .ct σ2 m2 => whileN fc fb k σ2 m2 | .bk σ2 m2 => .nx σ2 m2 | r => r) D := h1
      cases e : fb σd m1 with
      | nx σ2 m2 => rw [e] at h2; exact fun H' Z' σ' x M' S' => ⟨Z', σ2, m2, S', M', FinS.shift x h2⟩
      | ct σ2 m2 => rw [e] at h2; exact fun H' Z' σ' x M' S' => ⟨Z', σ2, m2, S', M', FinS.shift x h2⟩
      | bk σ2 m2 => rw [e] at h2; exact h2
      | rt d m2 => rw [e] at h2; exact h2
      | exc c σ2 m2 => rw [e] at h2; exact h2
      | bad => rw [e] at h2; exact h2
end

/-! ### what a for walks -/
inductive Src where
  | its (xs : List D) | mem (n : Nat)
structure Its (J : It) (H1 : Hp) (Z1 : Zn) (xs : List D) : Prop where
  go : ∀ (i : Nat) H Z m, Ext Z1 H1 Z H → MRep H Z m → i < xs.length → J.go i H
  yld : ∀ (i : Nat) H Z m x H' d, Ext Z1 H1 Z H → MRep H Z m → xs[i]? = some d → J.yld i H x H' → Ext Z H Z H' ∧ MRep H' Z m ∧ Rep H' Z d x
  stop : ∀ (i : Nat) H Z m, Ext Z1 H1 Z H → MRep H Z m → xs.length ≤ i → J.stop i H
structure ItM (J : It) (a : Addr) : Prop where
  go : ∀ (i : Nat) (H : Hp) (vs : List V) x, H a = some (.lst vs) → vs[i]? = some x → J.go i H
  yld : ∀ (i : Nat) (H : Hp) (vs : List V) x H', H a = some (.lst vs) → J.yld i H x H' → H' = H ∧ vs[i]? = some x
  stop : ∀ (i : Nat) (H : Hp) (vs : List V), H a = some (.lst vs) → vs.length ≤ i → J.stop i H
def SrcOk (J : It) (H : Hp) (Z : Zn) : Src → Prop
  | .its xs => Its J H Z xs
  | .mem n => ∃ a, Z.ρ[n]? = some a ∧ ItM J a
abbrev IF := Sg → Mem → Res Src
def rdI (X : Cx) (W : WX) (f : IF) : TI := fun σ H R => ∃ Z σd m, SRep H Z σd σ ∧ MRep H Z m ∧ Fin X W σ H Z (f σd m) fun s _ H' Z' => ∀ J, SrcOk J H' Z' s → R J H'
abbrev I (X : Cx) (W : WX) (tg iter : Expr) (f : IF) : Prop := PI X tg iter (rdI X W f)
theorem PI.imp {X : Cx} {tg iter : Expr} {t t' : TI} (h : PI X tg iter t) (k : ∀ σ H R, t' σ H R → t σ H R) : PI X tg iter t' := ⟨fun pins s σ H R I q => h.run pins s σ H R I (k σ H R q)⟩
theorem PI.by {X : Cx} {tg iter : Expr} {t : TI} (h : ∀ σ H R, t σ H R → ∃ t', PI X tg iter t' ∧ t' σ H R) : PI X tg iter t := ⟨fun pins s σ H R I q => let ⟨_, h', q'⟩ := h σ H R q; h'.run pins s σ H R I q'⟩
theorem its_list {K : PySem.W.Frag} {H : Hp} {Z : Zn} {xs : List D} {vs : List V} {a : Addr} (rd : Rd H a (.lst vs)) (o : Z.out a) (r : Reps H Z xs vs) (uq : ∀ (H : Hp) ys, SqL K H a ys → Rd H a (.lst vs) → ys = vs) : Its (Itl K a) H Z xs where
  go := fun i H1 Z1 m x M hi => by
    obtain ⟨d, e⟩ : ∃ d, xs[i]? = some d := ⟨_, List.getElem?_eq_getElem hi⟩
    obtain ⟨v, ev, _⟩ := reps_get r e
    exact ⟨vs, v, .inl (Rd.ext x rd o).1, ev⟩
  yld := fun i H1 Z1 m v H' d x M e q => by
    obtain ⟨e1, e2⟩ := q
    subst e1
    obtain ⟨v', ev, rv⟩ := reps_get r e
    have q := e2 vs (.inl (Rd.ext x rd o).1)
    rw [ev] at q; cases q
    exact ⟨.refl _ _, M, Rep.ext x _ _ rv⟩
  stop := fun i H1 Z1 m x M hi => ⟨vs, .inl (Rd.ext x rd o).1, by rw [← reps_len r]; exact hi⟩
theorem its_tup {K : PySem.W.Frag} {H : Hp} {Z : Zn} {xs : List D} {vs : List V} {a : Addr} (rd : Rd H a (.tup vs)) (o : Z.out a) (r : Reps H Z xs vs) : Its (Itt K a) H Z xs where
  go := fun i H1 Z1 m x M hi => by
    obtain ⟨d, e⟩ : ∃ d, xs[i]? = some d := ⟨_, List.getElem?_eq_getElem hi⟩
    obtain ⟨v, ev, _⟩ := reps_get r e
    exact ⟨vs, v, .inl (Rd.ext x rd o).1, ev⟩
  yld := fun i H1 Z1 m v H' d x M e q => by
    obtain ⟨e1, e2⟩ := q
    subst e1
    obtain ⟨v', ev, rv⟩ := reps_get r e
    have q := e2 vs (.inl (Rd.ext x rd o).1)
    rw [ev] at q; cases q
    exact ⟨.refl _ _, M, Rep.ext x _ _ rv⟩
  stop := fun i H1 Z1 m x M hi => ⟨vs, .inl (Rd.ext x rd o).1, by rw [← reps_len r]; exact hi⟩
theorem its_list' {K : PySem.W.Frag} {H : Hp} {Z : Zn} {xs : List D} {vs : List V} {a : Addr} (rd : Rd H a (.lst vs)) (o : Z.out a) (r : Reps H Z xs vs) : Its (Itl K a) H Z xs where
  go := fun i H1 Z1 m x M hi => by
    obtain ⟨d, e⟩ : ∃ d, xs[i]? = some d := ⟨_, List.getElem?_eq_getElem hi⟩
    obtain ⟨v, ev, _⟩ := reps_get r e
    exact ⟨vs, v, .inl (Rd.ext x rd o).1, ev⟩
  yld := fun i H1 Z1 m v H' d x M e q => by
    obtain ⟨e1, e2⟩ := q
    subst e1
    obtain ⟨v', ev, rv⟩ := reps_get r e
    have q := e2 vs (.inl (Rd.ext x rd o).1)
    rw [ev] at q; cases q
    exact ⟨.refl _ _, M, Rep.ext x _ _ rv⟩
  stop := fun i H1 Z1 m x M hi => ⟨vs, .inl (Rd.ext x rd o).1, by rw [← reps_len r]; exact hi⟩
theorem itm_list {K : PySem.W.Frag} {a : Addr} : ItM (Itl K a) a where
  go := fun i H vs x e ex => ⟨vs, x, .inl (.inl e), ex⟩
  yld := fun i H vs x H' e q => ⟨q.1, q.2 vs (.inl (.inl e))⟩
  stop := fun i H vs e hi => ⟨vs, .inl (.inl e), hi⟩
def srcOf (d : D) (m : Mem) : Res Src := match d with
  | .tup xs => .ok (.its xs) m
  | .lst xs => .ok (.its xs) m
  | .scr xs => .ok (.its xs) m
  | .ref n => (match m[n]? with | some (.lst _) => .ok (.mem n) m | _ => .bad)
  | _ => .bad
@[simp] theorem srcOf_tup (xs : List D) (m : Mem) : srcOf (.tup xs) m = .ok (.its xs) m := rfl
@[simp] theorem srcOf_scr (xs : List D) (m : Mem) : srcOf (.scr xs) m = .ok (.its xs) m := rfl
@[simp] theorem srcOf_lst (xs : List D) (m : Mem) : srcOf (.lst xs) m = .ok (.its xs) m := rfl
def iE (f : EF) : IF := fun σ m => (f σ m).bind srcOf
section
variable {X : Cx} {W : WX} {tg : Expr} {pos : Pos}
theorem i_any {l : Expr} {f : EF} (hl : E X W l f) : I X W tg l (iE f) := by
  refine PI.by fun σ H R ⟨Z, σd, m, S, M, h⟩ => ?_
  have h2 := Fin.bind h
  cases ef : f σd m with
  | ok d m1 =>
    cases d with
    | tup xs =>
      refine ⟨_, pi_tup hl, Z, σd, m, S, M, ?_⟩
      rw [ef] at h2 ⊢
      intro H1 Z1 x1 M1 v r
      simp only [Rep] at r
      obtain ⟨a, vs, e, rd, o, rs⟩ := r
      exact ⟨a, e, ⟨vs, .inl rd⟩, h2 H1 Z1 x1 M1 H1 Z1 (.refl _ _) M1 _ (its_tup rd o rs)⟩
    | lst xs =>
      refine ⟨_, pi_list hl, Z, σd, m, S, M, ?_⟩
      rw [ef] at h2 ⊢
      intro H1 Z1 x1 M1 v r
      simp only [Rep] at r
      obtain ⟨a, vs, e, rd, o, rs⟩ := r
      exact ⟨a, e, ⟨vs, .inl (.inl rd)⟩, h2 H1 Z1 x1 M1 H1 Z1 (.refl _ _) M1 _ (its_list' (.inl rd) o rs)⟩
    | scr xs =>
      refine ⟨_, pi_list hl, Z, σd, m, S, M, ?_⟩
      rw [ef] at h2 ⊢
      intro H1 Z1 x1 M1 v r
      simp only [Rep] at r
      obtain ⟨a, vs, e, rd, o, rs⟩ := r
      exact ⟨a, e, ⟨vs, .inl rd⟩, h2 H1 Z1 x1 M1 H1 Z1 (.refl _ _) M1 _ (its_list' rd o rs)⟩
    | adr b => refine ⟨_, pi_list hl, Z, σd, m, S, M, ?_⟩; rw [ef] at h2 ⊢; exact fun H1 Z1 x1 M1 => (h2 H1 Z1 x1 M1).elim
    | ref n =>
      refine ⟨_, pi_list hl, Z, σd, m, S, M, ?_⟩
      rw [ef] at h2 ⊢
      intro H1 Z1 x1 M1 v r
      simp only [Rep] at r
      obtain ⟨a, ea, e⟩ := r
      have h3 := h2 H1 Z1 x1 M1
      simp only [srcOf] at h3
      split at h3
      · rename_i ys em
        obtain ⟨vs, hv, _⟩ := M1.obj n a _ ea em
        exact ⟨a, e, ⟨vs, .inl (.inl hv)⟩, h3 H1 Z1 (.refl _ _) M1 _ ⟨a, ea, itm_list⟩⟩
      · exact h3.elim
    | non => refine ⟨_, pi_list hl, Z, σd, m, S, M, ?_⟩; rw [ef] at h2 ⊢; exact fun H1 Z1 x1 M1 => (h2 H1 Z1 x1 M1).elim
    | bl b => refine ⟨_, pi_list hl, Z, σd, m, S, M, ?_⟩; rw [ef] at h2 ⊢; exact fun H1 Z1 x1 M1 => (h2 H1 Z1 x1 M1).elim
    | int i => refine ⟨_, pi_list hl, Z, σd, m, S, M, ?_⟩; rw [ef] at h2 ⊢; exact fun H1 Z1 x1 M1 => (h2 H1 Z1 x1 M1).elim
    | str x => refine ⟨_, pi_list hl, Z, σd, m, S, M, ?_⟩; rw [ef] at h2 ⊢; exact fun H1 Z1 x1 M1 => (h2 H1 Z1 x1 M1).elim
  | exc c m1 => refine ⟨_, pi_list hl, Z, σd, m, S, M, ?_⟩; rw [ef] at h2 ⊢; exact h2
  | bad => rw [ef] at h2; exact h2.elim
/-- range -/
def rngL (lo : Int) (n : Nat) : List D := (List.range n).map fun (i : Nat) => D.int (lo + i)
def rngC (lo c : Int) (n : Nat) : List D := (List.range n).map fun (i : Nat) => D.int (lo + i * c)
def bnd (i : Int) : Bool := decide (i.natAbs ≤ 1000000000)
def range1 (ds : List D) (m : Mem) : Res Src := match ds with | [.int j] => if bnd j then .ok (.its (rngL 0 j.toNat)) m else .bad | _ => .bad
def range2 (ds : List D) (m : Mem) : Res Src := match ds with | [.int i, .int j] => if bnd i && bnd j then .ok (.its (rngL i (j - i).toNat)) m else .bad | _ => .bad
/-- range(i, j, -1) -/
def range3 (ds : List D) (m : Mem) : Res Src := match ds with | [.int i, .int j, .int c] => if bnd i && bnd j && decide (c = -1) then .ok (.its (rngC i (-1) (i - j).toNat)) m else .bad | _ => .bad
def iA (op : List D → Mem → Res Src) (a : AF) : IF := fun σ m => (a σ m).bind op
theorem its_rng {lo : Int} {n : Nat} {H : Hp} {Z : Zn} : Its (Itr lo n) H Z (rngL lo n) where
  go := fun i H Z m x M hi => by simpa [rngL, Itr] using hi
  yld := fun i H Z m v H' d x M e q => by
    obtain ⟨e1, e2⟩ := q
    subst e1
    refine ⟨.refl _ _, M, ?_⟩
    unfold rngL at e
    rw [List.getElem?_map] at e
    cases er : (List.range n)[i]? with
    | none => rw [er] at e; cases e
    | some j =>
      rw [er] at e
      obtain ⟨hi, ei⟩ := List.getElem?_eq_some_iff.mp er
      rw [List.getElem_range] at ei
      subst ei
      cases e
      simp only [Rep]
      exact e2
  stop := fun i H Z m x M hi => by simpa [rngL, Itr] using hi
theorem its_rngC {lo c : Int} {n : Nat} {H : Hp} {Z : Zn} : Its (Itc lo c n) H Z (rngC lo c n) where
  go := fun i H Z m x M hi => by simpa [rngC, Itc] using hi
  yld := fun i H Z m v H' d x M e q => by
    obtain ⟨e1, e2⟩ := q
    subst e1
    refine ⟨.refl _ _, M, ?_⟩
    unfold rngC at e
    rw [List.getElem?_map] at e
    cases er : (List.range n)[i]? with
    | none => rw [er] at e; cases e
    | some j =>
      rw [er] at e
      obtain ⟨hi, ei⟩ := List.getElem?_eq_some_iff.mp er
      rw [List.getElem_range] at ei
      subst ei
      cases e
      simp only [Rep]
      exact e2
  stop := fun i H Z m x M hi => by simpa [rngC, Itc] using hi
theorem bnd_iff {i : Int} : bnd i = true ↔ -1000000000 ≤ i ∧ i ≤ 1000000000 := by
  unfold bnd
  rw [decide_eq_true_iff]
  omega
theorem reps1 {H : Hp} {Z : Zn} {d : D} {vs : List V} (r : Reps H Z [d] vs) : ∃ v, vs = [v] ∧ Rep H Z d v := by
  simp only [Reps] at r
  obtain ⟨v, _, rfl, r1, rfl⟩ := r
  exact ⟨v, rfl, r1⟩
theorem reps2 {H : Hp} {Z : Zn} {d e : D} {vs : List V} (r : Reps H Z [d, e] vs) : ∃ v u, vs = [v, u] ∧ Rep H Z d v ∧ Rep H Z e u := by
  simp only [Reps] at r
  obtain ⟨v, _, rfl, r1, u, _, rfl, r2, rfl⟩ := r
  exact ⟨v, u, rfl, r1, r2⟩
theorem reps3 {H : Hp} {Z : Zn} {d e f : D} {vs : List V} (r : Reps H Z [d, e, f] vs) : ∃ v u w, vs = [v, u, w] ∧ Rep H Z d v ∧ Rep H Z e u ∧ Rep H Z f w := by
  simp only [Reps] at r
  obtain ⟨v, _, rfl, r1, u, _, rfl, r2, w, _, rfl, r3, rfl⟩ := r
  exact ⟨v, u, w, rfl, r1, r2, r3⟩
theorem i_range1 {a : Expr} {fa : AF} {p : Pos} (hg : Gl X "range") (hm : X.mg "range" = none) (ha : AA X W [a] fa) (hs : starEach [a] X.env = [(false, eval a X.env)] := by rfl) : I X W tg (.Call (.Name "range" p) [a] [] pos) (iA range1 fa) := by
  refine PI.imp (pi_range1 hg hm ha hs) fun σ H R ⟨Z, σd, m, S, M, h⟩ => ?_
  refine ⟨Z, σd, m, S, M, (Fin.bind h).mono fun ds m1 H1 Z1 x1 M1 h1 vs r => ?_⟩
  unfold range1 at h1
  split at h1
  · rename_i j
    obtain ⟨v, rfl, rv⟩ := reps1 r
    simp only [Rep] at rv
    subst rv
    by_cases hb : bnd j = true
    · rw [if_pos hb] at h1
      have hb' := bnd_iff.mp hb
      exact ⟨j, rfl, by omega, by omega, h1 H1 Z1 (.refl _ _) M1 _ its_rng⟩
    · rw [if_neg hb] at h1; exact h1.elim
  · exact h1.elim
theorem i_range2 {a b : Expr} {fa : AF} {p : Pos} (hg : Gl X "range") (hm : X.mg "range" = none) (ha : AA X W [a, b] fa) (hs : starEach [a, b] X.env = [(false, eval a X.env), (false, eval b X.env)] := by rfl) (hs2 : starEach [b] X.env = [(false, eval b X.env)] := by rfl) : I X W tg (.Call (.Name "range" p) [a, b] [] pos) (iA range2 fa) := by
  refine PI.imp (pi_range2 hg hm ha hs hs2) fun σ H R ⟨Z, σd, m, S, M, h⟩ => ?_
  refine ⟨Z, σd, m, S, M, (Fin.bind h).mono fun ds m1 H1 Z1 x1 M1 h1 vs r => ?_⟩
  unfold range2 at h1
  split at h1
  · rename_i i j
    obtain ⟨v, u, rfl, rv, ru⟩ := reps2 r
    simp only [Rep] at rv ru
    subst rv ru
    by_cases hb : (bnd i && bnd j) = true
    · rw [if_pos hb] at h1
      have hb1 := bnd_iff.mp (Bool.and_eq_true_iff.mp hb).1
      have hb2 := bnd_iff.mp (Bool.and_eq_true_iff.mp hb).2
      exact ⟨i, j, rfl, by omega, h1 H1 Z1 (.refl _ _) M1 _ its_rng⟩
    · rw [if_neg hb] at h1; exact h1.elim
  · exact h1.elim
theorem i_range3 {a b c : Expr} {fa : AF} {p : Pos} (hg : Gl X "range") (hm : X.mg "range" = none) (ha : AA X W [a, b, c] fa)
    (hs : starEach [a, b, c] X.env = (false, eval a X.env) :: starEach [b, c] X.env := by rfl) (hpl : (backTo pos (starEach [b, c] X.env)).any (·.1) = false := by rfl) : I X W tg (.Call (.Name "range" p) [a, b, c] [] pos) (iA range3 fa) := by
  refine PI.imp (pi_range3 hg hm ha hs hpl) fun σ H R ⟨Z, σd, m, S, M, h⟩ => ?_
  refine ⟨Z, σd, m, S, M, (Fin.bind h).mono fun ds m1 H1 Z1 x1 M1 h1 vs r => ?_⟩
  unfold range3 at h1
  split at h1
  · rename_i i j c
    obtain ⟨v, u, w, rfl, rv, ru, rw'⟩ := reps3 r
    simp only [Rep] at rv ru rw'
    subst rv ru rw'
    by_cases hb : (bnd i && bnd j && decide (c = -1)) = true
    · rw [if_pos hb] at h1
      simp only [Bool.and_eq_true, bnd_iff, decide_eq_true_eq] at hb
      obtain ⟨⟨hb1, hb2⟩, hc⟩ := hb
      subst hc
      exact ⟨i, j, -1, (i - j).toNat, rfl, RgC.neg (by omega) (by omega) (by omega) (by omega), h1 H1 Z1 (.refl _ _) M1 _ its_rngC⟩
    · rw [if_neg hb] at h1; exact h1.elim
  · exact h1.elim
/-- zip -/
def zipD (ds : List D) (m : Mem) : Res Src := match ds with
  | [.tup xs, .tup ys] => .ok (.its ((xs.zip ys).map fun p => D.tup [p.1, p.2])) m
  | [.lst xs, .lst ys] => .ok (.its ((xs.zip ys).map fun p => D.tup [p.1, p.2])) m
  | _ => .bad
end
end PD
namespace PD
open PySem PySem.Spec L2
open PyProof.Rows hiding St

section
variable {X : Cx} {W : WX} {tg : Expr} {pos : Pos}
theorem getElem_zip {α β : Type} : ∀ {xs : List α} {ys : List β} {i : Nat} {p : α × β}, (xs.zip ys)[i]? = some p → xs[i]? = some p.1 ∧ ys[i]? = some p.2
  | [], ys, i, p, h => by simp at h
  | x :: xs, [], i, p, h => by simp at h
  | x :: xs, y :: ys, 0, p, h => by simp at h; subst h; simp
  | x :: xs, y :: ys, i + 1, p, h => by
    simp only [List.zip_cons_cons, List.getElem?_cons_succ] at h ⊢
    exact getElem_zip h
theorem its_zipT {K : PySem.W.Frag} {H : Hp} {Z : Zn} {xs ys : List D} {vs us : List V} {a b : Addr} (rd : Rd H a (.tup vs)) (o : Z.out a) (r : Reps H Z xs vs) (rd' : Rd H b (.tup us)) (o' : Z.out b) (r' : Reps H Z ys us) :
    Its (RZ.ItzT K a b) H Z ((xs.zip ys).map fun p => D.tup [p.1, p.2]) where
  go := fun i H1 Z1 m x M hi => by
    rw [List.length_map, List.length_zip] at hi
    obtain ⟨d, e⟩ : ∃ d, xs[i]? = some d := ⟨_, List.getElem?_eq_getElem (by omega)⟩
    obtain ⟨d', e'⟩ : ∃ d, ys[i]? = some d := ⟨_, List.getElem?_eq_getElem (by omega)⟩
    obtain ⟨v, ev, _⟩ := reps_get r e
    obtain ⟨u, eu, _⟩ := reps_get r' e'
    exact ⟨vs, us, v, u, .inl (Rd.ext x rd o).1, .inl (Rd.ext x rd' o').1, ev, eu⟩
  yld := fun i H1 Z1 m v H' d x M e q => by
    obtain ⟨T, x1, y1, rfl, nT, rfl, f1, f2⟩ := q
    rw [List.getElem?_map] at e
    cases ez : (xs.zip ys)[i]? with
    | none => rw [ez] at e; cases e
    | some p =>
      rw [ez] at e
      cases e
      obtain ⟨g1, g2⟩ := getElem_zip ez
      obtain ⟨v, ev, rv⟩ := reps_get r g1
      obtain ⟨u, eu, ru⟩ := reps_get r' g2
      have q1 := f1 vs (.inl (Rd.ext x rd o).1)
      rw [ev] at q1; cases q1
      have q2 := f2 us (.inl (Rd.ext x rd' o').1)
      rw [eu] at q2; cases q2
      refine ⟨Ext.laid M nT, M.laid nT, rep_tup_new M ?_ nT⟩
      simp only [Reps]
      exact ⟨_, [_], rfl, Rep.ext x _ _ rv, _, [], rfl, Rep.ext x _ _ ru, rfl⟩
  stop := fun i H1 Z1 m x M hi => by
    rw [List.length_map, List.length_zip, reps_len r, reps_len r'] at hi
    exact ⟨vs, us, .inl (Rd.ext x rd o).1, .inl (Rd.ext x rd' o').1, by omega⟩
theorem its_zipL {K : PySem.W.Frag} {H : Hp} {Z : Zn} {xs ys : List D} {vs us : List V} {a b : Addr} (rd : Rd H a (.lst vs)) (o : Z.out a) (r : Reps H Z xs vs) (rd' : Rd H b (.lst us)) (o' : Z.out b) (r' : Reps H Z ys us) :
    Its (Itz K a b) H Z ((xs.zip ys).map fun p => D.tup [p.1, p.2]) where
  go := fun i H1 Z1 m x M hi => by
    rw [List.length_map, List.length_zip] at hi
    obtain ⟨d, e⟩ : ∃ d, xs[i]? = some d := ⟨_, List.getElem?_eq_getElem (by omega)⟩
    obtain ⟨d', e'⟩ : ∃ d, ys[i]? = some d := ⟨_, List.getElem?_eq_getElem (by omega)⟩
    obtain ⟨v, ev, _⟩ := reps_get r e
    obtain ⟨u, eu, _⟩ := reps_get r' e'
    exact ⟨vs, us, v, u, .inl (Rd.ext x rd o).1, .inl (Rd.ext x rd' o').1, ev, eu⟩
  yld := fun i H1 Z1 m v H' d x M e q => by
    obtain ⟨T, x1, y1, rfl, nT, rfl, f1, f2⟩ := q
    rw [List.getElem?_map] at e
    cases ez : (xs.zip ys)[i]? with
    | none => rw [ez] at e; cases e
    | some p =>
      rw [ez] at e
      cases e
      obtain ⟨g1, g2⟩ := getElem_zip ez
      obtain ⟨v, ev, rv⟩ := reps_get r g1
      obtain ⟨u, eu, ru⟩ := reps_get r' g2
      have q1 := f1 vs (.inl (Rd.ext x rd o).1)
      rw [ev] at q1; cases q1
      have q2 := f2 us (.inl (Rd.ext x rd' o').1)
      rw [eu] at q2; cases q2
      refine ⟨Ext.laid M nT, M.laid nT, rep_tup_new M ?_ nT⟩
      simp only [Reps]
      exact ⟨_, [_], rfl, Rep.ext x _ _ rv, _, [], rfl, Rep.ext x _ _ ru, rfl⟩
  stop := fun i H1 Z1 m x M hi => by
    rw [List.length_map, List.length_zip, reps_len r, reps_len r'] at hi
    exact ⟨vs, us, .inl (Rd.ext x rd o).1, .inl (Rd.ext x rd' o').1, by omega⟩
theorem i_zip {e e2 : Expr} {fa : AF} {p tpos : Pos} {elts : List Expr} {kk : Nat} (hg : Gl X "zip") (hm : X.mg "zip" = none) (ha : AA X W [e, e2] fa)
    (hs : starEach [e, e2] X.env = (false, eval e X.env) :: starEach [e2] X.env := by rfl) (hpl : (backTo pos (starEach [e2] X.env)).any (·.1) = false := by rfl) :
    I X W (.Tuple elts kk tpos) (.Call (.Name "zip" p) [e, e2] [] pos) (iA zipD fa) := by
  refine PI.imp (RZ.pi_zipA hg hm ha hs hpl) fun σ H R ⟨Z, σd, m, S, M, h⟩ => ?_
  refine ⟨Z, σd, m, S, M, (Fin.bind h).mono fun ds m1 H1 Z1 x1 M1 h1 vs r => ?_⟩
  unfold zipD at h1
  split at h1
  · rename_i xs ys
    obtain ⟨v, u, rfl, rv, ru⟩ := reps2 r
    simp only [Rep] at rv ru
    obtain ⟨a, vs, rfl, rd, o, rs⟩ := rv
    obtain ⟨b, us, rfl, rd', o', rs'⟩ := ru
    exact ⟨a, b, vs, us, rfl, .inr ⟨.inl rd, .inl rd', h1 H1 Z1 (.refl _ _) M1 _ (its_zipT rd o rs rd' o' rs')⟩⟩
  · rename_i xs ys
    obtain ⟨v, u, rfl, rv, ru⟩ := reps2 r
    simp only [Rep] at rv ru
    obtain ⟨a, vs, rfl, rd, o, rs⟩ := rv
    obtain ⟨b, us, rfl, rd', o', rs'⟩ := ru
    exact ⟨a, b, vs, us, rfl, .inl ⟨.inl (.inl rd), .inl (.inl rd'), h1 H1 Z1 (.refl _ _) M1 _ (its_zipL (.inl rd) o rs (.inl rd') o' rs')⟩⟩
  · exact h1.elim
end

/-! ### for -/
def forL (g : GF) (b : SF) : List D → SF
  | [], σ, m => .nx σ m
  | x :: xs, σ, m => (g x σ m).then fun σ1 m1 => match b σ1 m1 with
    | .nx σ2 m2 => forL g b xs σ2 m2
    | .ct σ2 m2 => forL g b xs σ2 m2
    | .bk σ2 m2 => .nx σ2 m2
    | r => r
def forR (a : Nat) (g : GF) (b : SF) : Nat → Nat → SF
  | 0, _, _, _ => .bad
  | n + 1, i, σ, m => match m[a]? with
    | some (.lst xs) => (match xs[i]? with
      | some x => (g x σ m).then fun σ1 m1 => (match b σ1 m1 with
        | .nx σ2 m2 => forR a g b n (i + 1) σ2 m2
        | .ct σ2 m2 => forR a g b n (i + 1) σ2 m2
        | .bk σ2 m2 => .nx σ2 m2
        | r => r)
      | none => .nx σ m)
    | _ => .bad
def forS (g : GF) (b : SF) (s : Src) : SF := match s with | .its xs => forL g b xs | .mem a => forR a g b FUEL 0
@[simp] theorem forS_its (g : GF) (b : SF) (xs : List D) : forS g b (.its xs) = forL g b xs := rfl
def sFor (i : IF) (g : GF) (b : SF) : SF := fun σ m => (i σ m).st σ fun s m => forS g b s σ m
section
variable {X : Cx} {W : WX} {tg : Expr} {pos : Pos}
/-- one turn's end -/
def turnK (r : SRes) (k : SF) : SRes := match r with
  | .nx σ2 m2 => k σ2 m2
  | .ct σ2 m2 => k σ2 m2
  | .bk σ2 m2 => .nx σ2 m2
  | r => r
theorem fin_turn {H : Hp} {Z : Zn} {r : SRes} {k : SF} {D : Ends} (h : FinS X W H Z (turnK r k) D) : FinS X W H Z r { D with nx := fun σ' H' => ∃ Z' σ1 m1, Ext Z H Z' H' ∧ SRep H' Z' σ1 σ' ∧ MRep H' Z' m1 ∧ FinS X W H' Z' (k σ1 m1) D, ct := fun σ' H' => ∃ Z' σ1 m1, Ext Z H Z' H' ∧ SRep H' Z' σ1 σ' ∧ MRep H' Z' m1 ∧ FinS X W H' Z' (k σ1 m1) D, bk := D.nx } := by
  cases r with
  | nx σ1 m1 => exact fun H' Z' σ' x M S => ⟨Z', σ1, m1, x, S, M, FinS.shift x h⟩
  | ct σ1 m1 => exact fun H' Z' σ' x M S => ⟨Z', σ1, m1, x, S, M, FinS.shift x h⟩
  | bk σ1 m1 => exact h
  | rt d m1 => exact h
  | exc c σ1 m1 => exact h
  | bad => exact h
theorem FinS.imp {H : Hp} {Z : Zn} {r : SRes} {D D' : Ends} (h : FinS X W H Z r D) (h1 : ∀ σ H, D.nx σ H → D'.nx σ H) (h2 : ∀ σ H, D.ct σ H → D'.ct σ H) (h3 : ∀ σ H, D.bk σ H → D'.bk σ H) (h4 : ∀ v H, D.rt v H → D'.rt v H) : FinS X W H Z r D' := by
  cases r with
  | nx σ1 m1 => exact fun H' Z' σ' x M S => h1 _ _ (h H' Z' σ' x M S)
  | ct σ1 m1 => exact fun H' Z' σ' x M S => h2 _ _ (h H' Z' σ' x M S)
  | bk σ1 m1 => exact fun H' Z' σ' x M S => h3 _ _ (h H' Z' σ' x M S)
  | rt d m1 => exact fun H' Z' σ' x M S => h4 _ _ (h H' Z' σ' x M S)
  | exc c σ1 m1 => exact h
  | bad => exact h
theorem forL_cons (g : GF) (b : SF) (x : D) (xs : List D) (σ : Sg) (m : Mem) : forL g b (x :: xs) σ m = (g x σ m).then fun σ1 m1 => turnK (b σ1 m1) (forL g b xs) := rfl
theorem s_for {iter : Expr} {body : List Stmt} {fi : IF} {g : GF} {fb : SF} (hp : PassesOwn (model X.prog X.w) X.A X.env X.xe) (hc : X.calm = true) (hi : I X W tg iter fi) {ws : List Nat} (hg : G X ws tg g) (ok : GOk g) (hb : Ss X W body fb)
    (hs : ∀ x, foldedSetIterable iter X.env x = pure x := by intro _; rfl) : S1 X W (.For tg iter body [] pos) (sFor fi g fb) := by
  refine PS.imp (ps_for hp hc hi hg hb hs) fun D σ H ⟨Z, σd, m, S, M, h⟩ => ?_
  refine ⟨Z, σd, m, S, M, (Fin.st h S).mono fun s m1 H1 Z1 x1 M1 h1 J hJ => ?_⟩
  cases s with
  | its xs =>
    have hJ : Its J H1 Z1 xs := hJ
    refine ⟨fun i k σ H => k = xs.length - i ∧ i ≤ xs.length ∧ ∃ Z σd m, Ext Z1 H1 Z H ∧ SRep H Z σd σ ∧ MRep H Z m ∧ FinS X W H Z (forL g fb (xs.drop i) σd m) D, ⟨_, rfl, Nat.zero_le _, Z1, σd, m1, .refl _ _, S.ext x1, M1, h1⟩, ?_⟩
    rintro i k σ H ⟨rfl, hi, Z, σd, m, x, S, M, h⟩
    by_cases hlt : i < xs.length
    · refine .inr ⟨hJ.go i H Z m x M hlt, _, fun σ' H' q => ⟨xs.length - (i + 1), by omega, rfl, hlt, q⟩, fun v H' y => ?_⟩
      have ed : xs[i]? = some xs[i] := List.getElem?_eq_getElem hlt
      obtain ⟨x', M', r'⟩ := hJ.yld i H Z m v H' xs[i] x M ed y
      have h := FinS.shift x' h
      rw [List.drop_eq_getElem_cons hlt, forL_cons] at h
      refine ⟨Z, σd, m, xs[i], S.ext x', M', r', ?_⟩
      rcases ok xs[i] σd m with ⟨σ2, m2, e⟩ | e
      · rw [e] at h
        refine ⟨σ2, m2, e, fun H3 Z3 σ3 x3 M3 S3 _ => ⟨Z3, σ2, m2, S3, M3, ?_⟩⟩
        have h := fin_turn (FinS.shift x3 h)
        have tr := (x.trans x').trans x3
        exact h.imp (fun σ4 H4 ⟨Z4, s4, m4, x4, q⟩ => ⟨Z4, s4, m4, tr.trans x4, q⟩) (fun σ4 H4 ⟨Z4, s4, m4, x4, q⟩ => ⟨Z4, s4, m4, tr.trans x4, q⟩) (fun _ _ q => q) fun _ _ q => q
      · rw [e] at h
        exact h.elim
    · have e : i = xs.length := by omega
      subst e
      rw [List.drop_length] at h
      exact .inl ⟨hJ.stop _ H Z m x M (Nat.le_refl _), h H Z σ (.refl _ _) M S⟩
  | mem n =>
    obtain ⟨a, ea, hJ⟩ := hJ
    refine ⟨fun i k σ H => ∃ Z σd m, Ext Z1 H1 Z H ∧ SRep H Z σd σ ∧ MRep H Z m ∧ FinS X W H Z (forR n g fb k i σd m) D, ⟨FUEL, Z1, σd, m1, .refl _ _, S.ext x1, M1, h1⟩, ?_⟩
    rintro i k σ H ⟨Z, σd, m, x, S, M, h⟩
    cases k with
    | zero => exact h.elim
    | succ k =>
      have ea' : Z.ρ[n]? = some a := by
        obtain ⟨more, em⟩ := x.pre
        rw [em, List.getElem?_append_left (List.getElem?_eq_some_iff.mp ea).1]
        exact ea
      simp only [forR] at h
      split at h
      · rename_i ys em
        obtain ⟨vs, hv, rs⟩ := M.obj n a _ ea' em
        split at h
        · rename_i d ed
          obtain ⟨v, ev, rv⟩ := reps_get rs ed
          refine .inr ⟨hJ.go i H vs v hv ev, _, fun σ' H' q => ⟨k, Nat.lt_succ_self _, q⟩, fun v' H' y => ?_⟩
          obtain ⟨rfl, ev'⟩ := hJ.yld i H vs v' H' hv y
          rw [ev] at ev'
          cases ev'
          refine ⟨Z, σd, m, d, S, M, rv, ?_⟩
          rcases ok d σd m with ⟨σ2, m2, e⟩ | e
          · rw [e] at h
            refine ⟨σ2, m2, e, fun H3 Z3 σ3 x3 M3 S3 _ => ⟨Z3, σ2, m2, S3, M3, ?_⟩⟩
            have h : FinS X W H' Z (turnK (fb σ2 m2) (forR n g fb k (i + 1))) D := h
            have h := fin_turn (FinS.shift x3 h)
            have tr := x.trans x3
            exact h.imp (fun σ4 H4 ⟨Z4, s4, m4, x4, q⟩ => ⟨Z4, s4, m4, tr.trans x4, q⟩) (fun σ4 H4 ⟨Z4, s4, m4, x4, q⟩ => ⟨Z4, s4, m4, tr.trans x4, q⟩) (fun _ _ q => q) fun _ _ q => q
          · rw [e] at h
            exact h.elim
        · rename_i ed
          refine .inl ⟨hJ.stop i H vs hv ?_, h H Z σ (.refl _ _) M S⟩
          rw [← reps_len rs]
          exact List.getElem?_eq_none_iff.mp ed
      · exact h.elim

/-! ### comprehensions -/
def wipeD (σ : Sg) : List Nat → Sg
  | [] => σ
  | v :: vs => (wipeD σ vs).set v none
theorem SRep.wipe {H : Hp} {Z : Zn} {σd : Sg} {σ : St} (S : SRep H Z σd σ) : ∀ vs, SRep H Z (wipeD σd vs) (L2.wipe σ vs)
  | [] => S
  | v :: vs => by
    have ih := SRep.wipe S vs
    unfold wipeD L2.wipe
    refine ⟨by simp [ih.len], fun i d e => ?_⟩
    by_cases h : v = i
    · subst h
      by_cases hi : v < (wipeD σd vs).length
      · rw [List.getElem?_set_self hi] at e; cases e
      · rw [List.getElem?_eq_none (by simpa using hi)] at e; cases e
    · rw [List.getElem?_set_ne h] at e ⊢
      exact ih.val i d e

mutual
theorem rep_phi {H : Hp} {Z : Zn} {m : Mem} {p : Addr} {o : HO} (M : MRep H Z m) (n : H p = none) : ∀ (d : D) (v : V), Rep H Z d v → Rep (upd H p o) ⟨Z.ρ, p :: Z.φ⟩ d v
  | .non, v, h => by simp only [Rep] at h ⊢; exact h
  | .bl b, v, h => by simp only [Rep] at h ⊢; exact h
  | .int i, v, h => by simp only [Rep] at h ⊢; exact h
  | .str s, v, h => by simp only [Rep] at h ⊢; exact h
  | .tup xs, v, h => by
    simp only [Rep] at h ⊢
    obtain ⟨a, vs, e, r, k, rs⟩ := h
    obtain ⟨u, hu⟩ := Rd.there r
    exact ⟨a, vs, e, (Rd.ext (Ext.laid M n) r k).1, ⟨k.1, fun z => (List.mem_cons.mp z).elim (fun e => ne_of_none hu n e) k.2⟩, reps_phi M n xs vs rs⟩
  | .lst xs, v, h => by
    simp only [Rep] at h ⊢
    obtain ⟨a, vs, e, r, k, rs⟩ := h
    have hu := r
    exact ⟨a, vs, e, (by rw [upd_ne (ne_of_none hu n)]; exact r), ⟨k.1, fun z => (List.mem_cons.mp z).elim (fun e => ne_of_none hu n e) k.2⟩, reps_phi M n xs vs rs⟩
  | .adr a, v, h => by simp only [Rep] at h ⊢; exact h
  | .scr xs, v, h => by
    simp only [Rep] at h ⊢
    obtain ⟨a, vs, e, r, k, rs⟩ := h
    obtain ⟨u, hu⟩ := Rd.there r
    exact ⟨a, vs, e, (Rd.ext (Ext.laid M n) r k).1, ⟨k.1, fun z => (List.mem_cons.mp z).elim (fun e => ne_of_none hu n e) k.2⟩, reps_phi M n xs vs rs⟩
  | .ref i, v, h => by simp only [Rep] at h ⊢; exact h
theorem reps_phi {H : Hp} {Z : Zn} {m : Mem} {p : Addr} {o : HO} (M : MRep H Z m) (n : H p = none) : ∀ (ds : List D) (vs : List V), Reps H Z ds vs → Reps (upd H p o) ⟨Z.ρ, p :: Z.φ⟩ ds vs
  | [], vs, h => by simp only [Reps] at h ⊢; exact h
  | d :: ds, vs, h => by
    simp only [Reps] at h ⊢
    obtain ⟨v, r, e, h1, h2⟩ := h
    exact ⟨v, r, e, rep_phi M n d v h1, reps_phi M n ds r h2⟩
end
mutual
theorem rep_put {H : Hp} {Z : Zn} {p : Addr} {o : HO} (n : p ∈ Z.φ) : ∀ (d : D) (v : V), Rep H Z d v → Rep (upd H p o) Z d v
  | .non, v, h => by simp only [Rep] at h ⊢; exact h
  | .bl b, v, h => by simp only [Rep] at h ⊢; exact h
  | .int i, v, h => by simp only [Rep] at h ⊢; exact h
  | .str s, v, h => by simp only [Rep] at h ⊢; exact h
  | .tup xs, v, h => by
    simp only [Rep] at h ⊢
    obtain ⟨a, vs, e, r, k, rs⟩ := h
    have ne : a ≠ p := fun z => k.2 (by rw [z]; exact n)
    exact ⟨a, vs, e, by unfold Rd; rw [upd_ne ne]; exact r, k, reps_put n xs vs rs⟩
  | .lst xs, v, h => by
    simp only [Rep] at h ⊢
    obtain ⟨a, vs, e, r, k, rs⟩ := h
    have ne : a ≠ p := fun z => k.2 (by rw [z]; exact n)
    exact ⟨a, vs, e, by rw [upd_ne ne]; exact r, k, reps_put n xs vs rs⟩
  | .adr a, v, h => by simp only [Rep] at h ⊢; exact h
  | .scr xs, v, h => by
    simp only [Rep] at h ⊢
    obtain ⟨a, vs, e, r, k, rs⟩ := h
    have ne : a ≠ p := fun z => k.2 (by rw [z]; exact n)
    exact ⟨a, vs, e, by unfold Rd; rw [upd_ne ne]; exact r, k, reps_put n xs vs rs⟩
  | .ref i, v, h => by simp only [Rep] at h ⊢; exact h
theorem reps_put {H : Hp} {Z : Zn} {p : Addr} {o : HO} (n : p ∈ Z.φ) : ∀ (ds : List D) (vs : List V), Reps H Z ds vs → Reps (upd H p o) Z ds vs
  | [], vs, h => by simp only [Reps] at h ⊢; exact h
  | d :: ds, vs, h => by
    simp only [Reps] at h ⊢
    obtain ⟨v, r, e, h1, h2⟩ := h
    exact ⟨v, r, e, rep_put n d v h1, reps_put n ds r h2⟩
end
mutual
theorem rep_sub {H : Hp} {ρ φ φ' : List Addr} (k : ∀ a, a ∈ φ' → a ∈ φ) : ∀ (d : D) (v : V), Rep H ⟨ρ, φ⟩ d v → Rep H ⟨ρ, φ'⟩ d v
  | .non, v, h => by simp only [Rep] at h ⊢; exact h
  | .bl b, v, h => by simp only [Rep] at h ⊢; exact h
  | .int i, v, h => by simp only [Rep] at h ⊢; exact h
  | .str s, v, h => by simp only [Rep] at h ⊢; exact h
  | .tup xs, v, h => by
    simp only [Rep] at h ⊢
    obtain ⟨a, vs, e, r, n, rs⟩ := h
    exact ⟨a, vs, e, r, ⟨n.1, fun z => n.2 (k _ z)⟩, reps_sub k xs vs rs⟩
  | .lst xs, v, h => by
    simp only [Rep] at h ⊢
    obtain ⟨a, vs, e, r, n, rs⟩ := h
    exact ⟨a, vs, e, r, ⟨n.1, fun z => n.2 (k _ z)⟩, reps_sub k xs vs rs⟩
  | .adr a, v, h => by simp only [Rep] at h ⊢; exact h
  | .scr xs, v, h => by
    simp only [Rep] at h ⊢
    obtain ⟨a, vs, e, r, n, rs⟩ := h
    exact ⟨a, vs, e, r, ⟨n.1, fun z => n.2 (k _ z)⟩, reps_sub k xs vs rs⟩
  | .ref i, v, h => by simp only [Rep] at h ⊢; exact h
theorem reps_sub {H : Hp} {ρ φ φ' : List Addr} (k : ∀ a, a ∈ φ' → a ∈ φ) : ∀ (ds : List D) (vs : List V), Reps H ⟨ρ, φ⟩ ds vs → Reps H ⟨ρ, φ'⟩ ds vs
  | [], vs, h => by simp only [Reps] at h ⊢; exact h
  | d :: ds, vs, h => by
    simp only [Reps] at h ⊢
    obtain ⟨v, r, e, h1, h2⟩ := h
    exact ⟨v, r, e, rep_sub k d v h1, reps_sub k ds r h2⟩
end
theorem MRep.sub {H : Hp} {Z : Zn} {φ' : List Addr} {m : Mem} (k : ∀ a, a ∈ φ' → a ∈ Z.φ) (M : MRep H Z m) : MRep H ⟨Z.ρ, φ'⟩ m where
  len := M.len
  nd := M.nd
  off := fun a ha h => M.off a ha (k a h)
  asd := fun a h => M.asd a (k a h)
  obj := fun i a u e1 e2 => by
    have q := M.obj i a u e1 e2
    cases u with
    | lst xs =>
      obtain ⟨vs, h1, h2⟩ := q
      exact ⟨vs, h1, reps_sub (φ := Z.φ) k _ _ h2⟩
    | dct lk kvs =>
      obtain ⟨L, u, h1, h2, h3⟩ := q
      exact ⟨L, u, h1, h2, Paired.mapP h3 fun x y z => ⟨z.1, rep_sub (φ := Z.φ) k _ _ z.2.1, rep_sub (φ := Z.φ) k _ _ z.2.2⟩⟩
theorem MRep.put {H : Hp} {Z : Zn} {m : Mem} {p : Addr} {o : HO} (M : MRep H Z m) (n : p ∈ Z.φ) : MRep (upd H p o) Z m where
  len := M.len
  nd := M.nd
  off := M.off
  asd := fun a h => by
    by_cases e : a = p
    · subst e; exact ⟨o, upd_same⟩
    · obtain ⟨u, e'⟩ := M.asd a h
      exact ⟨u, by rw [upd_ne e]; exact e'⟩
  obj := fun i a u e1 e2 => by
    have q := M.obj i a u e1 e2
    have ne : a ≠ p := fun z => M.off a (List.mem_of_getElem? e1) (by rw [z]; exact n)
    have e : (upd H p o) a = H a := upd_ne ne
    cases u with
    | lst xs =>
      obtain ⟨vs, h1, h2⟩ := q
      exact ⟨vs, by rw [e]; exact h1, reps_put n _ _ h2⟩
    | dct lk kvs =>
      obtain ⟨L, u, h1, h2, h3⟩ := q
      exact ⟨L, u, by rw [e]; exact h1, h2, Paired.mapP h3 fun x y z => ⟨z.1, rep_put n _ _ z.2.1, rep_put n _ _ z.2.2⟩⟩
def lcL (g : GF) (tt : TF) (te : EF) (σw : Sg) : List D → Mem → Res (List D)
  | [], m => .ok [] m
  | x :: xs, m => match g x σw m with
    | .nx σ1 m1 => (tt σ1 m1).bind fun b m2 => if b then (te σ1 m2).bind fun y m3 => (lcL g tt te σw xs m3).bind fun ys m4 => .ok (y :: ys) m4
        else lcL g tt te σw xs m2
    | _ => .bad
theorem MRep.phi {H : Hp} {Z : Zn} {m : Mem} {p : Addr} {o : HO} (M : MRep H Z m) (n : H p = none) : MRep (upd H p o) ⟨Z.ρ, p :: Z.φ⟩ m where
  len := M.len
  nd := M.nd
  off := fun a ha h => by
    rcases List.mem_cons.mp h with e | h
    · subst e; exact (M.out n).1 ha
    · exact M.off a ha h
  asd := fun a h => by
    rcases List.mem_cons.mp h with e | h
    · subst e; exact ⟨o, upd_same⟩
    · obtain ⟨u, e⟩ := M.asd a h
      exact ⟨u, by rw [upd_ne (ne_of_none e n)]; exact e⟩
  obj := fun i a u e1 e2 => by
    have q := M.obj i a u e1 e2
    obtain ⟨z, hz⟩ := q.there
    have e : (upd H p o) a = H a := upd_ne (ne_of_none hz n)
    have rp : ∀ xs vs, Reps H Z xs vs → Reps (upd H p o) ⟨Z.ρ, p :: Z.φ⟩ xs vs := fun xs vs r => reps_phi M n xs vs r
    cases u with
    | lst xs =>
      obtain ⟨vs, h1, h2⟩ := q
      exact ⟨vs, by rw [e]; exact h1, rp _ _ h2⟩
    | dct lk kvs =>
      obtain ⟨L, u, h1, h2, h3⟩ := q
      exact ⟨L, u, by rw [e]; exact h1, h2, Paired.mapP h3 fun x y z => ⟨z.1, rep_phi M n _ _ z.2.1, rep_phi M n _ _ z.2.2⟩⟩
end
end PD
namespace PD
open PySem PySem.Spec L2
open PyProof.Rows hiding St

/-- .. over a list of the memory, as it stands at each turn -/
def lcR (a : Nat) (g : GF) (tt : TF) (te : EF) (σw : Sg) : Nat → Nat → Mem → Res (List D)
  | 0, _, _ => .bad
  | n + 1, i, m => match m[a]? with
    | some (.lst xs) => (match xs[i]? with
      | some x => (match g x σw m with
        | .nx σ1 m1 => (tt σ1 m1).bind fun b m2 => if b then (te σ1 m2).bind fun y m3 => (lcR a g tt te σw n (i + 1) m3).bind fun ys m4 => .ok (y :: ys) m4
            else lcR a g tt te σw n (i + 1) m2
        | _ => .bad)
      | none => .ok [] m)
    | _ => .bad
def lcS (g : GF) (tt : TF) (te : EF) (σw : Sg) (s : Src) (m : Mem) : Res (List D) := match s with
  | .its xs => lcL g tt te σw xs m
  | .mem a => lcR a g tt te σw FUEL 0 m
@[simp] theorem lcS_its (g : GF) (tt : TF) (te : EF) (σw : Sg) (xs : List D) (m : Mem) : lcS g tt te σw (.its xs) m = lcL g tt te σw xs m := rfl
/-- [elt for target in iter if ..] -/
def eLc (nw : Bool) (ws : List Nat) (fi : IF) (g : GF) (tt : TF) (te : EF) : EF := fun σ m =>
  (fi σ m).bind fun s m1 => (noexc (lcS g tt te (wipeD σ ws) s m1)).bind fun ys m2 => noexc (newL nw ys m2)
def tYesD : TF := fun _ m => .ok true m
abbrev W0 : WX := fun _ _ _ _ => False
theorem Ext.reset {Z Z' : Zn} {H H' : Hp} (x : Ext Z H Z' H') : Ext Z H ⟨Z'.ρ, Z.φ⟩ H' := ⟨fun _ h => h, fun _ h => .inl h, x.pre, x.keep, x.more, x.frz⟩
theorem Ext.put {Z Z' : Zn} {H H' : Hp} {p : Addr} {o : HO} (x : Ext Z H Z' H') (n : H p = none) : Ext Z H Z' (upd H' p o) :=
  ⟨x.phi1, x.phi2, x.pre, fun a u h na => ⟨by rw [upd_ne (ne_of_none h n)]; exact (x.keep a u h na).1, (x.keep a u h na).2⟩, fun a u h => by
    obtain ⟨u', e⟩ := x.more a u h
    exact ⟨u', by rw [upd_ne (ne_of_none h n)]; exact e⟩, fun a od u h => by rw [upd_ne (ne_of_none h n)]; exact x.frz a od u h⟩
theorem Ext.fresh {Z Z' : Zn} {H H' : Hp} (x : Ext Z H Z' H') {p : Addr} (n : H' p = none) : H p = none := by
  cases e : H p with
  | none => rfl
  | some o =>
    obtain ⟨o', e'⟩ := x.more p o e
    rw [n] at e'; cases e'
section
variable {X : Cx} {W : WX} {ws : List Nat} {g : GF} {tt : TF} {te : EF}
/-- the block of a comprehension, from the item to the end of the turn -/
theorem lc_turn {H1 : Hp} {Z1 : Zn} {Dn : Addr} {σw : St} {σwd : Sg} {Nx : Hp → Prop} {k : Mem → Res (List D)} {R : List D → Mem → Prop} (n : H1 Dn = none) (ok : GOk g)
    {H : Hp} {Z : Zn} {m : Mem} {d : D} {v : V} {acc : List V} {accd : List D}
    (x : Ext Z1 H1 Z H) (hD : Dn ∈ Z.φ) (M : MRep H Z m) (S : SRep H Z σwd σw) (hw : L2.wipe σw ws = σw) (r : Rep H Z d v) (ha : H Dn = some (.lst acc)) (hr : Reps H Z accd acc)
    (h : ∃ ys m', (match g d σwd m with
        | .nx σ1 m1 => (tt σ1 m1).bind fun b m2 => if b then (te σ1 m2).bind fun y m3 => (k m3).bind fun ys m4 => .ok (y :: ys) m4 else k m2
        | _ => .bad) = Res.ok ys m' ∧ R (accd ++ ys) m')
    (hz : ∀ ys m', R ys m' → ys.length ≤ 16777216)
    (hN : ∀ H' Z' m2 acc' accd', Ext Z1 H1 Z' H' → Dn ∈ Z'.φ → MRep H' Z' m2 → H' Dn = some (.lst acc') → Reps H' Z' accd' acc' → (∃ ys m', k m2 = .ok ys m' ∧ R (accd' ++ ys) m') → Nx H') :
    rdG ws g v σw H fun σ2 H2 => L2.wipe σ2 ws = σw ∧ rdT X W0 tt σ2 H2 fun b H3 => if b = true then rdE X W0 te σ2 H3 fun y H4 => ∃ acc, H4 Dn = some (.lst acc) ∧ acc.length < sizeLine ∧ Nx (upd H4 Dn (.lst (acc ++ [y]))) else Nx H3 := by
  obtain ⟨ys, m', h, hR⟩ := h
  refine ⟨Z, σwd, m, d, S, M, r, ?_⟩
  rcases ok d σwd m with ⟨σ1, m1, e⟩ | e
  · rw [e] at h
    refine ⟨σ1, m1, e, fun H2 Z2 σ2 x2 M2 S2 w2 => ⟨w2.trans hw, Z2, σ1, m1, S2, M2, ?_⟩⟩
    have hD2 : Dn ∈ Z2.φ := x2.phi1 _ hD
    have nr : ∀ {H : Hp} {Z : Zn} {m : Mem}, MRep H Z m → Dn ∈ Z.φ → Dn ∉ Z.ρ := fun M h z => M.off _ z h
    have ha2 := (x2.keep _ _ ha (nr M hD)).1
    have hr2 := Reps.ext x2 _ _ hr
    have h : (tt σ1 m1).bind (fun b m2 => if b then (te σ1 m2).bind fun y m3 => (k m3).bind fun ys m4 => .ok (y :: ys) m4 else k m2) = .ok ys m' := h
    cases et : tt σ1 m1 with
    | ok b m2 =>
      rw [et] at h
      intro H3 Z3 x3 M3
      have hD3 : Dn ∈ Z3.φ := x3.phi1 _ hD2
      have ha3 := (x3.keep _ _ ha2 (nr M2 hD2)).1
      have hr3 := Reps.ext x3 _ _ hr2
      cases b with
      | true =>
        refine iteT ⟨Z3, σ1, m2, S2.ext x3, M3, ?_⟩
        have h : (te σ1 m2).bind (fun y m3 => (k m3).bind fun ys m4 => .ok (y :: ys) m4) = .ok ys m' := h
        cases ee : te σ1 m2 with
        | ok y m3 =>
          rw [ee] at h
          intro H4 Z4 x4 M4 u ru
          have hD4 : Dn ∈ Z4.φ := x4.phi1 _ hD3
          have ha4 := (x4.keep _ _ ha3 (nr M3 hD3)).1
          have hr4 := Reps.ext x4 _ _ hr3
          have h : (k m3).bind (fun ys m4 => .ok (y :: ys) m4) = .ok ys m' := h
          cases ek : k m3 with
          | ok zs m4 =>
            rw [ek] at h
            cases h
            have hlen := hz _ _ hR
            rw [List.length_append, List.length_cons, reps_len hr4] at hlen
            refine ⟨acc, ha4, by rw [sizeLine_eq]; omega, hN _ Z4 m3 (acc ++ [u]) (accd ++ [y]) (((x.trans x2).trans (x3.trans x4)).put n) hD4 (M4.put hD4) upd_same (reps_put hD4 _ _ (reps_app hr4 (reps_one ru))) ⟨zs, _, ek, by simpa using hR⟩⟩
          | exc c m4 => rw [ek] at h; cases h
          | bad => rw [ek] at h; cases h
        | exc c m3 => rw [ee] at h; cases h
        | bad => rw [ee] at h; cases h
      | false => exact iteF (hN H3 Z3 m2 acc accd ((x.trans x2).trans x3) hD3 M3 ha3 hr3 ⟨ys, m', h, hR⟩)
    | exc c m2 => rw [et] at h; cases h
    | bad => rw [et] at h; cases h
  · rw [e] at h; cases h
theorem wipe_none {σ : St} {v : Nat} : ∀ {vs : List Nat}, v ∈ vs → v < σ.length → (L2.wipe σ vs)[v]? = some none
  | [], h, _ => by simp at h
  | w :: ws, h, hl => by
    unfold L2.wipe
    by_cases e : w = v
    · subst e
      rw [List.getElem?_set_self (by rw [L2.wipe_length]; exact hl)]
    · rw [List.getElem?_set_ne e]
      refine wipe_none ?_ hl
      rcases List.mem_cons.mp h with h | h
      · exact (e h.symm).elim
      · exact h
theorem wipe_ge {σ : St} {v : Nat} (hl : σ.length ≤ v) : ∀ {vs : List Nat}, (L2.wipe σ vs)[v]? = none := by
  intro vs
  rw [List.getElem?_eq_none]
  rw [L2.wipe_length]; exact hl
theorem wipe_twice {σ : St} : ∀ {vs ws : List Nat}, (∀ v ∈ vs, v ∈ ws) → L2.wipe (L2.wipe σ ws) vs = L2.wipe σ ws
  | [], ws, _ => rfl
  | v :: vs, ws, h => by
    show (L2.wipe (L2.wipe σ ws) vs).set v none = _
    rw [wipe_twice fun u hu => h u (List.mem_cons_of_mem _ hu)]
    apply List.ext_getElem?
    intro i
    by_cases e : v = i
    · subst e
      by_cases hl : v < σ.length
      · rw [List.getElem?_set_self (by rw [L2.wipe_length]; exact hl), wipe_none (h v List.mem_cons_self) hl]
      · rw [List.getElem?_eq_none (by rw [List.length_set, L2.wipe_length]; omega), wipe_ge (by omega)]
    · rw [List.getElem?_set_ne e]
mutual
theorem rep_hold {H : Hp} {Z : Zn} {p : Addr} {φ' : List Addr} (hp : p ∈ Z.φ) (k : ∀ a, a ∈ φ' → a ∈ Z.φ) : ∀ (d : D) (v : V), Rep H Z d v → Rep H ⟨Z.ρ ++ [p], φ'⟩ d v
  | .non, v, h => by simp only [Rep] at h ⊢; exact h
  | .bl b, v, h => by simp only [Rep] at h ⊢; exact h
  | .int i, v, h => by simp only [Rep] at h ⊢; exact h
  | .str s, v, h => by simp only [Rep] at h ⊢; exact h
  | .tup xs, v, h => by
    simp only [Rep] at h ⊢
    obtain ⟨a, vs, e, r, n, rs⟩ := h
    refine ⟨a, vs, e, r, ⟨fun z => ?_, fun z => n.2 (k _ z)⟩, reps_hold hp k xs vs rs⟩
    rcases List.mem_append.mp z with z | z
    · exact n.1 z
    · rw [List.mem_singleton] at z; subst z; exact n.2 hp
  | .lst xs, v, h => by
    simp only [Rep] at h ⊢
    obtain ⟨a, vs, e, r, n, rs⟩ := h
    refine ⟨a, vs, e, r, ⟨fun z => ?_, fun z => n.2 (k _ z)⟩, reps_hold hp k xs vs rs⟩
    rcases List.mem_append.mp z with z | z
    · exact n.1 z
    · rw [List.mem_singleton] at z; subst z; exact n.2 hp
  | .adr a, v, h => by simp only [Rep] at h ⊢; exact h
  | .scr xs, v, h => by
    simp only [Rep] at h ⊢
    obtain ⟨a, vs, e, r, n, rs⟩ := h
    refine ⟨a, vs, e, r, ⟨fun z => ?_, fun z => n.2 (k _ z)⟩, reps_hold hp k xs vs rs⟩
    rcases List.mem_append.mp z with z | z
    · exact n.1 z
    · rw [List.mem_singleton] at z; subst z; exact n.2 hp
  | .ref i, v, h => by
    simp only [Rep] at h ⊢
    obtain ⟨a, e, e2⟩ := h
    exact ⟨a, by rw [List.getElem?_append_left (List.getElem?_eq_some_iff.mp e).1]; exact e, e2⟩
theorem reps_hold {H : Hp} {Z : Zn} {p : Addr} {φ' : List Addr} (hp : p ∈ Z.φ) (k : ∀ a, a ∈ φ' → a ∈ Z.φ) : ∀ (ds : List D) (vs : List V), Reps H Z ds vs → Reps H ⟨Z.ρ ++ [p], φ'⟩ ds vs
  | [], vs, h => by simp only [Reps] at h ⊢; exact h
  | d :: ds, vs, h => by
    simp only [Reps] at h ⊢
    obtain ⟨v, r, e, h1, h2⟩ := h
    exact ⟨v, r, e, rep_hold hp k d v h1, reps_hold hp k ds r h2⟩
end
theorem MRep.take {H : Hp} {Z : Zn} {m : Mem} {p : Addr} {φ' : List Addr} {acc : List V} {xs : List D} (M : MRep H Z m) (hp : p ∈ Z.φ) (k : ∀ a, a ∈ φ' → a ∈ Z.φ) (np : p ∉ φ') (e : H p = some (.lst acc)) (r : Reps H Z xs acc) :
    MRep H ⟨Z.ρ ++ [p], φ'⟩ (m ++ [.lst xs]) where
  len := by simp [M.len]
  nd := by
    show (Z.ρ ++ [p]).Nodup
    rw [List.nodup_append]
    refine ⟨M.nd, by simp, fun a ha b hb => ?_⟩
    rw [List.mem_singleton] at hb
    subst hb
    rintro rfl
    exact M.off _ ha hp
  off := fun a ha h => by
    rcases List.mem_append.mp ha with z | z
    · exact M.off a z (k a h)
    · rw [List.mem_singleton] at z; subst z; exact np h
  asd := fun a h => M.asd a (k a h)
  obj := fun i a u e1 e2 => by
    by_cases hi : i < Z.ρ.length
    · rw [List.getElem?_append_left hi] at e1
      rw [List.getElem?_append_left (by rw [M.len]; exact hi)] at e2
      have q := M.obj i a u e1 e2
      cases u with
      | lst ys =>
        obtain ⟨vs, h1, h2⟩ := q
        exact ⟨vs, h1, reps_hold hp k _ _ h2⟩
      | dct lk kvs =>
        obtain ⟨L, u, h1, h2, h3⟩ := q
        exact ⟨L, u, h1, h2, Paired.mapP h3 fun x y z => ⟨z.1, rep_hold hp k _ _ z.2.1, rep_hold hp k _ _ z.2.2⟩⟩
    · have hl : i = Z.ρ.length := by
        have := (List.getElem?_eq_some_iff.mp e1).1
        simp at this
        omega
      subst hl
      rw [List.getElem?_append_right (Nat.le_refl _), Nat.sub_self] at e1
      rw [List.getElem?_append_right (by rw [M.len]; exact Nat.le_refl _), M.len, Nat.sub_self] at e2
      cases e1
      cases e2
      exact ⟨acc, e, reps_hold hp k _ _ r⟩
theorem fin_noL {nw : Bool} {σ : St} {H : Hp} {Z : Zn} {zs : List D} {m : Mem} {R : D → Mem → Hp → Zn → Prop} (h : Fin X W σ H Z (noexc (newL nw zs m)) R) : zs.length ≤ 16777216 := by
  by_cases hl : lenOk zs.length = true
  · exact of_decide_eq_true hl
  · unfold newL at h
    rw [if_neg hl] at h
    exact h.elim
/-- the made list is let out -/
theorem lc_end {nw : Bool} {σ : St} {H1 H : Hp} {Z1 Z : Zn} {zs : List D} {m2 m : Mem} {Dn : Addr} {acc : List V} {Q : VK} (n : H1 Dn = none) (na : Z1.φ ⊆ Z.φ) (M1 : ∀ a ∈ Z1.φ, ∃ o, H1 a = some o)
    (h : Fin X W σ H1 Z1 (noexc (newL nw zs m)) fun d _ H' Z' => ∀ v, Rep H' Z' d v → Q v H') (x : Ext Z1 H1 Z H) (hD : Dn ∈ Z.φ) (M : MRep H Z m) (ha : H Dn = some (.lst acc)) (hr : Reps H Z zs acc) : Q (.ref Dn) H := by
  have np : Dn ∉ Z1.φ := fun z => by
    obtain ⟨o, e⟩ := M1 _ z
    rw [n] at e; cases e
  have hl : lenOk zs.length = true := decide_eq_true (fin_noL h)
  unfold newL at h
  rw [if_pos hl] at h
  cases nw with
  | false =>
    refine h H ⟨Z.ρ, Z1.φ⟩ x.reset (M.sub na) (.ref Dn) ?_
    simp only [Rep]
    exact ⟨Dn, acc, rfl, ha, ⟨fun z => M.off _ z hD, np⟩, reps_sub (φ := Z.φ) na _ _ hr⟩
  | true =>
    refine h H ⟨Z.ρ ++ [Dn], Z1.φ⟩ ⟨fun _ h => h, fun _ h => .inl h, ?_, fun a o e na' => ?_, x.more, x.frz⟩ (M.take hD na np ha hr) (.ref Dn) ?_
    · obtain ⟨more, e⟩ := x.pre
      exact ⟨more ++ [Dn], by show Z.ρ ++ [Dn] = _; rw [e, List.append_assoc]⟩
    · obtain ⟨h1, h2⟩ := x.keep a o e na'
      refine ⟨h1, fun z => ?_⟩
      rcases List.mem_append.mp z with z | z
      · exact h2 z
      · rw [List.mem_singleton] at z; subst z; rw [n] at e; cases e
    · simp only [Rep]
      exact ⟨Dn, by rw [M.len, List.getElem?_append_right (Nat.le_refl _), Nat.sub_self]; rfl, rfl⟩
/-- the reading of a comprehension -/
theorem rd_lc {nw : Bool} {fi : IF} {σ : St} {H : Hp} {Q : VK} (ok : GOk g) (h : rdE X W (eLc nw ws fi g tt te) σ H Q) : tLc (rdI X W fi) (rdG ws g) (rdT X W0 tt) (rdE X W0 te) ws σ H Q := by
  obtain ⟨Z, σd, m, S, M, h⟩ := h
  refine ⟨Z, σd, m, S, M, (Fin.bind h).mono fun s m1 H1 Z1 x1 M1 h1 J hJ Dn n => ?_⟩
  cases el : lcS g tt te (wipeD σd ws) s m1 with
  | exc c m2 => rw [el] at h1; exact h1.elim
  | bad => rw [el] at h1; exact h1.elim
  | ok zs m2 =>
    rw [el] at h1
    have h1 : Fin X W σ H1 Z1 (noexc (newL nw zs m2)) fun d _ H' Z' => ∀ v, Rep H' Z' d v → Q v H' := h1
    have hlen := fin_noL h1
    have S1 : SRep H1 Z1 (wipeD σd ws) (L2.wipe σ ws) := (S.ext x1).wipe ws
    have hww : L2.wipe (L2.wipe σ ws) ws = L2.wipe σ ws := wipe_twice fun v h => h
    have x0 : Ext Z1 H1 ⟨Z1.ρ, Dn :: Z1.φ⟩ (upd H1 Dn (.lst [])) := by
      refine ⟨fun a h => List.mem_cons_of_mem _ h, fun a h => ?_, ⟨[], by simp⟩, fun a o e na => ⟨by rw [upd_ne (ne_of_none e n)]; exact e, na⟩, fun a o e => ⟨o, by rw [upd_ne (ne_of_none e n)]; exact e⟩, fun a od u h => by rw [upd_ne (ne_of_none h n)]; exact h⟩
      rcases List.mem_cons.mp h with e | h
      · subst e; exact .inr n
      · exact .inl h
    have sub : ∀ {Z : Zn} {H : Hp}, Ext Z1 H1 Z H → Z1.φ ⊆ Z.φ := fun x a h => x.phi1 a h
    cases s with
    | its xs =>
      have hJ : Its J H1 Z1 xs := hJ
      have el : lcL g tt te (wipeD σd ws) xs m1 = .ok zs m2 := el
      refine ⟨fun i k H => k = xs.length - i ∧ i ≤ xs.length ∧ ∃ Z m acc accd, Ext Z1 H1 Z H ∧ Dn ∈ Z.φ ∧ MRep H Z m ∧ H Dn = some (.lst acc) ∧ Reps H Z accd acc ∧ ∃ ys m', lcL g tt te (wipeD σd ws) (xs.drop i) m = .ok ys m' ∧ accd ++ ys = zs ∧ m' = m2,
        ⟨_, rfl, Nat.zero_le _, _, m1, [], [], x0, List.mem_cons_self, M1.phi n, upd_same, by simp [Reps], zs, m2, el, rfl, rfl⟩, ?_⟩
      rintro i k H ⟨rfl, hi, Z, m, acc, accd, x, hD, M, ha, hr, ys, m', e, ez, em⟩
      by_cases hlt : i < xs.length
      · refine .inr ⟨hJ.go i H Z m x M hlt, _, fun H' q => ⟨xs.length - (i + 1), by omega, rfl, hlt, q⟩, fun v H' y => ?_⟩
        have ed : xs[i]? = some xs[i] := List.getElem?_eq_getElem hlt
        obtain ⟨x', M', r'⟩ := hJ.yld i H Z m v H' xs[i] x M ed y
        rw [List.drop_eq_getElem_cons hlt] at e
        have nr : Dn ∉ Z.ρ := fun z => M.off _ z hD
        exact lc_turn (X := X) (R := fun ys m' => ys = zs ∧ m' = m2) n ok (x.trans x') (x'.phi1 _ hD) M' ((S1.ext x).ext x') hww r' (x'.keep _ _ ha nr).1 (Reps.ext x' _ _ hr) ⟨ys, m', e, ez, em⟩ (fun ys m' q => by rw [q.1]; exact hlen)
          (fun H' Z' m2 acc' accd' x M hD ha hr q => ⟨Z', m2, acc', accd', x, M, hD, ha, hr, q⟩)
      · have ei : i = xs.length := by omega
        subst ei
        rw [List.drop_length] at e
        cases e
        rw [List.append_nil] at ez
        subst ez em
        exact .inl ⟨hJ.stop _ H Z m x M (Nat.le_refl _), lc_end (m2 := m) n (sub x) M1.asd h1 x hD M ha hr⟩
    | mem a0 =>
      obtain ⟨a, ea, hJ⟩ := hJ
      have el : lcR a0 g tt te (wipeD σd ws) FUEL 0 m1 = .ok zs m2 := el
      refine ⟨fun i k H => ∃ Z m acc accd, Ext Z1 H1 Z H ∧ Dn ∈ Z.φ ∧ MRep H Z m ∧ H Dn = some (.lst acc) ∧ Reps H Z accd acc ∧ ∃ ys m', lcR a0 g tt te (wipeD σd ws) k i m = .ok ys m' ∧ accd ++ ys = zs ∧ m' = m2,
        ⟨FUEL, _, m1, [], [], x0, List.mem_cons_self, M1.phi n, upd_same, by simp [Reps], zs, m2, el, rfl, rfl⟩, ?_⟩
      rintro i k H ⟨Z, m, acc, accd, x, hD, M, ha, hr, ys, m', e, ez, em⟩
      cases k with
      | zero => cases e
      | succ k =>
        have ea' : Z.ρ[a0]? = some a := by
          obtain ⟨more, em⟩ := x.pre
          rw [em, List.getElem?_append_left (List.getElem?_eq_some_iff.mp ea).1]
          exact ea
        simp only [lcR] at e
        split at e
        · rename_i zs' em'
          obtain ⟨vs, hv, rs⟩ := M.obj a0 a _ ea' em'
          split at e
          · rename_i d ed
            obtain ⟨v, ev, rv⟩ := reps_get rs ed
            refine .inr ⟨hJ.go i H vs v hv ev, _, fun H' q => ⟨k, Nat.lt_succ_self _, q⟩, fun v' H' y => ?_⟩
            obtain ⟨rfl, ev'⟩ := hJ.yld i H vs v' H' hv y
            rw [ev] at ev'
            cases ev'
            exact lc_turn (X := X) (R := fun ys m' => ys = zs ∧ m' = m2) n ok x hD M (S1.ext x) hww rv ha hr ⟨ys, m', e, ez, em⟩ (fun ys m' q => by rw [q.1]; exact hlen)
              (fun H' Z' m2 acc' accd' x M hD ha hr q => ⟨Z', m2, acc', accd', x, M, hD, ha, hr, q⟩)
          · rename_i ed
            cases e
            rw [List.append_nil] at ez
            subst ez em
            refine .inl ⟨hJ.stop i H vs hv ?_, lc_end (m2 := m) n (sub x) M1.asd h1 x hD M ha hr⟩
            rw [← reps_len rs]
            exact List.getElem?_eq_none_iff.mp ed
        · cases e
variable {elt tg iter : Expr} {ifs : List Expr} {scope : Scope} {own : List (Str × Nat)} {pos spos : Pos} {fi : IF}
theorem pts_nilD : PTs X [] (rdT X W0 tYesD) := ⟨fun pins s σ H Q I ⟨Z, σd, m, S, M, h⟩ => pts_nil.run pins s σ H Q I (h H Z (.refl _ _) M)⟩
theorem pts_oneD {c : Expr} (h : T X W0 c tt) : PTs X [c] (rdT X W0 tt) := pts_one h
theorem e_lc {nw : Bool} (hc : X.calm = true) (hN : X.N.Nodup) (hi : I X W tg iter fi) (ok : BlkOk X.N X.env.scope scope own) (gk : GOk g)
    (hg : ∀ (s : Shared) (H : Hp) (C : Addr) (cl : List (Str × Addr)) (fp : List Addr), G (X.blk s H scope (compEnvC scope cl C X.env) fp) (own.map (·.2)) tg g)
    (ht : ∀ (s : Shared) (H : Hp) (C : Addr) (cl : List (Str × Addr)) (fp : List Addr), PTs (X.blk s H scope (compEnvC scope cl C X.env) fp) ifs (rdT (X.blk s H scope (compEnvC scope cl C X.env) fp) W0 tt))
    (he : ∀ (s : Shared) (H : Hp) (C : Addr) (cl : List (Str × Addr)) (fp : List Addr), E (X.blk s H scope (compEnvC scope cl C X.env) fp) W0 elt te) (hs : ∀ x, foldedSetIterable iter X.env x = pure x := by intro _; rfl) :
    E X W (.ListComp elt [⟨tg, iter, ifs, 0⟩] scope pos) (eLc nw (own.map (·.2)) fi g tt te) :=
  PE.imp (pe_lc (tt := rdT X W0 tt) (te := rdE X W0 te) hc hN hi ok hg ht he hs) fun σ H Q h => rd_lc gk h
theorem s_setLc {nw : Bool} {i : Nat} {y : Str} {py : Pos} (hc : X.calm = true) (hN : X.N.Nodup) (hy : X.N[i]? = some y) (hyl : X.env.scope.names.lookup y = some .local)
    (hsw : swapsWith (.ListComp elt [⟨tg, iter, ifs, 0⟩] scope pos) (some (.Name y py)) spos.line X.env = pure true) (hi : I X W tg iter fi) (ok : BlkOk X.N X.env.scope scope own) (gk : GOk g)
    (hg : ∀ (s : Shared) (H : Hp) (C : Addr) (cl : List (Str × Addr)) (fp : List Addr), G (X.blk s H scope (compEnvC scope cl C X.env) fp) (own.map (·.2)) tg g)
    (ht : ∀ (s : Shared) (H : Hp) (C : Addr) (cl : List (Str × Addr)) (fp : List Addr), PTs (X.blk s H scope (compEnvC scope cl C X.env) fp) ifs (rdT (X.blk s H scope (compEnvC scope cl C X.env) fp) W0 tt))
    (he : ∀ (s : Shared) (H : Hp) (C : Addr) (cl : List (Str × Addr)) (fp : List Addr), E (X.blk s H scope (compEnvC scope cl C X.env) fp) W0 elt te) (hs : ∀ x, foldedSetIterable iter X.env x = pure x := by intro _; rfl) :
    S1 X W (.Assign [.Name y py] (.ListComp elt [⟨tg, iter, ifs, 0⟩] scope pos) spos) (sSet i (eLc nw (own.map (·.2)) fi g tt te)) := by
  refine PS.imp (ps_setLc (tt := rdT X W0 tt) (te := rdE X W0 te) hc hN hy hyl hsw hi ok hg ht he hs) fun D σ H ⟨Z, σd, m, S, M, h⟩ => ?_
  refine rd_lc (X := X) gk ⟨Z, σd, m, S, M, (Fin.st h S).mono fun a m1 H1 Z1 x1 M1 h1 v r => h1 H1 Z1 _ (.refl _ _) M1 ((S.ext x1).set i r)⟩
end
end PD
namespace PD
open PySem PySem.Spec L2
open PyProof.Rows hiding St

/-! ### raise -/
section
variable {X : Cx} {W : WX} {pos : Pos} {C : Addr} {bmB : List Value} {B newId initId : String}
/-- X() -/
theorem pmk_own0 {x : Str} {p : Pos} (F : ExcBaseFacts B newId initId bmB) (q : PySem.W.excIn X.K C bmB newId = true) (gC : X.mg x = some (.ref C)) (kC : PySem.W.keepIn X.K (.ref C) = true) (r : Raises X (.ref C)) (hg : Gl X x)
    (hdb : (x == ("__debug__" : Str)) = false := by decide) : PMk X (.Call (.Name x p) [] [] pos) (fun _ H Q => Q (.ref C) none H) := by
  intro pins s σ H Q I h
  refine wpAny_Call_Name_kw (ld_glob I hg gC ?_ hdb)
  refine PySem.W.callWith_K0 I.kIn kC ?_
  obtain ⟨bm, N, nm, qn, bs, hdct, sn, sub, ab, col, dd, k0, k1, k2, k3, k5, mN, hC, hN, hni, T⟩ := exc_obj I.kIn q
  refine wpAny_call_exc_subT F T hC hN hni (fun h' e hm => ?_) (by show 0 ≤ sizeLine; exact Nat.zero_le _)
  exact mk_of I hm r h (I.hok.gone hm.new)
def sRaise (c : Str) : SF := fun σ m => .exc c σ m
theorem s_raise {x : Str} {p : Pos} (hc : X.calm = true) (tk : Takes X W) (F : ExcBaseFacts B newId initId bmB) (q : PySem.W.excIn X.K C bmB newId = true) (gC : X.mg x = some (.ref C)) (kC : PySem.W.keepIn X.K (.ref C) = true) (r : Raises X (.ref C)) (hg : Gl X x)
    (hdb : (x == ("__debug__" : Str)) = false := by decide) : S1 X W (.Raise (some (.Call (.Name x p) [] [] pos)) none pos) (sRaise x) := by
  refine PS.imp (ps_raise hc tk (pmk_own0 F q gC kC r hg hdb)) fun D σ H ⟨Z, σd, m, S, M, h⟩ => ?_
  exact h _ H Z σ gC (.refl _ _) M S
/-- what is known of an own exception class -/
structure ExcT (K : PySem.W.Frag) (mg : Str → Option Value) (x : Str) (C : Addr) : Prop where
  g : mg x = some (.ref C)
  q : PySem.W.excIn K C [.type "ValueError", .type "Exception", .type "BaseException", .type "object"] "ValueError.__new__" = true
  k : PySem.W.keepIn K (.ref C) = true
  b : PySem.W.subIn K (.ref C) (.type "BaseException") = some true
  t : PySem.W.typeIn K (.ref C) = some (.type "type")
theorem s_raiseT {x : Str} {p : Pos} {pos' : Pos} (hc : X.calm = true) (tk : Takes X W) (t : ExcT X.K X.mg x C) (hg : Gl X x) (hdb : (x == ("__debug__" : Str)) = false := by decide) : S1 X W (.Raise (some (.Call (.Name x p) [] [] pos)) none pos') (sRaise x) := by
  refine PS.imp (ps_raise hc tk (pmk_own0 PySem.F.excBase_ValueError t.q t.g t.k (raises_own t.b t.t) hg hdb)) fun D σ H ⟨Z, σd, m, S, M, h⟩ => ?_
  exact h _ H Z σ t.g (.refl _ _) M S
end

/-! ### try: .. except X: .. -/
/-- the clauses: names of classes and their suites -/
def catch1 (cs : List (Str × SF)) (is : Str → Str → Bool) (c : Str) : Option SF := match cs with
  | [] => none
  | (x, f) :: r => if is c x then some f else catch1 r is c
def sTry (ns : List Str) (is : Str → Str → Bool) (b : SF) (cs : List (Str × SF)) : SF := fun σ m => match b σ m with
  | .exc c σ1 m1 => if c ∈ ns then (match catch1 cs is c with | some f => (match f σ1 m1 with | .exc _ _ _ => .bad | r => r) | none => .exc c σ1 m1) else .bad
  | r => r
/-- one class against another -/
def ExM (K : PySem.W.Frag) (mg : Str → Option Value) (c x : Str) (b : Bool) : Prop := ∃ C D : Addr, mg c = some (.ref C) ∧ mg x = some (.ref D) ∧ PySem.W.exmOne K (.ref C) (.ref D) = some b
theorem ExM.at {K : PySem.W.Frag} {mg : Str → Option Value} {c x : Str} {b : Bool} (h : ExM K mg c x b) (u v : Value) (hu : mg c = some u) (hv : mg x = some v) : PySem.W.exmOne K u v = some b := by
  obtain ⟨C, D, h1, h2, h3⟩ := h
  rw [h1] at hu; cases hu
  rw [h2] at hv; cases hv
  exact h3
theorem allN {α : Type} {p : α → Prop} : ∀ x ∈ ([] : List α), p x := fun _ h => by cases h
theorem allC {α : Type} {p : α → Prop} {a : α} {l : List α} (h : p a) (r : ∀ x ∈ l, p x) : ∀ x ∈ a :: l, p x := List.forall_mem_cons.mpr ⟨h, r⟩
section
variable {X : Cx} {W : WX} {pos : Pos}
inductive Hds (X : Cx) : List ExceptHandler → List (Str × SF) → Prop
  | nil : Hds X [] []
  | cons {x : Str} {c : Value} {f : SF} {b₀ : Stmt} {suite : List Stmt} {np pos' : Pos} {hds : List ExceptHandler} {l : List (Str × SF)} (hc : Names X x c) (hm : X.mg x = some c)
      (hsu : ∀ (a : Addr) (pn : List (Addr × Obj)), Ss (X.suite a pn) W0 (b₀ :: suite) f) (r : Hds X hds l) :
      Hds X (.ExceptHandler (some (.Name x np)) none (b₀ :: suite) pos' :: hds) ((x, f) :: l)
theorem s_try {body : List Stmt} {h₀ : ExceptHandler} {hds : List ExceptHandler} {l : List (Str × SF)} {fb : SF} {ns : List Str} {is : Str → Str → Bool} (hs : X.stack = X.env :: X.outer) (hf : X.env.frame = some X.env.locals) (tk : Takes X W)
    (hb : ∀ (W' : WX) (pn : List (Addr × Obj)) (xe : Value → Shared → Prop), Takes (X.tr pn xe) W' → PassesOwn (model X.prog X.w) X.A X.env xe → Ss (X.tr pn xe) W' body fb)
    (hh : Hds X (h₀ :: hds) l) (hi : ∀ c ∈ ns, ∀ x ∈ l.map (·.1), ∀ u v, X.mg c = some u → X.mg x = some v → PySem.W.exmOne X.K u v = some (is c x)) : S1 X W (.Try body (h₀ :: hds) [] [] pos) (sTry ns is fb l) := by
  have key : ∀ (hds : List ExceptHandler) (l : List (Str × SF)), Hds X hds l → (∀ c ∈ ns, ∀ x ∈ l.map (·.1), ∀ u v, X.mg c = some u → X.mg x = some v → PySem.W.exmOne X.K u v = some (is c x)) →
      ∃ L, HdsOk X hds L ∧ ∀ (D : Ends) (c : Str) (u : Value) (σ : St) (H : Hp) (Z : Zn) (σd : Sg) (m : Mem), c ∈ ns → X.mg c = some u → SRep H Z σd σ → MRep H Z m →
        FinS X W H Z (match catch1 l is c with | some f => (match f σd m with | .exc _ _ _ => .bad | r => r) | none => .exc c σd m) D → wMany X.K W D L u none σ H := by
    intro hds l h
    induction h with
    | nil =>
      intro _
      exact ⟨[], .nil, fun D c u σ H Z σd m hc e S M h => h u H Z σ e (.refl _ _) M S⟩
    | @cons x cv f b₀ suite np pos' hds l hc hm hsu r ih =>
      intro hi
      obtain ⟨L, hL, k⟩ := ih fun c hc x' hx => hi c hc x' (List.mem_cons_of_mem _ hx)
      refine ⟨(cv, fun a cls d => rdS X W0 f) :: L, .cons hc (fun a oe cls d pn _ _ => hsu a _) hL, fun D c u σ H Z σd m hcn e S M h => ?_⟩
      have e1 := hi c hcn x (by simp) u cv e hm
      refine ⟨is c x, e1, fun ht a na => ?_, fun hf => ?_⟩
      · have h : FinS X W H Z (match catch1 ((x, f) :: l) is c with | some f => (match f σd m with | .exc _ _ _ => .bad | r => r) | none => .exc c σd m) D := h
        simp only [catch1, ht, if_true] at h
        refine ⟨Z, σd, m, S, M, ?_⟩
        cases ef : f σd m with
        | exc c' s' m' => rw [ef] at h; exact h.elim
        | nx s' m' => rw [ef] at h; exact h
        | rt d m' => rw [ef] at h; exact h
        | bk s' m' => rw [ef] at h; exact h
        | ct s' m' => rw [ef] at h; exact h
        | bad => rw [ef] at h; exact h
      · have h : FinS X W H Z (match catch1 ((x, f) :: l) is c with | some f => (match f σd m with | .exc _ _ _ => .bad | r => r) | none => .exc c σd m) D := h
        simp only [catch1, hf, Bool.false_eq_true, if_false] at h
        exact k D c u σ H Z σd m hcn e S M h
  obtain ⟨L, hL, k⟩ := key _ _ hh hi
  refine PS.imp (ps_try_many (tb := fun W' => rdS X W' fb) hs hf tk (fun W' pn xe tk' po => hb W' pn xe tk' po) hL) fun D σ H ⟨Z, σd, m, S, M, h⟩ => ?_
  refine ⟨Z, σd, m, S, M, ?_⟩
  unfold sTry at h
  cases eb : fb σd m with
  | exc c s1 m1 =>
    rw [eb] at h
    have h : FinS X W H Z (if c ∈ ns then (match catch1 l is c with | some f => (match f s1 m1 with | .exc _ _ _ => .bad | r => r) | none => .exc c s1 m1) else .bad) D := h
    split at h
    · rename_i hcn
      intro u H' Z' σ' e x' M' S'
      exact k D c u σ' H' Z' s1 m1 hcn e S' M' (FinS.shift x' h)
    · exact h.elim
  | nx s' m' => rw [eb] at h; exact h
  | rt d m' => rw [eb] at h; exact h
  | bk s' m' => rw [eb] at h; exact h
  | ct s' m' => rw [eb] at h; exact h
  | bad => rw [eb] at h; exact h
end

/-! ### a def -/
def startD (n : Nat) (ds : List D) : Sg := ds.map some ++ List.replicate (n - ds.length) none
def fnR (n : Nat) (body : SF) (ds : List D) (m : Mem) : Res D := match body (startD n ds) m with
  | .nx _ m => .ok .non m
  | .rt d m => .ok d m
  | .exc c _ m => .exc c m
  | _ => .bad
theorem srep_start {H : Hp} {Z : Zn} {ds : List D} {vs : List V} {N : List Str} (r : Reps H Z ds vs) : SRep H Z (startD N.length ds) (L2.start N vs) := by
  have hl := reps_len r
  unfold startD L2.start
  refine ⟨by simp [hl], fun i d e => ?_⟩
  by_cases hi : i < ds.length
  · rw [List.getElem?_append_left (by simpa using hi), List.getElem?_map] at e
    cases ed : ds[i]? with
    | none => rw [ed] at e; cases e
    | some d' =>
      rw [ed] at e
      cases e
      obtain ⟨v, ev, rv⟩ := reps_get r ed
      exact ⟨v, by rw [List.getElem?_append_left (by rw [List.length_map, ← hl]; exact hi), List.getElem?_map, ev]; rfl, rv⟩
  · rw [List.getElem?_append_right (by simpa using hi)] at e
    have := List.mem_of_getElem? e
    rw [List.mem_replicate] at this
    cases this.2
section
variable {P : Program} {w : World} {K : PySem.W.Frag} {mg : Str → Option Value} {base : Heap}
/-- THE RULE for a def: its body derived, under any wish -/
theorem fn_ok {x qual : Str} {st : Stmt} {f : Addr} {fd : FuncData} {N ps : List Str} {k : Nat} {body : SF} (F : Fun K x qual st f fd) (Sc : FnScope N ps (defScope st))
    (hbody : ∀ (cdv : Value) (A : Around) (outer : List Env) (s : Shared) (H : Hp) (Ex : XK), Room k (A.deeper (envOfC qual (defScope st) s.heap.objs.size f cdv)) →
      Ss (cxOf (L2.CX P w) P w K mg base N qual (defScope st) f cdv A outer s H Ex) (fun c d _ H' => Ex c d H') (defBody st) body) : Fn P w K mg base (k + 1) f fd ps (fnR N.length body) := by
  refine F.okX Sc (fun vs H Q E h => h.1) (fun cdv A outer s H vs Q Ex hr h => ?_)
  obtain ⟨hn, Z, ds, m, r, M, h⟩ := h
  refine ⟨_, hbody cdv A outer s H Ex hr, Z, startD N.length ds, m, srep_start r, M, ?_⟩
  unfold fnR at h
  cases e : body (startD N.length ds) m with
  | nx σ1 m1 => rw [e] at h; exact fun H' Z' σ' x M S => h H' Z' .non x M (by simp only [Rep])
  | rt d m1 => rw [e] at h; exact h
  | exc c σ1 m1 => rw [e] at h; exact fun u H' Z' σ' e x M S => h u H' Z' e x M
  | bk σ1 m1 => rw [e] at h; exact h.elim
  | ct σ1 m1 => rw [e] at h; exact h.elim
  | bad => rw [e] at h; exact h.elim
theorem takes_fn {N : List Str} {qual : Str} {sc : Scope} {f : Addr} {cdv : Value} {A : Around} {outer : List Env} {s : Shared} {H : Hp} {Ex : XK} :
    Takes (cxOf (L2.CX P w) P w K mg base N qual sc f cdv A outer s H Ex) (fun c d _ H' => Ex c d H') := takes_of rfl rfl rfl rfl
theorem passes_fn {N : List Str} {qual : Str} {sc : Scope} {f : Addr} {cdv : Value} {A : Around} {outer : List Env} {s : Shared} {H : Hp} {Ex : XK} :
    PassesOwn (model P w) (A.deeper (envOfC qual sc s.heap.objs.size f cdv)) (envOfC qual sc s.heap.objs.size f cdv) (cxOf (L2.CX P w) P w K mg base N qual sc f cdv A outer s H Ex).xe :=
  passes_of (X := cxOf (L2.CX P w) P w K mg base N qual sc f cdv A outer s H Ex) rfl

/-! ### a nicer function: what is made and let go is forgotten -/
mutual
def cl (n : Nat) : D → Bool
  | .tup xs => cls n xs
  | .lst xs => cls n xs
  | .scr xs => cls n xs
  | .ref i => decide (i < n)
  | _ => true
def cls (n : Nat) : List D → Bool
  | [] => true
  | x :: xs => cl n x && cls n xs
end
def clO (n : Nat) : MO → Bool
  | .lst xs => cls n xs
  | .dct _ kvs => kvs.all fun p => cl n p.1 && cl n p.2
mutual
theorem rep_cl {H : Hp} {ρ more φ : List Addr} : ∀ (d : D) (v : V), cl ρ.length d = true → Rep H ⟨ρ ++ more, φ⟩ d v → Rep H ⟨ρ, φ⟩ d v
  | .non, v, _, h => by simp only [Rep] at h ⊢; exact h
  | .bl b, v, _, h => by simp only [Rep] at h ⊢; exact h
  | .int i, v, _, h => by simp only [Rep] at h ⊢; exact h
  | .str s, v, _, h => by simp only [Rep] at h ⊢; exact h
  | .tup xs, v, c, h => by
    simp only [Rep] at h ⊢
    obtain ⟨a, vs, e, r, n, rs⟩ := h
    exact ⟨a, vs, e, r, ⟨fun z => n.1 (List.mem_append_left _ z), n.2⟩, reps_cl xs vs (by simpa [cl] using c) rs⟩
  | .lst xs, v, c, h => by
    simp only [Rep] at h ⊢
    obtain ⟨a, vs, e, r, n, rs⟩ := h
    exact ⟨a, vs, e, r, ⟨fun z => n.1 (List.mem_append_left _ z), n.2⟩, reps_cl xs vs (by simpa [cl] using c) rs⟩
  | .adr a, v, _, h => by simp only [Rep] at h ⊢; exact h
  | .scr xs, v, c, h => by
    simp only [Rep] at h ⊢
    obtain ⟨a, vs, e, r, n, rs⟩ := h
    exact ⟨a, vs, e, r, ⟨fun z => n.1 (List.mem_append_left _ z), n.2⟩, reps_cl xs vs (by simpa [cl] using c) rs⟩
  | .ref i, v, c, h => by
    simp only [Rep] at h ⊢
    obtain ⟨a, e, e2⟩ := h
    have hi : i < ρ.length := by simpa [cl] using c
    rw [List.getElem?_append_left hi] at e
    exact ⟨a, e, e2⟩
theorem reps_cl {H : Hp} {ρ more φ : List Addr} : ∀ (ds : List D) (vs : List V), cls ρ.length ds = true → Reps H ⟨ρ ++ more, φ⟩ ds vs → Reps H ⟨ρ, φ⟩ ds vs
  | [], vs, _, h => by simp only [Reps] at h ⊢; exact h
  | d :: ds, vs, c, h => by
    simp only [Reps] at h ⊢
    obtain ⟨v, r, e, h1, h2⟩ := h
    have c' : cl ρ.length d = true ∧ cls ρ.length ds = true := by simpa [cls] using c
    exact ⟨v, r, e, rep_cl d v c'.1 h1, reps_cl ds r c'.2 h2⟩
end
mutual
theorem cl_rep {H : Hp} {Z : Zn} : ∀ (d : D) (v : V), Rep H Z d v → cl Z.ρ.length d = true
  | .non, v, _ => rfl
  | .bl b, v, _ => rfl
  | .int i, v, _ => rfl
  | .str s, v, _ => rfl
  | .tup xs, v, h => by
    simp only [Rep] at h
    obtain ⟨a, vs, e, r, n, rs⟩ := h
    exact cls_rep xs vs rs
  | .lst xs, v, h => by
    simp only [Rep] at h
    obtain ⟨a, vs, e, r, n, rs⟩ := h
    exact cls_rep xs vs rs
  | .adr a, v, _ => rfl
  | .scr xs, v, h => by
    simp only [Rep] at h
    obtain ⟨a, vs, e, r, n, rs⟩ := h
    exact cls_rep xs vs rs
  | .ref i, v, h => by
    simp only [Rep] at h
    obtain ⟨a, e, e2⟩ := h
    exact decide_eq_true (List.getElem?_eq_some_iff.mp e).1
theorem cls_rep {H : Hp} {Z : Zn} : ∀ (ds : List D) (vs : List V), Reps H Z ds vs → cls Z.ρ.length ds = true
  | [], vs, _ => rfl
  | d :: ds, vs, h => by
    simp only [Reps] at h
    obtain ⟨v, r, e, h1, h2⟩ := h
    show (cl Z.ρ.length d && cls Z.ρ.length ds) = true
    rw [cl_rep d v h1, cls_rep ds r h2]; rfl
end
theorem cl_obj {H : Hp} {Z : Zn} {m : Mem} (M : MRep H Z m) {i : Nat} {o : MO} (e : m[i]? = some o) : clO m.length o = true := by
  have hi := (List.getElem?_eq_some_iff.mp e).1
  have hr : i < Z.ρ.length := by rw [← M.len]; exact hi
  have q := M.obj i _ o (List.getElem?_eq_getElem hr) e
  rw [M.len]
  cases o with
  | lst xs =>
    obtain ⟨vs, h1, h2⟩ := q
    exact cls_rep _ _ h2
  | dct lk kvs =>
    obtain ⟨L, u, h1, h2, h3⟩ := q
    show (kvs.all fun p => cl Z.ρ.length p.1 && cl Z.ρ.length p.2) = true
    clear h1 h2 e
    induction h3 with
    | nil => rfl
    | cons p _ ih => rw [List.all_cons, cl_rep _ _ p.2.1, cl_rep _ _ p.2.2, ih]; rfl
/-- the value, with a list of its own as the list it is -/
def RefV (m2 : Mem) (n : Nat) (d0 d : D) : Prop := (d0 = d ∧ cl n d = true) ∨ ∃ i xs, d0 = .ref i ∧ n ≤ i ∧ m2[i]? = some (.lst xs) ∧ d = .lst xs ∧ cls n xs = true
def RefR (m : Mem) (r g : Res D) : Prop := match g with
  | .bad => True
  | .exc c m' => ∃ more, r = .exc c (m' ++ more) ∧ m'.length = m.length ∧ ∀ (i : Nat) (o : MO), m'[i]? = some o → m[i]? = some o ∨ clO m.length o = true
  | .ok d m' => r = .ok d m' ∨ ∃ more d0, r = .ok d0 (m' ++ more) ∧ RefV (m' ++ more) m.length d0 d ∧ m'.length = m.length ∧ ∀ (i : Nat) (o : MO), m'[i]? = some o → m[i]? = some o ∨ clO m.length o = true
theorem Ext.cut {Z Z' : Zn} {H H' : Hp} (x : Ext Z H Z' H') : Ext Z H ⟨Z.ρ, Z'.φ⟩ H' := ⟨x.phi1, x.phi2, ⟨[], by simp⟩, fun a o e n => ⟨(x.keep a o e n).1, n⟩, x.more, x.frz⟩
theorem MRep.cut {H H' : Hp} {Z Z' : Zn} {m m' more : Mem} (M : MRep H Z m) (x : Ext Z H Z' H') (M' : MRep H' Z' (m' ++ more)) (hl : m'.length = m.length) (ho : ∀ (i : Nat) (o : MO), m'[i]? = some o → m[i]? = some o ∨ clO m.length o = true) : MRep H' ⟨Z.ρ, Z'.φ⟩ m' where
  len := by rw [hl, M.len]
  nd := M.nd
  off := fun a ha => M'.off a (by
    obtain ⟨mr, e⟩ := x.pre
    rw [e]; exact List.mem_append_left _ ha)
  asd := M'.asd
  obj := fun i a o e1 e2 => by
    obtain ⟨mr, e⟩ := x.pre
    have hi := (List.getElem?_eq_some_iff.mp e1).1
    have hc : clO Z.ρ.length o = true := by
      rw [← M.len]
      rcases ho i o e2 with h | h
      · exact cl_obj M h
      · exact h
    have q := M'.obj i a o (by rw [e, List.getElem?_append_left hi]; exact e1) (by rw [List.getElem?_append_left (by rw [hl, M.len]; exact hi)]; exact e2)
    have ez : Z' = ⟨Z.ρ ++ mr, Z'.φ⟩ := by cases Z'; cases e; rfl
    cases o with
    | lst xs =>
      obtain ⟨vs, h1, h2⟩ := q
      rw [ez] at h2
      exact ⟨vs, h1, reps_cl _ _ hc h2⟩
    | dct lk kvs =>
      obtain ⟨L, u, h1, h2, h3⟩ := q
      refine ⟨L, u, h1, h2, ?_⟩
      change (kvs.all fun p => cl Z.ρ.length p.1 && cl Z.ρ.length p.2) = true at hc
      clear h1 h2 e2
      revert hc
      induction h3 with
      | nil => exact fun _ => .nil
      | cons p _ ih =>
        intro hc
        rw [List.all_cons, Bool.and_eq_true, Bool.and_eq_true] at hc
        have p2 := p.2
        rw [ez] at p2
        exact .cons ⟨p.1, rep_cl _ _ hc.1.1 p2.1, rep_cl _ _ hc.1.2 p2.2⟩ (ih hc.2)
theorem fn_ref {k : Nat} {f : Addr} {fd : FuncData} {ps : List Str} {F G : List D → Mem → Res D} (Fk : Fn P w K mg base k f fd ps F) (h : ∀ ds m, ds.length = ps.length → RefR m (F ds m) (G ds m)) : Fn P w K mg base k f fd ps G := by
  refine Fk.imp fun vs H Q Ex ⟨hn, Z, ds, m, r, M, q⟩ => ⟨hn, Z, ds, m, r, M, ?_⟩
  have hr := h ds m (by rw [reps_len r]; exact hn)
  cases eg : G ds m with
  | bad => rw [eg] at q; exact q.elim
  | exc c m' =>
    rw [eg] at q hr
    obtain ⟨more, e, hl, ho⟩ := hr
    rw [e]
    exact fun u H' Z' e x M' => q u H' ⟨Z.ρ, Z'.φ⟩ e x.cut (M.cut x M' hl ho)
  | ok d m' =>
    rw [eg] at q hr
    rcases hr with e | ⟨more, d0, e, rv, hl, ho⟩
    · rw [e]; exact q
    · rw [e]
      intro H' Z' v x M' r'
      refine q H' ⟨Z.ρ, Z'.φ⟩ v x.cut (M.cut x M' hl ho) ?_
      obtain ⟨mr, em⟩ := x.pre
      have ez : Z' = ⟨Z.ρ ++ mr, Z'.φ⟩ := by cases Z'; cases em; rfl
      rcases rv with ⟨e0, hc⟩ | ⟨i, xs, e0, hi, em', ed, hc⟩
      · subst e0
        rw [M.len] at hc
        rw [ez] at r'
        exact rep_cl _ _ hc r'
      · subst e0 ed
        simp only [Rep] at r' ⊢
        obtain ⟨a, ea, ev⟩ := r'
        obtain ⟨vs, h1, h2⟩ := M'.obj i a _ ea em'
        refine ⟨a, vs, ev, h1, ⟨fun z => ?_, M'.off a (List.mem_of_getElem? ea)⟩, ?_⟩
        · -- a stands behind the old ones
          rw [em] at ea
          rw [List.getElem?_append_right (by rw [← M.len]; exact hi)] at ea
          have hnd := M'.nd
          rw [em, List.nodup_append] at hnd
          exact hnd.2.2 a z a (List.mem_of_getElem? ea) rfl
        · rw [M.len] at hc
          rw [ez] at h2
          exact reps_cl _ _ hc h2
end
end PD
namespace PD
open PySem PySem.Spec L2
open PyProof.Rows hiding St

/-! ### numbers -/
def mulB (i j : Int) : Bool := decide (i.natAbs.log2 + j.natAbs.log2 < 1000000)
def divB (j : Int) : Bool := decide (0 < j ∧ j.natAbs.log2 < 9000)
def divN (j : Int) : Bool := decide (j ≠ 0 ∧ j.natAbs < 1073741824)
/-- // by a number above 0 (great ones too), by a small one below 0 -/
def fdivD (i j : Int) : Int := if 0 < j then i / j else i.fdiv j
def fmodD (i j : Int) : Int := if 0 < j then i % j else i.fmod j
def opAdd (x y : D) (m : Mem) : Res D := match x, y with
  | .int i, .int j => .ok (.int (i + j)) m
  | .tup xs, .tup ys => newT (xs ++ ys) m
  | .int i, .bl k => .ok (.int (i + b2i k)) m
  | _, _ => .bad
def opSub (x y : D) (m : Mem) : Res D := match x, y with
  | .int i, .int j => .ok (.int (i - j)) m
  | .bl i, .bl j => .ok (.int (b2i i - b2i j)) m
  | _, _ => .bad
def opMul (x y : D) (m : Mem) : Res D := match x, y with
  | .int i, .int j => if mulB i j then .ok (.int (i * j)) m else .bad
  | _, _ => .bad
def opFdiv (x y : D) (m : Mem) : Res D := match x, y with
  | .int i, .int j => if divB j || divN j then .ok (.int (fdivD i j)) m else .bad
  | _, _ => .bad
def opMod (x y : D) (m : Mem) : Res D := match x, y with
  | .int i, .int j => if j ≠ 0 then .ok (.int (fmodD i j)) m else .bad
  | _, _ => .bad
def opPow (x y : D) (m : Mem) : Res D := match x, y with
  | .int i, .int j => if 0 ≤ j ∧ j ≤ 1000000 ∧ i.natAbs < 2 ^ 64 then .ok (.int (i ^ j.toNat)) m else .bad
  | _, _ => .bad
def opNeg (x : D) (m : Mem) : Res D := match x with | .int i => .ok (.int (-i)) m | _ => .bad
section
variable {X : Cx} {H : Hp} {Z : Zn} {m : Mem} {Q : VK} {d : D} {v : V}
theorem rep_int {i : Int} (h : Rep H Z (.int i) v) : v = .int i := by simp only [Rep] at h; exact h
theorem rep_bl {i : Bool} (h : Rep H Z (.bl i) v) : v = .bl i := by simp only [Rep] at h; exact h
theorem rep_intI {i : Int} : Rep H Z (.int i) (.int i) := by simp only [Rep]
theorem rep_blI {i : Bool} : Rep H Z (.bl i) (.bl i) := by simp only [Rep]
theorem rep_nonI : Rep H Z .non .non := by simp only [Rep]
theorem fin_ok (h : FinO H Z (.ok d m) Q) (M : MRep H Z m) (r : Rep H Z d v) : Q v H := h H Z v (.refl _ _) M r
theorem op_add_ok : OpR X (binaryOp .Add) (rdO2 opAdd) := OpR.by fun x y H Q ⟨Z, m, dx, dy, rx, ry, M, h⟩ => by
  unfold opAdd at h
  split at h
  · rename_i i j
    exact ⟨_, op_add, i, j, rep_int rx, rep_int ry, fin_ok h M rep_intI⟩
  · rename_i xs ys
    have rx' := rx
    have ry' := ry
    simp only [Rep] at rx ry
    obtain ⟨a, vs, e1, r1, o1, rs1⟩ := rx
    obtain ⟨b, us, e2, r2, o2, rs2⟩ := ry
    have hf := fin_newT h M (reps_app rs1 rs2)
    have hm : ∀ {zs : List D} {v : V}, Rep H Z (.tup zs) v → xs ++ ys = zs → Q v H := fun r e => by
      subst e
      unfold newT at h
      split at h
      · exact h H Z _ (.refl _ _) M r
      · exact h.elim
    refine ⟨_, op_catA, a, b, vs, us, e1, e2, .inl r1, .inl r2, by rw [← List.length_append]; exact hf.1, fun e => ?_, fun _ e => ?_, fun _ _ p n => hf.2 p n⟩
    · subst e
      rw [e2] at ry'
      have := reps_len rs1
      have e : xs = [] := List.eq_nil_of_length_eq_zero this
      exact hm ry' (by rw [e]; rfl)
    · subst e
      rw [e1] at rx'
      have := reps_len rs2
      have e : ys = [] := List.eq_nil_of_length_eq_zero this
      exact hm rx' (by rw [e, List.append_nil])
  · rename_i i k
    exact ⟨_, op_add_ib, i, k, rep_int rx, rep_bl ry, fin_ok h M rep_intI⟩
  · exact h.elim
theorem op_sub_ok : OpR X (binaryOp .Sub) (rdO2 opSub) := OpR.by fun x y H Q ⟨Z, m, dx, dy, rx, ry, M, h⟩ => by
  unfold opSub at h
  split at h
  · rename_i i j
    exact ⟨_, op_sub, i, j, rep_int rx, rep_int ry, fin_ok h M rep_intI⟩
  · rename_i i j
    refine ⟨fun x y H Q => ∃ i j, x = .bl i ∧ y = .bl j ∧ Q (.int (b2i i - b2i j)) H, ?_, i, j, rep_bl rx, rep_bl ry, fin_ok h M rep_intI⟩
    intro pins s σ H x y v u Q I rx ry h
    obtain ⟨i, j, rfl, rfl, q⟩ := h
    cases (show v = Value.bool i from rx)
    cases (show u = Value.bool j from ry)
    exact sub_bool ⟨.int _, H, I.tok _, ⟨_, rfl⟩, q⟩
  · exact h.elim
theorem op_mul_ok : OpR X (binaryOp .Mult) (rdO2 opMul) := OpR.by fun x y H Q ⟨Z, m, dx, dy, rx, ry, M, h⟩ => by
  unfold opMul at h
  split at h
  · rename_i i j
    split at h
    · rename_i hb
      exact ⟨_, op_mulW, i, j, rep_int rx, rep_int ry, (of_decide_eq_true hb : i.natAbs.log2 + j.natAbs.log2 < 1000000), fin_ok h M rep_intI⟩
    · exact h.elim
  · exact h.elim
theorem op_fdiv_ok : OpR X (binaryOp .FloorDiv) (rdO2 opFdiv) := OpR.by fun x y H Q ⟨Z, m, dx, dy, rx, ry, M, h⟩ => by
  unfold opFdiv at h
  split at h
  · rename_i i j
    split at h
    · rename_i hb
      unfold fdivD at h
      by_cases h0 : 0 < j
      · rw [if_pos h0] at h
        by_cases hw : j.natAbs.log2 < 9000
        · exact ⟨_, op_fdivW, i, j, rep_int rx, rep_int ry, ⟨h0, hw⟩, fin_ok h M rep_intI⟩
        · have hn : j ≠ 0 ∧ j.natAbs < 1073741824 := by
            rw [Bool.or_eq_true] at hb
            rcases hb with hb | hb
            · exact (hw (of_decide_eq_true hb).2).elim
            · exact of_decide_eq_true hb
          exact ⟨_, op_fdiv, i, j, rep_int rx, rep_int ry, ⟨h0, by omega⟩, fin_ok h M rep_intI⟩
      · rw [if_neg h0] at h
        have hn : j ≠ 0 ∧ j.natAbs < 1073741824 := by
          rw [Bool.or_eq_true] at hb
          rcases hb with hb | hb
          · exact (h0 (of_decide_eq_true hb).1).elim
          · exact of_decide_eq_true hb
        exact ⟨_, op_fdivN, i, j, rep_int rx, rep_int ry, hn, fin_ok h M rep_intI⟩
    · exact h.elim
  · exact h.elim
theorem op_mod_ok : OpR X (binaryOp .Mod) (rdO2 opMod) := OpR.by fun x y H Q ⟨Z, m, dx, dy, rx, ry, M, h⟩ => by
  unfold opMod at h
  split at h
  · rename_i i j
    split at h
    · rename_i hb
      unfold fmodD at h
      by_cases h0 : 0 < j
      · rw [if_pos h0] at h
        exact ⟨_, op_mod, i, j, rep_int rx, rep_int ry, h0, fin_ok h M rep_intI⟩
      · rw [if_neg h0] at h
        exact ⟨_, op_modN, i, j, rep_int rx, rep_int ry, hb, fin_ok h M rep_intI⟩
    · exact h.elim
  · exact h.elim
theorem op_pow_ok : OpR X (binaryOp .Pow) (rdO2 opPow) := OpR.by fun x y H Q ⟨Z, m, dx, dy, rx, ry, M, h⟩ => by
  unfold opPow at h
  split at h
  · rename_i i j
    split at h
    · rename_i hb
      exact ⟨_, op_pow, i, j, rep_int rx, rep_int ry, hb, fin_ok h M rep_intI⟩
    · exact h.elim
  · exact h.elim
theorem un_neg_ok : UnR X (unaryOp .USub) (rdO1 opNeg) := UnR.by fun x H Q ⟨Z, m, dx, rx, M, h⟩ => by
  unfold opNeg at h
  split at h
  · rename_i i
    exact ⟨_, un_neg, i, rep_int rx, fin_ok h M rep_intI⟩
  · exact h.elim

/-! ### data at any depth -/
mutual
/-- no place of the memory within, and not too deep -/
def sh : Nat → D → Bool
  | n, .tup xs => (match n with | 0 => false | n + 1 => shs n xs)
  | n, .lst xs => (match n with | 0 => false | n + 1 => shs n xs)
  | _, .ref _ => false
  | _, .scr _ => false
  | _, .adr _ => false
  | _, .str x => (PyData.str x).canLay0
  | _, _ => true
def shs : Nat → List D → Bool
  | _, [] => true
  | n, x :: xs => sh n x && shs n xs
end
mutual
def toPy : D → PyData
  | .non => .none
  | .bl b => .bool b
  | .int i => .int i
  | .str x => .str x
  | .tup xs => .tuple (toPys xs)
  | .lst xs => .list (toPys xs)
  | .ref _ => .none
  | .scr _ => .none
  | .adr _ => .none
def toPys : List D → List PyData
  | [] => []
  | x :: xs => toPy x :: toPys xs
end
theorem toPys_map : ∀ xs : List D, toPys xs = xs.map toPy
  | [] => rfl
  | x :: xs => by show toPy x :: toPys xs = toPy x :: xs.map toPy; rw [toPys_map xs]
mutual
theorem py_dp {K : PySem.W.Frag} : ∀ (n : Nat) (d : D) (v : V), sh n d = true → Rep H Z d v → Dp K H v (toPy d)
  | n, .non, v, _, h => by simp only [Rep] at h; subst h; exact .non
  | n, .bl b, v, _, h => by simp only [Rep] at h; subst h; exact .bl b
  | n, .int i, v, _, h => by simp only [Rep] at h; subst h; exact .int i
  | n, .str x, v, _, h => by simp only [Rep] at h; subst h; exact .str x
  | 0, .tup xs, v, s, _ => by simp [sh] at s
  | n + 1, .tup xs, v, s, h => by
    simp only [Rep] at h
    obtain ⟨a, vs, rfl, r, o, rs⟩ := h
    exact .tup (.inl r) (py_dps n xs vs (by simpa [sh] using s) rs)
  | 0, .lst xs, v, s, _ => by simp [sh] at s
  | n + 1, .lst xs, v, s, h => by
    simp only [Rep] at h
    obtain ⟨a, vs, rfl, r, o, rs⟩ := h
    exact .lst (.inl (.inl r)) (py_dps n xs vs (by simpa [sh] using s) rs)
  | n, .ref i, v, s, _ => by simp [sh] at s
  | n, .scr i, v, s, _ => by simp [sh] at s
  | n, .adr i, v, s, _ => by simp [sh] at s
theorem py_dps {K : PySem.W.Frag} : ∀ (n : Nat) (ds : List D) (vs : List V), shs n ds = true → Reps H Z ds vs → DpAll K H vs (toPys ds)
  | n, [], vs, _, h => by simp only [Reps] at h; subst h; exact .nil
  | n, d :: ds, vs, s, h => by
    simp only [Reps] at h
    obtain ⟨v, r, rfl, h1, h2⟩ := h
    have s' : sh n d = true ∧ shs n ds = true := by simpa [shs] using s
    exact .cons (py_dp n d v s'.1 h1) (py_dps n ds r s'.2 h2)
end
mutual
theorem sh_lay : ∀ (n : Nat) (d : D), sh n d = true → (toPy d).canLay0 = true ∧ (toPy d).depth ≤ n
  | n, .non, _ => ⟨rfl, Nat.zero_le _⟩
  | n, .bl b, _ => ⟨rfl, Nat.zero_le _⟩
  | n, .int i, _ => ⟨rfl, Nat.zero_le _⟩
  | n, .str x, s => ⟨(by simpa [sh] using s : (PyData.str x).canLay0 = true), Nat.zero_le _⟩
  | 0, .tup xs, s => by simp [sh] at s
  | n + 1, .tup xs, s => by
    have h := shs_lay n xs (by simpa [sh] using s)
    refine ⟨h.1, ?_⟩
    have h2 := h.2
    simp only [toPy, PyData.depth]
    omega
  | 0, .lst xs, s => by simp [sh] at s
  | n + 1, .lst xs, s => by
    have h := shs_lay n xs (by simpa [sh] using s)
    refine ⟨h.1, ?_⟩
    have h2 := h.2
    simp only [toPy, PyData.depth]
    omega
  | n, .ref i, s => by simp [sh] at s
  | n, .scr i, s => by simp [sh] at s
  | n, .adr i, s => by simp [sh] at s
theorem shs_lay : ∀ (n : Nat) (ds : List D), shs n ds = true → PyData.canLayAll0 (toPys ds) = true ∧ PyData.depthAll (toPys ds) ≤ n
  | n, [], _ => ⟨rfl, Nat.zero_le _⟩
  | n, d :: ds, s => by
    have s' : sh n d = true ∧ shs n ds = true := by simpa [shs] using s
    have h1 := sh_lay n d s'.1
    have h2 := shs_lay n ds s'.2
    refine ⟨by show (_ && _) = true; rw [h1.1, h2.1]; rfl, ?_⟩
    have a := h1.2
    have b := h2.2
    simp only [toPys, PyData.depthAll]
    omega
end
theorem sh_shaped {d : D} (s : sh 60 d = true) : SeqAt.shaped (toPy d) = true := by
  obtain ⟨h1, h2⟩ := sh_lay 60 d s
  unfold SeqAt.shaped
  rw [h1, decide_eq_true (by omega)]; rfl
def eqD (x y : D) : Bool := PyData.eqv (toPy x) (toPy y)
/-- a list of the memory as the list it is -/
def deref (m : Mem) (d : D) : D := match d with
  | .ref n => (match m[n]? with | some (.lst xs) => .lst xs | _ => .ref n)
  | d => d
theorem dp_deref {K : PySem.W.Frag} {n : Nat} (M : MRep H Z m) (r : Rep H Z d v) (s : sh n (deref m d) = true) : Dp K H v (toPy (deref m d)) := by
  cases d with
  | ref i =>
    simp only [Rep] at r
    obtain ⟨a, ea, rfl⟩ := r
    simp only [deref] at s ⊢
    cases e : m[i]? with
    | none => rw [e] at s; simp [sh] at s
    | some o =>
      rw [e] at s
      cases o with
      | dct lk kvs => simp [sh] at s
      | lst xs =>
        obtain ⟨vs, h1, h2⟩ := M.obj i a _ ea e
        cases n with
        | zero => simp [sh] at s
        | succ n => exact .lst (.inl (.inl h1)) (py_dps n xs vs (by simpa [sh] using s) h2)
  | _ => exact py_dp n _ v s r
def opEq (x y : D) (m : Mem) : Res D := if sh 60 (deref m x) && sh 60 (deref m y) then .ok (.bl (eqD (deref m x) (deref m y))) m else .bad
def opNe (x y : D) (m : Mem) : Res D := if sh 60 (deref m x) && sh 60 (deref m y) then .ok (.bl (!eqD (deref m x) (deref m y))) m else .bad
theorem op_eq_ok (hu : X.A.units + 64 < cLine) : OpR X (compareOp .Eq) (rdO2 opEq) := OpR.by fun x y H Q ⟨Z, m, dx, dy, rx, ry, M, h⟩ => by
  unfold opEq at h
  split at h
  · rename_i hs
    rw [Bool.and_eq_true] at hs
    exact ⟨_, op_eqD hu, _, _, dp_deref M rx hs.1, dp_deref M ry hs.2, sh_shaped hs.1, sh_shaped hs.2, fin_ok h M rep_blI⟩
  · exact h.elim
theorem op_ne_ok (hu : X.A.units + 64 < cLine) : OpR X (compareOp .NotEq) (rdO2 opNe) := OpR.by fun x y H Q ⟨Z, m, dx, dy, rx, ry, M, h⟩ => by
  unfold opNe at h
  split at h
  · rename_i hs
    rw [Bool.and_eq_true] at hs
    exact ⟨_, op_neD hu, _, _, dp_deref M rx hs.1, dp_deref M ry hs.2, sh_shaped hs.1, sh_shaped hs.2, fin_ok h M rep_blI⟩
  · exact h.elim
/-- in -/
def inItems (d : D) : Option (List D) := match d with | .tup xs => some xs | .lst xs => some xs | _ => none
def opInB (neg : Bool) (x y : D) (m : Mem) : Res D := if sh 60 (deref m x) && sh 60 (deref m y) then
    (match inItems (deref m y) with | some xs => .ok (.bl (neg ^^ xs.any fun z => eqD z (deref m x))) m | none => .bad) else .bad
abbrev opIn := opInB false
abbrev opNin := opInB true
def rIn2 (K : PySem.W.Frag) (neg : Bool) : R2 := fun x y H Q => ∃ d ds, Dp K H x d ∧ (Dp K H y (.list ds) ∨ Dp K H y (.tuple ds)) ∧ SeqAt.shaped d = true ∧ SeqAt.shaped (.list ds) = true ∧ Q (.bl (neg ^^ ds.any fun z => PyData.eqv z d)) H
theorem op_in2 (hu : X.A.units + 65 < cLine) : OpR X (compareOp .In) (rIn2 X.K false) := by
  intro pins s σ H x y v u Q I rx ry h
  obtain ⟨d, ds, hd, he, sd, se, q⟩ := h
  obtain ⟨as, r1⟩ := Dp.reads I d x v hd rx
  rw [Bool.false_xor] at q
  rcases he with he | he
  · obtain ⟨bs, r2⟩ := Dp.reads I (.list ds) y u he ry
    exact SeqAt.in_list_reads r2 r1 (SeqAt.canLay_of_shaped se) (SeqAt.canLay_of_shaped sd) (room_in_shaped sd hu) ⟨.bl _, H, I, rfl, q⟩
  · obtain ⟨bs, r2⟩ := Dp.reads I (.tuple ds) y u he ry
    exact SeqAt.in_tuple_reads r2 r1 (SeqAt.canLay_of_shaped se) (SeqAt.canLay_of_shaped sd) (room_in_shaped sd hu) ⟨.bl _, H, I, rfl, q⟩
theorem op_nin2 (hu : X.A.units + 65 < cLine) : OpR X (compareOp .NotIn) (rIn2 X.K true) := by
  intro pins s σ H x y v u Q I rx ry h
  obtain ⟨d, ds, hd, he, sd, se, q⟩ := h
  obtain ⟨as, r1⟩ := Dp.reads I d x v hd rx
  rw [Bool.true_xor] at q
  rcases he with he | he
  · obtain ⟨bs, r2⟩ := Dp.reads I (.list ds) y u he ry
    exact SeqAt.notIn_list_reads r2 r1 (SeqAt.canLay_of_shaped se) (SeqAt.canLay_of_shaped sd) (room_in_shaped sd hu) ⟨.bl _, H, I, rfl, q⟩
  · obtain ⟨bs, r2⟩ := Dp.reads I (.tuple ds) y u he ry
    exact SeqAt.notIn_tuple_reads r2 r1 (SeqAt.canLay_of_shaped se) (SeqAt.canLay_of_shaped sd) (room_in_shaped sd hu) ⟨.bl _, H, I, rfl, q⟩
theorem in_any {xs : List D} {x : D} : (toPys xs).any (fun z => PyData.eqv z (toPy x)) = xs.any fun z => eqD z x := by
  rw [toPys_map, List.any_map]; rfl
theorem in_items {neg : Bool} {x y : D} {xv yv : V} (rx : Rep H Z x xv) (ry : Rep H Z y yv) (M : MRep H Z m) (h : FinO H Z (opInB neg x y m) Q) : rIn2 X.K neg xv yv H Q := by
  unfold opInB at h
  split at h
  · rename_i hs
    rw [Bool.and_eq_true] at hs
    have h1 := dp_deref (K := X.K) M rx hs.1
    have h2 := dp_deref (K := X.K) M ry hs.2
    have s2 := sh_shaped hs.2
    generalize deref m y = y' at h h2 s2
    cases y' with
    | tup xs => exact ⟨_, toPys xs, h1, .inr h2, sh_shaped hs.1, s2, by rw [in_any]; exact fin_ok h M rep_blI⟩
    | lst xs => exact ⟨_, toPys xs, h1, .inl h2, sh_shaped hs.1, s2, by rw [in_any]; exact fin_ok h M rep_blI⟩
    | _ => exact h.elim
  · exact h.elim
theorem op_in_ok (hu : X.A.units + 65 < cLine) : OpR X (compareOp .In) (rdO2 opIn) := OpR.by fun x y H Q ⟨Z, m, dx, dy, rx, ry, M, h⟩ => ⟨_, op_in2 hu, in_items rx ry M h⟩
theorem op_nin_ok (hu : X.A.units + 65 < cLine) : OpR X (compareOp .NotIn) (rdO2 opNin) := OpR.by fun x y H Q ⟨Z, m, dx, dy, rx, ry, M, h⟩ => ⟨_, op_nin2 hu, in_items rx ry M h⟩
/-- is None, is True -/
def isNon (d : D) : Bool := match d with | .non => true | _ => false
def opIs (neg : Bool) (x y : D) (m : Mem) : Res D := match y with
  | .non => .ok (.bl (neg ^^ isNon x)) m
  | _ => .bad
def opIsB (neg : Bool) (x y : D) (m : Mem) : Res D := match x, y with
  | .bl a, .bl b => .ok (.bl (neg ^^ decide (a = b))) m
  | _, .bl _ => .ok (.bl neg) m
  | _, _ => .bad
theorem non_dec (r : Rep H Z d v) : decide (v = V.non) = isNon d := by
  cases d with
  | non => simp only [Rep] at r; subst r; rfl
  | bl b => simp only [Rep] at r; subst r; rfl
  | int b => simp only [Rep] at r; subst r; rfl
  | str b => simp only [Rep] at r; subst r; rfl
  | tup xs => simp only [Rep] at r; obtain ⟨a, vs, rfl, _⟩ := r; rfl
  | lst xs => simp only [Rep] at r; obtain ⟨a, vs, rfl, _⟩ := r; rfl
  | scr xs => simp only [Rep] at r; obtain ⟨a, vs, rfl, _⟩ := r; rfl
  | adr a => simp only [Rep] at r; subst r; rfl
  | ref i => simp only [Rep] at r; obtain ⟨a, _, rfl⟩ := r; rfl
theorem op_is_ok : OpR X (compareOp .Is) (rdO2 (opIs false)) := OpR.by fun x y H Q ⟨Z, m, dx, dy, rx, ry, M, h⟩ => by
  unfold opIs at h
  split at h
  · simp only [Rep] at ry
    refine ⟨_, op_isN, ry, ?_⟩
    rw [Bool.false_xor, ← non_dec rx] at h
    exact fin_ok h M rep_blI
  · exact h.elim
theorem op_isnot_ok : OpR X (compareOp .IsNot) (rdO2 (opIs true)) := OpR.by fun x y H Q ⟨Z, m, dx, dy, rx, ry, M, h⟩ => by
  unfold opIs at h
  split at h
  · simp only [Rep] at ry
    refine ⟨_, op_notN, ry, ?_⟩
    rw [Bool.true_xor, ← non_dec rx] at h
    exact fin_ok h M rep_blI
  · exact h.elim
theorem value_of {u : Value} (r : RelV v u) (hv : ∀ b, v ≠ .bl b) (b : Bool) : u ≠ .bool b := fun e => by
  subst e
  cases v with
  | non => cases r
  | bl c => exact hv c rfl
  | int i => obtain ⟨t, e⟩ := r; cases e
  | str i => obtain ⟨t, e⟩ := r; cases e
  | byt i => obtain ⟨t, e⟩ := r; cases e
  | flt i => obtain ⟨t, e⟩ := r; cases e
  | ref i => cases r
  | ty i => cases r
theorem plain_bl {u : Value} (r : RelV v u) (b : Bool) : plainIs u (.bool b) = true := by
  cases v with
  | non => cases r; rfl
  | bl c => cases r; rfl
  | int i => obtain ⟨t, rfl⟩ := r; rfl
  | str i => obtain ⟨t, rfl⟩ := r; rfl
  | byt i => obtain ⟨t, rfl⟩ := r; rfl
  | flt i => obtain ⟨t, rfl⟩ := r; rfl
  | ref i => cases r; rfl
  | ty i => cases r; rfl
theorem rep_nbl (r : Rep H Z d v) (hd : ∀ b, d ≠ .bl b) (b : Bool) : v ≠ .bl b := fun e => by
  subst e
  cases d with
  | non => simp [Rep] at r
  | bl c => exact hd c rfl
  | int b => simp [Rep] at r
  | str b => simp [Rep] at r
  | tup xs => simp [Rep] at r
  | lst xs => simp [Rep] at r
  | scr xs => simp [Rep] at r
  | adr a => simp [Rep] at r
  | ref i => simp [Rep] at r
def rIsA (neg : Bool) : R2 := fun x y H Q => ∃ b, y = .bl b ∧ (∀ c, x ≠ .bl c) ∧ Q (.bl neg) H
theorem op_isA : OpR X (compareOp .Is) (rIsA false) := by
  intro pins s σ H x y v u Q I rx ry h
  obtain ⟨b, rfl, hx, q⟩ := h
  cases (show u = Value.bool b from ry)
  exact wpAny_is_other (plain_bl rx b) (value_of rx hx b) ⟨.bl false, H, I, rfl, q⟩
theorem op_isnotA : OpR X (compareOp .IsNot) (rIsA true) := by
  intro pins s σ H x y v u Q I rx ry h
  obtain ⟨b, rfl, hx, q⟩ := h
  cases (show u = Value.bool b from ry)
  exact wpAny_isNot_other (plain_bl rx b) (value_of rx hx b) ⟨.bl true, H, I, rfl, q⟩
theorem op_isB_ok : OpR X (compareOp .Is) (rdO2 (opIsB false)) := OpR.by fun x y H Q ⟨Z, m, dx, dy, rx, ry, M, h⟩ => by
  unfold opIsB at h
  split at h
  · rename_i a b
    rw [Bool.false_xor] at h
    exact ⟨_, op_isBl, a, b, rep_bl rx, rep_bl ry, fin_ok h M rep_blI⟩
  · rename_i b hn
    exact ⟨_, op_isA, b, rep_bl ry, fun c e => (rep_nbl rx (fun b' e' => hn b' e') c e).elim, fin_ok h M rep_blI⟩
  · exact h.elim
theorem op_isnotB_ok : OpR X (compareOp .IsNot) (rdO2 (opIsB true)) := OpR.by fun x y H Q ⟨Z, m, dx, dy, rx, ry, M, h⟩ => by
  unfold opIsB at h
  split at h
  · rename_i a b
    rw [Bool.true_xor] at h
    exact ⟨_, op_notBl, a, b, rep_bl rx, rep_bl ry, fin_ok h M rep_blI⟩
  · rename_i b hn
    exact ⟨_, op_isnotA, b, rep_bl ry, fun c e => (rep_nbl rx (fun b' e' => hn b' e') c e).elim, fin_ok h M rep_blI⟩
  · exact h.elim

/-! ### order -/
def cmpI (o : CmpOp) (i j : Int) : Option Bool := match o with
  | .Lt => some (decide (i < j))
  | .LtE => some (decide (i ≤ j))
  | .Gt => some (decide (j < i))
  | .GtE => some (decide (j ≤ i))
  | _ => none
mutual
def ordD (o : CmpOp) : D → D → Option Bool
  | .int i, .int j => cmpI o i j
  | .tup xs, .tup ys => ordL o xs ys
  | _, _ => none
def ordL (o : CmpOp) : List D → List D → Option Bool
  | [], ys => cmpI o 0 ys.length
  | x :: xs, [] => cmpI o (xs.length + 1) 0
  | x :: xs, y :: ys => match ordL o xs ys with | none => none | some c => if eqD x y then some c else ordD o x y
end
def opOrd (o : CmpOp) (x y : D) (m : Mem) : Res D := match x, y with
  | .int i, .int j => (match cmpI o i j with | some b => .ok (.bl b) m | none => .bad)
  | x, y => if sh 60 x && sh 60 y then (match ordD o x y with | some b => .ok (.bl b) m | none => .bad) else .bad
end
end PD
namespace PD
open PySem PySem.Spec L2
open PyProof.Rows hiding St

section
variable {X : Cx} {H : Hp} {Z : Zn} {m : Mem} {Q : VK} {d : D} {v : V} {pins : List (Addr × Obj)} {σ : St} {s : Shared}
theorem vals_at {xs : List V} {us : List Value} (r : Vals xs us) {j : Nat} (h1 : j < us.toArray.size) : ∃ v, xs[j]? = some v ∧ RelV v us.toArray[j] := by
  have hj : j < us.length := by simpa using h1
  have hj' : j < xs.length := by rw [r.length]; exact hj
  obtain ⟨u, e, ru⟩ := r.get (List.getElem?_eq_getElem hj')
  rw [List.getElem?_eq_getElem hj] at e
  cases e
  exact ⟨_, List.getElem?_eq_getElem hj', by simpa using ru⟩
theorem eq_at (I : Inv X pins σ H s) {x y : D} {xv yv : V} {xu yu : Value} {n : Nat} {A : Around} (sx : sh n x = true) (sy : sh n y = true) (rx : Rep H Z x xv) (ry : Rep H Z y yv) (ux : RelV xv xu) (uy : RelV yv yu) (hu : A.units + n < cLine) : SeqAt.EqAt A s xu yu (eqD x y) := by
  obtain ⟨as, r1⟩ := Dp.reads I _ _ _ (py_dp n x xv sx rx) ux
  obtain ⟨bs, r2⟩ := Dp.reads I _ _ _ (py_dp n y yv sy ry) uy
  obtain ⟨l1, d1⟩ := sh_lay n x sx
  obtain ⟨l2, d2⟩ := sh_lay n y sy
  exact SeqAt.eqAt_reads _ _ A s _ _ _ _ r1 r2 l1 l2 (by omega)
theorem shs_get {n : Nat} : ∀ {xs : List D} {j : Nat} {d : D}, shs n xs = true → xs[j]? = some d → sh n d = true
  | [], _, _, _, e => by simp at e
  | x :: xs, 0, d, s, e => by
    simp at e; subst e
    have s' : sh n x = true ∧ shs n xs = true := by simpa [shs] using s
    exact s'.1
  | x :: xs, j + 1, d, s, e => by
    have s' : sh n x = true ∧ shs n xs = true := by simpa [shs] using s
    exact shs_get s'.2 (by simpa using e)
theorem rc_int {o : CmpOp} {i j : Int} {b : Bool} {A : Around} {t u : Tok} (h : cmpI o i j = some b) : Ob.RcOp o A s (.int i t) (.int j u) b := by
  unfold cmpI at h
  split at h
  · cases h; exact Ob.RcOp.lt_int _ _ _ _
  · cases h; exact Ob.RcOp.le_int _ _ _ _
  · cases h; exact Ob.RcOp.gt_int _ _ _ _
  · cases h; exact Ob.RcOp.ge_int _ _ _ _
  · cases h
theorem rc_tup {o : CmpOp} {A : Around} {l b : Addr} {its its2 : Array Value} {e r : Nat → Bool} {z : Bool} (hl : s.heap.IsTuple l its) (hb : s.heap.IsTuple b its2) (hu : A.units < cLine)
    (he : ∀ j (h1 : j < its.size) (h2 : j < its2.size), SeqAt.EqAt A.in1 s its[j] its2[j] (e j)) (hr : ∀ j (h1 : j < its.size) (h2 : j < its2.size), e j = false → Ob.RcOp o A.in1 s its[j] its2[j] (r j))
    (hz : cmpI o its.size its2.size = some z) : Ob.RcOp o A s (.ref l) (.ref b) (Ob.lexAt e r z 0 (min its.size its2.size)) := by
  unfold cmpI at hz
  split at hz
  · have := Ob.RcOp.tuples_lt hl hb hu he hr
    have e' : z = decide (its.size < its2.size) := by
      have := Option.some.inj hz
      rw [← this]
      by_cases h : its.size < its2.size
      · rw [decide_eq_true h, decide_eq_true (by omega)]
      · rw [decide_eq_false h, decide_eq_false (by omega)]
    rw [e']; exact this
  · have := Ob.RcOp.tuples_le hl hb hu he hr
    have e' : z = decide (its.size ≤ its2.size) := by
      have := Option.some.inj hz
      rw [← this]
      by_cases h : its.size ≤ its2.size
      · rw [decide_eq_true h, decide_eq_true (by omega)]
      · rw [decide_eq_false h, decide_eq_false (by omega)]
    rw [e']; exact this
  · have := Ob.RcOp.tuples_gt hl hb hu he hr
    have e' : z = decide (its.size > its2.size) := by
      have := Option.some.inj hz
      rw [← this]
      by_cases h : its.size > its2.size
      · rw [decide_eq_true h, decide_eq_true (by omega)]
      · rw [decide_eq_false h, decide_eq_false (by omega)]
    rw [e']; exact this
  · have := Ob.RcOp.tuples_ge hl hb hu he hr
    have e' : z = decide (its.size ≥ its2.size) := by
      have := Option.some.inj hz
      rw [← this]
      by_cases h : its.size ≥ its2.size
      · rw [decide_eq_true h, decide_eq_true (by omega)]
      · rw [decide_eq_false h, decide_eq_false (by omega)]
    rw [e']; exact this
  · cases hz
theorem ordL_cons {o : CmpOp} {x y : D} {xs ys : List D} {b : Bool} (h : ordL o (x :: xs) (y :: ys) = some b) : ∃ c, ordL o xs ys = some c ∧ (if eqD x y then some c else ordD o x y) = some b := by
  have h : (match ordL o xs ys with | none => none | some c => if eqD x y then some c else ordD o x y) = some b := h
  cases e : ordL o xs ys with
  | none => rw [e] at h; cases h
  | some c => rw [e] at h; exact ⟨c, rfl, h⟩
theorem ordL_get {o : CmpOp} : ∀ {xs ys : List D} {b : Bool} {j : Nat} {x y : D}, ordL o xs ys = some b → xs[j]? = some x → ys[j]? = some y → eqD x y = false → ∃ c, ordD o x y = some c
  | [], _, _, _, _, _, _, e, _, _ => by simp at e
  | _ :: _, [], _, _, _, _, _, _, e, _ => by simp at e
  | x :: xs, y :: ys, b, 0, a, c, h, e1, e2, hf => by
    simp at e1 e2
    subst e1 e2
    obtain ⟨k, _, h2⟩ := ordL_cons h
    rw [hf] at h2
    exact ⟨b, by simpa using h2⟩
  | x :: xs, y :: ys, b, j + 1, a, c, h, e1, e2, hf => by
    obtain ⟨k, h1, _⟩ := ordL_cons h
    exact ordL_get h1 (by simpa using e1) (by simpa using e2) hf
/-- the first places that differ -/
theorem lex_ord {o : CmpOp} : ∀ (xs ys : List D) (b : Bool) (e r : Nat → Bool) (i : Nat) (z : Bool), ordL o xs ys = some b → cmpI o xs.length ys.length = some z →
    (∀ j x y, xs[j]? = some x → ys[j]? = some y → e (i + j) = eqD x y) → (∀ j x y, xs[j]? = some x → ys[j]? = some y → eqD x y = false → ∀ c, ordD o x y = some c → r (i + j) = c) →
    Ob.lexAt e r z i (min xs.length ys.length) = b
  | [], ys, b, e, r, i, z, h, hz, _, _ => by
    rw [List.length_nil, Nat.zero_min]
    have h : cmpI o 0 ys.length = some b := h
    have hz : cmpI o ((0 : Nat) : Int) ys.length = some z := hz
    have : some b = some z := by rw [← h, ← hz]; rfl
    rw [Ob.lexAt_zero]
    exact (Option.some.inj this).symm
  | x :: xs, [], b, e, r, i, z, h, hz, _, _ => by
    rw [List.length_nil, Nat.min_zero]
    have h : cmpI o (xs.length + 1) 0 = some b := h
    have hz : cmpI o ((xs.length + 1 : Nat) : Int) ((0 : Nat) : Int) = some z := hz
    have : some b = some z := by rw [← h, ← hz]; rfl
    rw [Ob.lexAt_zero]
    exact (Option.some.inj this).symm
  | x :: xs, y :: ys, b, e, r, i, z, h, hz, he, hr => by
    obtain ⟨c, h1, h2⟩ := ordL_cons h
    rw [List.length_cons, List.length_cons, show min (xs.length + 1) (ys.length + 1) = min xs.length ys.length + 1 by omega, Ob.lexAt_succ]
    have e0 := he 0 x y rfl rfl
    rw [Nat.add_zero] at e0
    rw [e0]
    by_cases q : eqD x y = true
    · rw [if_pos q] at h2 ⊢
      cases h2
      refine lex_ord xs ys b e r (i + 1) z h1 ?_ (fun j a c h1 h2 => by rw [Nat.add_assoc, Nat.add_comm 1 j]; exact he (j + 1) a c (by simpa using h1) (by simpa using h2)) fun j a c h1 h2 h3 k h4 => by rw [Nat.add_assoc, Nat.add_comm 1 j]; exact hr (j + 1) a c (by simpa using h1) (by simpa using h2) h3 k h4
      rw [← hz]
      rw [List.length_cons, List.length_cons]
      cases o <;> first | rfl | (simp only [cmpI]; congr 1; exact decide_eq_decide.mpr (by omega))
    · rw [if_neg q] at h2 ⊢
      have := hr 0 x y rfl rfl (by simpa using q) b h2
      rw [Nat.add_zero] at this
      exact this
theorem ordD_run (I : Inv X pins σ H s) {o : CmpOp} (hO : ∀ i j, ∃ z, cmpI o i j = some z) : ∀ (n : Nat) (x y : D) (A : Around) (xv yv : V) (xu yu : Value) (b : Bool), sh n x = true → sh n y = true → Rep H Z x xv → Rep H Z y yv → RelV xv xu → RelV yv yu → A.units + n < cLine → ordD o x y = some b → Ob.RcOp o A s xu yu b
  | n, x, y, A, xv, yv, xu, yu, b, sx, sy, rx, ry, ux, uy, hu, h => by
    unfold ordD at h
    split at h
    · simp only [Rep] at rx ry
      subst rx ry
      obtain ⟨t, rfl⟩ := ux
      obtain ⟨u, rfl⟩ := uy
      exact rc_int h
    · rename_i xs ys
      simp only [Rep] at rx ry
      obtain ⟨a, vs, rfl, r1, o1, rs1⟩ := rx
      obtain ⟨c, us, rfl, r2, o2, rs2⟩ := ry
      cases ux
      cases uy
      cases n with
      | zero => simp [sh] at sx
      | succ n =>
        have sx' : shs n xs = true := by simpa [sh] using sx
        have sy' : shs n ys = true := by simpa [sh] using sy
        obtain ⟨its, q1, p1, _⟩ := I.tuple (show SqT X.K H a vs from .inl r1)
        obtain ⟨its2, q2, p2, _⟩ := I.tuple (show SqT X.K H c us from .inl r2)
        have l1 : its.toArray.size = xs.length := by rw [List.size_toArray, ← q1.length, ← reps_len rs1]
        have l2 : its2.toArray.size = ys.length := by rw [List.size_toArray, ← q2.length, ← reps_len rs2]
        obtain ⟨z, hz⟩ := hO xs.length ys.length
        have hU : A.in1.units = A.units + 1 := rfl
        have key := rc_tup (o := o) (A := A) (s := s) (e := fun j => eqD (xs.getD j .non) (ys.getD j .non)) (r := fun j => (ordD o (xs.getD j .non) (ys.getD j .non)).getD false) p1 p2 (by omega) (fun j h1 h2 => ?_) (fun j h1 h2 he => ?_) (by rw [l1, l2]; exact hz)
        · rw [l1, l2] at key
          rw [lex_ord xs ys b _ _ 0 z h hz (fun j x y e1 e2 => by simp [List.getD, e1, e2]) (fun j x y e1 e2 _ k hk => by simp [List.getD, e1, e2, hk])] at key
          exact key
        · obtain ⟨v1, g1, w1⟩ := vals_at q1 h1
          obtain ⟨v2, g2, w2⟩ := vals_at q2 h2
          obtain ⟨d1, f1, k1⟩ := reps_get' rs1 g1
          obtain ⟨d2, f2, k2⟩ := reps_get' rs2 g2
          simp only [List.getD, f1, f2, Option.getD_some]
          exact eq_at I (shs_get sx' f1) (shs_get sy' f2) k1 k2 w1 w2 (by omega)
        · obtain ⟨v1, g1, w1⟩ := vals_at q1 h1
          obtain ⟨v2, g2, w2⟩ := vals_at q2 h2
          obtain ⟨d1, f1, k1⟩ := reps_get' rs1 g1
          obtain ⟨d2, f2, k2⟩ := reps_get' rs2 g2
          simp only [List.getD, f1, f2, Option.getD_some] at he ⊢
          obtain ⟨k, hk⟩ := ordL_get h f1 f2 he
          rw [hk]
          exact ordD_run I hO n d1 d2 A.in1 v1 v2 _ _ k (shs_get sx' f1) (shs_get sy' f2) k1 k2 w1 w2 (by omega) hk
    · cases h
def rOrd (o : CmpOp) : R2 := fun x y H Q => ∃ Z dx dy b, Rep H Z dx x ∧ Rep H Z dy y ∧ sh 60 dx = true ∧ sh 60 dy = true ∧ ordD o dx dy = some b ∧ Q (.bl b) H
theorem op_ordT {o : CmpOp} (hO : ∀ i j, ∃ z, cmpI o i j = some z) (hc : ∀ x y : Value, compareOp o x y = richCompare o x y) (hu : X.A.units + 64 < cLine) : OpR X (compareOp o) (rOrd o) := by
  intro pins s σ H x y v u Q I rx ry h
  obtain ⟨Z, dx, dy, b, r1, r2, s1, s2, ho, q⟩ := h
  rw [hc]
  exact ordD_run I hO 60 dx dy X.A x y v u b s1 s2 r1 r2 rx ry (by omega) ho X.prog X.w _ _ ⟨.bl b, H, I, rfl, q⟩
theorem op_ord_any {o : CmpOp} (hO : ∀ i j, ∃ z, cmpI o i j = some z) (hc : ∀ x y : Value, compareOp o x y = richCompare o x y) (hu : X.A.units + 64 < cLine) : OpR X (compareOp o) (rdO2 (opOrd o)) := OpR.by fun x y H Q ⟨Z, m, dx, dy, rx, ry, M, h⟩ => by
  refine ⟨_, op_ordT hO hc hu, ?_⟩
  unfold opOrd at h
  split at h
  · rename_i i j
    obtain ⟨z, hz⟩ := hO i j
    rw [hz] at h
    exact ⟨Z, _, _, z, rx, ry, rfl, rfl, hz, fin_ok h M rep_blI⟩
  · split at h
    · rename_i hs
      rw [Bool.and_eq_true] at hs
      cases e : ordD o dx dy with
      | none => rw [e] at h; exact h.elim
      | some b => rw [e] at h; exact ⟨Z, _, _, b, rx, ry, hs.1, hs.2, e, fin_ok h M rep_blI⟩
    · exact h.elim
theorem op_lt_ok (hu : X.A.units + 64 < cLine) : OpR X (compareOp .Lt) (rdO2 (opOrd .Lt)) := op_ord_any (fun _ _ => ⟨_, rfl⟩) (fun _ _ => rfl) hu
theorem op_le_ok (hu : X.A.units + 64 < cLine) : OpR X (compareOp .LtE) (rdO2 (opOrd .LtE)) := op_ord_any (fun _ _ => ⟨_, rfl⟩) (fun _ _ => rfl) hu
theorem op_gt_ok (hu : X.A.units + 64 < cLine) : OpR X (compareOp .Gt) (rdO2 (opOrd .Gt)) := op_ord_any (fun _ _ => ⟨_, rfl⟩) (fun _ _ => rfl) hu
theorem op_ge_ok (hu : X.A.units + 64 < cLine) : OpR X (compareOp .GtE) (rdO2 (opOrd .GtE)) := op_ord_any (fun _ _ => ⟨_, rfl⟩) (fun _ _ => rfl) hu

/-! ### subscripts, slices -/
def ixD (xs : List D) (i : Int) : Option D := atI xs i
def opIx (x y : D) (m : Mem) : Res D := match deref m x, y with
  | .tup xs, .int i => (match atI xs i with | some d => .ok d m | none => .bad)
  | .lst xs, .int i => (match atI xs i with | some d => .ok d m | none => .bad)
  | _, _ => .bad
theorem reps_atI {xs : List D} {vs : List V} {i : Int} {d : D} (r : Reps H Z xs vs) (e : atI xs i = some d) : ∃ v, atI vs i = some v ∧ Rep H Z d v := by
  unfold atI at e ⊢
  rw [← reps_len r]
  cases h : ixN xs.length i with
  | none => rw [h] at e; cases e
  | some j =>
    rw [h] at e
    exact reps_get r e
theorem IxR.by {r : R2} (h : ∀ x y H Q, r x y H Q → ∃ r', IxR X r' ∧ r' x y H Q) : IxR X r := fun value slice pins s σ H x y v u Q I rx ry q hs =>
  let ⟨_, o, q'⟩ := h x y H Q q
  o value slice pins s σ H x y v u Q I rx ry q' hs
theorem ix_ok : IxR X (rdO2 opIx) := IxR.by fun x y H Q ⟨Z, m, dx, dy, rx, ry, M, h⟩ => by
  unfold opIx at h
  cases dx with
  | tup xs =>
    cases dy with
    | int i =>
      simp only [deref] at h
      simp only [Rep] at rx
      obtain ⟨a, vs, e, r, o, rs⟩ := rx
      split at h
      · rename_i d ed
        obtain ⟨v, ev, rv⟩ := reps_atI rs ed
        exact ⟨_, ix_tup, a, vs, i, v, e, rep_int ry, .inl r, ev, fin_ok h M rv⟩
      · exact h.elim
    | _ => exact h.elim
  | lst xs =>
    cases dy with
    | int i =>
      simp only [deref] at h
      simp only [Rep] at rx
      obtain ⟨a, vs, e, r, o, rs⟩ := rx
      split at h
      · rename_i d ed
        obtain ⟨v, ev, rv⟩ := reps_atI rs ed
        exact ⟨_, ix_list, a, vs, i, v, e, rep_int ry, .inl (.inl r), ev, fin_ok h M rv⟩
      · exact h.elim
    | _ => exact h.elim
  | ref n =>
    simp only [Rep] at rx
    obtain ⟨a, ea, e⟩ := rx
    simp only [deref] at h
    cases em : m[n]? with
    | none => rw [em] at h; exact h.elim
    | some o =>
      rw [em] at h
      cases o with
      | dct lk kvs => exact h.elim
      | lst xs =>
        cases dy with
        | int i =>
          simp only at h
          obtain ⟨vs, hv, rs⟩ := M.obj n a _ ea em
          split at h
          · rename_i d ed
            obtain ⟨v, ev, rv⟩ := reps_atI rs ed
            exact ⟨_, ix_list, a, vs, i, v, e, rep_int ry, .inl (.inl hv), ev, fin_ok h M rv⟩
          · exact h.elim
        | _ => exact h.elim
  | _ => exact h.elim
variable {W : WX} {pos p2 : Pos} {a b : Expr} {fa fb : EF}
def eIx (a b : EF) : EF := eOp opIx a b
theorem e_ix (ha : E X W a fa) (hb : E X W b fb) (hs : PlainIx b := by intro _ _; rfl) : E X W (.Subscript a b pos) (eIx fa fb) := PE.imp (pe_ix ix_ok ha hb hs) fun _ _ _ h => rd_op h
end
end PD
namespace PD
open PySem PySem.Spec L2
open PyProof.Rows hiding St

/-! ### t[::-1] of a tuple -/
section
open HT
variable {prog : Program} {w : World} {A : Around} {E : Value → Shared → Prop} {s : Shared}
theorem pick_rev (xs : Array Value) : ((List.range xs.size).filterMap fun (m : Nat) => xs[(((xs.size : Int) - 1) + (m : Int) * (-1)).toNat]?).toArray = xs.toList.reverse.toArray := by
  congr 1
  apply List.ext_getElem?
  intro i
  have e : (fun (m : Nat) => xs[(((xs.size : Int) - 1) + (m : Int) * (-1)).toNat]?) = fun (m : Nat) => xs.toList[(((xs.size : Int) - 1) + (m : Int) * (-1)).toNat]? := by
    funext m; rw [Array.getElem?_toList]
  rw [e]
  have hl : xs.size = xs.toList.length := by simp
  rw [hl]
  generalize xs.toList = l
  have key : (List.range l.length).filterMap (fun (m : Nat) => l[(((l.length : Int) - 1) + (m : Int) * (-1)).toNat]?) = l.reverse := by
    have h1 : ∀ m ∈ List.range l.length, l[(((l.length : Int) - 1) + (m : Int) * (-1)).toNat]? = some (l.reverse.getD m .none) := by
      intro m hm
      have hm : m < l.length := List.mem_range.mp hm
      have : (((l.length : Int) - 1) + (m : Int) * (-1)).toNat = l.length - 1 - m := by omega
      rw [this]
      rw [List.getD, List.getElem?_reverse hm]
      rw [List.getElem?_eq_getElem (by omega)]
      rfl
    have h2 : ∀ (ms : List Nat), (∀ m ∈ ms, l[(((l.length : Int) - 1) + (m : Int) * (-1)).toNat]? = some (l.reverse.getD m .none)) → ms.filterMap (fun (m : Nat) => l[(((l.length : Int) - 1) + (m : Int) * (-1)).toNat]?) = ms.map fun m => l.reverse.getD m .none := by
      intro ms
      induction ms with
      | nil => intro _; rfl
      | cons m ms ih =>
        intro h
        rw [List.filterMap_cons, h m List.mem_cons_self, List.map_cons, ih fun k hk => h k (List.mem_cons_of_mem _ hk)]
    rw [h2 _ h1]
    apply List.ext_getElem?
    intro j
    by_cases hj : j < l.length
    · rw [List.getElem?_map, List.getElem?_range hj]
      simp [List.getD, hj]
    · rw [List.getElem?_eq_none (by simp; omega), List.getElem?_eq_none (by simp; omega)]
  rw [key]
theorem sliceApplied_rev {sl : Addr} {vs : Value} {n : Nat} {Q : Int × Int × Nat → Shared → Prop} (hs : s.heap.IsSliceOf sl .none .none vs) (ps : IsPart vs (some (-1))) (hq : Q ((n : Int) - 1, -1, n) s) : wpAny (model prog w) A (Builtin.Slice.sliceApplied (.ref sl) (pure (n : Int))) Q E s := by
  obtain ⟨os, hos, hcs, hds⟩ := id hs
  unfold Builtin.Slice.sliceApplied Builtin.Slice.sliceFields
  refine wpAny_bind (wpAny_bind (wpAny_field hos hds (x := .none) rfl (wpAny_bind (wpAny_field hos hds (x := .none) rfl (wpAny_bind (wpAny_field hos hds (x := vs) rfl (wpAny_pure ?_)))))))
  refine wpAny_bind (slicePart_ ps ?_)
  show wpAny _ _ (if ((-1 : Int) == 0) = true then _ else _) _ _ s
  rw [if_neg (by decide)]
  refine wpAny_bind (slicePart_ .none (wpAny_bind (slicePart_ .none (wpAny_bind (wpAny_pure ?_)))))
  show wpAny _ _ (match Builtin.Slice.sliceAdjust none none (-1) (n : Int) with | (lo, hi) => pure (lo, (-1 : Int), Builtin.Slice.slicePlaces lo hi (-1))) _ _ s
  have ea : Builtin.Slice.sliceAdjust none none (-1) (n : Int) = ((n : Int) - 1, -1) := by
    first | rfl | (unfold Builtin.Slice.sliceAdjust; simp)
  rw [ea]
  show wpAny _ _ (pure ((n : Int) - 1, (-1 : Int), Builtin.Slice.slicePlaces ((n : Int) - 1) (-1) (-1))) _ _ s
  have ep : Builtin.Slice.slicePlaces ((n : Int) - 1) (-1) (-1) = n := by
    unfold Builtin.Slice.slicePlaces
    simp
    try omega
  rw [ep]
  exact wpAny_pure hq
theorem getItem_tuple_rev {t sl : Addr} {items : Array Value} {vs : Value} {Q : Value → Shared → Prop} (ht : IsTup s.heap t items) (hs : s.heap.IsSliceOf sl .none .none vs) (ps : IsPart vs (some (-1)))
    (h : Q (.ref s.heap.objs.size) { s with heap := s.heap.push { cls := .type "tuple", data := .seq items.toList.reverse.toArray } })
    (hsz : items.size ≤ sizeLine) : wpAny (model prog w) A (getItem (.ref t) (.ref sl)) Q E s := by
  have htake : sizeOk (.seq items.toList.reverse.toArray) := by
    show items.toList.reverse.toArray.size ≤ sizeLine
    rw [List.size_toArray, List.length_reverse, Array.length_toList]
    exact hsz
  obtain ⟨os, hos, hcs, hds⟩ := id hs
  have hTs : s.TypeIs (.ref sl) "slice" := ⟨os, hos, hcs⟩
  unfold getItem
  try with_reducible refine wpAny_holding ?_
  first | refine wpAny_bind (wpAny_pure ?_) | skip
  refine wpAny_bind (wpAny_sequenceKey ht.typeIs (by decide) ?_)
  refine wpAny_bind (wpAny_callSpecial?_slot (name := Str.ofString "__getitem__") ht.typeIs PyProof.Rows.slot_tuple_getitem
    (wpAny_call_entry PyProof.Rows.slot_tuple_getitem ht.typeIs entry_tuple_getitem ?_ (args_tuple_getitem _ _)))
  show wpAny _ _ (Builtin.Tuple.tupleItemsOf (.ref t) >>= _) _ _ s
  refine wpAny_bind (tupleItemsOf_ ht ?_)
  refine wpAny_bind (wpAny_typeOf hTs ?_)
  rw [if_pos (by decide)]
  refine wpAny_bind (sliceApplied_rev hs ps ?_)
  have hno : ¬ ((((items.size : Int) - 1) == 0 && (-1 : Int) == 1 && items.size == items.size) = true) := by
    intro q
    rw [Bool.and_eq_true, Bool.and_eq_true] at q
    exact absurd q.1.2 (by decide)
  show wpAny _ _ (if (((items.size : Int) - 1) == 0 && (-1 : Int) == 1 && items.size == items.size) = true then _ else _) _ _ s
  rw [if_neg hno, pick_rev]
  first
    | exact wpAny_bind (m := Builtin.Tuple.tupleExact _) (wpAny_newObj_type (wpAny_pure ⟨_, rfl, wpAny_pure h⟩) htake)
    | exact wpAny_bind (m := Builtin.Tuple.tupleExact _) (wpAny_newObj_type (wpAny_bind (wpAny_pure (wpAny_pure ⟨_, rfl, wpAny_pure h⟩))) htake)
    | exact wpAny_bind (wpAny_bind (m := Builtin.Tuple.tupleExact _) (wpAny_newObj_type (wpAny_pure (wpAny_pure ⟨_, rfl, wpAny_pure h⟩)) htake))
    | exact wpAny_bind (wpAny_bind (m := Builtin.Tuple.tupleExact _) (wpAny_newObj_type (wpAny_pure ⟨_, rfl, wpAny_pure h⟩) htake))
end
section
variable {X : Cx}
def tRevT (K : PySem.W.Frag) (te : TE) : TE := fun σ H Q => te σ H fun x H1 => ∃ a xs, x = .ref a ∧ SqT K H1 a xs ∧ ∀ p, H1 p = none → Q (.ref p) (upd H1 p (.tup xs.reverse))
theorem pe_revT {e : Expr} {te : TE} {k : Nat} {p1 p2 p3 pos : Pos} (he : PE X e te) : PE X (.Subscript e (.Slice none none (some (.UnaryOp .USub (.Constant (.int 1) k p1) p2)) p3) pos) (tRevT X.K te) := by
  refine ⟨fun pins s σ H Q I h => ?_⟩
  refine Subscript_ (thn (he.run pins s σ H _ I h) fun v s1 ⟨x, H1, I1, r1, q1⟩ => ?_)
  obtain ⟨a, xs, ex, hx, q⟩ := q1
  subst ex
  cases r1
  have hst : PO X (some (.UnaryOp .USub (.Constant (.int 1) k p1) p2)) (tPart (tUn (rU fun i => .int (-i)) (tC (.int 1)))) := po_some (pe_un un_neg pe_int)
  refine wpAny_Slice (thn (po_none.run pins s1 σ H1 (fun o H2 => o = none ∧ H2 = H1) I1 ⟨rfl, rfl⟩) fun vl s2 ⟨l, H2, I2, pl, el, e2⟩ => ?_)
  subst el e2
  refine thn (po_none.run pins s2 σ H2 (fun o H3 => o = none ∧ H3 = H2) I2 ⟨rfl, rfl⟩) fun vu s3 ⟨u, H3, I3, pu, eu, e3⟩ => ?_
  subst eu e3
  refine thn (hst.run pins s3 σ H3 (fun o H4 => o = some (-1) ∧ H4 = H3) I3 ⟨1, rfl, -1, rfl, rfl, rfl⟩) fun vs s4 ⟨o, H4, I4, ps, eo, e4⟩ => ?_
  subst eo e4
  cases pl
  cases pu
  have I5 : Inv X pins σ H4 { s4 with heap := s4.heap.push { cls := .type "slice", data := .fields #[.none, .none, vs] } } := I4.kept (t' := s4.toks) fun b ob q => Heap.get?_push_of_some _ q
  obtain ⟨its, r, ht, hz⟩ := I5.tuple hx
  have hlen := r.length
  show wpAny (model X.prog X.w) X.A (subscriptTail e (.Slice none none (some (.UnaryOp .USub (.Constant (.int 1) k p1) p2)) p3) (.ref a) (.ref s4.heap.objs.size)) (EP X pins σ Q) X.xe { s4 with heap := s4.heap.push { cls := .type "slice", data := .fields #[.none, .none, vs] } }
  refine tail_any (ops := [.ref a, .ref s4.heap.objs.size]) ht.typeIs (PyProof.Rows.slot_tuple_getitem.lookup) ?_ (by with_unfolding_all rfl)
  refine getItem_tuple_rev ht (Heap.IsSliceOf.new _ .none .none vs) ps ?_ (by rw [List.size_toArray]; omega)
  refine ⟨.ref _, _, I5.laid (t' := s4.toks) (o := .tup xs.reverse) (fun b ob q => Heap.get?_push_of_some _ q) (Nat.le_refl _) ?_, rfl, q _ (I5.hok.fresh (Nat.le_refl _))⟩
  exact ⟨by rw [List.length_reverse]; exact hz, _, r.reverse, IsTup.new _ _⟩
end
end PD
namespace PD
open PySem PySem.Spec L2
open PyProof.Rows hiding St

section
variable {X : Cx} {W : WX} {H : Hp} {Z : Zn} {m : Mem} {Q : VK} {d : D} {v : V} {pos p2 : Pos} {e : Expr} {fe : EF} {lo hi : Option Expr}
/-! ### slices -/
abbrev PF := Sg → Mem → Res (Option Int)
def rdP (X : Cx) (W : WX) (f : PF) : TO := fun σ H Q => ∃ Z σd m, SRep H Z σd σ ∧ MRep H Z m ∧ Fin X W σ H Z (f σd m) fun o _ H' _ => Q o H'
abbrev P1 (X : Cx) (W : WX) (e : Option Expr) (f : PF) : Prop := PO X e (rdP X W f)
theorem PO.imp {e : Option Expr} {t t' : TO} (h : PO X e t) (k : ∀ σ H Q, t' σ H Q → t σ H Q) : PO X e t' := ⟨fun pins s σ H Q I q => h.run pins s σ H Q I (k σ H Q q)⟩
def pNone : PF := fun _ m => .ok none m
def pSome (f : EF) : PF := fun σ m => (f σ m).bind fun d m => match d with | .int i => .ok (some i) m | _ => .bad
theorem p_none : P1 X W none pNone := PO.imp po_none fun σ H Q ⟨Z, σd, m, S, M, h⟩ => h H Z (.refl _ _) M
theorem p_some (h : E X W e fe) : P1 X W (some e) (pSome fe) := PO.imp (po_some h) fun σ H Q ⟨Z, σd, m, S, M, h⟩ => by
  refine ⟨Z, σd, m, S, M, (Fin.bind h).mono fun d m1 H1 Z1 x1 M1 h1 v r => ?_⟩
  cases d with
  | int i => exact ⟨i, rep_int r, h1 H1 Z1 (.refl _ _) M1⟩
  | _ => exact h1.elim
def cutD (xs : List D) (lo hi : Option Int) : List D := (xs.drop (HT.sIx xs.length 0 lo)).take (HT.sIx xs.length xs.length hi - HT.sIx xs.length 0 lo)
theorem reps_cut {xs : List D} {vs : List V} {lo hi : Option Int} (r : Reps H Z xs vs) : Reps H Z (cutD xs lo hi) (cutV vs lo hi) := by
  unfold cutD cutV
  rw [reps_len r]
  exact reps_take _ (reps_drop _ r)
theorem cut_whole {xs : List D} {lo hi : Option Int} (h1 : HT.sIx xs.length 0 lo = 0) (h2 : HT.sIx xs.length xs.length hi = xs.length) : cutD xs lo hi = xs := by
  unfold cutD
  rw [h1, h2]
  simp
def opSl (nw : Bool) (x : D) (lo hi : Option Int) (m : Mem) : Res D := match deref m x with
  | .tup xs => newT (cutD xs lo hi) m
  | .lst xs => newL nw (cutD xs lo hi) m
  | _ => .bad
def rdSl (op : D → Option Int → Option Int → Mem → Res D) : V → Option Int → Option Int → Hp → VK → Prop := fun x lo hi H Q => ∃ Z m dx, Rep H Z dx x ∧ MRep H Z m ∧ FinO H Z (op dx lo hi m) Q
theorem SlR.by {r : V → Option Int → Option Int → Hp → VK → Prop} (h : ∀ x lo hi H Q, r x lo hi H Q → ∃ r', SlR X r' ∧ r' x lo hi H Q) : SlR X r := fun pins s σ H x v vl vu lo hi sl Q I rx hs pl pu q =>
  let ⟨_, o, q'⟩ := h x lo hi H Q q
  o pins s σ H x v vl vu lo hi sl Q I rx hs pl pu q'
theorem sl_ok {nw : Bool} : SlR X (rdSl (opSl nw)) := SlR.by fun x lo hi H Q ⟨Z, m, dx, rx, M, h⟩ => by
  unfold opSl at h
  cases dx with
  | tup xs =>
    simp only [deref] at h
    have rx' := rx
    simp only [Rep] at rx
    obtain ⟨a, vs, e, r, o, rs⟩ := rx
    have hf := fin_newT h M (reps_cut rs)
    refine ⟨_, sl_tupA, a, vs, e, .inl r, fun hw => ?_, fun _ => hf.2⟩
    rw [← reps_len rs] at hw
    rw [cut_whole hw.1 hw.2] at h
    unfold newT at h
    split at h
    · rw [e] at rx'
      exact h H Z _ (.refl _ _) M rx'
    · exact h.elim
  | lst xs =>
    simp only [deref] at h
    simp only [Rep] at rx
    obtain ⟨a, vs, e, r, o, rs⟩ := rx
    exact ⟨_, sl_list, a, vs, e, .inl (.inl r), (fin_newL h M (reps_cut rs)).2⟩
  | ref n =>
    simp only [Rep] at rx
    obtain ⟨a, ea, e⟩ := rx
    simp only [deref] at h
    cases em : m[n]? with
    | none => rw [em] at h; exact h.elim
    | some o =>
      rw [em] at h
      cases o with
      | dct lk kvs => exact h.elim
      | lst xs =>
        obtain ⟨vs, hv, rs⟩ := M.obj n a _ ea em
        exact ⟨_, sl_list, a, vs, e, .inl (.inl hv), (fin_newL h M (reps_cut rs)).2⟩
  | _ => exact h.elim
def eSl (nw : Bool) (a : EF) (lo hi : PF) : EF := fun σ m => (a σ m).bind fun x m => (lo σ m).bind fun l m => (hi σ m).bind fun u m => noexc (opSl nw x l u m)
theorem e_sl {nw : Bool} {fl fh : PF} (he : E X W e fe) (hl : P1 X W lo fl) (hh : P1 X W hi fh) : E X W (.Subscript e (.Slice lo hi none p2) pos) (eSl nw fe fl fh) := by
  refine PE.imp (pe_slice (sl_ok (nw := nw)) he hl hh) fun σ H Q ⟨Z, σd, m, S, M, h⟩ => ?_
  refine ⟨Z, σd, m, S, M, (Fin.bind h).mono fun x m1 H1 Z1 x1 M1 h1 v r => ?_⟩
  refine ⟨Z1, σd, m1, S.ext x1, M1, (Fin.bind h1).mono fun l m2 H2 Z2 x2 M2 h2 => ?_⟩
  refine ⟨Z2, σd, m2, (S.ext x1).ext x2, M2, (Fin.bind h2).mono fun u m3 H3 Z3 x3 M3 h3 => ?_⟩
  exact ⟨Z3, m3, x, Rep.ext (x2.trans x3) _ _ r, M3, FinO.of h3⟩
/-- x[::-1] -/
def opRev (nw : Bool) (x : D) (m : Mem) : Res D := match deref m x with
  | .tup xs => newT xs.reverse m
  | .lst xs => newL nw xs.reverse m
  | _ => .bad
def eRev (nw : Bool) (a : EF) : EF := fun σ m => (a σ m).bind fun x m => noexc (opRev nw x m)
theorem PE.by {e : Expr} {t : TE} (h : ∀ σ H Q, t σ H Q → ∃ t', PE X e t' ∧ t' σ H Q) : PE X e t := ⟨fun pins s σ H Q I q => let ⟨_, h', q'⟩ := h σ H Q q; h'.run pins s σ H Q I q'⟩
theorem e_rev {nw : Bool} {k : Nat} {p1 p2 p3 pos : Pos} (he : E X W e fe) : E X W (.Subscript e (.Slice none none (some (.UnaryOp .USub (.Constant (.int 1) k p1) p2)) p3) pos) (eRev nw fe) := by
  refine PE.by fun σ H Q ⟨Z, σd, m, S, M, h⟩ => ?_
  have h2 := Fin.bind h
  cases ef : fe σd m with
  | bad => rw [ef] at h2; exact h2.elim
  | exc c m1 => exact ⟨_, pe_revT he, Z, σd, m, S, M, by rw [ef] at h2 ⊢; exact h2⟩
  | ok d m1 =>
    rw [ef] at h2
    cases d with
    | tup xs =>
      refine ⟨_, pe_revT he, Z, σd, m, S, M, ?_⟩
      rw [ef]
      intro H1 Z1 x1 M1 v r
      simp only [Rep] at r
      obtain ⟨a, vs, e, r, o, rs⟩ := r
      exact ⟨a, vs, e, .inl r, (fin_newT (FinO.of (h2 H1 Z1 x1 M1)) M1 (reps_rev rs)).2⟩
    | lst xs =>
      refine ⟨_, pe_revL he, Z, σd, m, S, M, ?_⟩
      rw [ef]
      intro H1 Z1 x1 M1 v r
      simp only [Rep] at r
      obtain ⟨a, vs, e, r, o, rs⟩ := r
      exact ⟨a, vs, e, .inl (.inl r), (fin_newL (FinO.of (h2 H1 Z1 x1 M1)) M1 (reps_rev rs)).2⟩
    | ref n =>
      refine ⟨_, pe_revL he, Z, σd, m, S, M, ?_⟩
      rw [ef]
      intro H1 Z1 x1 M1 v r
      simp only [Rep] at r
      obtain ⟨a, ea, e⟩ := r
      have h3 := FinO.of (h2 H1 Z1 x1 M1)
      simp only [opRev, deref] at h3
      cases em : m1[n]? with
      | none => rw [em] at h3; exact h3.elim
      | some o =>
        rw [em] at h3
        cases o with
        | dct lk kvs => exact h3.elim
        | lst xs =>
          obtain ⟨vs, hv, rs⟩ := M1.obj n a _ ea em
          exact ⟨a, vs, e, .inl (.inl hv), (fin_newL h3 M1 (reps_rev rs)).2⟩
    | non => exact ⟨_, pe_revT he, Z, σd, m, S, M, by rw [ef]; exact fun H1 Z1 x1 M1 => (h2 H1 Z1 x1 M1).elim⟩
    | bl b => exact ⟨_, pe_revT he, Z, σd, m, S, M, by rw [ef]; exact fun H1 Z1 x1 M1 => (h2 H1 Z1 x1 M1).elim⟩
    | int b => exact ⟨_, pe_revT he, Z, σd, m, S, M, by rw [ef]; exact fun H1 Z1 x1 M1 => (h2 H1 Z1 x1 M1).elim⟩
    | str b => exact ⟨_, pe_revT he, Z, σd, m, S, M, by rw [ef]; exact fun H1 Z1 x1 M1 => (h2 H1 Z1 x1 M1).elim⟩
    | adr b => exact ⟨_, pe_revT he, Z, σd, m, S, M, by rw [ef]; exact fun H1 Z1 x1 M1 => (h2 H1 Z1 x1 M1).elim⟩
    | scr b => exact ⟨_, pe_revT he, Z, σd, m, S, M, by rw [ef]; exact fun H1 Z1 x1 M1 => (h2 H1 Z1 x1 M1).elim⟩

/-! ### list + list, list * int -/
/-- what a list's value is, read -/
theorem lst_of (M : MRep H Z m) {x : D} (r : Rep H Z x v) {xs : List D} (e : deref m x = .lst xs) : ∃ a vs, v = .ref a ∧ H a = some (.lst vs) ∧ Reps H Z xs vs := by
  cases x with
  | lst ys =>
    simp only [deref] at e
    cases e
    simp only [Rep] at r
    obtain ⟨a, vs, e, r, o, rs⟩ := r
    exact ⟨a, vs, e, r, rs⟩
  | ref n =>
    simp only [Rep] at r
    obtain ⟨a, ea, ev⟩ := r
    simp only [deref] at e
    cases em : m[n]? with
    | none => rw [em] at e; cases e
    | some o =>
      rw [em] at e
      cases o with
      | dct lk kvs => cases e
      | lst ys =>
        cases e
        obtain ⟨vs, hv, rs⟩ := M.obj n a _ ea em
        exact ⟨a, vs, ev, hv, rs⟩
  | _ => simp only [deref] at e; cases e
def opCat (nw : Bool) (x y : D) (m : Mem) : Res D := match deref m x, deref m y with
  | .lst xs, .lst ys => newL nw (xs ++ ys) m
  | _, _ => .bad
theorem op_cat_ok {nw : Bool} : OpR X (binaryOp .Add) (rdO2 (opCat nw)) := OpR.by fun x y H Q ⟨Z, m, dx, dy, rx, ry, M, h⟩ => by
  unfold opCat at h
  split at h
  · rename_i xs ys e1 e2
    obtain ⟨a, vs, ev, hv, rs⟩ := lst_of M rx e1
    obtain ⟨b, us, eu, hu, rs'⟩ := lst_of M ry e2
    have hf := fin_newL h M (reps_app rs rs')
    exact ⟨_, op_cat, a, b, vs, us, ev, eu, hv, hu, by rw [← List.length_append]; exact hf.1, hf.2⟩
  · exact h.elim
def repD (xs : List D) (k : Nat) : List D := (List.replicate k xs).flatten
theorem reps_rep {xs : List D} {vs : List V} (r : Reps H Z xs vs) : ∀ k : Nat, Reps H Z (repD xs k) (List.replicate k vs).flatten
  | 0 => by simp [repD, Reps]
  | k + 1 => by
    show Reps H Z (List.replicate (k + 1) xs).flatten (List.replicate (k + 1) vs).flatten
    rw [List.replicate_succ, List.replicate_succ, List.flatten_cons, List.flatten_cons]
    exact reps_app r (reps_rep r k)
def opRep (nw : Bool) (x y : D) (m : Mem) : Res D := match deref m x, y with
  | .lst xs, .int k => if bnd k then newL nw (repD xs k.toNat) m else .bad
  | .tup xs, .int k => if 2 ≤ k ∧ k ≤ 1000 ∧ xs ≠ [] ∧ xs.length ≤ 1000 then newT (repD xs k.toNat) m else .bad
  | _, _ => .bad
theorem len_rep (xs : List V) (k : Nat) : (List.replicate k xs).flatten.length = xs.length * k := by
  rw [PyProof.Rows.lm_len_rep_flat, Nat.mul_comm]
theorem op_rep_ok {nw : Bool} : OpR X (binaryOp .Mult) (rdO2 (opRep nw)) := OpR.by fun x y H Q ⟨Z, m, dx, dy, rx, ry, M, h⟩ => by
  unfold opRep at h
  split at h
  · rename_i xs k e1
    obtain ⟨a, vs, ev, hv, rs⟩ := lst_of M rx e1
    split at h
    · rename_i hb
      have hb := bnd_iff.mp hb
      have hf := fin_newL h M (reps_rep rs k.toNat)
      rw [len_rep] at hf
      exact ⟨_, op_rep, a, k, vs, ev, rep_int ry, hv, by omega, by omega, hf.1, hf.2⟩
    · exact h.elim
  · rename_i xs k e1
    split at h
    · rename_i hb
      cases dx with
      | tup ys =>
        simp only [deref] at e1
        cases e1
        simp only [Rep] at rx
        obtain ⟨a, vs, e, r, o, rs⟩ := rx
        refine ⟨_, op_repT, a, k, vs, e, rep_int ry, .inl r, fun z => hb.2.2.1 ?_, hb.1, hb.2.1, by rw [← reps_len rs]; exact hb.2.2.2, (fin_newT h M (reps_rep rs k.toNat)).2⟩
        subst z
        exact List.eq_nil_of_length_eq_zero (reps_len rs)
      | ref n =>
        simp only [deref] at e1
        split at e1 <;> cases e1
      | _ => simp only [deref] at e1; cases e1
    · exact h.elim
  · exact h.elim

/-! ### built-ins -/
def bLen (ds : List D) (m : Mem) : Res D := match ds with
  | [.str x] => if lenOk x.length then .ok (.int x.length) m else .bad
  | [x] => (match deref m x with
    | .tup xs => .ok (.int xs.length) m
    | .lst xs => .ok (.int xs.length) m
    | .scr xs => .ok (.int xs.length) m
    | _ => .bad)
  | _ => .bad
theorem tup_of {x : D} (r : Rep H Z x v) {xs : List D} (e : deref m x = .tup xs) : ∃ a vs, v = .ref a ∧ Rd H a (.tup vs) ∧ Reps H Z xs vs := by
  cases x with
  | tup ys =>
    simp only [deref] at e
    cases e
    simp only [Rep] at r
    obtain ⟨a, vs, e, r, o, rs⟩ := r
    exact ⟨a, vs, e, r, rs⟩
  | ref n =>
    simp only [deref] at e
    split at e <;> cases e
  | _ => simp only [deref] at e; cases e
theorem scr_of {x : D} (r : Rep H Z x v) {xs : List D} (e : deref m x = .scr xs) : ∃ a vs, v = .ref a ∧ Rd H a (.lst vs) ∧ Reps H Z xs vs := by
  cases x with
  | scr ys =>
    simp only [deref] at e
    cases e
    simp only [Rep] at r
    obtain ⟨a, vs, e, r, o, rs⟩ := r
    exact ⟨a, vs, e, r, rs⟩
  | ref n =>
    simp only [deref] at e
    split at e <;> cases e
  | _ => simp only [deref] at e; cases e
theorem bLen_ok : CallR X (.builtin "len") (rdC bLen) := CallR.by fun xs H Q ⟨Z, m, ds, rs, M, h⟩ => by
  unfold bLen at h
  split at h
  · rename_i x
    obtain ⟨v, rfl, r⟩ := reps1 rs
    simp only [Rep] at r
    subst r
    split at h
    · rename_i hl
      exact ⟨_, call_len, .str x, x.length, rfl, ⟨lenOk_le hl, rfl⟩, fin_ok h M rep_intI⟩
    · exact h.elim
  · rename_i x hx
    obtain ⟨v, rfl, r⟩ := reps1 rs
    split at h
    · rename_i ys e
      obtain ⟨a, vs, rfl, rd, rs⟩ := tup_of r e
      exact ⟨_, call_len, .ref a, vs.length, rfl, .inr ⟨vs, .inl rd, rfl⟩, by rw [← reps_len rs]; exact fin_ok h M rep_intI⟩
    · rename_i ys e
      obtain ⟨a, vs, rfl, rd, rs⟩ := lst_of M r e
      exact ⟨_, call_len, .ref a, vs.length, rfl, .inl ⟨vs, .inl (.inl rd), rfl⟩, by rw [← reps_len rs]; exact fin_ok h M rep_intI⟩
    · rename_i ys e
      obtain ⟨a, vs, rfl, rd, rs⟩ := scr_of r e
      exact ⟨_, call_len, .ref a, vs.length, rfl, .inl ⟨vs, .inl rd, rfl⟩, by rw [← reps_len rs]; exact fin_ok h M rep_intI⟩
    · exact h.elim
  · exact h.elim
def absI (i : Int) : Int := if i < 0 then -i else i
def bAbs (ds : List D) (m : Mem) : Res D := match ds with | [.int i] => .ok (.int (absI i)) m | _ => .bad
theorem bAbs_ok : CallR X (.builtin "abs") (rdC bAbs) := CallR.by fun xs H Q ⟨Z, m, ds, rs, M, h⟩ => by
  unfold bAbs at h
  split at h
  · rename_i i
    obtain ⟨v, rfl, r⟩ := reps1 rs
    simp only [Rep] at r
    subst r
    exact ⟨_, call_abs, i, rfl, fin_ok h M rep_intI⟩
  · exact h.elim
def bInt (ds : List D) (m : Mem) : Res D := match ds with | [.int i] => .ok (.int i) m | _ => .bad
theorem bInt_ok : CallR X (.type "int") (rdC bInt) := CallR.by fun xs H Q ⟨Z, m, ds, rs, M, h⟩ => by
  unfold bInt at h
  split at h
  · rename_i i
    obtain ⟨v, rfl, r⟩ := reps1 rs
    simp only [Rep] at r
    subst r
    exact ⟨_, call_int1, .inl ⟨i, rfl, fin_ok h M rep_intI⟩⟩
  · exact h.elim
def bools : List D → Option (List Bool)
  | [] => some []
  | .bl b :: r => (bools r).map (b :: ·)
  | _ => none
theorem reps_bools : ∀ {xs : List D} {vs : List V} {bs : List Bool}, Reps H Z xs vs → bools xs = some bs → vs = bs.map V.bl
  | [], vs, bs, r, e => by
    simp only [Reps] at r
    cases e
    exact r
  | x :: xs, vs, bs, r, e => by
    simp only [Reps] at r
    obtain ⟨v, r', rfl, h1, h2⟩ := r
    cases x with
    | bl b =>
      simp only [bools] at e
      cases eb : bools xs with
      | none => rw [eb] at e; cases e
      | some cs =>
        rw [eb] at e
        cases e
        rw [rep_bl h1, reps_bools h2 eb]
        rfl
    | _ => cases e
def bAllB (any : Bool) (ds : List D) (m : Mem) : Res D := match ds with
  | [x] => (match deref m x with
    | .lst xs => (match bools xs with | some bs => .ok (.bl (if any then bs.any id else bs.all id)) m | none => .bad)
    | _ => .bad)
  | _ => .bad
theorem bAll_ok (hc : X.calm = true) : CallR X (.builtin "all") (rdC (bAllB false)) := CallR.by fun xs H Q ⟨Z, m, ds, rs, M, h⟩ => by
  unfold bAllB at h
  split at h
  · rename_i x
    obtain ⟨v, rfl, r⟩ := reps1 rs
    split at h
    · rename_i ys e
      obtain ⟨a, vs, rfl, rd, rs⟩ := lst_of M r e
      split at h
      · rename_i bs eb
        have ev := reps_bools rs eb
        subst ev
        exact ⟨_, cr_all hc, a, bs, rfl, .inl (.inl rd), fin_ok h M rep_blI⟩
      · exact h.elim
    · exact h.elim
  · exact h.elim
theorem bAny_ok (hc : X.calm = true) : CallR X (.builtin "any") (rdC (bAllB true)) := CallR.by fun xs H Q ⟨Z, m, ds, rs, M, h⟩ => by
  unfold bAllB at h
  split at h
  · rename_i x
    obtain ⟨v, rfl, r⟩ := reps1 rs
    split at h
    · rename_i ys e
      obtain ⟨a, vs, rfl, rd, rs⟩ := lst_of M r e
      split at h
      · rename_i bs eb
        have ev := reps_bools rs eb
        subst ev
        exact ⟨_, cr_any hc, a, bs, rfl, .inl (.inl rd), fin_ok h M rep_blI⟩
      · exact h.elim
    · exact h.elim
  · exact h.elim
def intsD : List D → Option (List Int)
  | [] => some []
  | .int b :: r => (intsD r).map (b :: ·)
  | _ => none
theorem reps_ints : ∀ {xs : List D} {vs : List V} {bs : List Int}, Reps H Z xs vs → intsD xs = some bs → vs = bs.map V.int
  | [], vs, bs, r, e => by
    simp only [Reps] at r
    cases e
    exact r
  | x :: xs, vs, bs, r, e => by
    simp only [Reps] at r
    obtain ⟨v, r', rfl, h1, h2⟩ := r
    cases x with
    | int b =>
      simp only [intsD] at e
      cases eb : intsD xs with
      | none => rw [eb] at e; cases e
      | some cs =>
        rw [eb] at e
        cases e
        rw [rep_int h1, reps_ints h2 eb]
        rfl
    | _ => cases e
def bSum (ds : List D) (m : Mem) : Res D := match ds with
  | [x] => (match deref m x with
    | .lst xs => (match intsD xs with | some bs => .ok (.int bs.sum) m | none => .bad)
    | _ => .bad)
  | _ => .bad
theorem bSum_ok (hc : X.calm = true) : CallR X (.builtin "sum") (rdC bSum) := CallR.by fun xs H Q ⟨Z, m, ds, rs, M, h⟩ => by
  unfold bSum at h
  split at h
  · rename_i x
    obtain ⟨v, rfl, r⟩ := reps1 rs
    split at h
    · rename_i ys e
      obtain ⟨a, vs, rfl, rd, rs⟩ := lst_of M r e
      split at h
      · rename_i bs eb
        have ev := reps_ints rs eb
        subst ev
        exact ⟨_, cr_sum hc, a, bs, rfl, .inl (.inl rd), fin_ok h M rep_intI⟩
      · exact h.elim
    · exact h.elim
  · exact h.elim
/-- tuple(xs), list(xs) -/
def bTuple (ds : List D) (m : Mem) : Res D := match ds with
  | [x] => (match deref m x with
    | .lst xs => newT xs m
    | .tup xs => .ok (.tup xs) m
    | _ => .bad)
  | _ => .bad
theorem bTuple_ok : CallR X (.type "tuple") (rdC bTuple) := CallR.by fun xs H Q ⟨Z, m, ds, rs, M, h⟩ => by
  unfold bTuple at h
  split at h
  · rename_i x
    obtain ⟨v, rfl, r⟩ := reps1 rs
    split at h
    · rename_i ys e
      obtain ⟨a, vs, rfl, rd, rs⟩ := lst_of M r e
      exact ⟨_, call_tuple_of, a, vs, rfl, .inl ⟨.inl (.inl rd), (fin_newT h M rs).2⟩⟩
    · rename_i ys e
      cases x with
      | tup zs =>
        simp only [deref] at e
        cases e
        have r' := r
        simp only [Rep] at r
        obtain ⟨a, vs, rfl, rd, o, rs⟩ := r
        exact ⟨_, call_tuple_of, a, vs, rfl, .inr ⟨.inl rd, fin_ok h M r'⟩⟩
      | ref n =>
        simp only [deref] at e
        split at e <;> cases e
      | _ => simp only [deref] at e; cases e
    · exact h.elim
  · exact h.elim
def bList (nw : Bool) (ds : List D) (m : Mem) : Res D := match ds with
  | [x] => (match deref m x with
    | .lst xs => newL nw xs m
    | .tup xs => newL nw xs m
    | _ => .bad)
  | _ => .bad
theorem bList_ok {nw : Bool} : CallR X (.type "list") (rdC (bList nw)) := CallR.by fun xs H Q ⟨Z, m, ds, rs, M, h⟩ => by
  unfold bList at h
  split at h
  · rename_i x
    obtain ⟨v, rfl, r⟩ := reps1 rs
    split at h
    · rename_i ys e
      obtain ⟨a, vs, rfl, rd, rs⟩ := lst_of M r e
      exact ⟨_, call_list_of, a, vs, rfl, .inl (.inl (.inl rd)), (fin_newL h M rs).2⟩
    · rename_i ys e
      obtain ⟨a, vs, rfl, rd, rs⟩ := tup_of r e
      exact ⟨_, call_list_of, a, vs, rfl, .inr (.inl rd), (fin_newL h M rs).2⟩
    · exact h.elim
  · exact h.elim
/-- isinstance(x, T) of a built-in T -/
def tyN (m : Mem) (d : D) : String := match d with
  | .non => "NoneType" | .bl _ => "bool" | .int _ => "int" | .str _ => "str" | .tup _ => "tuple" | .lst _ => "list" | .scr _ => "list" | .adr _ => ""
  | .ref n => (match m[n]? with | some (.lst _) => "list" | _ => "")
def isiB (a b : String) : Option Bool := if ["NoneType", "bool", "int", "str", "tuple", "list", "dict"].contains a && ["int", "bool", "tuple", "str", "list"].contains b then some (a == b || (a == "bool" && b == "int")) else none
theorem kit_tab : (["NoneType", "bool", "int", "str", "tuple", "list", "dict"].all fun a => ["int", "bool", "tuple", "str", "list"].all fun b => kitB a b == some (a == b || (a == "bool" && b == "int"))) = true := by decide +kernel
theorem kit_isi {a b : String} {r : Bool} (h : isiB a b = some r) : kitB a b = some r := by
  unfold isiB at h
  split at h
  · rename_i hc
    rw [Bool.and_eq_true] at hc
    have h1 := List.all_eq_true.mp kit_tab a (by simpa using hc.1)
    have h2 := List.all_eq_true.mp h1 b (by simpa using hc.2)
    rw [← h]
    exact eq_of_beq h2
  · cases h
theorem ty_of {K : PySem.W.Frag} (M : MRep H Z m) (r : Rep H Z d v) (hn : tyN m d ≠ "") : TyX K H v (.type (tyN m d)) := by
  cases d with
  | non => simp only [Rep] at r; subst r; exact .base .non
  | bl b => simp only [Rep] at r; subst r; exact .base (.bl b)
  | int i => simp only [Rep] at r; subst r; exact .base (.int i)
  | str x => simp only [Rep] at r; subst r; exact .base (.str x)
  | tup xs =>
    simp only [Rep] at r
    obtain ⟨a, vs, rfl, rd, o, rs⟩ := r
    rcases rd with rd | ⟨ob, rd⟩
    · exact .base (.tup rd)
    · exact .fTuple rd
  | lst xs =>
    simp only [Rep] at r
    obtain ⟨a, vs, rfl, rd, o, rs⟩ := r
    exact .base (.lst rd)
  | adr a => exact (hn rfl).elim
  | scr xs =>
    simp only [Rep] at r
    obtain ⟨a, vs, rfl, rd, o, rs⟩ := r
    rcases rd with rd | ⟨ob, rd⟩
    · exact .base (.lst rd)
    · exact .base (.frz rd)
  | ref n =>
    simp only [Rep] at r
    obtain ⟨a, ea, rfl⟩ := r
    simp only [tyN] at hn ⊢
    cases em : m[n]? with
    | none => rw [em] at hn; exact (hn rfl).elim
    | some o =>
      cases o with
      | lst xs =>
        obtain ⟨vs, hv, _⟩ := M.obj n a _ ea em
        exact .base (.lst hv)
      | dct lk kvs => rw [em] at hn; exact (hn rfl).elim
def opIsi (T : String) (d : D) (m : Mem) : Res D := match isiB (tyN m d) T with | some b => .ok (.bl b) m | none => .bad
def eIsi (T : String) (f : EF) : EF := fun σ m => (f σ m).bind fun d m => noexc (opIsi T d m)
theorem e_isi {T : String} {TS : Str} {pf pt : Pos} (he : E X W e fe) (hg : Gl X "isinstance") (hm : X.mg "isinstance" = none) (hg2 : Gl X TS) (hm2 : X.mg TS = none) (hv2 : bootBuiltins TS = some (.type T)) (hn2 : TS ≠ "__name__") (hd2 : (TS == ("__debug__" : Str)) = false)
    (he1 : starEach [e, .Name TS pt] X.env = (false, eval e X.env) :: starEach [.Name TS pt] X.env := by rfl) (he2 : starEach [.Name TS pt] X.env = (false, eval (.Name TS pt) X.env) :: starEach [] X.env := by rfl) (hpl : (backTo pos (starEach [.Name TS pt] X.env)).any (·.1) = false := by rfl) :
    E X W (.Call (.Name "isinstance" pf) [e, .Name TS pt] [] pos) (eIsi T fe) := by
  refine PE.imp (pe_callB call_isi hg hm (by decide +kernel) (pa_cons he (pa_cons (pe_bltn (v := .ty T) hg2 hm2 hv2 rfl hn2 hd2) pa_nil he2) he1) (by decide) (by decide) he1 hpl) fun σ H Q ⟨Z, σd, m, S, M, h⟩ => ?_
  refine ⟨Z, σd, m, S, M, (Fin.bind h).mono fun x m1 H1 Z1 x1 M1 h1 v r => ?_⟩
  have h2 := FinO.of h1
  unfold opIsi at h2
  cases ei : isiB (tyN m1 x) T with
  | none => rw [ei] at h2; exact h2.elim
  | some b =>
    rw [ei] at h2
    have hne : tyN m1 x ≠ "" := fun z => by
      rw [z] at ei
      unfold isiB at ei
      rw [if_neg (by simp)] at ei
      cases ei
    exact ⟨v, .ty T, _, _, b, rfl, .ty T, ty_of M1 r hne, kit_ty (kit_isi ei), fin_ok h2 M1 rep_blI⟩

/-! ### methods that change a list of the memory -/
theorem Ext.upd {p : Addr} {o : HO} (hp : p ∈ Z.ρ) (nf : ∀ od u, H p ≠ some (.frz od u)) : Ext Z H Z (upd H p o) := by
  refine ⟨fun _ h => h, fun _ h => .inl h, ⟨[], by simp⟩, fun a u h na => ⟨?_, na⟩, fun a u h => ?_, fun a od u h => by rw [upd_ne fun z => nf od u (by rw [← z]; exact h)]; exact h⟩
  · rw [upd_ne (fun z => na (by rw [z]; exact hp))]; exact h
  · by_cases e : a = p
    · subst e; exact ⟨o, upd_same⟩
    · exact ⟨u, by rw [upd_ne e]; exact h⟩
theorem MRep.set {n : Nat} {p : Addr} {o : HO} {u : MO} (M : MRep H Z m) (e : Z.ρ[n]? = some p) (nf : ∀ od u, H p ≠ some (.frz od u)) (ho : ORep (L2.upd H p o) Z u p) : MRep (L2.upd H p o) Z (m.set n u) := by
  have hp : p ∈ Z.ρ := List.mem_of_getElem? e
  refine ⟨by rw [List.length_set]; exact M.len, M.nd, M.off, fun a h => ?_, fun i a z e1 e2 => ?_⟩
  · obtain ⟨u, h⟩ := M.asd a h
    by_cases e : a = p
    · subst e; exact ⟨o, upd_same⟩
    · exact ⟨u, by rw [upd_ne e]; exact h⟩
  · by_cases hi : i = n
    · subst hi
      rw [e] at e1; cases e1
      have hl : i < m.length := by rw [M.len]; exact (List.getElem?_eq_some_iff.mp e).1
      rw [List.getElem?_set_self hl] at e2
      cases e2
      exact ho
    · rw [List.getElem?_set_ne (Ne.symm hi)] at e2
      have q := M.obj i a z e1 e2
      have ne : a ≠ p := fun z => hi (by
        subst z
        obtain ⟨h1, g1⟩ := List.getElem?_eq_some_iff.mp e1
        obtain ⟨h2, g2⟩ := List.getElem?_eq_some_iff.mp e
        exact (List.getElem_inj M.nd).mp (g1.trans g2.symm))
      exact q.keep (Ext.upd hp nf) (upd_ne ne)
end
end PD
namespace PD
open PySem PySem.Spec L2
open PyProof.Rows hiding St

section
variable {X : Cx} {W : WX} {H : Hp} {Z : Zn} {m : Mem} {Q : VK} {d : D} {v : V} {pos p2 apos cpos : Pos} {e : Expr} {fe : EF}
/-! ### methods of a list -/
def isLs (m : Mem) (x : D) : Bool := match deref m x with | .lst _ => true | _ => false
theorem isLs_of {x : D} (h : isLs m x = true) : ∃ xs, deref m x = .lst xs := by
  unfold isLs at h
  split at h
  · exact ⟨_, by assumption⟩
  · cases h
def eM (op : D → List D → Mem → Res D) (o : EF) (a : AF) : EF := fun σ m => (o σ m).bind fun x m => if isLs m x then (a σ m).bind fun ds m => noexc (op x ds m) else .bad
def rdM (op : D → List D → Mem → Res D) : V → List V → Hp → VK → Prop := fun x vs H Q => ∃ Z m dx ds, Rep H Z dx x ∧ Reps H Z ds vs ∧ MRep H Z m ∧ FinO H Z (op dx ds m) Q
theorem MtR.by {id : String} {r : V → List V → Hp → VK → Prop} (h : ∀ x xs H Q, r x xs H Q → ∃ r', MtR X id r' ∧ r' x xs H Q) : MtR X id r := fun pins s σ H x xs v us Q I rx rs q =>
  let ⟨_, o, q'⟩ := h x xs H Q q
  o pins s σ H x xs v us Q I rx rs q'
theorem e_meth {o : Expr} {es : List Expr} {fo : EF} {fa : AF} {op : D → List D → Mem → Res D} {name : Str} {id : String} (slot : Slot "list" name id) (hty : typeOf (.builtin id) = pure (.type "method_descriptor")) (hm : MtR X id (rdM op)) (ho : E X W o fo) (ha : AA X W (e :: es) fa)
    (hbase : attributeBase o name X.env (eval o X.env) = eval o X.env := by rfl)
    (hfew : ((backTo cpos (starEach (e :: es) X.env)).all (fun x => !x.1) && (backToKw cpos (keywordEach [] X.env)).all (fun x => x.1.isSome)
      && decide ((e :: es).length + ([] : List Keyword).length + (if ([] : List Keyword).isEmpty then 0 else 1) < 30)) = true := by rfl)
    (hline : (apos.endLine == cpos.line) = true := by rfl) (hs : starEach (e :: es) X.env = (false, eval e X.env) :: starEach es X.env := by rfl) (hplain : (backTo cpos (starEach es X.env)).any (·.1) = false := by rfl) :
    E X W (.Call (.Attribute o name apos) (e :: es) [] cpos) (eM op fo fa) := by
  refine PE.imp (pe_bm PySem.F.plainAttrs_list slot hty hm ho ha hbase hfew hline hs hplain) fun σ H Q ⟨Z, σd, m, S, M, h⟩ => ?_
  refine ⟨Z, σd, m, S, M, (Fin.bind h).mono fun x m1 H1 Z1 x1 M1 h1 v r => ?_⟩
  split at h1
  · rename_i hl
    obtain ⟨xs, ex⟩ := isLs_of hl
    obtain ⟨a, vs, rfl, hv, rs⟩ := lst_of M1 r ex
    refine ⟨.inl ⟨rfl, vs, .inl (.inl hv)⟩, Z1, σd, m1, S.ext x1, M1, (Fin.bind h1).mono fun ds m2 H2 Z2 x2 M2 h2 us r2 => ?_⟩
    exact ⟨Z2, m2, x, ds, Rep.ext x2 _ _ r, r2, M2, FinO.of h2⟩
  · exact h1.elim
/-- x.append(y), x in the memory -/
def mAppend (x : D) (ds : List D) (m : Mem) : Res D := match x, ds with
  | .ref n, [y] => (match m[n]? with | some (.lst xs) => if lenOk (xs.length + 1) then .ok .non (m.set n (.lst (xs ++ [y]))) else .bad | _ => .bad)
  | _, _ => .bad
theorem ref_lst (M : MRep H Z m) {n : Nat} (r : Rep H Z (.ref n) v) {xs : List D} (e : m[n]? = some (.lst xs)) : ∃ a vs, Z.ρ[n]? = some a ∧ v = .ref a ∧ H a = some (.lst vs) ∧ Reps H Z xs vs := by
  simp only [Rep] at r
  obtain ⟨a, ea, ev⟩ := r
  obtain ⟨vs, hv, rs⟩ := M.obj n a _ ea e
  exact ⟨a, vs, ea, ev, hv, rs⟩
theorem ext_upd {n : Nat} {p : Addr} {o : HO} (e : Z.ρ[n]? = some p) (nf : ∀ od u, H p ≠ some (.frz od u)) : Ext Z H Z (upd H p o) := Ext.upd (List.mem_of_getElem? e) nf
theorem nf_lst {p : Addr} {vs : List V} (h : H p = some (.lst vs)) : ∀ od u, H p ≠ some (.frz od u) := fun od u z => by rw [h] at z; cases z
/-- a list of the memory written anew -/
theorem fin_set {n : Nat} {p : Addr} {xs : List D} {vs : List V} {dr : D} {vr : V} (h : FinO H Z (.ok dr (m.set n (.lst xs))) Q) (M : MRep H Z m) (e : Z.ρ[n]? = some p) {ws : List V} (hl : H p = some (.lst ws)) (rs : Reps H Z xs vs) (rr : Rep H Z dr vr) : Q vr (upd H p (.lst vs)) := by
  have x := ext_upd (H := H) (o := HO.lst vs) e (nf_lst hl)
  exact h _ Z vr x (M.set e (nf_lst hl) ⟨vs, upd_same, Reps.ext x _ _ rs⟩) (Rep.ext x _ _ rr)
theorem m_append : MtR X "list.append" (rdM mAppend) := MtR.by fun x xs H Q ⟨Z, m, dx, ds, rx, rs, M, h⟩ => by
  unfold mAppend at h
  split at h
  · rename_i n y
    split at h
    · rename_i ys em
      split at h
      · rename_i hl
        obtain ⟨a, vs, ea, rfl, hv, r⟩ := ref_lst M rx em
        obtain ⟨u, rfl, ru⟩ := reps1 rs
        refine ⟨rAppend, mt_append, a, vs, u, rfl, rfl, hv, ?_, ?_⟩
        · have := lenOk_le hl
          rw [reps_len r] at this
          omega
        · exact fin_set h M ea hv (reps_app r (reps_one ru)) (by simp only [Rep])
      · exact h.elim
    · exact h.elim
  · exact h.elim
/-- x.extend(ys) -/
def mExtend (x : D) (ds : List D) (m : Mem) : Res D := match x, ds with
  | .ref n, [y] => (match m[n]?, deref m y with | some (.lst xs), .lst ys => if lenOk (xs.length + ys.length) then .ok .non (m.set n (.lst (xs ++ ys))) else .bad | _, _ => .bad)
  | _, _ => .bad
theorem m_extend : MtR X "list.extend" (rdM mExtend) := MtR.by fun x xs H Q ⟨Z, m, dx, ds, rx, rs, M, h⟩ => by
  unfold mExtend at h
  split at h
  · rename_i n y
    split at h
    · rename_i zs ys em ey
      split at h
      · rename_i hl
        obtain ⟨a, vs, ea, rfl, hv, r⟩ := ref_lst M rx em
        obtain ⟨u, rfl, ru⟩ := reps1 rs
        obtain ⟨b, us, rfl, hu, r2⟩ := lst_of M ru ey
        refine ⟨rExtend, mt_extend, a, b, vs, us, rfl, rfl, hv, hu, ?_, ?_⟩
        · have := lenOk_le hl
          rw [reps_len r, reps_len r2] at this
          omega
        · exact fin_set h M ea hv (reps_app r r2) (by simp only [Rep])
      · exact h.elim
    · exact h.elim
  · exact h.elim
/-- x.insert(i, y), 0 ≤ i -/
def mInsert (x : D) (ds : List D) (m : Mem) : Res D := match x, ds with
  | .ref n, [.int i, y] => (match m[n]? with | some (.lst xs) => if lenOk (xs.length + 1) && decide (0 ≤ i) && bnd i then .ok .non (m.set n (.lst (xs.take i.toNat ++ [y] ++ xs.drop i.toNat))) else .bad | _ => .bad)
  | _, _ => .bad
theorem m_insert : MtR X "list.insert" (rdM mInsert) := MtR.by fun x xs H Q ⟨Z, m, dx, ds, rx, rs, M, h⟩ => by
  unfold mInsert at h
  split at h
  · rename_i n i y
    split at h
    · rename_i ys em
      split at h
      · rename_i hl
        simp only [Bool.and_eq_true, decide_eq_true_eq, bnd_iff] at hl
        obtain ⟨⟨hl, h0⟩, h1⟩ := hl
        obtain ⟨a, vs, ea, rfl, hv, r⟩ := ref_lst M rx em
        obtain ⟨w, u, rfl, rw', ru⟩ := reps2 rs
        simp only [Rep] at rw'
        subst rw'
        refine ⟨_, mt_insert, a, vs, i, u, rfl, rfl, hv, ?_, h0, by omega, ?_⟩
        · have := lenOk_le hl
          rw [reps_len r] at this
          omega
        · exact fin_set h M ea hv (reps_app (reps_app (reps_take _ r) (reps_one ru)) (reps_drop _ r)) (by simp only [Rep])
      · exact h.elim
    · exact h.elim
  · exact h.elim
theorem reps_erase {xs : List D} {vs : List V} (r : Reps H Z xs vs) (k : Nat) : Reps H Z (xs.eraseIdx k) (vs.eraseIdx k) := by
  rw [List.eraseIdx_eq_take_drop_succ, List.eraseIdx_eq_take_drop_succ]
  exact reps_app (reps_take _ r) (reps_drop _ r)
/-- x.pop(i) -/
def mPop (x : D) (ds : List D) (m : Mem) : Res D := match x, ds with
  | .ref n, [.int i] => (match m[n]? with
    | some (.lst xs) => if bnd i then (match ixN xs.length i with | some k => (match xs[k]? with | some d => .ok d (m.set n (.lst (xs.eraseIdx k))) | none => .bad) | none => .bad) else .bad
    | _ => .bad)
  | _, _ => .bad
theorem m_pop : MtR X "list.pop" (rdM mPop) := MtR.by fun x xs H Q ⟨Z, m, dx, ds, rx, rs, M, h⟩ => by
  unfold mPop at h
  split at h
  · rename_i n i
    split at h
    · rename_i ys em
      split at h
      · rename_i hb
        have hb := bnd_iff.mp hb
        split at h
        · rename_i k ek
          split at h
          · rename_i d ed
            obtain ⟨a, vs, ea, rfl, hv, r⟩ := ref_lst M rx em
            obtain ⟨w, rfl, rw'⟩ := reps1 rs
            simp only [Rep] at rw'
            subst rw'
            obtain ⟨u, eu, ru⟩ := reps_get r ed
            rw [reps_len r] at ek
            exact ⟨rPopAt, mt_popAt, a, vs, i, k, u, rfl, rfl, hv, by omega, by omega, (ixN_seq ek).1, eu, fin_set h M ea hv (reps_erase r k) ru⟩
          · exact h.elim
        · exact h.elim
      · exact h.elim
    · exact h.elim
  · exact h.elim

/-! ### x[i] = e -/
def setIx (x i d : D) (σ : Sg) (m : Mem) : SRes := match x, i with
  | .ref n, .int k => (match m[n]? with | some (.lst xs) => (match ixN xs.length k with | some j => .nx σ (m.set n (.lst (xs.set j d))) | none => .bad) | _ => .bad)
  | _, _ => .bad
def gIx (o i : EF) : GF := fun d σ m => match o σ m with | .ok x m1 => (match i σ m1 with | .ok y m2 => setIx x y d σ m2 | _ => .bad) | _ => .bad
theorem gok_ix {o i : EF} : GOk (gIx o i) := fun d σ m => by
  unfold gIx
  split
  · split
    · unfold setIx
      split
      · split
        · split
          · exact .inl ⟨_, _, rfl⟩
          · exact .inr rfl
        · exact .inr rfl
      · exact .inr rfl
    · exact .inr rfl
  · exact .inr rfl
theorem setIx_nx {x y d : D} {σ σ1 : Sg} {m m1 : Mem} (h : setIx x y d σ m = .nx σ1 m1) : ∃ n k xs j, x = .ref n ∧ y = .int k ∧ m[n]? = some (.lst xs) ∧ ixN xs.length k = some j ∧ σ1 = σ ∧ m1 = m.set n (.lst (xs.set j d)) := by
  unfold setIx at h
  split at h
  · rename_i n k
    split at h
    · rename_i xs em
      split at h
      · rename_i j ej
        cases h
        exact ⟨n, k, xs, j, rfl, rfl, em, ej, rfl, rfl⟩
      · cases h
    · cases h
  · cases h
theorem g_ix {ws : List Nat} {o i : Expr} {fo fi : EF} (ho : E X W o fo) (hi : E X W i fi)
    (ha : ∀ v, assign (.Subscript o i pos) X.env v = (do
      let ov ← holding [v] (eval o X.env)
      let iv ← holding [v, ov] (eval i X.env)
      standAt pos
      holding [v, ov, iv] (setItem ov iv v)
      release [v, ov, iv] []) := by intro _; rfl) : G X ws (.Subscript o i pos) (gIx fo fi) := by
  refine PG.imp (pg_sub ho hi set_list ha) fun v σ H Q ⟨Z, σd, m, d, S, M, r, σ1, m1, eg, q⟩ => ?_
  unfold gIx at eg
  cases eo : fo σd m with
  | ok x m2 =>
    rw [eo] at eg
    simp only at eg
    refine ⟨Z, σd, m, S, M, ?_⟩
    rw [eo]
    intro H2 Z2 x2 M2 xv rx
    refine ⟨Z2, σd, m2, S.ext x2, M2, ?_⟩
    cases ei : fi σd m2 with
    | ok y m3 =>
      rw [ei] at eg
      intro H3 Z3 x3 M3 yv ry
      obtain ⟨n, k, xs, j, rfl, rfl, em, ej, rfl, rfl⟩ := setIx_nx eg
      obtain ⟨a, vs, ea, rfl, hv, rs⟩ := ref_lst M3 (Rep.ext x3 _ _ rx) em
      simp only [Rep] at ry
      have rd := Rep.ext (x2.trans x3) _ _ r
      have y := ext_upd (H := H3) (o := HO.lst (vs.set j v)) ea (nf_lst hv)
      refine ⟨a, vs, k, j, rfl, ry, hv, by rw [← reps_len rs]; exact ej, ?_⟩
      exact q _ _ _ ((x2.trans x3).trans y) (M3.set ea (nf_lst hv) ⟨_, upd_same, Reps.ext y _ _ (reps_set rd j rs)⟩) (S.ext ((x2.trans x3).trans y)) rfl
    | exc c m3 => rw [ei] at eg; cases eg
    | bad => rw [ei] at eg; cases eg
  | exc c m2 => rw [eo] at eg; cases eg
  | bad => rw [eo] at eg; cases eg

/-! ### x += e, x -= e of ints -/
def sAug (i : Nat) (op : Int → Int → Int) (fe : EF) : SF := fun σ m => match σ[i]? with
  | some (some (.int a)) => (fe σ m).st σ fun d m => (match d with | .int b => .nx (σ.set i (some (.int (op a b)))) m | _ => .bad)
  | _ => .bad
theorem s_aug {i : Nat} {x : Str} {op : Operator} {f : Int → Int → Int} {pos' : Pos} (hN : X.N.Nodup) (hi : X.N[i]? = some x) (hx : Loc X.env.scope x) (he : E X W e fe) (ho : PIp X op (ipI f)) (hf : X.fn x = true ∨ X.env.scope.names.lookup x = some .local := by first | exact .inl rfl | exact .inr rfl | assumption) :
    S1 X W (.AugAssign (.Name x pos') op e pos) (sAug i f fe) := by
  refine PS.imp (ps_aug hN hi hx he ho hf) fun D σ H ⟨Z, σd, m, S, M, h⟩ => ?_
  unfold sAug at h
  split at h
  · rename_i a ea
    obtain ⟨va, e1, r1⟩ := S.val i _ ea
    simp only [Rep] at r1
    subst r1
    refine ⟨_, e1, Z, σd, m, S, M, (Fin.st h S).mono fun d m1 H1 Z1 x1 M1 h1 v r => ?_⟩
    cases d with
    | int b =>
      simp only [Rep] at r
      exact ⟨a, b, rfl, r, h1 H1 Z1 _ (.refl _ _) M1 ((S.ext x1).set i (by simp only [Rep]))⟩
    | _ => exact h1.elim
  · exact h.elim
end
end PD
namespace PD
open PySem PySem.Spec L2
open PyProof.Rows hiding St

section
variable {X : Cx} {W : WX} {H : Hp} {Z : Zn} {m : Mem} {Q : VK} {d : D} {v : V} {pos p2 apos cpos : Pos} {e : Expr} {fe : EF} {pins : List (Addr × Obj)} {σ : St} {s : Shared}
/-! ### sorted -/
def likeD (x y : D) : Bool := PySem.W.alike (toPy x) (toPy y)
def leD (x y : D) : Bool := PySem.W.dataLe false toPy x y
def tupNE : D → Bool | .tup (_ :: _) => true | _ => false
def atomic : D → Bool | .int _ => true | .str _ => true | .bl _ => true | .lst _ => true | _ => false
def canSort (xs : List D) : Bool := shs 60 xs && (xs.all fun x => xs.all fun y => likeD x y) && (xs.all tupNE || xs.all atomic)
def sortD (xs : List D) : List D := xs.mergeSort leD
theorem alike_of {xs : List D} (h : (xs.all fun x => xs.all fun y => likeD x y) = true) : PySem.W.AllAlike (xs.map toPy) := by
  intro d hd d' hd'
  obtain ⟨b, hb, rfl⟩ := List.mem_map.mp hd
  obtain ⟨b', hb', rfl⟩ := List.mem_map.mp hd'
  exact List.all_eq_true.mp (List.all_eq_true.mp h b hb) b' hb'
theorem sortable_of {xs : List D} (h : (xs.all tupNE || xs.all atomic) = true) : PySem.W.Sortable (xs.map toPy) := by
  rw [Bool.or_eq_true] at h
  rcases h with h | h
  · refine .inl fun d hd => ?_
    obtain ⟨b, hb, rfl⟩ := List.mem_map.mp hd
    have q := List.all_eq_true.mp h b hb
    cases b with
    | tup ys =>
      cases ys with
      | nil => cases q
      | cons y ys => exact ⟨toPy y, toPys ys, rfl⟩
    | _ => cases q
  · refine .inr fun d hd => ?_
    obtain ⟨b, hb, rfl⟩ := List.mem_map.mp hd
    have q := List.all_eq_true.mp h b hb
    cases b with
    | int i => exact ⟨by simp [toPy], by simp [toPy]⟩
    | str i => exact ⟨by simp [toPy], by simp [toPy]⟩
    | bl i => exact ⟨by simp [toPy], by simp [toPy]⟩
    | lst i => exact ⟨by simp [toPy], by simp [toPy]⟩
    | _ => cases q
theorem each_of (H : Hp) (Z : Zn) : ∀ {xs : List D} {vs : List V} {us : List Value}, Reps H Z xs vs → Vals vs us → PySem.W.EachIs (fun u d => ∃ v, RelV v u ∧ Rep H Z d v) us xs
  | [], vs, us, r, w => by
    simp only [Reps] at r
    subst r
    cases w
    exact .nil
  | x :: xs, vs, us, r, w => by
    simp only [Reps] at r
    obtain ⟨v, r', rfl, h1, h2⟩ := r
    cases w with
    | cons w ws => exact .cons ⟨v, w, h1⟩ (each_of H Z h2 ws)
theorem of_each : ∀ {xs : List D} {us : List Value}, PySem.W.EachIs (fun u d => ∃ v, RelV v u ∧ Rep H Z d v) us xs → ∃ vs, Vals vs us ∧ Reps H Z xs vs
  | [], _, .nil => ⟨[], .nil, by simp only [Reps]⟩
  | x :: xs, _, .cons ⟨v, w, r⟩ t => by
    obtain ⟨vs, h1, h2⟩ := of_each t
    exact ⟨v :: vs, .cons w h1, by simp only [Reps]; exact ⟨v, vs, rfl, r, h2⟩⟩
theorem each_reads (I : Inv X pins σ H s) : ∀ {xs : List D} {vs : List V} {us : List Value}, shs 60 xs = true → Reps H Z xs vs → Vals vs us → PySem.W.EachIs (fun u d => ∃ as, Reads s.heap u (toPy d) as) us xs
  | [], vs, us, _, r, w => by
    simp only [Reps] at r
    subst r
    cases w
    exact .nil
  | x :: xs, vs, us, hs, r, w => by
    simp only [Reps] at r
    obtain ⟨v, r', rfl, h1, h2⟩ := r
    have s' : sh 60 x = true ∧ shs 60 xs = true := by simpa [shs] using hs
    cases w with
    | cons w ws => exact .cons (Dp.reads I _ _ _ (py_dp 60 x v s'.1 h1) w) (each_reads I s'.2 h2 ws)
theorem shs_mem {n : Nat} : ∀ {xs : List D} {d : D}, shs n xs = true → d ∈ xs → sh n d = true
  | [], _, _, h => by cases h
  | x :: xs, d, s, h => by
    have s' : sh n x = true ∧ shs n xs = true := by simpa [shs] using s
    rcases List.mem_cons.mp h with rfl | h
    · exact s'.1
    · exact shs_mem s'.2 h
def rSortD (K : PySem.W.Frag) : List V → Hp → VK → Prop := fun vs H Q => ∃ (Z : Zn) (a : Addr) (xs : List D) (ys : List V), vs = [V.ref a] ∧ SqL K H a ys ∧ Reps H Z xs ys ∧ canSort xs = true ∧ ∀ zs p, Reps H Z (sortD xs) zs → H p = none → Q (.ref p) (upd H p (.lst zs))
theorem cr_sortD (hu : X.A.units + 64 < cLine) : CallR X (.builtin "sorted") (rSortD X.K) := by
  intro pins s σ H vs us Q I r h
  obtain ⟨Z, a, xs, ys, rfl, hs, rs, hc, q⟩ := h
  simp only [canSort, Bool.and_eq_true] at hc
  obtain ⟨its, rv, hl, hz⟩ := I.list hs
  obtain ⟨u, rfl, ru⟩ := vals1 r
  obtain rfl : u = Value.ref a := ru
  refine PySem.W.sorted_data (bs := xs) (enc := toPy) hl.isList (each_of H Z rs rv) (each_reads I hc.1.1 rs rv) (alike_of hc.1.2) (sortable_of hc.2) (by rw [reps_len rs]; exact hz) (fun b hb => ?_) fun out hlen eo => ?_
  · have := (sh_lay 60 b (shs_mem hc.1.1 hb)).2
    omega
  · obtain ⟨zs, w, rz⟩ := of_each eo
    obtain ⟨e0, he⟩ := sortedAll_at s.heap its out.toArray
    refine ⟨.ref (s.heap.objs.size + 1), upd H (s.heap.objs.size + 1) (.lst zs), I.laid (t' := s.toks) (fun b o e => sortedAll_old e) (Nat.le_succ _) ⟨?_, out, e0, w, he⟩, rfl, q _ _ rz (I.hok.fresh (Nat.le_succ _))⟩
    rw [w.length, hlen, reps_len rs]
    exact hz
def bSorted (nw : Bool) (ds : List D) (m : Mem) : Res D := match ds with
  | [x] => (match deref m x with | .lst xs => if canSort xs then newL nw (sortD xs) m else .bad | _ => .bad)
  | _ => .bad
theorem bSorted_ok {nw : Bool} (hu : X.A.units + 64 < cLine) : CallR X (.builtin "sorted") (rdC (bSorted nw)) := CallR.by fun xs H Q ⟨Z, m, ds, rs, M, h⟩ => by
  unfold bSorted at h
  split at h
  · rename_i x
    obtain ⟨v, rfl, r⟩ := reps1 rs
    split at h
    · rename_i ys e
      split at h
      · rename_i hc
        obtain ⟨a, vs, rfl, rd, rs⟩ := lst_of M r e
        exact ⟨_, cr_sortD hu, Z, a, ys, vs, rfl, .inl (.inl rd), rs, hc, fun zs p rz hp => (fin_newL h M rz).2 p hp⟩
      · exact h.elim
    · exact h.elim
  · exact h.elim
/-! ### min, max of ints -/
def minI : List Int → Int | [] => 0 | x :: xs => xs.foldl min x
def maxI : List Int → Int | [] => 0 | x :: xs => xs.foldl max x
theorem foldl_min : ∀ (xs : List Int) (x : Int), (xs.foldl min x = x ∨ xs.foldl min x ∈ xs) ∧ xs.foldl min x ≤ x ∧ ∀ y ∈ xs, xs.foldl min x ≤ y
  | [], x => ⟨.inl rfl, Int.le_refl _, fun y h => by cases h⟩
  | z :: xs, x => by
    obtain ⟨h1, h2, h3⟩ := foldl_min xs (min x z)
    rw [List.foldl_cons]
    refine ⟨?_, by omega, fun y hy => ?_⟩
    · rcases h1 with h1 | h1
      · rcases (show min x z = x ∨ min x z = z by omega) with e | e
        · exact .inl (by rw [h1, e])
        · exact .inr (by rw [h1, e]; exact List.mem_cons_self)
      · exact .inr (List.mem_cons_of_mem _ h1)
    · rcases List.mem_cons.mp hy with rfl | hy
      · omega
      · exact h3 y hy
theorem foldl_max : ∀ (xs : List Int) (x : Int), (xs.foldl max x = x ∨ xs.foldl max x ∈ xs) ∧ x ≤ xs.foldl max x ∧ ∀ y ∈ xs, y ≤ xs.foldl max x
  | [], x => ⟨.inl rfl, Int.le_refl _, fun y h => by cases h⟩
  | z :: xs, x => by
    obtain ⟨h1, h2, h3⟩ := foldl_max xs (max x z)
    rw [List.foldl_cons]
    refine ⟨?_, by omega, fun y hy => ?_⟩
    · rcases h1 with h1 | h1
      · rcases (show max x z = x ∨ max x z = z by omega) with e | e
        · exact .inl (by rw [h1, e])
        · exact .inr (by rw [h1, e]; exact List.mem_cons_self)
      · exact .inr (List.mem_cons_of_mem _ h1)
    · rcases List.mem_cons.mp hy with rfl | hy
      · omega
      · exact h3 y hy
theorem minI_of {xs : List Int} {k : Int} (h1 : k ∈ xs) (h2 : ∀ y ∈ xs, k ≤ y) : k = minI xs := by
  cases xs with
  | nil => cases h1
  | cons x xs =>
    obtain ⟨a, b, c⟩ := foldl_min xs x
    show k = xs.foldl min x
    have d1 : xs.foldl min x ≤ k := by
      rcases List.mem_cons.mp h1 with rfl | h1
      · exact b
      · exact c k h1
    have d2 : k ≤ xs.foldl min x := by
      rcases a with a | a
      · rw [a]; exact h2 x List.mem_cons_self
      · exact h2 _ (List.mem_cons_of_mem _ a)
    omega
theorem maxI_of {xs : List Int} {k : Int} (h1 : k ∈ xs) (h2 : ∀ y ∈ xs, y ≤ k) : k = maxI xs := by
  cases xs with
  | nil => cases h1
  | cons x xs =>
    obtain ⟨a, b, c⟩ := foldl_max xs x
    show k = xs.foldl max x
    have d1 : k ≤ xs.foldl max x := by
      rcases List.mem_cons.mp h1 with rfl | h1
      · exact b
      · exact c k h1
    have d2 : xs.foldl max x ≤ k := by
      rcases a with a | a
      · rw [a]; exact h2 x List.mem_cons_self
      · exact h2 _ (List.mem_cons_of_mem _ a)
    omega
def bMin (ds : List D) (m : Mem) : Res D := match ds with
  | [.int i, .int j] => .ok (.int (if j < i then j else i)) m
  | [x] => (match deref m x with | .lst xs => (match intsD xs with | some (k :: ks) => .ok (.int (minI (k :: ks))) m | _ => .bad) | _ => .bad)
  | _ => .bad
def bMax (ds : List D) (m : Mem) : Res D := match ds with
  | [.int i, .int j] => .ok (.int (if j > i then j else i)) m
  | [x] => (match deref m x with | .lst xs => (match intsD xs with | some (k :: ks) => .ok (.int (maxI (k :: ks))) m | _ => .bad) | _ => .bad)
  | _ => .bad
theorem bMin_ok (hc : X.calm = true) : CallR X (.builtin "min") (rdC bMin) := CallR.by fun xs H Q ⟨Z, m, ds, rs, M, h⟩ => by
  unfold bMin at h
  split at h
  · rename_i i j
    obtain ⟨v, u, rfl, rv, ru⟩ := reps2 rs
    simp only [Rep] at rv ru
    subst rv ru
    exact ⟨_, call_min2 hc, i, j, rfl, fin_ok h M rep_intI⟩
  · rename_i x _
    obtain ⟨v, rfl, r⟩ := reps1 rs
    split at h
    · rename_i ys e
      obtain ⟨a, vs, rfl, rd, rs⟩ := lst_of M r e
      split at h
      · rename_i k ks eb
        have ev := reps_ints rs eb
        subst ev
        exact ⟨_, cr_min hc, a, k :: ks, rfl, .inl (.inl rd), Nat.succ_pos _, fun j h1 h2 => by rw [minI_of h1 h2]; exact fin_ok h M rep_intI⟩
      · exact h.elim
    · exact h.elim
  · exact h.elim
theorem bMax_ok (hc : X.calm = true) : CallR X (.builtin "max") (rdC bMax) := CallR.by fun xs H Q ⟨Z, m, ds, rs, M, h⟩ => by
  unfold bMax at h
  split at h
  · rename_i i j
    obtain ⟨v, u, rfl, rv, ru⟩ := reps2 rs
    simp only [Rep] at rv ru
    subst rv ru
    exact ⟨_, call_max2 hc, i, j, rfl, fin_ok h M rep_intI⟩
  · rename_i x _
    obtain ⟨v, rfl, r⟩ := reps1 rs
    split at h
    · rename_i ys e
      obtain ⟨a, vs, rfl, rd, rs⟩ := lst_of M r e
      split at h
      · rename_i k ks eb
        have ev := reps_ints rs eb
        subst ev
        exact ⟨_, cr_max hc, a, k :: ks, rfl, .inl (.inl rd), Nat.succ_pos _, fun j h1 h2 => by rw [maxI_of h1 h2]; exact fin_ok h M rep_intI⟩
      · exact h.elim
    · exact h.elim
  · exact h.elim
end
end PD
namespace PD
open PySem PySem.Spec L2
open PyProof.Rows hiding St

/-! ### + and * whatever the sides are -/
def opAddX (nw : Bool) (x y : D) (m : Mem) : Res D := match x, y with
  | .int i, .int j => .ok (.int (i + j)) m
  | x, y => match deref m x, deref m y with
    | .lst xs, .lst ys => newL nw (xs ++ ys) m
    | _, _ => opAdd x y m
def opMulX (nw : Bool) (x y : D) (m : Mem) : Res D := match x, y with
  | .int i, .int j => opMul (.int i) (.int j) m
  | x, y => opRep nw x y m
section
variable {X : Cx} {W : WX} {H : Hp} {Z : Zn} {m : Mem} {Q : VK} {d : D} {v : V} {pos p2 apos cpos : Pos} {e : Expr} {fe : EF}
theorem op_addX_ok {nw : Bool} : OpR X (binaryOp .Add) (rdO2 (opAddX nw)) := OpR.by fun x y H Q ⟨Z, m, dx, dy, rx, ry, M, h⟩ => by
  unfold opAddX at h
  split at h
  · exact ⟨_, op_add_ok, Z, m, _, _, rx, ry, M, h⟩
  · split at h
    · rename_i xs ys e1 e2
      exact ⟨_, op_cat_ok (nw := nw), Z, m, _, _, rx, ry, M, by unfold opCat; rw [e1, e2]; exact h⟩
    · exact ⟨_, op_add_ok, Z, m, _, _, rx, ry, M, h⟩
theorem op_mulX_ok {nw : Bool} : OpR X (binaryOp .Mult) (rdO2 (opMulX nw)) := OpR.by fun x y H Q ⟨Z, m, dx, dy, rx, ry, M, h⟩ => by
  unfold opMulX at h
  split at h
  · exact ⟨_, op_mul_ok, Z, m, _, _, rx, ry, M, h⟩
  · exact ⟨_, op_rep_ok (nw := nw), Z, m, _, _, rx, ry, M, h⟩
/-! ### how many arguments -/
abbrev ArgN (f : AF) (n : Nat) : Prop := ∀ σ m ds m', f σ m = .ok ds m' → ds.length = n
theorem argn_nil : ArgN aNil 0 := fun σ m ds m' h => by cases h; rfl
theorem argn_cons {a : EF} {r : AF} {n : Nat} (hr : ArgN r n) : ArgN (aCons a r) (n + 1) := fun σ m ds m' h => by
  unfold aCons at h
  cases ea : a σ m with
  | ok x m1 =>
    rw [ea] at h
    have h : (r σ m1).bind (fun xs m => .ok (x :: xs) m) = .ok ds m' := h
    cases er : r σ m1 with
    | ok xs m2 =>
      rw [er] at h
      cases h
      rw [List.length_cons, hr _ _ _ _ er]
    | exc c m2 => rw [er] at h; cases h
    | bad => rw [er] at h; cases h
  | exc c m1 => rw [ea] at h; cases h
  | bad => rw [ea] at h; cases h
theorem takesW0 {X : Cx} : Takes X W0 := takes0
/-! ### a def, as the top has written it -/
structure DefT (K : PySem.W.Frag) (mg : Str → Option Value) (x : Str) (ps : List Str) (st : Stmt) where
  a : Addr
  fd : FuncData
  F : Fun K x x st a fd
  g : mg x = some (.ref a)
  ba : ∀ us : List Value, us.length = ps.length → bindArgs fd ⟨us, []⟩ = pure (ps.zip us)
theorem DefT.b {K : PySem.W.Frag} {mg : Str → Option Value} {x : Str} {ps : List Str} {st : Stmt} (T : DefT K mg x ps st) : Binds K T.fd ps [] := Binds.all T.ba
def DefT.of {K : PySem.W.Frag} {mg : Str → Option Value} {h : Heap} {x : Str} {ps : List Str} {st : Stmt} {f : Addr} {od an : Option Addr} {sl : Array (Option Value)} {oc kV dc pm cd ct : Value} (X : K.In h) (G : h.Ns mainGlobals mg) (a1 : PySem.W.nsIn K mainGlobals x = some (some (.ref f)))
    (l1 : K.lookup f = some ⟨oc, od, .func (PySem.W.fnOf x x (defArgs st) (defBody st) (defScope st) .none kV dc pm an cd ct), sl⟩) (c1 : PySem.W.codeIn K cd x = true) (k1 : PySem.W.keepIn K (.ref f) = true)
    (hb : ∀ us : List Value, us.length = ps.length → bindArgs (PySem.W.fnOf x x (defArgs st) (defBody st) (defScope st) .none kV dc pm an cd ct) ⟨us, []⟩ = pure (ps.zip us)) : DefT K mg x ps st :=
  ⟨f, _, fun_mk l1 c1 k1, PySem.W.mg_of X G a1, hb⟩
/-- an own class as the top has written it: the classes behind it are bm -/
abbrev veB : List Value := [.type "ValueError", .type "Exception", .type "BaseException", .type "object"]
def newOk (sl : Array (Option Value)) : Bool := match sl.toList with | [_, _, _, _, some (.builtin n), _] => n == "ValueError.__new__" | _ => false
def strKeys (es : Array DictEntry) : Bool := es.toList.all fun e => match e.key with | .str _ _ => true | _ => false
def ClsK (K : PySem.W.Frag) (C : Addr) (bm : List Value) : Prop := ∃ (dd : Option Addr) (cd : ClassData) (sl : Array (Option Value)), K.lookup C = some ⟨.type "type", dd, .cls cd, sl⟩ ∧ cd.mro = .ref C :: bm ∧ newOk sl = true ∧ cd.hasDel = false ∧ PySem.W.nsOkIn K cd.ns = true ∧ PySem.W.nsIn K cd.ns "__init__" = some none
theorem ClsK.mk' {K : PySem.W.Frag} {C : Addr} {bm : List Value} {dd : Option Addr} {cd : ClassData} {sl sl2 : Array (Option Value)} {oc : Value} {od : Option Addr} {es : Array DictEntry} {n : Nat} (xL : K.lookup C = some ⟨.type "type", dd, .cls cd, sl⟩) (hm : cd.mro = .ref C :: bm) (hs : newOk sl = true) (hd : cd.hasDel = false)
    (nL : K.lookup cd.ns = some ⟨oc, od, .dict es n, sl2⟩) (ho : strKeys es = true) (hi : PySem.W.nsIn K cd.ns "__init__" = some none) : ClsK K C bm :=
  ⟨dd, cd, sl, xL, hm, hs, hd, by unfold PySem.W.nsOkIn; simp only [nL]; rw [← Array.all_toList]; exact ho, hi⟩
theorem ClsK.tail {K : PySem.W.Frag} {C : Addr} {bm : List Value} (c : ClsK K C bm) (t : PySem.W.tailIn K veB bm = true) : PySem.W.tailIn K veB (.ref C :: bm) = true := by
  obtain ⟨dd, cd, sl, xL, hm, hs, hd, ho, hi⟩ := c
  unfold PySem.W.tailIn
  simp only [xL, ho, hi, t, beq_self_eq_true, Bool.and_self, Bool.or_true]
theorem tail_ve {K : PySem.W.Frag} : PySem.W.tailIn K veB veB = true := by
  unfold PySem.W.tailIn
  rw [beq_self_eq_true, Bool.true_or]
theorem ClsK.exc {K : PySem.W.Frag} {C : Addr} {bm : List Value} (c : ClsK K C bm) (t : PySem.W.tailIn K veB bm = true) : PySem.W.excIn K C veB "ValueError.__new__" = true := by
  obtain ⟨dd, cd, sl, xL, hm, hs, hd, ho, hi⟩ := c
  unfold newOk at hs
  unfold PySem.W.excIn
  simp only [xL, hm]
  split at hs
  · rename_i e
    simp only [e, ho, hi, t, hd, hs, beq_self_eq_true, Bool.and_self, Bool.not_false]
  · cases hs
theorem ExM.of {K : PySem.W.Frag} {mg : Str → Option Value} {h : Heap} {c x : Str} {C D : Addr} {b : Bool} (X : K.In h) (G : h.Ns mainGlobals mg) (a1 : PySem.W.nsIn K mainGlobals c = some (some (.ref C))) (a2 : PySem.W.nsIn K mainGlobals x = some (some (.ref D)))
    (h1 : PySem.W.subIn K (.ref D) (.type "BaseException") = some true) (hdct : PySem.W.hasDictIn K D = true) (ht : PySem.W.typeIn K (.ref D) = some (.type "type")) (h4 : PySem.W.subIn K (.ref C) (.ref D) = some b) : ExM K mg c x b :=
  ⟨C, D, PySem.W.mg_of X G a1, PySem.W.mg_of X G a2, PySem.W.exm_ref h1 hdct ht h4⟩
theorem ExcT.of {K : PySem.W.Frag} {mg : Str → Option Value} {h : Heap} {x : Str} {C : Addr} (X : K.In h) (G : h.Ns mainGlobals mg) (a : PySem.W.nsIn K mainGlobals x = some (some (.ref C)))
    (q : PySem.W.excIn K C [.type "ValueError", .type "Exception", .type "BaseException", .type "object"] "ValueError.__new__" = true) (k : PySem.W.keepIn K (.ref C) = true) (b : PySem.W.subIn K (.ref C) (.type "BaseException") = some true) (t : PySem.W.typeIn K (.ref C) = some (.type "type")) : ExcT K mg x C :=
  ⟨PySem.W.mg_of X G a, q, k, b, t⟩
theorem cx_no {P : Program} {w : World} {H : Hp} {s : Shared} {e : Value} {s' : Shared} (h : L2.CX P w [] H s (fun _ _ _ => False) e s') : False := by
  obtain ⟨_, _, _, _, _, _, _, _, _, _, _, _, z⟩ := h
  exact z.elim
theorem e_def {j k : Nat} {x : Str} {ps : List Str} {st : Stmt} {F : List D → Mem → Res D} {es : List Expr} {fr : AF} {p : Pos} (T : DefT X.K X.mg x ps st) (Fk : Fn X.prog X.w X.K X.mg X.base j T.a T.fd ps F) (hr : Room k X.A) (hjk : j ≤ k) (hg : Gl X x) (tk : Takes X W) (ha : AA X W (e :: es) fr) (hn : ArgN fr ps.length)
    (hdb : (x == ("__debug__" : Str)) = false := by decide) (he : starEach (e :: es) X.env = (false, eval e X.env) :: starEach es X.env := by rfl) (hpl : (backTo pos (starEach es X.env)).any (·.1) = false := by rfl) :
    E X W (.Call (.Name x p) (e :: es) [] pos) (eCall F fr) := e_call Fk (hr.mono hjk) hg T.g T.F.kp T.b tk ha hn hdb he hpl
/-! ### the script -/
def KScr (K : PySem.W.Frag) (a : Addr) (ns : List Int) : Prop := ∃ (o : Obj) (its : Array Value) (n : Nat), K.lookup a = some o ∧ o.cls = .type "list" ∧ o.dict = none ∧ o.data = .seq its n ∧ its.size ≤ sizeLine ∧ Vals (ns.map V.int) its.toList
abbrev OScr := Option (Addr × List Int)
def OScr.Ok (o : OScr) (K : PySem.W.Frag) : Prop := match o with | some p => KScr K p.1 p.2 | none => True
def scrOf (o : OScr) (d : D) (m : Mem) : Res Src := match d with
  | .adr a => (match o with | some p => if p.1 = a then .ok (.its (p.2.map D.int)) m else .bad | none => .bad)
  | d => srcOf d m
def iScr (o : OScr) (f : EF) : IF := fun σ m => (f σ m).bind (scrOf o)
theorem reps_intsI {ns : List Int} : Reps H Z (ns.map D.int) (ns.map V.int) := by
  induction ns with
  | nil => simp [Reps]
  | cons n ns ih => exact ⟨.int n, ns.map V.int, rfl, rep_intI, ih⟩
theorem its_listK {K : PySem.W.Frag} {H : Hp} {Z : Zn} {ns : List Int} {a : Addr} (k : KScr K a ns) : Its (Itl K a) H Z (ns.map D.int) where
  go := fun i H1 Z1 m x M hi => by
    obtain ⟨d, e⟩ : ∃ d, (ns.map D.int)[i]? = some d := ⟨_, List.getElem?_eq_getElem hi⟩
    obtain ⟨v, ev, _⟩ := reps_get (H := H1) (Z := Z1) reps_intsI e
    exact ⟨_, v, .inr k, ev⟩
  yld := fun i H1 Z1 m v H' d x M e q => by
    obtain ⟨e1, e2⟩ := q
    subst e1
    obtain ⟨v', ev, rv⟩ := reps_get (H := H') (Z := Z1) reps_intsI e
    have q := e2 _ (.inr k)
    rw [ev] at q; cases q
    exact ⟨.refl _ _, M, rv⟩
  stop := fun i H1 Z1 m x M hi => ⟨_, .inr k, by simpa using hi⟩
theorem i_scr {tg l : Expr} {f : EF} {o : OScr} (ho : o.Ok X.K) (hl : E X W l f) : I X W tg l (iScr o f) := by
  refine PI.by fun σ H R ⟨Z, σd, m, S, M, h⟩ => ?_
  by_cases ha : ∃ a m1, f σd m = .ok (.adr a) m1
  · obtain ⟨a, m1, ef⟩ := ha
    have h2 := Fin.bind h
    refine ⟨_, pi_list hl, Z, σd, m, S, M, ?_⟩
    rw [ef] at h2 ⊢
    intro H1 Z1 x1 M1 v r
    have h3 := h2 H1 Z1 x1 M1
    cases o with
    | none => exact h3.elim
    | some p =>
      obtain ⟨b, ns⟩ := p
      by_cases hb : b = a
      · subst hb
        have h3 : Fin X W σ H1 Z1 (if b = b then Res.ok (Src.its (List.map D.int ns)) m1 else Res.bad) fun s _ H' Z' => ∀ (J : It), SrcOk J H' Z' s → R J H' := h3
        rw [if_pos rfl] at h3
        simp only [Rep] at r
        exact ⟨b, r, ⟨_, .inr ho⟩, h3 H1 Z1 (.refl _ _) M1 _ (its_listK ho)⟩
      · have e3 : scrOf (some (b, ns)) (D.adr a) m1 = .bad := if_neg hb
        rw [e3] at h3
        exact h3.elim
  · refine ⟨_, i_any hl, Z, σd, m, S, M, ?_⟩
    have e : (f σd m).bind (scrOf o) = (f σd m).bind srcOf := by
      cases ef : f σd m with
      | ok d m1 =>
        cases d with
        | adr a => exact (ha ⟨a, m1, ef⟩).elim
        | _ => rfl
      | exc c m1 => rfl
      | bad => rfl
    have h : Fin X W σ H Z ((f σd m).bind (scrOf o)) fun s _ H' Z' => ∀ J, SrcOk J H' Z' s → R J H' := h
    rw [e] at h
    exact h
end
/-! ### the law -/
def spLawD (K : PySem.W.Frag) : Sp := fun vs H Q _ => ∃ (a : Addr) (ns : List Int), vs = [.ref a] ∧ SqL K H a (ns.map V.int) ∧ ns.length ≤ 63 ∧ ∀ H', Q (.bl true) H'
/-- how the law's script comes in -/
inductive ScrIn (ns : List Int) : OScr → D → Prop
  | inH : ScrIn ns none (.scr (ns.map D.int))
  | inK (a : Addr) : ScrIn ns (some (a, ns)) (.adr a)
theorem mrep_nil {H : Hp} : MRep H ⟨[], []⟩ [] := ⟨rfl, List.nodup_nil, fun a h _ => (List.not_mem_nil h).elim, fun a h => (List.not_mem_nil h).elim, fun n a o h _ => by simp at h⟩
theorem law_sp {P : Program} {w : World} {K : PySem.W.Frag} {mg : Str → Option Value} {base : Heap} {k : Nat} {f : Addr} {fd : FuncData} {F : OScr → List D → Mem → Res D} (Fk : ∀ o : OScr, o.Ok K → Fn P w K mg base k f fd ["script"] (F o))
    (h : ∀ (ns : List Int) (o : OScr) (d : D), ScrIn ns o d → ns.length ≤ 63 → ∃ m, F o [d] [] = .ok (.bl true) m) : FnOk P w K mg base (L2.CX P w) k f fd ["script"] (spLawD K) := by
  have key : ∀ vs H Q Ex, spLawD K vs H Q Ex → ∃ o : OScr, o.Ok K ∧ spM mg 1 (F o) vs H Q Ex := by
    rintro vs H Q Ex ⟨a, ns, rfl, hS, hl, q⟩
    have go : ∀ (o : OScr) (d : D), ScrIn ns o d → Rep H ⟨[], []⟩ d (.ref a) → spM mg 1 (F o) [.ref a] H Q Ex := fun o d hi r => by
      obtain ⟨m, e⟩ := h ns o d hi hl
      refine ⟨rfl, ⟨[], []⟩, [d], [], reps_one r, mrep_nil, ?_⟩
      rw [e]
      intro H' Z' v x M r
      rw [rep_bl r]
      exact q H'
    rcases hS with hS | hS
    · exact ⟨none, trivial, go none _ .inH (by simp only [Rep]; exact ⟨a, _, rfl, hS, ⟨fun z => (List.not_mem_nil z).elim, fun z => (List.not_mem_nil z).elim⟩, reps_intsI⟩)⟩
    · exact ⟨some (a, ns), hS, go _ _ (.inK a) (by simp only [Rep])⟩
  refine ⟨fun vs H Q Ex hs => ?_, fun A outer s H args us vs Q Ex hr e hb hv hs => ?_⟩
  · obtain ⟨o, ho, hs⟩ := key vs H Q Ex hs
    exact (Fk o ho).len vs H Q Ex hs
  · obtain ⟨o, ho, hs⟩ := key vs H Q Ex hs
    exact (Fk o ho).run A outer s H args us vs Q Ex hr e hb hv hs
end PD
namespace PD
open PySem L2

/-! ### the words of the layer, applied -/
section
variable {σ : Sg} {m : Mem}
@[simp] theorem eVar_ap (i : Nat) : eVar i σ m = match σ[i]? with | some (some d) => .ok d m | _ => .bad := rfl
@[simp] theorem eC_ap (d : D) : eC d σ m = .ok d m := rfl
@[simp] theorem eOp_ap (op : D → D → Mem → Res D) (a b : EF) : eOp op a b σ m = (a σ m).bind fun x m => (b σ m).bind fun y m => noexc (op x y m) := rfl
@[simp] theorem eUn_ap (op : D → Mem → Res D) (a : EF) : eUn op a σ m = (a σ m).bind fun x m => noexc (op x m) := rfl
@[simp] theorem tE_ap (f : EF) : tE f σ m = (f σ m).bind asB := rfl
@[simp] theorem tCmp_ap (op : D → D → Mem → Res D) (a b : EF) : tCmp op a b σ m = ((a σ m).bind fun x m => (b σ m).bind fun y m => noexc (op x y m)).bind asB := rfl
@[simp] theorem tAnd_ap (a b : TF) : tAndD a b σ m = (a σ m).bind fun c m => if c then b σ m else .ok false m := rfl
@[simp] theorem tOr_ap (a b : TF) : tOrD a b σ m = (a σ m).bind fun c m => if c then .ok true m else b σ m := rfl
@[simp] theorem tNot_ap (a : TF) : tNotD a σ m = (a σ m).bind fun c m => .ok (!c) m := rfl
@[simp] theorem eAnd_ap (a b : EF) : eAnd a b σ m = (a σ m).bind fun x m => (asB x m).bind fun c m => if c then b σ m else .ok (.bl false) m := rfl
@[simp] theorem eOr_ap (a b : EF) : eOr a b σ m = (a σ m).bind fun x m => (asB x m).bind fun c m => if c then .ok (.bl true) m else b σ m := rfl
@[simp] theorem eNot_ap (a : EF) : eNot a σ m = (a σ m).bind fun x m => (asB x m).bind fun c m => .ok (.bl (!c)) m := rfl
@[simp] theorem eIf_ap (c : TF) (a b : EF) : eIf c a b σ m = (c σ m).bind fun k m => if k then a σ m else b σ m := rfl
@[simp] theorem eChain_ap (f g : D → D → Mem → Res D) (a b c : EF) : eChain f g a b c σ m = (a σ m).bind fun x m => (b σ m).bind fun y m => (noexc (f x y m)).bind fun z m => (asB z m).bind fun k m => if k then (c σ m).bind fun w m => noexc (g y w m) else .ok (.bl false) m := rfl
@[simp] theorem aNil_ap : aNil σ m = .ok [] m := rfl
@[simp] theorem aCons_ap (a : EF) (r : AF) : aCons a r σ m = (a σ m).bind fun x m => (r σ m).bind fun xs m => .ok (x :: xs) m := rfl
@[simp] theorem eTup_ap (a : AF) : eTup a σ m = (a σ m).bind fun xs m => noexc (newT xs m) := rfl
@[simp] theorem eLst_ap (nw : Bool) (a : AF) : eLst nw a σ m = (a σ m).bind fun xs m => noexc (newL nw xs m) := rfl
@[simp] theorem eCall_ap (F : List D → Mem → Res D) (a : AF) : eCall F a σ m = (a σ m).bind F := rfl
@[simp] theorem eB_ap (op : List D → Mem → Res D) (a : AF) : eB op a σ m = (a σ m).bind fun ds m => noexc (op ds m) := rfl
@[simp] theorem eM_ap (op : D → List D → Mem → Res D) (o : EF) (a : AF) : eM op o a σ m = (o σ m).bind fun x m => if isLs m x then (a σ m).bind fun ds m => noexc (op x ds m) else .bad := rfl
@[simp] theorem eIx_ap (a b : EF) : eIx a b σ m = (a σ m).bind fun x m => (b σ m).bind fun y m => noexc (opIx x y m) := rfl
@[simp] theorem eSl_ap (nw : Bool) (a : EF) (lo hi : PF) : eSl nw a lo hi σ m = (a σ m).bind fun x m => (lo σ m).bind fun l m => (hi σ m).bind fun u m => noexc (opSl nw x l u m) := rfl
@[simp] theorem pNone_ap : pNone σ m = .ok none m := rfl
@[simp] theorem pSome_ap (f : EF) : pSome f σ m = (f σ m).bind fun d m => match d with | .int i => .ok (some i) m | _ => .bad := rfl
@[simp] theorem eRev_ap (nw : Bool) (a : EF) : eRev nw a σ m = (a σ m).bind fun x m => noexc (opRev nw x m) := rfl
@[simp] theorem eIsi_ap (T : String) (f : EF) : eIsi T f σ m = (f σ m).bind fun d m => noexc (opIsi T d m) := rfl
@[simp] theorem eLc_ap (nw : Bool) (ws : List Nat) (fi : IF) (g : GF) (tt : TF) (te : EF) : eLc nw ws fi g tt te σ m = (fi σ m).bind fun s m1 => (noexc (lcS g tt te (wipeD σ ws) s m1)).bind fun ys m2 => noexc (newL nw ys m2) := rfl
@[simp] theorem tYes_ap : tYesD σ m = .ok true m := rfl
@[simp] theorem iE_ap (f : EF) : iE f σ m = (f σ m).bind srcOf := rfl
@[simp] theorem iA_ap (op : List D → Mem → Res Src) (a : AF) : iA op a σ m = (a σ m).bind op := rfl
@[simp] theorem sNil_ap : sNil σ m = .nx σ m := rfl
@[simp] theorem sSeq_ap (f g : SF) : sSeq f g σ m = (f σ m).then g := rfl
@[simp] theorem sBk_ap : sBk σ m = .bk σ m := rfl
@[simp] theorem sCt_ap : sCt σ m = .ct σ m := rfl
@[simp] theorem sExpr_ap (f : EF) : sExpr f σ m = (f σ m).st σ fun _ m => .nx σ m := rfl
@[simp] theorem sRet_ap (f : EF) : sRet f σ m = (f σ m).st σ fun d m => .rt d m := rfl
@[simp] theorem sRetN_ap : sRetN σ m = .rt .non m := rfl
@[simp] theorem sIf_ap (c : TF) (f g : SF) : sIf c f g σ m = (c σ m).st σ fun b m => if b then f σ m else g σ m := rfl
@[simp] theorem gN_ap (i : Nat) (d : D) : gN i d σ m = .nx (σ.set i (some d)) m := rfl
@[simp] theorem gsNil_ap : gsNil [] σ m = .nx σ m := rfl
@[simp] theorem gsCons_ap (g : GF) (r : GsF) (d : D) (ds : List D) : gsCons g r (d :: ds) σ m = (g d σ m).then (r ds) := rfl
@[simp] theorem gT_ap (n : Nat) (g : GsF) (xs : List D) : gT n g (.tup xs) σ m = if xs.length = n then g xs σ m else .bad := rfl
@[simp] theorem gIx_ap (o i : EF) (d : D) : gIx o i d σ m = match o σ m with | .ok x m1 => (match i σ m1 with | .ok y m2 => setIx x y d σ m2 | _ => .bad) | _ => .bad := rfl
@[simp] theorem sAsg_ap (g : GF) (f : EF) : sAsg g f σ m = (f σ m).st σ fun d m => g d σ m := rfl
@[simp] theorem sSet_ap (i : Nat) (f : EF) : sSet i f σ m = (f σ m).st σ fun d m => .nx (σ.set i (some d)) m := rfl
@[simp] theorem sPar_ap (i j : Nat) (a : AF) : sPar i j a σ m = (a σ m).st σ fun ds m => match ds with | [x, y] => .nx ((σ.set i (some x)).set j (some y)) m | _ => .bad := rfl
@[simp] theorem sPar3_ap (i j l : Nat) (a : AF) : sPar3 i j l a σ m = (a σ m).st σ fun ds m => match ds with | [x, y, z] => .nx (((σ.set i (some x)).set j (some y)).set l (some z)) m | _ => .bad := rfl
@[simp] theorem sAug_ap (i : Nat) (op : Int → Int → Int) (f : EF) : sAug i op f σ m = match σ[i]? with
  | some (some (.int a)) => (f σ m).st σ fun d m => (match d with | .int b => .nx (σ.set i (some (.int (op a b)))) m | _ => .bad)
  | _ => .bad := rfl
@[simp] theorem sFor_ap (i : IF) (g : GF) (b : SF) : sFor i g b σ m = (i σ m).st σ fun s m => forS g b s σ m := rfl
@[simp] theorem sRaise_ap (c : Str) : sRaise c σ m = .exc c σ m := rfl
@[simp] theorem noexc_exc {α : Type} (c : Str) : noexc (.exc c m : Res α) = .bad := rfl
/-! ### operators on what is known -/
@[simp] theorem opAddX_int (nw : Bool) (i j : Int) : opAddX nw (.int i) (.int j) m = .ok (.int (i + j)) m := rfl
@[simp] theorem opSub_int (i j : Int) : opSub (.int i) (.int j) m = .ok (.int (i - j)) m := rfl
@[simp] theorem opMulX_int (nw : Bool) (i j : Int) : opMulX nw (.int i) (.int j) m = if mulB i j then .ok (.int (i * j)) m else .bad := rfl
@[simp] theorem opFdiv_int (i j : Int) : opFdiv (.int i) (.int j) m = if divB j || divN j then .ok (.int (fdivD i j)) m else .bad := rfl
@[simp] theorem opMod_int (i j : Int) : opMod (.int i) (.int j) m = if j ≠ 0 then .ok (.int (fmodD i j)) m else .bad := rfl
@[simp] theorem opPow_int (i j : Int) : opPow (.int i) (.int j) m = if 0 ≤ j ∧ j ≤ 1000000 ∧ i.natAbs < 2 ^ 64 then .ok (.int (i ^ j.toNat)) m else .bad := rfl
@[simp] theorem opNeg_int (i : Int) : opNeg (.int i) m = .ok (.int (-i)) m := rfl
@[simp] theorem opLt_int (i j : Int) : opOrd .Lt (.int i) (.int j) m = .ok (.bl (decide (i < j))) m := rfl
@[simp] theorem opLe_int (i j : Int) : opOrd .LtE (.int i) (.int j) m = .ok (.bl (decide (i ≤ j))) m := rfl
@[simp] theorem opGt_int (i j : Int) : opOrd .Gt (.int i) (.int j) m = .ok (.bl (decide (j < i))) m := rfl
@[simp] theorem opGe_int (i j : Int) : opOrd .GtE (.int i) (.int j) m = .ok (.bl (decide (j ≤ i))) m := rfl
@[simp] theorem bAbs_int (i : Int) : bAbs [.int i] m = .ok (.int (absI i)) m := rfl
@[simp] theorem bInt_int (i : Int) : bInt [.int i] m = .ok (.int i) m := rfl
theorem newT_ok {xs : List D} (h : xs.length ≤ 16777216) : newT xs m = .ok (.tup xs) m := by
  unfold newT lenOk
  rw [decide_eq_true h, if_pos rfl]
@[simp] theorem newT0 : newT [] m = .ok (.tup []) m := rfl
@[simp] theorem newT1 (a : D) : newT [a] m = .ok (.tup [a]) m := rfl
@[simp] theorem newT2 (a b : D) : newT [a, b] m = .ok (.tup [a, b]) m := rfl
@[simp] theorem newT3 (a b c : D) : newT [a, b, c] m = .ok (.tup [a, b, c]) m := rfl
@[simp] theorem newT4 (a b c d : D) : newT [a, b, c, d] m = .ok (.tup [a, b, c, d]) m := rfl
theorem newL_f {xs : List D} (h : xs.length ≤ 16777216) : newL false xs m = .ok (.lst xs) m := by
  unfold newL lenOk
  rw [decide_eq_true h, if_pos rfl, if_neg (by decide)]
theorem newL_t {xs : List D} (h : xs.length ≤ 16777216) : newL true xs m = .ok (.ref m.length) (m ++ [.lst xs]) := by
  unfold newL lenOk
  rw [decide_eq_true h, if_pos rfl, if_pos rfl]
@[simp] theorem deref_int (i : Int) : deref m (.int i) = .int i := rfl
@[simp] theorem deref_non : deref m .non = .non := rfl
@[simp] theorem deref_bl (b : Bool) : deref m (.bl b) = .bl b := rfl
@[simp] theorem deref_str (b : Str) : deref m (.str b) = .str b := rfl
@[simp] theorem deref_tup (b : List D) : deref m (.tup b) = .tup b := rfl
@[simp] theorem deref_lst (b : List D) : deref m (.lst b) = .lst b := rfl
theorem deref_ref {n : Nat} {xs : List D} (h : m[n]? = some (.lst xs)) : deref m (.ref n) = .lst xs := by unfold deref; simp [h]
theorem isLs_ref {n : Nat} {xs : List D} (h : m[n]? = some (.lst xs)) : isLs m (.ref n) = true := by unfold isLs; rw [deref_ref h]
@[simp] theorem opIs_non (neg : Bool) (x : D) : opIs neg x .non m = .ok (.bl (neg ^^ isNon x)) m := rfl
@[simp] theorem asB_ap (b : Bool) : asB (.bl b) m = .ok b m := rfl
end
/-! ### sizes -/
class Sz (i : Int) (n : outParam Nat) : Prop where
  h : i.natAbs < 2 ^ n
theorem two_pow_le {a b : Nat} (h : a ≤ b) : 2 ^ a ≤ 2 ^ b := Nat.pow_le_pow_right (by decide) h
instance Sz.add {i j : Int} {n k : Nat} [a : Sz i n] [b : Sz j k] : Sz (i + j) (n + k + 1) := ⟨by
  have h1 := a.h
  have h2 := b.h
  have h3 : 2 ^ n ≤ 2 ^ (n + k) := two_pow_le (by omega)
  have h4 : 2 ^ k ≤ 2 ^ (n + k) := two_pow_le (by omega)
  have h5 : 2 ^ (n + k + 1) = 2 * 2 ^ (n + k) := by rw [Nat.pow_succ, Nat.mul_comm]
  have := Int.natAbs_add_le i j
  omega⟩
instance Sz.neg {i : Int} {n : Nat} [a : Sz i n] : Sz (-i) n := ⟨by rw [Int.natAbs_neg]; exact a.h⟩
instance Sz.sub {i j : Int} {n k : Nat} [a : Sz i n] [b : Sz j k] : Sz (i - j) (n + k + 1) := ⟨by
  have := (Sz.add (i := i) (j := -j)).h
  rwa [← Int.sub_eq_add_neg] at this⟩
instance Sz.mul {i j : Int} {n k : Nat} [a : Sz i n] [b : Sz j k] : Sz (i * j) (n + k) := ⟨by
  rw [Int.natAbs_mul, Nat.pow_add]
  exact Nat.mul_lt_mul_of_lt_of_lt a.h b.h⟩
instance Sz.num {n : Nat} : Sz (OfNat.ofNat n : Int) (n.log2 + 1) := ⟨by
  show ((n : Int)).natAbs < _
  rw [Int.natAbs_natCast]
  exact Nat.lt_log2_self⟩
instance Sz.zero : Sz (0 : Int) 0 := ⟨by decide⟩
instance Sz.one : Sz (1 : Int) 1 := ⟨by decide⟩
theorem Sz.of {i : Int} {n : Nat} (h : i.natAbs < 2 ^ n) : Sz i n := ⟨h⟩
theorem Sz.le {i : Int} {n k : Nat} (h : Sz i n) (hk : n ≤ k) : Sz i k := ⟨Nat.lt_of_lt_of_le h.h (two_pow_le hk)⟩
theorem log_lt {a n : Nat} (h : a < 2 ^ n) : a.log2 ≤ n := by
  by_cases h0 : a = 0
  · subst h0
    exact Nat.le_trans (by decide : Nat.log2 0 ≤ 0) (Nat.zero_le n)
  · exact Nat.le_of_lt ((Nat.log2_lt h0).mpr h)
theorem mulB_sz {i j : Int} {n k : Nat} [a : Sz i n] [b : Sz j k] (h : n + k < 1000000) : mulB i j = true := by
  unfold mulB
  have h1 := log_lt a.h
  have h2 := log_lt b.h
  exact decide_eq_true (by omega)
theorem divB_sz {j : Int} {n : Nat} (hj : 0 < j) [a : Sz j n] (h : n < 9000) : divB j = true := by
  unfold divB
  have h1 := log_lt a.h
  exact decide_eq_true ⟨hj, by omega⟩
@[simp] theorem fdivD_pos {i j : Int} (h : 0 < j) : fdivD i j = i / j := if_pos h
@[simp] theorem fmodD_pos {i j : Int} (h : 0 < j) : fmodD i j = i % j := if_pos h
/-! ### loops -/
@[simp] theorem forL_nil (g : GF) (b : SF) (σ : Sg) (m : Mem) : forL g b [] σ m = .nx σ m := rfl
theorem forL_step {g : GF} {b : SF} {x : D} {xs : List D} {σ σ1 : Sg} {m m1 : Mem} (h : g x σ m = .nx σ1 m1) : forL g b (x :: xs) σ m = turnK (b σ1 m1) (forL g b xs) := by
  rw [forL_cons, h]; rfl
@[simp] theorem turnK_nx (σ : Sg) (m : Mem) (k : SF) : turnK (.nx σ m) k = k σ m := rfl
@[simp] theorem turnK_ct (σ : Sg) (m : Mem) (k : SF) : turnK (.ct σ m) k = k σ m := rfl
@[simp] theorem turnK_bk (σ : Sg) (m : Mem) (k : SF) : turnK (.bk σ m) k = .nx σ m := rfl
@[simp] theorem turnK_rt (d : D) (m : Mem) (k : SF) : turnK (.rt d m) k = .rt d m := rfl
@[simp] theorem turnK_exc (c : Str) (σ : Sg) (m : Mem) (k : SF) : turnK (.exc c σ m) k = .exc c σ m := rfl
theorem whileN_end {c : TF} {b : SF} {n : Nat} {σ : Sg} {m : Mem} (h : c σ m = .ok false m) : whileN c b (n + 1) σ m = .nx σ m := by
  show (c σ m).st σ _ = _
  rw [h]; rfl
theorem whileN_go {c : TF} {b : SF} {n : Nat} {σ : Sg} {m m1 : Mem} (h : c σ m = .ok true m1) : whileN c b (n + 1) σ m = turnK (b σ m1) (whileN c b n) := by
  show (c σ m).st σ _ = _
  rw [h]; rfl
/-- a comprehension of calls that change nothing -/
theorem lcL_pure {g : GF} {tt : TF} {te : EF} {σw : Sg} {m : Mem} {p : D → Bool} {f : D → D} : ∀ {xs : List D}, (∀ x ∈ xs, ∃ σ1, g x σw m = .nx σ1 m ∧ tt σ1 m = .ok (p x) m ∧ (p x = true → te σ1 m = .ok (f x) m)) → lcL g tt te σw xs m = .ok ((xs.filter p).map f) m
  | [], _ => rfl
  | x :: xs, h => by
    obtain ⟨σ1, h1, h2, h3⟩ := h x List.mem_cons_self
    have ih := lcL_pure (xs := xs) fun y hy => h y (List.mem_cons_of_mem _ hy)
    unfold lcL
    rw [h1]
    simp only [h2, Res.bind_ok]
    by_cases hp : p x = true
    · rw [if_pos hp, h3 hp, List.filter_cons_of_pos hp, List.map_cons]
      simp only [Res.bind_ok, ih]
    · rw [if_neg hp, List.filter_cons_of_neg hp, ih]
/-- .. of typed items, no test -/
theorem lcL_map {α : Type} {g : GF} {te : EF} {σw : Sg} {m : Mem} {enc : α → D} {f : α → D} {xs : List α} (h : ∀ x ∈ xs, ∃ σ1, g (enc x) σw m = .nx σ1 m ∧ te σ1 m = .ok (f x) m) : lcL g tYesD te σw (xs.map enc) m = .ok (xs.map f) m := by
  induction xs with
  | nil => rfl
  | cons x xs ih =>
    obtain ⟨σ1, h1, h2⟩ := h x List.mem_cons_self
    have ih := ih fun y hy => h y (List.mem_cons_of_mem _ hy)
    rw [List.map_cons]
    unfold lcL
    simp only [h1, tYes_ap, Res.bind_ok, if_true, h2, ih, List.map_cons]
theorem lcL_filter {α : Type} {g : GF} {tt : TF} {te : EF} {σw : Sg} {m : Mem} {enc : α → D} {p : α → Bool} {f : α → D} {xs : List α} (h : ∀ x ∈ xs, ∃ σ1, g (enc x) σw m = .nx σ1 m ∧ tt σ1 m = .ok (p x) m ∧ (p x = true → te σ1 m = .ok (f x) m)) : lcL g tt te σw (xs.map enc) m = .ok ((xs.filter p).map f) m := by
  induction xs with
  | nil => rfl
  | cons x xs ih =>
    obtain ⟨σ1, h1, h2, h3⟩ := h x List.mem_cons_self
    have ih := ih fun y hy => h y (List.mem_cons_of_mem _ hy)
    rw [List.map_cons]
    unfold lcL
    simp only [h1, h2, Res.bind_ok]
    by_cases hp : p x = true
    · rw [if_pos hp, h3 hp, List.filter_cons_of_pos hp, List.map_cons]
      simp only [Res.bind_ok, ih]
    · rw [if_neg hp, List.filter_cons_of_neg hp, ih]
theorem RefR.ok {m : Mem} {r : Res D} {d : D} {m' : Mem} (h : r = .ok d m') : RefR m r (.ok d m') := .inl h
/-- .. with what it has made for itself -/
theorem RefR.drop {m : Mem} {r : Res D} {d : D} {more : Mem} (h : r = .ok d (m ++ more)) (hc : cl m.length d = true) : RefR m r (.ok d m) := .inr ⟨more, d, h, .inl ⟨rfl, hc⟩, rfl, fun i o e => .inl e⟩
theorem RefR.exc {m : Mem} {r : Res D} {c : Str} {more : Mem} (h : r = .exc c (m ++ more)) : RefR m r (.exc c m) := ⟨more, h, rfl, fun i o e => .inl e⟩
end PD
namespace PD
open PySem
def isT (t : List (Str × Str)) (c x : Str) : Bool := t.contains (c, x)
end PD
namespace PD
open PySem L2
/-! ### equality, membership, order of data -/
def eqDs (xs ys : List D) : Bool := PyData.eqvAll (toPys xs) (toPys ys)
@[simp] theorem eqD_int (i j : Int) : eqD (.int i) (.int j) = decide (i = j) := by
  show (i == j) = _
  rw [Bool.eq_iff_iff]; simp
@[simp] theorem eqD_bl (i j : Bool) : eqD (.bl i) (.bl j) = decide (i = j) := by
  show (i == j) = _
  rw [Bool.eq_iff_iff]; simp
@[simp] theorem eqD_str (i j : Str) : eqD (.str i) (.str j) = decide (i = j) := by
  show (i == j) = _
  rw [Bool.eq_iff_iff]; simp
@[simp] theorem eqD_tup (xs ys : List D) : eqD (.tup xs) (.tup ys) = eqDs xs ys := rfl
@[simp] theorem eqD_lst (xs ys : List D) : eqD (.lst xs) (.lst ys) = eqDs xs ys := rfl
@[simp] theorem eqD_non : eqD .non .non = true := rfl
@[simp] theorem eqD_non_int (i : Int) : eqD .non (.int i) = false := rfl
@[simp] theorem eqD_non_tup (i : List D) : eqD .non (.tup i) = false := rfl
@[simp] theorem eqD_tup_non (i : List D) : eqD (.tup i) .non = false := rfl
@[simp] theorem eqD_int_non (i : Int) : eqD (.int i) .non = false := rfl
@[simp] theorem eqD_tup_lst (i j : List D) : eqD (.tup i) (.lst j) = false := rfl
@[simp] theorem eqD_lst_tup (i j : List D) : eqD (.lst i) (.tup j) = false := rfl
@[simp] theorem eqD_tup_int (i : List D) (j : Int) : eqD (.tup i) (.int j) = false := rfl
@[simp] theorem eqD_int_tup (i : List D) (j : Int) : eqD (.int j) (.tup i) = false := rfl
@[simp] theorem eqDs_nil : eqDs [] [] = true := rfl
@[simp] theorem eqDs_cons (x y : D) (xs ys : List D) : eqDs (x :: xs) (y :: ys) = (eqD x y && eqDs xs ys) := rfl
@[simp] theorem eqDs_nc (y : D) (ys : List D) : eqDs [] (y :: ys) = false := rfl
@[simp] theorem eqDs_cn (x : D) (xs : List D) : eqDs (x :: xs) [] = false := rfl
@[simp] theorem eqDs_n (xs : List D) : eqDs xs [] = xs.isEmpty := by cases xs <;> rfl
theorem eqDs_map {α : Type} [DecidableEq α] {enc : α → D} (h : ∀ x y, eqD (enc x) (enc y) = decide (x = y)) : ∀ xs ys : List α, eqDs (xs.map enc) (ys.map enc) = decide (xs = ys)
  | [], [] => rfl
  | [], _ :: _ => rfl
  | _ :: _, [] => rfl
  | x :: xs, y :: ys => by
    rw [List.map_cons, List.map_cons, eqDs_cons, h, eqDs_map h xs ys, Bool.eq_iff_iff]
    simp
@[simp] theorem sh_int (n : Nat) (i : Int) : sh n (.int i) = true := by cases n <;> rfl
@[simp] theorem sh_bl (n : Nat) (i : Bool) : sh n (.bl i) = true := by cases n <;> rfl
@[simp] theorem sh_non (n : Nat) : sh n .non = true := by cases n <;> rfl
@[simp] theorem sh_tup (n : Nat) (xs : List D) : sh (n + 1) (.tup xs) = shs n xs := rfl
@[simp] theorem sh_lst (n : Nat) (xs : List D) : sh (n + 1) (.lst xs) = shs n xs := rfl
@[simp] theorem shs_nil (n : Nat) : shs n [] = true := by cases n <;> rfl
@[simp] theorem shs_cons (n : Nat) (x : D) (xs : List D) : shs n (x :: xs) = (sh n x && shs n xs) := by cases n <;> rfl
theorem sh60_tup (xs : List D) : sh 60 (.tup xs) = shs 59 xs := rfl
theorem sh60_lst (xs : List D) : sh 60 (.lst xs) = shs 59 xs := rfl
theorem shs_map {α : Type} {n : Nat} {enc : α → D} : ∀ {xs : List α}, (∀ x ∈ xs, sh n (enc x) = true) → shs n (xs.map enc) = true
  | [], _ => by simp
  | x :: xs, h => by
    rw [List.map_cons, shs_cons, h x List.mem_cons_self, shs_map fun y hy => h y (List.mem_cons_of_mem _ hy)]; rfl
section
variable {m : Mem}
theorem opEq_of {x y : D} (h1 : sh 60 (deref m x) = true) (h2 : sh 60 (deref m y) = true) : opEq x y m = .ok (.bl (eqD (deref m x) (deref m y))) m := by
  unfold opEq; rw [h1, h2]; rfl
theorem opNe_of {x y : D} (h1 : sh 60 (deref m x) = true) (h2 : sh 60 (deref m y) = true) : opNe x y m = .ok (.bl (!eqD (deref m x) (deref m y))) m := by
  unfold opNe; rw [h1, h2]; rfl
@[simp] theorem opEq_int (i j : Int) : opEq (.int i) (.int j) m = .ok (.bl (decide (i = j))) m := by rw [opEq_of rfl rfl]; simp
@[simp] theorem opNe_int (i j : Int) : opNe (.int i) (.int j) m = .ok (.bl (!decide (i = j))) m := by rw [opNe_of rfl rfl]; simp
@[simp] theorem isi_int_int (i : Int) : opIsi "int" (.int i) m = .ok (.bl true) m := rfl
@[simp] theorem isi_bool_int (i : Int) : opIsi "bool" (.int i) m = .ok (.bl false) m := rfl
@[simp] theorem isi_int_bl (i : Bool) : opIsi "int" (.bl i) m = .ok (.bl true) m := rfl
@[simp] theorem isi_bool_bl (i : Bool) : opIsi "bool" (.bl i) m = .ok (.bl true) m := rfl
@[simp] theorem isi_int_non : opIsi "int" .non m = .ok (.bl false) m := rfl
@[simp] theorem isi_int_tup (i : List D) : opIsi "int" (.tup i) m = .ok (.bl false) m := rfl
@[simp] theorem isi_int_lst (i : List D) : opIsi "int" (.lst i) m = .ok (.bl false) m := rfl
@[simp] theorem isi_int_str (i : Str) : opIsi "int" (.str i) m = .ok (.bl false) m := rfl
@[simp] theorem isi_tup_tup (i : List D) : opIsi "tuple" (.tup i) m = .ok (.bl true) m := rfl
@[simp] theorem isi_tup_int (i : Int) : opIsi "tuple" (.int i) m = .ok (.bl false) m := rfl
@[simp] theorem isi_tup_bl (i : Bool) : opIsi "tuple" (.bl i) m = .ok (.bl false) m := rfl
@[simp] theorem isi_tup_lst (i : List D) : opIsi "tuple" (.lst i) m = .ok (.bl false) m := rfl
@[simp] theorem isi_tup_non : opIsi "tuple" .non m = .ok (.bl false) m := rfl
theorem isi_tup_ref {n : Nat} {xs : List D} (h : m[n]? = some (.lst xs)) : opIsi "tuple" (.ref n) m = .ok (.bl false) m := by
  have e : tyN m (.ref n) = "list" := by unfold tyN; simp only [h]
  unfold opIsi; rw [e]; rfl
@[simp] theorem bLen_tup (xs : List D) : bLen [.tup xs] m = .ok (.int xs.length) m := rfl
@[simp] theorem bLen_lst (xs : List D) : bLen [.lst xs] m = .ok (.int xs.length) m := rfl
theorem bLen_ref {n : Nat} {xs : List D} (h : m[n]? = some (.lst xs)) : bLen [.ref n] m = .ok (.int xs.length) m := by
  unfold bLen; simp only [deref_ref h]
theorem ix_tup_nat {xs : List D} {i : Nat} {d : D} (h : xs[i]? = some d) : opIx (.tup xs) (.int i) m = .ok d m := by
  show (match atI xs (i : Int) with | some d => Res.ok d m | none => .bad) = _
  rw [atI_nat h]
theorem ix_lst_nat {xs : List D} {i : Nat} {d : D} (h : xs[i]? = some d) : opIx (.lst xs) (.int i) m = .ok d m := by
  show (match atI xs (i : Int) with | some d => Res.ok d m | none => .bad) = _
  rw [atI_nat h]
theorem ix_ref_nat {n : Nat} {xs : List D} {i : Nat} {d : D} (hm : m[n]? = some (.lst xs)) (h : xs[i]? = some d) : opIx (.ref n) (.int i) m = .ok d m := by
  unfold opIx; simp only [deref_ref hm, atI_nat h]
theorem atI_lastD {xs : List D} {d : D} (h : xs.getLast? = some d) : atI xs (-1) = some d := by
  obtain ⟨ys, rfl⟩ : ∃ ys, xs = ys ++ [d] := by
    rw [List.getLast?_eq_some_iff] at h
    exact h
  exact atI_last ys d
theorem ix_tup_last {xs : List D} {d : D} (h : xs.getLast? = some d) : opIx (.tup xs) (.int (-1)) m = .ok d m := by
  show (match atI xs (-1) with | some d => Res.ok d m | none => .bad) = _
  rw [atI_lastD h]
theorem ix_ref_last {n : Nat} {xs : List D} {d : D} (hm : m[n]? = some (.lst xs)) (h : xs.getLast? = some d) : opIx (.ref n) (.int (-1)) m = .ok d m := by
  unfold opIx; simp only [deref_ref hm, atI_lastD h]
@[simp] theorem ix0 (x : D) (xs : List D) : opIx (.tup (x :: xs)) (.int 0) m = .ok x m := ix_tup_nat (i := 0) rfl
@[simp] theorem ix1 (x y : D) (xs : List D) : opIx (.tup (x :: y :: xs)) (.int 1) m = .ok y m := ix_tup_nat (i := 1) rfl
@[simp] theorem ix2 (x y z : D) (xs : List D) : opIx (.tup (x :: y :: z :: xs)) (.int 2) m = .ok z m := ix_tup_nat (i := 2) rfl
@[simp] theorem ix3 (x y z w : D) (xs : List D) : opIx (.tup (x :: y :: z :: w :: xs)) (.int 3) m = .ok w m := ix_tup_nat (i := 3) rfl
/-- slices of tuples -/
theorem sIx_natD {n d i : Nat} : HT.sIx n d (some (i : Int)) = min i n := HT.sIx_nat n d i
theorem sIx_noneD {n d : Nat} : HT.sIx n d none = d := HT.sIx_none n d
theorem cut_nn (xs : List D) : cutD xs none none = xs := by simp [cutD, sIx_noneD]
theorem cut_from (xs : List D) (i : Nat) : cutD xs (some i) none = xs.drop i := by
  unfold cutD
  rw [sIx_natD, sIx_noneD]
  by_cases h : i ≤ xs.length
  · rw [Nat.min_eq_left h, List.take_of_length_le (by simp)]
  · rw [Nat.min_eq_right (by omega), List.drop_length, List.drop_eq_nil_of_le (by omega)]; simp
theorem cut_range (xs : List D) (i j : Nat) : cutD xs (some i) (some j) = (xs.drop i).take (j - i) := by
  unfold cutD
  rw [sIx_natD, sIx_natD]
  by_cases h : i ≤ xs.length
  · rw [Nat.min_eq_left h]
    by_cases h2 : j ≤ xs.length
    · rw [Nat.min_eq_left h2]
    · rw [Nat.min_eq_right (show xs.length ≤ j by omega), List.take_of_length_le (by simp), List.take_of_length_le (by simp; omega)]
  · have e1 : xs.drop (min i xs.length) = [] := List.drop_eq_nil_of_le (by omega)
    have e2 : xs.drop i = [] := List.drop_eq_nil_of_le (by omega)
    rw [e1, e2]; simp
end
end PD
namespace PD
open PySem L2
theorem bools_map {α : Type} (f : α → Bool) : ∀ xs : List α, bools (xs.map fun x => D.bl (f x)) = some (xs.map f)
  | [] => rfl
  | x :: xs => by
    show (bools (xs.map fun x => D.bl (f x))).map (f x :: ·) = _
    rw [bools_map f xs]; rfl
theorem bAll_map {α : Type} (f : α → Bool) (xs : List α) (m : Mem) : bAllB false [.lst (xs.map fun x => D.bl (f x))] m = .ok (.bl (xs.all f)) m := by
  unfold bAllB
  simp only [deref_lst, bools_map]
  rw [if_neg (by decide), List.all_map]; rfl
theorem bAny_map {α : Type} (f : α → Bool) (xs : List α) (m : Mem) : bAllB true [.lst (xs.map fun x => D.bl (f x))] m = .ok (.bl (xs.any f)) m := by
  unfold bAllB
  simp only [deref_lst, bools_map]
  rw [if_pos trivial, List.any_map]; rfl
theorem opSl_tup {nw : Bool} {xs : List D} {lo hi : Option Int} {m : Mem} (h : xs.length ≤ 16777216) : opSl nw (.tup xs) lo hi m = .ok (.tup (cutD xs lo hi)) m := by
  show newT (cutD xs lo hi) m = _
  refine newT_ok ?_
  unfold cutD
  rw [List.length_take, List.length_drop]
  omega
theorem opSl_lstF {xs : List D} {lo hi : Option Int} {m : Mem} (h : xs.length ≤ 16777216) : opSl false (.lst xs) lo hi m = .ok (.lst (cutD xs lo hi)) m := by
  show newL false (cutD xs lo hi) m = _
  refine newL_f ?_
  unfold cutD
  rw [List.length_take, List.length_drop]
  omega
theorem opRev_tup {nw : Bool} {xs : List D} {m : Mem} (h : xs.length ≤ 16777216) : opRev nw (.tup xs) m = .ok (.tup xs.reverse) m := by
  show newT xs.reverse m = _
  exact newT_ok (by simpa using h)
end PD
namespace PD
open PySem L2
theorem sortD_sorted (xs : List D) : (sortD xs).Pairwise fun a b => leD a b = true := PySem.W.sort_pairwise (le := leD) (PySem.W.sortLe_total (PyProof.Rows.listOrd PyProof.Rows.itemOrd) false fun b => PySem.W.keyToks (toPy b)) xs
theorem sortD_perm (xs : List D) : (sortD xs).Perm xs := List.mergeSort_perm _ _
theorem sortD_map {α : Type} {enc : α → D} (xs : List α) : sortD (xs.map enc) = (xs.mergeSort fun a b => leD (enc a) (enc b)).map enc := by
  unfold sortD
  exact (List.map_mergeSort (r := fun a b => leD (enc a) (enc b)) (s := leD) (f := enc) (l := xs) fun a _ b _ => rfl).symm
theorem leD_eq (a b : D) : leD a b = !PySem.W.dataLt (toPy b) (toPy a) := rfl
/-- a list of the memory written at one place -/
theorem setIx_ok {n j : Nat} {xs : List D} {d : D} {σ : Sg} {m : Mem} (hm : m[n]? = some (.lst xs)) (hj : j < xs.length) : setIx (.ref n) (.int j) d σ m = .nx σ (m.set n (.lst (xs.set j d))) := by
  unfold setIx
  have e : ixN xs.length (j : Int) = some j := by
    unfold ixN
    rw [if_pos (by omega), if_pos (by omega)]
    simp
  simp only [hm, e]
theorem mAppend_ok {n : Nat} {xs : List D} {d : D} {m : Mem} (hm : m[n]? = some (.lst xs)) (hl : xs.length < 16777216) : mAppend (.ref n) [d] m = .ok .non (m.set n (.lst (xs ++ [d]))) := by
  unfold mAppend
  have : lenOk (xs.length + 1) = true := decide_eq_true (by omega)
  simp only [hm, this, if_true]
theorem bTuple_ref {n : Nat} {xs : List D} {m : Mem} (hm : m[n]? = some (.lst xs)) (hl : xs.length ≤ 16777216) : bTuple [.ref n] m = .ok (.tup xs) m := by
  unfold bTuple
  simp only [deref_ref hm]
  exact newT_ok hl
theorem bTuple_lst {xs : List D} {m : Mem} (hl : xs.length ≤ 16777216) : bTuple [.lst xs] m = .ok (.tup xs) m := by
  show newT xs m = _
  exact newT_ok hl
end PD
namespace PD
open PySem L2
theorem bnd_of {i : Int} (h1 : -1000000000 ≤ i) (h2 : i ≤ 1000000000) : bnd i = true := bnd_iff.mpr ⟨h1, h2⟩
theorem range1_ok {j : Int} {m : Mem} (h : bnd j = true) : range1 [.int j] m = .ok (.its (rngL 0 j.toNat)) m := by
  unfold range1; simp only [h, if_true]
theorem range2_ok {i j : Int} {m : Mem} (h1 : bnd i = true) (h2 : bnd j = true) : range2 [.int i, .int j] m = .ok (.its (rngL i (j - i).toNat)) m := by
  unfold range2; simp only [h1, h2, Bool.and_self, if_true]
theorem range3_ok {i j : Int} {m : Mem} (h1 : bnd i = true) (h2 : bnd j = true) : range3 [.int i, .int j, .int (-1)] m = .ok (.its (rngC i (-1) (i - j).toNat)) m := by
  unfold range3; simp only [h1, h2, Bool.and_self, decide_true, if_true]
end PD
namespace PD
open PySem L2
/-! ### the box of drawn numbers, the same in every law -/
def boxD (xs : List Int) (a b c : Int) : MO := .lst [.int a, .int b, .int c, .lst (xs.map D.int)]
def Mb (M : Mem) (n : Nat) (xs : List Int) (a b c : Int) : Mem := M.set n (boxD xs a b c)
structure BoxAt (M : Mem) (n : Nat) (xs : List Int) : Prop where
  lt : n < M.length
  nn : ∀ x ∈ xs, 0 ≤ x
  len : xs.length ≤ 1000
  at' : ∃ a b c : Int, M[n]? = some (boxD xs a b c) ∧ 0 ≤ a ∧ -9 ≤ b ∧ b ≤ 60 ∧ 0 ≤ c ∧ (b < 0 → a < 1000000000000000000)
section
variable {M : Mem} {n : Nat} {xs : List Int} {a b c : Int}
theorem Mb_get (h : n < M.length) : (Mb M n xs a b c)[n]? = some (boxD xs a b c) := by
  unfold Mb
  rw [List.getElem?_set_self h]
theorem Mb_self (e : M[n]? = some (boxD xs a b c)) : M = Mb M n xs a b c := by
  unfold Mb
  obtain ⟨h, e⟩ := List.getElem?_eq_some_iff.mp e
  rw [← e]
  exact (List.set_getElem_self h).symm
theorem ixb0 (h : n < M.length) : opIx (.ref n) (.int 0) (Mb M n xs a b c) = .ok (.int a) (Mb M n xs a b c) := ix_ref_nat (i := 0) (Mb_get h) rfl
theorem ixb1 (h : n < M.length) : opIx (.ref n) (.int 1) (Mb M n xs a b c) = .ok (.int b) (Mb M n xs a b c) := ix_ref_nat (i := 1) (Mb_get h) rfl
theorem ixb2 (h : n < M.length) : opIx (.ref n) (.int 2) (Mb M n xs a b c) = .ok (.int c) (Mb M n xs a b c) := ix_ref_nat (i := 2) (Mb_get h) rfl
theorem ixb3 (h : n < M.length) : opIx (.ref n) (.int 3) (Mb M n xs a b c) = .ok (.lst (xs.map D.int)) (Mb M n xs a b c) := ix_ref_nat (i := 3) (Mb_get h) rfl
theorem stb0 (h : n < M.length) (v : Int) (σ : Sg) : setIx (.ref n) (.int 0) (.int v) σ (Mb M n xs a b c) = .nx σ (Mb M n xs v b c) := by
  have := setIx_ok (j := 0) (d := .int v) (σ := σ) (Mb_get (xs := xs) (a := a) (b := b) (c := c) h) (by simp)
  rw [show ((0 : Nat) : Int) = 0 from rfl] at this
  rw [this]
  unfold Mb boxD
  rw [List.set_set]; rfl
theorem stb1 (h : n < M.length) (v : Int) (σ : Sg) : setIx (.ref n) (.int 1) (.int v) σ (Mb M n xs a b c) = .nx σ (Mb M n xs a v c) := by
  have := setIx_ok (j := 1) (d := .int v) (σ := σ) (Mb_get (xs := xs) (a := a) (b := b) (c := c) h) (by simp)
  rw [show ((1 : Nat) : Int) = 1 from rfl] at this
  rw [this]
  unfold Mb boxD
  rw [List.set_set]; rfl
theorem stb2 (h : n < M.length) (v : Int) (σ : Sg) : setIx (.ref n) (.int 2) (.int v) σ (Mb M n xs a b c) = .nx σ (Mb M n xs a b v) := by
  have := setIx_ok (j := 2) (d := .int v) (σ := σ) (Mb_get (xs := xs) (a := a) (b := b) (c := c) h) (by simp)
  rw [show ((2 : Nat) : Int) = 2 from rfl] at this
  rw [this]
  unfold Mb boxD
  rw [List.set_set]; rfl
def takeA : SF := sSeq (sSet 2 (eIx (eVar 0) (eC (.int 2)))) (sSeq (sSet 3 (eC (.int 0))) (sSeq (sIf (tCmp (opOrd .Lt) (eVar 2) (eB bLen (aCons (eIx (eVar 0) (eC (.int 3))) (aNil)))) (sSeq (sSet 3 (eIx (eIx (eVar 0) (eC (.int 3))) (eVar 2))) (sAsg (gIx (eVar 0) (eC (.int 1))) (eIf (tCmp (opOrd .GtE) (eVar 3) (eOp opPow (eC (.int 10)) (eC (.int 18)))) (eC (.int 60)) (eUn opNeg (eC (.int 9)))))) (sNil)) (sSeq (sAsg (gIx (eVar 0) (eC (.int 2))) (eOp (opAddX false) (eVar 2) (eC (.int 1)))) (sSeq (sAsg (gIx (eVar 0) (eC (.int 0))) (eVar 3)) (sIf (tCmp opEq (eIx (eVar 0) (eC (.int 1))) (eC (.int 0))) (sRet (eC (.int 0))) (sNil))))))
def takeB : SF := sSeq (sIf (tCmp (opOrd .Gt) (eIx (eVar 0) (eC (.int 1))) (eC (.int 0))) (sSeq (sSet 4 (eOp opMod (eB bInt (aCons (eIx (eVar 0) (eC (.int 0))) (aNil))) (eVar 1))) (sSeq (sAsg (gIx (eVar 0) (eC (.int 0))) (eOp opFdiv (eIx (eVar 0) (eC (.int 0))) (eVar 1))) (sSeq (sAsg (gIx (eVar 0) (eC (.int 1))) (eIf (tCmp (opOrd .Gt) (eIx (eVar 0) (eC (.int 0))) (eC (.int 0))) (eOp opSub (eIx (eVar 0) (eC (.int 1))) (eC (.int 1))) (eC (.int 0)))) (sRet (eVar 4))))) (sNil)) (sSeq (sAsg (gIx (eVar 0) (eC (.int 1))) (eOp (opAddX false) (eIx (eVar 0) (eC (.int 1))) (eC (.int 1)))) (sSeq (sAsg (gIx (eVar 0) (eC (.int 0))) (eOp opMod (eB bInt (aCons (eOp (opAddX false) (eOp (opMulX false) (eIx (eVar 0) (eC (.int 0))) (eC (.int 48271))) (eOp (opMulX false) (eC (.int 69621)) (eOp (opAddX false) (eIx (eVar 0) (eC (.int 1))) (eC (.int 20))))) (aNil))) (eC (.int 2147483647)))) (sRet (eOp opMod (eOp opMod (eB bInt (aCons (eOp (opAddX false) (eOp opFdiv (eIx (eVar 0) (eC (.int 0))) (eC (.int 7))) (eIx (eVar 0) (eC (.int 0)))) (aNil))) (eC (.int 1000003))) (eVar 1)))))
def takeSF : SF := sSeq (sIf (tCmp opEq (eIx (eVar 0) (eC (.int 1))) (eC (.int 0))) takeA (sNil)) takeB
def BOk (a b c : Int) : Prop := 0 ≤ a ∧ -9 ≤ b ∧ b ≤ 60 ∧ 0 ≤ c ∧ (b < 0 → a < 1000000000000000000)
theorem take_b (h : n < M.length) {k : Int} (hk : 0 < k) (hk2 : k.natAbs < 2 ^ 8000) (ok : BOk a b c) (hb : b ≠ 0) (s2 s3 : Option D) : ∃ r a' b' s4, takeB [some (.ref n), some (.int k), s2, s3, none] (Mb M n xs a b c) = .rt (.int r) (Mb M n xs a' b' c) ∧ 0 ≤ r ∧ r < k ∧ BOk a' b' c ∧ s4 = (0 : Int) := by
  obtain ⟨h1, h2, h3, h4, h5⟩ := ok
  have hd : divB k = true := @divB_sz k 8000 hk ⟨hk2⟩ (by omega)
  have hk0 : k ≠ 0 := by omega
  by_cases hp : 0 < b
  · have q0 : 0 ≤ a / k := Int.ediv_nonneg h1 (by omega)
    by_cases hq : 0 < a / k
    · refine ⟨a % k, a / k, b - 1, 0, ?_, Int.emod_nonneg _ hk0, Int.emod_lt_of_pos _ hk, ⟨q0, by omega, by omega, h4, fun z => by omega⟩, rfl⟩
      simp [takeB, ixb0 h, ixb1 h, hp, hk0, hd, hk, stb0 h, stb1 h, hq]
    · refine ⟨a % k, a / k, 0, 0, ?_, Int.emod_nonneg _ hk0, Int.emod_lt_of_pos _ hk, ⟨q0, by omega, by omega, h4, fun z => by omega⟩, rfl⟩
      simp [takeB, ixb0 h, ixb1 h, hp, hk0, hd, hk, stb0 h, stb1 h, hq]
  · have hn : b < 0 := by omega
    have ha := h5 hn
    have z1 : Sz a 60 := ⟨by
      have : (2 : Nat) ^ 60 = 1152921504606846976 := by decide
      omega⟩
    have z2 : Sz (b + 1 + 20) 10 := ⟨by
      have : (2 : Nat) ^ 10 = 1024 := by decide
      omega⟩
    have z3 : Sz (48271 : Int) 16 := ⟨by decide⟩
    have z4 : Sz (69621 : Int) 17 := ⟨by decide⟩
    have m1 : mulB a 48271 = true := @mulB_sz _ _ _ _ z1 z3 (by decide)
    have m2 : mulB 69621 (b + 1 + 20) = true := @mulB_sz _ _ _ _ z4 z2 (by decide)
    have hd7 : (divB 7 || divN 7) = true := by decide
    generalize hA : (a * 48271 + 69621 * (b + 1 + 20)) % 2147483647 = A
    have hA0 : 0 ≤ A := by rw [← hA]; exact Int.emod_nonneg _ (by decide)
    have hA1 : A < 2147483647 := by rw [← hA]; exact Int.emod_lt_of_pos _ (by decide)
    refine ⟨(A / 7 + A) % 1000003 % k, A, b + 1, 0, ?_, Int.emod_nonneg _ hk0, Int.emod_lt_of_pos _ hk, ⟨hA0, by omega, by omega, h4, fun z => by omega⟩, rfl⟩
    have f1 : ∀ i : Int, fmodD i 2147483647 = i % 2147483647 := fun i => fmodD_pos (by decide)
    have f2 : ∀ i : Int, fmodD i 1000003 = i % 1000003 := fun i => fmodD_pos (by decide)
    have f3 : ∀ i : Int, fdivD i 7 = i / 7 := fun i => fdivD_pos (by decide)
    simp [takeB, ixb0 h, ixb1 h, hp, hk0, hk, stb0 h, stb1 h, m1, m2, f1, f2, f3, hA, hd7]
theorem take_ok (B : BoxAt M n xs) {k : Int} (hk : 0 < k) (hk2 : k.natAbs < 2 ^ 8000) : ∃ r o, fnR 5 takeSF [.ref n, .int k] M = .ok (.int r) (M.set n o) ∧ 0 ≤ r ∧ r < k ∧ BoxAt (M.set n o) n xs := by
  obtain ⟨h, nn, hlen, a, b, c, e, ok⟩ := B
  have done : ∀ {r a' b' c' : Int}, takeSF [some (.ref n), some (.int k), none, none, none] (Mb M n xs a b c) = .rt (.int r) (Mb M n xs a' b' c') → 0 ≤ r → r < k → BOk a' b' c' →
      ∃ r o, fnR 5 takeSF [.ref n, .int k] M = .ok (.int r) (M.set n o) ∧ 0 ≤ r ∧ r < k ∧ BoxAt (M.set n o) n xs := fun {r a' b' c'} et r0 rk ok' => by
    refine ⟨r, boxD xs a' b' c', ?_, r0, rk, ⟨by rw [List.length_set]; exact h, nn, hlen, a', b', c', by rw [List.getElem?_set_self h], ok'⟩⟩
    unfold fnR
    have es : startD 5 [D.ref n, D.int k] = [some (.ref n), some (.int k), none, none, none] := rfl
    rw [es]
    conv => lhs; rw [Mb_self e]
    rw [et]
    rfl
  by_cases hb : b = 0
  · subst hb
    obtain ⟨h1, h2, h3, h4, h5⟩ := ok
    obtain ⟨j, rfl⟩ : ∃ j : Nat, c = j := ⟨c.toNat, by omega⟩
    have p10 : (10 : Int) ^ (18 : Int).toNat = 1000000000000000000 := by decide
    by_cases hc : j < xs.length
    · have hc' : (j : Int) < (xs.length : Int) := by omega
      have hx0 : 0 ≤ xs[j] := nn _ (List.getElem_mem hc)
      have ix : ∀ m : Mem, opIx (.lst (xs.map D.int)) (.int j) m = .ok (.int xs[j]) m := fun m => ix_lst_nat (by rw [List.getElem?_map, List.getElem?_eq_getElem hc]; rfl)
      by_cases hbig : 1000000000000000000 ≤ xs[j]
      · obtain ⟨r, a', b', _, et, r0, rk, ok', _⟩ := take_b (M := M) (xs := xs) (a := xs[j]) (b := 60) (c := (j : Int) + 1) h hk hk2 ⟨hx0, by decide, by decide, by omega, fun z => by omega⟩ (by decide) (some (.int j)) (some (.int xs[j]))
        refine done (r := r) (a' := a') (b' := b') (c' := (j : Int) + 1) ?_ r0 rk ok'
        rw [← et]
        simp [takeSF, takeA, ixb0 h, ixb1 h, ixb2 h, ixb3 h, hc', ix, p10, hbig, stb0 h, stb1 h, stb2 h]
      · obtain ⟨r, a', b', _, et, r0, rk, ok', _⟩ := take_b (M := M) (xs := xs) (a := xs[j]) (b := -9) (c := (j : Int) + 1) h hk hk2 ⟨hx0, by decide, by decide, by omega, fun z => by omega⟩ (by decide) (some (.int j)) (some (.int xs[j]))
        refine done (r := r) (a' := a') (b' := b') (c' := (j : Int) + 1) ?_ r0 rk ok'
        rw [← et]
        simp [takeSF, takeA, ixb0 h, ixb1 h, ixb2 h, ixb3 h, hc', ix, p10, hbig, stb0 h, stb1 h, stb2 h]
    · have hc' : ¬ (j : Int) < (xs.length : Int) := by omega
      refine done (r := 0) (a' := 0) (b' := 0) (c' := (j : Int) + 1) ?_ (by decide) hk ⟨by decide, by decide, by decide, by omega, fun z => by omega⟩
      simp [takeSF, takeA, ixb0 h, ixb1 h, ixb2 h, ixb3 h, hc', stb0 h, stb1 h, stb2 h]
  · obtain ⟨r, a', b', _, et, r0, rk, ok', _⟩ := take_b (M := M) (xs := xs) (a := a) (b := b) (c := c) h hk hk2 ok hb none none
    refine done (r := r) (a' := a') (b' := b') (c' := c) ?_ r0 rk ok'
    rw [← et]
    simp [takeSF, ixb1 h, hb]
end
end PD
namespace PD
open PySem L2
def pickSF (F : List D → Mem → Res D) : SF := sRet (eIx (eVar 1) (eCall F (aCons (eVar 0) (aCons (eB bLen (aCons (eVar 1) (aNil))) (aNil)))))
def boxSF (scr : OScr) : SF := sRet (eLst true (aCons (eC (.int 0)) (aCons (eC (.int 0)) (aCons (eC (.int 0)) (aCons (eLc false [1] (iScr scr (eVar 0)) (gN 1) (tYesD) (eB bAbs (aCons (eB bInt (aCons (eVar 1) (aNil))) (aNil)))) (aNil))))))
theorem natL_sz {k : Nat} (h : k ≤ 16777216) : ((k : Int)).natAbs < 2 ^ 8000 := by
  rw [Int.natAbs_natCast]
  refine Nat.lt_of_le_of_lt h ?_
  exact Nat.lt_of_lt_of_le (by decide : 16777216 < 2 ^ 25) (Nat.pow_le_pow_right (by decide) (by decide))
theorem intS_sz {k : Int} (h0 : 0 ≤ k) (h : k ≤ 16777216) : k.natAbs < 2 ^ 8000 := by
  obtain ⟨n, rfl⟩ : ∃ n : Nat, k = n := ⟨k.toNat, by omega⟩
  exact natL_sz (by omega)
theorem pick_ev {F : List D → Mem → Res D} {menu y : D} {n : Nat} {L r : Int} {M M' : Mem} (hl : bLen [menu] M = .ok (.int L) M) (hF : F [.ref n, .int L] M = .ok (.int r) M') (ix : opIx menu (.int r) M' = .ok y M') : fnR 2 (pickSF F) [.ref n, menu] M = .ok y M' := by
  unfold fnR
  have es : startD 2 [D.ref n, menu] = [some (.ref n), some menu] := rfl
  rw [es]
  simp only [pickSF, sRet_ap, eIx_ap, eVar_ap, List.getElem?_cons_zero, List.getElem?_cons_succ, Res.bind_ok, eCall_ap, aCons_ap, eB_ap, aNil_ap, hl, noexc_ok, hF, ix, Res.st_ok]
/-- a draw from a list's value -/
theorem pick_lst {M : Mem} {n : Nat} {xs : List Int} (B : BoxAt M n xs) {ys : List D} (h : 0 < ys.length) (hl : ys.length ≤ 16777216) : ∃ y ∈ ys, ∃ o, fnR 2 (pickSF (fnR 5 takeSF)) [.ref n, .lst ys] M = .ok y (M.set n o) ∧ BoxAt (M.set n o) n xs := by
  obtain ⟨r, o, e, r0, r1, B'⟩ := take_ok B (k := (ys.length : Int)) (by omega) (natL_sz hl)
  obtain ⟨j, rfl⟩ : ∃ j : Nat, r = j := ⟨r.toNat, by omega⟩
  have hj : j < ys.length := by omega
  refine ⟨ys[j], List.getElem_mem hj, o, ?_, B'⟩
  exact pick_ev (bLen_lst ys) e (ix_lst_nat (List.getElem?_eq_getElem hj))
theorem pick_tup {M : Mem} {n : Nat} {xs : List Int} (B : BoxAt M n xs) {ys : List D} (h : 0 < ys.length) (hl : ys.length ≤ 16777216) : ∃ y ∈ ys, ∃ o, fnR 2 (pickSF (fnR 5 takeSF)) [.ref n, .tup ys] M = .ok y (M.set n o) ∧ BoxAt (M.set n o) n xs := by
  obtain ⟨r, o, e, r0, r1, B'⟩ := take_ok B (k := (ys.length : Int)) (by omega) (natL_sz hl)
  obtain ⟨j, rfl⟩ : ∃ j : Nat, r = j := ⟨r.toNat, by omega⟩
  have hj : j < ys.length := by omega
  refine ⟨ys[j], List.getElem_mem hj, o, ?_, B'⟩
  exact pick_ev (bLen_tup ys) e (ix_tup_nat (List.getElem?_eq_getElem hj))
/-- .. from a list of the memory -/
theorem pick_ref {M : Mem} {n p : Nat} {xs : List Int} (B : BoxAt M n xs) (hp : p ≠ n) {ys : List D} (e0 : M[p]? = some (.lst ys)) (h : 0 < ys.length) (hl : ys.length ≤ 16777216) : ∃ y ∈ ys, ∃ o, fnR 2 (pickSF (fnR 5 takeSF)) [.ref n, .ref p] M = .ok y (M.set n o) ∧ BoxAt (M.set n o) n xs := by
  obtain ⟨r, o, e, r0, r1, B'⟩ := take_ok B (k := (ys.length : Int)) (by omega) (natL_sz hl)
  obtain ⟨j, rfl⟩ : ∃ j : Nat, r = j := ⟨r.toNat, by omega⟩
  have hj : j < ys.length := by omega
  refine ⟨ys[j], List.getElem_mem hj, o, ?_, B'⟩
  exact pick_ev (bLen_ref e0) e (ix_ref_nat (by rw [List.getElem?_set_ne (Ne.symm hp)]; exact e0) (List.getElem?_eq_getElem hj))
/-- the box is made -/
theorem box_ok {ns : List Int} {o : OScr} {d : D} (hi : ScrIn ns o d) (hl : ns.length ≤ 63) (m : Mem) : ∃ xs, fnR 2 (boxSF o) [d] m = .ok (.ref m.length) (m ++ [boxD xs 0 0 0]) ∧ BoxAt (m ++ [boxD xs 0 0 0]) m.length xs := by
  have hs : scrOf o d m = .ok (.its (ns.map D.int)) m := by
    cases hi with
    | inH => rfl
    | inK a => exact if_pos rfl
  have hlc : lcL (gN 1) tYesD (eB bAbs (aCons (eB bInt (aCons (eVar 1) (aNil))) (aNil))) [some d, none] (ns.map D.int) m = .ok (ns.map fun x => .int (absI x)) m :=
    lcL_map fun x _ => ⟨[some d, some (.int x)], rfl, by simp⟩
  have hn := newL_f (m := m) (xs := ns.map fun x => D.int (absI x)) (by rw [List.length_map]; omega)
  refine ⟨ns.map absI, ?_, ⟨by simp, fun x hx => ?_, by rw [List.length_map]; omega, 0, 0, 0, by simp, by decide, by decide, by decide, by decide, fun z => by omega⟩⟩
  · unfold fnR
    have es : startD 2 [d] = [some d, none] := rfl
    rw [es]
    have hi' : iScr o (eVar 0) [some d, none] m = .ok (.its (ns.map D.int)) m := hs
    simp [boxSF, hi', wipeD, hlc, hn]
    rw [newL_t (by simp)]
    simp [boxD, List.map_map]
  · obtain ⟨y, _, rfl⟩ := List.mem_map.mp hx
    unfold absI
    split <;> omega
end PD
namespace PD
open PySem PySem.Spec L2
open PyProof.Rows hiding St

/-! ### keys -/
mutual
def numK : NestedKey → Bool
  | .none => true
  | .num _ => true
  | .text _ => false
  | .tup ks => numKs ks
def numKs : List NestedKey → Bool
  | [] => true
  | k :: ks => numK k && numKs ks
end
mutual
theorem num_hash (w w' : World) : ∀ k : NestedKey, numK k = true → k.hash w = k.hash w'
  | .none, _ => by simp only [NestedKey.hash]
  | .num i, _ => by simp only [NestedKey.hash]
  | .text x, h => by simp [numK] at h
  | .tup ks, h => by
    simp only [NestedKey.hash]
    rw [num_hashes w w' ks (by simpa [numK] using h)]
theorem num_hashes (w w' : World) : ∀ ks : List NestedKey, numKs ks = true → NestedKey.hashes w ks = NestedKey.hashes w' ks
  | [], _ => by simp only [NestedKey.hashes]
  | k :: ks, h => by
    have h' : numK k = true ∧ numKs ks = true := by simpa [numKs] using h
    simp only [NestedKey.hashes]
    rw [num_hash w w' k h'.1, num_hashes w w' ks h'.2]
end
mutual
theorem keyD_num : ∀ (d : D) (k : NestedKey), keyD d = some k → numK k = true
  | .int i, k, h => by simp only [keyD] at h; cases h; rfl
  | .non, k, h => by simp only [keyD] at h; cases h; rfl
  | .tup xs, k, h => by
    simp only [keyD, Option.map_eq_some_iff] at h
    obtain ⟨ks, e, rfl⟩ := h
    show numKs ks = true
    exact keyDs_num xs ks e
  | .bl b, k, h => by simp [keyD] at h
  | .str b, k, h => by simp [keyD] at h
  | .lst b, k, h => by simp [keyD] at h
  | .ref b, k, h => by simp [keyD] at h
  | .scr b, k, h => by simp [keyD] at h
  | .adr b, k, h => by simp [keyD] at h
theorem keyDs_num : ∀ (ds : List D) (ks : List NestedKey), keyDs ds = some ks → numKs ks = true
  | [], ks, h => by simp only [keyDs] at h; cases h; rfl
  | d :: ds, ks, h => by
    simp only [keyDs, Option.bind_eq_some_iff, Option.map_eq_some_iff] at h
    obtain ⟨k, e, r, e2, rfl⟩ := h
    show (numK k && numKs r) = true
    rw [keyD_num d k e, keyDs_num ds r e2]; rfl
end
section
variable {X : Cx} {pins : List (Addr × Obj)} {σ : St} {H : Hp} {s : Shared} {Z : Zn}
mutual
/-- data that is a key, in the heap -/
theorem nest_of (I : Inv X pins σ H s) : ∀ (d : D) (k : NestedKey) (v : V) (u : Value), Rep H Z d v → RelV v u → keyD d = some k → NestedIs s.heap k u
  | .int i, k, v, u, r, ru, h => by
    simp only [keyD] at h; cases h
    simp only [Rep] at r; subst r
    obtain ⟨t, rfl⟩ := ru
    exact .int i t
  | .non, k, v, u, r, ru, h => by
    simp only [keyD] at h; cases h
    simp only [Rep] at r; subst r
    obtain rfl : u = Value.none := ru
    exact .none
  | .tup xs, k, v, u, r, ru, h => by
    simp only [keyD, Option.map_eq_some_iff] at h
    obtain ⟨ks, e, rfl⟩ := h
    simp only [Rep] at r
    obtain ⟨a, vs, rfl, rd, o, rs⟩ := r
    obtain rfl : u = Value.ref a := ru
    obtain ⟨its, rv, ⟨ob, ho, hc, n, hd⟩, _⟩ := I.tuple (.inl rd)
    exact .tup ho hc hd (by simpa using nests_of I xs ks vs its rs rv e)
  | .bl b, k, _, _, _, _, h => by simp [keyD] at h
  | .str b, k, _, _, _, _, h => by simp [keyD] at h
  | .lst b, k, _, _, _, _, h => by simp [keyD] at h
  | .ref b, k, _, _, _, _, h => by simp [keyD] at h
  | .scr b, k, _, _, _, _, h => by simp [keyD] at h
  | .adr b, k, _, _, _, _, h => by simp [keyD] at h
theorem nests_of (I : Inv X pins σ H s) : ∀ (ds : List D) (ks : List NestedKey) (vs : List V) (us : List Value), Reps H Z ds vs → Vals vs us → keyDs ds = some ks → NestedAll s.heap ks us
  | [], ks, vs, us, r, ru, h => by
    simp only [keyDs] at h; cases h
    simp only [Reps] at r; subst r
    cases ru
    exact .nil
  | d :: ds, ks, vs, us, r, ru, h => by
    simp only [keyDs, Option.bind_eq_some_iff, Option.map_eq_some_iff] at h
    obtain ⟨k, e, ks', e2, rfl⟩ := h
    simp only [Reps] at r
    obtain ⟨v, r', rfl, r1, r2⟩ := r
    cases ru with
    | cons q1 q2 => exact .cons (nest_of I d k v _ r1 q1 e) (nests_of I ds ks' r' _ r2 q2 e2)
end
end

/-! ### a dict, as it lies -/
theorem Paired.comp {α β γ : Type} {F : α → β → Prop} {G : β → γ → Prop} : ∀ {a : List α} {b : List β} {c : List γ}, Paired F a b → Paired G b c → Paired (fun x z => ∃ y, F x y ∧ G y z) a c
  | _, _, _, .nil, .nil => .nil
  | _, _, _, .cons p r, .cons q t => .cons ⟨_, p, q⟩ (Paired.comp r t)
theorem Paired.right {α β : Type} {F : α → β → Prop} : ∀ {a : List α} {b : List β}, Paired F a b → ∀ y ∈ b, ∃ x ∈ a, F x y
  | _, _, .nil, _, h => by cases h
  | _, _, .cons p r, y, h => by
    rcases List.mem_cons.mp h with rfl | h
    · exact ⟨_, List.mem_cons_self, p⟩
    · obtain ⟨x, hx, e⟩ := Paired.right r y h
      exact ⟨x, List.mem_cons_of_mem _ hx, e⟩
def DRel (H : Hp) (Z : Zn) (p : D × D) (q : NestedKey × Addr × Value) : Prop := keyD p.1 = some q.1 ∧ ∃ v, RelV v q.2.2 ∧ Rep H Z p.1 (.ref q.2.1) ∧ Rep H Z p.2 v
abbrev LRel (H : Hp) (Z : Zn) (p : D × D) (q : NestedKey × Addr × V) : Prop := keyD p.1 = some q.1 ∧ Rep H Z p.1 (.ref q.2.1) ∧ Rep H Z p.2 q.2.2
abbrev VRel (p : NestedKey × Addr × V) (q : NestedKey × Addr × Value) : Prop := p.1 = q.1 ∧ p.2.1 = q.2.1 ∧ RelV p.2.2 q.2.2
theorem drel_split {H : Hp} {Z : Zn} : ∀ {kvs : List (D × D)} {xs : List (NestedKey × Addr × Value)}, Paired (DRel H Z) kvs xs → ∃ L, Paired (LRel H Z) kvs L ∧ Paired VRel L xs ∧ L.map (·.1) = xs.map (·.1)
  | _, _, .nil => ⟨[], .nil, .nil, rfl⟩
  | _, _, .cons (b := q) p r => by
    obtain ⟨L, h1, h2, h3⟩ := drel_split r
    obtain ⟨e, v, rv, r1, r2⟩ := p
    exact ⟨(q.1, q.2.1, v) :: L, .cons ⟨e, r1, r2⟩ h1, .cons ⟨rfl, rfl, rv⟩ h2, by rw [List.map_cons, List.map_cons, h3]⟩
structure DAt (X : Cx) (H : Hp) (Z : Zn) (h : Heap) (a : Addr) (kvs : List (D × D)) (xs : List (NestedKey × Addr × Value)) : Prop where
  sys : (a == sysModules) = false
  le : xs.length ≤ sizeLine
  dep : ∀ p ∈ xs, p.1.depth ≤ 8
  rel : Paired (DRel H Z) kvs xs
  dict : h.DictOfH (nestedKind X.prog X.w) a xs
section
variable {X : Cx} {pins : List (Addr × Obj)} {σ : St} {H : Hp} {s : Shared} {Z : Zn} {m : Mem}
theorem dct_at (I : Inv X pins σ H s) (M : MRep H Z m) {n : Nat} {lk : Bool} {kvs : List (D × D)} {v : V} (em : m[n]? = some (.dct lk kvs)) (r : Rep H Z (.ref n) v) :
    ∃ a L u xs, v = .ref a ∧ Z.ρ[n]? = some a ∧ H a = some u ∧ lkO lk (dctO L a) u ∧ Paired (LRel H Z) kvs L ∧ Paired VRel L xs ∧ DAt X H Z s.heap a kvs xs := by
  simp only [Rep] at r
  obtain ⟨a, ea, rfl⟩ := r
  obtain ⟨L, u, hu, hl, hp⟩ := M.obj n a _ ea em
  have ok : ObjOk X.prog X.w H s.heap a (dctO L a) := by
    cases lk with
    | false =>
      have e : u = dctO L a := hl
      subst e
      exact I.hok a _ hu
    | true =>
      obtain ⟨od, e⟩ := (show ∃ od, u = .frz od (dctO L a) from hl)
      subst e
      exact (I.hok a _ hu).2
  obtain ⟨⟨h1, h2, h3, h4, xs, h5, o, es, ep, g1, g2, g3, g4⟩, _, _⟩ := ok
  have hlen : L.length = xs.length := Paired.length h5
  have hkeys : ∀ {L : List (NestedKey × Addr × V)} {xs : List (NestedKey × Addr × Value)}, Paired VRel L xs → L.map (·.1) = xs.map (·.1) := by
    intro L xs h
    induction h with
    | nil => rfl
    | cons p _ ih => rw [List.map_cons, List.map_cons, ih, p.1]
  have rel : Paired (DRel H Z) kvs xs := Paired.mapP (Paired.comp hp h5) fun p q ⟨y, e1, e2⟩ => ⟨by rw [← e2.1]; exact e1.1, y.2.2, e2.2.2, by rw [← e2.2.1]; exact e1.2.1, e1.2.2⟩
  have dep : ∀ p ∈ xs, p.1.depth ≤ 8 := fun p hp => by
    obtain ⟨q, hq, e⟩ := Paired.right h5 p hp
    rw [← e.1]
    exact h4 q hq
  refine ⟨a, L, u, xs, rfl, ea, hu, hl, hp, h5, h1, by omega, dep, rel, o, es, ep, g1, g2, g3, ?_, fun x hx => ?_, ?_⟩
  · rw [g4 X.w]; rfl
  · obtain ⟨p, _, e⟩ := Paired.right rel x hx
    exact ⟨nest_of I p.1 x.1 _ _ e.2.choose_spec.2.1 rfl e.1, dep x hx⟩
  · rw [← hkeys h5]; exact h3
/-- .. and the other way -/
theorem dct_new {a : Addr} {h' : Heap} {kvs : List (D × D)} {xs : List (NestedKey × Addr × Value)} {L : List (NestedKey × Addr × V)} {H' : Hp} {H0 : Hp} {Z0 : Zn} (rel : Paired (DRel H0 Z0) kvs xs) (hs : (a == sysModules) = false) (hl : xs.length ≤ sizeLine) (hd : ∀ p ∈ xs, p.1.depth ≤ 8)
    (hv : Paired VRel L xs) (hk : L.map (·.1) = xs.map (·.1)) (dd : h'.DictOfH (nestedKind X.prog X.w) a xs) : ObjOk X.prog X.w H' h' a (dctO L a) := by
  obtain ⟨o, es, ep, g1, g2, g3, g4, g5, g6⟩ := dd
  refine ⟨⟨hs, by rw [Paired.length hv]; exact hl, by rw [hk]; exact g6, fun p hp => ?_, xs, hv, o, es, ep, g1, g2, g3, fun w => ?_⟩, ⟨o, g1⟩, ?_⟩
  · have hm : p.1 ∈ xs.map (·.1) := by rw [← hk]; exact List.mem_map_of_mem hp
    obtain ⟨q, hq, e⟩ := List.mem_map.mp hm
    rw [← e]
    exact hd q hq
  · rw [g4]
    refine List.map_congr_left fun x hx => ?_
    obtain ⟨p, _, e⟩ := Paired.right rel x hx
    show DictEntry.mk (x.1.hash X.w) _ _ = DictEntry.mk (x.1.hash w) _ _
    rw [num_hash X.w w x.1 (keyD_num _ _ e.1)]
  · rintro h1 h2 ⟨q1, q2, q3, q4, ys, q5, o', es', ep', k1, k2, k3, k4⟩ st
    exact ⟨q1, q2, q3, q4, ys, q5, o', es', ep', st o' k1, k2, k3, k4⟩
end

/-! ### what a dict tells -/
def dFind (kvs : List (D × D)) (k : NestedKey) : Option D := (kvs.find? fun p => decide (keyD p.1 = some k)).map (·.2)
def dPut (kvs : List (D × D)) (y : D) (k : NestedKey) (d : D) : List (D × D) := if (dFind kvs k).isSome then kvs.map fun p => if keyD p.1 = some k then (p.1, d) else p else kvs ++ [(y, d)]
/-- a key: a tuple, not too deep -/
def keyT (y : D) : Option NestedKey := match y with | .tup xs => (match keyD (.tup xs) with | some k => if k.depth ≤ 8 then some k else none | none => none) | _ => none
theorem keyT_of {y : D} {k : NestedKey} (h : keyT y = some k) : (∃ xs, y = .tup xs) ∧ keyD y = some k ∧ k.depth ≤ 8 := by
  unfold keyT at h
  split at h
  · rename_i xs
    split at h
    · rename_i k' e
      split at h
      · rename_i hd
        cases h
        exact ⟨⟨xs, rfl⟩, e, hd⟩
      · cases h
    · cases h
  · cases h
section
variable {H : Hp} {Z : Zn}
theorem dfind_at (k : NestedKey) : ∀ {kvs : List (D × D)} {xs : List (NestedKey × Addr × Value)}, Paired (DRel H Z) kvs xs →
    (∀ d, dFind kvs k = some d → ∃ q, atKey xs k = some q ∧ ∃ v, RelV v q.2 ∧ Rep H Z d v) ∧ (dFind kvs k = none → atKey xs k = none)
  | _, _, .nil => ⟨fun d h => by simp [dFind] at h, fun _ => rfl⟩
  | _, _, .cons (a := p) (b := q) (l₁ := kvs) (l₂ := xs) e r => by
    obtain ⟨ih1, ih2⟩ := dfind_at k r
    by_cases hk : q.1 = k
    · have e1 : keyD p.1 = some k := by rw [e.1, hk]
      have e2 : dFind (p :: kvs) k = some p.2 := by simp [dFind, e1]
      have e3 : atKey (q :: xs) k = some q.2 := by simp [atKey, hk]
      refine ⟨fun d h => ?_, fun h => by rw [e2] at h; cases h⟩
      rw [e2] at h
      cases h
      obtain ⟨_, v, rv, _, r2⟩ := e
      exact ⟨q.2, e3, v, rv, r2⟩
    · have e1 : ¬ keyD p.1 = some k := by rw [e.1]; exact fun z => hk (Option.some.inj z)
      have e2 : dFind (p :: kvs) k = dFind kvs k := by simp [dFind, e1]
      have e3 : atKey (q :: xs) k = atKey xs k := by simp [atKey, hk]
      rw [e2, e3]
      exact ⟨ih1, ih2⟩
theorem dput_at {k : NestedKey} {y d : D} {b : Addr} {v : V} {u : Value} (hy : keyD y = some k) (ry : Rep H Z y (.ref b)) (rv : RelV v u) (rd : Rep H Z d v) {kvs : List (D × D)} {xs : List (NestedKey × Addr × Value)} (h : Paired (DRel H Z) kvs xs) : Paired (DRel H Z) (dPut kvs y k d) (storedH xs k b u) := by
  have hf := dfind_at k h
  unfold dPut storedH
  cases e : dFind kvs k with
  | some d' =>
    obtain ⟨q, eq, _⟩ := hf.1 d' e
    rw [eq]
    simp only [Option.isSome_some, if_true]
    clear hf e eq
    induction h with
    | nil => exact .nil
    | @cons p q ps qs z t ih =>
      rw [List.map_cons, List.map_cons]
      refine .cons ?_ ih
      by_cases hk : q.1 = k
      · have e1 : keyD p.1 = some k := by rw [z.1, hk]
        rw [if_pos e1, putAt, if_pos hk]
        exact ⟨z.1, v, rv, z.2.choose_spec.2.1, rd⟩
      · have e1 : ¬ keyD p.1 = some k := by rw [z.1]; exact fun z => hk (Option.some.inj z)
        rw [if_neg e1, putAt, if_neg hk]
        exact z
  | none =>
    rw [hf.2 e]
    simp only [Option.isSome_none, Bool.false_eq_true, if_false]
    have app : ∀ {kvs : List (D × D)} {xs : List (NestedKey × Addr × Value)}, Paired (DRel H Z) kvs xs → Paired (DRel H Z) (kvs ++ [(y, d)]) (xs ++ [(k, b, u)]) := by
      intro kvs xs h
      induction h with
      | nil => exact .cons ⟨hy, v, rv, ry, rd⟩ .nil
      | cons z _ ih => exact .cons z ih
    exact app h
end
end PD
namespace PD
open PySem PySem.Spec L2
open PyProof.Rows hiding St

/-! ### {} -/
def eDnew : EF := fun _ m => .ok (.ref m.length) (m ++ [.dct false []])
theorem e_dnew {X : Cx} {W : WX} {pos : Pos} : E X W (.Dict [] [] pos) eDnew := by
  have h0 : PE X (.Dict [] [] pos) (fun _ H Q => ∀ p, H p = none → Q (.ref p) (upd H p (dctO [] p))) := ⟨fun pins s σ H Q I h =>
    wpAny_Dict_empty ⟨.ref s.heap.objs.size, _, I.laid (a := s.heap.objs.size) (o := dctO [] s.heap.objs.size) (t' := s.toks) (fun _ _ q => Heap.get?_push_of_some _ q) (Nat.le_refl _)
      (dct_new (kvs := []) (xs := []) (L := []) (H0 := H) (Z0 := ⟨[], []⟩) .nil (beq_eq_false_iff_ne.mpr (Ne.symm (Nat.ne_of_lt I.big))) (Nat.zero_le _) (fun _ h => by cases h) .nil rfl (Heap.DictOfH.new _)), rfl, h _ (I.hok.fresh (Nat.le_refl _))⟩⟩
  refine PE.imp h0 fun σ H Q ⟨Z, σd, m, S, M, h⟩ p n => ?_
  refine h _ (Z.add p) (Ext.add M n) (M.add n ⟨[], _, upd_same, rfl, .nil⟩) _ ?_
  simp only [Rep]
  exact ⟨p, by rw [M.len, List.getElem?_append_right (Nat.le_refl _), Nat.sub_self]; rfl, rfl⟩

/-! ### x in d, d[x] -/
def dctM (m : Mem) (d : D) : Option (List (D × D)) := match d with | .ref n => (match m[n]? with | some (.dct _ kvs) => some kvs | _ => none) | _ => none
theorem dctM_of {m : Mem} {d : D} {kvs : List (D × D)} (h : dctM m d = some kvs) : ∃ n lk, d = .ref n ∧ m[n]? = some (.dct lk kvs) := by
  unfold dctM at h
  split at h
  · rename_i n
    split at h
    · rename_i lk kvs' e
      cases h
      exact ⟨n, lk, rfl, e⟩
    · cases h
  · cases h
def opDin (neg : Bool) (x y : D) (m : Mem) : Res D := match keyT x, dctM m y with | some k, some kvs => .ok (.bl (neg ^^ (dFind kvs k).isSome)) m | _, _ => .bad
def opDix (x y : D) (m : Mem) : Res D := match dctM m x, keyT y with | some kvs, some k => (match dFind kvs k with | some d => .ok d m | none => .bad) | _, _ => .bad
section
variable {X : Cx}
theorem keyIs_of {pins : List (Addr × Obj)} {σ : St} {H : Hp} {s : Shared} {Z : Zn} (I : Inv X pins σ H s) {y : D} {k : NestedKey} {v : V} (hk : keyT y = some k) (r : Rep H Z y v) : ∃ b, v = .ref b ∧ (nestedKind X.prog X.w).is s.heap k b := by
  obtain ⟨⟨xs, rfl⟩, e, hd⟩ := keyT_of hk
  have r' := r
  simp only [Rep] at r'
  obtain ⟨b, vs, rfl, _⟩ := r'
  exact ⟨b, rfl, nest_of I _ k _ _ r rfl e, hd⟩
theorem find_some {H : Hp} {Z : Zn} {kvs : List (D × D)} {xs : List (NestedKey × Addr × Value)} (r : Paired (DRel H Z) kvs xs) (k : NestedKey) : (atKey xs k).isSome = (dFind kvs k).isSome := by
  have h := dfind_at k r
  cases e : dFind kvs k with
  | some d => obtain ⟨q, eq, _⟩ := h.1 d e; rw [eq]; rfl
  | none => rw [h.2 e]; rfl
theorem op_din_ok (hu : X.A.units + 64 < cLine) : OpR X (compareOp .In) (rdO2 (opDin false)) := by
  intro pins s σ H x y v u Q I rx ry ⟨Z, m, dx, dy, px, py, M, h⟩
  unfold opDin at h
  split at h
  · rename_i k kvs ek ed
    obtain ⟨n, lk, rfl, em⟩ := dctM_of ed
    obtain ⟨a, L, w, xs, rfl, ea, hw, hl, hp, hv, dd⟩ := dct_at I M em py
    obtain ⟨b, rfl, hkey⟩ := keyIs_of I ek px
    obtain rfl : v = Value.ref b := rx
    obtain rfl : u = Value.ref a := ry
    refine wpAny_in_heap (knd := nestedKind X.prog X.w) (by show X.A.in1.units + 8 < cLine; rw [Around.in1_units]; omega) hkey dd.sys dd.dict ?_
    rw [find_some dd.rel k]
    exact ⟨.bl (dFind kvs k).isSome, H, I.tok _, rfl, fin_ok h M (by simp only [Rep]; rw [Bool.false_xor])⟩
  · exact h.elim
theorem op_dnin_ok (hu : X.A.units + 64 < cLine) : OpR X (compareOp .NotIn) (rdO2 (opDin true)) := by
  intro pins s σ H x y v u Q I rx ry ⟨Z, m, dx, dy, px, py, M, h⟩
  unfold opDin at h
  split at h
  · rename_i k kvs ek ed
    obtain ⟨n, lk, rfl, em⟩ := dctM_of ed
    obtain ⟨a, L, w, xs, rfl, ea, hw, hl, hp, hv, dd⟩ := dct_at I M em py
    obtain ⟨b, rfl, hkey⟩ := keyIs_of I ek px
    obtain rfl : v = Value.ref b := rx
    obtain rfl : u = Value.ref a := ry
    refine wpAny_notIn_heap (knd := nestedKind X.prog X.w) (by show X.A.in1.units + 8 < cLine; rw [Around.in1_units]; omega) hkey dd.sys dd.dict ?_
    rw [find_some dd.rel k]
    exact ⟨.bl (!(dFind kvs k).isSome), H, I.tok _, rfl, fin_ok h M (by simp only [Rep]; rw [Bool.true_xor])⟩
  · exact h.elim
theorem ix_dct_ok (hu : X.A.units + 64 < cLine) : IxR X (rdO2 opDix) := by
  intro value slice pins s σ H x y v u Q I rx ry ⟨Z, m, dx, dy, px, py, M, h⟩ hs
  unfold opDix at h
  split at h
  · rename_i kvs k ed ek
    obtain ⟨n, lk, rfl, em⟩ := dctM_of ed
    obtain ⟨a, L, w, xs, rfl, ea, hw, hl, hp, hv, dd⟩ := dct_at I M em px
    obtain ⟨b, rfl, hkey⟩ := keyIs_of I ek py
    obtain rfl : v = Value.ref a := rx
    obtain rfl : u = Value.ref b := ry
    split at h
    · rename_i d ef
      obtain ⟨q, eq, z, rz, pz⟩ := (dfind_at k dd.rel).1 d ef
      have fin : EP X pins σ Q q.2 { s with toks := s.toks + (nestedKind X.prog X.w).draws k } := ⟨z, H, I.tok _, rz, fin_ok h M pz⟩
      exact subscriptTail_builtinR (x := q.2) dd.dict.typeIs PySem.F.slot_dict_getitem.lookup
        (wpAny_getItem_heap (Q := fun r s' => r = q.2 ∧ EP X pins σ Q r s') (by show X.A.in1.units + 8 < cLine; rw [Around.in1_units]; omega) hkey dd.dict eq ⟨rfl, fin⟩) hs
    · exact h.elim
  · exact h.elim
variable {W : WX} {pos p2 : Pos} {a b : Expr} {fa fb : EF}
def eDix (a b : EF) : EF := eOp opDix a b
theorem e_dix (hu : X.A.units + 64 < cLine) (ha : E X W a fa) (hb : E X W b fb) (hs : PlainIx b := by intro _ _; rfl) : E X W (.Subscript a b pos) (eDix fa fb) := PE.imp (pe_ix (ix_dct_ok hu) ha hb hs) fun _ _ _ h => rd_op h

/-! ### d[x] = y -/
def setDx (x y d : D) (σ : Sg) (m : Mem) : SRes := match x, keyT y with
  | .ref n, some k => (match m[n]? with | some (.dct false kvs) => if lenOk (kvs.length + 1) then .nx σ (m.set n (.dct false (dPut kvs y k d))) else .bad | _ => .bad)
  | _, _ => .bad
def gDx (o i : EF) : GF := fun d σ m => match o σ m with | .ok x m1 => (match i σ m1 with | .ok y m2 => setDx x y d σ m2 | _ => .bad) | _ => .bad
theorem gok_dx {o i : EF} : GOk (gDx o i) := fun d σ m => by
  unfold gDx
  split
  · split
    · unfold setDx
      split
      · split
        · split
          · exact .inl ⟨_, _, rfl⟩
          · exact .inr rfl
        · exact .inr rfl
      · exact .inr rfl
    · exact .inr rfl
  · exact .inr rfl
theorem setDx_nx {x y d : D} {σ σ1 : Sg} {m m1 : Mem} (h : setDx x y d σ m = .nx σ1 m1) : ∃ n k kvs, x = .ref n ∧ keyT y = some k ∧ m[n]? = some (.dct false kvs) ∧ kvs.length < sizeLine ∧ σ1 = σ ∧ m1 = m.set n (.dct false (dPut kvs y k d)) := by
  unfold setDx at h
  split at h
  · rename_i n k ek
    split at h
    · rename_i kvs em
      split at h
      · rename_i hl
        cases h
        have := lenOk_le hl
        exact ⟨n, k, kvs, rfl, ek, em, by omega, rfl, rfl⟩
      · cases h
    · cases h
  · cases h
theorem nf_dct {H : Hp} {p : Addr} {L : List (NestedKey × Addr × V)} (h : H p = some (dctO L p)) : ∀ od u, H p ≠ some (.frz od u) := fun od u z => by rw [h] at z; cases z
def rSetDX : TSet := fun o i v H Q => ∃ Z m n y k kvs d, Rep H Z (.ref n) o ∧ Rep H Z y i ∧ Rep H Z d v ∧ MRep H Z m ∧ m[n]? = some (.dct false kvs) ∧ keyT y = some k ∧ kvs.length < sizeLine ∧
  ∀ H', Ext Z H Z H' → MRep H' Z (m.set n (.dct false (dPut kvs y k d))) → Q H'
theorem set_dctX (hu : X.A.units + 64 < cLine) : PSet X rSetDX := by
  intro pins s σ H o i v ov iv u Q I ro ri rv ⟨Z, m, n, y, k, kvs, d, po, pi, pv, M, em, ek, hl, q⟩
  obtain ⟨a, L, w, xs, rfl, ea, hw, hlk, hp, hv, dd⟩ := dct_at I M em po
  obtain rfl : w = dctO L a := hlk
  obtain ⟨b, rfl, hkey⟩ := keyIs_of I ek pi
  obtain rfl : ov = Value.ref a := ro
  obtain rfl : iv = Value.ref b := ri
  have hlen : kvs.length = xs.length := Paired.length dd.rel
  refine wpAny_setItem_heap (hsz := dd.le) (by show X.A.in1.units + 8 < cLine; rw [Around.in1_units]; omega) hkey dd.dict fun h' hd' sb => ?_
  have rel' : Paired (DRel H Z) (dPut kvs y k d) (storedH xs k b u) := dput_at (keyT_of ek).2.1 pi rv pv dd.rel
  obtain ⟨L', g1, g2, g3⟩ := drel_split rel'
  have hl' : (storedH xs k b u).length ≤ sizeLine := by
    unfold storedH
    split
    · rw [List.length_map]; exact dd.le
    · rw [List.length_append, List.length_singleton]; omega
  have hd8 : ∀ p ∈ storedH xs k b u, p.1.depth ≤ 8 := by
    intro p hp
    unfold storedH at hp
    split at hp
    · obtain ⟨z, hz, rfl⟩ := List.mem_map.mp hp
      unfold putAt
      split
      · exact dd.dep z hz
      · exact dd.dep z hz
    · rcases List.mem_append.mp hp with h | h
      · exact dd.dep p h
      · rw [List.mem_singleton] at h; subst h; exact (keyT_of ek).2.2
  have new : ObjOk X.prog X.w (upd H a (dctO L' a)) h' a (dctO L' a) := dct_new rel' dd.sys hl' hd8 g2 g3 hd'
  have he : ∃ q, h'.get? a = some q := by
    obtain ⟨o, _, _, e, _⟩ := hd'
    exact ⟨o, e⟩
  have I' := d_write (t' := s.toks + (nestedKind X.prog X.w).draws k) I (a := a) (by rw [hw]; exact trivial) sb he new
  have x : Ext Z H Z (upd H a (dctO L' a)) := ext_upd ea (nf_dct hw)
  refine ⟨_, I', q _ x (M.set ea (nf_dct hw) ⟨L', _, upd_same, rfl, Paired.mapP g1 fun p q z => ⟨z.1, Rep.ext x _ _ z.2.1, Rep.ext x _ _ z.2.2⟩⟩)⟩
theorem g_dx (hu : X.A.units + 64 < cLine) {ws : List Nat} {o i : Expr} {fo fi : EF} (ho : E X W o fo) (hi : E X W i fi)
    (ha : ∀ v, assign (.Subscript o i pos) X.env v = (do
      let ov ← holding [v] (eval o X.env)
      let iv ← holding [v, ov] (eval i X.env)
      standAt pos
      holding [v, ov, iv] (setItem ov iv v)
      release [v, ov, iv] []) := by intro _; rfl) : G X ws (.Subscript o i pos) (gDx fo fi) := by
  refine PG.imp (pg_sub ho hi (set_dctX hu) ha) fun v σ H Q ⟨Z, σd, m, d, S, M, r, σ1, m1, eg, q⟩ => ?_
  unfold gDx at eg
  cases eo : fo σd m with
  | ok x m2 =>
    rw [eo] at eg
    simp only at eg
    refine ⟨Z, σd, m, S, M, ?_⟩
    rw [eo]
    intro H2 Z2 x2 M2 xv rx
    refine ⟨Z2, σd, m2, S.ext x2, M2, ?_⟩
    cases ei : fi σd m2 with
    | ok y m3 =>
      rw [ei] at eg
      intro H3 Z3 x3 M3 yv ry
      obtain ⟨n, k, kvs, rfl, ek, em, hl, rfl, rfl⟩ := setDx_nx eg
      refine ⟨Z3, m3, n, y, k, kvs, d, Rep.ext x3 _ _ rx, ry, Rep.ext (x2.trans x3) _ _ r, M3, em, ek, hl, fun H' x4 M' => ?_⟩
      exact q _ _ _ ((x2.trans x3).trans x4) M' (S.ext ((x2.trans x3).trans x4)) rfl
    | exc c m3 => rw [ei] at eg; cases eg
    | bad => rw [ei] at eg; cases eg
  | exc c m2 => rw [eo] at eg; cases eg
  | bad => rw [eo] at eg; cases eg
end
end PD
namespace PD
open PySem PySem.Spec L2
open PyProof.Rows hiding St

/-! ### sorted(d), list(d), tuple(d) -/
section
variable {X : Cx} {pins : List (Addr × Obj)} {σ : St} {H : Hp} {s : Shared} {Z : Zn}
theorem keys_reps {kvs : List (D × D)} {xs : List (NestedKey × Addr × Value)} (r : Paired (DRel H Z) kvs xs) : Reps H Z (kvs.map (·.1)) (xs.map fun x => V.ref x.2.1) := by
  induction r with
  | nil => simp [Reps]
  | cons p _ ih =>
    simp only [List.map_cons, Reps]
    exact ⟨_, _, rfl, p.2.choose_spec.2.1, ih⟩
theorem keys_vals (xs : List (NestedKey × Addr × Value)) : Vals (xs.map fun x => V.ref x.2.1) (xs.map fun x => Value.ref x.2.1) := by
  induction xs with
  | nil => exact .nil
  | cons x xs ih => exact .cons rfl ih
theorem acc_keys {w : World} {P : Program} {es : Array DictEntry} {xs : List (NestedKey × Addr × Value)} (he : es.toList = xs.map (entryOfKey (nestedKind P w))) {acc : Array Value}
    (it : ItemsOf (fun i v => ∃ en : DictEntry, es[i]? = some en ∧ v = en.key) acc es.size) : acc.toList = xs.map fun x => Value.ref x.2.1 := by
  have l1 : es.size = xs.length := size_of_entries he
  have hl : acc.toList.length = xs.length := by rw [Array.length_toList, it.1]; exact l1
  apply List.ext_getElem?
  intro j
  rw [List.getElem?_map]
  cases hj : acc.toList[j]? with
  | none =>
    have h1 := List.getElem?_eq_none_iff.mp hj
    rw [List.getElem?_eq_none (by omega)]; rfl
  | some v =>
    obtain ⟨en, hen, hv⟩ := it.2 j v (by rw [← Array.getElem?_toList]; exact hj)
    have qe := entry_at he j
    rw [hen] at qe
    cases hb : xs[j]? with
    | none => rw [hb] at qe; cases qe
    | some b =>
      rw [hb] at qe
      have e2 : en = entryOfKey (nestedKind P w) b := Option.some.inj qe
      rw [hv, e2]; rfl
def rKeysD (K : List D → Bool) (R : Hp → Zn → List D → VK → Prop) : List V → Hp → VK → Prop := fun vs H Q => ∃ Z m n lk kvs v, vs = [v] ∧ Rep H Z (.ref n) v ∧ MRep H Z m ∧ m[n]? = some (.dct lk kvs) ∧ K (kvs.map (·.1)) = true ∧ R H Z (kvs.map (·.1)) Q
theorem cr_sortDict (hc : X.calm = true) (hu : X.A.units + 64 < cLine) : CallR X (.builtin "sorted") (rKeysD canSort fun H Z ks Q => ∀ zs p, Reps H Z (sortD ks) zs → H p = none → Q (.ref p) (upd H p (.lst zs))) := by
  intro pins s σ H vs us Q I r h
  obtain ⟨Z, m, n, lk, kvs, v, rfl, rv, M, em, hcs, q⟩ := h
  obtain ⟨a, L, w, xs, rfl, ea, hw, hl, hp, hv, dd⟩ := dct_at I M em rv
  obtain ⟨u, rfl, ru⟩ := vals1 r
  obtain rfl : u = Value.ref a := ru
  obtain ⟨o, es, ep, ho, hx, hdt, he, his, hnd⟩ := dd.dict
  have l1 : es.size = xs.length := size_of_entries he
  have hle := dd.le
  refine Calls.call_function_entry kind_sorted plain_sorted entry_sorted (args_sorted1 _) ?_
  unfold Builtin.«sorted»
  refine wpAny_bind (m := checkCount "sorted" 1 1 _) (wpAny_pure ?_)
  refine wpAny_bind (PySem.W.kdu_collect (A := X.A.in1) (kdl_raw dd.sys hx hdt) (I.ok.hd hc) ho (by omega) fun h' tk acc hk hacc => ?_)
  have hal := acc_keys he hacc
  have I1 : Inv X pins σ H { s with heap := h', toks := tk } := I.kept hk
  have rs := keys_reps dd.rel
  have rvv : Vals (xs.map fun x => V.ref x.2.1) acc.toList := by rw [hal]; exact keys_vals xs
  have hlen : acc.toList.length = xs.length := by rw [hal, List.length_map]
  simp only [canSort, Bool.and_eq_true] at hcs
  refine wpAny_bind (wpAny_newList ?_ (by rw [hlen]; exact hle))
  have hoL : (h'.push (seqObj "list" acc.toList.toArray 0)).get? h'.objs.size = some (seqObj "list" acc.toList.toArray 0) := Heap.get?_push_size _ rfl
  show wpAny _ _ _ _ _ { s with heap := h'.push (seqObj "list" acc.toList.toArray 0), toks := tk }
  have er := each_reads I1 hcs.1.1 rs rvv
  have er' : PySem.W.EachIs (fun v d => ∃ as, Reads (PySem.W.sortingHeap (h'.push (seqObj "list" acc.toList.toArray 0)) h'.objs.size acc.toList) v (toPy d) as) acc.toList (kvs.map (·.1)) :=
    er.mono fun _ _ ⟨as, z⟩ => ⟨as, PyProof.Rows.Reads.keeps (fun b ob e => PySem.W.sortingHeap_old (Nat.ne_of_lt (Heap.lt_size e)) (Heap.get?_push_of_some _ e)) z⟩
  have e0 := each_of H Z rs rvv
  have hlk : (kvs.map (·.1)).length = acc.toList.length := by rw [hlen, List.length_map]; exact Paired.length dd.rel
  refine wpAny_bind (wpAny_holding (wpAny_call_entry slot_list_sort ⟨_, hoL, rfl⟩ entry_list_sort
    (PySem.W.list_sort_vals (s := { s with heap := h'.push (seqObj "list" acc.toList.toArray 0), toks := tk }) hoL
      (PySem.W.SortsAt.data (s := { s with heap := PySem.W.sortingHeap (h'.push (seqObj "list" acc.toList.toArray 0)) h'.objs.size acc.toList, toks := tk })
        (PySem.W.each_map (R := fun v d => ∃ as, Reads (PySem.W.sortingHeap (h'.push (seqObj "list" acc.toList.toArray 0)) h'.objs.size acc.toList) v d as) toPy er') (alike_of hcs.1.2) (sortable_of hcs.2) (PySem.W.bound_map fun b hb => by
          have := (sh_lay 60 b (shs_mem hcs.1.1 hb)).2
          show X.A.in1.in1.units + _ < _
          rw [Around.in1_units, Around.in1_units]
          omega)) (by rw [hlen]; exact hle) ⟨_, rfl, ?_⟩) (args_list_sort _)))
  obtain ⟨zs, wz, rz⟩ := of_each (PySem.W.sortVals_data false e0 er' (alike_of hcs.1.2))
  obtain ⟨e', he'⟩ := PyProof.Rows.sortedHeap_at (vs := acc.toList) (out := (PySem.W.sortVals (PySem.W.dataKind (PySem.W.sortingHeap (h'.push (seqObj "list" acc.toList.toArray 0)) h'.objs.size acc.toList) ((kvs.map (·.1)).map toPy)) false acc.toList acc.toList).toArray) hoL
  have hzl : zs.length ≤ sizeLine := by
    rw [← reps_len rz, List.length_mergeSort, hlk, hlen]
    exact hle
  refine wpAny_pure ⟨_, rfl, .ref h'.objs.size, upd H h'.objs.size (.lst zs), I1.laid (t' := tk) (fun b u e => ?_) (Nat.le_refl _) (show ObjOk X.prog X.w _ _ _ (.lst zs) from ⟨hzl, _, e', wz, he'⟩), rfl, q zs _ rz (I1.hok.fresh (Nat.le_refl _))⟩
  have hb : b < h'.objs.size := Heap.lt_size e
  rw [PyProof.Rows.sortedHeap_old (Nat.ne_of_lt hb) (by rw [size_push']; exact Nat.lt_succ_of_lt hb)]
  exact Heap.get?_push_of_some _ e
/-- sorted(xs), sorted(d) -/
def bSortedX (nw : Bool) (ds : List D) (m : Mem) : Res D := match ds with
  | [x] => (match dctM m x with | some kvs => if canSort (kvs.map (·.1)) then newL nw (sortD (kvs.map (·.1))) m else .bad | none => bSorted nw [x] m)
  | _ => .bad
theorem bSortedX_ok {nw : Bool} (hc : X.calm = true) (hu : X.A.units + 64 < cLine) : CallR X (.builtin "sorted") (rdC (bSortedX nw)) := CallR.by fun xs H Q ⟨Z, m, ds, rs, M, h⟩ => by
  unfold bSortedX at h
  split at h
  · rename_i x
    split at h
    · rename_i kvs ed
      obtain ⟨n, lk, rfl, em⟩ := dctM_of ed
      obtain ⟨v, rfl, r⟩ := reps1 rs
      split at h
      · rename_i hcs
        exact ⟨_, cr_sortDict hc hu, Z, m, n, lk, kvs, v, rfl, r, M, em, hcs, fun zs p rz hp => (fin_newL h M rz).2 p hp⟩
      · exact h.elim
    · exact ⟨_, bSorted_ok hu, Z, m, [x], rs, M, h⟩
  · exact h.elim
end
end PD
namespace PD
open PySem PySem.Spec L2
open PyProof.Rows hiding St

/-! ### a dict locked while it is walked -/
mutual
theorem rep_rho {H : Hp} {Z : Zn} {p : Addr} {o : HO} (n : p ∈ Z.ρ) : ∀ (d : D) (v : V), Rep H Z d v → Rep (upd H p o) Z d v
  | .non, v, h => by simp only [Rep] at h ⊢; exact h
  | .bl b, v, h => by simp only [Rep] at h ⊢; exact h
  | .int i, v, h => by simp only [Rep] at h ⊢; exact h
  | .str s, v, h => by simp only [Rep] at h ⊢; exact h
  | .tup xs, v, h => by
    simp only [Rep] at h ⊢
    obtain ⟨a, vs, e, r, k, rs⟩ := h
    have ne : a ≠ p := fun z => k.1 (by rw [z]; exact n)
    exact ⟨a, vs, e, by unfold Rd; rw [upd_ne ne]; exact r, k, reps_rho n xs vs rs⟩
  | .lst xs, v, h => by
    simp only [Rep] at h ⊢
    obtain ⟨a, vs, e, r, k, rs⟩ := h
    have ne : a ≠ p := fun z => k.1 (by rw [z]; exact n)
    exact ⟨a, vs, e, by rw [upd_ne ne]; exact r, k, reps_rho n xs vs rs⟩
  | .adr a, v, h => by simp only [Rep] at h ⊢; exact h
  | .scr xs, v, h => by
    simp only [Rep] at h ⊢
    obtain ⟨a, vs, e, r, k, rs⟩ := h
    have ne : a ≠ p := fun z => k.1 (by rw [z]; exact n)
    exact ⟨a, vs, e, by unfold Rd; rw [upd_ne ne]; exact r, k, reps_rho n xs vs rs⟩
  | .ref i, v, h => by simp only [Rep] at h ⊢; exact h
theorem reps_rho {H : Hp} {Z : Zn} {p : Addr} {o : HO} (n : p ∈ Z.ρ) : ∀ (ds : List D) (vs : List V), Reps H Z ds vs → Reps (upd H p o) Z ds vs
  | [], vs, h => by simp only [Reps] at h ⊢; exact h
  | d :: ds, vs, h => by
    simp only [Reps] at h ⊢
    obtain ⟨v, r, e, h1, h2⟩ := h
    exact ⟨v, r, e, rep_rho n d v h1, reps_rho n ds r h2⟩
end
theorem SRep.rho {H : Hp} {Z : Zn} {p : Addr} {o : HO} {σd : Sg} {σ : St} (n : p ∈ Z.ρ) (S : SRep H Z σd σ) : SRep (upd H p o) Z σd σ :=
  ⟨S.len, fun i d e => let ⟨v, e', r⟩ := S.val i d e; ⟨v, e', rep_rho n _ _ r⟩⟩
theorem MRep.lkset {H : Hp} {Z : Zn} {m : Mem} {n : Nat} {p : Addr} {o : HO} {u : MO} (M : MRep H Z m) (e : Z.ρ[n]? = some p) (ho : ORep (L2.upd H p o) Z u p) : MRep (L2.upd H p o) Z (m.set n u) := by
  have hp : p ∈ Z.ρ := List.mem_of_getElem? e
  refine ⟨by rw [List.length_set]; exact M.len, M.nd, M.off, fun a h => ?_, fun i a z e1 e2 => ?_⟩
  · obtain ⟨u, h⟩ := M.asd a h
    by_cases e : a = p
    · subst e; exact ⟨o, upd_same⟩
    · exact ⟨u, by rw [upd_ne e]; exact h⟩
  · by_cases hi : i = n
    · subst hi
      rw [e] at e1; cases e1
      have hl : i < m.length := by rw [M.len]; exact (List.getElem?_eq_some_iff.mp e).1
      rw [List.getElem?_set_self hl] at e2
      cases e2
      exact ho
    · rw [List.getElem?_set_ne (Ne.symm hi)] at e2
      have q := M.obj i a z e1 e2
      have ne : a ≠ p := fun z => hi (by
        subst z
        obtain ⟨h1, g1⟩ := List.getElem?_eq_some_iff.mp e1
        obtain ⟨h2, g2⟩ := List.getElem?_eq_some_iff.mp e
        exact (List.getElem_inj M.nd).mp (g1.trans g2.symm))
      cases z with
      | lst xs =>
        obtain ⟨vs, h1, h2⟩ := q
        exact ⟨vs, by rw [upd_ne ne]; exact h1, reps_rho hp _ _ h2⟩
      | dct lk kvs =>
        obtain ⟨L, u, h1, h2, h3⟩ := q
        exact ⟨L, u, by rw [upd_ne ne]; exact h1, h2, Paired.mapP h3 fun x y z => ⟨z.1, rep_rho hp _ _ z.2.1, rep_rho hp _ _ z.2.2⟩⟩
theorem Ext.unlock {Z Z' : Zn} {H H' : Hp} {a : Addr} {u v w : HO} (hu : H a = some u) (nf : ∀ od z, u ≠ .frz od z) (ha : a ∈ Z.ρ) (x : Ext Z (L2.upd H a v) Z' H') : Ext Z H Z' (L2.upd H' a w) where
  phi1 := x.phi1
  phi2 := fun b hb => by
    rcases x.phi2 b hb with h | h
    · exact .inl h
    · by_cases e : b = a
      · subst e; rw [upd_same] at h; cases h
      · rw [upd_ne e] at h; exact .inr h
  pre := x.pre
  keep := fun b o h n => by
    have e : b ≠ a := fun z => n (by rw [z]; exact ha)
    obtain ⟨h1, h2⟩ := x.keep b o (by rw [upd_ne e]; exact h) n
    exact ⟨by rw [upd_ne e]; exact h1, h2⟩
  more := fun b o h => by
    by_cases e : b = a
    · subst e; exact ⟨w, upd_same⟩
    · obtain ⟨o', h'⟩ := x.more b o (by rw [upd_ne e]; exact h)
      exact ⟨o', by rw [upd_ne e]; exact h'⟩
  frz := fun b od z h => by
    have e : b ≠ a := fun q => by
      subst q
      rw [hu] at h
      exact nf od z (Option.some.inj h)
    rw [upd_ne e]
    exact x.frz b od z (by rw [upd_ne e]; exact h)
/-- what the lock leaves behind -/
theorem unlocked {Z Z' : Zn} {H H' : Hp} {m' : Mem} {n : Nat} {a : Addr} {L : List (NestedKey × Addr × V)} {kvs kvs' : List (D × D)} {od : Obj} {m : Mem} (M : MRep H Z m) (ea : Z.ρ[n]? = some a) (hw : H a = some (dctO L a)) (hp : Paired (LRel H Z) kvs L)
    (x : Ext Z (upd H a (.frz od (dctO L a))) Z' H') (M' : MRep H' Z' m') (em : m'[n]? = some (.dct true kvs')) : H' a = some (.frz od (dctO L a)) ∧ Ext Z H Z' (upd H' a (dctO L a)) ∧ MRep (upd H' a (dctO L a)) Z' (m'.set n (.dct false kvs)) ∧ a ∈ Z'.ρ := by
  have ha := List.mem_of_getElem? ea
  have xx : Ext Z H Z' (upd H' a (dctO L a)) := Ext.unlock hw (fun od z e => by cases e) ha x
  have ea' : Z'.ρ[n]? = some a := by
    obtain ⟨more, e⟩ := x.pre
    rw [e, List.getElem?_append_left (List.getElem?_eq_some_iff.mp ea).1]
    exact ea
  exact ⟨x.frz a od _ upd_same, xx, M'.lkset ea' ⟨L, _, upd_same, rfl, Paired.mapP hp fun p q z => ⟨z.1, Rep.ext xx _ _ z.2.1, Rep.ext xx _ _ z.2.2⟩⟩, List.mem_of_getElem? ea'⟩
def unlockR (n : Nat) (kvs : List (D × D)) (r : Res D) : Res D := match r with
  | .ok d m => (match m[n]? with | some (.dct true _) => .ok d (m.set n (.dct false kvs)) | _ => .bad)
  | _ => .bad
def eLock (i : Nat) (f : EF) : EF := fun σ m => match σ[i]? with
  | some (some (.ref n)) => (match m[n]? with | some (.dct false kvs) => unlockR n kvs (f σ (m.set n (.dct true kvs))) | _ => .bad)
  | _ => .bad
def unlockS (n : Nat) (kvs : List (D × D)) (r : SRes) : SRes := match r with
  | .nx σ m => (match m[n]? with | some (.dct true _) => .nx σ (m.set n (.dct false kvs)) | _ => .bad)
  | .bk σ m => (match m[n]? with | some (.dct true _) => .bk σ (m.set n (.dct false kvs)) | _ => .bad)
  | .ct σ m => (match m[n]? with | some (.dct true _) => .ct σ (m.set n (.dct false kvs)) | _ => .bad)
  | .rt d m => (match m[n]? with | some (.dct true _) => .rt d (m.set n (.dct false kvs)) | _ => .bad)
  | _ => .bad
def sLock (i : Nat) (f : SF) : SF := fun σ m => match σ[i]? with
  | some (some (.ref n)) => (match m[n]? with | some (.dct false kvs) => unlockS n kvs (f σ (m.set n (.dct true kvs))) | _ => .bad)
  | _ => .bad
section
variable {X : Cx} {W : WX}
theorem e_lock {e : Expr} {f : EF} (i : Nat) (h : E X W e f) : E X W e (eLock i f) := by
  refine PE.imp (pe_lock h) fun σ H Q ⟨Z, σd, m, S, M, q⟩ => ?_
  unfold eLock at q
  split at q
  · rename_i n es
    split at q
    · rename_i kvs em
      obtain ⟨v0, ev0, r0⟩ := S.val i _ es
      simp only [Rep] at r0
      obtain ⟨a, ea, rfl⟩ := r0
      obtain ⟨L, u, hw, hl, hp⟩ := M.obj n a _ ea em
      obtain rfl : u = dctO L a := hl
      have ha := List.mem_of_getElem? ea
      refine ⟨a, _, hw, trivial, fun od => ⟨Z, σd, m.set n (.dct true kvs), S.rho ha, M.lkset ea ⟨L, _, upd_same, ⟨od, rfl⟩, Paired.mapP hp fun x y z => ⟨z.1, rep_rho ha _ _ z.2.1, rep_rho ha _ _ z.2.2⟩⟩, ?_⟩⟩
      cases er : f σd (m.set n (.dct true kvs)) with
      | ok d m' =>
        rw [er] at q
        unfold unlockR at q
        simp only at q
        split at q
        · rename_i kvs' em'
          intro H' Z' x M' v rv
          obtain ⟨g1, g2, g3, g4⟩ := unlocked M ea hw hp x M' em'
          exact ⟨g1, q _ Z' g2 g3 v (rep_rho g4 _ _ rv)⟩
        · exact q.elim
      | exc c m' => rw [er] at q; exact q.elim
      | bad => rw [er] at q; exact q.elim
    · exact q.elim
  · exact q.elim
theorem s_lock {st : Stmt} {f : SF} (i : Nat) (h : S1 X W st f) : S1 X W st (sLock i f) := by
  refine PS.imp (ps_lock h) fun Dn σ H ⟨Z, σd, m, S, M, q⟩ => ?_
  unfold sLock at q
  split at q
  · rename_i n es
    split at q
    · rename_i kvs em
      obtain ⟨v0, ev0, r0⟩ := S.val i _ es
      simp only [Rep] at r0
      obtain ⟨a, ea, rfl⟩ := r0
      obtain ⟨L, u, hw, hl, hp⟩ := M.obj n a _ ea em
      obtain rfl : u = dctO L a := hl
      have ha := List.mem_of_getElem? ea
      refine ⟨a, _, hw, trivial, fun od => ⟨Z, σd, m.set n (.dct true kvs), S.rho ha, M.lkset ea ⟨L, _, upd_same, ⟨od, rfl⟩, Paired.mapP hp fun x y z => ⟨z.1, rep_rho ha _ _ z.2.1, rep_rho ha _ _ z.2.2⟩⟩, ?_⟩⟩
      cases er : f σd (m.set n (.dct true kvs)) with
      | nx σ1 m' =>
        rw [er] at q
        unfold unlockS at q
        simp only at q
        split at q
        · rename_i kvs' em'
          intro H' Z' σ' x M' S'
          obtain ⟨g1, g2, g3, g4⟩ := unlocked M ea hw hp x M' em'
          exact ⟨g1, q _ Z' _ g2 g3 (S'.rho g4)⟩
        · exact q.elim
      | bk σ1 m' =>
        rw [er] at q
        unfold unlockS at q
        simp only at q
        split at q
        · rename_i kvs' em'
          intro H' Z' σ' x M' S'
          obtain ⟨g1, g2, g3, g4⟩ := unlocked M ea hw hp x M' em'
          exact ⟨g1, q _ Z' _ g2 g3 (S'.rho g4)⟩
        · exact q.elim
      | ct σ1 m' =>
        rw [er] at q
        unfold unlockS at q
        simp only at q
        split at q
        · rename_i kvs' em'
          intro H' Z' σ' x M' S'
          obtain ⟨g1, g2, g3, g4⟩ := unlocked M ea hw hp x M' em'
          exact ⟨g1, q _ Z' _ g2 g3 (S'.rho g4)⟩
        · exact q.elim
      | rt d m' =>
        rw [er] at q
        unfold unlockS at q
        simp only at q
        split at q
        · rename_i kvs' em'
          intro H' Z' v x M' rv
          obtain ⟨g1, g2, g3, g4⟩ := unlocked M ea hw hp x M' em'
          exact ⟨g1, q _ Z' _ g2 g3 (rep_rho g4 _ _ rv)⟩
        · exact q.elim
      | exc c σ1 m' => rw [er] at q; exact q.elim
      | bad => rw [er] at q; exact q.elim
    · exact q.elim
  · exact q.elim
end

/-! ### for k in d, for k, v in d.items() -/
def Itd0 (d : Addr) (o : Obj) (L : List (NestedKey × Addr × V)) : It :=
  ⟨fun i H => H d = some (.frz o (dctO L d)) ∧ i < L.length, fun i H x H' => H' = H ∧ ∃ p, L[i]? = some p ∧ x = .ref p.2.1, fun i H => H d = some (.frz o (dctO L d)) ∧ L.length ≤ i⟩
def Itd1 (d : Addr) (o : Obj) (L : List (NestedKey × Addr × V)) : It :=
  ⟨fun i H => H d = some (.frz o (dctO L d)) ∧ i < L.length, fun i H x H' => ∃ T p, L[i]? = some p ∧ x = .ref T ∧ H T = none ∧ H' = upd H T (.tup [.ref p.2.1, p.2.2]), fun i H => H d = some (.frz o (dctO L d)) ∧ L.length ≤ i⟩
section
variable {X : Cx} {pins : List (Addr × Obj)} {σ : St} {H : Hp} {s : Shared} {d : Addr} {o : Obj} {L : List (NestedKey × Addr × V)}
theorem frzX (I : Inv X pins σ H s) (h : H d = some (.frz o (dctO L d))) : (d == sysModules) = false ∧ s.heap.get? d = some o ∧ o.ExactDict ∧ L.length ≤ sizeLine ∧ ∃ (es : Array DictEntry) (ep : Nat), o.data = .dict es ep ∧ es.size = L.length ∧
    ∀ (i : Nat) (p : NestedKey × Addr × V), L[i]? = some p → ∃ en : DictEntry, es[i]? = some en ∧ en.key = .ref p.2.1 ∧ RelV p.2.2 en.val := by
  obtain ⟨hd, ⟨q1, q2, q3, q4, xs, q5, o', es, ep, g1, g2, g3, g4⟩, _, _⟩ := I.hok d _ h
  rw [hd] at g1
  cases g1
  have he := g4 X.w
  have l1 : es.size = xs.length := by rw [← Array.length_toList, he, List.length_map]
  have l2 : L.length = xs.length := Paired.length q5
  refine ⟨q1, hd, g2, q2, es, ep, g3, by omega, fun i p e => ?_⟩
  obtain ⟨b, hb, e1, e2, e3⟩ := paired_get q5 e
  have q : es[i]? = some (DictEntry.mk (b.1.hash X.w) (.ref b.2.1) b.2.2) := by
    rw [← Array.getElem?_toList, he, List.getElem?_map, hb]; rfl
  exact ⟨_, q, by rw [e2], e3⟩
end
section
variable {P : Program} {w : World} {K : PySem.W.Frag} {tg : Expr} {d : Addr} {o : Obj} {es : Array DictEntry} {ep : Nat} {L : List (NestedKey × Addr × V)}
theorem turn_d0 (it : Addr) (hod : o.data = .dict es ep) : Turn P w K tg (Itd0 d o L) [it] it (fun i h => h.IsKeyIter it d i L.length ep) where
  mem := List.mem_singleton_self _
  obj := fun i h st b hb => by
    obtain rfl : b = it := List.mem_singleton.mp hb
    obtain ⟨oi, e, c, dd⟩ := st
    exact ⟨oi, e, fun v z => by rw [dd] at z; cases z⟩
  keep := fun i h h' st k => st.at fun oi e => k it (List.mem_singleton_self _) oi e
  item := by
    rintro X rfl rfl rfl hc i pins s σ H E I hf st ⟨hd, hi⟩
    obtain ⟨f0, f1, f2, f3, f4, f5⟩ := hf it (List.mem_singleton_self _)
    obtain ⟨hs, hgd, hx, hle, es', ep', hdt, hsz, ent⟩ := frzX I hd
    obtain ⟨rfl, rfl⟩ := dict_ep hod hdt
    obtain ⟨en, hen, hkey, hv⟩ := ent i _ (List.getElem?_eq_getElem hi)
    refine next_key_item st hgd hdt hsz hen fun h' st' sb => ?_
    have I1 : Inv X pins σ H { s with heap := h' } := I.turned (t' := s.toks) (fun b ob hb e => (sb.2 b hb).trans e) f0 f1 f3 f4 f5
    obtain ⟨oi, e, c, dd⟩ := id st'
    exact ⟨en.key, rfl, go_of (s := { s with heap := h' }) e c dd (by decide) ⟨.ref L[i].2.1, H, I1, by rw [hkey]; rfl, ⟨rfl, _, List.getElem?_eq_getElem hi, rfl⟩, st', fun b hb => (hf b hb).1⟩⟩
  done := by
    rintro X rfl rfl rfl hc i pins s σ H E I hf st ⟨hd, hi⟩
    obtain ⟨f0, f1, f2, f3, f4, f5⟩ := hf it (List.mem_singleton_self _)
    obtain ⟨hs, hgd, hx, hle, es', ep', hdt, hsz, ent⟩ := frzX I hd
    obtain ⟨rfl, rfl⟩ := dict_ep hod hdt
    exact next_key_end (I.ok.hd hc) st hgd hdt hsz hi fun h' eb => ⟨rfl, I.turned (t' := s.toks) (fun b ob hb e => eb b ob hb e) f0 f1 f3 f4 f5⟩
  self := fun A i s Q E st h => by
    refine wpAny_pyIter_slot st.typeIs F.slot_dict_keyiterator_iter (wpAny_call_entry F.slot_dict_keyiterator_iter st.typeIs F.entry_dict_keyiterator_iter ?_ (F.args_dict_keyiterator_iter_1 _))
    show wpAny _ _ (ret (.ref it)) _ _ s
    exact wpAny_pure ⟨_, rfl, "dict_keyiterator", _, st.typeIs, F.slot_dict_keyiterator_next.lookup, h⟩
end
def iDk (fd : EF) : IF := fun σ m => (fd σ m).bind fun x m => match x with
  | .ref n => (match m[n]? with | some (.dct true kvs) => .ok (.its (kvs.map (·.1))) m | _ => .bad)
  | _ => .bad
theorem its_d0 {H : Hp} {Z : Zn} {d : Addr} {od : Obj} {L : List (NestedKey × Addr × V)} {kvs : List (D × D)} (hd : H d = some (.frz od (dctO L d))) (hp : Paired (LRel H Z) kvs L) : Its (Itd0 d od L) H Z (kvs.map (·.1)) where
  go := fun i H' Z' m x M hi => ⟨x.frz _ _ _ hd, by rw [List.length_map, Paired.length hp] at hi; exact hi⟩
  yld := fun i H' Z' m v H'' dd x M e ⟨eh, p, ep, ev⟩ => by
    subst eh ev
    rw [List.getElem?_map, Option.map_eq_some_iff] at e
    obtain ⟨q, eq, rfl⟩ := e
    obtain ⟨p', ep', r⟩ := paired_get hp eq
    rw [ep] at ep'
    cases ep'
    exact ⟨.refl _ _, M, Rep.ext x _ _ r.2.1⟩
  stop := fun i H' Z' m x M hi => ⟨x.frz _ _ _ hd, by rw [List.length_map, Paired.length hp] at hi; exact hi⟩
theorem i_dk {X : Cx} {W : WX} {tg e : Expr} {fd : EF} (he : E X W e fd) : I X W tg e (iDk fd) := by
  refine ⟨fun pins s σ H R I ⟨Z, σd, m, S, M, h⟩ => ?_⟩
  refine thn (he.run pins s σ H (fun x H1 => ∃ d od L, x = .ref d ∧ H1 d = some (.frz od (dctO L d)) ∧ R (Itd0 d od L) H1) I ⟨Z, σd, m, S, M, (Fin.bind h).mono fun x m1 H1 Z1 x1 M1 h1 v r => ?_⟩) fun u s1 ⟨x, H1, I1, rx, d, od, L, ex, hd, q⟩ => ?_
  · split at h1
    · rename_i n
      split at h1
      · rename_i kvs em
        simp only [Rep] at r
        obtain ⟨a, ea, rfl⟩ := r
        obtain ⟨L, u, hw, ⟨od, rfl⟩, hp⟩ := M1.obj n a _ ea em
        exact ⟨a, od, L, rfl, hw, h1 H1 Z1 (.refl _ _) M1 _ (its_d0 hw hp)⟩
      · exact h1.elim
    · exact h1.elim
  · subst ex
    obtain rfl : u = Value.ref d := rx
    obtain ⟨hs, hgd, hx, hle, es, ep, hdt, hsz, ent⟩ := frzX I1 hd
    refine iter_keys hs hgd hx hdt (pi_one (tk := s1.toks) I1 _ (turn_d0 _ hdt) ⟨_, Heap.get?_push_size _ rfl, rfl, ?_⟩ q)
    rw [hsz] <;> rfl
end PD
namespace PD
open PySem PySem.Spec L2
open PyProof.Rows hiding St

/-! ### d.items() -/
section
variable {P : Program} {w : World} {K : PySem.W.Frag} {d : Addr} {o : Obj} {es : Array DictEntry} {ep : Nat} {L : List (NestedKey × Addr × V)}
theorem turn_d1 {elts : List Expr} {kk : Nat} {tpos : Pos} (it : Addr) (hod : o.data = .dict es ep) :
    Turn P w K (.Tuple elts kk tpos) (Itd1 d o L) [it] it (fun i h => ∃ ok ov, IsItemIter h it d i L.length ep ok ov) where
  mem := List.mem_singleton_self _
  obj := fun i h st b hb => by
    obtain rfl : b = it := List.mem_singleton.mp hb
    obtain ⟨ok, ov, e⟩ := st
    exact ⟨_, e, fun v z => nomatch z⟩
  keep := fun i h h' st k => let ⟨ok, ov, e⟩ := st; ⟨ok, ov, k it (List.mem_singleton_self _) _ e⟩
  item := by
    rintro X rfl rfl rfl hc i pins s σ H E I hf st ⟨hd, hi⟩
    obtain ⟨hs, hgd, hx, hle, es', ep', hdt, hsz, ent⟩ := frzX I hd
    obtain ⟨rfl, rfl⟩ := dict_ep hod hdt
    obtain ⟨en, hen, hkey, hv⟩ := ent i _ (List.getElem?_eq_getElem hi)
    obtain ⟨ok, ov, he⟩ := st
    rw [← hsz] at he
    have hi' : i < es'.size := by rw [hsz]; exact hi
    have hen' : es'[i] = en := by
      rw [Array.getElem?_eq_getElem hi'] at hen
      exact Option.some.inj hen
    have hlt : it < s.heap.objs.size := Heap.lt_size he
    refine DT.nextI he ⟨o, hgd, hx, hdt⟩ hi' fun h' ho hT hz hk => ?_
    refine ⟨_, rfl, wpAny_letOwnedTupleGo_items (s := { s with heap := h' }) ho fun h'' he' sb => ?_⟩
    rw [hen'] at hT he'
    have hT2 : h''.get? s.heap.objs.size = some { cls := .type "tuple", data := .seq #[en.key, en.val] } := (sb.2 _ (Nat.ne_of_gt hlt)).trans hT
    have new : ObjOk X.prog X.w (upd H s.heap.objs.size (.tup [.ref L[i].2.1, L[i].2.2])) h'' s.heap.objs.size (.tup [.ref L[i].2.1, L[i].2.2]) :=
      ⟨by show 2 ≤ sizeLine; decide, [en.key, en.val], .cons (by rw [hkey]; rfl) (.cons hv .nil), ⟨_, hT2, rfl, _, rfl⟩⟩
    have I1 : Inv X pins σ (upd H s.heap.objs.size (.tup [.ref L[i].2.1, L[i].2.2])) { s with heap := h'' } :=
      I.turnedNew (t' := s.toks) (ch := [it]) (fun b ob hb e => (sb.2 b (fun z => hb (by rw [z]; exact List.mem_singleton_self _))).trans (hk b ob (fun z => hb (by rw [z]; exact List.mem_singleton_self _)) e)) hf (Nat.le_refl _) new
    refine ⟨.ref s.heap.objs.size, _, I1, rfl, ⟨_, _, List.getElem?_eq_getElem hi, rfl, I.hok.fresh (Nat.le_refl _), rfl⟩, ⟨en.key, en.val, ?_⟩, fun b hb => ?_⟩
    · rw [← hsz]; exact he'
    · obtain rfl : b = it := List.mem_singleton.mp hb
      rw [upd_ne (Nat.ne_of_lt hlt)]
      exact (hf b (List.mem_singleton_self _)).1
  done := by
    rintro X rfl rfl rfl hc i pins s σ H E I hf st ⟨hd, hi⟩
    obtain ⟨f0, f1, f2, f3, f4, f5⟩ := hf it (List.mem_singleton_self _)
    obtain ⟨hs, hgd, hx, hle, es', ep', hdt, hsz, ent⟩ := frzX I hd
    obtain ⟨rfl, rfl⟩ := dict_ep hod hdt
    obtain ⟨ok, ov, he⟩ := st
    rw [← hsz] at he
    exact DT.endI (I.ok.hd hc) he ⟨o, hgd, hx, hdt⟩ (by omega) fun h' eb => ⟨rfl, I.turned (t' := s.toks) (fun b ob hb e => eb b ob hb e) f0 f1 f3 f4 f5⟩
  self := fun A i s Q E st h => let ⟨_, _, e⟩ := st; PySem.W.kcp_self e h
end
def iDi (fd : EF) : IF := fun σ m => (fd σ m).bind fun x m => match x with
  | .ref n => (match m[n]? with | some (.dct true kvs) => .ok (.its (kvs.map fun p => .tup [p.1, p.2])) m | _ => .bad)
  | _ => .bad
theorem its_d1 {H : Hp} {Z : Zn} {d : Addr} {od : Obj} {L : List (NestedKey × Addr × V)} {kvs : List (D × D)} (hd : H d = some (.frz od (dctO L d))) (hp : Paired (LRel H Z) kvs L) : Its (Itd1 d od L) H Z (kvs.map fun p => .tup [p.1, p.2]) where
  go := fun i H' Z' m x M hi => ⟨x.frz _ _ _ hd, by rw [List.length_map, Paired.length hp] at hi; exact hi⟩
  yld := fun i H' Z' m v H'' dd x M e ⟨T, p, ep, ev, nT, eh⟩ => by
    subst eh ev
    rw [List.getElem?_map, Option.map_eq_some_iff] at e
    obtain ⟨q, eq, rfl⟩ := e
    obtain ⟨p', ep', r⟩ := paired_get hp eq
    rw [ep] at ep'
    cases ep'
    refine ⟨Ext.laid M nT, M.laid nT, rep_tup_new M ?_ nT⟩
    simp only [Reps]
    exact ⟨_, _, rfl, Rep.ext x _ _ r.2.1, _, _, rfl, Rep.ext x _ _ r.2.2, rfl⟩
  stop := fun i H' Z' m x M hi => ⟨x.frz _ _ _ hd, by rw [List.length_map, Paired.length hp] at hi; exact hi⟩
theorem i_di {X : Cx} {W : WX} {e : Expr} {fd : EF} {elts : List Expr} {kk : Nat} {tpos apos cpos : Pos} (he : E X W e fd) (hbase : attributeBase e "items" X.env (eval e X.env) = eval e X.env := by rfl) (hline : (apos.endLine == cpos.line) = true := by rfl) :
    I X W (.Tuple elts kk tpos) (.Call (.Attribute e "items" apos) [] [] cpos) (iDi fd) := by
  refine ⟨fun pins s σ H R I ⟨Z, σd, m, S, M, h⟩ => ?_⟩
  refine wpAny_Call_method (T := "dict") (id := "dict.items") hbase rfl hline F.plainAttrs_dict F.slot_dict_items F.type_dict_items (thn (he.run pins s σ H (fun x H1 => ∃ d od L, x = .ref d ∧ H1 d = some (.frz od (dctO L d)) ∧ R (Itd1 d od L) H1) I ⟨Z, σd, m, S, M, (Fin.bind h).mono fun x m1 H1 Z1 x1 M1 h1 v r => ?_⟩) fun u s1 ⟨x, H1, I1, rx, d, od, L, ex, hd, q⟩ => ?_)
  · split at h1
    · rename_i n
      split at h1
      · rename_i kvs em
        simp only [Rep] at r
        obtain ⟨a, ea, rfl⟩ := r
        obtain ⟨L, u, hw, ⟨od, rfl⟩, hp⟩ := M1.obj n a _ ea em
        exact ⟨a, od, L, rfl, hw, h1 H1 Z1 (.refl _ _) M1 _ (its_d1 hw hp)⟩
      · exact h1.elim
    · exact h1.elim
  · subst ex
    obtain rfl : u = Value.ref d := rx
    obtain ⟨hs, hgd, hx, hle, es, ep, hdt, hsz, ent⟩ := frzX I1 hd
    have raw : DT.Raw s1.heap d es ep := ⟨od, hgd, hx, hdt⟩
    refine ⟨raw.typeIs, fun b e => ?_, ?_⟩
    · cases e
      exact ⟨od, hgd, hx.2.1⟩
    have I2 : Inv X pins σ H1 { s1 with heap := s1.heap.push { cls := .type "dict_items", data := .fields #[.ref d] } } := I1.kept (t' := s1.toks) fun b ob q => Heap.get?_push_of_some _ q
    have fin : wpAny (model X.prog X.w) X.A (pyIter (.ref s1.heap.objs.size)) (PIE X pins σ (.Tuple elts kk tpos) R) X.xe { s1 with heap := s1.heap.push { cls := .type "dict_items", data := .fields #[.ref d] } } := by
      refine DT.iterI (d := d) ⟨_, Heap.get?_push_size _ rfl, rfl, rfl⟩ (raw.push _) (pi_one (tk := s1.toks) I2 _ (turn_d1 _ hdt) ⟨.none, .none, ?_⟩ q)
      rw [← hsz]
      exact Heap.get?_push_size _ rfl
    show wpAny _ _ (callWith cpos (.builtin "dict.items") [.ref d] [] []) _ X.xe s1
    exact method_meetsIn F.slot_dict_items F.entry_dict_items rfl (PySem.evalArgs_none ⟨rfl, raw.typeIs, F.args_dict_items_1 _, _, DT.meetsItems (es := es) (ep := ep) hs, raw, fin⟩)

/-! ### truth -/
def truD (m : Mem) (d : D) : Option Bool := match deref m d with
  | .bl b => some b
  | .non => some false
  | .int i => some (i != 0)
  | .tup xs => some (!xs.isEmpty)
  | .lst xs => some (!xs.isEmpty)
  | _ => none
def tTr (f : EF) : TF := fun σ m => (f σ m).bind fun x m => match truD m x with | some b => .ok b m | none => .bad
section
variable {X : Cx} {W : WX}
theorem reps_empty {H : Hp} {Z : Zn} {xs : List D} {vs : List V} (r : Reps H Z xs vs) : xs.isEmpty = vs.isEmpty := by
  have := reps_len r
  cases xs <;> cases vs <;> simp_all
theorem t_tr {e : Expr} {f : EF} (h : E X W e f) (he : ∀ whole, isTrue e X.env whole = (do let v ← whole; standAt e.pos; holding [v] (truthy v)) := by intro _; rfl) : T X W e (tTr f) := by
  refine PT.imp (pt_truth h he) fun σ H Q ⟨Z, σd, m, S, M, h⟩ => ?_
  refine ⟨Z, σd, m, S, M, (Fin.bind h).mono fun x m1 H1 Z1 x1 M1 h1 v r => ?_⟩
  cases et : truD m1 x with
  | none => rw [et] at h1; exact h1.elim
  | some b =>
    rw [et] at h1
    have h2 := h1 H1 Z1 (.refl _ _) M1
    refine ⟨b, ?_, h2⟩
    unfold truD at et
    split at et
    · rename_i c ed
      cases et
      cases x with
      | bl c' => simp only [deref] at ed; cases ed; simp only [Rep] at r; subst r; rfl
      | ref n => simp only [deref] at ed; split at ed <;> cases ed
      | _ => simp only [deref] at ed; cases ed
    · rename_i ed
      cases et
      cases x with
      | non => simp only [Rep] at r; subst r; rfl
      | ref n => simp only [deref] at ed; split at ed <;> cases ed
      | _ => simp only [deref] at ed; cases ed
    · rename_i c ed
      cases et
      cases x with
      | int c' => simp only [deref] at ed; cases ed; simp only [Rep] at r; subst r; rfl
      | ref n => simp only [deref] at ed; split at ed <;> cases ed
      | _ => simp only [deref] at ed; cases ed
    · rename_i xs ed
      cases et
      obtain ⟨a, vs, rfl, rd, rs⟩ := tup_of r ed
      exact .inr (.inl ⟨vs, .inl rd, by rw [reps_empty rs]⟩)
    · rename_i xs ed
      cases et
      obtain ⟨a, vs, rfl, rd, rs⟩ := lst_of M1 r ed
      exact .inl ⟨vs, .inl (.inl rd), by rw [reps_empty rs]⟩
    · cases et
end
/-! ### xs.extend(tuple) -/
section
variable {X : Cx}
theorem ext_tup (l : Addr) (items : Array Value) (n : Nat) (b : Addr) (items2 : Array Value) (n2 : Nat) (dd : Option Addr) (sl : Array (Option Value)) (hs0 : ¬(!items.isEmpty && Builtin.List.listTooLong (items.size + items2.size)) = true) (hs1 : items.size ≤ sizeLine) (hs2 : items.size + items2.size ≤ sizeLine + 1) :
    Meets (Builtin.«list.extend» ⟨[.ref l, .ref b], []⟩) (fun _ R s => s.heap.get? l = some { cls := .type "list", dict := none, data := .seq items n, slots := #[] } ∧ s.heap.get? b = some { cls := .type "tuple", dict := dd, data := .seq items2 n2, slots := sl } ∧ R (.ok (.ret Value.none)) { s with heap := s.heap.update l (Obj.mapSeq fun x => x ++ items2), toks := s.toks }) :=
  .of_wp fun prog w A R s h => by
    obtain ⟨hp, g, d, tk, os⟩ := s; obtain ⟨hl, hb, h⟩ := h; have f1 := AutoSeq1.idx_int; have f2 := AutoSeq1.sub_tuple_tuple; have f3 := AutoSeq1.sub_list_list; have f4 := AutoSeq1.sub_tuple_list; have f5 := AutoSeq1.sub_list_tuple
    have hz' : (items ++ items2).size ≤ sizeLine + 1 := by rw [Array.size_append]; exact hs2
    wp_walk using (wpAny_updateSeq hl rfl (hz := hs1) (_hz' := hz')), AutoSeq1.wpAny_loadPart' hl, AutoSeq1.wpAny_loadPart' hb
    exact ⟨_, rfl, h⟩
end
end PD
namespace PD
open PySem PySem.Spec L2
open PyProof.Rows hiding St

section
variable {X : Cx}
def rExtT : V → List V → Hp → VK → Prop := fun x vs H Q => ∃ l b xs zs, x = .ref l ∧ vs = [.ref b] ∧ H l = some (.lst xs) ∧ Rd H b (.tup zs) ∧ xs.length + zs.length ≤ sizeLine ∧ Q .non (upd H l (.lst (xs ++ zs)))
theorem mt_extT : MtR X "list.extend" rExtT := by
  intro pins s σ H x vs v us Q I rx rv ⟨l, b, xs, zs, ex, ev, hH, hB, hz, q⟩
  subst ex ev
  obtain rfl : v = Value.ref l := rx
  obtain ⟨u, rfl, ru⟩ := vals1 rv
  obtain rfl : u = Value.ref b := ru
  obtain ⟨z, its, n, r, hl, e⟩ := I.lstM hH
  obtain ⟨its2, r2, ⟨ob, e2, hc, n2, hd⟩, _⟩ := I.tuple (.inl hB)
  have hl2 := r2.length
  obtain ⟨cls, dd, dat, sl⟩ := ob
  simp only at hc hd
  subst hc hd
  have hsz : its.toArray.size + its2.toArray.size ≤ sizeLine := by rw [List.size_toArray, List.size_toArray]; omega
  have hlong : ¬ (!its.toArray.isEmpty && Builtin.List.listTooLong (its.toArray.size + its2.toArray.size)) = true := by
    rw [notLongL hsz, Bool.and_false]
    exact Bool.false_ne_true
  refine call_meets F.slot_list_extend ⟨_, e, rfl⟩ F.entry_list_extend (F.args_list_extend_2 _ _) (ext_tup l its.toArray n b its2.toArray n2 dd sl hlong (by rw [List.size_toArray]; omega) (by omega)) ⟨e, e2, ?_⟩
  refine ⟨.non, _, I.lset (its' := its ++ its2) hH e (by simp) (r.append r2) ?_, rfl, q⟩
  rw [List.length_append]
  omega
def mExtendX (x : D) (ds : List D) (m : Mem) : Res D := match x, ds with
  | .ref n, [.tup ys] => (match m[n]? with | some (.lst xs) => if lenOk (xs.length + ys.length) then .ok .non (m.set n (.lst (xs ++ ys))) else .bad | _ => .bad)
  | x, ds => mExtend x ds m
theorem m_extendX : MtR X "list.extend" (rdM mExtendX) := MtR.by fun x xs H Q ⟨Z, m, dx, ds, rx, rs, M, h⟩ => by
  unfold mExtendX at h
  split at h
  · rename_i n ys
    split at h
    · rename_i zs em
      split at h
      · rename_i hl
        obtain ⟨a, vs, ea, rfl, hv, r⟩ := ref_lst M rx em
        obtain ⟨u, rfl, ru⟩ := reps1 rs
        simp only [Rep] at ru
        obtain ⟨b, us, rfl, hu, o, r2⟩ := ru
        refine ⟨rExtT, mt_extT, a, b, vs, us, rfl, rfl, hv, hu, ?_, ?_⟩
        · have := lenOk_le hl
          rw [reps_len r, reps_len r2] at this
          omega
        · exact fin_set h M ea hv (reps_app r r2) (by simp only [Rep])
      · exact h.elim
    · exact h.elim
  · exact ⟨_, m_extend, Z, m, _, _, rx, rs, M, h⟩
end

/-! ### min(x, y), max(x, y) of tuples -/
open PySem.W (AlikeAll iter_tupleW moved_old cmpIn_lt cmpIn_gt)
section
variable {prog : Program} {w : World} {A : Around} {E : Value → Shared → Prop} {s : Shared}
theorem min_pairH {a b : Value} {Q : Value → Shared → Prop}
    (h : wpAny (model prog w) A.in1 (pyIter (.ref s.heap.objs.size)) (fun it s₂ => ∃ I fp wr G n P St H bt, it = .ref I ∧ WalksS prog w A.in1 I fp wr G n P St ∧ St 0 s₂ ∧ (∀ b ∈ fp, b < s₂.heap.objs.size) ∧ 0 < n ∧
      (∀ b o, H.get? b = some o → b ∉ wr) ∧ (∀ b o, H.get? b = some o → s₂.heap.get? b = some o) ∧ CmpIn prog w A.in1 .Lt H P bt ∧ ∀ v s', P (argBest bt (n - 1)) v → Moved wr G s₂ s' → Q v s') E
      { s with heap := s.heap.push { cls := .type "tuple", data := .seq #[a, b] } }) : wpAny (model prog w) A (call (.builtin "min") [a, b]) Q E s := by
  have hname : (toString "min" ++ toString ".loop" : String) = "min.loop" := by decide
  refine call_function_tree F.kind_min F.plain_min F.entry_min (F.args_min2 _ _) ?_
  show wpAny _ A.in1 (Builtin.Builtins.bindParams "min" ["key", "default"] 0 ⟨[], []⟩ >>= _) _ _ s
  refine wpAny_bind (wpAny_of_eq (show Builtin.Builtins.bindParams "min" ["key", "default"] 0 ⟨[], []⟩ = pure [none, none] from rfl) ?_)
  show wpAny _ A.in1 (newTuple [a, b] >>= _) _ _ s
  refine wpAny_bind (wpAny_newObj_type (wpAny_bind (wpAny_mono h (fun it s₂ h₂ => ?_) fun _ _ e => e)))
  obtain ⟨I, fp, wr, G, n, P, St, H, bt, rfl, W, hst, hfp, hn, hw, hkeep, hcmp, hQ⟩ := h₂
  have hSf : s₂.heap.objs.size ∉ fp := fun hm => Nat.lt_irrefl _ (hfp _ hm)
  refine wpAny_bind (wpAny_newObj_type (by
    rw [hname]
    refine wpAny_pure ⟨plainId_quiet F.plain_min_loop _, codeAny_min_loop_firstH W H hw bt hcmp s₂.heap.objs.size hSf (fresh_in hkeep) _ hn (fun b o e => Heap.get?_push_of_some _ (hkeep b o e)) (W.frame 0 s₂ _ s₂.toks hst (Nat.le_refl _) fun b _ o e => Heap.get?_push_of_some _ e) (Heap.get?_push_size _ rfl) fun v s' hP hm => ?_⟩
    exact hQ v s' hP (Moved.drop_new (tk := s₂.toks) hm (Nat.le_refl _))))
theorem max_pairH {a b : Value} {Q : Value → Shared → Prop}
    (h : wpAny (model prog w) A.in1 (pyIter (.ref s.heap.objs.size)) (fun it s₂ => ∃ I fp wr G n P St H bt, it = .ref I ∧ WalksS prog w A.in1 I fp wr G n P St ∧ St 0 s₂ ∧ (∀ b ∈ fp, b < s₂.heap.objs.size) ∧ 0 < n ∧
      (∀ b o, H.get? b = some o → b ∉ wr) ∧ (∀ b o, H.get? b = some o → s₂.heap.get? b = some o) ∧ CmpIn prog w A.in1 .Gt H P bt ∧ ∀ v s', P (argBest bt (n - 1)) v → Moved wr G s₂ s' → Q v s') E
      { s with heap := s.heap.push { cls := .type "tuple", data := .seq #[a, b] } }) : wpAny (model prog w) A (call (.builtin "max") [a, b]) Q E s := by
  have hname : (toString "max" ++ toString ".loop" : String) = "max.loop" := by decide
  refine call_function_tree F.kind_max F.plain_max F.entry_max (F.args_max2 _ _) ?_
  show wpAny _ A.in1 (Builtin.Builtins.bindParams "max" ["key", "default"] 0 ⟨[], []⟩ >>= _) _ _ s
  refine wpAny_bind (wpAny_of_eq (show Builtin.Builtins.bindParams "max" ["key", "default"] 0 ⟨[], []⟩ = pure [none, none] from rfl) ?_)
  show wpAny _ A.in1 (newTuple [a, b] >>= _) _ _ s
  refine wpAny_bind (wpAny_newObj_type (wpAny_bind (wpAny_mono h (fun it s₂ h₂ => ?_) fun _ _ e => e)))
  obtain ⟨I, fp, wr, G, n, P, St, H, bt, rfl, W, hst, hfp, hn, hw, hkeep, hcmp, hQ⟩ := h₂
  have hSf : s₂.heap.objs.size ∉ fp := fun hm => Nat.lt_irrefl _ (hfp _ hm)
  refine wpAny_bind (wpAny_newObj_type (by
    rw [hname]
    refine wpAny_pure ⟨plainId_quiet F.plain_max_loop _, codeAny_max_loop_firstH W H hw bt hcmp s₂.heap.objs.size hSf (fresh_in hkeep) _ hn (fun b o e => Heap.get?_push_of_some _ (hkeep b o e)) (W.frame 0 s₂ _ s₂.toks hst (Nat.le_refl _) fun b _ o e => Heap.get?_push_of_some _ e) (Heap.get?_push_size _ rfl) fun v s' hP hm => ?_⟩
    exact hQ v s' hP (Moved.drop_new (tk := s₂.toks) hm (Nat.le_refl _))))
/-- the pair's items in the pushed heap -/
theorem pair_data {a b : Value} {x y : PyData} {as bs : List Addr} (ra : Reads s.heap a x as) (rb : Reads s.heap b y bs) :
    ReadsAll (s.heap.push { cls := .type "tuple", data := .seq #[a, b] }) [a, b] [x, y] (as ++ (bs ++ [])) :=
  .cons (PyProof.Rows.Reads.keeps (fun _ _ e => Heap.get?_push_of_some _ e) ra) (.cons (PyProof.Rows.Reads.keeps (fun _ _ e => Heap.get?_push_of_some _ e) rb) .nil)
theorem min_pair {a b : Value} {x y : PyData} {as bs : List Addr} {Q : Value → Shared → Prop} (hh : A.handled = none) (ra : Reads s.heap a x as) (rb : Reads s.heap b y bs) (al : AlikeAll [x, y]) (hu : A.units + 1 + PyData.depthAll [x, y] < cLine)
    (h : ∀ h' tk, (∀ b o, s.heap.get? b = some o → h'.get? b = some o) → Q (if PySem.W.dataLt y x then b else a) { s with heap := h', toks := tk }) : wpAny (model prog w) A (call (.builtin "min") [a, b]) Q E s := by
  refine min_pairH ?_
  have hl : (s.heap.push { cls := .type "tuple", data := .seq #[a, b] }).IsTuple s.heap.objs.size #[a, b] := ⟨_, Heap.get?_push_size _ rfl, rfl, _, rfl⟩
  refine iter_tupleW (s := { s with heap := s.heap.push { cls := .type "tuple", data := .seq #[a, b] } }) (A := A.in1) hh hl fun s₂ e W st hfp hw hk => ?_
  refine ⟨_, _, _, _, _, _, _, s.heap.push { cls := .type "tuple", data := .seq #[a, b] }, _, rfl, W, st, hfp, Nat.succ_pos _, hw, hk, cmpIn_lt (s := { s with heap := s.heap.push { cls := .type "tuple", data := .seq #[a, b] } }) (A := A.in1) (pair_data ra rb) al (by show A.units + 1 + _ < _; exact hu), fun v s' hP m => ?_⟩
  obtain ⟨h', tk, rfl, hk'⟩ := moved_old e rfl m
  have hQ := h h' tk fun b o e => hk' b o (Heap.get?_push_of_some _ e)
  have hv : v = if PySem.W.dataLt y x then b else a := by
    change #[a, b][argBest (fun i j => PySem.W.dataLt ([x, y].getD i .none) ([x, y].getD j .none)) 1]? = some v at hP
    by_cases hc : PySem.W.dataLt y x = true
    · have e1 : argBest (fun i j => PySem.W.dataLt ([x, y].getD i .none) ([x, y].getD j .none)) 1 = 1 := if_pos hc
      rw [e1] at hP
      rw [if_pos hc]
      exact (Option.some.inj hP).symm
    · have e1 : argBest (fun i j => PySem.W.dataLt ([x, y].getD i .none) ([x, y].getD j .none)) 1 = 0 := if_neg hc
      rw [e1] at hP
      rw [if_neg hc]
      exact (Option.some.inj hP).symm
  rw [hv]
  exact hQ
theorem max_pair {a b : Value} {x y : PyData} {as bs : List Addr} {Q : Value → Shared → Prop} (hh : A.handled = none) (ra : Reads s.heap a x as) (rb : Reads s.heap b y bs) (al : AlikeAll [x, y]) (hu : A.units + 1 + PyData.depthAll [x, y] < cLine)
    (h : ∀ h' tk, (∀ b o, s.heap.get? b = some o → h'.get? b = some o) → Q (if PySem.W.dataLt x y then b else a) { s with heap := h', toks := tk }) : wpAny (model prog w) A (call (.builtin "max") [a, b]) Q E s := by
  refine max_pairH ?_
  have hl : (s.heap.push { cls := .type "tuple", data := .seq #[a, b] }).IsTuple s.heap.objs.size #[a, b] := ⟨_, Heap.get?_push_size _ rfl, rfl, _, rfl⟩
  refine iter_tupleW (s := { s with heap := s.heap.push { cls := .type "tuple", data := .seq #[a, b] } }) (A := A.in1) hh hl fun s₂ e W st hfp hw hk => ?_
  refine ⟨_, _, _, _, _, _, _, s.heap.push { cls := .type "tuple", data := .seq #[a, b] }, _, rfl, W, st, hfp, Nat.succ_pos _, hw, hk, cmpIn_gt (s := { s with heap := s.heap.push { cls := .type "tuple", data := .seq #[a, b] } }) (A := A.in1) (pair_data ra rb) al (by show A.units + 1 + _ < _; exact hu), fun v s' hP m => ?_⟩
  obtain ⟨h', tk, rfl, hk'⟩ := moved_old e rfl m
  have hQ := h h' tk fun b o e => hk' b o (Heap.get?_push_of_some _ e)
  have hv : v = if PySem.W.dataLt x y then b else a := by
    change #[a, b][argBest (fun i j => PySem.W.dataLt ([x, y].getD j .none) ([x, y].getD i .none)) 1]? = some v at hP
    by_cases hc : PySem.W.dataLt x y = true
    · have e1 : argBest (fun i j => PySem.W.dataLt ([x, y].getD j .none) ([x, y].getD i .none)) 1 = 1 := if_pos hc
      rw [e1] at hP
      rw [if_pos hc]
      exact (Option.some.inj hP).symm
    · have e1 : argBest (fun i j => PySem.W.dataLt ([x, y].getD j .none) ([x, y].getD i .none)) 1 = 0 := if_neg hc
      rw [e1] at hP
      rw [if_neg hc]
      exact (Option.some.inj hP).symm
  rw [hv]
  exact hQ
end
def isTp : D → Bool | .tup _ => true | _ => false
def pairOk (x y : D) : Bool := isTp x && isTp y && shs 60 [x, y] && ([x, y].all fun a => [x, y].all fun b => likeD a b)
def bMinX (ds : List D) (m : Mem) : Res D := match ds with
  | [x, y] => if pairOk x y then .ok (if leD x y then x else y) m else bMin [x, y] m
  | ds => bMin ds m
def bMaxX (ds : List D) (m : Mem) : Res D := match ds with
  | [x, y] => if pairOk x y then .ok (if leD y x then x else y) m else bMax [x, y] m
  | ds => bMax ds m
section
variable {X : Cx}
theorem pair_alike {x y : D} (h : pairOk x y = true) : shs 60 [x, y] = true ∧ AlikeAll [toPy x, toPy y] := by
  unfold pairOk at h
  rw [Bool.and_eq_true, Bool.and_eq_true, Bool.and_eq_true] at h
  refine ⟨h.1.2, fun a ha b hb => alike_of h.2 a (by simpa using ha) b (by simpa using hb), fun a ha => ?_⟩
  have h1 := h.1.1
  cases x <;> simp [isTp] at h1
  cases y <;> simp [isTp] at h1
  simp only [List.mem_cons, List.not_mem_nil, or_false] at ha
  rcases ha with rfl | rfl <;> simp [toPy]
theorem pair_depth {x y : D} (h : shs 60 [x, y] = true) : PyData.depthAll [toPy x, toPy y] ≤ 60 := by
  have := (shs_lay 60 [x, y] h).2
  simpa [toPys] using this
def rMinP (mx : Bool) : List V → Hp → VK → Prop := fun vs H Q => ∃ Z x y, Reps H Z [x, y] vs ∧ pairOk x y = true ∧ ∀ v, Rep H Z (if mx then (if leD y x then x else y) else (if leD x y then x else y)) v → Q v H

theorem cr_minP (hc : X.calm = true) (hu : X.A.units + 64 < cLine) : CallR X (.builtin "min") (rMinP false) := by
  intro pins s σ H vs us Q I r ⟨Z, x, y, rs, ok, q⟩
  obtain ⟨va, vb, rfl, ra, rb⟩ := reps2 rs
  obtain ⟨a, b, rfl, ua, ub⟩ : ∃ a b, us = [a, b] ∧ RelV va a ∧ RelV vb b := by
    cases r with
    | cons p r => cases r with
      | cons p2 r => cases r; exact ⟨_, _, rfl, p, p2⟩
  obtain ⟨h1, h2⟩ := pair_alike ok
  have s' : sh 60 x = true ∧ sh 60 y = true := by simpa [shs] using h1
  obtain ⟨as, r1⟩ := Dp.reads I _ _ _ (py_dp 60 x va s'.1 ra) ua
  obtain ⟨bs, r2⟩ := Dp.reads I _ _ _ (py_dp 60 y vb s'.2 rb) ub
  have hd := pair_depth h1
  refine min_pair (I.ok.hd hc) r1 r2 h2 (by omega) fun h' tk hk => ?_
  have hle : leD x y = !PySem.W.dataLt (toPy y) (toPy x) := rfl
  cases hb : PySem.W.dataLt (toPy y) (toPy x) with
  | true =>
    rw [hb] at hle
    rw [if_pos rfl]
    exact ⟨vb, H, I.kept hk, ub, q vb (by rw [hle]; exact rb)⟩
  | false =>
    rw [hb] at hle
    rw [if_neg Bool.false_ne_true]
    exact ⟨va, H, I.kept hk, ua, q va (by rw [hle]; exact ra)⟩
theorem cr_maxP (hc : X.calm = true) (hu : X.A.units + 64 < cLine) : CallR X (.builtin "max") (rMinP true) := by
  intro pins s σ H vs us Q I r ⟨Z, x, y, rs, ok, q⟩
  obtain ⟨va, vb, rfl, ra, rb⟩ := reps2 rs
  obtain ⟨a, b, rfl, ua, ub⟩ : ∃ a b, us = [a, b] ∧ RelV va a ∧ RelV vb b := by
    cases r with
    | cons p r => cases r with
      | cons p2 r => cases r; exact ⟨_, _, rfl, p, p2⟩
  obtain ⟨h1, h2⟩ := pair_alike ok
  have s' : sh 60 x = true ∧ sh 60 y = true := by simpa [shs] using h1
  obtain ⟨as, r1⟩ := Dp.reads I _ _ _ (py_dp 60 x va s'.1 ra) ua
  obtain ⟨bs, r2⟩ := Dp.reads I _ _ _ (py_dp 60 y vb s'.2 rb) ub
  have hd := pair_depth h1
  refine max_pair (I.ok.hd hc) r1 r2 h2 (by omega) fun h' tk hk => ?_
  have hle : leD y x = !PySem.W.dataLt (toPy x) (toPy y) := rfl
  cases hb : PySem.W.dataLt (toPy x) (toPy y) with
  | true =>
    rw [hb] at hle
    rw [if_pos rfl]
    exact ⟨vb, H, I.kept hk, ub, q vb (by rw [hle]; exact rb)⟩
  | false =>
    rw [hb] at hle
    rw [if_neg Bool.false_ne_true]
    exact ⟨va, H, I.kept hk, ua, q va (by rw [hle]; exact ra)⟩
theorem bMinX_ok (hc : X.calm = true) (hu : X.A.units + 64 < cLine) : CallR X (.builtin "min") (rdC bMinX) := CallR.by fun xs H Q ⟨Z, m, ds, rs, M, h⟩ => by
  unfold bMinX at h
  split at h
  · rename_i x y
    split at h
    · rename_i ok
      exact ⟨_, cr_minP hc hu, Z, x, y, rs, ok, fun v r => fin_ok h M (by simpa using r)⟩
    · exact ⟨_, bMin_ok hc, Z, m, _, rs, M, h⟩
  · exact ⟨_, bMin_ok hc, Z, m, _, rs, M, h⟩
theorem bMaxX_ok (hc : X.calm = true) (hu : X.A.units + 64 < cLine) : CallR X (.builtin "max") (rdC bMaxX) := CallR.by fun xs H Q ⟨Z, m, ds, rs, M, h⟩ => by
  unfold bMaxX at h
  split at h
  · rename_i x y
    split at h
    · rename_i ok
      exact ⟨_, cr_maxP hc hu, Z, x, y, rs, ok, fun v r => fin_ok h M (by simpa using r)⟩
    · exact ⟨_, bMax_ok hc, Z, m, _, rs, M, h⟩
  · exact ⟨_, bMax_ok hc, Z, m, _, rs, M, h⟩
end
end PD
namespace PD
open PySem PySem.Spec L2
open PyProof.Rows hiding St

/-! ### sorted(set(pairs)) -/
def encP (p : Int × Int) : D := .tup [.int p.1, .int p.2]
def pairsI : List D → Option (List (Int × Int))
  | [] => some []
  | .tup [.int x, .int y] :: r => (pairsI r).map ((x, y) :: ·)
  | _ => none
def dedP (ks : List (Int × Int)) : List (Int × Int) := ks.foldr (fun x r => if x ∈ r then r else x :: r) []
theorem dedP_mem {ks : List (Int × Int)} {p : Int × Int} : p ∈ dedP ks ↔ p ∈ ks := by
  induction ks with
  | nil => simp [dedP]
  | cons x r ih =>
    show p ∈ (if x ∈ dedP r then dedP r else x :: dedP r) ↔ _
    split
    · rename_i h
      rw [ih, List.mem_cons]
      constructor
      · exact .inr
      · rintro (rfl | h2)
        · exact ih.mp h
        · exact h2
    · rw [List.mem_cons, List.mem_cons, ih]
theorem dedP_nodup (ks : List (Int × Int)) : (dedP ks).Nodup := by
  induction ks with
  | nil => exact List.nodup_nil
  | cons x r ih =>
    show (if x ∈ dedP r then dedP r else x :: dedP r).Nodup
    split
    · exact ih
    · rename_i h
      exact List.nodup_cons.mpr ⟨h, ih⟩
def smallP (ks : List (Int × Int)) : Bool := decide (ks.length < 64) && ks.all fun p => decide (0 ≤ p.1 ∧ p.1 < 64 ∧ 0 ≤ p.2 ∧ p.2 < 64)
theorem leD_pair (p q : Int × Int) : leD (encP p) (encP q) = decide (p.1 < q.1 ∨ (p.1 = q.1 ∧ p.2 ≤ q.2)) :=
  congrFun (congrFun (PySem.W.dataLe_ii (β := Int × Int) (fun b => b.1) (fun b => b.2)) p) q
theorem pairs_addr {H : Hp} {Z : Zn} : ∀ {xs : List D} {vs : List V} {ks : List (Int × Int)}, Reps H Z xs vs → pairsI xs = some ks →
    ∃ as : List Addr, vs = as.map V.ref ∧ as.length = ks.length ∧ ∀ q ∈ as.zip ks, Rep H Z (encP q.2) (.ref q.1) ∧ Rd H q.1 (.tup [.int q.2.1, .int q.2.2])
  | [], vs, ks, r, e => by
    simp only [Reps] at r; subst r
    simp only [pairsI] at e; cases e
    exact ⟨[], rfl, rfl, fun q h => by cases h⟩
  | d :: xs, vs, ks, r, e => by
    unfold pairsI at e
    split at e
    · rename_i h; cases h
    · rename_i x y r' h
      cases h
      rw [Option.map_eq_some_iff] at e
      obtain ⟨ks', e', rfl⟩ := e
      simp only [Reps] at r
      obtain ⟨v, vs', rfl, r1, r2⟩ := r
      obtain ⟨as, rfl, hl, ha⟩ := pairs_addr r2 e'
      have r1' := r1
      simp only [Rep] at r1
      obtain ⟨a, us, rfl, rd, o, rs⟩ := r1
      simp only [Reps, Rep] at rs
      obtain ⟨_, _, rfl, rfl, _, _, rfl, rfl, rfl⟩ := rs
      refine ⟨a :: as, rfl, by rw [List.length_cons, List.length_cons, hl], fun q hq => ?_⟩
      rcases List.mem_cons.mp hq with rfl | hq
      · exact ⟨r1', rd⟩
      · exact ha q hq
    · cases e
theorem zip_reps {H : Hp} {Z : Zn} : ∀ (l : List (Addr × (Int × Int))), (∀ q ∈ l, Rep H Z (encP q.2) (.ref q.1)) → Reps H Z (l.map fun q => encP q.2) (l.map fun q => V.ref q.1)
  | [], _ => by simp [Reps]
  | q :: l, h => by
    simp only [List.map_cons, Reps]
    exact ⟨_, _, rfl, h q List.mem_cons_self, zip_reps l fun r hr => h r (List.mem_cons_of_mem _ hr)⟩
def twoK (q : Addr × (Int × Int)) : Addr × List Int := (q.1, [q.2.1, q.2.2])
/-- the set's tuples, sorted by their code, are the pairs sorted -/
theorem set_pairs {l : List (Addr × (Int × Int))} {L : List (Addr × List Int)} (hs : ∀ p ∈ L, p ∈ l.map twoK) (ha : ∀ p ∈ l.map twoK, p.2 ∈ L.map (·.2)) (hn : (L.map (·.2)).Nodup) (hb : ∀ q ∈ l, 0 ≤ q.2.1 ∧ q.2.1 < 64 ∧ 0 ≤ q.2.2 ∧ q.2.2 < 64)
    (hp : L.Pairwise fun q r => TS.code 64 q.2 ≤ TS.code 64 r.2) : ∃ l' : List (Addr × (Int × Int)), L = l'.map twoK ∧ (∀ q ∈ l', q ∈ l) ∧ l'.map (fun q => encP q.2) = sortD ((dedP (l.map (·.2))).map encP) := by
  obtain ⟨l', eL, hsub⟩ : ∃ l' : List (Addr × (Int × Int)), L = l'.map twoK ∧ (∀ q ∈ l', q ∈ l) := by
    clear ha hn hp
    induction L with
    | nil => exact ⟨[], rfl, fun q h => by cases h⟩
    | cons p L ih =>
      obtain ⟨l', e, h⟩ := ih fun q hq => hs q (List.mem_cons_of_mem _ hq)
      obtain ⟨q, hq, e2⟩ := List.mem_map.mp (hs p List.mem_cons_self)
      exact ⟨q :: l', by rw [List.map_cons, e2, ← e], fun r hr => (List.mem_cons.mp hr).elim (fun e => by rw [e]; exact hq) (h r)⟩
  subst eL
  refine ⟨l', rfl, hsub, ?_⟩
  have key : l'.map (·.2) = (dedP (l.map (·.2))).mergeSort fun a b => leD (encP a) (encP b) := by
    have hn' : (l'.map (·.2)).Nodup := by
      rw [List.map_map] at hn
      rw [List.Nodup, List.pairwise_map] at hn ⊢
      refine hn.imp fun {a b} h z => h ?_
      show [a.2.1, a.2.2] = [b.2.1, b.2.2]
      rw [z]
    refine List.Perm.eq_of_pairwise (le := fun a b : Int × Int => leD (encP a) (encP b) = true) (fun a b _ _ h1 h2 => ?_) ?_ ?_ ?_
    · rw [leD_pair, decide_eq_true_eq] at h1 h2
      refine Prod.ext ?_ ?_ <;> omega
    · rw [List.pairwise_map] at hp ⊢
      refine List.Pairwise.imp_of_mem (fun {a b} ma mb h => ?_) hp
      have ba := hb a (hsub a ma)
      have bb := hb b (hsub b mb)
      change TS.code 64 [a.2.1, a.2.2] ≤ TS.code 64 [b.2.1, b.2.2] at h
      rw [leD_pair, decide_eq_true_eq]
      by_cases e : ([a.2.1, a.2.2] : List Int) = [b.2.1, b.2.2]
      · simp only [List.cons.injEq, and_true] at e
        exact .inr ⟨e.1, by omega⟩
      · rcases pair_lt h e ⟨ba.1, ba.2.1⟩ ⟨ba.2.2.1, ba.2.2.2⟩ ⟨bb.1, bb.2.1⟩ ⟨bb.2.2.1, bb.2.2.2⟩ with h | h
        · exact .inl h
        · exact .inr ⟨h.1, by omega⟩
    · refine List.pairwise_mergeSort (le := fun a b : Int × Int => leD (encP a) (encP b)) (fun a b c h1 h2 => ?_) (fun a b => ?_) _
      · rw [leD_pair, decide_eq_true_eq] at *
        omega
      · rw [leD_pair, leD_pair, ← Bool.decide_or, decide_eq_true_eq]
        omega
    · refine ((List.perm_ext_iff_of_nodup hn' ?_).mpr fun p => ?_)
      · exact (List.mergeSort_perm _ _).nodup_iff.mpr (dedP_nodup _)
      · rw [(List.mergeSort_perm _ _).mem_iff, dedP_mem]
        constructor
        · intro h
          obtain ⟨q, hq, rfl⟩ := List.mem_map.mp h
          exact List.mem_map_of_mem (hsub q hq)
        · intro h
          obtain ⟨q, hq, rfl⟩ := List.mem_map.mp h
          obtain ⟨r, hr, e⟩ := List.mem_map.mp (ha (twoK q) (List.mem_map_of_mem hq))
          obtain ⟨z, hz, rfl⟩ := List.mem_map.mp hr
          change [z.2.1, z.2.2] = [q.2.1, q.2.2] at e
          simp only [List.cons.injEq, and_true] at e
          exact List.mem_map.mpr ⟨z, hz, Prod.ext e.1 e.2⟩
  have e1 : l'.map (fun q => encP q.2) = (l'.map (·.2)).map encP := by rw [List.map_map]; rfl
  rw [e1, key]
  unfold sortD
  exact List.map_mergeSort (r := fun a b => leD (encP a) (encP b)) (s := leD) (f := encP) (l := dedP (l.map (·.2))) fun a _ b _ => rfl
def opSS (nw : Bool) (x : D) (m : Mem) : Res D := match deref m x with
  | .lst xs => (match pairsI xs with | some ks => if smallP ks then newL nw (sortD ((dedP ks).map encP)) m else .bad | none => .bad)
  | _ => .bad
def eSortSet (nw : Bool) (fe : EF) : EF := fun σ m => (fe σ m).bind fun x m => noexc (opSS nw x m)
section
variable {X : Cx} {W : WX} {e : Expr} {fe : EF} {p p2 q pos : Pos}
theorem e_sortSet {nw : Bool} (hc : X.calm = true) (hu : X.A.units + 64 < cLine) (hg : Gl X "sorted") (hm : X.mg "sorted" = none) (hv : bootBuiltins "sorted" = some (.builtin "sorted")) (hg2 : Gl X "set") (hm2 : X.mg "set" = none) (hv2 : bootBuiltins "set" = some (.type "set")) (he : E X W e fe)
    (h1 : starEach [e] X.env = (false, eval e X.env) :: starEach [] X.env := by rfl) (h2 : (backTo q (starEach [] X.env)).any (·.1) = false := by rfl)
    (h3 : starEach [.Call (.Name "set" p2) [e] [] q] X.env = (false, eval (.Call (.Name "set" p2) [e] [] q) X.env) :: starEach [] X.env := by rfl) (h4 : (backTo pos (starEach [] X.env)).any (·.1) = false := by rfl) :
    E X W (.Call (.Name "sorted" p) [.Call (.Name "set" p2) [e] [] q] [] pos) (eSortSet nw fe) := by
  have inner := pe_callTy (p := p2) (pos := q) (cr_setOfT hc hu) hg2 hm2 hv2 (pa_cons he pa_nil h1) (by decide) (by decide) h1 h2
  refine PE.imp (pe_callB (p := p) (pos := pos) (cr_sortedT hc) hg hm hv (pa_cons inner pa_nil h3) (by decide) (by decide) h3 h4) fun σ H Q ⟨Z, σd, m, S, M, h⟩ => ?_
  refine ⟨Z, σd, m, S, M, (Fin.bind h).mono fun x m1 H1 Z1 x1 M1 hb v r => ?_⟩
  have hb := FinO.of hb
  unfold opSS at hb
  split at hb
  · rename_i xs ed
    split at hb
    · rename_i ks ek
      split at hb
      · rename_i hsm
        obtain ⟨a, vs, rfl, ha, rs⟩ := lst_of M1 r ed
        obtain ⟨as, rfl, hl, hall⟩ := pairs_addr rs ek
        unfold smallP at hsm
        rw [Bool.and_eq_true, decide_eq_true_eq, List.all_eq_true] at hsm
        have hz2 : (as.zip ks).map (·.2) = ks := List.map_snd_zip (by omega)
        have hz1 : (as.zip ks).map (fun q => V.ref q.1) = as.map V.ref := by
          have : (as.zip ks).map (·.1) = as := List.map_fst_zip (by omega)
          have e2 : (as.zip ks).map (fun q => V.ref q.1) = ((as.zip ks).map (·.1)).map V.ref := by rw [List.map_map]; rfl
          rw [e2, this]
        have hbd : ∀ q ∈ as.zip ks, 0 ≤ q.2.1 ∧ q.2.1 < 64 ∧ 0 ≤ q.2.2 ∧ q.2.2 < 64 := fun q hq => by
          have hm : q.2 ∈ ks := by rw [← hz2]; exact List.mem_map_of_mem hq
          simpa using hsm.2 q.2 hm
        refine ⟨a, (as.zip ks).map twoK, rfl, .inl (.inl (by rw [List.map_map]; show H1 a = some (.lst ((as.zip ks).map fun q => V.ref q.1)); rw [hz1]; exact ha)), fun p hp => ?_, by rw [List.length_map, List.length_zip]; omega, fun b L nb hs hal => ?_⟩
        · obtain ⟨q, hq, rfl⟩ := List.mem_map.mp hp
          exact .inl (hall q hq).2
        have hmem : ∀ p ∈ L, ∃ q ∈ as.zip ks, twoK q = p := fun p hp => List.mem_map.mp (hs p hp)
        have keepR : ∀ q ∈ as.zip ks, Rd (upd H1 b (SetTO X.prog X.w b L)) q.1 (.tup [.int q.2.1, .int q.2.2]) := fun q hq => by
          have := (hall q hq).2
          rcases this with h | ⟨o, h⟩
          · exact .inl (by rw [upd_ne (ne_of_none h nb)]; exact h)
          · exact .inr ⟨o, by rw [upd_ne (ne_of_none h nb)]; exact h⟩
        refine ⟨b, L, 2, 64, rfl, upd_same, fun p hp => ?_, by decide, fun p hp => ?_, fun L' c pm hnd h64 hpw nc => ?_⟩
        · obtain ⟨q, hq, rfl⟩ := hmem p hp
          exact .inl (keepR q hq)
        · obtain ⟨q, hq, rfl⟩ := hmem p hp
          refine ⟨rfl, fun n hn => ?_⟩
          have := hbd q hq
          change n ∈ [q.2.1, q.2.2] at hn
          simp only [List.mem_cons, List.not_mem_nil, or_false] at hn
          rcases hn with rfl | rfl <;> omega
        · obtain ⟨l', rfl, hsub, hsort⟩ := set_pairs (l := as.zip ks) (L := L') (fun p hp => hs p (pm.mem_iff.mp hp)) (fun p hp => ((pm.map (·.2)).mem_iff.mpr (hal p hp))) hnd hbd hpw
          rw [hz2] at hsort
          have x2 : Ext Z1 H1 Z1 (upd H1 b (SetTO X.prog X.w b L)) := Ext.laid M1 nb
          have M2 : MRep (upd H1 b (SetTO X.prog X.w b L)) Z1 m1 := M1.laid nb
          have rz : Reps (upd H1 b (SetTO X.prog X.w b L)) Z1 (sortD ((dedP ks).map encP)) (l'.map fun q => V.ref q.1) := by
            rw [← hsort]
            exact zip_reps l' fun q hq => Rep.ext x2 _ _ (hall q (hsub q hq)).1
          have e3 : (l'.map twoK).map (fun q => V.ref q.1) = l'.map fun q => V.ref q.1 := by rw [List.map_map]; rfl
          rw [e3]
          have hb2 : FinO (upd H1 b (SetTO X.prog X.w b L)) Z1 (newL nw (sortD ((dedP ks).map encP)) m1) Q := by
            unfold newL at hb ⊢
            split at hb
            · rename_i hlen
              rw [if_pos hlen]
              cases nw with
              | false => exact fun H' Z' v x M r => hb H' Z' v (x2.trans x) M r
              | true => exact fun H' Z' v x M r => hb H' Z' v (x2.trans x) M r
            · exact hb.elim
          exact (fin_newL hb2 M2 rz).2 c nc
      · exact hb.elim
    · exact hb.elim
  · exact hb.elim
end
end PD
namespace PD
open PySem PySem.Spec L2
open PyProof.Rows hiding St

/-! ### len(set(ints)) -/
def uniqN (ns : List Int) : Nat := (ns.foldl step_dedup []).length
theorem getD_range (ns : List Int) : (List.range ns.length).map (fun i => ns.getD i 0) = ns := by
  apply List.ext_getElem?
  intro i
  rw [List.getElem?_map]
  by_cases h : i < ns.length
  · rw [List.getElem?_range h, List.getElem?_eq_getElem h]
    simp [List.getD_eq_getElem?_getD, h]
  · rw [List.getElem?_eq_none (by simp; omega), List.getElem?_eq_none (by omega)]; rfl
def opLS (x : D) (m : Mem) : Res D := match deref m x with
  | .lst xs => (match intsD xs with | some ns => if ns.length < 4000 then .ok (.int (uniqN ns : Nat)) m else .bad | none => .bad)
  | _ => .bad
def eLenSet (fe : EF) : EF := fun σ m => (fe σ m).bind fun x m => noexc (opLS x m)
theorem ints_vals : ∀ {ns : List Int} {us : List Value}, Vals (ns.map V.int) us → PyProof.Rows.IntsAre us ns
  | [], _, .nil => .nil
  | n :: ns, _, .cons r t => by
    obtain ⟨k, rfl⟩ := r
    exact .cons n k (ints_vals t)
section
variable {X : Cx} {W : WX} {e : Expr} {fe : EF} {p p2 q pos : Pos}
theorem e_lenSet (hc : X.calm = true) (hg : Gl X "len") (hm : X.mg "len" = none) (hg2 : Gl X "set") (hm2 : X.mg "set" = none) (hv2 : bootBuiltins "set" = some (.type "set")) (he : E X W e fe)
    (na : starEach [e] X.env = (false, eval e X.env) :: starEach [] X.env := by rfl) : E X W (.Call (.Name "len" p) [.Call (.Name "set" p2) [e] [] q] [] pos) (eLenSet fe) := by
  have h0 : PE X (.Call (.Name "len" p) [.Call (.Name "set" p2) [e] [] q] [] pos) (fun σ H Q => (rdE X W fe) σ H fun x H1 => ∃ (l : Addr) (ns : List Int), x = .ref l ∧ SqL X.K H1 l (ns.map V.int) ∧ ns.length < 4000 ∧ Q (.int (uniqN ns : Nat)) H1) := by
    refine ⟨fun pins s σ H Q I h => ?_⟩
    refine Call_ (ld_blt I hg hm boot_len ?_)
    refine PyProof.Rows.callWith_builtin1 (PyProof.Rows.args_cons ?_ rfl) rfl rfl
    refine Call_ (ld_blt I hg2 hm2 hv2 ?_)
    refine PyProof.Rows.callWith_type1 (PyProof.Rows.args_cons (thn (he.run pins s σ H _ I h) fun v s1 ⟨x, H1, I1, r1, l, ns, ex, hq, hl, q1⟩ => PyProof.Rows.args_nil ?_) na) na rfl
    subst ex
    obtain rfl : v = Value.ref l := r1
    obtain ⟨its, r, pl, hz⟩ := I1.list hq
    have hlen : its.toArray.size = ns.length := by rw [List.size_toArray, ← r.length, List.length_map]
    refine call_set_list (I1.ok.hd hc) pl.isList (by simpa using ints_vals r) (by rw [hlen]; unfold scanBound; omega) fun h' tk hS hk => ?_
    refine PyProof.Rows.args_nil ?_
    have hle := PyProof.Rows.firstMet_length_le (fun i => ns.getD i 0) its.toArray.size
    have hu : (PyProof.Rows.firstMet (fun i => ns.getD i 0) its.toArray.size).length = uniqN ns := by
      rw [hlen]
      unfold PyProof.Rows.firstMet uniqN
      rw [getD_range]
    obtain ⟨o, es, ep, t, ho, hex, hd, _, _, _, hf, hn⟩ := hS
    have I2 : Inv X pins σ H1 { s1 with heap := h', toks := tk } := I1.kept fun b o e => hk b o (Heap.lt_size e) e
    exact call_len_set ho hex hd hf (by rw [hn] <;> omega) ⟨.int (uniqN ns : Nat), H1, I2.tok _, ⟨_, by rw [hn, hu]⟩, q1⟩
  refine PE.imp h0 fun σ H Q ⟨Z, σd, m, S, M, h⟩ => ?_
  refine ⟨Z, σd, m, S, M, (Fin.bind h).mono fun x m1 H1 Z1 x1 M1 hb v r => ?_⟩
  have hb := FinO.of hb
  unfold opLS at hb
  split at hb
  · rename_i xs ed
    split at hb
    · rename_i ns en
      split at hb
      · rename_i hl
        obtain ⟨a, vs, rfl, ha, rs⟩ := lst_of M1 r ed
        have ev := reps_ints rs en
        subst ev
        exact ⟨a, ns, rfl, .inl (.inl ha), hl, fin_ok hb M1 rep_intI⟩
      · exact hb.elim
    · exact hb.elim
  · exact hb.elim
theorem uniq_step (ns acc : List Int) : acc.length ≤ (ns.foldl step_dedup acc).length := by
  induction ns generalizing acc with
  | nil => exact Nat.le_refl _
  | cons n ns ih =>
    refine Nat.le_trans ?_ (ih (step_dedup acc n))
    unfold step_dedup
    split
    · exact Nat.le_refl _
    · rw [List.length_append]; omega
theorem uniq_one {ns : List Int} : uniqN ns = 1 ↔ ∃ n r, ns = n :: r ∧ ∀ x ∈ r, x = n := by
  cases ns with
  | nil => simp [uniqN]
  | cons n r =>
    have e0 : step_dedup [] n = [n] := rfl
    have key : ∀ r : List Int, (r.foldl step_dedup [n]).length = 1 ↔ ∀ x ∈ r, x = n := by
      intro r
      induction r with
      | nil => simp
      | cons x r ih =>
        rw [List.foldl_cons]
        by_cases h : x = n
        · subst h
          have e1 : step_dedup [x] x = [x] := by unfold step_dedup; simp
          rw [e1, ih]
          simp
        · have e1 : step_dedup [n] x = [n, x] := by
            unfold step_dedup
            have hne : ¬ ([n].any (· == x)) = true := by simp; exact fun z => h z.symm
            rw [if_neg hne]; rfl
          rw [e1]
          constructor
          · intro z
            have := uniq_step r [n, x]
            simp at this
            omega
          · intro z
            exact absurd (z x List.mem_cons_self) h
    unfold uniqN
    rw [List.foldl_cons, e0, key]
    constructor
    · intro h; exact ⟨n, r, rfl, h⟩
    · rintro ⟨n', r', e, h⟩
      cases e
      exact h
/-! ### a def that calls itself -/
theorem ss_bad {b : List Stmt} : Ss X W b (fun _ _ => .bad) := ⟨fun pins s σ H D I ⟨_, _, _, _, _, h⟩ => h.elim⟩
end
end PD
namespace PD
open PySem PySem.Spec L2
open PyProof.Rows hiding St
/-! ### sum(tuple) -/
section
variable {X : Cx}
def rSumT (K : PySem.W.Frag) : List V → Hp → VK → Prop := fun vs H Q => ∃ (a : Addr) (ns : List Int), vs = [V.ref a] ∧ SqT K H a (ns.map V.int) ∧ Q (.int ns.sum) H
theorem cr_sumT (hc : X.calm = true) : CallR X (.builtin "sum") (rSumT X.K) := by
  intro pins s σ H vs us Q I r ⟨a, ns, ev, hs, q⟩
  subst ev
  obtain ⟨u, rfl, ru⟩ := vals1 r
  obtain rfl : u = Value.ref a := ru
  obtain ⟨its, rv, ⟨ob, ho, hcl, n, hd⟩, _⟩ := I.tuple hs
  have hh := I.ok.hd hc
  have hit : s.heap.IsTuple a its.toArray := ⟨ob, ho, hcl, n, hd⟩
  have hlen : its.toArray.size = ns.length := by rw [List.size_toArray, ← rv.length, List.length_map]
  let val : Nat → Int := fun i => ns.getD i 0
  have hval : ∀ (i : Nat) (v : Value), its.toArray[i]? = some v → ∃ t, v = .int (val i) t := fun i v hv => by
    rw [List.getElem?_toArray] at hv
    have hi : i < its.length := (List.getElem?_eq_some_iff.mp hv).1
    have hi2 : i < ns.length := by rw [List.size_toArray] at hlen; omega
    have ex : (ns.map V.int)[i]? = some (.int ns[i]) := by rw [List.getElem?_map, List.getElem?_eq_getElem hi2]; rfl
    obtain ⟨w, ew, rw'⟩ := rv.get ex
    rw [hv] at ew
    cases ew
    obtain ⟨t, rfl⟩ := rw'
    exact ⟨t, by show Value.int ns[i] t = Value.int (ns.getD i 0) t; rw [List.getD_eq_getElem?_getD, List.getElem?_eq_getElem hi2]; rfl⟩
  refine call_sum_walkAnyS (PySem.W.iter_tupleW (A := X.A.in1) hh hit fun s₂ e W st hfp hw hk => ?_)
  refine ⟨_, _, _, _, _, _, _, val, rfl, W, st, hfp, hval, fun s' t' m => ?_⟩
  obtain ⟨h', tk, rfl, hk'⟩ := PySem.W.moved_old e rfl m
  have e2 : preSum val its.toArray.size = ns.sum := by
    have := preSum_list (h := fun v => match v with | .int i => i | _ => 0) (ns.map V.int) val (fun i x hx => by
      rw [List.getElem?_map, Option.map_eq_some_iff] at hx
      obtain ⟨y, hy, rfl⟩ := hx
      show ns.getD i 0 = y
      rw [List.getD_eq_getElem?_getD, hy]; rfl) ns.length (by rw [List.length_map]; exact Nat.le_refl _)
    rw [hlen, this]
    rw [List.take_of_length_le (by rw [List.length_map]; exact Nat.le_refl _), List.map_map]
    congr 1
    conv => rhs; rw [← List.map_id ns]
    exact List.map_congr_left fun _ _ => rfl
  rw [e2]
  exact ⟨.int ns.sum, H, I.kept hk', ⟨_, rfl⟩, q⟩
def bSumX (ds : List D) (m : Mem) : Res D := match ds with
  | [.tup xs] => (match intsD xs with | some bs => .ok (.int bs.sum) m | none => .bad)
  | ds => bSum ds m
theorem bSumX_ok (hc : X.calm = true) : CallR X (.builtin "sum") (rdC bSumX) := CallR.by fun xs H Q ⟨Z, m, ds, rs, M, h⟩ => by
  unfold bSumX at h
  split at h
  · rename_i ys
    obtain ⟨v, rfl, r⟩ := reps1 rs
    split at h
    · rename_i bs eb
      simp only [Rep] at r
      obtain ⟨a, vs, rfl, rd, o, rs'⟩ := r
      have ev := reps_ints rs' eb
      subst ev
      exact ⟨_, cr_sumT hc, a, bs, rfl, .inl rd, fin_ok h M rep_intI⟩
    · exact h.elim
  · exact ⟨_, bSum_ok hc, Z, m, _, rs, M, h⟩
end
end PD
namespace PD
open PySem PySem.Spec L2
open PyProof.Rows hiding St

/-! ### {k: v} -/
section
variable {X : Cx} {W : WX} {pos : Pos}
def eD1 (fk fv : EF) : EF := fun σ m => (fk σ (m ++ [.dct false []])).bind fun y m1 => (fv σ m1).bind fun d m2 => match setDx (.ref m.length) y d σ m2 with
  | .nx _ m3 => .ok (.ref m.length) m3
  | _ => .bad
theorem put_dctX (hu : X.A.units + 64 < cLine) {pins : List (Addr × Obj)} {σ : St} {s : Shared} {H : Hp} {o i v : V} {iv u : Value} {a : Addr} {Q : Hp → Prop} (I : Inv X pins σ H s) (eo : o = .ref a) (ri : RelV i iv) (rv : RelV v u) (h : rSetDX o i v H Q) :
    wpAny (model X.prog X.w) X.A (dictSet a iv u) (fun _ s' => ∃ H', Inv X pins σ H' s' ∧ Q H') X.xe s := by
  obtain ⟨Z, m, n, y, k, kvs, d, po, pi, pv, M, em, ek, hl, q⟩ := h
  obtain ⟨a', L, w, xs, ea', ea, hw, hlk, hp, hv, dd⟩ := dct_at I M em po
  rw [eo] at ea'
  cases ea'
  obtain rfl : w = dctO L a := hlk
  obtain ⟨b, rfl, hkey⟩ := keyIs_of I ek pi
  obtain rfl : iv = Value.ref b := ri
  have hlen : kvs.length = xs.length := Paired.length dd.rel
  refine wpAny_dictSet_heap (hsz := dd.le) (by show X.A.units + 8 < cLine; omega) hkey dd.dict fun h' hd' sb => ?_
  have rel' : Paired (DRel H Z) (dPut kvs y k d) (storedH xs k b u) := dput_at (keyT_of ek).2.1 pi rv pv dd.rel
  obtain ⟨L', g1, g2, g3⟩ := drel_split rel'
  have hl' : (storedH xs k b u).length ≤ sizeLine := by
    unfold storedH
    split
    · rw [List.length_map]; exact dd.le
    · rw [List.length_append, List.length_singleton]; omega
  have hd8 : ∀ p ∈ storedH xs k b u, p.1.depth ≤ 8 := by
    intro p hp
    unfold storedH at hp
    split at hp
    · obtain ⟨z, hz, rfl⟩ := List.mem_map.mp hp
      unfold putAt
      split
      · exact dd.dep z hz
      · exact dd.dep z hz
    · rcases List.mem_append.mp hp with h | h
      · exact dd.dep p h
      · rw [List.mem_singleton] at h; subst h; exact (keyT_of ek).2.2
  have new : ObjOk X.prog X.w (upd H a (dctO L' a)) h' a (dctO L' a) := dct_new rel' dd.sys hl' hd8 g2 g3 hd'
  have he : ∃ q, h'.get? a = some q := by
    obtain ⟨o, _, _, e, _⟩ := hd'
    exact ⟨o, e⟩
  have I' := d_write (t' := s.toks + (nestedKind X.prog X.w).draws k) I (a := a) (by rw [hw]; exact trivial) sb he new
  have x : Ext Z H Z (upd H a (dctO L' a)) := ext_upd ea (nf_dct hw)
  exact ⟨_, I', q _ x (M.set ea (nf_dct hw) ⟨L', _, upd_same, rfl, Paired.mapP g1 fun p q z => ⟨z.1, Rep.ext x _ _ z.2.1, Rep.ext x _ _ z.2.2⟩⟩)⟩
def tD1 (tk tv : TE) : TE := fun σ H Q => ∀ p, H p = none → tk σ (upd H p (dctO [] p)) fun x H1 => tv σ H1 fun y H2 => rSetDX (.ref p) x y H2 fun H3 => Q (.ref p) H3
theorem pe_d1 (hu : X.A.units + 64 < cLine) {k v : Expr} {tk tv : TE} (hk : PE X k tk) (hv : PE X v tv) : PE X (.Dict [some k] [v] pos) (tD1 tk tv) := by
  refine ⟨fun pins s σ H Q I q => ?_⟩
  have I1 := I.laid (a := s.heap.objs.size) (o := dctO [] s.heap.objs.size) (h' := s.heap.push { cls := .type "dict", data := .dict #[] }) (t' := s.toks) (fun _ _ q => Heap.get?_push_of_some _ q) (Nat.le_refl _)
    (dct_new (kvs := []) (xs := []) (L := []) (H0 := H) (Z0 := ⟨[], []⟩) .nil (beq_eq_false_iff_ne.mpr (Ne.symm (Nat.ne_of_lt I.big))) (Nat.zero_le _) (fun _ h => by cases h) .nil rfl (Heap.DictOfH.new _))
  refine wpAny_Dict_any rfl rfl (by simp) (by show 1 ≤ 15; decide) ?_
  refine pairTrees_cons_walk (thn (hk.run pins _ σ _ _ I1 (q _ (I.hok.fresh (Nat.le_refl _)))) fun u s1 ⟨x, H1, I1, rx, q1⟩ => thn (hv.run pins s1 σ H1 _ I1 q1) fun w2 s2 ⟨y, H2, I2, ry, q2⟩ => pairTrees_nil_walk ?_)
  unfold storeAll
  rw [List.forIn_cons]
  refine wpAny_bind (wpAny_bind (thn (put_dctX hu I2 rfl rx ry q2) fun _ s3 ⟨H3, I3, q3⟩ => wpAny_pure ?_))
  show wpAny _ _ (pure PUnit.unit) _ _ _
  exact wpAny_pure ⟨.ref s.heap.objs.size, H3, I3, rfl, q3⟩
theorem e_d1 (hu : X.A.units + 64 < cLine) {k v : Expr} {fk fv : EF} (hk : E X W k fk) (hv : E X W v fv) : E X W (.Dict [some k] [v] pos) (eD1 fk fv) := by
  refine PE.imp (pe_d1 hu hk hv) fun σ H Q ⟨Z, σd, m, S, M, h⟩ p n => ?_
  have x0 := Ext.add (o := dctO [] p) M n
  have M0 : MRep (upd H p (dctO [] p)) (Z.add p) (m ++ [.dct false []]) := M.add n ⟨[], _, upd_same, rfl, .nil⟩
  unfold eD1 at h
  refine ⟨Z.add p, σd, m ++ [.dct false []], S.ext x0, M0, (Fin.bind (Fin.shift x0 h)).mono fun y m1 H1 Z1 x1 M1 h1 yv ry => ?_⟩
  refine ⟨Z1, σd, m1, S.ext (x0.trans x1), M1, (Fin.bind h1).mono fun d m2 H2 Z2 x2 M2 h2 dv rd => ?_⟩
  split at h2
  · rename_i σ3 m3 es
    obtain ⟨n', k', kvs, en, ek, em, hl, e1, e2⟩ := setDx_nx es
    cases en
    subst e2
    have rp : Rep (upd H p (dctO [] p)) (Z.add p) (.ref m.length) (.ref p) := by
      simp only [Rep]
      exact ⟨p, by rw [M.len]; show (Z.ρ ++ [p])[Z.ρ.length]? = _; rw [List.getElem?_append_right (Nat.le_refl _), Nat.sub_self]; rfl, rfl⟩
    refine ⟨Z2, m2, m.length, y, k', kvs, d, Rep.ext (x1.trans x2) _ _ rp, Rep.ext x2 _ _ ry, rd, M2, em, ek, hl, fun H' x3 M' => ?_⟩
    exact h2 H' Z2 x3 M' _ (Rep.ext ((x1.trans x2).trans x3) _ _ rp)
  · exact h2.elim

/-! ### d.get(k, x) -/
def isDc (m : Mem) (d : D) : Bool := (dctM m d).isSome
def opDget (d k x : D) (m : Mem) : Res D := match dctM m d, keyT k with | some kvs, some k => .ok ((dFind kvs k).getD x) m | _, _ => .bad
def eDget (o k x : EF) : EF := fun σ m => (o σ m).bind fun d m => if isDc m d then (k σ m).bind fun y m => (x σ m).bind fun z m => noexc (opDget d y z m) else .bad
theorem dct_is {H : Hp} {Z : Zn} {m : Mem} {s : Shared} {pins : List (Addr × Obj)} {σ : St} (I : Inv X pins σ H s) (M : MRep H Z m) {d : D} {v : V} {u : Value} (h : isDc m d = true) (r : Rep H Z d v) (ru : RelV v u) : ∃ a, u = .ref a ∧ s.TypeIs (.ref a) "dict" ∧ ∃ o, s.heap.get? a = some o ∧ o.dict = none := by
  unfold isDc at h
  cases e : dctM m d with
  | none => rw [e] at h; cases h
  | some kvs =>
    obtain ⟨n, lk, rfl, em⟩ := dctM_of e
    obtain ⟨a, L, w, xs, rfl, ea, hw, hl, hp, hv, dd⟩ := dct_at I M em r
    have hd := dd.dict
    obtain ⟨ob, es, ep, e1, e2, e3, e4, e5, e6⟩ := hd
    exact ⟨a, ru, ⟨ob, e1, e2.1⟩, ob, e1, e2.2.1⟩
def IsDc (H : Hp) (x : V) : Prop := ∃ Z m d, Rep H Z d x ∧ MRep H Z m ∧ isDc m d = true
def rGetDX (o i z : V) (H : Hp) (Q : VK) : Prop := ∃ Z m dd dk dz, Rep H Z dd o ∧ Rep H Z dk i ∧ Rep H Z dz z ∧ MRep H Z m ∧ FinO H Z (opDget dd dk dz m) Q
def tDGX (td ty tx : TE) : TE := fun σ H Q => td σ H fun x H1 => IsDc H1 x ∧ ty σ H1 fun y H2 => tx σ H2 fun z H3 => rGetDX x y z H3 Q
theorem pe_dgx (hu : X.A.units + 64 < cLine) {o e f : Expr} {apos cpos : Pos} {td ty tx : TE} (ho : PE X o td) (he : PE X e ty) (hf : PE X f tx) (m : M2 X o "get" apos e f cpos) : PE X (.Call (.Attribute o "get" apos) [e, f] [] cpos) (tDGX td ty tx) := by
  refine ⟨fun pins s σ H Q I h => ?_⟩
  refine wpAny_Call_method m.base m.few m.line PySem.F.plainAttrs_dict PySem.F.slot_dict_get PySem.F.type_dict_get (thn (ho.run pins s σ H _ I h) fun u s1 ⟨x, H1, I1, rx, ⟨Z, mm, d, rd, M, hd⟩, q1⟩ => ?_)
  obtain ⟨a, rfl, t1, t2⟩ := dct_is I1 M hd rd rx
  refine ⟨t1, fun b eb => by cases eb; exact t2, ?_⟩
  rw [m.trees]
  refine Calls.callWith_builtin rfl (Calls.evalArgs_plain (Calls.spliced_cons (thn (he.run pins s1 σ H1 _ I1 q1) fun iv s2 ⟨y, H2, I2, ry, q2⟩ =>
    Calls.spliced_cons (thn (hf.run pins s2 σ H2 _ I2 q2) fun fv s3 ⟨z, H3, I3, rz, Z3, m3, dd, dk, dz, pd, pk, pz, M3, q3⟩ => Calls.spliced_nil ?_))))
  unfold opDget at q3
  split at q3
  · rename_i kvs k ed ek
    obtain ⟨n, lk, rfl, em⟩ := dctM_of ed
    obtain ⟨a', L, w, xs, rfl, ea, hw, hl, hp, hv, ddd⟩ := dct_at I3 M3 em pd
    obtain ⟨b, rfl, hkey⟩ := keyIs_of I3 ek pk
    obtain rfl : iv = Value.ref b := ry
    cases (show Value.ref a = Value.ref a' from rx)
    refine call_meetsIn PySem.F.slot_dict_get ddd.dict.typeIs PySem.F.entry_dict_get (PySem.F.args_dict_get_3 _ _ _) (meetsH_dict_get_default (nestedKind X.prog X.w) a b ddd.sys fv) ⟨by show X.A.in1.units + 8 < cLine; rw [Around.in1_units]; omega, k, xs, hkey, ddd.dict, ?_⟩
    have hf := dfind_at k ddd.rel
    cases e : dFind kvs k with
    | some dv =>
      obtain ⟨q, eq, v, rv, r⟩ := hf.1 dv e
      rw [e] at q3
      rw [eq]
      exact ⟨v, H3, I3.tok _, rv, fin_ok q3 M3 r⟩
    | none =>
      rw [e] at q3
      rw [hf.2 e]
      exact ⟨z, H3, I3.tok _, rz, fin_ok q3 M3 pz⟩
  · exact q3.elim
theorem e_dget (hu : X.A.units + 64 < cLine) {o k x : Expr} {fo fk fx : EF} {apos cpos : Pos} (ho : E X W o fo) (hk : E X W k fk) (hx : E X W x fx) 
    (hbase : attributeBase o "get" X.env (eval o X.env) = eval o X.env := by rfl)
    (hfew : ((backTo cpos (starEach [k, x] X.env)).all (fun x => !x.1) && (backToKw cpos (keywordEach [] X.env)).all (fun x => x.1.isSome)
      && decide (([k, x] : List Expr).length + ([] : List Keyword).length + (if ([] : List Keyword).isEmpty then 0 else 1) < 30)) = true := by rfl)
    (hline : (apos.endLine == cpos.line) = true := by rfl) (ht : backTo cpos (starEach [k, x] X.env) = [(false, eval k X.env), (false, eval x X.env)] := by rfl) :
    E X W (.Call (.Attribute o "get" apos) [k, x] [] cpos) (eDget fo fk fx) := by
  refine PE.imp (pe_dgx hu ho hk hx ⟨hbase, hfew, hline, ht⟩) fun σ H Q ⟨Z, σd, m, S, M, h⟩ => ?_
  unfold eDget at h
  refine ⟨Z, σd, m, S, M, (Fin.bind h).mono fun d m1 H1 Z1 x1 M1 h1 dv rd => ?_⟩
  split at h1
  · rename_i hd
    refine ⟨⟨Z1, m1, d, rd, M1, hd⟩, Z1, σd, m1, S.ext x1, M1, (Fin.bind h1).mono fun y m2 H2 Z2 x2 M2 h2 yv ry => ?_⟩
    refine ⟨Z2, σd, m2, S.ext (x1.trans x2), M2, (Fin.bind h2).mono fun z m3 H3 Z3 x3 M3 h3 zv rz => ?_⟩
    exact ⟨Z3, m3, d, y, z, Rep.ext (x2.trans x3) _ _ rd, Rep.ext x3 _ _ ry, rz, M3, FinO.of h3⟩
  · exact h1.elim

/-! ### repr(i) -/
def bRepr (ds : List D) (m : Mem) : Res D := match ds with | [.int i] => if i.natAbs.log2 < 1920 then .ok (.str (toString i)) m else .bad | _ => .bad
theorem bRepr_ok : CallR X (.builtin "repr") (rdC bRepr) := CallR.by fun xs H Q ⟨Z, m, ds, rs, M, h⟩ => by
  unfold bRepr at h
  split at h
  · rename_i i
    split at h
    · rename_i hi
      obtain ⟨u, rfl, ru⟩ := reps1 rs
      simp only [Rep] at ru
      subst ru
      exact ⟨_, SkE.call_repr_int, i, rfl, hi, fin_ok h M (by simp only [Rep])⟩
    · exact h.elim
  · exact h.elim
end
end PD
namespace PD
open PySem PySem.Spec L2
open PyProof.Rows hiding St

/-! ### sorted(t), t a tuple -/
section
variable {X : Cx} {pins : List (Addr × Obj)} {σ : St} {H : Hp} {s : Shared} {Z : Zn}
def rSortT : List V → Hp → VK → Prop := fun vs H Q => ∃ (Z : Zn) (a : Addr) (xs : List D) (ys : List V), vs = [V.ref a] ∧ Rd H a (.tup ys) ∧ Reps H Z xs ys ∧ canSort xs = true ∧ ∀ zs p, Reps H Z (sortD xs) zs → H p = none → Q (.ref p) (upd H p (.lst zs))
theorem cr_sortT (hu : X.A.units + 64 < cLine) : CallR X (.builtin "sorted") rSortT := by
  intro pins s σ H vs us Q I r h
  obtain ⟨Z, a, xs, ys, rfl, hs, rs, hcs, q⟩ := h
  obtain ⟨u, rfl, ru⟩ := vals1 r
  obtain rfl : u = Value.ref a := ru
  obtain ⟨its, rvv, ⟨o, ho, hcl, n, hdat⟩, hle⟩ := I.tuple (.inl hs)
  have hlen : its.length = ys.length := rvv.length.symm
  refine Calls.call_function_entry kind_sorted plain_sorted entry_sorted (args_sorted1 _) ?_
  unfold Builtin.«sorted»
  refine wpAny_bind (m := checkCount "sorted" 1 1 _) (wpAny_pure ?_)
  refine wpAny_bind (wpAny_collect_seq a (.inr rfl) ho hcl hdat (fun h' hk => ?_) (by rw [List.size_toArray, hlen]; exact hle))
  have I1 : Inv X pins σ H { s with heap := h' } := I.kept (t' := s.toks) hk
  show wpAny _ _ _ _ _ { s with heap := h' }
  have ei : its.toArray.toList = its := by simp
  rw [ei]
  simp only [canSort, Bool.and_eq_true] at hcs
  refine wpAny_bind (wpAny_newList ?_ (by rw [hlen]; exact hle))
  have hoL : (h'.push (seqObj "list" its.toArray 0)).get? h'.objs.size = some (seqObj "list" its.toArray 0) := Heap.get?_push_size _ rfl
  show wpAny _ _ _ _ _ { s with heap := h'.push (seqObj "list" its.toArray 0) }
  have er := each_reads I1 hcs.1.1 rs rvv
  have er' : PySem.W.EachIs (fun v d => ∃ as, Reads (PySem.W.sortingHeap (h'.push (seqObj "list" its.toArray 0)) h'.objs.size its) v (toPy d) as) its xs :=
    er.mono fun _ _ ⟨as, z⟩ => ⟨as, PyProof.Rows.Reads.keeps (fun b ob e => PySem.W.sortingHeap_old (Nat.ne_of_lt (Heap.lt_size e)) (Heap.get?_push_of_some _ e)) z⟩
  have e0 := each_of H Z rs rvv
  have hlk : xs.length = its.length := by rw [hlen, reps_len rs]
  refine wpAny_bind (wpAny_holding (wpAny_call_entry slot_list_sort ⟨_, hoL, rfl⟩ entry_list_sort
    (PySem.W.list_sort_vals (s := { s with heap := h'.push (seqObj "list" its.toArray 0) }) hoL
      (PySem.W.SortsAt.data (s := { s with heap := PySem.W.sortingHeap (h'.push (seqObj "list" its.toArray 0)) h'.objs.size its })
        (PySem.W.each_map (R := fun v d => ∃ as, Reads (PySem.W.sortingHeap (h'.push (seqObj "list" its.toArray 0)) h'.objs.size its) v d as) toPy er') (alike_of hcs.1.2) (sortable_of hcs.2) (PySem.W.bound_map fun b hb => by
          have := (sh_lay 60 b (shs_mem hcs.1.1 hb)).2
          show X.A.in1.in1.units + _ < _
          rw [Around.in1_units, Around.in1_units]
          omega)) (by rw [hlen]; exact hle) ⟨_, rfl, ?_⟩) (args_list_sort _)))
  obtain ⟨zs, wz, rz⟩ := of_each (PySem.W.sortVals_data false e0 er' (alike_of hcs.1.2))
  obtain ⟨e', he'⟩ := PyProof.Rows.sortedHeap_at (vs := its) (out := (PySem.W.sortVals (PySem.W.dataKind (PySem.W.sortingHeap (h'.push (seqObj "list" its.toArray 0)) h'.objs.size its) (xs.map toPy)) false its its).toArray) hoL
  have hzl : zs.length ≤ sizeLine := by
    rw [← reps_len rz, List.length_mergeSort, hlk, hlen]
    exact hle
  refine wpAny_pure ⟨_, rfl, .ref h'.objs.size, upd H h'.objs.size (.lst zs), I1.laid (t' := s.toks) (fun b u e => ?_) (Nat.le_refl _) (show ObjOk X.prog X.w _ _ _ (.lst zs) from ⟨hzl, _, e', wz, he'⟩), rfl, q zs _ rz (I1.hok.fresh (Nat.le_refl _))⟩
  have hb : b < h'.objs.size := Heap.lt_size e
  rw [PyProof.Rows.sortedHeap_old (Nat.ne_of_lt hb) (by rw [size_push']; exact Nat.lt_succ_of_lt hb)]
  exact Heap.get?_push_of_some _ e
/-- sorted(t) -/
def bSortedT (nw : Bool) (ds : List D) (m : Mem) : Res D := match ds with
  | [.tup xs] => if canSort xs then newL nw (sortD xs) m else .bad
  | _ => .bad
theorem bSortedT_ok {nw : Bool} (hu : X.A.units + 64 < cLine) : CallR X (.builtin "sorted") (rdC (bSortedT nw)) := CallR.by fun xs H Q ⟨Z, m, ds, rs, M, h⟩ => by
  unfold bSortedT at h
  split at h
  · rename_i ys
    split at h
    · rename_i hc
      obtain ⟨v, rfl, r⟩ := reps1 rs
      simp only [Rep] at r
      obtain ⟨a, vs, rfl, rd, o, rs'⟩ := r
      exact ⟨_, cr_sortT hu, Z, a, ys, vs, rfl, rd, rs', hc, fun zs p rz hp => (fin_newL h M rz).2 p hp⟩
    · exact h.elim
  · exact h.elim
end
end PD
namespace PD
open PySem L2
/-! ### the wider words, applied -/
section
variable {σ : Sg} {m : Mem}
@[simp] theorem eDnew_ap : eDnew σ m = .ok (.ref m.length) (m ++ [.dct false []]) := rfl
@[simp] theorem eDix_ap (a b : EF) : eDix a b σ m = (a σ m).bind fun x m => (b σ m).bind fun y m => noexc (opDix x y m) := rfl
@[simp] theorem gDx_ap (o i : EF) (d : D) : gDx o i d σ m = match o σ m with | .ok x m1 => (match i σ m1 with | .ok y m2 => setDx x y d σ m2 | _ => .bad) | _ => .bad := rfl
@[simp] theorem eLock_ap (i : Nat) (f : EF) : eLock i f σ m = match σ[i]? with
  | some (some (.ref n)) => (match m[n]? with | some (.dct false kvs) => unlockR n kvs (f σ (m.set n (.dct true kvs))) | _ => .bad)
  | _ => .bad := rfl
@[simp] theorem sLock_ap (i : Nat) (f : SF) : sLock i f σ m = match σ[i]? with
  | some (some (.ref n)) => (match m[n]? with | some (.dct false kvs) => unlockS n kvs (f σ (m.set n (.dct true kvs))) | _ => .bad)
  | _ => .bad := rfl
@[simp] theorem tTr_ap (f : EF) : tTr f σ m = (f σ m).bind fun x m => match truD m x with | some b => .ok b m | none => .bad := rfl
@[simp] theorem eSortSet_ap (nw : Bool) (f : EF) : eSortSet nw f σ m = (f σ m).bind fun x m => noexc (opSS nw x m) := rfl
@[simp] theorem eLenSet_ap (f : EF) : eLenSet f σ m = (f σ m).bind fun x m => noexc (opLS x m) := rfl
@[simp] theorem iDk_ap (f : EF) : iDk f σ m = (f σ m).bind fun x m => match x with
  | .ref n => (match m[n]? with | some (.dct true kvs) => .ok (.its (kvs.map (·.1))) m | _ => .bad)
  | _ => .bad := rfl
@[simp] theorem iDi_ap (f : EF) : iDi f σ m = (f σ m).bind fun x m => match x with
  | .ref n => (match m[n]? with | some (.dct true kvs) => .ok (.its (kvs.map fun p => .tup [p.1, p.2])) m | _ => .bad)
  | _ => .bad := rfl
@[simp] theorem eD1_ap (fk fv : EF) : eD1 fk fv σ m = (fk σ (m ++ [.dct false []])).bind fun y m1 => (fv σ m1).bind fun d m2 => match setDx (.ref m.length) y d σ m2 with
  | .nx _ m3 => .ok (.ref m.length) m3
  | _ => .bad := rfl
@[simp] theorem eDget_ap (o k x : EF) : eDget o k x σ m = (o σ m).bind fun d m => if isDc m d then (k σ m).bind fun y m => (x σ m).bind fun z m => noexc (opDget d y z m) else .bad := rfl
theorem dctM_ref {n : Nat} {lk : Bool} {kvs : List (D × D)} (h : m[n]? = some (.dct lk kvs)) : dctM m (.ref n) = some kvs := by
  unfold dctM; simp [h]
theorem opDin_of {neg : Bool} {x : D} {k : NestedKey} {n : Nat} {lk : Bool} {kvs : List (D × D)} (hk : keyT x = some k) (h : m[n]? = some (.dct lk kvs)) : opDin neg x (.ref n) m = .ok (.bl (neg ^^ (dFind kvs k).isSome)) m := by
  unfold opDin; rw [hk, dctM_ref h]
theorem opDix_of {y d : D} {k : NestedKey} {n : Nat} {lk : Bool} {kvs : List (D × D)} (hk : keyT y = some k) (h : m[n]? = some (.dct lk kvs)) (e : dFind kvs k = some d) : opDix (.ref n) y m = .ok d m := by
  unfold opDix; rw [hk, dctM_ref h]; simp [e]
theorem setDx_of {y d : D} {k : NestedKey} {n : Nat} {kvs : List (D × D)} (hk : keyT y = some k) (h : m[n]? = some (.dct false kvs)) (hl : kvs.length < 16777216) : setDx (.ref n) y d σ m = .nx σ (m.set n (.dct false (dPut kvs y k d))) := by
  unfold setDx
  have : lenOk (kvs.length + 1) = true := decide_eq_true (by omega)
  rw [hk]; simp [h, this]
theorem isDc_of {n : Nat} {lk : Bool} {kvs : List (D × D)} (h : m[n]? = some (.dct lk kvs)) : isDc m (.ref n) = true := by
  unfold isDc; rw [dctM_ref h]; rfl
theorem opDget_of {y x : D} {k : NestedKey} {n : Nat} {lk : Bool} {kvs : List (D × D)} (hk : keyT y = some k) (h : m[n]? = some (.dct lk kvs)) : opDget (.ref n) y x m = .ok ((dFind kvs k).getD x) m := by
  unfold opDget; rw [hk, dctM_ref h]
end
end PD
namespace K80
open PySem L2 PD
def r_is_number : SF := sRet (eAnd (eIsi "int" (eVar 0)) (eNot (eIsi "bool" (eVar 0))))
def r_is_cell (G_is_number : List D → Mem → Res D) : SF := sRet (eAnd (eIsi "tuple" (eVar 0)) (eAnd (eOp opEq (eB bLen (aCons (eVar 0) (aNil))) (eC (.int 2))) (eB (bAllB false) (aCons (eLc false [1] (iE (eVar 0)) (gN 1) (tYesD) (eAnd (eCall G_is_number (aCons (eVar 1) (aNil))) (eChain (opOrd .LtE) (opOrd .LtE) (eC (.int 0)) (eVar 1) (eC (.int 20))))) (aNil)))))
def r_are_cells (G_is_cell : List D → Mem → Res D) : SF := sSeq (sIf (tOrD (tNotD (tE (eIsi "tuple" (eVar 0)))) (tNotD (tE (eB (bAllB false) (aCons (eLc false [1] (iE (eVar 0)) (gN 1) (tYesD) (eCall G_is_cell (aCons (eVar 1) (aNil)))) (aNil)))))) (sRet (eC (.bl false))) (sNil)) (sRet (eB (bAllB false) (aCons (eLc false [2] (iA range2 (aCons (eC (.int 1)) (aCons (eB bLen (aCons (eVar 0) (aNil))) (aNil)))) (gN 2) (tYesD) (eOp (opOrd .Lt) (eIx (eVar 0) (eOp opSub (eVar 2) (eC (.int 1)))) (eIx (eVar 0) (eVar 2)))) (aNil))))
def r_is_board (G_are_cells : List D → Mem → Res D) : SF := sRet (eAnd (eCall G_are_cells (aCons (eVar 0) (aNil))) (eOp (opOrd .LtE) (eB bLen (aCons (eVar 0) (aNil))) (eC (.int 40))))
def r_check_board (G_is_board : List D → Mem → Res D) : SF := sIf (tNotD (tE (eCall G_is_board (aCons (eVar 0) (aNil))))) (sRaise "BadShape") (sNil)
def r_around : SF := sSeq (sAsg (gT 2 (gsCons (gN 2) (gsCons (gN 3) (gsNil)))) (eVar 1)) (sRet (eLc false [4] (iE (eTup (aCons (eTup (aCons (eOp opSub (eVar 2) (eC (.int 1))) (aCons (eVar 3) (aNil)))) (aCons (eTup (aCons (eVar 2) (aCons (eOp opSub (eVar 3) (eC (.int 1))) (aNil)))) (aCons (eTup (aCons (eVar 2) (aCons (eOp (opAddX false) (eVar 3) (eC (.int 1))) (aNil)))) (aCons (eTup (aCons (eOp (opAddX false) (eVar 2) (eC (.int 1))) (aCons (eVar 3) (aNil)))) (aNil))))))) (gN 4) (tCmp opIn (eVar 4) (eVar 0)) (eVar 4)))
def r_widened (G_around G_widened : List D → Mem → Res D) : SF := sSeq (sFor (iE (eCall G_around (aCons (eVar 0) (aCons (eVar 1) (aNil))))) (gN 4) (sSeq (sIf (tCmp opIn (eVar 4) (eVar 3)) (sCt) (sNil)) (sSeq (sExpr (eM mAppend (eVar 3) (aCons (eVar 4) (aNil)))) (sIf (tOrD (tCmp (opDin true) (eVar 4) (eVar 2)) (tE (eCall G_widened (aCons (eVar 0) (aCons (eDix (eVar 2) (eVar 4)) (aCons (eVar 2) (aCons (eVar 3) (aNil)))))))) (sSeq (sAsg (gDx (eVar 2) (eVar 4)) (eVar 1)) (sRet (eC (.bl true)))) (sNil))))) (sRet (eC (.bl false)))
def r_dominoes (G_check_board G_widened : List D → Mem → Res D) : SF := sSeq (sExpr (eCall G_check_board (aCons (eVar 0) (aNil)))) (sFor (iE (eTup (aCons (eC (.int 0)) (aCons (eC (.int 1)) (aNil))))) (gN 1) (sSeq (sSet 2 (eDnew)) (sSeq (sFor (iE (eLc false [6] (iE (eVar 0)) (gN 6) (tCmp opEq (eOp opMod (eOp (opAddX false) (eIx (eVar 6) (eC (.int 0))) (eIx (eVar 6) (eC (.int 1)))) (eC (.int 2))) (eVar 1)) (eVar 6))) (gN 3) (sSeq (sSet 4 (eLst true (aNil))) (sIf (tNotD (tE (eCall G_widened (aCons (eVar 0) (aCons (eVar 3) (aCons (eVar 2) (aCons (eVar 4) (aNil)))))))) (sSeq (sSet 5 (eB (bSortedX false) (aCons (eOp (opAddX false) (eLst false (aCons (eVar 3) (aNil))) (eLc false [6] (iE (eVar 4)) (gN 6) (tYesD) (eDix (eVar 2) (eVar 6)))) (aNil)))) (sRet (eTup (aCons (eC (.bl false)) (aCons (eTup (aCons (eB bTuple (aCons (eVar 5) (aNil))) (aCons (eB bTuple (aCons (eB (bSortedX false) (aCons (eVar 4) (aNil))) (aNil))) (aNil)))) (aNil)))))) (sNil)))) (sIf (tCmp opEq (eVar 1) (eC (.int 1))) (sRet (eTup (aCons (eC (.bl true)) (aCons (eB bTuple (aCons (eB (bSortedX false) (aCons (eLock 2 (eLc false [7, 8] (iDi (eVar 2)) (gT 2 (gsCons (gN 7) (gsCons (gN 8) (gsNil)))) (tYesD) (eTup (aCons (eB bMinX (aCons (eVar 7) (aCons (eVar 8) (aNil)))) (aCons (eB bMaxX (aCons (eVar 7) (aCons (eVar 8) (aNil)))) (aNil)))))) (aNil))) (aNil))) (aNil))))) (sNil)))))
def r_are_tiles (G_is_cell : List D → Mem → Res D) : SF := sSeq (sIf (tNotD (tE (eIsi "tuple" (eVar 1)))) (sRet (eC (.bl false))) (sNil)) (sSeq (sSet 2 (eLst true (aNil))) (sSeq (sFor (iE (eVar 1)) (gN 3) (sSeq (sIf (tOrD (tNotD (tE (eIsi "tuple" (eVar 3)))) (tOrD (tCmp opNe (eB bLen (aCons (eVar 3) (aNil))) (eC (.int 2))) (tOrD (tNotD (tE (eCall G_is_cell (aCons (eIx (eVar 3) (eC (.int 0))) (aNil))))) (tNotD (tE (eCall G_is_cell (aCons (eIx (eVar 3) (eC (.int 1))) (aNil)))))))) (sRet (eC (.bl false))) (sNil)) (sSeq (sIf (tOrD (tCmp (opOrd .GtE) (eIx (eVar 3) (eC (.int 0))) (eIx (eVar 3) (eC (.int 1)))) (tCmp opNe (eOp (opAddX false) (eB bAbs (aCons (eOp opSub (eIx (eIx (eVar 3) (eC (.int 0))) (eC (.int 0))) (eIx (eIx (eVar 3) (eC (.int 1))) (eC (.int 0)))) (aNil))) (eB bAbs (aCons (eOp opSub (eIx (eIx (eVar 3) (eC (.int 0))) (eC (.int 1))) (eIx (eIx (eVar 3) (eC (.int 1))) (eC (.int 1)))) (aNil)))) (eC (.int 1)))) (sRet (eC (.bl false))) (sNil)) (sExpr (eM mExtendX (eVar 2) (aCons (eVar 3) (aNil))))))) (sRet (eAnd (eB (bAllB false) (aCons (eLc false [4] (iA range2 (aCons (eC (.int 1)) (aCons (eB bLen (aCons (eVar 1) (aNil))) (aNil)))) (gN 4) (tYesD) (eOp (opOrd .Lt) (eIx (eVar 1) (eOp opSub (eVar 4) (eC (.int 1)))) (eIx (eVar 1) (eVar 4)))) (aNil))) (eOp opEq (eB bTuple (aCons (eB (bSortedX false) (aCons (eVar 2) (aNil))) (aNil))) (eVar 0))))))
def r_are_too_few (G_around G_are_cells : List D → Mem → Res D) : SF := sSeq (sIf (tOrD (tNotD (tE (eIsi "tuple" (eVar 1)))) (tOrD (tCmp opNe (eB bLen (aCons (eVar 1) (aNil))) (eC (.int 2))) (tOrD (tNotD (tE (eCall G_are_cells (aCons (eIx (eVar 1) (eC (.int 0))) (aNil))))) (tNotD (tE (eCall G_are_cells (aCons (eIx (eVar 1) (eC (.int 1))) (aNil)))))))) (sRet (eC (.bl false))) (sNil)) (sSeq (sAsg (gT 2 (gsCons (gN 2) (gsCons (gN 3) (gsNil)))) (eVar 1)) (sSeq (sIf (tOrD (tNotD (tE (eB (bAllB false) (aCons (eLc false [6] (iE (eVar 2)) (gN 6) (tYesD) (eOp opIn (eVar 6) (eVar 0))) (aNil))))) (tCmp opNe (eLenSet (eLc false [6] (iE (eVar 2)) (gN 6) (tYesD) (eOp opMod (eB bSumX (aCons (eVar 6) (aNil))) (eC (.int 2))))) (eC (.int 1)))) (sRet (eC (.bl false))) (sNil)) (sSeq (sSet 4 (eDnew)) (sSeq (sFor (iE (eVar 2)) (gN 5) (sFor (iE (eCall G_around (aCons (eVar 0) (aCons (eVar 5) (aNil))))) (gN 6) (sAsg (gDx (eVar 4) (eVar 6)) (eC (.bl true))))) (sRet (eAnd (eOp opEq (eB bTuple (aCons (eB (bSortedX false) (aCons (eVar 4) (aNil))) (aNil))) (eVar 3)) (eOp (opOrd .Lt) (eB bLen (aCons (eVar 3) (aNil))) (eB bLen (aCons (eVar 2) (aNil))))))))))
def r_is_tiled (G_check_board G_are_tiles G_are_too_few : List D → Mem → Res D) : SF := sSeq (sExpr (eCall G_check_board (aCons (eVar 0) (aNil)))) (sRet (eIf (tE (eVar 1)) (eCall G_are_tiles (aCons (eVar 0) (aCons (eVar 2) (aNil)))) (eCall G_are_too_few (aCons (eVar 0) (aCons (eVar 2) (aNil))))))
def r_tilings (G_check_board G_around : List D → Mem → Res D) : SF := sSeq (sExpr (eCall G_check_board (aCons (eVar 0) (aNil)))) (sSeq (sSet 1 (eD1 (eTup (aNil)) (eC (.int 1)))) (sSeq (sFor (iE (eVar 0)) (gN 2) (sSeq (sSet 3 (eDnew)) (sSeq (sLock 1 (sFor (iDi (eVar 1)) (gT 2 (gsCons (gN 4) (gsCons (gN 5) (gsNil)))) (sSeq (sIf (tCmp opIn (eVar 2) (eVar 4)) (sSet 6 (eLst false (aCons (eB bTuple (aCons (eLc false [8] (iE (eVar 4)) (gN 8) (tCmp opNe (eVar 8) (eVar 2)) (eVar 8)) (aNil))) (aNil)))) (sSet 6 (eLc false [8] (iE (eCall G_around (aCons (eVar 0) (aCons (eVar 2) (aNil))))) (gN 8) (tAndD (tCmp (opOrd .Gt) (eVar 8) (eVar 2)) (tCmp opNin (eVar 8) (eVar 4))) (eOp (opAddX false) (eVar 4) (eTup (aCons (eVar 8) (aNil))))))) (sFor (iE (eVar 6)) (gN 7) (sSeq (sSet 7 (eB bTuple (aCons (eB (bSortedT false) (aCons (eVar 7) (aNil))) (aNil)))) (sAsg (gDx (eVar 3) (eVar 7)) (eOp (opAddX false) (eDget (eVar 3) (eVar 7) (eC (.int 0))) (eVar 5)))))))) (sSet 1 (eVar 3))))) (sRet (eDget (eVar 1) (eTup (aNil)) (eC (.int 0))))))
def r__law_box (scr : OScr) : SF := sRet (eLst true (aCons (eC (.int 0)) (aCons (eC (.int 0)) (aCons (eC (.int 0)) (aCons (eLc false [1] (iScr scr (eVar 0)) (gN 1) (tYesD) (eB bAbs (aCons (eB bInt (aCons (eVar 1) (aNil))) (aNil)))) (aNil))))))
def r__law_take : SF := sSeq (sIf (tCmp opEq (eIx (eVar 0) (eC (.int 1))) (eC (.int 0))) (sSeq (sSet 2 (eIx (eVar 0) (eC (.int 2)))) (sSeq (sSet 3 (eC (.int 0))) (sSeq (sIf (tCmp (opOrd .Lt) (eVar 2) (eB bLen (aCons (eIx (eVar 0) (eC (.int 3))) (aNil)))) (sSeq (sSet 3 (eIx (eIx (eVar 0) (eC (.int 3))) (eVar 2))) (sAsg (gIx (eVar 0) (eC (.int 1))) (eIf (tCmp (opOrd .GtE) (eVar 3) (eOp opPow (eC (.int 10)) (eC (.int 18)))) (eC (.int 60)) (eUn opNeg (eC (.int 9)))))) (sNil)) (sSeq (sAsg (gIx (eVar 0) (eC (.int 2))) (eOp (opAddX false) (eVar 2) (eC (.int 1)))) (sSeq (sAsg (gIx (eVar 0) (eC (.int 0))) (eVar 3)) (sIf (tCmp opEq (eIx (eVar 0) (eC (.int 1))) (eC (.int 0))) (sRet (eC (.int 0))) (sNil))))))) (sNil)) (sSeq (sIf (tCmp (opOrd .Gt) (eIx (eVar 0) (eC (.int 1))) (eC (.int 0))) (sSeq (sSet 4 (eOp opMod (eB bInt (aCons (eIx (eVar 0) (eC (.int 0))) (aNil))) (eVar 1))) (sSeq (sAsg (gIx (eVar 0) (eC (.int 0))) (eOp opFdiv (eIx (eVar 0) (eC (.int 0))) (eVar 1))) (sSeq (sAsg (gIx (eVar 0) (eC (.int 1))) (eIf (tCmp (opOrd .Gt) (eIx (eVar 0) (eC (.int 0))) (eC (.int 0))) (eOp opSub (eIx (eVar 0) (eC (.int 1))) (eC (.int 1))) (eC (.int 0)))) (sRet (eVar 4))))) (sNil)) (sSeq (sAsg (gIx (eVar 0) (eC (.int 1))) (eOp (opAddX false) (eIx (eVar 0) (eC (.int 1))) (eC (.int 1)))) (sSeq (sAsg (gIx (eVar 0) (eC (.int 0))) (eOp opMod (eB bInt (aCons (eOp (opAddX false) (eOp (opMulX false) (eIx (eVar 0) (eC (.int 0))) (eC (.int 48271))) (eOp (opMulX false) (eC (.int 69621)) (eOp (opAddX false) (eIx (eVar 0) (eC (.int 1))) (eC (.int 20))))) (aNil))) (eC (.int 2147483647)))) (sRet (eOp opMod (eOp opMod (eB bInt (aCons (eOp (opAddX false) (eOp opFdiv (eIx (eVar 0) (eC (.int 0))) (eC (.int 7))) (eIx (eVar 0) (eC (.int 0)))) (aNil))) (eC (.int 1000003))) (eVar 1))))))
def r__law_whole : SF := sRet (eAnd (eIsi "int" (eVar 0)) (eNot (eIsi "bool" (eVar 0))))
def r__law_board (G__law_take : List D → Mem → Res D) : SF := sSeq (sPar3 2 3 4 (aCons (eCall G__law_take (aCons (eVar 0) (aCons (eC (.int 3)) (aNil)))) (aCons (eOp (opAddX false) (eC (.int 1)) (eCall G__law_take (aCons (eVar 0) (aCons (eC (.int 5)) (aNil))))) (aCons (eOp (opAddX false) (eC (.int 1)) (eCall G__law_take (aCons (eVar 0) (aCons (eC (.int 5)) (aNil))))) (aNil))))) (sSeq (sSet 5 (eLst true (aNil))) (sSeq (sFor (iA range1 (aCons (eVar 3) (aNil))) (gN 6) (sFor (iA range1 (aCons (eVar 4) (aNil))) (gN 7) (sSeq (sIf (tOrD (tAndD (tCmp opEq (eVar 2) (eC (.int 0))) (tCmp (opOrd .Gt) (eCall G__law_take (aCons (eVar 0) (aCons (eC (.int 3)) (aNil)))) (eC (.int 0)))) (tAndD (tCmp opEq (eVar 2) (eC (.int 1))) (tCmp (opOrd .Gt) (eCall G__law_take (aCons (eVar 0) (aCons (eC (.int 9)) (aNil)))) (eC (.int 0))))) (sExpr (eM mAppend (eVar 5) (aCons (eTup (aCons (eVar 6) (aCons (eVar 7) (aNil)))) (aNil)))) (sNil)) (sIf (tAndD (tCmp opEq (eVar 2) (eC (.int 2))) (tOrD (tCmp opIn (eVar 6) (eTup (aCons (eC (.int 0)) (aCons (eOp opSub (eVar 3) (eC (.int 1))) (aNil))))) (tCmp opIn (eVar 7) (eTup (aCons (eC (.int 0)) (aCons (eOp opSub (eVar 4) (eC (.int 1))) (aNil))))))) (sExpr (eM mAppend (eVar 5) (aCons (eTup (aCons (eVar 6) (aCons (eVar 7) (aNil)))) (aNil)))) (sNil))))) (sRet (eB bTuple (aCons (eSl false (eVar 5) pNone (pSome (eVar 1))) (aNil))))))
def r__law_beside : SF := sSeq (sAsg (gT 2 (gsCons (gN 2) (gsCons (gN 3) (gsNil)))) (eVar 1)) (sRet (eLc false [4] (iE (eTup (aCons (eTup (aCons (eOp opSub (eVar 2) (eC (.int 1))) (aCons (eVar 3) (aNil)))) (aCons (eTup (aCons (eVar 2) (aCons (eOp opSub (eVar 3) (eC (.int 1))) (aNil)))) (aCons (eTup (aCons (eVar 2) (aCons (eOp (opAddX false) (eVar 3) (eC (.int 1))) (aNil)))) (aCons (eTup (aCons (eOp (opAddX false) (eVar 2) (eC (.int 1))) (aCons (eVar 3) (aNil)))) (aNil))))))) (gN 4) (tCmp opIn (eVar 4) (eVar 0)) (eVar 4)))
def r__law_ways (G__law_ways : List D → Mem → Res D) : SF := sSeq (sIf (tCmp opEq (eVar 0) (eTup (aNil))) (sRet (eC (.int 1))) (sNil)) (sSeq (sAsg (gT 2 (gsCons (gN 1) (gsCons (gN 2) (gsNil)))) (eIx (eVar 0) (eC (.int 0)))) (sSeq (sSet 3 (eC (.int 0))) (sSeq (sFor (iE (eTup (aCons (eTup (aCons (eVar 1) (aCons (eOp (opAddX false) (eVar 2) (eC (.int 1))) (aNil)))) (aCons (eTup (aCons (eOp (opAddX false) (eVar 1) (eC (.int 1))) (aCons (eVar 2) (aNil)))) (aNil))))) (gN 4) (sIf (tCmp opIn (eVar 4) (eVar 0)) (sSet 3 (eOp (opAddX false) (eVar 3) (eCall G__law_ways (aCons (eB bTuple (aCons (eLc false [5] (iE (eSl false (eVar 0) (pSome (eC (.int 1))) pNone)) (gN 5) (tCmp opNe (eVar 5) (eVar 4)) (eVar 5)) (aNil))) (aNil))))) (sNil))) (sRet (eVar 3)))))
def r__law_is_tiled (G__law_beside G__law_whole : List D → Mem → Res D) : SF := sSeq (sIf (tNotD (tE (eIsi "tuple" (eVar 2)))) (sRet (eC (.bl false))) (sNil)) (sSeq (sSet 3 (eVar 2)) (sSeq (sIf (tAndD (tNotD (tE (eVar 1))) (tCmp opNe (eB bLen (aCons (eVar 2) (aNil))) (eC (.int 2)))) (sRet (eC (.bl false))) (sNil)) (sSeq (sFor (iE (eVar 3)) (gN 4) (sSeq (sIf (tNotD (tE (eIsi "tuple" (eVar 4)))) (sRet (eC (.bl false))) (sNil)) (sFor (iE (eVar 4)) (gN 5) (sIf (tOrD (tNotD (tE (eIsi "tuple" (eVar 5)))) (tOrD (tCmp opNe (eB bLen (aCons (eVar 5) (aNil))) (eC (.int 2))) (tCmp opNe (eLc false [10] (iE (eVar 5)) (gN 10) (tOrD (tNotD (tE (eCall G__law_whole (aCons (eVar 10) (aNil))))) (tNotD (tE (eChain (opOrd .LtE) (opOrd .LtE) (eC (.int 0)) (eVar 10) (eC (.int 20)))))) (eC (.int 1))) (eLst false (aNil))))) (sRet (eC (.bl false))) (sNil))))) (sSeq (sIf (tNotD (tE (eVar 1))) (sSeq (sAsg (gT 2 (gsCons (gN 6) (gsCons (gN 7) (gsNil)))) (eVar 2)) (sSeq (sIf (tOrD (tCmp opNe (eLc false [11] (iA range2 (aCons (eC (.int 1)) (aCons (eB bLen (aCons (eVar 6) (aNil))) (aNil)))) (gN 11) (tNotD (tCmp (opOrd .Lt) (eIx (eVar 6) (eOp opSub (eVar 11) (eC (.int 1)))) (eIx (eVar 6) (eVar 11)))) (eVar 11)) (eLst false (aNil))) (tCmp opNe (eLc false [10] (iE (eVar 6)) (gN 10) (tCmp opNin (eVar 10) (eVar 0)) (eVar 10)) (eLst false (aNil)))) (sRet (eC (.bl false))) (sNil)) (sSeq (sIf (tCmp opNe (eLenSet (eLc false [10] (iE (eVar 6)) (gN 10) (tYesD) (eOp opMod (eOp (opAddX false) (eIx (eVar 10) (eC (.int 0))) (eIx (eVar 10) (eC (.int 1)))) (eC (.int 2))))) (eC (.int 1))) (sRet (eC (.bl false))) (sNil)) (sSeq (sSet 8 (eLst true (aNil))) (sSeq (sFor (iE (eVar 6)) (gN 5) (sExpr (eM mExtendX (eVar 8) (aCons (eCall G__law_beside (aCons (eVar 0) (aCons (eVar 5) (aNil)))) (aNil))))) (sRet (eAnd (eOp opEq (eVar 7) (eB bTuple (aCons (eSortSet false (eVar 8)) (aNil)))) (eOp (opOrd .Lt) (eB bLen (aCons (eVar 7) (aNil))) (eB bLen (aCons (eVar 6) (aNil))))))))))) (sNil)) (sSeq (sSet 9 (eLst true (aNil))) (sSeq (sFor (iE (eVar 2)) (gN 10) (sSeq (sIf (tOrD (tCmp opNe (eB bLen (aCons (eVar 10) (aNil))) (eC (.int 2))) (tCmp opNin (eIx (eVar 10) (eC (.int 1))) (eTup (aCons (eTup (aCons (eIx (eIx (eVar 10) (eC (.int 0))) (eC (.int 0))) (aCons (eOp (opAddX false) (eIx (eIx (eVar 10) (eC (.int 0))) (eC (.int 1))) (eC (.int 1))) (aNil)))) (aCons (eTup (aCons (eOp (opAddX false) (eIx (eIx (eVar 10) (eC (.int 0))) (eC (.int 0))) (eC (.int 1))) (aCons (eIx (eIx (eVar 10) (eC (.int 0))) (eC (.int 1))) (aNil)))) (aNil)))))) (sRet (eC (.bl false))) (sNil)) (sExpr (eM mExtendX (eVar 9) (aCons (eVar 10) (aNil)))))) (sRet (eAnd (eOp opEq (eB bTuple (aCons (eB (bSortedX false) (aCons (eVar 9) (aNil))) (aNil))) (eVar 0)) (eOp opEq (eLc false [11] (iA range2 (aCons (eC (.int 1)) (aCons (eB bLen (aCons (eVar 2) (aNil))) (aNil)))) (gN 11) (tNotD (tCmp (opOrd .Lt) (eIx (eVar 2) (eOp opSub (eVar 11) (eC (.int 1)))) (eIx (eVar 2) (eVar 11)))) (eVar 11)) (eLst false (aNil)))))))))))
def r_law_0 (G__law_box G__law_board G_dominoes G__law_ways G__law_is_tiled G_is_tiled G_is_board G_tilings : List D → Mem → Res D) : SF := sSet 1 (eCall G__law_box (aCons (eVar 0) (aNil)))
def r_law_1 (G__law_box G__law_board G_dominoes G__law_ways G__law_is_tiled G_is_tiled G_is_board G_tilings : List D → Mem → Res D) : SF := sSet 2 (eCall G__law_board (aCons (eVar 1) (aCons (eC (.int 20)) (aNil))))
def r_law_2 (G__law_box G__law_board G_dominoes G__law_ways G__law_is_tiled G_is_tiled G_is_board G_tilings : List D → Mem → Res D) : SF := sAsg (gT 2 (gsCons (gN 3) (gsCons (gN 4) (gsNil)))) (eCall G_dominoes (aCons (eVar 2) (aNil)))
def r_law_3 (G__law_box G__law_board G_dominoes G__law_ways G__law_is_tiled G_is_tiled G_is_board G_tilings : List D → Mem → Res D) : SF := sSet 5 (eCall G__law_ways (aCons (eVar 2) (aNil)))
def r_law_4a0 (G__law_box G__law_board G_dominoes G__law_ways G__law_is_tiled G_is_tiled G_is_board G_tilings : List D → Mem → Res D) : SF := sRet (eC (.bl false))
def r_law_4 (G__law_box G__law_board G_dominoes G__law_ways G__law_is_tiled G_is_tiled G_is_board G_tilings : List D → Mem → Res D) : SF := sIf (tOrD (tNotD (tE (eIsi "bool" (eVar 3)))) (tOrD (tCmp opNe (eVar 3) (eOp (opOrd .Gt) (eVar 5) (eC (.int 0)))) (tNotD (tE (eCall G__law_is_tiled (aCons (eVar 2) (aCons (eVar 3) (aCons (eVar 4) (aNil))))))))) (r_law_4a0 G__law_box G__law_board G_dominoes G__law_ways G__law_is_tiled G_is_tiled G_is_board G_tilings) (sNil)
def r_law_5a0 (G__law_box G__law_board G_dominoes G__law_ways G__law_is_tiled G_is_tiled G_is_board G_tilings : List D → Mem → Res D) : SF := sRet (eC (.bl false))
def r_law_5 (G__law_box G__law_board G_dominoes G__law_ways G__law_is_tiled G_is_tiled G_is_board G_tilings : List D → Mem → Res D) : SF := sIf (tOrD (tCmp (opIsB true) (eCall G_is_tiled (aCons (eVar 2) (aCons (eVar 3) (aCons (eVar 4) (aNil))))) (eC (.bl true))) (tCmp (opIsB true) (eCall G_is_tiled (aCons (eVar 2) (aCons (eNot (eVar 3)) (aCons (eVar 4) (aNil))))) (eC (.bl false)))) (r_law_5a0 G__law_box G__law_board G_dominoes G__law_ways G__law_is_tiled G_is_tiled G_is_board G_tilings) (sNil)
def r_law_6 (G__law_box G__law_board G_dominoes G__law_ways G__law_is_tiled G_is_tiled G_is_board G_tilings : List D → Mem → Res D) : SF := sRet (eAnd (eOp (opIsB false) (eCall G_is_board (aCons (eVar 2) (aNil))) (eC (.bl true))) (eOp opEq (eB bRepr (aCons (eCall G_tilings (aCons (eVar 2) (aNil))) (aNil))) (eB bRepr (aCons (eVar 5) (aNil)))))
def r_law (G__law_box G__law_board G_dominoes G__law_ways G__law_is_tiled G_is_tiled G_is_board G_tilings : List D → Mem → Res D) : SF := sSeq (r_law_0 G__law_box G__law_board G_dominoes G__law_ways G__law_is_tiled G_is_tiled G_is_board G_tilings) (sSeq (r_law_1 G__law_box G__law_board G_dominoes G__law_ways G__law_is_tiled G_is_tiled G_is_board G_tilings) (sSeq (r_law_2 G__law_box G__law_board G_dominoes G__law_ways G__law_is_tiled G_is_tiled G_is_board G_tilings) (sSeq (r_law_3 G__law_box G__law_board G_dominoes G__law_ways G__law_is_tiled G_is_tiled G_is_board G_tilings) (sSeq (r_law_4 G__law_box G__law_board G_dominoes G__law_ways G__law_is_tiled G_is_tiled G_is_board G_tilings) (sSeq (r_law_5 G__law_box G__law_board G_dominoes G__law_ways G__law_is_tiled G_is_tiled G_is_board G_tilings) (r_law_6 G__law_box G__law_board G_dominoes G__law_ways G__law_is_tiled G_is_tiled G_is_board G_tilings))))))
def R_is_number : List D → Mem → Res D := fnR 1 (r_is_number)
def R_is_cell : List D → Mem → Res D := fnR 2 (r_is_cell R_is_number)
def R_are_cells : List D → Mem → Res D := fnR 3 (r_are_cells R_is_cell)
def R_is_board : List D → Mem → Res D := fnR 1 (r_is_board R_are_cells)
def R_check_board : List D → Mem → Res D := fnR 1 (r_check_board R_is_board)
def R_around : List D → Mem → Res D := fnR 5 (r_around)
def R_widened : Nat → List D → Mem → Res D
  | 0 => fnR 5 (fun _ _ => .bad)
  | n + 1 => fnR 5 (r_widened R_around (R_widened n))
def R_dominoes : List D → Mem → Res D := fnR 9 (r_dominoes R_check_board (R_widened 40))
def R_are_tiles : List D → Mem → Res D := fnR 5 (r_are_tiles R_is_cell)
def R_are_too_few : List D → Mem → Res D := fnR 7 (r_are_too_few R_around R_are_cells)
def R_is_tiled : List D → Mem → Res D := fnR 3 (r_is_tiled R_check_board R_are_tiles R_are_too_few)
def R_tilings : List D → Mem → Res D := fnR 9 (r_tilings R_check_board R_around)
def R__law_box (scr : OScr) : List D → Mem → Res D := fnR 2 (r__law_box scr)
def R__law_take : List D → Mem → Res D := fnR 5 (r__law_take)
def R__law_whole : List D → Mem → Res D := fnR 1 (r__law_whole)
def R__law_board : List D → Mem → Res D := fnR 8 (r__law_board R__law_take)
def R__law_beside : List D → Mem → Res D := fnR 5 (r__law_beside)
def R__law_ways : Nat → List D → Mem → Res D
  | 0 => fnR 6 (fun _ _ => .bad)
  | n + 1 => fnR 6 (r__law_ways (R__law_ways n))
def R__law_is_tiled : List D → Mem → Res D := fnR 12 (r__law_is_tiled R__law_beside R__law_whole)
abbrev C_law_0 (scr : OScr) : SF := r_law_0 (R__law_box scr) R__law_board R_dominoes (R__law_ways 40) R__law_is_tiled R_is_tiled R_is_board R_tilings
abbrev C_law_1 (scr : OScr) : SF := r_law_1 (R__law_box scr) R__law_board R_dominoes (R__law_ways 40) R__law_is_tiled R_is_tiled R_is_board R_tilings
abbrev C_law_2 (scr : OScr) : SF := r_law_2 (R__law_box scr) R__law_board R_dominoes (R__law_ways 40) R__law_is_tiled R_is_tiled R_is_board R_tilings
abbrev C_law_3 (scr : OScr) : SF := r_law_3 (R__law_box scr) R__law_board R_dominoes (R__law_ways 40) R__law_is_tiled R_is_tiled R_is_board R_tilings
abbrev C_law_4a0 (scr : OScr) : SF := r_law_4a0 (R__law_box scr) R__law_board R_dominoes (R__law_ways 40) R__law_is_tiled R_is_tiled R_is_board R_tilings
abbrev C_law_4 (scr : OScr) : SF := r_law_4 (R__law_box scr) R__law_board R_dominoes (R__law_ways 40) R__law_is_tiled R_is_tiled R_is_board R_tilings
abbrev C_law_5a0 (scr : OScr) : SF := r_law_5a0 (R__law_box scr) R__law_board R_dominoes (R__law_ways 40) R__law_is_tiled R_is_tiled R_is_board R_tilings
abbrev C_law_5 (scr : OScr) : SF := r_law_5 (R__law_box scr) R__law_board R_dominoes (R__law_ways 40) R__law_is_tiled R_is_tiled R_is_board R_tilings
abbrev C_law_6 (scr : OScr) : SF := r_law_6 (R__law_box scr) R__law_board R_dominoes (R__law_ways 40) R__law_is_tiled R_is_tiled R_is_board R_tilings
def R_law (scr : OScr) : List D → Mem → Res D := fnR 6 (r_law (R__law_box scr) R__law_board R_dominoes (R__law_ways 40) R__law_is_tiled R_is_tiled R_is_board R_tilings)
end K80
namespace K80
open PySem L2 PD
/-! ### cells -/
abbrev Cell := Int × Int
abbrev bD (b : List Cell) : D := .tup (b.map encP)
theorem encP_eq (p q : Cell) : eqD (encP p) (encP q) = decide (p = q) := by
  show (decide _ && (decide _ && true)) = _
  rw [Bool.and_true, Bool.eq_iff_iff]
  simp only [Bool.and_eq_true, decide_eq_true_eq]
  exact (Prod.ext_iff).symm
theorem encP_sh (n : Nat) (p : Cell) : sh (n + 1) (encP p) = true := by
  show shs n [.int p.1, .int p.2] = true
  simp
theorem encPs_sh (n : Nat) (b : List Cell) : shs (n + 1) (b.map encP) = true := shs_map fun q _ => encP_sh n q
theorem any_encP (b : List Cell) (c : Cell) : (b.map encP).any (fun z => eqD z (encP c)) = decide (c ∈ b) := by
  rw [List.any_map, Bool.eq_iff_iff, List.any_eq_true]
  simp only [Function.comp, encP_eq, decide_eq_true_eq]
  constructor
  · rintro ⟨x, h, rfl⟩; exact h
  · intro h; exact ⟨c, h, rfl⟩
section
variable {m : Mem}
theorem in_bD (neg : Bool) (b : List Cell) (c : Cell) : opInB neg (encP c) (bD b) m = .ok (.bl (neg ^^ decide (c ∈ b))) m := by
  unfold opInB
  have h1 : sh 60 (deref m (encP c)) = true := encP_sh 59 c
  have h2 : sh 60 (deref m (bD b)) = true := encPs_sh 58 b
  rw [h1, h2]
  simp only [Bool.and_self, if_true]
  show Res.ok (D.bl (neg ^^ (b.map encP).any fun z => eqD z (encP c))) m = _
  rw [any_encP]
theorem in_rD (neg : Bool) {q : Nat} {b : List Cell} (e : m[q]? = some (.lst (b.map encP))) (c : Cell) : opInB neg (encP c) (.ref q) m = .ok (.bl (neg ^^ decide (c ∈ b))) m := by
  unfold opInB
  have h1 : sh 60 (deref m (encP c)) = true := encP_sh 59 c
  have h2 : sh 60 (deref m (.ref q)) = true := by rw [deref_ref e]; exact encPs_sh 58 b
  rw [h1, h2, deref_ref e]
  simp only [Bool.and_self, if_true]
  show Res.ok (D.bl (neg ^^ (b.map encP).any fun z => eqD z (encP c))) m = _
  rw [any_encP]
/-! ### the cells around -/
def nbrs (b : List Cell) (c : Cell) : List Cell := [(c.1 - 1, c.2), (c.1, c.2 - 1), (c.1, c.2 + 1), (c.1 + 1, c.2)].filter fun d => decide (d ∈ b)
theorem nbrs_len (b : List Cell) (c : Cell) : (nbrs b c).length ≤ 4 := by
  unfold nbrs
  exact List.length_filter_le _ _
theorem nbrs_mem {b : List Cell} {c d : Cell} (h : d ∈ nbrs b c) : d ∈ b := by
  unfold nbrs at h
  exact of_decide_eq_true (List.mem_filter.mp h).2
theorem R_around_ok (b : List Cell) (c : Cell) : R_around [bD b, encP c] m = .ok (.lst ((nbrs b c).map encP)) m := by
  have hlc : lcL (gN 4) (tCmp opIn (eVar 4) (eVar 0)) (eVar 4) [some (bD b), some (encP c), some (.int c.1), some (.int c.2), none] (([(c.1 - 1, c.2), (c.1, c.2 - 1), (c.1, c.2 + 1), (c.1 + 1, c.2)] : List Cell).map encP) m = .ok ((nbrs b c).map encP) m := by
    unfold nbrs
    refine lcL_filter fun x _ => ⟨[some (bD b), some (encP c), some (.int c.1), some (.int c.2), some (encP x)], rfl, ?_, fun _ => rfl⟩
    simp [in_bD]
  have hnl := newL_f (m := m) (xs := (nbrs b c).map encP) (by rw [List.length_map]; have := nbrs_len b c; omega)
  unfold R_around fnR
  have es : startD 5 [bD b, encP c] = [some (bD b), some (encP c), none, none, none] := rfl
  rw [es]
  simp only [r_around, sSeq_ap, sAsg_ap, eVar_ap, List.getElem?_cons_zero, List.getElem?_cons_succ, Res.st_ok]
  have hg : gT 2 (gsCons (gN 2) (gsCons (gN 3) gsNil)) (encP c) [some (bD b), some (encP c), none, none, none] m = .nx [some (bD b), some (encP c), some (.int c.1), some (.int c.2), none] m := rfl
  rw [hg, SRes.then_nx]
  simp only [sRet_ap, eLc_ap, iE_ap, eTup_ap, aCons_ap, eOp_ap, eVar_ap, eC_ap, aNil_ap, List.getElem?_cons_zero, List.getElem?_cons_succ, Res.bind_ok, opSub_int, opAddX_int, noexc_ok, newT2, newT4]
  have hs : srcOf (D.tup [D.tup [.int (c.1 - 1), .int c.2], D.tup [.int c.1, .int (c.2 - 1)], D.tup [.int c.1, .int (c.2 + 1)], D.tup [.int (c.1 + 1), .int c.2]]) m = .ok (.its (([(c.1 - 1, c.2), (c.1, c.2 - 1), (c.1, c.2 + 1), (c.1 + 1, c.2)] : List Cell).map encP)) m := rfl
  rw [hs]
  have hw : wipeD [some (bD b), some (encP c), some (D.int c.1), some (D.int c.2), none] [4] = [some (bD b), some (encP c), some (.int c.1), some (.int c.2), none] := rfl
  simp only [Res.bind_ok, hw, lcS_its, hlc, noexc_ok, hnl, Res.st_ok]
theorem R_beside_ok (b : List Cell) (c : Cell) : R__law_beside [bD b, encP c] m = .ok (.lst ((nbrs b c).map encP)) m := R_around_ok b c
end
/-! ### dicts from cells to cells -/
abbrev Mate := List (Cell × Cell)
def kP (c : Cell) : NestedKey := .tup [.num c.1, .num c.2]
theorem keyT_P (c : Cell) : keyT (encP c) = some (kP c) := rfl
theorem keyD_P (c : Cell) : keyD (encP c) = some (kP c) := rfl
theorem kP_inj {c d : Cell} : kP c = kP d ↔ c = d := by
  constructor
  · intro h
    unfold kP at h
    injection h with h
    injection h with h1 h2
    injection h1 with h1
    injection h2 with h2 _
    injection h2 with h2
    exact Prod.ext h1 h2
  · rintro rfl; rfl
def look {α : Type} (mate : List (Cell × α)) (c : Cell) : Option α := (mate.find? fun p => decide (p.1 = c)).map (·.2)
def put {α : Type} (mate : List (Cell × α)) (c : Cell) (v : α) : List (Cell × α) := if (look mate c).isSome then mate.map fun p => if p.1 = c then (p.1, v) else p else mate ++ [(c, v)]
def mD {α : Type} (f : α → D) (mate : List (Cell × α)) : List (D × D) := mate.map fun p => (encP p.1, f p.2)
theorem dFind_mD {α : Type} (f : α → D) (mate : List (Cell × α)) (c : Cell) : dFind (mD f mate) (kP c) = (look mate c).map f := by
  unfold dFind look mD
  induction mate with
  | nil => rfl
  | cons p r ih =>
    rw [List.map_cons, List.find?_cons, List.find?_cons]
    have e : decide (keyD (encP p.1) = some (kP c)) = decide (p.1 = c) := by
      rw [keyD_P, decide_eq_decide, Option.some.injEq, kP_inj]
    rw [e]
    cases decide (p.1 = c) with
    | true => rfl
    | false => exact ih
theorem dPut_mD {α : Type} (f : α → D) (mate : List (Cell × α)) (c : Cell) (v : α) : dPut (mD f mate) (encP c) (kP c) (f v) = mD f (put mate c v) := by
  unfold dPut put
  rw [dFind_mD]
  have e : ((look mate c).map f).isSome = (look mate c).isSome := by cases look mate c <;> rfl
  rw [e]
  split
  · unfold mD
    rw [List.map_map, List.map_map]
    refine List.map_congr_left fun p _ => ?_
    show (if keyD (encP p.1) = some (kP c) then (encP p.1, f v) else (encP p.1, f p.2)) = _
    by_cases h : p.1 = c
    · rw [if_pos (by rw [keyD_P, h])]
      simp [h]
    · rw [if_neg (by rw [keyD_P, Option.some.injEq, kP_inj]; exact h)]
      simp [h]
  · unfold mD
    rw [List.map_append]; rfl
theorem mem_keys {α : Type} {mate : List (Cell × α)} {c : Cell} {v : α} (h : look mate c = some v) : (c, v) ∈ mate := by
  unfold look at h
  rw [Option.map_eq_some_iff] at h
  obtain ⟨p, hp, rfl⟩ := h
  have h1 := List.mem_of_find?_eq_some hp
  have h2 := List.find?_some hp
  have : p.1 = c := of_decide_eq_true h2
  rw [← this]; exact h1
theorem look_some {α : Type} {mate : List (Cell × α)} {c : Cell} (h : c ∈ mate.map (·.1)) : (look mate c).isSome = true := by
  obtain ⟨p, hp, rfl⟩ := List.mem_map.mp h
  unfold look
  rw [Option.isSome_map, List.find?_isSome]
  exact ⟨p, hp, by simp⟩
theorem put_keys {α : Type} (mate : List (Cell × α)) (c : Cell) (v : α) : (put mate c v).map (·.1) = if c ∈ mate.map (·.1) then mate.map (·.1) else mate.map (·.1) ++ [c] := by
  unfold put
  by_cases h : c ∈ mate.map (·.1)
  · rw [if_pos (look_some h), if_pos h, List.map_map]
    refine List.map_congr_left fun p _ => ?_
    simp only [Function.comp]
    split <;> rfl
  · have : (look mate c).isSome = false := by
      cases e : look mate c with
      | none => rfl
      | some v => exact absurd (List.mem_map_of_mem (f := (·.1)) (mem_keys e)) h
    rw [if_neg (by rw [this]; exact Bool.false_ne_true), if_neg h, List.map_append]; rfl
theorem put_mem {α : Type} {mate : List (Cell × α)} {c : Cell} {v : α} {p : Cell × α} (h : p ∈ put mate c v) : p ∈ mate ∨ p = (c, v) := by
  unfold put at h
  split at h
  · obtain ⟨q, hq, rfl⟩ := List.mem_map.mp h
    split
    · rename_i e
      right; rw [e]
    · exact .inl hq
  · rcases List.mem_append.mp h with h | h
    · exact .inl h
    · rw [List.mem_singleton] at h; exact .inr h
end K80
namespace K80
open PySem L2 PD
/-! ### a cell is given a mate -/
abbrev Way := Bool × Mate × List Cell
def widL (W : Cell → Mate → List Cell → Way) (c : Cell) : List Cell → Mate → List Cell → Way
  | [], mate, met => (false, mate, met)
  | x :: xs, mate, met => if x ∈ met then widL W c xs mate met else match look mate x with
    | none => (true, put mate x c, met ++ [x])
    | some y => if (W y mate (met ++ [x])).1 then (true, put (W y mate (met ++ [x])).2.1 x c, (W y mate (met ++ [x])).2.2)
      else widL W c xs (W y mate (met ++ [x])).2.1 (W y mate (met ++ [x])).2.2
def wid (b : List Cell) : Nat → Cell → Mate → List Cell → Way
  | 0, _, mate, met => (false, mate, met)
  | n + 1, c, mate, met => widL (wid b n) c (nbrs b c) mate met
structure WI (b : List Cell) (mate : Mate) (met : List Cell) : Prop where
  nd : met.Nodup
  sub : ∀ x ∈ met, x ∈ b
  keys : (mate.map (·.1)).Nodup
  ks : ∀ p ∈ mate, p.1 ∈ b
  vs : ∀ p ∈ mate, p.2 ∈ b
theorem nodup_len {α : Type} [DecidableEq α] : ∀ {xs ys : List α}, xs.Nodup → (∀ x ∈ xs, x ∈ ys) → xs.length ≤ ys.length
  | [], _, _, _ => Nat.zero_le _
  | x :: xs, ys, hn, hs => by
    rw [List.nodup_cons] at hn
    have hx := hs x List.mem_cons_self
    have := nodup_len (xs := xs) (ys := ys.erase x) hn.2 fun y hy => by
      have : y ≠ x := fun e => hn.1 (e ▸ hy)
      exact (List.mem_erase_of_ne this).mpr (hs y (List.mem_cons_of_mem _ hy))
    rw [List.length_erase_of_mem hx] at this
    have := List.length_pos_of_mem hx
    rw [List.length_cons]
    omega
theorem WI.put {b : List Cell} {mate : Mate} {met : List Cell} (w : WI b mate met) {x c : Cell} (hx : x ∈ b) (hc : c ∈ b) : WI b (put mate x c) met where
  nd := w.nd
  sub := w.sub
  keys := by
    rw [put_keys]
    split
    · exact w.keys
    · rename_i h
      rw [List.nodup_append]
      refine ⟨w.keys, by simp, fun a ha d hd => ?_⟩
      rw [List.mem_singleton] at hd
      subst hd
      rintro rfl
      exact h ha
  ks := fun p hp => by
    rcases put_mem hp with h | rfl
    · exact w.ks p h
    · exact hx
  vs := fun p hp => by
    rcases put_mem hp with h | rfl
    · exact w.vs p h
    · exact hc
theorem WI.met {b : List Cell} {mate : Mate} {met : List Cell} (w : WI b mate met) {x : Cell} (hx : x ∈ b) (hn : x ∉ met) : WI b mate (met ++ [x]) where
  nd := by
    rw [List.nodup_append]
    refine ⟨w.nd, by simp, fun a ha d hd => ?_⟩
    rw [List.mem_singleton] at hd
    subst hd
    rintro rfl
    exact hn ha
  sub := fun y hy => by
    rcases List.mem_append.mp hy with h | h
    · exact w.sub y h
    · rw [List.mem_singleton] at h; subst h; exact hx
  keys := w.keys
  ks := w.ks
  vs := w.vs
/-- what a way keeps -/
structure WP (b : List Cell) (mate : Mate) (met : List Cell) (r : Way) : Prop where
  inv : WI b r.2.1 r.2.2
  pre : ∃ more, r.2.2 = met ++ more ∧ (r.1 = false → r.2.1 = mate ∧ ∀ x ∈ more, x ∈ mate.map (·.1))
theorem widL_ok {b : List Cell} {W : Cell → Mate → List Cell → Way} {c : Cell} (hc : c ∈ b) (hW : ∀ y mate met, y ∈ b → WI b mate met → WP b mate met (W y mate met)) : ∀ (xs : List Cell) (mate : Mate) (met : List Cell), (∀ x ∈ xs, x ∈ b) → WI b mate met → WP b mate met (widL W c xs mate met)
  | [], mate, met, _, w => ⟨w, [], by simp [widL], fun _ => ⟨rfl, fun x h => by cases h⟩⟩
  | x :: xs, mate, met, hs, w => by
    have hx := hs x List.mem_cons_self
    have hs' : ∀ x ∈ xs, x ∈ b := fun y hy => hs y (List.mem_cons_of_mem _ hy)
    unfold widL
    by_cases hm : x ∈ met
    · rw [if_pos hm]
      exact widL_ok hc hW xs mate met hs' w
    · rw [if_neg hm]
      have w1 := w.met hx hm
      cases e : look mate x with
      | none => exact ⟨w1.put hx hc, [x], rfl, fun h => by cases h⟩
      | some y =>
        have hy : y ∈ b := w.vs _ (mem_keys e)
        have h1 := hW y mate (met ++ [x]) hy w1
        obtain ⟨more, em, hf⟩ := h1.pre
        simp only
        by_cases hr : (W y mate (met ++ [x])).1 = true
        · rw [if_pos hr]
          exact ⟨h1.inv.put hx hc, x :: more, by rw [em, List.append_assoc]; rfl, fun h => by cases h⟩
        · rw [if_neg hr]
          have hr' : (W y mate (met ++ [x])).1 = false := by simpa using hr
          obtain ⟨em2, hk⟩ := hf hr'
          have h2 := widL_ok hc hW xs _ _ hs' h1.inv
          obtain ⟨more2, em3, hf2⟩ := h2.pre
          refine ⟨h2.inv, x :: (more ++ more2), by rw [em3, em, List.append_assoc, List.append_assoc]; rfl, fun h => ?_⟩
          obtain ⟨em4, hk2⟩ := hf2 h
          refine ⟨by rw [em4, em2], fun z hz => ?_⟩
          rcases List.mem_cons.mp hz with rfl | hz
          · exact List.mem_map_of_mem (f := (·.1)) (mem_keys e)
          · rcases List.mem_append.mp hz with hz | hz
            · exact hk z hz
            · have := hk2 z hz
              rwa [em2] at this
theorem wid_ok {b : List Cell} : ∀ (n : Nat) (c : Cell) (mate : Mate) (met : List Cell), c ∈ b → WI b mate met → WP b mate met (wid b n c mate met)
  | 0, c, mate, met, _, w => ⟨w, [], by simp [wid], fun _ => ⟨rfl, fun x h => by cases h⟩⟩
  | n + 1, c, mate, met, hc, w => widL_ok hc (fun y mate met hy w => wid_ok n y mate met hy w) _ _ _ (fun x hx => nbrs_mem hx) w
/-! ### the code does so -/
def MM (M : Mem) (p q : Nat) (mate : Mate) (met : List Cell) : Mem := (M.set p (.dct false (mD encP mate))).set q (.lst (met.map encP))
section
variable {M : Mem} {p q : Nat} {mate : Mate} {met : List Cell}
theorem MM_p (hp : p < M.length) (pq : p ≠ q) : (MM M p q mate met)[p]? = some (.dct false (mD encP mate)) := by
  unfold MM
  rw [List.getElem?_set_ne (Ne.symm pq), List.getElem?_set_self hp]
theorem MM_q (hq : q < M.length) : (MM M p q mate met)[q]? = some (.lst (met.map encP)) := by
  unfold MM
  rw [List.getElem?_set_self (by rw [List.length_set]; exact hq)]
theorem MM_setp (pq : p ≠ q) (mate' : Mate) : (MM M p q mate met).set p (.dct false (mD encP mate')) = MM M p q mate' met := by
  unfold MM
  rw [List.set_comm _ _ (Ne.symm pq), List.set_set]
theorem MM_setq (met' : List Cell) : (MM M p q mate met).set q (.lst (met'.map encP)) = MM M p q mate met' := by
  unfold MM
  rw [List.set_set]
end
def bodyW (n : Nat) : SF := sSeq (sIf (tCmp opIn (eVar 4) (eVar 3)) (sCt) (sNil)) (sSeq (sExpr (eM mAppend (eVar 3) (aCons (eVar 4) (aNil)))) (sIf (tOrD (tCmp (opDin true) (eVar 4) (eVar 2)) (tE (eCall (R_widened n) (aCons (eVar 0) (aCons (eDix (eVar 2) (eVar 4)) (aCons (eVar 2) (aCons (eVar 3) (aNil)))))))) (sSeq (sAsg (gDx (eVar 2) (eVar 4)) (eVar 1)) (sRet (eC (.bl true)))) (sNil)))
section
variable {M : Mem} {p q : Nat} {b : List Cell} (hp : p < M.length) (hq : q < M.length) (pq : p ≠ q) (hb : b.length ≤ 1000)
include hp hq pq hb
theorem WI.mlen {mate : Mate} {met : List Cell} (w : WI b mate met) : mate.length ≤ 1000 := by
  have := nodup_len w.keys fun k hk => by
    obtain ⟨z, hz, rfl⟩ := List.mem_map.mp hk
    exact w.ks z hz
  rw [List.length_map] at this
  omega
theorem WI.tlen {mate : Mate} {met : List Cell} (w : WI b mate met) : met.length ≤ b.length := nodup_len w.nd w.sub
theorem set_mate {mate : Mate} {met : List Cell} (w : WI b mate met) (x c : Cell) (σ : Sg) : setDx (.ref p) (encP x) (encP c) σ (MM M p q mate met) = .nx σ (MM M p q (put mate x c) met) := by
  have hl := w.mlen hp hq pq hb
  rw [setDx_of (keyT_P x) (MM_p hp pq) (by unfold mD; rw [List.length_map]; omega), dPut_mD, MM_setp pq]
theorem widL_ev {n : Nat} {c : Cell} (hc : c ∈ b) (ih : ∀ y mate met, y ∈ b → WI b mate met → b.length < n + met.length → R_widened n [bD b, encP y, .ref p, .ref q] (MM M p q mate met) = .ok (.bl (wid b n y mate met).1) (MM M p q (wid b n y mate met).2.1 (wid b n y mate met).2.2)) :
    ∀ (xs : List Cell) (mate : Mate) (met : List Cell) (t : Option D), (∀ x ∈ xs, x ∈ b) → WI b mate met → b.length < n + 1 + met.length →
    ∃ t', forL (gN 4) (bodyW n) (xs.map encP) [some (bD b), some (encP c), some (.ref p), some (.ref q), t] (MM M p q mate met) =
      if (widL (wid b n) c xs mate met).1 then .rt (.bl true) (MM M p q (widL (wid b n) c xs mate met).2.1 (widL (wid b n) c xs mate met).2.2)
      else .nx [some (bD b), some (encP c), some (.ref p), some (.ref q), t'] (MM M p q (widL (wid b n) c xs mate met).2.1 (widL (wid b n) c xs mate met).2.2)
  | [], mate, met, t, _, w, _ => ⟨t, rfl⟩
  | x :: xs, mate, met, t, hs, w, hf => by
    have hx := hs x List.mem_cons_self
    have hs' : ∀ x ∈ xs, x ∈ b := fun y hy => hs y (List.mem_cons_of_mem _ hy)
    have hstep : forL (gN 4) (bodyW n) ((x :: xs).map encP) [some (bD b), some (encP c), some (.ref p), some (.ref q), t] (MM M p q mate met) = turnK (bodyW n [some (bD b), some (encP c), some (.ref p), some (.ref q), some (encP x)] (MM M p q mate met)) (forL (gN 4) (bodyW n) (xs.map encP)) := by
      rw [List.map_cons, forL_step (σ1 := [some (bD b), some (encP c), some (.ref p), some (.ref q), some (encP x)]) (m1 := MM M p q mate met) rfl]
    rw [hstep]
    have hin := in_rD (m := MM M p q mate met) false (MM_q (mate := mate) (met := met) (p := p) hq) x
    unfold widL
    by_cases hm : x ∈ met
    · rw [if_pos hm]
      have e : bodyW n [some (bD b), some (encP c), some (.ref p), some (.ref q), some (encP x)] (MM M p q mate met) = .ct [some (bD b), some (encP c), some (.ref p), some (.ref q), some (encP x)] (MM M p q mate met) := by
        unfold bodyW
        simp [hin, hm]
      rw [e, turnK_ct]
      exact widL_ev hc ih xs mate met _ hs' w hf
    · rw [if_neg hm]
      have w1 := w.met hx hm
      have hap : mAppend (.ref q) [encP x] (MM M p q mate met) = .ok .non (MM M p q mate (met ++ [x])) := by
        have := w.tlen hp hq pq hb
        rw [mAppend_ok (MM_q hq) (by rw [List.length_map]; omega), ← List.map_singleton, ← List.map_append, MM_setq]
      have hls : isLs (MM M p q mate met) (.ref q) = true := isLs_ref (MM_q hq)
      have hni := opDin_of (m := MM M p q mate (met ++ [x])) (neg := true) (keyT_P x) (MM_p hp pq)
      rw [dFind_mD] at hni
      cases e : look mate x with
      | none =>
        rw [e] at hni
        have eb : bodyW n [some (bD b), some (encP c), some (.ref p), some (.ref q), some (encP x)] (MM M p q mate met) = .rt (.bl true) (MM M p q (put mate x c) (met ++ [x])) := by
          unfold bodyW
          simp [hin, hm, hls, hap, hni, set_mate hp hq pq hb w1]
        rw [eb, turnK_rt]
        exact ⟨t, rfl⟩
      | some y =>
        rw [e] at hni
        have hy : y ∈ b := w.vs _ (mem_keys e)
        have hix : opDix (.ref p) (encP x) (MM M p q mate (met ++ [x])) = .ok (encP y) (MM M p q mate (met ++ [x])) := opDix_of (keyT_P x) (MM_p hp pq) (by rw [dFind_mD, e]; rfl)
        have hrec := ih y mate (met ++ [x]) hy w1 (by rw [List.length_append, List.length_singleton]; omega)
        have hwp := wid_ok n y mate (met ++ [x]) hy w1
        obtain ⟨more, em, hff⟩ := hwp.pre
        simp only
        cases hr : (wid b n y mate (met ++ [x])).1 with
        | true =>
          rw [hr] at hrec
          have eb : bodyW n [some (bD b), some (encP c), some (.ref p), some (.ref q), some (encP x)] (MM M p q mate met) = .rt (.bl true) (MM M p q (put (wid b n y mate (met ++ [x])).2.1 x c) (wid b n y mate (met ++ [x])).2.2) := by
            unfold bodyW
            simp [hin, hm, hls, hap, hni, hix, hrec, set_mate hp hq pq hb hwp.inv]
          rw [eb, turnK_rt]
          exact ⟨t, by simp⟩
        | false =>
          rw [hr] at hrec
          have eb : bodyW n [some (bD b), some (encP c), some (.ref p), some (.ref q), some (encP x)] (MM M p q mate met) = .nx [some (bD b), some (encP c), some (.ref p), some (.ref q), some (encP x)] (MM M p q (wid b n y mate (met ++ [x])).2.1 (wid b n y mate (met ++ [x])).2.2) := by
            unfold bodyW
            simp [hin, hm, hls, hap, hni, hix, hrec]
          rw [eb, turnK_nx]
          obtain ⟨t', h⟩ := widL_ev hc ih xs _ _ (some (encP x)) hs' hwp.inv (by rw [em, List.length_append, List.length_append, List.length_singleton]; omega)
          exact ⟨t', by simpa using h⟩
theorem wid_ev : ∀ (n : Nat) (c : Cell) (mate : Mate) (met : List Cell), c ∈ b → WI b mate met → b.length < n + met.length → R_widened n [bD b, encP c, .ref p, .ref q] (MM M p q mate met) = .ok (.bl (wid b n c mate met).1) (MM M p q (wid b n c mate met).2.1 (wid b n c mate met).2.2)
  | 0, c, mate, met, hc, w, hf => by
    have := w.tlen hp hq pq hb
    omega
  | n + 1, c, mate, met, hc, w, hf => by
    obtain ⟨t', h⟩ := widL_ev hp hq pq hb hc (fun y mate met hy w hf => wid_ev n y mate met hy w hf) (nbrs b c) mate met none (fun x hx => nbrs_mem hx) w hf
    have es : startD 5 [bD b, encP c, .ref p, .ref q] = [some (bD b), some (encP c), some (.ref p), some (.ref q), none] := rfl
    show fnR 5 (r_widened R_around (R_widened n)) [bD b, encP c, .ref p, .ref q] (MM M p q mate met) = _
    unfold fnR
    rw [es]
    have eb : r_widened R_around (R_widened n) = sSeq (sFor (iE (eCall R_around (aCons (eVar 0) (aCons (eVar 1) (aNil))))) (gN 4) (bodyW n)) (sRet (eC (.bl false))) := rfl
    rw [eb, sSeq_ap, sFor_ap]
    have hi : iE (eCall R_around (aCons (eVar 0) (aCons (eVar 1) (aNil)))) [some (bD b), some (encP c), some (.ref p), some (.ref q), none] (MM M p q mate met) = .ok (.its ((nbrs b c).map encP)) (MM M p q mate met) := by
      simp [R_around_ok]
    rw [hi, Res.st_ok, forS_its, h]
    show _ = Res.ok (D.bl (widL (wid b n) c (nbrs b c) mate met).1) (MM M p q (widL (wid b n) c (nbrs b c) mate met).2.1 (widL (wid b n) c (nbrs b c) mate met).2.2)
    cases hr : (widL (wid b n) c (nbrs b c) mate met).1 with
    | true => simp
    | false => simp
end
end K80
namespace K80
open PySem L2 PD
/-! ### any values -/
def vt : D → Bool | .ref _ => false | .adr _ => false | .scr _ => false | _ => true
mutual
/-- data without places, not too deep, not too wide -/
def vok : Nat → Nat → D → Bool
  | n, w, .tup xs => decide (1 ≤ n) && decide (xs.length ≤ w) && voks (n - 1) w xs
  | n, w, .lst xs => decide (1 ≤ n) && decide (xs.length ≤ w) && voks (n - 1) w xs
  | _, _, .ref _ => false
  | _, _, .adr _ => false
  | _, _, .scr _ => false
  | _, _, .str x => decide (x = ("" : Str))
  | _, _, _ => true
def voks : Nat → Nat → List D → Bool
  | _, _, [] => true
  | n, w, x :: xs => vok n w x && voks n w xs
end
theorem voks_iff {n w : Nat} : ∀ {xs : List D}, voks n w xs = true ↔ ∀ x ∈ xs, vok n w x = true
  | [] => by simp [voks]
  | x :: xs => by
    rw [voks, Bool.and_eq_true, voks_iff (xs := xs)]
    simp
theorem vok_tup {n w : Nat} {xs : List D} : vok n w (.tup xs) = true ↔ 1 ≤ n ∧ xs.length ≤ w ∧ ∀ x ∈ xs, vok (n - 1) w x = true := by
  rw [vok, Bool.and_eq_true, Bool.and_eq_true, voks_iff, decide_eq_true_eq, decide_eq_true_eq, and_assoc]
theorem vok_lst {n w : Nat} {xs : List D} : vok n w (.lst xs) = true ↔ 1 ≤ n ∧ xs.length ≤ w ∧ ∀ x ∈ xs, vok (n - 1) w x = true := by
  rw [vok, Bool.and_eq_true, Bool.and_eq_true, voks_iff, decide_eq_true_eq, decide_eq_true_eq, and_assoc]
mutual
theorem vok_mono {n n' w w' : Nat} (hn : n ≤ n') (hw : w ≤ w') : ∀ d : D, vok n w d = true → vok n' w' d = true
  | .tup xs, h => by
    rw [vok, Bool.and_eq_true, Bool.and_eq_true, decide_eq_true_eq, decide_eq_true_eq] at h ⊢
    exact ⟨⟨by omega, by omega⟩, voks_mono (by omega) hw xs h.2⟩
  | .lst xs, h => by
    rw [vok, Bool.and_eq_true, Bool.and_eq_true, decide_eq_true_eq, decide_eq_true_eq] at h ⊢
    exact ⟨⟨by omega, by omega⟩, voks_mono (by omega) hw xs h.2⟩
  | .non, _ => by simp [vok]
  | .bl _, _ => by simp [vok]
  | .int _, _ => by simp [vok]
  | .str _, h => by simpa [vok] using h
  | .ref _, h => by simp [vok] at h
  | .adr _, h => by simp [vok] at h
  | .scr _, h => by simp [vok] at h
theorem voks_mono {n n' w w' : Nat} (hn : n ≤ n') (hw : w ≤ w') : ∀ xs : List D, voks n w xs = true → voks n' w' xs = true
  | [], _ => by simp [voks]
  | x :: xs, h => by
    rw [voks, Bool.and_eq_true] at h ⊢
    exact ⟨vok_mono hn hw x h.1, voks_mono hn hw xs h.2⟩
end
theorem vok_vt {n w : Nat} {d : D} (h : vok n w d = true) : vt d = true := by
  cases d <;> simp_all [vok, vt]
mutual
theorem vok_sh {n w : Nat} : ∀ d : D, vok n w d = true → sh n d = true
  | .tup xs, h => by
    rw [vok, Bool.and_eq_true, Bool.and_eq_true, decide_eq_true_eq] at h
    obtain ⟨k, rfl⟩ : ∃ k, n = k + 1 := ⟨n - 1, by omega⟩
    rw [sh_tup]
    exact voks_sh xs h.2
  | .lst xs, h => by
    rw [vok, Bool.and_eq_true, Bool.and_eq_true, decide_eq_true_eq] at h
    obtain ⟨k, rfl⟩ : ∃ k, n = k + 1 := ⟨n - 1, by omega⟩
    rw [sh_lst]
    exact voks_sh xs h.2
  | .non, _ => by simp
  | .bl _, _ => by simp
  | .int _, _ => by simp
  | .str x, h => by
    have e : x = ("" : Str) := by simpa [vok] using h
    subst e
    have e0 : (PyData.str ("" : Str)).canLay0 = true := by decide +kernel
    cases n <;> exact e0
  | .ref _, h => by simp [vok] at h
  | .adr _, h => by simp [vok] at h
  | .scr _, h => by simp [vok] at h
theorem voks_sh {n w : Nat} : ∀ xs : List D, voks n w xs = true → shs n xs = true
  | [], _ => by simp
  | x :: xs, h => by
    rw [voks, Bool.and_eq_true] at h
    rw [shs_cons, vok_sh x h.1, voks_sh xs h.2]; rfl
end
def isInt : D → Bool | .int _ => true | _ => false
def isIB : D → Bool | .int _ => true | .bl _ => true | _ => false
def isBl : D → Bool | .bl _ => true | _ => false
section
variable {m : Mem} {d : D}
theorem isi_tup (h : vt d = true) : opIsi "tuple" d m = .ok (.bl (isTp d)) m := by cases d <;> first | rfl | cases h
theorem isi_int (h : vt d = true) : opIsi "int" d m = .ok (.bl (isIB d)) m := by cases d <;> first | rfl | cases h
theorem isi_bool (h : vt d = true) : opIsi "bool" d m = .ok (.bl (isBl d)) m := by cases d <;> first | rfl | cases h
theorem R_num (h : vt d = true) : R_is_number [d] m = .ok (.bl (isInt d)) m := by
  unfold R_is_number fnR
  have es : startD 1 [d] = [some d] := rfl
  rw [es]
  cases d <;> first | (simp [r_is_number, isi_int h, isi_bool h, isIB, isBl, isInt]) | cases h
theorem R_whole (h : vt d = true) : R__law_whole [d] m = .ok (.bl (isInt d)) m := R_num h
/-- a whole number from 0 to 20 -/
def elB : D → Bool | .int x => decide (0 ≤ x ∧ x ≤ 20) | _ => false
def cellB : D → Bool | .tup [.int x, .int y] => decide (0 ≤ x ∧ x ≤ 20 ∧ 0 ≤ y ∧ y ≤ 20) | _ => false
theorem cellB_tup {xs : List D} : cellB (.tup xs) = (decide (xs.length = 2) && xs.all elB) := by
  match xs with
  | [] => rfl
  | [_] => simp [cellB]
  | [a, b] =>
    cases a <;> cases b <;> simp [cellB, elB]
    rename_i x y
    rw [Bool.eq_iff_iff]; simp [and_assoc]
  | _ :: _ :: _ :: _ => simp [cellB]
def unP : D → Cell | .tup [.int x, .int y] => (x, y) | _ => (0, 0)
theorem cellB_enc (h : cellB d = true) : d = encP (unP d) := by
  match d, h with
  | .tup [.int x, .int y], _ => rfl
theorem unP_enc (c : Cell) : unP (encP c) = c := rfl
theorem cellB_of {c : Cell} : cellB (encP c) = decide (0 ≤ c.1 ∧ c.1 ≤ 20 ∧ 0 ≤ c.2 ∧ c.2 ≤ 20) := rfl
theorem R_cell {n w : Nat} (h : vok n w d = true) (hw : w ≤ 16777216) : R_is_cell [d] m = .ok (.bl (cellB d)) m := by
  have ht := vok_vt h
  unfold R_is_cell fnR
  have es : startD 2 [d] = [some d, none] := rfl
  rw [es]
  cases d with
  | tup xs =>
    rw [vok_tup] at h
    by_cases hl : xs.length = 2
    · have hlc : lcL (gN 1) tYesD (eAnd (eCall R_is_number (aCons (eVar 1) (aNil))) (eChain (opOrd .LtE) (opOrd .LtE) (eC (.int 0)) (eVar 1) (eC (.int 20)))) [some (.tup xs), none] xs m = .ok (xs.map fun x => .bl (elB x)) m := by
        have := lcL_map (enc := id) (f := fun x => D.bl (elB x)) (g := gN 1) (te := eAnd (eCall R_is_number (aCons (eVar 1) (aNil))) (eChain (opOrd .LtE) (opOrd .LtE) (eC (.int 0)) (eVar 1) (eC (.int 20)))) (σw := [some (.tup xs), none]) (m := m) (xs := xs) fun x hx => ⟨[some (.tup xs), some x], rfl, by
          have hv := vok_vt (h.2.2 x hx)
          cases x with
          | int i =>
            simp only [eAnd_ap, eCall_ap, aCons_ap, eVar_ap, aNil_ap, List.getElem?_cons_succ, List.getElem?_cons_zero, Res.bind_ok, R_num hv, asB_ap, isInt, if_true, eChain_ap, eC_ap, opLe_int, noexc_ok, elB]
            by_cases h0 : (0 : Int) ≤ i
            · simp [h0]
            · simp [h0]
          | _ => simp [R_num hv, isInt, elB]⟩
        simpa using this
      have hnl := newL_f (m := m) (xs := xs.map fun x => D.bl (elB x)) (by rw [List.length_map]; omega)
      have hl' : (xs.length : Int) = 2 := by omega
      simp [r_is_cell, isTp, hl', wipeD, hlc, hnl, bAll_map, cellB_tup, hl]
    · have hl' : ¬ (xs.length : Int) = 2 := by omega
      simp [r_is_cell, isTp, hl', cellB_tup, hl]
  | ref _ => cases ht
  | adr _ => cases ht
  | scr _ => cases ht
  | _ => simp [r_is_cell, isi_tup ht, isTp, cellB]
end
end K80
namespace K80
open PySem L2 PD
/-! ### order -/
def ltC (a b : Cell) : Bool := decide (a.1 < b.1 ∨ (a.1 = b.1 ∧ a.2 < b.2))
section
variable {m : Mem}
theorem ordD_P (a b : Cell) : ordD .Lt (encP a) (encP b) = some (ltC a b) := by
  show (match (match ordL .Lt [] [] with | none => none | some c => if eqD (.int a.2) (.int b.2) then some c else ordD .Lt (.int a.2) (.int b.2)) with | none => none | some c => if eqD (.int a.1) (.int b.1) then some c else ordD .Lt (.int a.1) (.int b.1)) = _
  simp only [ordL, cmpI, eqD_int, ordD, ltC]
  by_cases h1 : a.1 = b.1
  · by_cases h2 : a.2 = b.2
    · simp [h1, h2]
    · simp [h1, h2]
  · by_cases h2 : a.2 = b.2
    · simp [h1, h2]
    · simp [h1, h2]
theorem ordD_Pge (a b : Cell) : ordD .GtE (encP a) (encP b) = some (!ltC a b) := by
  show (match (match ordL .GtE [] [] with | none => none | some c => if eqD (.int a.2) (.int b.2) then some c else ordD .GtE (.int a.2) (.int b.2)) with | none => none | some c => if eqD (.int a.1) (.int b.1) then some c else ordD .GtE (.int a.1) (.int b.1)) = _
  simp only [ordL, cmpI, eqD_int, ordD, ltC]
  by_cases h1 : a.1 = b.1
  · by_cases h2 : a.2 = b.2
    · simp [h1, h2]
    · simp only [h1, h2, decide_true, decide_false, if_true, if_false, Option.some.injEq, Bool.false_eq_true]
      rw [Bool.eq_iff_iff]; simp
  · by_cases h2 : a.2 = b.2
    · simp only [h1, h2, decide_true, decide_false, if_true, if_false, Option.some.injEq, Bool.false_eq_true]
      rw [Bool.eq_iff_iff]; simp <;> omega
    · simp only [h1, h2, decide_true, decide_false, if_true, if_false, Option.some.injEq, Bool.false_eq_true]
      rw [Bool.eq_iff_iff]; simp <;> omega
theorem lt_P (a b : Cell) : opOrd .Lt (encP a) (encP b) m = .ok (.bl (ltC a b)) m := by
  show (if sh 60 (encP a) && sh 60 (encP b) then (match ordD .Lt (encP a) (encP b) with | some b => Res.ok (D.bl b) m | none => .bad) else .bad) = _
  rw [encP_sh 59, encP_sh 59, ordD_P]; rfl
theorem ge_P (a b : Cell) : opOrd .GtE (encP a) (encP b) m = .ok (.bl (!ltC a b)) m := by
  show (if sh 60 (encP a) && sh 60 (encP b) then (match ordD .GtE (encP a) (encP b) with | some b => Res.ok (D.bl b) m | none => .bad) else .bad) = _
  rw [encP_sh 59, encP_sh 59, ordD_Pge]; rfl
/-- a tile -/
abbrev Tile := Cell × Cell
def tD (t : Tile) : D := .tup [encP t.1, encP t.2]
def ltT (s t : Tile) : Bool := if s.1 = t.1 then (if s.2 = t.2 then false else ltC s.2 t.2) else ltC s.1 t.1
theorem tD_sh (n : Nat) (t : Tile) : sh (n + 2) (tD t) = true := by
  show shs (n + 1) [encP t.1, encP t.2] = true
  rw [shs_cons, shs_cons, encP_sh, encP_sh]; simp
theorem ordD_T (s t : Tile) : ordD .Lt (tD s) (tD t) = some (ltT s t) := by
  show (match (match ordL .Lt [] [] with | none => none | some c => if eqD (encP s.2) (encP t.2) then some c else ordD .Lt (encP s.2) (encP t.2)) with | none => none | some c => if eqD (encP s.1) (encP t.1) then some c else ordD .Lt (encP s.1) (encP t.1)) = _
  simp only [ordL, cmpI, encP_eq, ordD_P, ltT]
  by_cases h1 : s.1 = t.1
  · by_cases h2 : s.2 = t.2
    · simp [h1, h2]
    · simp [h1, h2]
  · by_cases h2 : s.2 = t.2
    · simp [h1, h2]
    · simp [h1, h2]
theorem lt_T (s t : Tile) : opOrd .Lt (tD s) (tD t) m = .ok (.bl (ltT s t)) m := by
  show (if sh 60 (tD s) && sh 60 (tD t) then (match ordD .Lt (tD s) (tD t) with | some b => Res.ok (D.bl b) m | none => .bad) else .bad) = _
  rw [tD_sh 58, tD_sh 58, ordD_T]; rfl
/-! ### rising -/
def rise {α : Type} (lt : α → α → Bool) (d : α) (xs : List α) (i : Nat) : Bool := lt (xs.getD i d) (xs.getD (i + 1) d)
def rising {α : Type} (lt : α → α → Bool) (d : α) (xs : List α) : Bool := (List.range (xs.length - 1)).all (rise lt d xs)
theorem getD_get {α : Type} {xs : List α} {d : α} {i : Nat} (h : i < xs.length) : xs[i]? = some (xs.getD i d) := by
  rw [List.getD_eq_getElem?_getD, List.getElem?_eq_getElem h]; rfl
theorem rise_el {α : Type} {enc : α → D} {lt : α → α → Bool} {d : α} (ho : ∀ a b, opOrd .Lt (enc a) (enc b) m = .ok (.bl (lt a b)) m) {xs : List α} {σ : Sg} {v s i : Nat} (hv : σ[v]? = some (some (.tup (xs.map enc)))) (hs : σ[s]? = some (some (.int (1 + i)))) (hi : i + 1 < xs.length) :
    (eOp (opOrd .Lt) (eIx (eVar v) (eOp opSub (eVar s) (eC (.int 1)))) (eIx (eVar v) (eVar s))) σ m = .ok (.bl (rise lt d xs i)) m := by
  have e1 : (1 + (i : Int)) - 1 = (i : Int) := by omega
  have e2 : (1 + (i : Int)) = ((i + 1 : Nat) : Int) := by omega
  have i1 : opIx (.tup (xs.map enc)) (.int (i : Int)) m = .ok (enc (xs.getD i d)) m := ix_tup_nat (by rw [List.getElem?_map, getD_get (by omega)]; rfl)
  have i2 : opIx (.tup (xs.map enc)) (.int ((i + 1 : Nat) : Int)) m = .ok (enc (xs.getD (i + 1) d)) m := ix_tup_nat (by rw [List.getElem?_map, getD_get hi]; rfl)
  rw [← e2] at i2
  simp only [eOp_ap, eIx_ap, eVar_ap, hv, hs, eC_ap, Res.bind_ok, opSub_int, noexc_ok, e1, i1, i2, ho]
  rfl
theorem rng_ok {n : Nat} (h : n ≤ 1000000) : range2 [.int 1, .int n] m = .ok (.its (rngL 1 (n - 1))) m := by
  rw [range2_ok (bnd_of (by decide) (by decide)) (bnd_of (by omega) (by omega))]
  have : ((n : Int) - 1).toNat = n - 1 := by omega
  rw [this]
/-- all(x[k - 1] < x[k] ..) -/
theorem rise_all {α : Type} {enc : α → D} {lt : α → α → Bool} {d : α} (ho : ∀ a b, opOrd .Lt (enc a) (enc b) m = .ok (.bl (lt a b)) m) {xs : List α} {σ : Sg} {v s : Nat} (hv : σ[v]? = some (some (.tup (xs.map enc)))) (hs : s < σ.length) (vs : v ≠ s) (hl : xs.length ≤ 1000000) :
    (eB (bAllB false) (aCons (eLc false [s] (iA range2 (aCons (eC (.int 1)) (aCons (eB bLen (aCons (eVar v) (aNil))) (aNil)))) (gN s) (tYesD) (eOp (opOrd .Lt) (eIx (eVar v) (eOp opSub (eVar s) (eC (.int 1)))) (eIx (eVar v) (eVar s)))) (aNil))) σ m = .ok (.bl (rising lt d xs)) m := by
  have hw : wipeD σ [s] = σ.set s none := rfl
  have hlc : lcL (gN s) tYesD (eOp (opOrd .Lt) (eIx (eVar v) (eOp opSub (eVar s) (eC (.int 1)))) (eIx (eVar v) (eVar s))) (σ.set s none) (rngL 1 (xs.length - 1)) m = .ok ((List.range (xs.length - 1)).map fun i => .bl (rise lt d xs i)) m := by
    unfold rngL
    refine lcL_map fun i hi => ⟨(σ.set s none).set s (some (.int (1 + i))), rfl, ?_⟩
    rw [List.mem_range] at hi
    refine rise_el ho ?_ ?_ (by omega)
    · rw [List.getElem?_set_ne (Ne.symm vs), List.getElem?_set_ne (Ne.symm vs)]; exact hv
    · rw [List.getElem?_set_self (by rw [List.length_set]; exact hs)]
  have hnl := newL_f (m := m) (xs := (List.range (xs.length - 1)).map fun i => D.bl (rise lt d xs i)) (by rw [List.length_map, List.length_range]; omega)
  simp only [eB_ap, aCons_ap, eLc_ap, iA_ap, eC_ap, eVar_ap, hv, aNil_ap, Res.bind_ok, bLen_tup, List.length_map, noexc_ok, rng_ok hl, lcS_its, hw, hlc, hnl, bAll_map, rising]
/-- [k for k .. if not x[k - 1] < x[k]] == [] -/
theorem rise_none {α : Type} {enc : α → D} {lt : α → α → Bool} {d : α} (ho : ∀ a b, opOrd .Lt (enc a) (enc b) m = .ok (.bl (lt a b)) m) {xs : List α} {σ : Sg} {v s : Nat} (hv : σ[v]? = some (some (.tup (xs.map enc)))) (hs : s < σ.length) (vs : v ≠ s) (hl : xs.length ≤ 1000000) :
    ∃ ks : List Int, (eLc false [s] (iA range2 (aCons (eC (.int 1)) (aCons (eB bLen (aCons (eVar v) (aNil))) (aNil)))) (gN s) (tNotD (tCmp (opOrd .Lt) (eIx (eVar v) (eOp opSub (eVar s) (eC (.int 1)))) (eIx (eVar v) (eVar s)))) (eVar s)) σ m = .ok (.lst (ks.map D.int)) m ∧ ks.isEmpty = rising lt d xs := by
  have hw : wipeD σ [s] = σ.set s none := rfl
  refine ⟨((List.range (xs.length - 1)).filter fun i => !rise lt d xs i).map fun (i : Nat) => (1 + i : Int), ?_, ?_⟩
  · have hlc : lcL (gN s) (tNotD (tCmp (opOrd .Lt) (eIx (eVar v) (eOp opSub (eVar s) (eC (.int 1)))) (eIx (eVar v) (eVar s)))) (eVar s) (σ.set s none) (rngL 1 (xs.length - 1)) m = .ok (((List.range (xs.length - 1)).filter fun i => !rise lt d xs i).map fun (i : Nat) => .int (1 + i)) m := by
      unfold rngL
      refine lcL_filter fun i hi => ⟨(σ.set s none).set s (some (.int (1 + i))), rfl, ?_, fun _ => ?_⟩
      · rw [List.mem_range] at hi
        have e := rise_el (m := m) (d := d) ho (xs := xs) (σ := (σ.set s none).set s (some (.int (1 + i)))) (v := v) (s := s) (i := i) (by rw [List.getElem?_set_ne (Ne.symm vs), List.getElem?_set_ne (Ne.symm vs)]; exact hv) (by rw [List.getElem?_set_self (by rw [List.length_set]; exact hs)]) (by omega)
        have e' : tCmp (opOrd .Lt) (eIx (eVar v) (eOp opSub (eVar s) (eC (.int 1)))) (eIx (eVar v) (eVar s)) ((σ.set s none).set s (some (.int (1 + i)))) m = .ok (rise lt d xs i) m := by
          show (eOp (opOrd .Lt) (eIx (eVar v) (eOp opSub (eVar s) (eC (.int 1)))) (eIx (eVar v) (eVar s)) ((σ.set s none).set s (some (.int (1 + i)))) m).bind asB = _
          rw [e]; rfl
        rw [tNot_ap, e']; rfl
      · rw [eVar_ap, List.getElem?_set_self (by rw [List.length_set]; exact hs)]
    have hnl := newL_f (m := m) (xs := ((List.range (xs.length - 1)).filter fun i => !rise lt d xs i).map fun (i : Nat) => D.int (1 + i)) (by
      rw [List.length_map]
      have := List.length_filter_le (fun i => !rise lt d xs i) (List.range (xs.length - 1))
      rw [List.length_range] at this
      omega)
    simp only [aCons_ap, eLc_ap, iA_ap, eC_ap, eB_ap, eVar_ap, hv, aNil_ap, Res.bind_ok, bLen_tup, List.length_map, noexc_ok, rng_ok hl, lcS_its, hw, hlc, hnl, List.map_map]
    rfl
  · unfold rising
    rw [List.isEmpty_map, Bool.eq_iff_iff, List.isEmpty_iff, List.filter_eq_nil_iff, List.all_eq_true]
    simp
/-! ### cells, rising -/
theorem cells_enc {ts : List D} (h : ts.all cellB = true) : ts = (ts.map unP).map encP := by
  rw [List.map_map]
  conv => lhs; rw [← List.map_id ts]
  refine List.map_congr_left fun t ht => ?_
  exact cellB_enc (List.all_eq_true.mp h t ht)
def cellsB : D → Bool | .tup ts => ts.all cellB && rising ltC (0, 0) (ts.map unP) | _ => false
theorem R_cells {n w : Nat} {d : D} (h : vok n w d = true) (hw : w ≤ 1000000) : R_are_cells [d] m = .ok (.bl (cellsB d)) m := by
  have ht := vok_vt h
  unfold R_are_cells fnR
  have es : startD 3 [d] = [some d, none, none] := rfl
  rw [es]
  cases d with
  | tup ts =>
    rw [vok_tup] at h
    have hlc : lcL (gN 1) tYesD (eCall R_is_cell (aCons (eVar 1) (aNil))) [some (.tup ts), none, none] ts m = .ok (ts.map fun x => .bl (cellB x)) m := by
      have := lcL_map (enc := id) (f := fun x => D.bl (cellB x)) (g := gN 1) (te := eCall R_is_cell (aCons (eVar 1) (aNil))) (σw := [some (.tup ts), none, none]) (m := m) (xs := ts) fun x hx => ⟨[some (.tup ts), some x, none], rfl, by
        simp [R_cell (m := m) (h.2.2 x hx) (by omega)]⟩
      simpa using this
    have hnl := newL_f (m := m) (xs := ts.map fun x => D.bl (cellB x)) (by rw [List.length_map]; omega)
    cases hc : ts.all cellB with
    | true =>
      have hr := rise_all (m := m) (d := ((0, 0) : Cell)) lt_P (xs := ts.map unP) (σ := [some (.tup ts), none, none]) (v := 0) (s := 2) (by rw [← cells_enc hc]; rfl) (by simp) (by decide) (by rw [List.length_map]; omega)
      unfold r_are_cells
      rw [sSeq_ap]
      have e1 : sIf (tOrD (tNotD (tE (eIsi "tuple" (eVar 0)))) (tNotD (tE (eB (bAllB false) (aCons (eLc false [1] (iE (eVar 0)) (gN 1) (tYesD) (eCall R_is_cell (aCons (eVar 1) (aNil)))) (aNil)))))) (sRet (eC (.bl false))) (sNil) [some (.tup ts), none, none] m = .nx [some (.tup ts), none, none] m := by
        simp [isTp, wipeD, hlc, hnl, bAll_map, hc]
      rw [e1, SRes.then_nx, sRet_ap, hr]
      simp [cellsB, hc]
    | false => simp [r_are_cells, isTp, wipeD, hlc, hnl, bAll_map, hc, cellsB]
  | ref _ => cases ht
  | adr _ => cases ht
  | scr _ => cases ht
  | _ => simp [r_are_cells, isi_tup ht, isTp, cellsB]
end
end K80
namespace K80
open PySem L2 PD
/-! ### a board -/
structure Brd (b : List Cell) : Prop where
  up : rising ltC (0, 0) b = true
  rng : ∀ c ∈ b, 0 ≤ c.1 ∧ c.1 ≤ 4 ∧ 0 ≤ c.2 ∧ c.2 ≤ 4
  len : b.length ≤ 20
theorem vok_enc (n w : Nat) (c : Cell) (hw : 2 ≤ w) : vok (n + 1) w (encP c) = true := by
  show vok (n + 1) w (.tup [.int c.1, .int c.2]) = true
  rw [vok_tup]
  refine ⟨by omega, by simpa using hw, fun x hx => ?_⟩
  simp only [List.mem_cons, List.not_mem_nil, or_false] at hx
  rcases hx with rfl | rfl <;> simp [vok]
theorem vok_bD (n w : Nat) (b : List Cell) (hw : 2 ≤ w) (hl : b.length ≤ w) : vok (n + 2) w (bD b) = true := by
  rw [vok_tup]
  refine ⟨by omega, by rw [List.length_map]; exact hl, fun x hx => ?_⟩
  obtain ⟨c, _, rfl⟩ := List.mem_map.mp hx
  exact vok_enc n w c hw
theorem map_un (b : List Cell) : (b.map encP).map unP = b := by
  rw [List.map_map]
  conv => rhs; rw [← List.map_id b]
  exact List.map_congr_left fun _ _ => rfl
theorem cellsB_bD (b : List Cell) : cellsB (bD b) = (b.all (fun c => decide (0 ≤ c.1 ∧ c.1 ≤ 20 ∧ 0 ≤ c.2 ∧ c.2 ≤ 20)) && rising ltC (0, 0) b) := by
  show ((b.map encP).all cellB && rising ltC (0, 0) ((b.map encP).map unP)) = _
  rw [map_un, List.all_map]; rfl
section
variable {m : Mem}
theorem R_isboard {b : List Cell} (B : Brd b) : R_is_board [bD b] m = .ok (.bl true) m := by
  have h1 : R_are_cells [bD b] m = .ok (.bl true) m := by
    rw [R_cells (m := m) (vok_bD 0 30 b (by decide) (by have := B.len; omega)) (by decide), cellsB_bD, B.up, List.all_eq_true.mpr fun c hc => decide_eq_true (by have := B.rng c hc; omega)]; rfl
  unfold R_is_board fnR
  have es : startD 1 [bD b] = [some (bD b)] := rfl
  rw [es]
  have : (b.length : Int) ≤ 40 := by have := B.len; omega
  simp [r_is_board, h1, this]
theorem R_board {b : List Cell} (B : Brd b) : R_check_board [bD b] m = .ok .non m := by
  have h2 := R_isboard (m := m) B
  unfold R_check_board fnR
  have es : startD 1 [bD b] = [some (bD b)] := rfl
  rw [es]
  simp [r_check_board, h2]
/-! ### sorting -/
theorem like_P (a b : Cell) : likeD (encP a) (encP b) = true := by
  show PySem.W.alike (.tuple [.int a.1, .int a.2]) (.tuple [.int b.1, .int b.2]) = true
  rfl
theorem like_T (a b : Tile) : likeD (tD a) (tD b) = true := by
  show PySem.W.alike (.tuple [.tuple [.int a.1.1, .int a.1.2], .tuple [.int a.2.1, .int a.2.2]]) (.tuple [.tuple [.int b.1.1, .int b.1.2], .tuple [.int b.2.1, .int b.2.2]]) = true
  rfl
theorem canSort_of {α : Type} {enc : α → D} (h1 : ∀ a, sh 60 (enc a) = true) (h2 : ∀ a b, likeD (enc a) (enc b) = true) (h3 : ∀ a, tupNE (enc a) = true) (xs : List α) : canSort (xs.map enc) = true := by
  unfold canSort
  rw [shs_map fun x _ => h1 x, List.all_map, List.all_map]
  have e1 : (xs.all ((fun x => (xs.map enc).all fun y => likeD x y) ∘ enc)) = true := List.all_eq_true.mpr fun x _ => by
    show (xs.map enc).all (fun y => likeD (enc x) y) = true
    rw [List.all_map]
    exact List.all_eq_true.mpr fun y _ => h2 x y
  have e2 : (xs.all (tupNE ∘ enc)) = true := List.all_eq_true.mpr fun x _ => h3 x
  rw [e1, e2]; rfl
theorem canSort_P (xs : List Cell) : canSort (xs.map encP) = true := canSort_of (encP_sh 59) like_P (fun _ => rfl) xs
theorem canSort_T (xs : List Tile) : canSort (xs.map tD) = true := canSort_of (tD_sh 58) like_T (fun _ => rfl) xs
def sortC (xs : List Cell) : List Cell := xs.mergeSort fun a b => leD (encP a) (encP b)
def sortT (xs : List Tile) : List Tile := xs.mergeSort fun a b => leD (tD a) (tD b)
theorem sortD_C (xs : List Cell) : sortD (xs.map encP) = (sortC xs).map encP := sortD_map xs
theorem sortD_T (xs : List Tile) : sortD (xs.map tD) = (sortT xs).map tD := sortD_map xs
theorem sortC_len (xs : List Cell) : (sortC xs).length = xs.length := List.length_mergeSort _
theorem sortT_len (xs : List Tile) : (sortT xs).length = xs.length := List.length_mergeSort _
theorem bSX_lst {xs : List D} (h : canSort xs = true) : bSortedX false [.lst xs] m = newL false (sortD xs) m := by
  show (match deref m (.lst xs) with | .lst xs => if canSort xs then newL false (sortD xs) m else .bad | _ => .bad) = _
  simp [h]
theorem bSX_ref {xs : List D} {q : Nat} (e : m[q]? = some (.lst xs)) (h : canSort xs = true) : bSortedX false [.ref q] m = newL false (sortD xs) m := by
  have e1 : dctM m (.ref q) = none := by unfold dctM; simp [e]
  unfold bSortedX
  simp only [e1]
  show (match deref m (.ref q) with | .lst xs => if canSort xs then newL false (sortD xs) m else .bad | _ => .bad) = _
  rw [deref_ref e]
  simp [h]
theorem bSX_dct {kvs : List (D × D)} {q : Nat} {lk : Bool} (e : m[q]? = some (.dct lk kvs)) (h : canSort (kvs.map (·.1)) = true) : bSortedX false [.ref q] m = newL false (sortD (kvs.map (·.1))) m := by
  unfold bSortedX
  simp only [dctM_ref e, h, if_true]
/-- a comprehension over a list of the memory that stays -/
theorem lcR_map {α : Type} {a : Nat} {g : GF} {te : EF} {σw : Sg} {enc : α → D} {f : α → D} {xs : List α} (e : m[a]? = some (.lst (xs.map enc))) (h : ∀ x ∈ xs, ∃ σ1, g (enc x) σw m = .nx σ1 m ∧ te σ1 m = .ok (f x) m) : ∀ (k i fuel : Nat), i + k = xs.length → k < fuel →
    lcR a g tYesD te σw fuel i m = .ok ((xs.drop i).map f) m
  | 0, i, fuel, hi, hf => by
    obtain ⟨fu, rfl⟩ : ∃ q, fuel = q + 1 := ⟨fuel - 1, by omega⟩
    unfold lcR
    have : (xs.map enc)[i]? = none := List.getElem?_eq_none (by rw [List.length_map]; omega)
    simp only [e, this]
    rw [List.drop_eq_nil_of_le (by omega)]; rfl
  | k + 1, i, fuel, hi, hf => by
    obtain ⟨fu, rfl⟩ : ∃ q, fuel = q + 1 := ⟨fuel - 1, by omega⟩
    have hlt : i < xs.length := by omega
    have ex : (xs.map enc)[i]? = some (enc xs[i]) := by rw [List.getElem?_map, List.getElem?_eq_getElem hlt]; rfl
    obtain ⟨σ1, h1, h2⟩ := h xs[i] (List.getElem_mem hlt)
    have ih := lcR_map e h k (i + 1) fu (by omega) (by omega)
    unfold lcR
    simp only [e, ex, h1, tYes_ap, Res.bind_ok, if_true, h2, ih]
    rw [List.drop_eq_getElem_cons hlt, List.map_cons]
theorem lcS_mem {α : Type} {a : Nat} {g : GF} {te : EF} {σw : Sg} {enc : α → D} {f : α → D} {xs : List α} (e : m[a]? = some (.lst (xs.map enc))) (hl : xs.length ≤ 1000000) (h : ∀ x ∈ xs, ∃ σ1, g (enc x) σw m = .nx σ1 m ∧ te σ1 m = .ok (f x) m) : lcS g tYesD te σw (.mem a) m = .ok (xs.map f) m := by
  have := lcR_map e h xs.length 0 FUEL (by omega) (by unfold FUEL; omega)
  rw [List.drop_zero] at this
  exact this
end
/-! ### what stays of the memory -/
def Keep (k : Nat) (M M' : Mem) : Prop := M.length ≤ M'.length ∧ ∀ i, i < k → M'[i]? = M[i]?
theorem Keep.refl (k : Nat) (M : Mem) : Keep k M M := ⟨Nat.le_refl _, fun _ _ => rfl⟩
theorem Keep.trans {k : Nat} {M M' M'' : Mem} (a : Keep k M M') (b : Keep k M' M'') : Keep k M M'' := ⟨Nat.le_trans a.1 b.1, fun i h => (b.2 i h).trans (a.2 i h)⟩
theorem Keep.push {k : Nat} {M : Mem} (h : k ≤ M.length) (more : Mem) : Keep k M (M ++ more) := ⟨by simp, fun i hi => by rw [List.getElem?_append_left (by omega)]⟩
theorem Keep.set {k n : Nat} {M : Mem} (h : k ≤ n) (o : MO) : Keep k M (M.set n o) := ⟨by simp, fun i hi => by rw [List.getElem?_set_ne (by omega)]⟩
theorem Keep.le {k j : Nat} {M M' : Mem} (a : Keep k M M') (h : j ≤ k) : Keep j M M' := ⟨a.1, fun i hi => a.2 i (by omega)⟩
theorem Keep.mm {k p q : Nat} {M : Mem} {mate : Mate} {met : List Cell} (h1 : k ≤ p) (h2 : k ≤ q) : Keep k M (MM M p q mate met) := (Keep.set h1 _).trans (Keep.set h2 _)
theorem Keep.box {k : Nat} {M M' : Mem} {xs : List Int} (K : Keep k M M') (hk : 0 < k) (B : BoxAt M 0 xs) : BoxAt M' 0 xs := by
  obtain ⟨h, nn, hl, a, b, c, e, ok⟩ := B
  exact ⟨Nat.lt_of_lt_of_le h K.1, nn, hl, a, b, c, by rw [K.2 0 hk]; exact e, ok⟩
end K80
namespace K80
open PySem L2 PD
/-! ### dominoes -/
def domC (b : List Cell) : List Cell → Mate → (List Cell × List Cell) ⊕ Mate
  | [], mate => .inr mate
  | c :: cs, mate => if (wid b 40 c mate []).1 then domC b cs (wid b 40 c mate []).2.1
    else .inl (c :: (wid b 40 c mate []).2.2.map (fun x => (look (wid b 40 c mate []).2.1 x).getD (0, 0)), (wid b 40 c mate []).2.2)
def colour (b : List Cell) (k : Int) : List Cell := b.filter fun c => decide ((c.1 + c.2) % 2 = k)
def minC (a b : Cell) : Cell := if leD (encP a) (encP b) then a else b
def maxC (a b : Cell) : Cell := if leD (encP b) (encP a) then a else b
def domR (b : List Cell) : Bool × D := match domC b (colour b 0) [] with
  | .inl p => (false, .tup [bD (sortC p.1), bD (sortC p.2)])
  | .inr _ => match domC b (colour b 1) [] with
    | .inl p => (false, .tup [bD (sortC p.1), bD (sortC p.2)])
    | .inr mate => (true, .tup ((sortT (mate.map fun p => (minC p.1 p.2, maxC p.1 p.2))).map tD))
theorem WI.clear {b : List Cell} {mate : Mate} {met : List Cell} (w : WI b mate met) : WI b mate [] := ⟨List.nodup_nil, (fun x h => by cases h), w.keys, w.ks, w.vs⟩
theorem WI.nil (b : List Cell) : WI b [] [] := ⟨List.nodup_nil, fun x h => (by cases h), List.nodup_nil, fun x h => (by cases h), fun x h => (by cases h)⟩
def bodyC : SF := sSeq (sSet 4 (eLst true (aNil))) (sIf (tNotD (tE (eCall (R_widened 40) (aCons (eVar 0) (aCons (eVar 3) (aCons (eVar 2) (aCons (eVar 4) (aNil)))))))) (sSeq (sSet 5 (eB (bSortedX false) (aCons (eOp (opAddX false) (eLst false (aCons (eVar 3) (aNil))) (eLc false [6] (iE (eVar 4)) (gN 6) (tYesD) (eDix (eVar 2) (eVar 6)))) (aNil)))) (sRet (eTup (aCons (eC (.bl false)) (aCons (eTup (aCons (eB bTuple (aCons (eVar 5) (aNil))) (aCons (eB bTuple (aCons (eB (bSortedX false) (aCons (eVar 4) (aNil))) (aNil))) (aNil)))) (aNil)))))) (sNil))
theorem opAddX_lst (nw : Bool) (xs ys : List D) (m : Mem) : opAddX nw (.lst xs) (.lst ys) m = newL nw (xs ++ ys) m := rfl
section
variable {b : List Cell} (hb : b.length ≤ 30) {p k : Nat} {col t5 t6 t7 t8 : Option D}
include hb
theorem dom_cells (hk : k ≤ p) (hk0 : 0 < k) : ∀ (cs : List Cell) (mate : Mate) (M : Mem) (t3 t4 : Option D), (∀ c ∈ cs, c ∈ b) → WI b mate [] → p < M.length → M[p]? = some (.dct false (mD encP mate)) →
    match domC b cs mate with
    | .inl r => ∃ M', forL (gN 3) bodyC (cs.map encP) [some (bD b), col, some (.ref p), t3, t4, t5, t6, t7, t8] M = .rt (.tup [.bl false, .tup [bD (sortC r.1), bD (sortC r.2)]]) M' ∧ Keep k M M' ∧ r.1.length ≤ 60 ∧ r.2.length ≤ 60
    | .inr mate' => ∃ M' t3' t4', forL (gN 3) bodyC (cs.map encP) [some (bD b), col, some (.ref p), t3, t4, t5, t6, t7, t8] M = .nx [some (bD b), col, some (.ref p), t3', t4', t5, t6, t7, t8] M' ∧ Keep k M M' ∧ M'[p]? = some (.dct false (mD encP mate')) ∧ WI b mate' []
  | [], mate, M, t3, t4, _, w, hp, e => ⟨M, t3, t4, rfl, Keep.refl _ _, e, w⟩
  | c :: cs, mate, M, t3, t4, hs, w, hp, e => by
    have hc := hs c List.mem_cons_self
    have hs' : ∀ x ∈ cs, x ∈ b := fun y hy => hs y (List.mem_cons_of_mem _ hy)
    have hstep : forL (gN 3) bodyC ((c :: cs).map encP) [some (bD b), col, some (.ref p), t3, t4, t5, t6, t7, t8] M = turnK (bodyC [some (bD b), col, some (.ref p), some (encP c), t4, t5, t6, t7, t8] M) (forL (gN 3) bodyC (cs.map encP)) := by
      rw [List.map_cons, forL_step (σ1 := [some (bD b), col, some (.ref p), some (encP c), t4, t5, t6, t7, t8]) (m1 := M) rfl]
    let M1 : Mem := M ++ [.lst []]
    have hp1 : p < M1.length := by show p < (M ++ [_]).length; simp; omega
    have hq1 : M.length < M1.length := by show M.length < (M ++ [_]).length; simp
    have pq : p ≠ M.length := by omega
    have hM1 : M1 = MM M1 p M.length mate [] := by
      unfold MM
      have e1 : M1[p]? = some (.dct false (mD encP mate)) := by show (M ++ [_])[p]? = _; rw [List.getElem?_append_left hp]; exact e
      have e2 : M1.set p (.dct false (mD encP mate)) = M1 := by
        obtain ⟨h, e'⟩ := List.getElem?_eq_some_iff.mp e1
        rw [← e']
        exact List.set_getElem_self h
      rw [e2]
      have e3 : M1[M.length]? = some (.lst []) := by show (M ++ [_])[M.length]? = _; rw [List.getElem?_append_right (Nat.le_refl _), Nat.sub_self]; rfl
      obtain ⟨h, e'⟩ := List.getElem?_eq_some_iff.mp e3
      rw [List.map_nil, ← e']
      exact (List.set_getElem_self h).symm
    have hw := wid_ev hp1 hq1 pq (by omega : b.length ≤ 1000) 40 c mate [] hc w (by simp; omega)
    have hwp := wid_ok 40 c mate [] hc w
    rw [← hM1] at hw
    have kp : Keep k M (MM M1 p M.length (wid b 40 c mate []).2.1 (wid b 40 c mate []).2.2) := (Keep.push (by omega) [.lst []]).trans (Keep.mm hk (by omega))
    have hn0 := newL_t (m := M) (xs := []) (by simp)
    rw [hstep]
    unfold domC
    cases hr : (wid b 40 c mate []).1 with
    | true =>
      rw [hr] at hw
      rw [if_pos rfl]
      have eb : bodyC [some (bD b), col, some (.ref p), some (encP c), t4, t5, t6, t7, t8] M = .nx [some (bD b), col, some (.ref p), some (encP c), some (.ref M.length), t5, t6, t7, t8] (MM M1 p M.length (wid b 40 c mate []).2.1 (wid b 40 c mate []).2.2) := by
        unfold bodyC
        simp [hn0]
        rw [show M ++ [MO.lst []] = M1 from rfl, hw]
        simp
      rw [eb, turnK_nx]
      have hp2 : p < (MM M1 p M.length (wid b 40 c mate []).2.1 (wid b 40 c mate []).2.2).length := by unfold MM; simp; omega
      have ih := dom_cells hk hk0 cs (wid b 40 c mate []).2.1 (MM M1 p M.length (wid b 40 c mate []).2.1 (wid b 40 c mate []).2.2) (some (encP c)) (some (.ref M.length)) hs' hwp.inv.clear hp2 (MM_p hp1 pq)
      cases ed : domC b cs (wid b 40 c mate []).2.1 with
      | inl r =>
        rw [ed] at ih
        obtain ⟨M', h1, h2, h3⟩ := ih
        exact ⟨M', h1, kp.trans h2, h3⟩
      | inr mate' =>
        rw [ed] at ih
        obtain ⟨M', t3', t4', h1, h2, h3⟩ := ih
        exact ⟨M', t3', t4', h1, kp.trans h2, h3⟩
    | false =>
      rw [hr] at hw
      rw [if_neg Bool.false_ne_true]
      obtain ⟨more, em, hff⟩ := hwp.pre
      obtain ⟨em2, hkk⟩ := hff hr
      rw [List.nil_append] at em
      have hml : (wid b 40 c mate []).2.2.length ≤ 30 := by
        have := nodup_len hwp.inv.nd hwp.inv.sub
        omega
      generalize hMM : MM M1 p M.length (wid b 40 c mate []).2.1 (wid b 40 c mate []).2.2 = M2 at hw kp
      have eq2 : M2[M.length]? = some (.lst ((wid b 40 c mate []).2.2.map encP)) := by rw [← hMM]; exact MM_q hq1
      have ep2 : M2[p]? = some (.dct false (mD encP (wid b 40 c mate []).2.1)) := by rw [← hMM]; exact MM_p hp1 pq
      have hlc : lcS (gN 6) tYesD (eDix (eVar 2) (eVar 6)) [some (bD b), col, some (.ref p), some (encP c), some (.ref M.length), t5, none, t7, t8] (.mem M.length) M2 = .ok ((wid b 40 c mate []).2.2.map fun x => encP ((look (wid b 40 c mate []).2.1 x).getD (0, 0))) M2 := by
        refine lcS_mem eq2 (by omega) fun x hx => ⟨[some (bD b), col, some (.ref p), some (encP c), some (.ref M.length), t5, some (encP x), t7, t8], rfl, ?_⟩
        rw [em] at hx
        have hsm := look_some (hkk x hx)
        rw [← em2] at hsm
        obtain ⟨y, hy⟩ := Option.isSome_iff_exists.mp hsm
        have := opDix_of (m := M2) (keyT_P x) ep2 (d := encP y) (by rw [dFind_mD, hy]; rfl)
        simp [this, hy]
      have hsrc : srcOf (.ref M.length) M2 = .ok (.mem M.length) M2 := by
        unfold srcOf
        simp [eq2]
      generalize hR2 : (wid b 40 c mate []).2.2.map (fun x => (look (wid b 40 c mate []).2.1 x).getD (0, 0)) = r1 at *
      have hr1 : r1.length ≤ 30 := by rw [← hR2, List.length_map]; exact hml
      have e4 : ((wid b 40 c mate []).2.2.map fun x => encP ((look (wid b 40 c mate []).2.1 x).getD (0, 0))) = r1.map encP := by rw [← hR2, List.map_map]; rfl
      rw [e4] at hlc
      have n1 := newL_f (m := M2) (xs := r1.map encP) (by rw [List.length_map]; omega)
      have n2 := newL_f (m := M2) (xs := [encP c]) (by simp)
      have n3 := newL_f (m := M2) (xs := [encP c] ++ r1.map encP) (by simp; omega)
      have e5 : [encP c] ++ r1.map encP = (c :: r1).map encP := rfl
      have s1 : bSortedX false [.lst ((c :: r1).map encP)] M2 = .ok (.lst ((sortC (c :: r1)).map encP)) M2 := by
        rw [bSX_lst (canSort_P _), sortD_C]
        exact newL_f (by rw [List.length_map, sortC_len, List.length_cons]; omega)
      have s2 : bSortedX false [.ref M.length] M2 = .ok (.lst ((sortC (wid b 40 c mate []).2.2).map encP)) M2 := by
        rw [bSX_ref eq2 (canSort_P _), sortD_C]
        exact newL_f (by rw [List.length_map, sortC_len]; omega)
      have b1 := bTuple_lst (m := M2) (xs := (sortC (c :: r1)).map encP) (by rw [List.length_map, sortC_len, List.length_cons]; omega)
      have b2 := bTuple_lst (m := M2) (xs := (sortC (wid b 40 c mate []).2.2).map encP) (by rw [List.length_map, sortC_len]; omega)
      have eb : bodyC [some (bD b), col, some (.ref p), some (encP c), t4, t5, t6, t7, t8] M = .rt (.tup [.bl false, .tup [bD (sortC (c :: r1)), bD (sortC (wid b 40 c mate []).2.2)]]) M2 := by
        unfold bodyC
        simp [hn0]
        rw [show M ++ [MO.lst []] = M1 from rfl, hw]
        simp [n2, hsrc, wipeD, hlc, n1, opAddX_lst]
        rw [show encP c :: r1.map encP = [encP c] ++ r1.map encP from rfl, n3]
        simp only [noexc_ok, Res.bind_ok, e5, s1]
        simp [b1, s2, b2]
      rw [eb, turnK_rt]
      exact ⟨M2, rfl, kp, by rw [List.length_cons]; omega, Nat.le_trans hml (by decide)⟩
end
end K80
namespace K80
open PySem L2 PD
section
variable {m : Mem}
theorem pairOk_P (a b : Cell) : pairOk (encP a) (encP b) = true := by
  unfold pairOk
  have h1 : shs 60 [encP a, encP b] = true := by rw [shs_cons, shs_cons, encP_sh 59, encP_sh 59]; simp
  rw [h1]
  simp [isTp, encP]
  refine ⟨⟨?_, ?_⟩, ?_, ?_⟩
  · exact like_P a a
  · exact like_P a b
  · exact like_P b a
  · exact like_P b b
theorem bMin_P (a b : Cell) : bMinX [encP a, encP b] m = .ok (encP (minC a b)) m := by
  show (if pairOk (encP a) (encP b) then Res.ok (if leD (encP a) (encP b) then encP a else encP b) m else bMin [encP a, encP b] m) = _
  rw [pairOk_P, if_pos rfl]
  unfold minC
  split <;> rfl
theorem bMax_P (a b : Cell) : bMaxX [encP a, encP b] m = .ok (encP (maxC a b)) m := by
  show (if pairOk (encP a) (encP b) then Res.ok (if leD (encP b) (encP a) then encP a else encP b) m else bMax [encP a, encP b] m) = _
  rw [pairOk_P, if_pos rfl]
  unfold maxC
  split <;> rfl
end
def retT : SF := sRet (eTup (aCons (eC (.bl true)) (aCons (eB bTuple (aCons (eB (bSortedX false) (aCons (eLock 2 (eLc false [7, 8] (iDi (eVar 2)) (gT 2 (gsCons (gN 7) (gsCons (gN 8) (gsNil)))) (tYesD) (eTup (aCons (eB bMinX (aCons (eVar 7) (aCons (eVar 8) (aNil)))) (aCons (eB bMaxX (aCons (eVar 7) (aCons (eVar 8) (aNil)))) (aNil)))))) (aNil))) (aNil))) (aNil))))
def bodyD : SF := sSeq (sSet 2 (eDnew)) (sSeq (sFor (iE (eLc false [6] (iE (eVar 0)) (gN 6) (tCmp opEq (eOp opMod (eOp (opAddX false) (eIx (eVar 6) (eC (.int 0))) (eIx (eVar 6) (eC (.int 1)))) (eC (.int 2))) (eVar 1)) (eVar 6))) (gN 3) bodyC) (sIf (tCmp opEq (eVar 1) (eC (.int 1))) retT (sNil)))
def tilesOf (mate : Mate) : List Tile := mate.map fun p => (minC p.1 p.2, maxC p.1 p.2)
theorem retT_ev {M : Mem} {p : Nat} {mate : Mate} {d0 d1 t3 t4 t5 t6 t7 t8 : Option D} (e : M[p]? = some (.dct false (mD encP mate))) (hl : mate.length ≤ 1000) :
    retT [d0, d1, some (.ref p), t3, t4, t5, t6, t7, t8] M = .rt (.tup [.bl true, .tup ((sortT (tilesOf mate)).map tD)]) M := by
  have hp := (List.getElem?_eq_some_iff.mp e).1
  have hlk : (M.set p (.dct true (mD encP mate)))[p]? = some (.dct true (mD encP mate)) := List.getElem?_set_self hp
  have hlc : lcL (gT 2 (gsCons (gN 7) (gsCons (gN 8) (gsNil)))) tYesD (eTup (aCons (eB bMinX (aCons (eVar 7) (aCons (eVar 8) (aNil)))) (aCons (eB bMaxX (aCons (eVar 7) (aCons (eVar 8) (aNil)))) (aNil)))) [d0, d1, some (.ref p), t3, t4, t5, t6, none, none]
      (mate.map fun q => D.tup [encP q.1, encP q.2]) (M.set p (.dct true (mD encP mate))) = .ok (mate.map fun q => tD (minC q.1 q.2, maxC q.1 q.2)) (M.set p (.dct true (mD encP mate))) :=
    lcL_map fun q _ => ⟨[d0, d1, some (.ref p), t3, t4, t5, t6, some (encP q.1), some (encP q.2)], rfl, by
      simp [bMin_P, bMax_P]
      rfl⟩
  have e1 : (mate.map fun q => tD (minC q.1 q.2, maxC q.1 q.2)) = (tilesOf mate).map tD := by unfold tilesOf; rw [List.map_map]; rfl
  rw [e1] at hlc
  have hn : (tilesOf mate).length ≤ 1000 := by unfold tilesOf; rw [List.length_map]; exact hl
  have n1 := newL_f (m := M.set p (.dct true (mD encP mate))) (xs := (tilesOf mate).map tD) (by rw [List.length_map]; omega)
  have back : (M.set p (.dct true (mD encP mate))).set p (.dct false (mD encP mate)) = M := by
    rw [List.set_set]
    obtain ⟨h, e'⟩ := List.getElem?_eq_some_iff.mp e
    rw [← e']
    exact List.set_getElem_self h
  have hits : (mD encP mate).map (fun p => D.tup [p.1, p.2]) = mate.map fun q => D.tup [encP q.1, encP q.2] := by unfold mD; rw [List.map_map]; rfl
  have s1 : bSortedX false [.lst ((tilesOf mate).map tD)] M = .ok (.lst ((sortT (tilesOf mate)).map tD)) M := by
    rw [bSX_lst (canSort_T _), sortD_T]
    exact newL_f (by rw [List.length_map, sortT_len]; omega)
  have b1 := bTuple_lst (m := M) (xs := (sortT (tilesOf mate)).map tD) (by rw [List.length_map, sortT_len]; omega)
  have hlock : (eLock 2 (eLc false [7, 8] (iDi (eVar 2)) (gT 2 (gsCons (gN 7) (gsCons (gN 8) (gsNil)))) (tYesD) (eTup (aCons (eB bMinX (aCons (eVar 7) (aCons (eVar 8) (aNil)))) (aCons (eB bMaxX (aCons (eVar 7) (aCons (eVar 8) (aNil)))) (aNil)))))) [d0, d1, some (.ref p), t3, t4, t5, t6, t7, t8] M = .ok (.lst ((tilesOf mate).map tD)) M := by
    rw [eLock_ap]
    simp only [List.getElem?_cons_succ, List.getElem?_cons_zero, e]
    rw [eLc_ap, iDi_ap, eVar_ap]
    simp only [List.getElem?_cons_succ, List.getElem?_cons_zero, Res.bind_ok, hlk, hits, lcS_its]
    have hw : wipeD [d0, d1, some (.ref p), t3, t4, t5, t6, t7, t8] [7, 8] = [d0, d1, some (.ref p), t3, t4, t5, t6, none, none] := rfl
    rw [hw, hlc]
    simp only [noexc_ok, Res.bind_ok, n1]
    unfold unlockR
    simp only [hlk, back]
  unfold retT
  rw [sRet_ap, eTup_ap, aCons_ap, eC_ap, Res.bind_ok, aCons_ap, eB_ap, aCons_ap, eB_ap, aCons_ap, hlock]
  simp [s1, b1]
theorem colour_lc {b : List Cell} {k : Int} {m : Mem} {t2 t3 t4 t5 t7 t8 : Option D} : lcL (gN 6) (tCmp opEq (eOp opMod (eOp (opAddX false) (eIx (eVar 6) (eC (.int 0))) (eIx (eVar 6) (eC (.int 1)))) (eC (.int 2))) (eVar 1)) (eVar 6) [some (bD b), some (.int k), t2, t3, t4, t5, none, t7, t8] (b.map encP) m = .ok ((colour b k).map encP) m := by
  refine lcL_filter fun c _ => ⟨[some (bD b), some (.int k), t2, t3, t4, t5, some (encP c), t7, t8], rfl, ?_, fun _ => rfl⟩
  have i0 : opIx (encP c) (.int 0) m = .ok (.int c.1) m := ix_tup_nat (i := 0) rfl
  have i1 : opIx (encP c) (.int 1) m = .ok (.int c.2) m := ix_tup_nat (i := 1) rfl
  have hf : fmodD (c.1 + c.2) 2 = (c.1 + c.2) % 2 := fmodD_pos (by decide)
  simp [i0, i1, hf]
theorem bodyD_ev {b : List Cell} (hb : b.length ≤ 30) {k : Int} {M : Mem} (hM : 0 < M.length) (t2 t3 t4 t5 t6 t7 t8 : Option D) :
    match domC b (colour b k) [] with
    | .inl r => ∃ M', bodyD [some (bD b), some (.int k), t2, t3, t4, t5, t6, t7, t8] M = .rt (.tup [.bl false, .tup [bD (sortC r.1), bD (sortC r.2)]]) M' ∧ Keep M.length M M' ∧ r.1.length ≤ 60 ∧ r.2.length ≤ 60
    | .inr mate => ∃ M' u2 u3 u4, bodyD [some (bD b), some (.int k), t2, t3, t4, t5, t6, t7, t8] M = (if k = 1 then .rt (.tup [.bl true, .tup ((sortT (tilesOf mate)).map tD)]) M' else .nx [some (bD b), some (.int k), u2, u3, u4, t5, t6, t7, t8] M') ∧ Keep M.length M M' ∧ mate.length ≤ 30 := by
  have kp0 : Keep M.length M (M ++ [.dct false []]) := Keep.push (Nat.le_refl _) _
  have h0 := dom_cells hb (p := M.length) (k := M.length) (col := some (.int k)) (t5 := t5) (t6 := t6) (t7 := t7) (t8 := t8) (Nat.le_refl _) hM (colour b k) [] (M ++ [.dct false []]) t3 t4 (fun c hc => (List.mem_filter.mp hc).1) (WI.nil b) (by simp) (by rw [List.getElem?_append_right (Nat.le_refl _), Nat.sub_self]; rfl)
  have n1 := newL_f (m := M ++ [.dct false []]) (xs := (colour b k).map encP) (by
    rw [List.length_map]
    have := List.length_filter_le (fun c : Cell => decide ((c.1 + c.2) % 2 = k)) b
    unfold colour
    omega)
  have hi : iE (eLc false [6] (iE (eVar 0)) (gN 6) (tCmp opEq (eOp opMod (eOp (opAddX false) (eIx (eVar 6) (eC (.int 0))) (eIx (eVar 6) (eC (.int 1)))) (eC (.int 2))) (eVar 1)) (eVar 6)) [some (bD b), some (.int k), some (.ref M.length), t3, t4, t5, t6, t7, t8] (M ++ [.dct false []]) = .ok (.its ((colour b k).map encP)) (M ++ [.dct false []]) := by
    rw [iE_ap, eLc_ap, iE_ap, eVar_ap]
    simp only [List.getElem?_cons_zero, Res.bind_ok]
    have hs : srcOf (bD b) (M ++ [.dct false []]) = .ok (.its (b.map encP)) (M ++ [.dct false []]) := rfl
    have hw : wipeD [some (bD b), some (D.int k), some (.ref M.length), t3, t4, t5, t6, t7, t8] [6] = [some (bD b), some (.int k), some (.ref M.length), t3, t4, t5, none, t7, t8] := rfl
    rw [hs, Res.bind_ok, hw, lcS_its, colour_lc]
    simp only [noexc_ok, Res.bind_ok, n1]
    rfl
  have hfor : ∀ (r : SRes), forL (gN 3) bodyC ((colour b k).map encP) [some (bD b), some (.int k), some (.ref M.length), t3, t4, t5, t6, t7, t8] (M ++ [.dct false []]) = r →
      bodyD [some (bD b), some (.int k), t2, t3, t4, t5, t6, t7, t8] M = r.then (sIf (tCmp opEq (eVar 1) (eC (.int 1))) retT (sNil)) := fun r hr => by
    unfold bodyD
    rw [sSeq_ap, sSet_ap, eDnew_ap, Res.st_ok]
    simp only [List.set_cons_succ, List.set_cons_zero, SRes.then_nx]
    rw [sSeq_ap, sFor_ap, hi, Res.st_ok, forS_its, hr]
  cases ed : domC b (colour b k) [] with
  | inl r =>
    rw [ed] at h0
    obtain ⟨M', h1, h2, h3⟩ := h0
    exact ⟨M', by rw [hfor _ h1]; rfl, kp0.trans h2, h3⟩
  | inr mate =>
    rw [ed] at h0
    obtain ⟨M', t3', t4', h1, h2, h3, w⟩ := h0
    have hml : mate.length ≤ 30 := by
      have := nodup_len w.keys fun k hk => by
        obtain ⟨z, hz, rfl⟩ := List.mem_map.mp hk
        exact w.ks z hz
      rw [List.length_map] at this
      omega
    refine ⟨M', some (.ref M.length), t3', t4', ?_, kp0.trans h2, hml⟩
    rw [hfor _ h1, SRes.then_nx, sIf_ap, tCmp_ap, eVar_ap]
    simp only [eC_ap, List.getElem?_cons_succ, List.getElem?_cons_zero, Res.bind_ok, opEq_int, noexc_ok, asB_ap, Res.st_ok]
    by_cases hk : k = 1
    · simp only [hk, decide_true, if_true]
      exact retT_ev h3 (by omega)
    · simp only [hk, decide_false, if_false, Bool.false_eq_true]
      rfl
theorem vok_tiles (n w : Nat) (ts : List Tile) (hw : 2 ≤ w) (hl : ts.length ≤ w) : vok (n + 3) w (.tup (ts.map tD)) = true := by
  rw [vok_tup]
  refine ⟨by omega, by rw [List.length_map]; exact hl, fun x hx => ?_⟩
  obtain ⟨t, _, rfl⟩ := List.mem_map.mp hx
  show vok (n + 2) w (.tup [encP t.1, encP t.2]) = true
  rw [vok_tup]
  refine ⟨by omega, by simpa using hw, fun x hx => ?_⟩
  simp only [List.mem_cons, List.not_mem_nil, or_false] at hx
  rcases hx with rfl | rfl <;> exact vok_enc n w _ hw
theorem vok_two (n w : Nat) (a b : List Cell) (hw : 2 ≤ w) (ha : a.length ≤ w) (hb : b.length ≤ w) : vok (n + 3) w (.tup [bD a, bD b]) = true := by
  rw [vok_tup]
  refine ⟨by omega, by simpa using hw, fun x hx => ?_⟩
  simp only [List.mem_cons, List.not_mem_nil, or_false] at hx
  rcases hx with rfl | rfl
  · exact vok_bD n w a hw ha
  · exact vok_bD n w b hw hb
/-- what dominoes tells -/
theorem R_dom {b : List Cell} (hb : b.length ≤ 30) {M : Mem} (hM : 0 < M.length) (hcb : ∀ m, R_check_board [bD b] m = .ok .non m) : ∃ M', R_dominoes [bD b] M = .ok (.tup [.bl (domR b).1, (domR b).2]) M' ∧ Keep M.length M M' ∧ vok 3 60 (domR b).2 = true := by
  unfold R_dominoes fnR
  have es : startD 9 [bD b] = [some (bD b), none, none, none, none, none, none, none, none] := rfl
  rw [es]
  have eb : r_dominoes R_check_board (R_widened 40) = sSeq (sExpr (eCall R_check_board (aCons (eVar 0) (aNil)))) (sFor (iE (eTup (aCons (eC (.int 0)) (aCons (eC (.int 1)) (aNil))))) (gN 1) bodyD) := rfl
  rw [eb, sSeq_ap, sExpr_ap, eCall_ap, aCons_ap, eVar_ap]
  simp only [List.getElem?_cons_zero, Res.bind_ok, aNil_ap, hcb, Res.st_ok, SRes.then_nx]
  have hi : iE (eTup (aCons (eC (.int 0)) (aCons (eC (.int 1)) (aNil)))) [some (bD b), none, none, none, none, none, none, none, none] M = .ok (.its [.int 0, .int 1]) M := rfl
  rw [sFor_ap, hi, Res.st_ok, forS_its, forL_step (σ1 := [some (bD b), some (.int 0), none, none, none, none, none, none, none]) (m1 := M) rfl]
  have h0 := bodyD_ev hb (k := 0) hM none none none none none none none
  unfold domR
  cases e0 : domC b (colour b 0) [] with
  | inl r =>
    rw [e0] at h0
    obtain ⟨M', h1, h2, h3⟩ := h0
    rw [h1, turnK_rt]
    exact ⟨M', rfl, h2, vok_two 0 60 _ _ (by decide) (by rw [sortC_len]; exact h3.1) (by rw [sortC_len]; exact h3.2)⟩
  | inr mate =>
    rw [e0] at h0
    obtain ⟨M1, u2, u3, u4, h1, h2, h3⟩ := h0
    rw [h1, if_neg (by decide), turnK_nx, forL_step (σ1 := [some (bD b), some (.int 1), u2, u3, u4, none, none, none, none]) (m1 := M1) rfl]
    have hM1 : 0 < M1.length := Nat.lt_of_lt_of_le hM h2.1
    have h4 := bodyD_ev hb (k := 1) hM1 u2 u3 u4 none none none none
    cases e1 : domC b (colour b 1) [] with
    | inl r =>
      rw [e1] at h4
      obtain ⟨M', h5, h6, h7⟩ := h4
      rw [h5, turnK_rt]
      exact ⟨M', rfl, h2.trans (h6.le h2.1), vok_two 0 60 _ _ (by decide) (by rw [sortC_len]; exact h7.1) (by rw [sortC_len]; exact h7.2)⟩
    | inr mate1 =>
      rw [e1] at h4
      obtain ⟨M', v2, v3, v4, h5, h6, h7⟩ := h4
      rw [h5, if_pos rfl, turnK_rt]
      exact ⟨M', rfl, h2.trans (h6.le h2.1), vok_tiles 0 60 _ (by decide) (by rw [sortT_len]; unfold tilesOf at *; rw [List.length_map]; omega)⟩
end K80
namespace K80
open PySem L2 PD
/-! ### tiles, by the judge -/
def tileOk (t : Tile) : Bool := ltC t.1 t.2 && decide (absI (t.1.1 - t.2.1) + absI (t.1.2 - t.2.2) = 1)
def tileB : D → Bool | .tup [p, q] => cellB p && cellB q && tileOk (unP p, unP q) | _ => false
def unT : D → Tile | .tup [p, q] => (unP p, unP q) | _ => ((0, 0), (0, 0))
theorem tileB_enc {d : D} (h : tileB d = true) : d = tD (unT d) := by
  unfold tileB at h
  split at h
  · rename_i p q
    rw [Bool.and_eq_true, Bool.and_eq_true] at h
    show D.tup [p, q] = .tup [encP (unP p), encP (unP q)]
    rw [← cellB_enc h.1.1, ← cellB_enc h.1.2]
  · cases h
theorem tiles_enc {ts : List D} (h : ts.all tileB = true) : ts = (ts.map unT).map tD := by
  rw [List.map_map]
  conv => lhs; rw [← List.map_id ts]
  refine List.map_congr_left fun t ht => ?_
  exact tileB_enc (List.all_eq_true.mp h t ht)
def flatT (ts : List Tile) : List Cell := ts.flatMap fun t => [t.1, t.2]
theorem flatT_len (ts : List Tile) : (flatT ts).length = 2 * ts.length := by
  induction ts with
  | nil => rfl
  | cons t r ih =>
    have : flatT (t :: r) = t.1 :: t.2 :: flatT r := rfl
    rw [this, List.length_cons, List.length_cons, ih, List.length_cons]; omega
def J1 (b : List Cell) : D → Bool
  | .tup ts => ts.all tileB && (rising ltT ((0, 0), (0, 0)) (ts.map unT) && decide (sortC (flatT (ts.map unT)) = b))
  | _ => false
def bodyT : SF := sSeq (sIf (tOrD (tNotD (tE (eIsi "tuple" (eVar 3)))) (tOrD (tCmp opNe (eB bLen (aCons (eVar 3) (aNil))) (eC (.int 2))) (tOrD (tNotD (tE (eCall R_is_cell (aCons (eIx (eVar 3) (eC (.int 0))) (aNil))))) (tNotD (tE (eCall R_is_cell (aCons (eIx (eVar 3) (eC (.int 1))) (aNil)))))))) (sRet (eC (.bl false))) (sNil)) (sSeq (sIf (tOrD (tCmp (opOrd .GtE) (eIx (eVar 3) (eC (.int 0))) (eIx (eVar 3) (eC (.int 1)))) (tCmp opNe (eOp (opAddX false) (eB bAbs (aCons (eOp opSub (eIx (eIx (eVar 3) (eC (.int 0))) (eC (.int 0))) (eIx (eIx (eVar 3) (eC (.int 1))) (eC (.int 0)))) (aNil))) (eB bAbs (aCons (eOp opSub (eIx (eIx (eVar 3) (eC (.int 0))) (eC (.int 1))) (eIx (eIx (eVar 3) (eC (.int 1))) (eC (.int 1)))) (aNil)))) (eC (.int 1)))) (sRet (eC (.bl false))) (sNil)) (sExpr (eM mExtendX (eVar 2) (aCons (eVar 3) (aNil)))))
section
variable {m : Mem}
theorem ixP0 (c : Cell) : opIx (encP c) (.int 0) m = .ok (.int c.1) m := ix_tup_nat (i := 0) rfl
theorem ixP1 (c : Cell) : opIx (encP c) (.int 1) m = .ok (.int c.2) m := ix_tup_nat (i := 1) rfl
theorem ext_two {q : Nat} {xs : List D} {x y : D} (e : m[q]? = some (.lst xs)) (hl : xs.length ≤ 10000000) : mExtendX (.ref q) [.tup [x, y]] m = .ok .non (m.set q (.lst (xs ++ [x, y]))) := by
  show (match m[q]? with | some (.lst xs) => if lenOk (xs.length + [x, y].length) then Res.ok D.non (m.set q (.lst (xs ++ [x, y]))) else .bad | _ => .bad) = _
  have : lenOk (xs.length + [x, y].length) = true := decide_eq_true (by simp; omega)
  simp only [e, this, if_true]
end
theorem bodyT_ev {n w : Nat} {t x0 x1 t4 : D} {s0 s1 s4 : Option D} {M : Mem} {q : Nat} {acc : List Cell} (h : vok n w t = true) (hw : w ≤ 1000000) (e : M[q]? = some (.lst (acc.map encP))) (hl : acc.length ≤ 10000000) :
    bodyT [s0, s1, some (.ref q), some t, s4] M = if tileB t then .nx [s0, s1, some (.ref q), some t, s4] (M.set q (.lst ((acc ++ [(unT t).1, (unT t).2]).map encP))) else .rt (.bl false) M := by
  have ht := vok_vt h
  have hls : isLs M (.ref q) = true := isLs_ref e
  cases t with
  | tup xs =>
    rw [vok_tup] at h
    by_cases h2 : xs.length = 2
    · obtain ⟨p, r, rfl⟩ : ∃ p r, xs = [p, r] := by
        match xs, h2 with
        | [p, r], _ => exact ⟨p, r, rfl⟩
      have hp := h.2.2 p (by simp)
      have hr := h.2.2 r (by simp)
      have c1 := R_cell (m := M) hp (by omega)
      have c2 := R_cell (m := M) hr (by omega)
      cases e1 : cellB p with
      | false =>
        rw [e1] at c1
        have : tileB (.tup [p, r]) = false := by simp [tileB, e1]
        rw [this]
        unfold bodyT
        simp [isTp, c1]
      | true =>
        rw [e1] at c1
        cases e2 : cellB r with
        | false =>
          rw [e2] at c2
          have : tileB (.tup [p, r]) = false := by simp [tileB, e2]
          rw [this]
          unfold bodyT
          simp [isTp, c1, c2]
        | true =>
          rw [e2] at c2
          have q1 := cellB_enc e1
          have q2 := cellB_enc e2
          have et : tileB (.tup [p, r]) = tileOk (unP p, unP r) := by simp [tileB, e1, e2]
          have eu : unT (.tup [p, r]) = (unP p, unP r) := rfl
          rw [et, eu]
          generalize unP p = a at q1 q2 ⊢
          generalize unP r = c at q1 q2 ⊢
          subst q1 q2
          have x2 := ext_two (x := encP a) (y := encP c) e (by rw [List.length_map]; exact hl)
          have e3 : acc.map encP ++ [encP a, encP c] = (acc ++ [a, c]).map encP := by rw [List.map_append]; rfl
          rw [e3] at x2
          unfold tileOk
          cases hlt : ltC a c with
          | false =>
            unfold bodyT
            simp [isTp, c1, c2, ge_P, hlt]
          | true =>
            by_cases ha : absI (a.1 - c.1) + absI (a.2 - c.2) = 1
            · unfold bodyT
              simp [isTp, c1, c2, ge_P, hlt, ixP0, ixP1, ha, hls, x2]
            · unfold bodyT
              simp [isTp, c1, c2, ge_P, hlt, ixP0, ixP1, ha]
    · have h2' : ¬ (xs.length : Int) = 2 := by omega
      have : tileB (.tup xs) = false := by
        match xs, h2 with
        | [], _ => rfl
        | [_], _ => rfl
        | _ :: _ :: _ :: _, _ => rfl
      rw [this]
      unfold bodyT
      simp [isTp, h2']
  | ref _ => cases ht
  | adr _ => cases ht
  | scr _ => cases ht
  | _ =>
    unfold bodyT
    simp [isi_tup ht, isTp, tileB]
theorem bodyT_loop {n w : Nat} {s0 s1 s4 : Option D} {q : Nat} (hw : w ≤ 1000000) : ∀ (ts : List D) (M : Mem) (acc : List Cell) (s3 : Option D), (∀ t ∈ ts, vok n w t = true) → M[q]? = some (.lst (acc.map encP)) → acc.length + 2 * ts.length ≤ 10000000 →
    ∃ s3', forL (gN 3) bodyT ts [s0, s1, some (.ref q), s3, s4] M = if ts.all tileB then .nx [s0, s1, some (.ref q), s3', s4] (M.set q (.lst ((acc ++ flatT (ts.map unT)).map encP))) else .rt (.bl false) (M.set q (.lst ((acc ++ flatT ((ts.takeWhile tileB).map unT)).map encP)))
  | [], M, acc, s3, _, e, _ => by
    refine ⟨s3, ?_⟩
    have : M.set q (.lst (acc.map encP)) = M := by
      obtain ⟨h, e'⟩ := List.getElem?_eq_some_iff.mp e
      rw [← e']; exact List.set_getElem_self h
    simp [flatT, this]
  | t :: ts, M, acc, s3, hv, e, hl => by
    rw [List.length_cons] at hl
    have h1 := bodyT_ev (x0 := .non) (x1 := .non) (t4 := .non) (s0 := s0) (s1 := s1) (s4 := s4) (hv t List.mem_cons_self) hw e (by omega)
    rw [forL_step (σ1 := [s0, s1, some (.ref q), some t, s4]) (m1 := M) rfl, h1]
    cases et : tileB t with
    | false =>
      refine ⟨s3, ?_⟩
      have : M.set q (.lst (acc.map encP)) = M := by
        obtain ⟨h, e'⟩ := List.getElem?_eq_some_iff.mp e
        rw [← e']; exact List.set_getElem_self h
      simp [et, flatT, this]
    | true =>
      have hq := (List.getElem?_eq_some_iff.mp e).1
      obtain ⟨s3', h2⟩ := bodyT_loop hw ts (M.set q (.lst ((acc ++ [(unT t).1, (unT t).2]).map encP))) (acc ++ [(unT t).1, (unT t).2]) (some t) (fun x hx => hv x (List.mem_cons_of_mem _ hx)) (by rw [List.getElem?_set_self hq]) (by simp; omega)
      refine ⟨s3', ?_⟩
      rw [if_pos rfl, turnK_nx, h2]
      have ef : ∀ us : List D, acc ++ [(unT t).1, (unT t).2] ++ flatT (us.map unT) = acc ++ flatT ((t :: us).map unT) := fun us => by rw [List.append_assoc]; rfl
      rw [List.set_set, List.set_set, ef, ef, List.all_cons, et, Bool.true_and]
      simp only [List.takeWhile_cons, et, if_true]
theorem eq_bD (xs ys : List Cell) (m : Mem) : opEq (bD xs) (bD ys) m = .ok (.bl (decide (xs = ys))) m := by
  rw [opEq_of (show sh 60 (deref m (bD xs)) = true from encPs_sh 58 xs) (show sh 60 (deref m (bD ys)) = true from encPs_sh 58 ys)]
  show Res.ok (D.bl (eqDs (xs.map encP) (ys.map encP))) m = _
  rw [eqDs_map encP_eq]
theorem R_tiles {n w : Nat} {b : List Cell} {x : D} {M : Mem} (h : vok n w x = true) (hw : w ≤ 1000000) : ∃ M', R_are_tiles [bD b, x] M = .ok (.bl (J1 b x)) M' ∧ Keep M.length M M' := by
  have ht := vok_vt h
  unfold R_are_tiles fnR
  have es : startD 5 [bD b, x] = [some (bD b), some x, none, none, none] := rfl
  rw [es]
  have eb : r_are_tiles R_is_cell = sSeq (sIf (tNotD (tE (eIsi "tuple" (eVar 1)))) (sRet (eC (.bl false))) (sNil)) (sSeq (sSet 2 (eLst true (aNil))) (sSeq (sFor (iE (eVar 1)) (gN 3) bodyT) (sRet (eAnd (eB (bAllB false) (aCons (eLc false [4] (iA range2 (aCons (eC (.int 1)) (aCons (eB bLen (aCons (eVar 1) (aNil))) (aNil)))) (gN 4) (tYesD) (eOp (opOrd .Lt) (eIx (eVar 1) (eOp opSub (eVar 4) (eC (.int 1)))) (eIx (eVar 1) (eVar 4)))) (aNil))) (eOp opEq (eB bTuple (aCons (eB (bSortedX false) (aCons (eVar 2) (aNil))) (aNil))) (eVar 0)))))) := rfl
  rw [eb]
  cases x with
  | tup ts =>
    rw [vok_tup] at h
    have e0 : sIf (tNotD (tE (eIsi "tuple" (eVar 1)))) (sRet (eC (.bl false))) (sNil) [some (bD b), some (.tup ts), none, none, none] M = .nx [some (bD b), some (.tup ts), none, none, none] M := by simp [isTp]
    have hn0 := newL_t (m := M) (xs := []) (by simp)
    have e1 : sSet 2 (eLst true (aNil)) [some (bD b), some (.tup ts), none, none, none] M = .nx [some (bD b), some (.tup ts), some (.ref M.length), none, none] (M ++ [.lst []]) := by simp [hn0]
    have hq : (M ++ [MO.lst []])[M.length]? = some (.lst (([] : List Cell).map encP)) := by rw [List.getElem?_append_right (Nat.le_refl _), Nat.sub_self]; rfl
    obtain ⟨s3', h2⟩ := bodyT_loop (n := n - 1) (s0 := some (bD b)) (s1 := some (.tup ts)) (s4 := none) hw ts (M ++ [.lst []]) [] none h.2.2 hq (by simp; omega)
    have ei : iE (eVar 1) [some (bD b), some (.tup ts), some (.ref M.length), none, none] (M ++ [.lst []]) = .ok (.its ts) (M ++ [.lst []]) := rfl
    rw [sSeq_ap, e0, SRes.then_nx, sSeq_ap, e1, SRes.then_nx, sSeq_ap, sFor_ap, ei, Res.st_ok, forS_its, h2]
    have kp : ∀ o, Keep M.length M ((M ++ [MO.lst []]).set M.length o) := fun o => (Keep.push (Nat.le_refl _) _).trans (Keep.set (Nat.le_refl _) _)
    cases ha : ts.all tileB with
    | false =>
      simp only [Bool.false_eq_true, if_false, SRes.then_rt]
      refine ⟨_, ?_, kp (.lst ((flatT ((ts.takeWhile tileB).map unT)).map encP))⟩
      have eJ : J1 b (.tup ts) = false := by show (ts.all tileB && _) = _; rw [ha, Bool.false_and]
      rw [eJ, List.nil_append]
    | true =>
      simp only [if_true, SRes.then_nx, List.nil_append]
      refine ⟨_, ?_, kp (.lst ((flatT (ts.map unT)).map encP))⟩
      generalize hM2 : (M ++ [MO.lst []]).set M.length (.lst ((flatT (ts.map unT)).map encP)) = M2
      have eq2 : M2[M.length]? = some (.lst ((flatT (ts.map unT)).map encP)) := by rw [← hM2, List.getElem?_set_self (by simp)]
      have hfl : (flatT (ts.map unT)).length ≤ 10000000 := by rw [flatT_len, List.length_map]; omega
      have hr := rise_all (m := M2) (d := (((0, 0), (0, 0)) : Tile)) lt_T (xs := ts.map unT) (σ := [some (bD b), some (.tup ts), some (.ref M.length), s3', none]) (v := 1) (s := 4) (by rw [← tiles_enc ha]; rfl) (by simp) (by decide) (by rw [List.length_map]; omega)
      have s2 : bSortedX false [.ref M.length] M2 = .ok (.lst ((sortC (flatT (ts.map unT))).map encP)) M2 := by
        rw [bSX_ref eq2 (canSort_P _), sortD_C]
        exact newL_f (by rw [List.length_map, sortC_len]; omega)
      have b2 := bTuple_lst (m := M2) (xs := (sortC (flatT (ts.map unT))).map encP) (by rw [List.length_map, sortC_len]; omega)
      have eJ : J1 b (.tup ts) = (rising ltT ((0, 0), (0, 0)) (ts.map unT) && decide (sortC (flatT (ts.map unT)) = b)) := by show (ts.all tileB && _) = _; rw [ha, Bool.true_and]
      rw [sRet_ap, eAnd_ap, hr, eJ]
      cases rising ltT ((0, 0), (0, 0)) (ts.map unT) with
      | false => simp
      | true => simp [s2, b2, eq_bD]
  | ref _ => cases ht
  | adr _ => cases ht
  | scr _ => cases ht
  | _ => exact ⟨M, by simp [isi_tup ht, isTp, J1], Keep.refl _ _⟩
end K80
namespace K80
open PySem L2 PD
/-! ### sorted cells -/
theorem leC_trans {a b c : Cell} (h1 : leD (encP a) (encP b) = true) (h2 : leD (encP b) (encP c) = true) : leD (encP a) (encP c) = true := by
  rw [leD_pair, decide_eq_true_eq] at *
  omega
theorem leC_total (a b : Cell) : (leD (encP a) (encP b) || leD (encP b) (encP a)) = true := by
  rw [leD_pair, leD_pair, ← Bool.decide_or, decide_eq_true_eq]
  omega
theorem leC_anti {a b : Cell} (h1 : leD (encP a) (encP b) = true) (h2 : leD (encP b) (encP a) = true) : a = b := by
  rw [leD_pair, decide_eq_true_eq] at h1 h2
  refine Prod.ext ?_ ?_ <;> omega
theorem sortC_pw (xs : List Cell) : (sortC xs).Pairwise fun a b => leD (encP a) (encP b) = true := List.pairwise_mergeSort (le := fun a b : Cell => leD (encP a) (encP b)) (fun _ _ _ h1 h2 => leC_trans h1 h2) leC_total xs
theorem sortC_pm (xs : List Cell) : (sortC xs).Perm xs := List.mergeSort_perm _ _
theorem sortC_perm {xs ys : List Cell} (h : xs.Perm ys) : sortC xs = sortC ys :=
  List.Perm.eq_of_pairwise (le := fun a b : Cell => leD (encP a) (encP b) = true) (fun _ _ _ _ h1 h2 => leC_anti h1 h2) (sortC_pw xs) (sortC_pw ys) ((sortC_pm xs).trans (h.trans (sortC_pm ys).symm))
theorem ltC_iff {a b : Cell} : ltC a b = true ↔ leD (encP a) (encP b) = true ∧ a ≠ b := by
  unfold ltC
  rw [leD_pair, decide_eq_true_eq, decide_eq_true_eq]
  constructor
  · intro h
    refine ⟨by omega, fun e => ?_⟩
    subst e; omega
  · rintro ⟨h, n⟩
    rcases h with h | ⟨h1, h2⟩
    · exact .inl h
    · refine .inr ⟨h1, ?_⟩
      rcases Int.lt_or_eq_of_le h2 with h | h
      · exact h
      · exact absurd (Prod.ext h1 h) n
theorem rising_iff {xs : List Cell} : rising ltC (0, 0) xs = true ↔ xs.Pairwise fun a b => ltC a b = true := by
  unfold rising
  rw [List.all_eq_true]
  constructor
  · intro h
    rw [List.pairwise_iff_getElem]
    have step : ∀ (k i : Nat) (h1 : i + k + 1 < xs.length), ltC xs[i] xs[i + k + 1] = true := by
      intro k
      induction k with
      | zero =>
        intro i h1
        have := h i (List.mem_range.mpr (by omega))
        unfold rise at this
        rw [List.getD_eq_getElem?_getD, List.getD_eq_getElem?_getD, List.getElem?_eq_getElem (by omega), List.getElem?_eq_getElem (by omega)] at this
        exact this
      | succ k ih =>
        intro i h1
        have a := ih i (by omega)
        have b := h (i + k + 1) (List.mem_range.mpr (by omega))
        unfold rise at b
        rw [List.getD_eq_getElem?_getD, List.getD_eq_getElem?_getD, List.getElem?_eq_getElem (by omega), List.getElem?_eq_getElem (by omega)] at b
        change ltC xs[i + k + 1] xs[i + k + 1 + 1] = true at b
        have e : i + (k + 1) + 1 = i + k + 1 + 1 := by omega
        simp only [e]
        unfold ltC at a b ⊢
        rw [decide_eq_true_eq] at a b ⊢
        omega
    intro i j hi hj hij
    have := step (j - i - 1) i (by omega)
    have e : i + (j - i - 1) + 1 = j := by omega
    simp only [e] at this
    exact this
  · intro h i hi
    rw [List.mem_range] at hi
    unfold rise
    rw [List.getD_eq_getElem?_getD, List.getD_eq_getElem?_getD, List.getElem?_eq_getElem (by omega), List.getElem?_eq_getElem (by omega)]
    exact List.pairwise_iff_getElem.mp h i (i + 1) (by omega) (by omega) (by omega)
theorem rising_nodup {xs : List Cell} (h : rising ltC (0, 0) xs = true) : xs.Nodup := (rising_iff.mp h).imp fun h e => (ltC_iff.mp h).2 e
theorem rising_sort {xs : List Cell} (h : xs.Nodup) : rising ltC (0, 0) (sortC xs) = true := by
  rw [rising_iff]
  have hn : (sortC xs).Nodup := (sortC_pm xs).nodup_iff.mpr h
  exact List.Pairwise.imp₂ (fun a b h1 h2 => ltC_iff.mpr ⟨h1, h2⟩) (sortC_pw xs) hn
/-! ### the cells around some -/
def F (b : List Cell) (cs : List Cell) : List Cell := sortC (dedP (cs.flatMap (nbrs b)))
def addK (fd : List (Cell × Bool)) (xs : List Cell) : List (Cell × Bool) := xs.foldl (fun fd x => put fd x true) fd
theorem addK_keys : ∀ (xs : List Cell) (fd : List (Cell × Bool)), (fd.map (·.1)).Nodup → ((addK fd xs).map (·.1)).Nodup ∧ ∀ c, c ∈ (addK fd xs).map (·.1) ↔ c ∈ fd.map (·.1) ∨ c ∈ xs
  | [], fd, h => ⟨h, fun c => by simp [addK]⟩
  | x :: xs, fd, h => by
    have h1 : ((put fd x true).map (·.1)).Nodup ∧ ∀ c, c ∈ (put fd x true).map (·.1) ↔ c ∈ fd.map (·.1) ∨ c = x := by
      rw [put_keys]
      split
      · rename_i hx
        exact ⟨h, fun c => ⟨.inl, fun z => z.elim id fun e => by rw [e]; exact hx⟩⟩
      · rename_i hx
        refine ⟨?_, fun c => by simp⟩
        rw [List.nodup_append]
        refine ⟨h, by simp, fun a ha d hd => ?_⟩
        rw [List.mem_singleton] at hd
        subst hd
        rintro rfl
        exact hx ha
    obtain ⟨h2, h3⟩ := addK_keys xs (put fd x true) h1.1
    refine ⟨h2, fun c => ?_⟩
    show c ∈ (addK (put fd x true) xs).map (·.1) ↔ _
    rw [h3, h1.2, List.mem_cons, or_assoc]
theorem addK_app (xs ys : List Cell) (fd : List (Cell × Bool)) : addK (addK fd xs) ys = addK fd (xs ++ ys) := by
  unfold addK
  rw [List.foldl_append]
theorem keys_F (b cs : List Cell) : sortC ((addK [] (cs.flatMap (nbrs b))).map (·.1)) = F b cs := by
  obtain ⟨h1, h2⟩ := addK_keys (cs.flatMap (nbrs b)) [] List.nodup_nil
  refine sortC_perm ((List.perm_ext_iff_of_nodup h1 (dedP_nodup _)).mpr fun c => ?_)
  rw [h2, dedP_mem]
  simp
/-! ### too few, by the judge -/
def parB (cs : List Cell) : Bool := decide (uniqN (cs.map fun c => (c.1 + c.2) % 2) = 1)
def J2' (b cs told : List Cell) : Bool := cs.all (fun c => decide (c ∈ b)) && parB cs && (decide (F b cs = told) && decide (told.length < cs.length))
def cellsOf : D → List Cell | .tup ts => ts.map unP | _ => []
def J2 (b : List Cell) : D → Bool
  | .tup [p, q] => cellsB p && cellsB q && J2' b (cellsOf p) (cellsOf q)
  | _ => false
theorem cellsB_enc {d : D} (h : cellsB d = true) : d = bD (cellsOf d) ∧ rising ltC (0, 0) (cellsOf d) = true := by
  cases d with
  | tup ts =>
    have h' : (ts.all cellB && rising ltC (0, 0) (ts.map unP)) = true := h
    rw [Bool.and_eq_true] at h'
    refine ⟨?_, h'.2⟩
    show D.tup ts = .tup ((ts.map unP).map encP)
    rw [← cells_enc h'.1]
  | _ => cases h
def bodyF1 : SF := sAsg (gDx (eVar 4) (eVar 6)) (eC (.bl true))
def bodyF : SF := sFor (iE (eCall R_around (aCons (eVar 0) (aCons (eVar 5) (aNil))))) (gN 6) bodyF1
section
variable {b : List Cell} {q : Nat} {s1 s2 s3 : Option D}
theorem found1 : ∀ (xs : List Cell) (fd : List (Cell × Bool)) (M : Mem) (s5 s6 : Option D), M[q]? = some (.dct false (mD D.bl fd)) → fd.length + xs.length ≤ 1000000 →
    ∃ s6', forL (gN 6) bodyF1 (xs.map encP) [some (bD b), s1, s2, s3, some (.ref q), s5, s6] M = .nx [some (bD b), s1, s2, s3, some (.ref q), s5, s6'] (M.set q (.dct false (mD D.bl (addK fd xs))))
  | [], fd, M, s5, s6, e, _ => ⟨s6, by
    have : M.set q (.dct false (mD D.bl fd)) = M := by
      obtain ⟨h, e'⟩ := List.getElem?_eq_some_iff.mp e
      rw [← e']; exact List.set_getElem_self h
    show SRes.nx _ M = .nx _ (M.set q (.dct false (mD D.bl fd)))
    rw [this]⟩
  | x :: xs, fd, M, s5, s6, e, hl => by
    rw [List.length_cons] at hl
    have hq := (List.getElem?_eq_some_iff.mp e).1
    have hput : (put fd x true).length ≤ fd.length + 1 := by
      unfold put
      split
      · rw [List.length_map]; omega
      · rw [List.length_append, List.length_singleton]; omega
    have e1 : bodyF1 [some (bD b), s1, s2, s3, some (.ref q), s5, some (encP x)] M = .nx [some (bD b), s1, s2, s3, some (.ref q), s5, some (encP x)] (M.set q (.dct false (mD D.bl (put fd x true)))) := by
      have := setDx_of (σ := [some (bD b), s1, s2, s3, some (.ref q), s5, some (encP x)]) (d := .bl true) (keyT_P x) e (by unfold mD; rw [List.length_map]; omega)
      rw [show (D.bl true) = D.bl true from rfl] at this
      have e3 := dPut_mD D.bl fd x true
      rw [e3] at this
      unfold bodyF1
      simp [this]
    obtain ⟨s6', h⟩ := found1 xs (put fd x true) (M.set q (.dct false (mD D.bl (put fd x true)))) s5 (some (encP x)) (by rw [List.getElem?_set_self hq]) (by omega)
    refine ⟨s6', ?_⟩
    rw [List.map_cons, forL_step (σ1 := [some (bD b), s1, s2, s3, some (.ref q), s5, some (encP x)]) (m1 := M) rfl, e1, turnK_nx, h, List.set_set]
    rfl
theorem foundL : ∀ (cs : List Cell) (fd : List (Cell × Bool)) (M : Mem) (s5 s6 : Option D), M[q]? = some (.dct false (mD D.bl fd)) → fd.length + 4 * cs.length ≤ 1000000 →
    ∃ s5' s6', forL (gN 5) bodyF (cs.map encP) [some (bD b), s1, s2, s3, some (.ref q), s5, s6] M = .nx [some (bD b), s1, s2, s3, some (.ref q), s5', s6'] (M.set q (.dct false (mD D.bl (addK fd (cs.flatMap (nbrs b))))))
  | [], fd, M, s5, s6, e, _ => ⟨s5, s6, by
    have : M.set q (.dct false (mD D.bl fd)) = M := by
      obtain ⟨h, e'⟩ := List.getElem?_eq_some_iff.mp e
      rw [← e']; exact List.set_getElem_self h
    show SRes.nx _ M = .nx _ (M.set q (.dct false (mD D.bl fd)))
    rw [this]⟩
  | c :: cs, fd, M, s5, s6, e, hl => by
    rw [List.length_cons] at hl
    have hq := (List.getElem?_eq_some_iff.mp e).1
    have h4 := nbrs_len b c
    obtain ⟨s6', h1⟩ := found1 (b := b) (s1 := s1) (s2 := s2) (s3 := s3) (nbrs b c) fd M (some (encP c)) s6 e (by omega)
    have hk : ∀ (xs : List Cell) (fd : List (Cell × Bool)), (addK fd xs).length ≤ fd.length + xs.length := by
      intro xs
      induction xs with
      | nil => intro fd; exact Nat.le_refl _
      | cons x xs ih =>
        intro fd
        have hput : (put fd x true).length ≤ fd.length + 1 := by
          unfold put
          split
          · rw [List.length_map]; omega
          · rw [List.length_append, List.length_singleton]; omega
        have := ih (put fd x true)
        show (addK (put fd x true) xs).length ≤ _
        rw [List.length_cons]
        omega
    have hk1 := hk (nbrs b c) fd
    have e1 : bodyF [some (bD b), s1, s2, s3, some (.ref q), some (encP c), s6] M = .nx [some (bD b), s1, s2, s3, some (.ref q), some (encP c), s6'] (M.set q (.dct false (mD D.bl (addK fd (nbrs b c))))) := by
      unfold bodyF
      have hi : iE (eCall R_around (aCons (eVar 0) (aCons (eVar 5) (aNil)))) [some (bD b), s1, s2, s3, some (.ref q), some (encP c), s6] M = .ok (.its ((nbrs b c).map encP)) M := by
        simp [R_around_ok]
      rw [sFor_ap, hi, Res.st_ok, forS_its, h1]
    obtain ⟨s5', s6'', h2⟩ := foundL cs (addK fd (nbrs b c)) (M.set q (.dct false (mD D.bl (addK fd (nbrs b c))))) (some (encP c)) s6' (by rw [List.getElem?_set_self hq]) (by omega)
    refine ⟨s5', s6'', ?_⟩
    rw [List.map_cons, forL_step (σ1 := [some (bD b), s1, s2, s3, some (.ref q), some (encP c), s6]) (m1 := M) rfl, e1, turnK_nx, h2, List.set_set, addK_app]
    rfl
end
theorem keysMap (fd : List (Cell × Bool)) : (mD D.bl fd).map (·.1) = (fd.map (·.1)).map encP := by unfold mD; rw [List.map_map, List.map_map]; rfl
theorem intsD_map : ∀ (ns : List Int), intsD (ns.map D.int) = some ns
  | [] => rfl
  | n :: ns => by
    show (intsD (ns.map D.int)).map (n :: ·) = _
    rw [intsD_map ns]; rfl
theorem parity_ev {cs : List Cell} {m : Mem} (hl : cs.length ≤ 1000) : opLS (.lst ((cs.map fun c => (c.1 + c.2) % 2).map D.int)) m = .ok (.int (uniqN (cs.map fun c => (c.1 + c.2) % 2) : Nat)) m := by
  unfold opLS
  simp only [deref_lst, intsD_map, List.length_map]
  rw [if_pos (by omega)]
theorem R_few {n w : Nat} {b : List Cell} {x : D} {M : Mem} (hb : b.length ≤ 30) (h : vok n w x = true) (hw : w ≤ 200000) : ∃ M', R_are_too_few [bD b, x] M = .ok (.bl (J2 b x)) M' ∧ Keep M.length M M' := by
  have ht := vok_vt h
  unfold R_are_too_few fnR
  have es : startD 7 [bD b, x] = [some (bD b), some x, none, none, none, none, none] := rfl
  rw [es]
  have eb : r_are_too_few R_around R_are_cells = sSeq (sIf (tOrD (tNotD (tE (eIsi "tuple" (eVar 1)))) (tOrD (tCmp opNe (eB bLen (aCons (eVar 1) (aNil))) (eC (.int 2))) (tOrD (tNotD (tE (eCall R_are_cells (aCons (eIx (eVar 1) (eC (.int 0))) (aNil))))) (tNotD (tE (eCall R_are_cells (aCons (eIx (eVar 1) (eC (.int 1))) (aNil)))))))) (sRet (eC (.bl false))) (sNil)) (sSeq (sAsg (gT 2 (gsCons (gN 2) (gsCons (gN 3) (gsNil)))) (eVar 1)) (sSeq (sIf (tOrD (tNotD (tE (eB (bAllB false) (aCons (eLc false [6] (iE (eVar 2)) (gN 6) (tYesD) (eOp opIn (eVar 6) (eVar 0))) (aNil))))) (tCmp opNe (eLenSet (eLc false [6] (iE (eVar 2)) (gN 6) (tYesD) (eOp opMod (eB bSumX (aCons (eVar 6) (aNil))) (eC (.int 2))))) (eC (.int 1)))) (sRet (eC (.bl false))) (sNil)) (sSeq (sSet 4 (eDnew)) (sSeq (sFor (iE (eVar 2)) (gN 5) bodyF) (sRet (eAnd (eOp opEq (eB bTuple (aCons (eB (bSortedX false) (aCons (eVar 4) (aNil))) (aNil))) (eVar 3)) (eOp (opOrd .Lt) (eB bLen (aCons (eVar 3) (aNil))) (eB bLen (aCons (eVar 2) (aNil)))))))))) := rfl
  rw [eb]
  cases x with
  | tup ts =>
    rw [vok_tup] at h
    by_cases h2 : ts.length = 2
    · obtain ⟨p, r, rfl⟩ : ∃ p r, ts = [p, r] := by
        match ts, h2 with
        | [p, r], _ => exact ⟨p, r, rfl⟩
      have hp := h.2.2 p (by simp)
      have hr := h.2.2 r (by simp)
      have c1 := R_cells (m := M) hp (by omega)
      have c2 := R_cells (m := M) hr (by omega)
      cases e1 : cellsB p with
      | false =>
        rw [e1] at c1
        exact ⟨M, by simp [isTp, c1, J2, e1], Keep.refl _ _⟩
      | true =>
        rw [e1] at c1
        cases e2 : cellsB r with
        | false =>
          rw [e2] at c2
          exact ⟨M, by simp [isTp, c1, c2, J2, e2], Keep.refl _ _⟩
        | true =>
          rw [e2] at c2
          have eJ : J2 b (.tup [p, r]) = J2' b (cellsOf p) (cellsOf r) := by show (cellsB p && cellsB r && _) = _; rw [e1, e2]; rfl
          rw [eJ]
          obtain ⟨q1, u1⟩ := cellsB_enc e1
          obtain ⟨q2, u2⟩ := cellsB_enc e2
          have lc : (cellsOf p).length ≤ 200000 := by
            have hp' := hp
            rw [q1, vok_tup, List.length_map] at hp'
            omega
          generalize cellsOf p = cs at q1 u1 lc ⊢
          generalize cellsOf r = told at q2 u2 ⊢
          subst q1 q2
          have s1 : sIf (tOrD (tNotD (tE (eIsi "tuple" (eVar 1)))) (tOrD (tCmp opNe (eB bLen (aCons (eVar 1) (aNil))) (eC (.int 2))) (tOrD (tNotD (tE (eCall R_are_cells (aCons (eIx (eVar 1) (eC (.int 0))) (aNil))))) (tNotD (tE (eCall R_are_cells (aCons (eIx (eVar 1) (eC (.int 1))) (aNil)))))))) (sRet (eC (.bl false))) (sNil) [some (bD b), some (.tup [bD cs, bD told]), none, none, none, none, none] M = .nx [some (bD b), some (.tup [bD cs, bD told]), none, none, none, none, none] M := by
            simp [isTp, c1, c2]
          have s2 : sAsg (gT 2 (gsCons (gN 2) (gsCons (gN 3) (gsNil)))) (eVar 1) [some (bD b), some (.tup [bD cs, bD told]), none, none, none, none, none] M = .nx [some (bD b), some (.tup [bD cs, bD told]), some (bD cs), some (bD told), none, none, none] M := rfl
          rw [sSeq_ap, s1, SRes.then_nx, sSeq_ap, s2, SRes.then_nx]
          have a1 : lcL (gN 6) tYesD (eOp opIn (eVar 6) (eVar 0)) [some (bD b), some (.tup [bD cs, bD told]), some (bD cs), some (bD told), none, none, none] (cs.map encP) M = .ok (cs.map fun c => .bl (decide (c ∈ b))) M :=
            lcL_map fun c _ => ⟨[some (bD b), some (.tup [bD cs, bD told]), some (bD cs), some (bD told), none, none, some (encP c)], rfl, by simp [in_bD]⟩
          have a2 : lcL (gN 6) tYesD (eOp opMod (eB bSumX (aCons (eVar 6) (aNil))) (eC (.int 2))) [some (bD b), some (.tup [bD cs, bD told]), some (bD cs), some (bD told), none, none, none] (cs.map encP) M = .ok ((cs.map fun c => (c.1 + c.2) % 2).map D.int) M := by
            rw [List.map_map]
            exact lcL_map fun c _ => ⟨[some (bD b), some (.tup [bD cs, bD told]), some (bD cs), some (bD told), none, none, some (encP c)], rfl, by
              have hs : bSumX [encP c] M = .ok (.int (c.1 + c.2)) M := by
                show (match intsD [.int c.1, .int c.2] with | some bs => Res.ok (D.int bs.sum) M | none => .bad) = _
                simp [intsD]
              have hf : fmodD (c.1 + c.2) 2 = (c.1 + c.2) % 2 := fmodD_pos (by decide)
              simp [hs, hf]⟩
          have n1 := newL_f (m := M) (xs := cs.map fun c => D.bl (decide (c ∈ b))) (by rw [List.length_map]; omega)
          have n2 := newL_f (m := M) (xs := (cs.map fun c => (c.1 + c.2) % 2).map D.int) (by rw [List.length_map, List.length_map]; omega)
          have hsrc : srcOf (bD cs) M = .ok (.its (cs.map encP)) M := rfl
          cases ea : cs.all (fun c => decide (c ∈ b)) with
          | false =>
            refine ⟨M, ?_, Keep.refl _ _⟩
            have eF : J2' b cs told = false := by unfold J2'; rw [ea]; rfl
            rw [eF]
            simp only [sSeq_ap, sIf_ap, tOr_ap, tNot_ap, tE_ap, eB_ap, aCons_ap, eLc_ap, iE_ap, eVar_ap, aNil_ap, List.getElem?_cons_zero, List.getElem?_cons_succ, Res.bind_ok, hsrc, wipeD, List.set_cons_zero, List.set_cons_succ, lcS_its, a1, noexc_ok, n1, bAll_map, ea, asB_ap, Bool.not_false, if_true, Res.st_ok, sRet_ap, eC_ap, SRes.then_rt]
          | true =>
            have hsub : ∀ c ∈ cs, c ∈ b := fun c hc => of_decide_eq_true (List.all_eq_true.mp ea c hc)
            have hcl : cs.length ≤ 30 := by have := nodup_len (rising_nodup u1) hsub; omega
            have pe := parity_ev (m := M) (cs := cs) (by omega)
            cases ep : parB cs with
            | false =>
              refine ⟨M, ?_, Keep.refl _ _⟩
              have eF : J2' b cs told = false := by unfold J2'; rw [ea, ep]; rfl
              rw [eF]
              have ep' : decide (((uniqN (cs.map fun c => (c.1 + c.2) % 2) : Nat) : Int) = 1) = false := by
                unfold parB at ep
                rw [decide_eq_false_iff_not] at ep ⊢
                omega
              simp only [sSeq_ap, sIf_ap, tOr_ap, tNot_ap, tE_ap, eB_ap, aCons_ap, eLc_ap, iE_ap, eVar_ap, aNil_ap, List.getElem?_cons_zero, List.getElem?_cons_succ, Res.bind_ok, hsrc, wipeD, List.set_cons_zero, List.set_cons_succ, lcS_its, a1, noexc_ok, n1, bAll_map, ea, asB_ap, Bool.not_true, Bool.false_eq_true, if_false, Res.st_ok, sRet_ap, eC_ap, tCmp_ap, eLenSet_ap, a2, n2, pe, opNe_int, ep', Bool.not_false, if_true, SRes.then_rt]
            | true =>
              have ep' : decide (((uniqN (cs.map fun c => (c.1 + c.2) % 2) : Nat) : Int) = 1) = true := by
                unfold parB at ep
                rw [decide_eq_true_eq] at ep ⊢
                omega
              have s3 : sIf (tOrD (tNotD (tE (eB (bAllB false) (aCons (eLc false [6] (iE (eVar 2)) (gN 6) (tYesD) (eOp opIn (eVar 6) (eVar 0))) (aNil))))) (tCmp opNe (eLenSet (eLc false [6] (iE (eVar 2)) (gN 6) (tYesD) (eOp opMod (eB bSumX (aCons (eVar 6) (aNil))) (eC (.int 2))))) (eC (.int 1)))) (sRet (eC (.bl false))) (sNil) [some (bD b), some (.tup [bD cs, bD told]), some (bD cs), some (bD told), none, none, none] M = .nx [some (bD b), some (.tup [bD cs, bD told]), some (bD cs), some (bD told), none, none, none] M := by
                simp only [sIf_ap, tOr_ap, tNot_ap, tE_ap, eB_ap, aCons_ap, eLc_ap, iE_ap, eVar_ap, aNil_ap, List.getElem?_cons_zero, List.getElem?_cons_succ, Res.bind_ok, hsrc, wipeD, List.set_cons_zero, List.set_cons_succ, lcS_its, a1, noexc_ok, n1, bAll_map, ea, asB_ap, Bool.not_true, Bool.false_eq_true, if_false, Res.st_ok, sRet_ap, eC_ap, tCmp_ap, eLenSet_ap, a2, n2, pe, opNe_int, ep', sNil_ap]
              have s4 : sSet 4 (eDnew) [some (bD b), some (.tup [bD cs, bD told]), some (bD cs), some (bD told), none, none, none] M = .nx [some (bD b), some (.tup [bD cs, bD told]), some (bD cs), some (bD told), some (.ref M.length), none, none] (M ++ [.dct false []]) := by simp
              have hq : (M ++ [MO.dct false []])[M.length]? = some (.dct false (mD D.bl [])) := by rw [List.getElem?_append_right (Nat.le_refl _), Nat.sub_self]; rfl
              obtain ⟨s5', s6', h5⟩ := foundL (b := b) (s1 := some (.tup [bD cs, bD told])) (s2 := some (bD cs)) (s3 := some (bD told)) cs [] (M ++ [.dct false []]) none none hq (by simp; omega)
              have ei : iE (eVar 2) [some (bD b), some (.tup [bD cs, bD told]), some (bD cs), some (bD told), some (.ref M.length), none, none] (M ++ [.dct false []]) = .ok (.its (cs.map encP)) (M ++ [.dct false []]) := rfl
              rw [sSeq_ap, s3, SRes.then_nx, sSeq_ap, s4, SRes.then_nx, sSeq_ap, sFor_ap, ei, Res.st_ok, forS_its, h5, SRes.then_nx]
              have kp : ∀ o, Keep M.length M ((M ++ [MO.dct false []]).set M.length o) := fun o => (Keep.push (Nat.le_refl _) _).trans (Keep.set (Nat.le_refl _) _)
              refine ⟨_, ?_, kp (.dct false (mD D.bl (addK [] (cs.flatMap (nbrs b)))))⟩
              generalize hM2 : (M ++ [MO.dct false []]).set M.length (.dct false (mD D.bl (addK [] (cs.flatMap (nbrs b))))) = M2
              have eq2 : M2[M.length]? = some (.dct false (mD D.bl (addK [] (cs.flatMap (nbrs b))))) := by rw [← hM2, List.getElem?_set_self (by simp)]
              have hkl : ((addK [] (cs.flatMap (nbrs b))).map (·.1)).length ≤ 30 := by
                obtain ⟨k1, k2⟩ := addK_keys (cs.flatMap (nbrs b)) [] List.nodup_nil
                have := nodup_len k1 (ys := b) fun c hc => by
                  rcases (k2 c).mp hc with h | h
                  · simp at h
                  · obtain ⟨d, _, hd⟩ := List.mem_flatMap.mp h
                    exact nbrs_mem hd
                omega
              have sD : bSortedX false [.ref M.length] M2 = .ok (.lst ((F b cs).map encP)) M2 := by
                have hcs : canSort ((mD D.bl (addK [] (cs.flatMap (nbrs b)))).map (·.1)) = true := by rw [keysMap]; exact canSort_P _
                rw [bSX_dct eq2 hcs, keysMap, sortD_C, keys_F]
                refine newL_f ?_
                rw [List.length_map, ← keys_F, sortC_len]
                omega
              have hFl : (F b cs).length ≤ 30 := by rw [← keys_F, sortC_len]; exact hkl
              have b2 := bTuple_lst (m := M2) (xs := (F b cs).map encP) (by rw [List.length_map]; omega)
              have eF : J2' b cs told = (decide (F b cs = told) && decide (told.length < cs.length)) := by unfold J2'; rw [ea, ep]; rfl
              rw [eF]
              have eo := eq_bD (F b cs) told M2
              have hll : decide ((told.length : Int) < (cs.length : Int)) = decide (told.length < cs.length) := by rw [decide_eq_decide]; omega
              cases hd : decide (F b cs = told) with
              | false =>
                rw [hd] at eo
                simp [sD, b2, eo]
              | true =>
                rw [hd] at eo
                simp [sD, b2, eo]
    · have h2' : ¬ (ts.length : Int) = 2 := by omega
      have eJ : J2 b (.tup ts) = false := by
        match ts, h2 with
        | [], _ => rfl
        | [_], _ => rfl
        | _ :: _ :: _ :: _, _ => rfl
      exact ⟨M, by rw [eJ]; simp [isTp, h2'], Keep.refl _ _⟩
  | ref _ => cases ht
  | adr _ => cases ht
  | scr _ => cases ht
  | _ => exact ⟨M, by simp [isi_tup ht, isTp, J2], Keep.refl _ _⟩
end K80
namespace K80
open PySem L2 PD
/-! ### the law's own looking -/
def lotB : D → Bool | .tup cs => cs.all cellB | _ => false
theorem lotB_enc {d : D} (h : lotB d = true) : d = bD (cellsOf d) := by
  cases d with
  | tup ts =>
    have h' : ts.all cellB = true := h
    show D.tup ts = .tup ((ts.map unP).map encP)
    rw [← cells_enc h']
  | _ => cases h
def bodyL1 : SF := sIf (tOrD (tNotD (tE (eIsi "tuple" (eVar 5)))) (tOrD (tCmp opNe (eB bLen (aCons (eVar 5) (aNil))) (eC (.int 2))) (tCmp opNe (eLc false [10] (iE (eVar 5)) (gN 10) (tOrD (tNotD (tE (eCall R__law_whole (aCons (eVar 10) (aNil))))) (tNotD (tE (eChain (opOrd .LtE) (opOrd .LtE) (eC (.int 0)) (eVar 10) (eC (.int 20)))))) (eC (.int 1))) (eLst false (aNil))))) (sRet (eC (.bl false))) (sNil)
def bodyL : SF := sSeq (sIf (tNotD (tE (eIsi "tuple" (eVar 4)))) (sRet (eC (.bl false))) (sNil)) (sFor (iE (eVar 4)) (gN 5) bodyL1)
section
variable {s0 s1 s2 s3 s6 s7 s8 s9 s11 : Option D} {M : Mem}
theorem cell_ev {n w : Nat} {d : D} {s4 : Option D} (h : vok n w d = true) (hw : w ≤ 1000000) : bodyL1 [s0, s1, s2, s3, s4, some d, s6, s7, s8, s9, none, s11] M = if cellB d then .nx [s0, s1, s2, s3, s4, some d, s6, s7, s8, s9, none, s11] M else .rt (.bl false) M := by
  have ht := vok_vt h
  unfold bodyL1
  cases d with
  | tup xs =>
    rw [vok_tup] at h
    by_cases hl : xs.length = 2
    · have hlc : lcL (gN 10) (tOrD (tNotD (tE (eCall R__law_whole (aCons (eVar 10) (aNil))))) (tNotD (tE (eChain (opOrd .LtE) (opOrd .LtE) (eC (.int 0)) (eVar 10) (eC (.int 20)))))) (eC (.int 1)) [s0, s1, s2, s3, s4, some (.tup xs), s6, s7, s8, s9, none, s11] xs M = .ok ((xs.filter fun x => !elB x).map fun _ => .int 1) M := by
        have := lcL_filter (enc := id) (p := fun x => !elB x) (f := fun _ => D.int 1) (g := gN 10) (tt := tOrD (tNotD (tE (eCall R__law_whole (aCons (eVar 10) (aNil))))) (tNotD (tE (eChain (opOrd .LtE) (opOrd .LtE) (eC (.int 0)) (eVar 10) (eC (.int 20)))))) (te := eC (.int 1)) (σw := [s0, s1, s2, s3, s4, some (.tup xs), s6, s7, s8, s9, none, s11]) (m := M) (xs := xs) fun x hx => ⟨[s0, s1, s2, s3, s4, some (.tup xs), s6, s7, s8, s9, some x, s11], rfl, by
          have hv := vok_vt (h.2.2 x hx)
          cases x with
          | int i =>
            by_cases h0 : (0 : Int) ≤ i
            · by_cases h1 : i ≤ 20
              · simp [R_whole hv, isInt, elB, h0, h1]
              · simp [R_whole hv, isInt, elB, h0, h1]
            · simp [R_whole hv, isInt, elB, h0]
          | _ => simp [R_whole hv, isInt, elB], fun _ => rfl⟩
        simpa using this
      have hnl := newL_f (m := M) (xs := (xs.filter fun x => !elB x).map fun _ => D.int 1) (by rw [List.length_map]; have := List.length_filter_le (fun x => !elB x) xs; omega)
      have hne : opNe (.lst ((xs.filter fun x => !elB x).map fun _ => D.int 1)) (.lst []) M = .ok (.bl (!(xs.filter fun x => !elB x).isEmpty)) M := by
        rw [opNe_of (by rw [deref_lst, sh60_lst]; exact shs_map fun _ _ => by simp) rfl]
        simp
      have hn0 := newL_f (m := M) (xs := []) (by simp)
      have he : (xs.filter fun x => !elB x).isEmpty = xs.all elB := by
        rw [Bool.eq_iff_iff, List.isEmpty_iff, List.filter_eq_nil_iff, List.all_eq_true]
        simp
      have hl' : (xs.length : Int) = 2 := by omega
      have hsrc : srcOf (.tup xs) M = .ok (.its xs) M := rfl
      rw [cellB_tup, decide_eq_true hl, Bool.true_and]
      cases ha : xs.all elB with
      | true =>
        rw [he, ha] at hne
        simp only [sIf_ap, tOr_ap, tNot_ap, tE_ap, eIsi_ap, eVar_ap, List.getElem?_cons_zero, List.getElem?_cons_succ, Res.bind_ok, isi_tup_tup, noexc_ok, asB_ap, Bool.not_true, Bool.false_eq_true, if_false, tCmp_ap, eB_ap, aCons_ap, aNil_ap, bLen_tup, eC_ap, opNe_int, hl', decide_true, eLc_ap, iE_ap, hsrc, wipeD, List.set_cons_zero, List.set_cons_succ, lcS_its, hlc, hnl, eLst_ap, hn0, hne, Res.st_ok, sNil_ap, if_true]
      | false =>
        rw [he, ha] at hne
        simp only [sIf_ap, tOr_ap, tNot_ap, tE_ap, eIsi_ap, eVar_ap, List.getElem?_cons_zero, List.getElem?_cons_succ, Res.bind_ok, isi_tup_tup, noexc_ok, asB_ap, Bool.not_true, Bool.false_eq_true, if_false, tCmp_ap, eB_ap, aCons_ap, aNil_ap, bLen_tup, eC_ap, opNe_int, hl', decide_true, eLc_ap, iE_ap, hsrc, wipeD, List.set_cons_zero, List.set_cons_succ, lcS_its, hlc, hnl, eLst_ap, hn0, hne, Res.st_ok, Bool.not_false, if_true, sRet_ap]
    · have hl' : ¬ (xs.length : Int) = 2 := by omega
      rw [cellB_tup, decide_eq_false hl, Bool.false_and]
      simp [hl']
  | ref _ => cases ht
  | adr _ => cases ht
  | scr _ => cases ht
  | _ => simp [isi_tup ht, isTp, cellB]
theorem cells_loop {n w : Nat} {s4 : Option D} (hw : w ≤ 1000000) : ∀ (ts : List D) (s5 : Option D), (∀ t ∈ ts, vok n w t = true) → ∃ s5', forL (gN 5) bodyL1 ts [s0, s1, s2, s3, s4, s5, s6, s7, s8, s9, none, s11] M = if ts.all cellB then .nx [s0, s1, s2, s3, s4, s5', s6, s7, s8, s9, none, s11] M else .rt (.bl false) M
  | [], s5, _ => ⟨s5, rfl⟩
  | t :: ts, s5, hv => by
    rw [forL_step (σ1 := [s0, s1, s2, s3, s4, some t, s6, s7, s8, s9, none, s11]) (m1 := M) rfl, cell_ev (hv t List.mem_cons_self) hw]
    cases et : cellB t with
    | false => exact ⟨s5, by simp [et]⟩
    | true =>
      obtain ⟨s5', h⟩ := cells_loop hw ts (some t) fun x hx => hv x (List.mem_cons_of_mem _ hx)
      refine ⟨s5', ?_⟩
      rw [if_pos rfl, turnK_nx, h, List.all_cons, et, Bool.true_and]
theorem lot_ev {n w : Nat} {d : D} {s5 : Option D} (h : vok n w d = true) (hw : w ≤ 1000000) : ∃ s5', bodyL [s0, s1, s2, s3, some d, s5, s6, s7, s8, s9, none, s11] M = if lotB d then .nx [s0, s1, s2, s3, some d, s5', s6, s7, s8, s9, none, s11] M else .rt (.bl false) M := by
  have ht := vok_vt h
  unfold bodyL
  cases d with
  | tup xs =>
    rw [vok_tup] at h
    obtain ⟨s5', hl⟩ := cells_loop (n := n - 1) (s0 := s0) (s1 := s1) (s2 := s2) (s3 := s3) (s4 := some (.tup xs)) (s6 := s6) (s7 := s7) (s8 := s8) (s9 := s9) (s11 := s11) (M := M) hw xs s5 h.2.2
    refine ⟨s5', ?_⟩
    have e0 : sIf (tNotD (tE (eIsi "tuple" (eVar 4)))) (sRet (eC (.bl false))) (sNil) [s0, s1, s2, s3, some (.tup xs), s5, s6, s7, s8, s9, none, s11] M = .nx [s0, s1, s2, s3, some (.tup xs), s5, s6, s7, s8, s9, none, s11] M := by simp
    have ei : iE (eVar 4) [s0, s1, s2, s3, some (.tup xs), s5, s6, s7, s8, s9, none, s11] M = .ok (.its xs) M := rfl
    rw [sSeq_ap, e0, SRes.then_nx, sFor_ap, ei, Res.st_ok, forS_its, hl]
    rfl
  | ref _ => cases ht
  | adr _ => cases ht
  | scr _ => cases ht
  | _ => exact ⟨s5, by simp [isi_tup ht, isTp, lotB]⟩
theorem lots_loop {n w : Nat} (hw : w ≤ 1000000) : ∀ (ts : List D) (s4 s5 : Option D), (∀ t ∈ ts, vok n w t = true) → ∃ s4' s5', forL (gN 4) bodyL ts [s0, s1, s2, s3, s4, s5, s6, s7, s8, s9, none, s11] M = if ts.all lotB then .nx [s0, s1, s2, s3, s4', s5', s6, s7, s8, s9, none, s11] M else .rt (.bl false) M
  | [], s4, s5, _ => ⟨s4, s5, rfl⟩
  | t :: ts, s4, s5, hv => by
    obtain ⟨u, h1⟩ := lot_ev (s0 := s0) (s1 := s1) (s2 := s2) (s3 := s3) (s5 := s5) (s6 := s6) (s7 := s7) (s8 := s8) (s9 := s9) (s11 := s11) (M := M) (hv t List.mem_cons_self) hw
    rw [forL_step (σ1 := [s0, s1, s2, s3, some t, s5, s6, s7, s8, s9, none, s11]) (m1 := M) rfl, h1]
    cases et : lotB t with
    | false => exact ⟨s4, s5, by simp [et]⟩
    | true =>
      obtain ⟨s4', s5', h⟩ := lots_loop hw ts (some t) u fun x hx => hv x (List.mem_cons_of_mem _ hx)
      refine ⟨s4', s5', ?_⟩
      rw [if_pos rfl, turnK_nx, h, List.all_cons, et, Bool.true_and]
end
/-! ### fewer around -/
def bodyG : SF := sExpr (eM mExtendX (eVar 8) (aCons (eCall R__law_beside (aCons (eVar 0) (aCons (eVar 5) (aNil)))) (aNil)))
theorem ext_lst {q : Nat} {xs ys : List D} {M : Mem} (e : M[q]? = some (.lst xs)) (hl : xs.length + ys.length ≤ 16777216) : mExtendX (.ref q) [.lst ys] M = .ok .non (M.set q (.lst (xs ++ ys))) := by
  show mExtend (.ref q) [.lst ys] M = _
  unfold mExtend
  have : lenOk (xs.length + ys.length) = true := decide_eq_true hl
  simp only [e, deref_lst, this, if_true]
theorem beside_loop {b : List Cell} {s1 s2 s3 s4 s6 s7 s9 s10 s11 : Option D} {q : Nat} : ∀ (cs : List Cell) (acc : List Cell) (M : Mem) (s5 : Option D), M[q]? = some (.lst (acc.map encP)) → acc.length + 4 * cs.length ≤ 1000000 →
    ∃ s5', forL (gN 5) bodyG (cs.map encP) [some (bD b), s1, s2, s3, s4, s5, s6, s7, some (.ref q), s9, s10, s11] M = .nx [some (bD b), s1, s2, s3, s4, s5', s6, s7, some (.ref q), s9, s10, s11] (M.set q (.lst ((acc ++ cs.flatMap (nbrs b)).map encP)))
  | [], acc, M, s5, e, _ => ⟨s5, by
    have : M.set q (.lst (acc.map encP)) = M := by
      obtain ⟨h, e'⟩ := List.getElem?_eq_some_iff.mp e
      rw [← e']; exact List.set_getElem_self h
    show SRes.nx _ M = .nx _ (M.set q (.lst ((acc ++ []).map encP)))
    rw [List.append_nil, this]⟩
  | c :: cs, acc, M, s5, e, hl => by
    rw [List.length_cons] at hl
    have hq := (List.getElem?_eq_some_iff.mp e).1
    have h4 := nbrs_len b c
    have hx := ext_lst (ys := (nbrs b c).map encP) e (by rw [List.length_map, List.length_map]; omega)
    rw [← List.map_append] at hx
    have hls : isLs M (.ref q) = true := isLs_ref e
    have e1 : bodyG [some (bD b), s1, s2, s3, s4, some (encP c), s6, s7, some (.ref q), s9, s10, s11] M = .nx [some (bD b), s1, s2, s3, s4, some (encP c), s6, s7, some (.ref q), s9, s10, s11] (M.set q (.lst ((acc ++ nbrs b c).map encP))) := by
      unfold bodyG
      simp [hls, R_beside_ok, hx]
    obtain ⟨s5', h⟩ := beside_loop (b := b) (s1 := s1) (s2 := s2) (s3 := s3) (s4 := s4) (s6 := s6) (s7 := s7) (s9 := s9) (s10 := s10) (s11 := s11) cs (acc ++ nbrs b c) (M.set q (.lst ((acc ++ nbrs b c).map encP))) (some (encP c)) (by rw [List.getElem?_set_self hq]) (by rw [List.length_append]; omega)
    refine ⟨s5', ?_⟩
    rw [List.map_cons, forL_step (σ1 := [some (bD b), s1, s2, s3, s4, some (encP c), s6, s7, some (.ref q), s9, s10, s11]) (m1 := M) rfl, e1, turnK_nx, h, List.set_set, List.append_assoc]
    rfl
theorem pairsI_map : ∀ cs : List Cell, pairsI (cs.map encP) = some cs
  | [] => rfl
  | c :: cs => by
    show (pairsI (cs.map encP)).map ((c.1, c.2) :: ·) = _
    rw [pairsI_map cs]; rfl
/-! ### tiles, by the law -/
theorem tileOk_iff (a c : Cell) : tileOk (a, c) = decide (c = (a.1, a.2 + 1) ∨ c = (a.1 + 1, a.2)) := by
  unfold tileOk ltC absI
  rw [Bool.eq_iff_iff]
  simp only [Bool.and_eq_true, decide_eq_true_eq, Prod.ext_iff]
  constructor
  · rintro ⟨h1, h2⟩
    split at h2 <;> split at h2 <;> omega
  · intro h
    refine ⟨by omega, ?_⟩
    split <;> split <;> omega
def bodyM : SF := sSeq (sIf (tOrD (tCmp opNe (eB bLen (aCons (eVar 10) (aNil))) (eC (.int 2))) (tCmp opNin (eIx (eVar 10) (eC (.int 1))) (eTup (aCons (eTup (aCons (eIx (eIx (eVar 10) (eC (.int 0))) (eC (.int 0))) (aCons (eOp (opAddX false) (eIx (eIx (eVar 10) (eC (.int 0))) (eC (.int 1))) (eC (.int 1))) (aNil)))) (aCons (eTup (aCons (eOp (opAddX false) (eIx (eIx (eVar 10) (eC (.int 0))) (eC (.int 0))) (eC (.int 1))) (aCons (eIx (eIx (eVar 10) (eC (.int 0))) (eC (.int 1))) (aNil)))) (aNil)))))) (sRet (eC (.bl false))) (sNil)) (sExpr (eM mExtendX (eVar 9) (aCons (eVar 10) (aNil))))
theorem bodyM_ev {s0 s1 s2 s3 s4 s5 s6 s7 s8 s11 : Option D} {q : Nat} {M : Mem} {acc : List Cell} {t : D} (h : lotB t = true) (e : M[q]? = some (.lst (acc.map encP))) (hl : acc.length ≤ 10000000) :
    bodyM [s0, s1, s2, s3, s4, s5, s6, s7, s8, some (.ref q), some t, s11] M = if tileB t then .nx [s0, s1, s2, s3, s4, s5, s6, s7, s8, some (.ref q), some t, s11] (M.set q (.lst ((acc ++ [(unT t).1, (unT t).2]).map encP))) else .rt (.bl false) M := by
  have hls : isLs M (.ref q) = true := isLs_ref e
  cases t with
  | tup xs =>
    have hall : xs.all cellB = true := h
    by_cases h2 : xs.length = 2
    · obtain ⟨p, r, rfl⟩ : ∃ p r, xs = [p, r] := by
        match xs, h2 with
        | [p, r], _ => exact ⟨p, r, rfl⟩
      simp only [List.all_cons, List.all_nil, Bool.and_true, Bool.and_eq_true] at hall
      have q1 := cellB_enc hall.1
      have q2 := cellB_enc hall.2
      have et : tileB (.tup [p, r]) = tileOk (unP p, unP r) := by show (cellB p && cellB r && _) = _; rw [hall.1, hall.2]; rfl
      have eu : unT (.tup [p, r]) = (unP p, unP r) := rfl
      rw [et, eu]
      generalize unP p = a at q1 ⊢
      generalize unP r = c at q2 ⊢
      subst q1 q2
      have x2 := ext_two (x := encP a) (y := encP c) e (by rw [List.length_map]; exact hl)
      have e3 : acc.map encP ++ [encP a, encP c] = (acc ++ [a, c]).map encP := by rw [List.map_append]; rfl
      rw [e3] at x2
      have hnin : opNin (encP c) (.tup [.tup [.int a.1, .int (a.2 + 1)], .tup [.int (a.1 + 1), .int a.2]]) M = .ok (.bl (!decide (c = (a.1, a.2 + 1) ∨ c = (a.1 + 1, a.2)))) M := by
        have := in_bD (m := M) true [(a.1, a.2 + 1), (a.1 + 1, a.2)] c
        rw [Bool.true_xor] at this
        simp only [List.mem_cons, List.not_mem_nil, or_false] at this
        exact this
      rw [tileOk_iff]
      unfold bodyM
      by_cases hc : c = (a.1, a.2 + 1) ∨ c = (a.1 + 1, a.2)
      · rw [decide_eq_true hc] at hnin ⊢
        simp [ixP0, ixP1, hnin, hls, x2]
      · rw [decide_eq_false hc] at hnin ⊢
        simp [ixP0, ixP1, hnin]
    · have h2' : ¬ (xs.length : Int) = 2 := by omega
      have : tileB (.tup xs) = false := by
        match xs, h2 with
        | [], _ => rfl
        | [_], _ => rfl
        | _ :: _ :: _ :: _, _ => rfl
      rw [this]
      unfold bodyM
      simp [h2']
  | _ => cases h
theorem bodyM_loop {s0 s1 s2 s3 s4 s5 s6 s7 s8 s11 : Option D} {q : Nat} : ∀ (ts : List D) (M : Mem) (acc : List Cell) (s10 : Option D), (∀ t ∈ ts, lotB t = true) → M[q]? = some (.lst (acc.map encP)) → acc.length + 2 * ts.length ≤ 10000000 →
    ∃ s10' o, forL (gN 10) bodyM ts [s0, s1, s2, s3, s4, s5, s6, s7, s8, some (.ref q), s10, s11] M = if ts.all tileB then .nx [s0, s1, s2, s3, s4, s5, s6, s7, s8, some (.ref q), s10', s11] (M.set q (.lst ((acc ++ flatT (ts.map unT)).map encP))) else .rt (.bl false) (M.set q o)
  | [], M, acc, s10, _, e, _ => by
    refine ⟨s10, .lst [], ?_⟩
    have : M.set q (.lst (acc.map encP)) = M := by
      obtain ⟨h, e'⟩ := List.getElem?_eq_some_iff.mp e
      rw [← e']; exact List.set_getElem_self h
    simp [flatT, this]
  | t :: ts, M, acc, s10, hv, e, hl => by
    rw [List.length_cons] at hl
    have h1 := bodyM_ev (s0 := s0) (s1 := s1) (s2 := s2) (s3 := s3) (s4 := s4) (s5 := s5) (s6 := s6) (s7 := s7) (s8 := s8) (s11 := s11) (hv t List.mem_cons_self) e (by omega)
    rw [forL_step (σ1 := [s0, s1, s2, s3, s4, s5, s6, s7, s8, some (.ref q), some t, s11]) (m1 := M) rfl, h1]
    cases et : tileB t with
    | false =>
      refine ⟨s10, .lst (acc.map encP), ?_⟩
      have : M.set q (.lst (acc.map encP)) = M := by
        obtain ⟨h, e'⟩ := List.getElem?_eq_some_iff.mp e
        rw [← e']; exact List.set_getElem_self h
      simp [et, this]
    | true =>
      have hq := (List.getElem?_eq_some_iff.mp e).1
      obtain ⟨s10', o, h2⟩ := bodyM_loop (s0 := s0) (s1 := s1) (s2 := s2) (s3 := s3) (s4 := s4) (s5 := s5) (s6 := s6) (s7 := s7) (s8 := s8) (s11 := s11) ts (M.set q (.lst ((acc ++ [(unT t).1, (unT t).2]).map encP))) (acc ++ [(unT t).1, (unT t).2]) (some t) (fun x hx => hv x (List.mem_cons_of_mem _ hx)) (by rw [List.getElem?_set_self hq]) (by simp; omega)
      refine ⟨s10', o, ?_⟩
      rw [if_pos rfl, turnK_nx, h2]
      have ef : acc ++ [(unT t).1, (unT t).2] ++ flatT (ts.map unT) = acc ++ flatT ((t :: ts).map unT) := by rw [List.append_assoc]; rfl
      rw [List.set_set, List.set_set, ef, List.all_cons, et, Bool.true_and]
end K80
namespace K80
open PySem L2 PD
theorem tile_lot {t : D} (h : tileB t = true) : lotB t = true := by
  unfold tileB at h
  split at h
  · rw [Bool.and_eq_true, Bool.and_eq_true] at h
    simp [lotB, h.1.1, h.1.2]
  · cases h
theorem J1_lot {b : List Cell} {ts : List D} (h : ts.all lotB = false) : J1 b (.tup ts) = false := by
  have : ts.all tileB = false := by
    cases e : ts.all tileB with
    | false => rfl
    | true =>
      have : ts.all lotB = true := List.all_eq_true.mpr fun t ht => tile_lot (List.all_eq_true.mp e t ht)
      rw [h] at this; cases this
  show (ts.all tileB && _) = _
  rw [this, Bool.false_and]
theorem cells_lot {d : D} (h : cellsB d = true) : lotB d = true := by
  cases d with
  | tup ts =>
    have h' : (ts.all cellB && rising ltC (0, 0) (ts.map unP)) = true := h
    rw [Bool.and_eq_true] at h'
    exact h'.1
  | _ => cases h
theorem F_rise (b cs : List Cell) : rising ltC (0, 0) (F b cs) = true := rising_sort (dedP_nodup _)
def blkN : SF := sSeq (sAsg (gT 2 (gsCons (gN 6) (gsCons (gN 7) (gsNil)))) (eVar 2)) (sSeq (sIf (tOrD (tCmp opNe (eLc false [11] (iA range2 (aCons (eC (.int 1)) (aCons (eB bLen (aCons (eVar 6) (aNil))) (aNil)))) (gN 11) (tNotD (tCmp (opOrd .Lt) (eIx (eVar 6) (eOp opSub (eVar 11) (eC (.int 1)))) (eIx (eVar 6) (eVar 11)))) (eVar 11)) (eLst false (aNil))) (tCmp opNe (eLc false [10] (iE (eVar 6)) (gN 10) (tCmp opNin (eVar 10) (eVar 0)) (eVar 10)) (eLst false (aNil)))) (sRet (eC (.bl false))) (sNil)) (sSeq (sIf (tCmp opNe (eLenSet (eLc false [10] (iE (eVar 6)) (gN 10) (tYesD) (eOp opMod (eOp (opAddX false) (eIx (eVar 10) (eC (.int 0))) (eIx (eVar 10) (eC (.int 1)))) (eC (.int 2))))) (eC (.int 1))) (sRet (eC (.bl false))) (sNil)) (sSeq (sSet 8 (eLst true (aNil))) (sSeq (sFor (iE (eVar 6)) (gN 5) bodyG) (sRet (eAnd (eOp opEq (eVar 7) (eB bTuple (aCons (eSortSet false (eVar 8)) (aNil)))) (eOp (opOrd .Lt) (eB bLen (aCons (eVar 7) (aNil))) (eB bLen (aCons (eVar 6) (aNil))))))))))
theorem ne_nil {xs : List D} {m : Mem} (h : shs 59 xs = true) : opNe (.lst xs) (.lst []) m = .ok (.bl (!xs.isEmpty)) m := by
  rw [opNe_of (by rw [deref_lst, sh60_lst]; exact h) rfl]
  simp
theorem eq_nil {xs : List D} {m : Mem} (h : shs 59 xs = true) : opEq (.lst xs) (.lst []) m = .ok (.bl xs.isEmpty) m := by
  rw [opEq_of (by rw [deref_lst, sh60_lst]; exact h) rfl]
  simp
def grid : List Cell := (List.range 5).flatMap fun (i : Nat) => (List.range 5).map fun (j : Nat) => ((i : Int), (j : Int))
theorem par_len {cs : List Cell} (hn : cs.Nodup) (hr : ∀ c ∈ cs, 0 ≤ c.1 ∧ c.1 ≤ 4 ∧ 0 ≤ c.2 ∧ c.2 ≤ 4) (hp : parB cs = true) : cs.length ≤ 13 := by
  have hp' := of_decide_eq_true hp
  rw [uniq_one] at hp'
  obtain ⟨n, r, e, h⟩ := hp'
  have hall : ∀ c ∈ cs, (c.1 + c.2) % 2 = n := fun c hc => by
    have : (c.1 + c.2) % 2 ∈ n :: r := by rw [← e]; exact List.mem_map_of_mem (f := fun c : Cell => (c.1 + c.2) % 2) hc
    rcases List.mem_cons.mp this with h1 | h1
    · exact h1
    · exact h _ h1
  have hg : ∀ c ∈ cs, c ∈ grid.filter fun c => decide ((c.1 + c.2) % 2 = n) := fun c hc => by
    rw [List.mem_filter]
    refine ⟨?_, decide_eq_true (hall c hc)⟩
    have := hr c hc
    unfold grid
    rw [List.mem_flatMap]
    refine ⟨c.1.toNat, List.mem_range.mpr (by omega), ?_⟩
    rw [List.mem_map]
    exact ⟨c.2.toNat, List.mem_range.mpr (by omega), Prod.ext (by show ((c.1.toNat : Nat) : Int) = c.1; omega) (by show ((c.2.toNat : Nat) : Int) = c.2; omega)⟩
  have := nodup_len hn hg
  have hb : (grid.filter fun c => decide ((c.1 + c.2) % 2 = n)).length ≤ 13 := by
    by_cases h0 : n = 0
    · subst h0; decide
    · by_cases h1 : n = 1
      · subst h1; decide
      · have he : (grid.filter fun c => decide ((c.1 + c.2) % 2 = n)) = [] := by
          rw [List.filter_eq_nil_iff]
          intro c hc h
          have := of_decide_eq_true h
          omega
        rw [he]; decide
  omega
theorem blkN_ev {b cs told : List Cell} (B : Brd b) {s1 s3 s4 s5 s9 s10 : Option D} {M : Mem} (hl : cs.length ≤ 100000) : ∃ M', blkN [some (bD b), s1, some (.tup [bD cs, bD told]), s3, s4, s5, none, none, none, s9, s10, none] M = .rt (.bl (rising ltC (0, 0) cs && rising ltC (0, 0) told && J2' b cs told)) M' ∧ Keep M.length M M' := by
  have s0 : sAsg (gT 2 (gsCons (gN 6) (gsCons (gN 7) (gsNil)))) (eVar 2) [some (bD b), s1, some (.tup [bD cs, bD told]), s3, s4, s5, none, none, none, s9, s10, none] M = .nx [some (bD b), s1, some (.tup [bD cs, bD told]), s3, s4, s5, some (bD cs), some (bD told), none, s9, s10, none] M := rfl
  obtain ⟨ks, r1, r2⟩ := rise_none (m := M) (d := ((0, 0) : Cell)) lt_P (xs := cs) (σ := [some (bD b), s1, some (.tup [bD cs, bD told]), s3, s4, s5, some (bD cs), some (bD told), none, s9, s10, none]) (v := 6) (s := 11) rfl (by simp) (by decide) (by omega)
  have kne : opNe (.lst (ks.map D.int)) (.lst []) M = .ok (.bl (!rising ltC (0, 0) cs)) M := by
    rw [ne_nil (shs_map fun _ _ => by simp), List.isEmpty_map, r2]
  have hn0 := newL_f (m := M) (xs := []) (by simp)
  have hsrc : srcOf (bD cs) M = .ok (.its (cs.map encP)) M := rfl
  have a1 : lcL (gN 10) (tCmp opNin (eVar 10) (eVar 0)) (eVar 10) [some (bD b), s1, some (.tup [bD cs, bD told]), s3, s4, s5, some (bD cs), some (bD told), none, s9, none, none] (cs.map encP) M = .ok ((cs.filter fun c => !decide (c ∈ b)).map encP) M :=
    lcL_filter fun c _ => ⟨[some (bD b), s1, some (.tup [bD cs, bD told]), s3, s4, s5, some (bD cs), some (bD told), none, s9, some (encP c), none], rfl, by simp [in_bD], fun _ => rfl⟩
  have n1 := newL_f (m := M) (xs := (cs.filter fun c => !decide (c ∈ b)).map encP) (by rw [List.length_map]; have := List.length_filter_le (fun c => !decide (c ∈ b)) cs; omega)
  have hfe : (cs.filter fun c => !decide (c ∈ b)).isEmpty = cs.all fun c => decide (c ∈ b) := by
    rw [Bool.eq_iff_iff, List.isEmpty_iff, List.filter_eq_nil_iff, List.all_eq_true]
    simp
  have bne : opNe (.lst ((cs.filter fun c => !decide (c ∈ b)).map encP)) (.lst []) M = .ok (.bl (!(cs.all fun c => decide (c ∈ b)))) M := by
    rw [ne_nil (encPs_sh 58 _), List.isEmpty_map, hfe]
  unfold blkN
  rw [sSeq_ap, s0, SRes.then_nx]
  cases eR : rising ltC (0, 0) cs with
  | false =>
    rw [eR] at kne
    refine ⟨M, ?_, Keep.refl _ _⟩
    rw [sSeq_ap, sIf_ap, tOr_ap, tCmp_ap, r1]
    simp only [Res.bind_ok, eLst_ap, aNil_ap, hn0, noexc_ok, kne, asB_ap, Bool.not_false, if_true, Res.st_ok, sRet_ap, eC_ap, SRes.then_rt, Bool.false_and]
  | true =>
    rw [eR] at kne
    cases eA : cs.all (fun c => decide (c ∈ b)) with
    | false =>
      rw [eA] at bne
      have eF : J2' b cs told = false := by unfold J2'; rw [eA]; rfl
      refine ⟨M, ?_, Keep.refl _ _⟩
      rw [eF, sSeq_ap, sIf_ap, tOr_ap, tCmp_ap, r1]
      simp only [Res.bind_ok, eLst_ap, aNil_ap, hn0, noexc_ok, kne, asB_ap, Bool.not_true, Bool.false_eq_true, if_false, tCmp_ap, eLc_ap, iE_ap, eVar_ap, List.getElem?_cons_zero, List.getElem?_cons_succ, hsrc, wipeD, List.set_cons_zero, List.set_cons_succ, lcS_its, a1, n1, bne, Bool.not_false, if_true, Res.st_ok, sRet_ap, eC_ap, SRes.then_rt, Bool.and_false]
    | true =>
      rw [eA] at bne
      have hsub : ∀ c ∈ cs, c ∈ b := fun c hc => of_decide_eq_true (List.all_eq_true.mp eA c hc)
      have hbl := B.len
      have hcl : cs.length ≤ 20 := by have := nodup_len (rising_nodup eR) hsub; omega
      have e1 : sIf (tOrD (tCmp opNe (eLc false [11] (iA range2 (aCons (eC (.int 1)) (aCons (eB bLen (aCons (eVar 6) (aNil))) (aNil)))) (gN 11) (tNotD (tCmp (opOrd .Lt) (eIx (eVar 6) (eOp opSub (eVar 11) (eC (.int 1)))) (eIx (eVar 6) (eVar 11)))) (eVar 11)) (eLst false (aNil))) (tCmp opNe (eLc false [10] (iE (eVar 6)) (gN 10) (tCmp opNin (eVar 10) (eVar 0)) (eVar 10)) (eLst false (aNil)))) (sRet (eC (.bl false))) (sNil) [some (bD b), s1, some (.tup [bD cs, bD told]), s3, s4, s5, some (bD cs), some (bD told), none, s9, s10, none] M = .nx [some (bD b), s1, some (.tup [bD cs, bD told]), s3, s4, s5, some (bD cs), some (bD told), none, s9, s10, none] M := by
        rw [sIf_ap, tOr_ap, tCmp_ap, r1]
        simp only [Res.bind_ok, eLst_ap, aNil_ap, hn0, noexc_ok, kne, asB_ap, Bool.not_true, Bool.false_eq_true, if_false, tCmp_ap, eLc_ap, iE_ap, eVar_ap, List.getElem?_cons_zero, List.getElem?_cons_succ, hsrc, wipeD, List.set_cons_zero, List.set_cons_succ, lcS_its, a1, n1, bne, Res.st_ok, sNil_ap]
      have a2 : lcL (gN 10) tYesD (eOp opMod (eOp (opAddX false) (eIx (eVar 10) (eC (.int 0))) (eIx (eVar 10) (eC (.int 1)))) (eC (.int 2))) [some (bD b), s1, some (.tup [bD cs, bD told]), s3, s4, s5, some (bD cs), some (bD told), none, s9, none, none] (cs.map encP) M = .ok ((cs.map fun c => (c.1 + c.2) % 2).map D.int) M := by
        rw [List.map_map]
        exact lcL_map fun c _ => ⟨[some (bD b), s1, some (.tup [bD cs, bD told]), s3, s4, s5, some (bD cs), some (bD told), none, s9, some (encP c), none], rfl, by
          have hf : fmodD (c.1 + c.2) 2 = (c.1 + c.2) % 2 := fmodD_pos (by decide)
          simp [ixP0, ixP1, hf]⟩
      have n2 := newL_f (m := M) (xs := (cs.map fun c => (c.1 + c.2) % 2).map D.int) (by rw [List.length_map, List.length_map]; omega)
      have pe := parity_ev (m := M) (cs := cs) (by omega)
      cases eP : parB cs with
      | false =>
        have eF : J2' b cs told = false := by unfold J2'; rw [eA, eP]; rfl
        have ep' : decide (((uniqN (cs.map fun c => (c.1 + c.2) % 2) : Nat) : Int) = 1) = false := by
          unfold parB at eP
          rw [decide_eq_false_iff_not] at eP ⊢
          omega
        refine ⟨M, ?_, Keep.refl _ _⟩
        rw [eF, sSeq_ap, e1, SRes.then_nx, sSeq_ap]
        simp only [sIf_ap, tCmp_ap, eLenSet_ap, eLc_ap, iE_ap, eVar_ap, List.getElem?_cons_zero, List.getElem?_cons_succ, Res.bind_ok, hsrc, wipeD, List.set_cons_zero, List.set_cons_succ, lcS_its, a2, noexc_ok, n2, pe, eC_ap, opNe_int, ep', asB_ap, Bool.not_false, if_true, Res.st_ok, sRet_ap, SRes.then_rt, Bool.and_false]
      | true =>
        have ep' : decide (((uniqN (cs.map fun c => (c.1 + c.2) % 2) : Nat) : Int) = 1) = true := by
          unfold parB at eP
          rw [decide_eq_true_eq] at eP ⊢
          omega
        have e2 : sIf (tCmp opNe (eLenSet (eLc false [10] (iE (eVar 6)) (gN 10) (tYesD) (eOp opMod (eOp (opAddX false) (eIx (eVar 10) (eC (.int 0))) (eIx (eVar 10) (eC (.int 1)))) (eC (.int 2))))) (eC (.int 1))) (sRet (eC (.bl false))) (sNil) [some (bD b), s1, some (.tup [bD cs, bD told]), s3, s4, s5, some (bD cs), some (bD told), none, s9, s10, none] M = .nx [some (bD b), s1, some (.tup [bD cs, bD told]), s3, s4, s5, some (bD cs), some (bD told), none, s9, s10, none] M := by
          simp only [sIf_ap, tCmp_ap, eLenSet_ap, eLc_ap, iE_ap, eVar_ap, List.getElem?_cons_zero, List.getElem?_cons_succ, Res.bind_ok, hsrc, wipeD, List.set_cons_zero, List.set_cons_succ, lcS_its, a2, noexc_ok, n2, pe, eC_ap, opNe_int, ep', asB_ap, Bool.not_true, Bool.false_eq_true, if_false, Res.st_ok, sNil_ap]
        have hnt := newL_t (m := M) (xs := []) (by simp)
        have e3 : sSet 8 (eLst true (aNil)) [some (bD b), s1, some (.tup [bD cs, bD told]), s3, s4, s5, some (bD cs), some (bD told), none, s9, s10, none] M = .nx [some (bD b), s1, some (.tup [bD cs, bD told]), s3, s4, s5, some (bD cs), some (bD told), some (.ref M.length), s9, s10, none] (M ++ [.lst []]) := by simp [hnt]
        have hq : (M ++ [MO.lst []])[M.length]? = some (.lst (([] : List Cell).map encP)) := by rw [List.getElem?_append_right (Nat.le_refl _), Nat.sub_self]; rfl
        obtain ⟨s5', h5⟩ := beside_loop (b := b) (s1 := s1) (s2 := some (.tup [bD cs, bD told])) (s3 := s3) (s4 := s4) (s6 := some (bD cs)) (s7 := some (bD told)) (s9 := s9) (s10 := s10) (s11 := none) cs [] (M ++ [.lst []]) s5 hq (by simp; omega)
        have ei : iE (eVar 6) [some (bD b), s1, some (.tup [bD cs, bD told]), s3, s4, s5, some (bD cs), some (bD told), some (.ref M.length), s9, s10, none] (M ++ [.lst []]) = .ok (.its (cs.map encP)) (M ++ [.lst []]) := rfl
        rw [sSeq_ap, e1, SRes.then_nx, sSeq_ap, e2, SRes.then_nx, sSeq_ap, e3, SRes.then_nx, sSeq_ap, sFor_ap, ei, Res.st_ok, forS_its, h5, SRes.then_nx, List.nil_append]
        have kp : ∀ o, Keep M.length M ((M ++ [MO.lst []]).set M.length o) := fun o => (Keep.push (Nat.le_refl _) _).trans (Keep.set (Nat.le_refl _) _)
        refine ⟨_, ?_, kp (.lst ((cs.flatMap (nbrs b)).map encP))⟩
        generalize hM2 : (M ++ [MO.lst []]).set M.length (.lst ((cs.flatMap (nbrs b)).map encP)) = M2
        have eq2 : M2[M.length]? = some (.lst ((cs.flatMap (nbrs b)).map encP)) := by rw [← hM2, List.getElem?_set_self (by simp)]
        have hfb : ∀ c ∈ cs.flatMap (nbrs b), c ∈ b := fun c hc => by
          obtain ⟨d, _, hd⟩ := List.mem_flatMap.mp hc
          exact nbrs_mem hd
        have hfl : ∀ (l : List Cell), (l.flatMap (nbrs b)).length ≤ 4 * l.length := by
          intro l
          induction l with
          | nil => simp
          | cons c l ih =>
            have h4 := nbrs_len b c
            rw [List.flatMap_cons, List.length_append, List.length_cons]
            omega
        have hf14 := hfl cs
        have hcl3 : cs.length ≤ 13 := par_len (rising_nodup eR) (fun c hc => B.rng c (hsub c hc)) eP
        have hsm : smallP (cs.flatMap (nbrs b)) = true := by
          unfold smallP
          rw [Bool.and_eq_true, decide_eq_true_eq, List.all_eq_true]
          refine ⟨by omega, fun c hc => ?_⟩
          have := B.rng c (hfb c hc)
          rw [decide_eq_true_eq]
          omega
        have hFl : (F b cs).length ≤ 30 := by
          unfold F
          rw [sortC_len]
          have := nodup_len (dedP_nodup (cs.flatMap (nbrs b))) (ys := b) fun c hc => hfb c (dedP_mem.mp hc)
          omega
        have hss : opSS false (.ref M.length) M2 = .ok (.lst ((F b cs).map encP)) M2 := by
          unfold opSS
          simp only [deref_ref eq2, pairsI_map, hsm, if_true, sortD_C]
          exact newL_f (by rw [List.length_map]; unfold F at hFl; omega)
        have b2 := bTuple_lst (m := M2) (xs := (F b cs).map encP) (by rw [List.length_map]; omega)
        have eo := eq_bD told (F b cs) M2
        have hll : decide ((told.length : Int) < (cs.length : Int)) = decide (told.length < cs.length) := by rw [decide_eq_decide]; omega
        have eF : J2' b cs told = (decide (F b cs = told) && decide (told.length < cs.length)) := by unfold J2'; rw [eA, eP]; rfl
        rw [eF]
        by_cases hd : told = F b cs
        · have hrt : rising ltC (0, 0) told = true := by rw [hd]; exact F_rise b cs
          rw [decide_eq_true hd] at eo
          rw [decide_eq_true hd.symm, hrt]
          simp [hss, b2, eo]
        · rw [decide_eq_false hd] at eo
          have hd' : ¬ F b cs = told := fun e => hd e.symm
          simp [hss, b2, eo, hd']
theorem J2_lot {b : List Cell} {p r : D} (h : (lotB p && lotB r) = false) : J2 b (.tup [p, r]) = false := by
  show (cellsB p && cellsB r && _) = _
  cases e1 : cellsB p with
  | false => rfl
  | true =>
    cases e2 : cellsB r with
    | false => rfl
    | true => rw [cells_lot e1, cells_lot e2] at h; cases h
theorem J2_bD {b cs told : List Cell} (h1 : lotB (bD cs) = true) (h2 : lotB (bD told) = true) : J2 b (.tup [bD cs, bD told]) = (rising ltC (0, 0) cs && rising ltC (0, 0) told && J2' b cs told) := by
  have e1 : cellsB (bD cs) = rising ltC (0, 0) cs := by
    show ((cs.map encP).all cellB && rising ltC (0, 0) ((cs.map encP).map unP)) = _
    rw [map_un]
    have : (cs.map encP).all cellB = true := h1
    rw [this, Bool.true_and]
  have e2 : cellsB (bD told) = rising ltC (0, 0) told := by
    show ((told.map encP).all cellB && rising ltC (0, 0) ((told.map encP).map unP)) = _
    rw [map_un]
    have : (told.map encP).all cellB = true := h2
    rw [this, Bool.true_and]
  show (cellsB (bD cs) && cellsB (bD told) && J2' b ((cs.map encP).map unP) ((told.map encP).map unP)) = _
  rw [e1, e2, map_un, map_un]
theorem R_lawtiled {n w : Nat} {b : List Cell} (B : Brd b) {says : Bool} {x : D} {M : Mem} (h : vok n w x = true) (hw : w ≤ 100000) : ∃ M', R__law_is_tiled [bD b, .bl says, x] M = .ok (.bl (if says then J1 b x else J2 b x)) M' ∧ Keep M.length M M' := by
  have ht := vok_vt h
  unfold R__law_is_tiled fnR
  have es : startD 12 [bD b, .bl says, x] = [some (bD b), some (.bl says), some x, none, none, none, none, none, none, none, none, none] := rfl
  rw [es]
  have eb : r__law_is_tiled R__law_beside R__law_whole = sSeq (sIf (tNotD (tE (eIsi "tuple" (eVar 2)))) (sRet (eC (.bl false))) (sNil)) (sSeq (sSet 3 (eVar 2)) (sSeq (sIf (tAndD (tNotD (tE (eVar 1))) (tCmp opNe (eB bLen (aCons (eVar 2) (aNil))) (eC (.int 2)))) (sRet (eC (.bl false))) (sNil)) (sSeq (sFor (iE (eVar 3)) (gN 4) bodyL) (sSeq (sIf (tNotD (tE (eVar 1))) blkN (sNil)) (sSeq (sSet 9 (eLst true (aNil))) (sSeq (sFor (iE (eVar 2)) (gN 10) bodyM) (sRet (eAnd (eOp opEq (eB bTuple (aCons (eB (bSortedX false) (aCons (eVar 9) (aNil))) (aNil))) (eVar 0)) (eOp opEq (eLc false [11] (iA range2 (aCons (eC (.int 1)) (aCons (eB bLen (aCons (eVar 2) (aNil))) (aNil)))) (gN 11) (tNotD (tCmp (opOrd .Lt) (eIx (eVar 2) (eOp opSub (eVar 11) (eC (.int 1)))) (eIx (eVar 2) (eVar 11)))) (eVar 11)) (eLst false (aNil))))))))))) := rfl
  rw [eb]
  cases x with
  | tup ts =>
    rw [vok_tup] at h
    have e0 : sIf (tNotD (tE (eIsi "tuple" (eVar 2)))) (sRet (eC (.bl false))) (sNil) [some (bD b), some (.bl says), some (.tup ts), none, none, none, none, none, none, none, none, none] M = .nx [some (bD b), some (.bl says), some (.tup ts), none, none, none, none, none, none, none, none, none] M := by simp
    have e1 : sSet 3 (eVar 2) [some (bD b), some (.bl says), some (.tup ts), none, none, none, none, none, none, none, none, none] M = .nx [some (bD b), some (.bl says), some (.tup ts), some (.tup ts), none, none, none, none, none, none, none, none] M := rfl
    rw [sSeq_ap, e0, SRes.then_nx, sSeq_ap, e1, SRes.then_nx]
    obtain ⟨s4, s5, hlots⟩ := lots_loop (n := n - 1) (w := w) (s0 := some (bD b)) (s1 := some (.bl says)) (s2 := some (.tup ts)) (s3 := some (.tup ts)) (s6 := none) (s7 := none) (s8 := none) (s9 := none) (s11 := none) (M := M) (by omega) ts none none h.2.2
    have ei : iE (eVar 3) [some (bD b), some (.bl says), some (.tup ts), some (.tup ts), none, none, none, none, none, none, none, none] M = .ok (.its ts) M := rfl
    cases says with
    | true =>
      have e2 : sIf (tAndD (tNotD (tE (eVar 1))) (tCmp opNe (eB bLen (aCons (eVar 2) (aNil))) (eC (.int 2)))) (sRet (eC (.bl false))) (sNil) [some (bD b), some (.bl true), some (.tup ts), some (.tup ts), none, none, none, none, none, none, none, none] M = .nx [some (bD b), some (.bl true), some (.tup ts), some (.tup ts), none, none, none, none, none, none, none, none] M := by simp
      rw [sSeq_ap, e2, SRes.then_nx, sSeq_ap, sFor_ap, ei, Res.st_ok, forS_its, hlots, if_pos rfl]
      cases el : ts.all lotB with
      | false => exact ⟨M, by rw [J1_lot el]; rfl, Keep.refl _ _⟩
      | true =>
        have e3 : ∀ s4 s5 : Option D, sIf (tNotD (tE (eVar 1))) blkN (sNil) [some (bD b), some (.bl true), some (.tup ts), some (.tup ts), s4, s5, none, none, none, none, none, none] M = .nx [some (bD b), some (.bl true), some (.tup ts), some (.tup ts), s4, s5, none, none, none, none, none, none] M := fun s4 s5 => by simp
        have hnt := newL_t (m := M) (xs := []) (by simp)
        have e4 : ∀ s4 s5 : Option D, sSet 9 (eLst true (aNil)) [some (bD b), some (.bl true), some (.tup ts), some (.tup ts), s4, s5, none, none, none, none, none, none] M = .nx [some (bD b), some (.bl true), some (.tup ts), some (.tup ts), s4, s5, none, none, none, some (.ref M.length), none, none] (M ++ [.lst []]) := fun s4 s5 => by simp [hnt]
        have hq : (M ++ [MO.lst []])[M.length]? = some (.lst (([] : List Cell).map encP)) := by rw [List.getElem?_append_right (Nat.le_refl _), Nat.sub_self]; rfl
        obtain ⟨s10, o, h5⟩ := bodyM_loop (s0 := some (bD b)) (s1 := some (.bl true)) (s2 := some (.tup ts)) (s3 := some (.tup ts)) (s4 := s4) (s5 := s5) (s6 := none) (s7 := none) (s8 := none) (s11 := none) ts (M ++ [.lst []]) [] none (fun t ht => List.all_eq_true.mp el t ht) hq (by simp; omega)
        have ei2 : iE (eVar 2) [some (bD b), some (.bl true), some (.tup ts), some (.tup ts), s4, s5, none, none, none, some (.ref M.length), none, none] (M ++ [.lst []]) = .ok (.its ts) (M ++ [.lst []]) := rfl
        rw [if_pos rfl, SRes.then_nx, sSeq_ap, e3, SRes.then_nx, sSeq_ap, e4, SRes.then_nx, sSeq_ap, sFor_ap, ei2, Res.st_ok, forS_its, h5]
        have kp : ∀ o, Keep M.length M ((M ++ [MO.lst []]).set M.length o) := fun o => (Keep.push (Nat.le_refl _) _).trans (Keep.set (Nat.le_refl _) _)
        cases ha : ts.all tileB with
        | false =>
          have eJ : J1 b (.tup ts) = false := by show (ts.all tileB && _) = _; rw [ha, Bool.false_and]
          exact ⟨_, by rw [eJ]; rfl, kp o⟩
        | true =>
          have eJ : J1 b (.tup ts) = (rising ltT ((0, 0), (0, 0)) (ts.map unT) && decide (sortC (flatT (ts.map unT)) = b)) := by show (ts.all tileB && _) = _; rw [ha, Bool.true_and]
          rw [if_pos rfl, SRes.then_nx, List.nil_append, eJ]
          refine ⟨_, ?_, kp (.lst ((flatT (ts.map unT)).map encP))⟩
          generalize hM2 : (M ++ [MO.lst []]).set M.length (.lst ((flatT (ts.map unT)).map encP)) = M2
          have eq2 : M2[M.length]? = some (.lst ((flatT (ts.map unT)).map encP)) := by rw [← hM2, List.getElem?_set_self (by simp)]
          have hfl : (flatT (ts.map unT)).length ≤ 10000000 := by rw [flatT_len, List.length_map]; omega
          obtain ⟨ks, r1, r2⟩ := rise_none (m := M2) (d := (((0, 0), (0, 0)) : Tile)) lt_T (xs := ts.map unT) (σ := [some (bD b), some (.bl true), some (.tup ts), some (.tup ts), s4, s5, none, none, none, some (.ref M.length), s10, none]) (v := 2) (s := 11) (by rw [← tiles_enc ha]; rfl) (by simp) (by decide) (by rw [List.length_map]; omega)
          have keq : opEq (.lst (ks.map D.int)) (.lst []) M2 = .ok (.bl (rising ltT ((0, 0), (0, 0)) (ts.map unT))) M2 := by
            rw [eq_nil (shs_map fun _ _ => by simp), List.isEmpty_map, r2]
          have s2 : bSortedX false [.ref M.length] M2 = .ok (.lst ((sortC (flatT (ts.map unT))).map encP)) M2 := by
            rw [bSX_ref eq2 (canSort_P _), sortD_C]
            exact newL_f (by rw [List.length_map, sortC_len]; omega)
          have b2 := bTuple_lst (m := M2) (xs := (sortC (flatT (ts.map unT))).map encP) (by rw [List.length_map, sortC_len]; omega)
          have hn0 := newL_f (m := M2) (xs := []) (by simp)
          have eo := eq_bD (sortC (flatT (ts.map unT))) b M2
          have ex : (eOp opEq (eLc false [11] (iA range2 (aCons (eC (.int 1)) (aCons (eB bLen (aCons (eVar 2) (aNil))) (aNil)))) (gN 11) (tNotD (tCmp (opOrd .Lt) (eIx (eVar 2) (eOp opSub (eVar 11) (eC (.int 1)))) (eIx (eVar 2) (eVar 11)))) (eVar 11)) (eLst false (aNil))) [some (bD b), some (.bl true), some (.tup ts), some (.tup ts), s4, s5, none, none, none, some (.ref M.length), s10, none] M2 = .ok (.bl (rising ltT ((0, 0), (0, 0)) (ts.map unT))) M2 := by
            rw [eOp_ap, r1]
            simp only [Res.bind_ok, eLst_ap, aNil_ap, hn0, noexc_ok, keq]
          rw [sRet_ap, eAnd_ap]
          have ey : (eOp opEq (eB bTuple (aCons (eB (bSortedX false) (aCons (eVar 9) (aNil))) (aNil))) (eVar 0)) [some (bD b), some (.bl true), some (.tup ts), some (.tup ts), s4, s5, none, none, none, some (.ref M.length), s10, none] M2 = .ok (.bl (decide (sortC (flatT (ts.map unT)) = b))) M2 := by
            simp [s2, b2, eo]
          rw [ey, Res.bind_ok, asB_ap, Res.bind_ok]
          cases hd : decide (sortC (flatT (ts.map unT)) = b) with
          | false => simp
          | true => rw [if_pos rfl, ex]; simp
    | false =>
      by_cases h2 : ts.length = 2
      · obtain ⟨p, r, rfl⟩ : ∃ p r, ts = [p, r] := by
          match ts, h2 with
          | [p, r], _ => exact ⟨p, r, rfl⟩
        have e2 : sIf (tAndD (tNotD (tE (eVar 1))) (tCmp opNe (eB bLen (aCons (eVar 2) (aNil))) (eC (.int 2)))) (sRet (eC (.bl false))) (sNil) [some (bD b), some (.bl false), some (.tup [p, r]), some (.tup [p, r]), none, none, none, none, none, none, none, none] M = .nx [some (bD b), some (.bl false), some (.tup [p, r]), some (.tup [p, r]), none, none, none, none, none, none, none, none] M := by simp
        rw [sSeq_ap, e2, SRes.then_nx, sSeq_ap, sFor_ap, ei, Res.st_ok, forS_its, hlots, if_neg Bool.false_ne_true]
        cases el : [p, r].all lotB with
        | false =>
          refine ⟨M, ?_, Keep.refl _ _⟩
          rw [J2_lot (by simpa using el)]
          rfl
        | true =>
          rw [if_pos rfl, SRes.then_nx]
          have hpr : lotB p = true ∧ lotB r = true := by simpa using el
          have q1 := lotB_enc hpr.1
          have q2 := lotB_enc hpr.2
          have hp := h.2.2 p (by simp)
          have lc : (cellsOf p).length ≤ 100000 := by
            rw [q1, vok_tup, List.length_map] at hp
            omega
          have hpr' := hpr
          generalize cellsOf p = cs at q1 lc
          generalize cellsOf r = told at q2
          subst q1 q2
          obtain ⟨M', hb, kp⟩ := blkN_ev (b := b) (cs := cs) (told := told) B (s1 := some (.bl false)) (s3 := some (.tup [bD cs, bD told])) (s4 := s4) (s5 := s5) (s9 := none) (s10 := none) (M := M) lc
          refine ⟨M', ?_, kp⟩
          rw [J2_bD hpr'.1 hpr'.2]
          have e3 : sIf (tNotD (tE (eVar 1))) blkN (sNil) [some (bD b), some (.bl false), some (.tup [bD cs, bD told]), some (.tup [bD cs, bD told]), s4, s5, none, none, none, none, none, none] M = blkN [some (bD b), some (.bl false), some (.tup [bD cs, bD told]), some (.tup [bD cs, bD told]), s4, s5, none, none, none, none, none, none] M := by simp
          rw [sSeq_ap, e3, hb, SRes.then_rt]
      · have h2' : ¬ (ts.length : Int) = 2 := by omega
        have eJ : J2 b (.tup ts) = false := by
          match ts, h2 with
          | [], _ => rfl
          | [_], _ => rfl
          | _ :: _ :: _ :: _, _ => rfl
        exact ⟨M, by rw [if_neg Bool.false_ne_true, eJ]; simp [h2'], Keep.refl _ _⟩
  | ref _ => cases ht
  | adr _ => cases ht
  | scr _ => cases ht
  | _ => exact ⟨M, by cases says <;> simp [isi_tup ht, isTp, J1, J2], Keep.refl _ _⟩
end K80
namespace K80
open PySem L2 PD
/-! ### neighbours -/
def adj (c d : Cell) : Prop := (d.1 = c.1 ∧ (d.2 = c.2 + 1 ∨ d.2 = c.2 - 1)) ∨ (d.2 = c.2 ∧ (d.1 = c.1 + 1 ∨ d.1 = c.1 - 1))
theorem adj_symm {c d : Cell} (h : adj c d) : adj d c := by unfold adj at *; omega
theorem adj_par {c d : Cell} (h : adj c d) : (c.1 + c.2) % 2 ≠ (d.1 + d.2) % 2 := by unfold adj at h; omega
theorem adj_ne {c d : Cell} (h : adj c d) : c ≠ d := fun e => by subst e; exact adj_par h rfl
theorem nbrs_iff {b : List Cell} {c d : Cell} : d ∈ nbrs b c ↔ d ∈ b ∧ adj c d := by
  unfold nbrs
  rw [List.mem_filter, decide_eq_true_eq]
  simp only [List.mem_cons, List.not_mem_nil, or_false, Prod.ext_iff]
  unfold adj
  constructor
  · rintro ⟨h, hb⟩
    exact ⟨hb, by omega⟩
  · rintro ⟨hb, h⟩
    exact ⟨by omega, hb⟩
/-! ### a mate is found -/
theorem look_put {α : Type} (mate : List (Cell × α)) (x z : Cell) (c : α) : look (put mate x c) z = if z = x then some c else look mate z := by
  unfold put
  split
  · rename_i h
    unfold look at h ⊢
    induction mate with
    | nil => cases h
    | cons p r ih =>
      rw [List.map_cons, List.find?_cons, List.find?_cons]
      by_cases hp : p.1 = x
      · rw [if_pos hp]
        simp only
        by_cases hz : z = x
        · subst hz
          simp [hp]
        · rw [if_neg hz]
          have hpz : ¬ p.1 = z := fun e => hz (e.symm.trans hp)
          simp only [hpz, decide_false]
          clear ih h
          induction r with
          | nil => rfl
          | cons q r ih2 =>
            rw [List.map_cons, List.find?_cons, List.find?_cons]
            by_cases hq : q.1 = x
            · rw [if_pos hq]
              have hqz : ¬ q.1 = z := fun e => hz (e.symm.trans hq)
              simp only [hqz, decide_false]
              exact ih2
            · rw [if_neg hq]
              by_cases hqz : q.1 = z
              · simp [hqz]
              · simp only [hqz, decide_false]
                exact ih2
      · rw [if_neg hp]
        have h' : ((r.find? fun p => decide (p.1 = x)).map (·.2)).isSome = true := by
          rw [List.find?_cons] at h
          simpa [hp] using h
        by_cases hpz : p.1 = z
        · have hzx : ¬ z = x := fun e => hp (hpz.trans e)
          simp [hpz, hzx]
        · simp only [hpz, decide_false]
          exact ih h'
  · rename_i h
    have hn : look mate x = none := by
      cases e : look mate x with
      | none => rfl
      | some v => rw [e] at h; exact absurd rfl h
    unfold look at hn ⊢
    rw [List.find?_append]
    by_cases hz : z = x
    · subst hz
      rw [if_pos rfl]
      rw [Option.map_eq_none_iff] at hn
      rw [hn]
      simp
    · rw [if_neg hz]
      have hxz : ¬ x = z := fun e => hz e.symm
      cases e : mate.find? fun p => decide (p.1 = z) with
      | none => simp [hxz]
      | some q => simp
/-- before a call: no two share a mate; who has c already is met -/
structure Pre (mate : Mate) (met : List Cell) (c : Cell) : Prop where
  inj : ∀ x z v, look mate x = some v → look mate z = some v → x = z
  old : ∀ x, look mate x = some c → x ∈ met
/-- behind a call that found a mate -/
structure Post (mate : Mate) (met : List Cell) (c : Cell) (mate' : Mate) : Prop where
  same : ∀ x ∈ met, look mate' x = look mate x
  inj : ∀ x z v, v ≠ c → look mate' x = some v → look mate' z = some v → x = z
  injc : ∀ x z, x ∉ met → z ∉ met → look mate' x = some c → look mate' z = some c → x = z
  has : ∃ x, x ∉ met ∧ look mate' x = some c
  keep : ∀ x v, look mate x = some v → ∃ z, look mate' z = some v
  few : ∀ x v, look mate' x = some v → v = c ∨ ∃ z, look mate z = some v
def Adj (mate : Mate) : Prop := ∀ x v, look mate x = some v → adj v x
theorem Adj.put {mate : Mate} {x c : Cell} (a : Adj mate) (h : adj c x) : Adj (put mate x c) := fun z v e => by
  rw [look_put] at e
  split at e
  · rename_i hz
    cases e
    rw [hz]; exact h
  · exact a z v e
theorem widL_true {W : Cell → Mate → List Cell → Way} {c : Cell} 
    (hF : ∀ y mate met, (W y mate met).1 = false → (W y mate met).2.1 = mate ∧ ∀ x ∈ met, x ∈ (W y mate met).2.2)
    (hT : ∀ y mate met, Pre mate met y → Adj mate → (W y mate met).1 = true → Post mate met y (W y mate met).2.1 ∧ Adj (W y mate met).2.1) : ∀ (xs : List Cell) (mate : Mate) (met : List Cell), (∀ x ∈ xs, adj c x) → Pre mate met c → Adj mate → (widL W c xs mate met).1 = true →
    Post mate met c (widL W c xs mate met).2.1 ∧ Adj (widL W c xs mate met).2.1
  | [], mate, met, _, _, _, h => by cases h
  | x :: xs, mate, met, ha, P, A, h => by
    have hax := ha x List.mem_cons_self
    have ha' : ∀ x ∈ xs, adj c x := fun z hz => ha z (List.mem_cons_of_mem _ hz)
    unfold widL at h ⊢
    by_cases hm : x ∈ met
    · rw [if_pos hm] at h ⊢
      exact widL_true hF hT xs mate met ha' P A h
    · rw [if_neg hm] at h ⊢
      cases e : look mate x with
      | none =>
        simp only
        refine ⟨⟨fun z hz => ?_, fun u z v hv h1 h2 => ?_, fun u z hu hz h1 h2 => ?_, ⟨x, hm, by rw [look_put, if_pos rfl]⟩, fun z v hz => ⟨z, ?_⟩, fun z v hz => ?_⟩, A.put hax⟩
        · rw [look_put, if_neg (fun e => hm (by rw [← e]; exact hz))]
        · rw [look_put] at h1 h2
          split at h1
          · cases h1; exact absurd rfl hv
          · split at h2
            · cases h2; exact absurd rfl hv
            · exact P.inj u z v h1 h2
        · rw [look_put] at h1 h2
          split at h1
          · split at h2
            · rename_i a1 a2; rw [a1, a2]
            · exact absurd (P.old z h2) hz
          · exact absurd (P.old u h1) hu
        · rw [look_put, if_neg (fun e2 => by rw [e2, e] at hz; cases hz)]
          exact hz
        · rw [look_put] at hz
          split at hz
          · cases hz; exact .inl rfl
          · exact .inr ⟨z, hz⟩
      | some y =>
        rw [e] at h
        simp only at h ⊢
        have hyc : y ≠ c := fun ec => hm (P.old x (by rw [e, ec]))
        have Py : Pre mate (met ++ [x]) y := ⟨P.inj, fun z hz => by rw [P.inj z x y hz e]; simp⟩
        by_cases hr : (W y mate (met ++ [x])).1 = true
        · rw [if_pos hr]
          obtain ⟨Q, A2⟩ := hT y mate (met ++ [x]) Py A hr
          generalize (W y mate (met ++ [x])).2.1 = m2 at Q A2
          have sx : look m2 x = some y := by rw [Q.same x (by simp), e]
          refine ⟨⟨fun z hz => ?_, fun u z v hv h1 h2 => ?_, fun u z hu hz h1 h2 => ?_, ⟨x, hm, by rw [look_put, if_pos rfl]⟩, fun z v hz => ?_, fun z v hz => ?_⟩, A2.put hax⟩
          · rw [look_put, if_neg (fun e => hm (by rw [← e]; exact hz)), Q.same z (by simp [hz])]
          · rw [look_put] at h1 h2
            split at h1
            · cases h1; exact absurd rfl hv
            · rename_i ux
              split at h2
              · cases h2; exact absurd rfl hv
              · rename_i zx
                by_cases hvy : v = y
                · subst hvy
                  have out : ∀ u, u ≠ x → look m2 u = some v → u ∉ met ++ [x] := fun u ne hu hin => by
                    rw [Q.same u hin] at hu
                    exact ne (P.inj u x v hu e)
                  exact Q.injc u z (out u ux h1) (out z zx h2) h1 h2
                · exact Q.inj u z v hvy h1 h2
          · have all : ∀ u, u ∉ met → look (put m2 x c) u = some c → u = x := fun u hu h1 => by
              rw [look_put] at h1
              split at h1
              · rename_i ux; exact ux
              · rcases Q.few u c h1 with e1 | ⟨w, hw⟩
                · exact absurd e1.symm hyc
                · have hw' := P.old w hw
                  have : look m2 w = some c := by rw [Q.same w (by simp [hw']), hw]
                  have := Q.inj u w c hyc.symm h1 this
                  exact absurd (by rw [this]; exact hw') hu
            rw [all u hu h1, all z hz h2]
          · obtain ⟨w, hw⟩ := Q.keep z v hz
            by_cases hwx : w = x
            · subst hwx
              rw [sx] at hw
              cases hw
              obtain ⟨w2, hn, hw2⟩ := Q.has
              refine ⟨w2, ?_⟩
              rw [look_put, if_neg (fun e => hn (by rw [e]; simp))]
              exact hw2
            · exact ⟨w, by rw [look_put, if_neg hwx]; exact hw⟩
          · rw [look_put] at hz
            split at hz
            · cases hz; exact .inl rfl
            · rcases Q.few z v hz with e1 | h2
              · exact .inr ⟨x, by rw [e, e1]⟩
              · exact .inr h2
        · rw [if_neg hr] at h ⊢
          have hr' : (W y mate (met ++ [x])).1 = false := by simpa using hr
          obtain ⟨em, hs⟩ := hF y mate (met ++ [x]) hr'
          rw [em] at h ⊢
          generalize (W y mate (met ++ [x])).2.2 = met2 at h hs ⊢
          obtain ⟨Q, A2⟩ := widL_true hF hT xs mate met2 ha' ⟨P.inj, fun z hz => hs z (by simp [P.old z hz])⟩ A h
          refine ⟨⟨fun z hz => Q.same z (hs z (by simp [hz])), Q.inj, fun u z hu hz h1 h2 => ?_, ?_, Q.keep, Q.few⟩, A2⟩
          · have out : ∀ u, u ∉ met → look (widL W c xs mate met2).2.1 u = some c → u ∉ met2 := fun u hu h1 hin => by
              rw [Q.same u hin] at h1
              exact hu (P.old u h1)
            exact Q.injc u z (out u hu h1) (out z hz h2) h1 h2
          · obtain ⟨w, hw, h1⟩ := Q.has
            exact ⟨w, fun hin => hw (hs w (by simp [hin])), h1⟩
theorem widL_false {W : Cell → Mate → List Cell → Way} {c : Cell} (hF : ∀ y mate met, (W y mate met).1 = false → (W y mate met).2.1 = mate ∧ ∀ x ∈ met, x ∈ (W y mate met).2.2) :
    ∀ (xs : List Cell) (mate : Mate) (met : List Cell), (widL W c xs mate met).1 = false → (widL W c xs mate met).2.1 = mate ∧ ∀ x ∈ met, x ∈ (widL W c xs mate met).2.2
  | [], mate, met, _ => ⟨rfl, fun _ h => h⟩
  | x :: xs, mate, met, h => by
    unfold widL at h ⊢
    by_cases hm : x ∈ met
    · rw [if_pos hm] at h ⊢
      exact widL_false hF xs mate met h
    · rw [if_neg hm] at h ⊢
      cases e : look mate x with
      | none => rw [e] at h; cases h
      | some y =>
        rw [e] at h
        simp only at h ⊢
        by_cases hr : (W y mate (met ++ [x])).1 = true
        · rw [if_pos hr] at h; cases h
        · rw [if_neg hr] at h ⊢
          obtain ⟨em, hs⟩ := hF y mate (met ++ [x]) (by simpa using hr)
          obtain ⟨h1, h2⟩ := widL_false hF xs _ _ h
          exact ⟨h1.trans em, fun z hz => h2 z (hs z (by simp [hz]))⟩
theorem wid_false (b : List Cell) : ∀ (n : Nat) (c : Cell) (mate : Mate) (met : List Cell), (wid b n c mate met).1 = false → (wid b n c mate met).2.1 = mate ∧ ∀ x ∈ met, x ∈ (wid b n c mate met).2.2
  | 0, c, mate, met, _ => ⟨rfl, fun _ h => h⟩
  | n + 1, c, mate, met, h => widL_false (wid_false b n) _ _ _ h
theorem wid_true (b : List Cell) : ∀ (n : Nat) (c : Cell) (mate : Mate) (met : List Cell), Pre mate met c → Adj mate → (wid b n c mate met).1 = true → Post mate met c (wid b n c mate met).2.1 ∧ Adj (wid b n c mate met).2.1
  | 0, c, mate, met, _, _, h => by cases h
  | n + 1, c, mate, met, P, A, h => widL_true (wid_false b n) (fun y mate met P A h => wid_true b n y mate met P A h) _ _ _ (fun x hx => (nbrs_iff.mp hx).2) P A h
/-! ### none is found -/
structure Shut (b : List Cell) (mate : Mate) (c : Cell) (more out : List Cell) : Prop where
  ext : ∀ x ∈ more, ∃ y, look mate x = some y ∧ ∀ z ∈ nbrs b y, z ∈ out
  src : ∀ x ∈ more, x ∈ nbrs b c ∨ ∃ z ∈ more, ∃ v, look mate z = some v ∧ x ∈ nbrs b v
theorem widL_shut {b : List Cell} {n : Nat} {c : Cell} (hc : c ∈ b) (hW : ∀ y mate met, y ∈ b → WI b mate met → b.length < n + met.length → (wid b n y mate met).1 = false → ∃ more, (wid b n y mate met).2.2 = met ++ more ∧ (∀ x ∈ nbrs b y, x ∈ met ++ more) ∧ Shut b mate y more (met ++ more)) :
    ∀ (xs : List Cell) (mate : Mate) (met : List Cell), (∀ x ∈ xs, x ∈ nbrs b c) → WI b mate met → b.length < n + 1 + met.length → (widL (wid b n) c xs mate met).1 = false →
    ∃ more, (widL (wid b n) c xs mate met).2.2 = met ++ more ∧ (∀ x ∈ xs, x ∈ met ++ more) ∧ Shut b mate c more (met ++ more)
  | [], mate, met, _, w, _, _ => ⟨[], by simp [widL], (fun x h => by cases h), (fun x h => by cases h), (fun x h => by cases h)⟩
  | x :: xs, mate, met, hs, w, hf, h => by
    have hxn := hs x List.mem_cons_self
    have hx := nbrs_mem hxn
    have hs' : ∀ x ∈ xs, x ∈ nbrs b c := fun y hy => hs y (List.mem_cons_of_mem _ hy)
    unfold widL at h ⊢
    by_cases hm : x ∈ met
    · rw [if_pos hm] at h ⊢
      obtain ⟨more, e1, h1, h2⟩ := widL_shut hc hW xs mate met hs' w hf h
      refine ⟨more, e1, fun z hz => ?_, h2⟩
      rcases List.mem_cons.mp hz with rfl | hz
      · simp [hm]
      · exact h1 z hz
    · rw [if_neg hm] at h ⊢
      have w1 := w.met hx hm
      cases e : look mate x with
      | none => rw [e] at h; cases h
      | some y =>
        have hy : y ∈ b := w.vs _ (mem_keys e)
        rw [e] at h
        simp only at h ⊢
        by_cases hr : (wid b n y mate (met ++ [x])).1 = true
        · rw [if_pos hr] at h; cases h
        · rw [if_neg hr] at h ⊢
          have hr' : (wid b n y mate (met ++ [x])).1 = false := by simpa using hr
          obtain ⟨m1, q1, q2, q3⟩ := hW y mate (met ++ [x]) hy w1 (by rw [List.length_append, List.length_singleton]; omega) hr'
          have em := (wid_false b n y mate (met ++ [x]) hr').1
          have w2 := (wid_ok n y mate (met ++ [x]) hy w1).inv
          rw [em] at h w2 ⊢
          rw [q1] at h w2 ⊢
          obtain ⟨m2, p1, p2, p3⟩ := widL_shut hc hW xs mate (met ++ [x] ++ m1) hs' w2 (by simp only [List.length_append, List.length_singleton]; omega) h
          refine ⟨x :: (m1 ++ m2), by rw [p1]; simp, fun z hz => ?_, fun z hz => ?_, fun z hz => ?_⟩
          · rcases List.mem_cons.mp hz with rfl | hz
            · simp
            · have := p2 z hz
              simp only [List.mem_append, List.mem_singleton, List.mem_cons] at this ⊢
              grind
          · rcases List.mem_cons.mp hz with rfl | hz
            · refine ⟨y, e, fun u hu => ?_⟩
              have := q2 u hu
              simp only [List.mem_append, List.mem_singleton, List.mem_cons] at this ⊢
              grind
            · rcases List.mem_append.mp hz with hz | hz
              · obtain ⟨v, h1, h2⟩ := q3.ext z hz
                refine ⟨v, h1, fun u hu => ?_⟩
                have := h2 u hu
                simp only [List.mem_append, List.mem_singleton, List.mem_cons] at this ⊢
                grind
              · obtain ⟨v, h1, h2⟩ := p3.ext z hz
                refine ⟨v, h1, fun u hu => ?_⟩
                have := h2 u hu
                simp only [List.mem_append, List.mem_singleton, List.mem_cons] at this ⊢
                grind
          · rcases List.mem_cons.mp hz with rfl | hz
            · exact .inl hxn
            · rcases List.mem_append.mp hz with hz | hz
              · rcases q3.src z hz with h1 | ⟨u, hu, v, h1, h2⟩
                · exact .inr ⟨x, List.mem_cons_self, y, e, h1⟩
                · exact .inr ⟨u, List.mem_cons_of_mem _ (List.mem_append_left _ hu), v, h1, h2⟩
              · rcases p3.src z hz with h1 | ⟨u, hu, v, h1, h2⟩
                · exact .inl h1
                · exact .inr ⟨u, List.mem_cons_of_mem _ (List.mem_append_right _ hu), v, h1, h2⟩
theorem wid_shut {b : List Cell} : ∀ (n : Nat) (c : Cell) (mate : Mate) (met : List Cell), c ∈ b → WI b mate met → b.length < n + met.length → (wid b n c mate met).1 = false → ∃ more, (wid b n c mate met).2.2 = met ++ more ∧ (∀ x ∈ nbrs b c, x ∈ met ++ more) ∧ Shut b mate c more (met ++ more)
  | 0, c, mate, met, _, w, hf, _ => by
    have := nodup_len w.nd w.sub
    omega
  | n + 1, c, mate, met, hc, w, hf, h => widL_shut hc (fun y mate met hy w hf h => wid_shut n y mate met hy w hf h) _ mate met (fun x hx => hx) w hf h
end K80
namespace K80
open PySem L2 PD
/-! ### what dominoes holds -/
theorem look_of_mem {α : Type} : ∀ {mate : List (Cell × α)} {x : Cell} {v : α}, (mate.map (·.1)).Nodup → (x, v) ∈ mate → look mate x = some v
  | p :: r, x, v, hn, h => by
    rw [List.map_cons, List.nodup_cons] at hn
    unfold look
    rw [List.find?_cons]
    rcases List.mem_cons.mp h with rfl | h
    · simp
    · have hp : ¬ p.1 = x := fun e => hn.1 (by rw [e]; exact List.mem_map_of_mem (f := (·.1)) h)
      simp only [hp, decide_false]
      exact look_of_mem hn.2 h
structure MI (b ps : List Cell) (mate : Mate) : Prop where
  wi : WI b mate []
  inj : ∀ x z v, look mate x = some v → look mate z = some v → x = z
  adj : Adj mate
  vals : ∀ v, (∃ x, look mate x = some v) ↔ v ∈ ps
theorem MI.nil (b : List Cell) : MI b [] [] := ⟨WI.nil b, (fun x z v h _ => by cases h), (fun x v h => by cases h), fun v => ⟨(fun ⟨x, h⟩ => by cases h), (fun h => by cases h)⟩⟩
structure Few (b ps cells met : List Cell) : Prop where
  nd : cells.Nodup
  ndm : met.Nodup
  len : cells.length = met.length + 1
  sub : ∀ c ∈ cells, c ∈ ps
  inb : ∀ c ∈ cells, c ∈ b
  shut : ∀ c ∈ cells, ∀ z ∈ nbrs b c, z ∈ met
  src : ∀ x ∈ met, ∃ c ∈ cells, x ∈ nbrs b c
theorem domC_ok {b : List Cell} (hb : b.length < 40) : ∀ (cs ps : List Cell) (mate : Mate), (∀ c ∈ cs, c ∈ b) → cs.Nodup → (∀ c ∈ cs, c ∉ ps) → MI b ps mate →
    match domC b cs mate with
    | .inl r => Few b (ps ++ cs) r.1 r.2
    | .inr mate' => MI b (ps ++ cs) mate'
  | [], ps, mate, _, _, _, I => by rw [List.append_nil]; exact I
  | c :: cs, ps, mate, hs, hn, hd, I => by
    have hc := hs c List.mem_cons_self
    rw [List.nodup_cons] at hn
    have hcp := hd c List.mem_cons_self
    have P : Pre mate [] c := ⟨I.inj, fun x h => absurd ((I.vals c).mp ⟨x, h⟩) hcp⟩
    have hwp := wid_ok 40 c mate [] hc I.wi
    unfold domC
    cases hr : (wid b 40 c mate []).1 with
    | true =>
      rw [if_pos rfl]
      obtain ⟨Q, A⟩ := wid_true b 40 c mate [] P I.adj hr
      have I' : MI b (ps ++ [c]) (wid b 40 c mate []).2.1 := ⟨hwp.inv.clear, fun x z v h1 h2 => by
        by_cases hv : v = c
        · subst hv; exact Q.injc x z (by simp) (by simp) h1 h2
        · exact Q.inj x z v hv h1 h2, A, fun v => by
        rw [List.mem_append, List.mem_singleton]
        constructor
        · rintro ⟨x, h⟩
          rcases Q.few x v h with h1 | h1
          · exact .inr h1
          · exact .inl ((I.vals v).mp h1)
        · rintro (h | h)
          · obtain ⟨x, hx⟩ := (I.vals v).mpr h
            exact Q.keep x v hx
          · subst h
            obtain ⟨x, _, hx⟩ := Q.has
            exact ⟨x, hx⟩⟩
      have := domC_ok hb cs (ps ++ [c]) (wid b 40 c mate []).2.1 (fun z hz => hs z (List.mem_cons_of_mem _ hz)) hn.2 (fun z hz h => by
        rcases List.mem_append.mp h with h | h
        · exact hd z (List.mem_cons_of_mem _ hz) h
        · rw [List.mem_singleton] at h; subst h; exact hn.1 hz) I'
      rw [List.append_assoc] at this
      exact this
    | false =>
      rw [if_neg Bool.false_ne_true]
      obtain ⟨more, e1, h1, h2⟩ := wid_shut 40 c mate [] hc I.wi (by simp; omega) hr
      have em := (wid_false b 40 c mate [] hr).1
      have hnd := hwp.inv.nd
      rw [List.nil_append] at e1 h1 h2
      rw [em]
      rw [e1] at hnd ⊢
      show Few b (ps ++ c :: cs) (c :: more.map fun x => (look mate x).getD (0, 0)) more
      have hv : ∀ d, d ∈ more.map (fun x => (look mate x).getD (0, 0)) → ∃ x ∈ more, look mate x = some d := fun d hd => by
        obtain ⟨x, hx, rfl⟩ := List.mem_map.mp hd
        obtain ⟨y, hy, _⟩ := h2.ext x hx
        exact ⟨x, hx, by rw [hy]; rfl⟩
      refine ⟨?_, hnd, by simp, fun d hd => ?_, fun d hd => ?_, fun d hd => ?_, fun x hx => ?_⟩
      · rw [List.nodup_cons]
        refine ⟨fun h => ?_, ?_⟩
        · obtain ⟨x, _, hx⟩ := hv c h
          exact hcp ((I.vals c).mp ⟨x, hx⟩)
        · unfold List.Nodup
          rw [List.pairwise_map]
          refine List.Pairwise.imp_of_mem (fun {x z} hx hz hne e => hne ?_) hnd
          obtain ⟨y, hy, _⟩ := h2.ext x hx
          obtain ⟨y2, hy2, _⟩ := h2.ext z hz
          rw [hy, hy2] at e
          have e' : y = y2 := e
          subst e'
          exact I.inj x z y hy hy2
      · rcases List.mem_cons.mp hd with rfl | hd
        · simp
        · obtain ⟨x, _, hx⟩ := hv d hd
          exact List.mem_append_left _ ((I.vals d).mp ⟨x, hx⟩)
      · rcases List.mem_cons.mp hd with rfl | hd
        · exact hc
        · obtain ⟨x, _, hx⟩ := hv d hd
          exact I.wi.vs _ (mem_keys hx)
      · rcases List.mem_cons.mp hd with rfl | hd
        · exact h1
        · obtain ⟨x, hxm, hx⟩ := hv d hd
          obtain ⟨y, hy, hz⟩ := h2.ext x hxm
          rw [hx] at hy
          cases hy
          exact hz
      · rcases h2.src x hx with h | ⟨z, hz, v, hv1, hv2⟩
        · exact ⟨c, List.mem_cons_self, h⟩
        · exact ⟨v, List.mem_cons_of_mem _ (List.mem_map.mpr ⟨z, hz, by rw [hv1]; rfl⟩), hv2⟩
/-! ### too few: both judges -/
theorem lotB_of {b xs : List Cell} (B : Brd b) (h : ∀ c ∈ xs, c ∈ b) : lotB (bD xs) = true := by
  show (xs.map encP).all cellB = true
  rw [List.all_map, List.all_eq_true]
  intro c hc
  have := B.rng c (h c hc)
  exact decide_eq_true (by omega)
theorem Few.J2 {b ps cells met : List Cell} {k : Int} (B : Brd b) (f : Few b ps cells met) (hk : ∀ c ∈ ps, (c.1 + c.2) % 2 = k) : J2 b (.tup [bD (sortC cells), bD (sortC met)]) = true := by
  have pc := sortC_pm cells
  have pm := sortC_pm met
  have hmb : ∀ c ∈ met, c ∈ b := fun c hc => by
    obtain ⟨d, _, h⟩ := f.src c hc
    exact nbrs_mem h
  rw [J2_bD (lotB_of B fun c hc => f.inb c (pc.mem_iff.mp hc)) (lotB_of B fun c hc => hmb c (pm.mem_iff.mp hc)), rising_sort f.nd, rising_sort f.ndm]
  have e1 : (sortC cells).all (fun c => decide (c ∈ b)) = true := List.all_eq_true.mpr fun c hc => decide_eq_true (f.inb c (pc.mem_iff.mp hc))
  have e2 : parB (sortC cells) = true := by
    unfold parB
    rw [decide_eq_true_eq, uniq_one]
    cases e : sortC cells with
    | nil =>
      have := sortC_len cells
      rw [e, f.len] at this
      cases this
    | cons c r =>
      have hall : ∀ d ∈ c :: r, (d.1 + d.2) % 2 = k := fun d hd => hk d (f.sub d (pc.mem_iff.mp (by rw [e]; exact hd)))
      refine ⟨(c.1 + c.2) % 2, r.map fun d => (d.1 + d.2) % 2, rfl, fun x hx => ?_⟩
      obtain ⟨d, hd, rfl⟩ := List.mem_map.mp hx
      rw [hall d (List.mem_cons_of_mem _ hd), hall c List.mem_cons_self]
  have e3 : F b (sortC cells) = sortC met := by
    unfold F
    refine sortC_perm ((List.perm_ext_iff_of_nodup (dedP_nodup _) f.ndm).mpr fun x => ?_)
    rw [dedP_mem, List.mem_flatMap]
    constructor
    · rintro ⟨c, hc, hx⟩
      exact f.shut c (pc.mem_iff.mp hc) x hx
    · intro hx
      obtain ⟨c, hc, h⟩ := f.src x hx
      exact ⟨c, pc.mem_iff.mpr hc, h⟩
  have e4 : (sortC met).length < (sortC cells).length := by rw [sortC_len, sortC_len, f.len]; omega
  unfold J2'
  rw [e1, e2, decide_eq_true e3, decide_eq_true e4]
  rfl
theorem tileB_len {ts : List D} (h : tileB (.tup ts) = true) : ts.length = 2 := by
  match ts, h with
  | [_, _], _ => rfl
theorem Few.J1 {b ps cells met : List Cell} (f : Few b ps cells met) : J1 b (.tup [bD (sortC cells), bD (sortC met)]) = false := by
  cases e : ([bD (sortC cells), bD (sortC met)] : List D).all tileB with
  | false => show (_ && _) = false; rw [e]; rfl
  | true =>
    rw [List.all_cons, List.all_cons, Bool.and_eq_true, Bool.and_eq_true] at e
    have h1 := tileB_len e.1
    have h2 := tileB_len e.2.1
    rw [List.length_map, sortC_len] at h1 h2
    have := f.len
    omega
end K80
namespace K80
open PySem L2 PD
/-! ### tiles are told -/
theorem full_of {xs ys : List Cell} (hx : xs.Nodup) (hs : ∀ x ∈ xs, x ∈ ys) (hl : ys.length ≤ xs.length) : ∀ y ∈ ys, y ∈ xs := by
  intro y hy
  cases Decidable.em (y ∈ xs) with
  | inl h => exact h
  | inr h =>
    have := nodup_len (xs := y :: xs) (ys := ys) (List.nodup_cons.mpr ⟨h, hx⟩) fun z hz => by
      rcases List.mem_cons.mp hz with rfl | hz
      · exact hy
      · exact hs z hz
    rw [List.length_cons] at this
    omega
theorem MI.vnd {b ps : List Cell} {mate : Mate} (I : MI b ps mate) : (mate.map (·.2)).Nodup := by
  have h := I.wi.keys
  unfold List.Nodup at h ⊢
  rw [List.pairwise_map] at h ⊢
  refine List.Pairwise.imp_of_mem (fun {p q} hp hq hne e => hne ?_) h
  have h1 := look_of_mem (x := p.1) (v := p.2) I.wi.keys hp
  have h2 := look_of_mem (x := q.1) (v := q.2) I.wi.keys hq
  rw [← e] at h2
  exact I.inj _ _ _ h1 h2
theorem MI.vmem {b ps : List Cell} {mate : Mate} (I : MI b ps mate) (v : Cell) : v ∈ mate.map (·.2) ↔ v ∈ ps := by
  rw [← I.vals v]
  constructor
  · intro h
    obtain ⟨p, hp, rfl⟩ := List.mem_map.mp h
    exact ⟨p.1, look_of_mem I.wi.keys hp⟩
  · rintro ⟨x, h⟩
    exact List.mem_map.mpr ⟨(x, v), mem_keys h, rfl⟩
theorem MI.len {b ps : List Cell} {mate : Mate} (I : MI b ps mate) (hp : ps.Nodup) : mate.length = ps.length := by
  have h1 := nodup_len I.vnd fun v hv => (I.vmem v).mp hv
  have h2 := nodup_len hp fun v hv => (I.vmem v).mpr hv
  rw [List.length_map] at h1 h2
  omega
theorem MI.padj {b ps : List Cell} {mate : Mate} (I : MI b ps mate) {p : Cell × Cell} (hp : p ∈ mate) : K80.adj p.2 p.1 := I.adj _ _ (look_of_mem I.wi.keys hp)
theorem colour_mem {b : List Cell} {k : Int} {c : Cell} : c ∈ colour b k ↔ c ∈ b ∧ (c.1 + c.2) % 2 = k := by
  unfold colour
  rw [List.mem_filter, decide_eq_true_eq]
/-- all cells of a board are in pairs -/
structure Pairs (b : List Cell) (mate : Mate) : Prop where
  knd : (mate.map (·.1)).Nodup
  vnd : (mate.map (·.2)).Nodup
  kmem : ∀ c, c ∈ mate.map (·.1) ↔ c ∈ b ∧ (c.1 + c.2) % 2 = 0
  vmem : ∀ c, c ∈ mate.map (·.2) ↔ c ∈ b ∧ (c.1 + c.2) % 2 = 1
  adj : ∀ p ∈ mate, adj p.2 p.1
theorem pairs_of {b : List Cell} {m0 m1 : Mate} (hn : b.Nodup) (I0 : MI b (colour b 0) m0) (I1 : MI b (colour b 1) m1) : Pairs b m1 := by
  have n0 : (colour b 0).Nodup := hn.filter _
  have n1 : (colour b 1).Nodup := hn.filter _
  have k0 : ∀ x ∈ m0.map (·.1), x ∈ colour b 1 := fun x hx => by
    obtain ⟨p, hp, rfl⟩ := List.mem_map.mp hx
    have h1 := colour_mem.mp ((I0.vmem p.2).mp (List.mem_map_of_mem (f := (·.2)) hp))
    have h2 := adj_par (I0.padj hp)
    exact colour_mem.mpr ⟨I0.wi.ks p hp, by omega⟩
  have k1 : ∀ x ∈ m1.map (·.1), x ∈ colour b 0 := fun x hx => by
    obtain ⟨p, hp, rfl⟩ := List.mem_map.mp hx
    have h1 := colour_mem.mp ((I1.vmem p.2).mp (List.mem_map_of_mem (f := (·.2)) hp))
    have h2 := adj_par (I1.padj hp)
    exact colour_mem.mpr ⟨I1.wi.ks p hp, by omega⟩
  have l0 := nodup_len I0.wi.keys k0
  have e0 := I0.len n0
  have e1 := I1.len n1
  rw [List.length_map] at l0
  have f1 := full_of I1.wi.keys k1 (by rw [List.length_map]; omega)
  exact ⟨I1.wi.keys, I1.vnd, fun c => ⟨fun h => colour_mem.mp (k1 c h), fun h => f1 c (colour_mem.mpr h)⟩, fun c => by rw [I1.vmem]; exact colour_mem, fun p hp => I1.padj hp⟩
theorem perm_pair (a c : Cell) : [minC a c, maxC a c].Perm [a, c] := by
  unfold minC maxC
  by_cases h : leD (encP a) (encP c) = true
  · rw [if_pos h]
    by_cases h2 : leD (encP c) (encP a) = true
    · rw [if_pos h2, leC_anti h h2]
    · rw [if_neg h2]
  · rw [if_neg h]
    have := leC_total a c
    have h2 : leD (encP c) (encP a) = true := by
      simp only [Bool.not_eq_true] at h
      rw [h, Bool.false_or] at this
      exact this
    rw [if_pos h2]
    exact List.Perm.swap _ _ _
theorem flat_perm : ∀ mate : Mate, (flatT (tilesOf mate)).Perm (mate.map (·.1) ++ mate.map (·.2))
  | [] => List.Perm.refl _
  | p :: r => by
    have e : flatT (tilesOf (p :: r)) = [minC p.1 p.2, maxC p.1 p.2] ++ flatT (tilesOf r) := rfl
    rw [e, List.map_cons, List.map_cons]
    refine ((perm_pair p.1 p.2).append (flat_perm r)).trans ?_
    show (p.1 :: p.2 :: (r.map (·.1) ++ r.map (·.2))).Perm (p.1 :: (r.map (·.1) ++ p.2 :: r.map (·.2)))
    exact (List.perm_middle.symm).cons _
theorem Pairs.perm {b : List Cell} {mate : Mate} (P : Pairs b mate) (hn : b.Nodup) : (mate.map (·.1) ++ mate.map (·.2)).Perm b := by
  refine (List.perm_ext_iff_of_nodup ?_ hn).mpr fun c => ?_
  · rw [List.nodup_append]
    refine ⟨P.knd, P.vnd, fun a ha c hc e => ?_⟩
    subst e
    have h1 := (P.kmem a).mp ha
    have h2 := (P.vmem a).mp hc
    omega
  · rw [List.mem_append, P.kmem, P.vmem]
    constructor
    · rintro (h | h)
      · exact h.1
      · exact h.1
    · intro h
      have : (c.1 + c.2) % 2 = 0 ∨ (c.1 + c.2) % 2 = 1 := by omega
      rcases this with h1 | h1
      · exact .inl ⟨h, h1⟩
      · exact .inr ⟨h, h1⟩
theorem leT_ne {s t : Tile} (h : s.1 ≠ t.1) : leD (tD s) (tD t) = leD (encP s.1) (encP t.1) := by
  rw [leD_eq, leD_eq]
  have e : PySem.W.dataLt (toPy (tD t)) (toPy (tD s)) = PySem.W.dataLt (toPy (encP t.1)) (toPy (encP s.1)) := by
    show PySem.W.dataLt (.tuple [toPy (encP t.1), toPy (encP t.2)]) (.tuple [toPy (encP s.1), toPy (encP s.2)]) = _
    rw [PySem.W.dataLt_tuple, PySem.W.dataLt_cons (by rfl)]
    have hne : PyData.eqv (toPy (encP t.1)) (toPy (encP s.1)) = false := by
      have := encP_eq t.1 s.1
      unfold eqD at this
      rw [this, decide_eq_false_iff_not]
      exact fun e => h e.symm
    rw [hne, if_neg Bool.false_ne_true]
  rw [e]
theorem rising_of {α : Type} {lt : α → α → Bool} {d : α} {xs : List α} (h : xs.Pairwise fun a b => lt a b = true) : rising lt d xs = true := by
  unfold rising
  rw [List.all_eq_true]
  intro i hi
  rw [List.mem_range] at hi
  unfold rise
  rw [List.getD_eq_getElem?_getD, List.getD_eq_getElem?_getD, List.getElem?_eq_getElem (by omega), List.getElem?_eq_getElem (by omega)]
  exact List.pairwise_iff_getElem.mp h i (i + 1) (by omega) (by omega) (by omega)
theorem firsts_sub : ∀ ts : List Tile, List.Sublist (ts.map (·.1)) (flatT ts)
  | [] => List.Sublist.refl _
  | t :: r => by
    show List.Sublist (t.1 :: r.map (·.1)) (t.1 :: t.2 :: flatT r)
    exact ((firsts_sub r).cons t.2).cons_cons t.1
theorem leT_trans {a b c : Tile} (h1 : leD (tD a) (tD b) = true) (h2 : leD (tD b) (tD c) = true) : True := trivial
theorem sortT_rise {ts : List Tile} (hn : (flatT ts).Nodup) : rising ltT ((0, 0), (0, 0)) (sortT ts) = true := by
  refine rising_of ?_
  have hp : (sortT ts).Perm ts := List.mergeSort_perm _ _
  have hs : (sortT ts).Pairwise fun a b => leD (tD a) (tD b) = true := by
    have h := sortD_sorted (ts.map tD)
    rw [sortD_T, List.pairwise_map] at h
    exact h
  have hf : ((sortT ts).map (·.1)).Nodup := (hp.map _).nodup_iff.mpr (hn.sublist (firsts_sub ts))
  unfold List.Nodup at hf
  rw [List.pairwise_map] at hf
  refine List.Pairwise.imp₂ (fun a b h1 h2 => ?_) hs hf
  unfold ltT
  rw [if_neg h2]
  rw [leT_ne h2] at h1
  exact ltC_iff.mpr ⟨h1, h2⟩
theorem sortC_id {b : List Cell} (h : rising ltC (0, 0) b = true) : sortC b = b :=
  List.Perm.eq_of_pairwise (le := fun a b : Cell => leD (encP a) (encP b) = true) (fun _ _ _ _ h1 h2 => leC_anti h1 h2) (sortC_pw b) ((rising_iff.mp h).imp fun h => (ltC_iff.mp h).1) (sortC_pm b)
theorem flat_cong {ts us : List Tile} (h : ts.Perm us) : (flatT ts).Perm (flatT us) := by
  induction h with
  | nil => exact List.Perm.refl _
  | cons x _ ih => exact (ih.cons _).cons _
  | swap x y l =>
    show ([y.1, y.2] ++ ([x.1, x.2] ++ flatT l)).Perm ([x.1, x.2] ++ ([y.1, y.2] ++ flatT l))
    rw [← List.append_assoc, ← List.append_assoc]
    exact List.perm_append_comm.append_right _
  | trans _ _ h1 h2 => exact h1.trans h2
theorem tile_ok {p q : Cell} (h : adj q p) : tileOk (minC p q, maxC p q) = true := by
  rw [tileOk_iff, decide_eq_true_eq]
  have hne := adj_ne h
  unfold minC maxC
  unfold adj at h
  by_cases h1 : leD (encP p) (encP q) = true
  · have h2 : ¬ leD (encP q) (encP p) = true := fun z => hne (leC_anti z h1)
    rw [if_pos h1, if_neg h2]
    rw [leD_pair, decide_eq_true_eq] at h1
    rcases h with h | h
    · exact .inl (Prod.ext (by show q.1 = p.1; omega) (by show q.2 = p.2 + 1; omega))
    · exact .inr (Prod.ext (by show q.1 = p.1 + 1; omega) (by show q.2 = p.2; omega))
  · have h2 : leD (encP q) (encP p) = true := by
      have := leC_total p q
      simp only [Bool.not_eq_true] at h1
      rw [h1, Bool.false_or] at this
      exact this
    rw [if_neg h1, if_pos h2]
    rw [leD_pair, decide_eq_true_eq] at h2
    rcases h with h | h
    · exact .inl (Prod.ext (by show p.1 = q.1; omega) (by show p.2 = q.2 + 1; omega))
    · exact .inr (Prod.ext (by show p.1 = q.1 + 1; omega) (by show p.2 = q.2; omega))
theorem mem_pair (p q c : Cell) (h : c = minC p q ∨ c = maxC p q) : c = p ∨ c = q := by
  have := (perm_pair p q).mem_iff (a := c)
  simpa [h] using this
theorem Pairs.tiles {b : List Cell} {mate : Mate} (B : Brd b) (P : Pairs b mate) : ((sortT (tilesOf mate)).map tD).all tileB = true := by
  have hp : (sortT (tilesOf mate)).Perm (tilesOf mate) := List.mergeSort_perm _ _
  rw [List.all_map, List.all_eq_true]
  intro t ht
  obtain ⟨p, hpm, rfl⟩ := List.mem_map.mp (hp.mem_iff.mp ht)
  have ha := P.adj p hpm
  have h1 := (P.kmem p.1).mp (List.mem_map_of_mem (f := (·.1)) hpm)
  have h2 := (P.vmem p.2).mp (List.mem_map_of_mem (f := (·.2)) hpm)
  have hc : ∀ c, (c = minC p.1 p.2 ∨ c = maxC p.1 p.2) → cellB (encP c) = true := fun c hc => by
    have : c ∈ b := by
      rcases mem_pair p.1 p.2 c hc with rfl | rfl
      · exact h1.1
      · exact h2.1
    have := B.rng c this
    exact decide_eq_true (by omega)
  show (cellB (encP (minC p.1 p.2)) && cellB (encP (maxC p.1 p.2)) && tileOk (unP (encP (minC p.1 p.2)), unP (encP (maxC p.1 p.2)))) = true
  rw [hc _ (.inl rfl), hc _ (.inr rfl), unP_enc, unP_enc, tile_ok ha]; rfl
theorem map_unT (ts : List Tile) : (ts.map tD).map unT = ts := by
  rw [List.map_map]
  conv => rhs; rw [← List.map_id ts]
  exact List.map_congr_left fun _ _ => rfl
theorem Pairs.J1 {b : List Cell} {mate : Mate} (B : Brd b) (P : Pairs b mate) : J1 b (.tup ((sortT (tilesOf mate)).map tD)) = true := by
  have hn := rising_nodup B.up
  have hp : (sortT (tilesOf mate)).Perm (tilesOf mate) := List.mergeSort_perm _ _
  have hfp : (flatT (tilesOf mate)).Perm b := (flat_perm mate).trans (P.perm hn)
  show (((sortT (tilesOf mate)).map tD).all tileB && (rising ltT ((0, 0), (0, 0)) (((sortT (tilesOf mate)).map tD).map unT) && decide (sortC (flatT (((sortT (tilesOf mate)).map tD).map unT)) = b))) = true
  rw [P.tiles B, map_unT, sortT_rise (hfp.nodup_iff.mpr hn), sortC_perm ((flat_cong hp).trans hfp), sortC_id B.up]
  simp
theorem J2_tiles {b : List Cell} {ts : List D} (h : ts.all tileB = true) : J2 b (.tup ts) = false := by
  match ts, h with
  | [], _ => rfl
  | [_], _ => rfl
  | _ :: _ :: _ :: _, _ => rfl
  | [t, u], h =>
    rw [List.all_cons, Bool.and_eq_true] at h
    have h1 := h.1
    have e := tileB_enc h1
    rw [e] at h1 ⊢
    generalize unT t = s at h1
    have hok : tileOk s = true := by
      have : (cellB (encP s.1) && cellB (encP s.2) && tileOk (unP (encP s.1), unP (encP s.2))) = true := h1
      rw [Bool.and_eq_true] at this
      exact this.2
    have hpar : parB (cellsOf (tD s)) = false := by
      unfold parB
      rw [decide_eq_false_iff_not, uniq_one]
      rintro ⟨n, r, e1, e2⟩
      have e3 : (s.1.1 + s.1.2) % 2 :: [(s.2.1 + s.2.2) % 2] = n :: r := e1
      injection e3 with a1 a2
      subst a1 a2
      have := e2 _ List.mem_cons_self
      have hs : tileOk (s.1, s.2) = true := hok
      rw [tileOk_iff, decide_eq_true_eq] at hs
      rcases hs with hs | hs
      · rw [hs] at this; simp only at this; omega
      · rw [hs] at this; simp only at this; omega
    show (cellsB (tD s) && cellsB u && J2' b (cellsOf (tD s)) (cellsOf u)) = false
    unfold J2'
    rw [hpar]
    simp
end K80
namespace K80
open PySem L2 PD
/-! ### the law's ways -/
def nof (o : Cell) (cs : List Cell) : List Cell := cs.filter fun d => decide (d ≠ o)
def upC (c : Cell) : Cell := (c.1, c.2 + 1)
def riC (c : Cell) : Cell := (c.1 + 1, c.2)
def wo (W : List Cell → Int) (c : Cell) (cs : List Cell) (o : Cell) : Int := if o ∈ c :: cs then W (nof o cs) else 0
def wy : Nat → List Cell → Int
  | 0, _ => 0
  | _ + 1, [] => 1
  | n + 1, c :: cs => wo (wy n) c cs (upC c) + wo (wy n) c cs (riC c)
theorem nof_len (o : Cell) (cs : List Cell) : (nof o cs).length ≤ cs.length := List.length_filter_le _ _
section
variable {m : Mem}
theorem ne_P (a b : Cell) : opNe (encP a) (encP b) m = .ok (.bl (decide (a ≠ b))) m := by
  rw [opNe_of (show sh 60 (deref m (encP a)) = true from encP_sh 59 a) (show sh 60 (deref m (encP b)) = true from encP_sh 59 b)]
  show Res.ok (D.bl (!eqD (encP a) (encP b))) m = _
  rw [encP_eq, decide_not]
theorem sl_tail (c : Cell) (cs : List Cell) (hl : cs.length ≤ 1000000) : opSl false (bD (c :: cs)) (some 1) none m = .ok (bD cs) m := by
  show newT (cutD ((c :: cs).map encP) (some (1 : Nat)) none) m = _
  rw [cut_from]
  exact newT_ok (by simp; omega)
end
def bodyY (n : Nat) : SF := sIf (tCmp opIn (eVar 4) (eVar 0)) (sSet 3 (eOp (opAddX false) (eVar 3) (eCall (R__law_ways n) (aCons (eB bTuple (aCons (eLc false [5] (iE (eSl false (eVar 0) (pSome (eC (.int 1))) pNone)) (gN 5) (tCmp opNe (eVar 5) (eVar 4)) (eVar 5)) (aNil))) (aNil))))) (sNil)
theorem nof_ev {c o : Cell} {cs : List Cell} {m : Mem} {s1 s2 s3 : Option D} (hl : cs.length ≤ 1000000) : (eB bTuple (aCons (eLc false [5] (iE (eSl false (eVar 0) (pSome (eC (.int 1))) pNone)) (gN 5) (tCmp opNe (eVar 5) (eVar 4)) (eVar 5)) (aNil))) [some (bD (c :: cs)), s1, s2, s3, some (encP o), none] m = .ok (bD (nof o cs)) m := by
  have hlc : lcL (gN 5) (tCmp opNe (eVar 5) (eVar 4)) (eVar 5) [some (bD (c :: cs)), s1, s2, s3, some (encP o), none] (cs.map encP) m = .ok ((nof o cs).map encP) m :=
    lcL_filter fun d _ => ⟨[some (bD (c :: cs)), s1, s2, s3, some (encP o), some (encP d)], rfl, by simp [ne_P], fun _ => rfl⟩
  have n1 := newL_f (m := m) (xs := (nof o cs).map encP) (by rw [List.length_map]; have := nof_len o cs; omega)
  have b1 := bTuple_lst (m := m) (xs := (nof o cs).map encP) (by rw [List.length_map]; have := nof_len o cs; omega)
  have hs := sl_tail (m := m) c cs hl
  have hsrc : srcOf (bD cs) m = .ok (.its (cs.map encP)) m := rfl
  have hw : wipeD [some (bD (c :: cs)), s1, s2, s3, some (encP o), none] [5] = [some (bD (c :: cs)), s1, s2, s3, some (encP o), none] := rfl
  rw [eB_ap, aCons_ap, eLc_ap, iE_ap, eSl_ap]
  simp only [eVar_ap, List.getElem?_cons_zero, Res.bind_ok, pSome_ap, eC_ap, pNone_ap, hs, noexc_ok, hsrc, hw, lcS_its, hlc, n1, aNil_ap, b1]
theorem bodyY_ev {n : Nat} {c o : Cell} {cs : List Cell} {t : Int} {m : Mem} {s1 s2 s4 : Option D} (hl : cs.length ≤ 1000000) (ih : R__law_ways n [bD (nof o cs)] m = .ok (.int (wy n (nof o cs))) m) :
    bodyY n [some (bD (c :: cs)), s1, s2, some (.int t), some (encP o), none] m = .nx [some (bD (c :: cs)), s1, s2, some (.int (t + wo (wy n) c cs o)), some (encP o), none] m := by
  have hin := in_bD (m := m) false (c :: cs) o
  have hnf := nof_ev (c := c) (o := o) (m := m) (s1 := s1) (s2 := s2) (s3 := some (.int t)) hl
  unfold bodyY wo
  by_cases h : o ∈ c :: cs
  · rw [decide_eq_true h] at hin
    rw [if_pos h, sIf_ap, tCmp_ap]
    simp only [eVar_ap, List.getElem?_cons_zero, List.getElem?_cons_succ, Res.bind_ok, hin, noexc_ok, asB_ap, Bool.false_xor, if_true, Res.st_ok, sSet_ap, eOp_ap, eCall_ap, aCons_ap, hnf, aNil_ap, ih, opAddX_int, List.set_cons_zero, List.set_cons_succ]
  · rw [decide_eq_false h] at hin
    rw [if_neg h, sIf_ap, tCmp_ap, Int.add_zero]
    simp only [eVar_ap, List.getElem?_cons_zero, List.getElem?_cons_succ, Res.bind_ok, hin, noexc_ok, asB_ap, Bool.false_xor, Bool.false_eq_true, if_false, Res.st_ok, sNil_ap]
theorem R_ways {m : Mem} : ∀ (n : Nat) (cs : List Cell), cs.length < n → cs.length ≤ 1000000 → R__law_ways n [bD cs] m = .ok (.int (wy n cs)) m
  | 0, cs, h, _ => absurd h (Nat.not_lt_zero _)
  | n + 1, cs, h, hl => by
    show fnR 6 (r__law_ways (R__law_ways n)) [bD cs] m = _
    unfold fnR
    have es : startD 6 [bD cs] = [some (bD cs), none, none, none, none, none] := rfl
    rw [es]
    have eb : r__law_ways (R__law_ways n) = sSeq (sIf (tCmp opEq (eVar 0) (eTup (aNil))) (sRet (eC (.int 1))) (sNil)) (sSeq (sAsg (gT 2 (gsCons (gN 1) (gsCons (gN 2) (gsNil)))) (eIx (eVar 0) (eC (.int 0)))) (sSeq (sSet 3 (eC (.int 0))) (sSeq (sFor (iE (eTup (aCons (eTup (aCons (eVar 1) (aCons (eOp (opAddX false) (eVar 2) (eC (.int 1))) (aNil)))) (aCons (eTup (aCons (eOp (opAddX false) (eVar 1) (eC (.int 1))) (aCons (eVar 2) (aNil)))) (aNil))))) (gN 4) (bodyY n)) (sRet (eVar 3))))) := rfl
    rw [eb]
    have heq := eq_bD cs [] m
    have hnt : newT [] m = .ok (.tup []) m := newT_ok (by simp)
    cases cs with
    | nil =>
      rw [decide_eq_true rfl] at heq
      change opEq (bD []) (.tup []) m = _ at heq
      rw [sSeq_ap, sIf_ap, tCmp_ap]
      simp only [eVar_ap, List.getElem?_cons_zero, Res.bind_ok, eTup_ap, aNil_ap, hnt, heq, noexc_ok, asB_ap, if_true, Res.st_ok, sRet_ap, eC_ap, SRes.then_rt]
      rfl
    | cons c cs =>
      rw [List.length_cons] at h hl
      rw [decide_eq_false (by simp)] at heq
      change opEq (bD (c :: cs)) (.tup []) m = _ at heq
      have h0 : sIf (tCmp opEq (eVar 0) (eTup (aNil))) (sRet (eC (.int 1))) (sNil) [some (bD (c :: cs)), none, none, none, none, none] m = .nx [some (bD (c :: cs)), none, none, none, none, none] m := by
        rw [sIf_ap, tCmp_ap]
        simp only [eVar_ap, List.getElem?_cons_zero, Res.bind_ok, eTup_ap, aNil_ap, hnt, heq, noexc_ok, asB_ap, Bool.false_eq_true, if_false, Res.st_ok, sNil_ap]
      have hx : opIx (bD (c :: cs)) (.int 0) m = .ok (encP c) m := ix_tup_nat (i := 0) rfl
      have h1 : sAsg (gT 2 (gsCons (gN 1) (gsCons (gN 2) (gsNil)))) (eIx (eVar 0) (eC (.int 0))) [some (bD (c :: cs)), none, none, none, none, none] m = .nx [some (bD (c :: cs)), some (.int c.1), some (.int c.2), none, none, none] m := by
        rw [sAsg_ap, eIx_ap]
        simp only [eVar_ap, List.getElem?_cons_zero, Res.bind_ok, eC_ap, hx, noexc_ok, Res.st_ok]
        rfl
      have hi : iE (eTup (aCons (eTup (aCons (eVar 1) (aCons (eOp (opAddX false) (eVar 2) (eC (.int 1))) (aNil)))) (aCons (eTup (aCons (eOp (opAddX false) (eVar 1) (eC (.int 1))) (aCons (eVar 2) (aNil)))) (aNil)))) [some (bD (c :: cs)), some (.int c.1), some (.int c.2), some (.int 0), none, none] m = .ok (.its ([upC c, riC c].map encP)) m := by
        simp [newT2, srcOf]
        exact ⟨rfl, rfl⟩
      have i1 := R_ways n (nof (upC c) cs) (by have := nof_len (upC c) cs; omega) (by have := nof_len (upC c) cs; omega) (m := m)
      have i2 := R_ways n (nof (riC c) cs) (by have := nof_len (riC c) cs; omega) (by have := nof_len (riC c) cs; omega) (m := m)
      have b1 := bodyY_ev (c := c) (t := 0) (s1 := some (.int c.1)) (s2 := some (.int c.2)) (s4 := none) (by omega) i1
      have b2 := bodyY_ev (c := c) (t := 0 + wo (wy n) c cs (upC c)) (s1 := some (.int c.1)) (s2 := some (.int c.2)) (s4 := none) (by omega) i2
      rw [sSeq_ap, h0, SRes.then_nx, sSeq_ap, h1, SRes.then_nx, sSeq_ap]
      have h2 : sSet 3 (eC (.int 0)) [some (bD (c :: cs)), some (.int c.1), some (.int c.2), none, none, none] m = .nx [some (bD (c :: cs)), some (.int c.1), some (.int c.2), some (.int 0), none, none] m := rfl
      rw [h2, SRes.then_nx, sSeq_ap, sFor_ap, hi, Res.st_ok, forS_its, List.map_cons, forL_step (σ1 := [some (bD (c :: cs)), some (.int c.1), some (.int c.2), some (.int 0), some (encP (upC c)), none]) (m1 := m) rfl, b1, turnK_nx, List.map_cons, forL_step (σ1 := [some (bD (c :: cs)), some (.int c.1), some (.int c.2), some (.int (0 + wo (wy n) c cs (upC c))), some (encP (riC c)), none]) (m1 := m) rfl, b2, turnK_nx, Int.zero_add]
      rfl
/-! ### what the ways tell -/
inductive Til : List Cell → Prop
  | nil : Til []
  | cons {c o : Cell} {cs : List Cell} (h : o = upC c ∨ o = riC c) (ho : o ∈ c :: cs) (t : Til (nof o cs)) : Til (c :: cs)
theorem wy_nn : ∀ (n : Nat) (cs : List Cell), 0 ≤ wy n cs
  | 0, cs => Int.le_refl _
  | n + 1, [] => by show (0 : Int) ≤ 1; decide
  | n + 1, c :: cs => by
    have h : ∀ o, 0 ≤ wo (wy n) c cs o := fun o => by
      unfold wo
      split
      · exact wy_nn n _
      · exact Int.le_refl _
    show 0 ≤ wo (wy n) c cs (upC c) + wo (wy n) c cs (riC c)
    have := h (upC c)
    have := h (riC c)
    omega
theorem wy_til : ∀ (n : Nat) (cs : List Cell), 0 < wy n cs → Til cs
  | 0, cs, h => absurd h (Int.lt_irrefl 0)
  | n + 1, [], _ => .nil
  | n + 1, c :: cs, h => by
    have h' : 0 < wo (wy n) c cs (upC c) + wo (wy n) c cs (riC c) := h
    have : 0 < wo (wy n) c cs (upC c) ∨ 0 < wo (wy n) c cs (riC c) := by omega
    have key : ∀ o, (o = upC c ∨ o = riC c) → 0 < wo (wy n) c cs o → Til (c :: cs) := fun o ho hp => by
      unfold wo at hp
      split at hp
      · rename_i hin
        exact .cons ho hin (wy_til n _ hp)
      · exact absurd hp (by decide)
    rcases this with h | h
    · exact key _ (.inl rfl) h
    · exact key _ (.inr rfl) h
theorem til_wy {cs : List Cell} (t : Til cs) : ∀ n, cs.length < n → 0 < wy n cs := by
  induction t with
  | nil =>
    intro n hn
    cases n with
    | zero => exact absurd hn (Nat.not_lt_zero _)
    | succ n => show (0 : Int) < 1; decide
  | @cons c o cs h ho t ih =>
    intro n hn
    cases n with
    | zero => exact absurd hn (Nat.not_lt_zero _)
    | succ n =>
      rw [List.length_cons] at hn
      have hp : 0 < wo (wy n) c cs o := by
        unfold wo
        rw [if_pos ho]
        exact ih n (by have := nof_len o cs; omega)
      have hq : ∀ o, 0 ≤ wo (wy n) c cs o := fun o => by
        unfold wo
        split
        · exact wy_nn n _
        · exact Int.le_refl _
      show 0 < wo (wy n) c cs (upC c) + wo (wy n) c cs (riC c)
      have := hq (upC c)
      have := hq (riC c)
      rcases h with rfl | rfl <;> omega
end K80
namespace K80
open PySem L2 PD
/-! ### tiles just if there is a way -/
theorem adj_o {c o : Cell} (h : o = upC c ∨ o = riC c) : adj c o := by
  unfold adj
  rcases h with rfl | rfl
  · exact .inl ⟨rfl, .inl rfl⟩
  · exact .inr ⟨rfl, .inl rfl⟩
theorem mem_nof {o d : Cell} {cs : List Cell} : d ∈ nof o cs ↔ d ∈ cs ∧ d ≠ o := by
  unfold nof
  rw [List.mem_filter, decide_eq_true_eq]
theorem til_mates {cs : List Cell} (t : Til cs) : cs.Nodup → ∃ g : Cell → Cell, (∀ c ∈ cs, g c ∈ cs ∧ adj c (g c)) ∧ ∀ c ∈ cs, ∀ d ∈ cs, g c = g d → c = d := by
  induction t with
  | nil => intro _; exact ⟨id, (fun c h => by cases h), (fun c h => by cases h)⟩
  | @cons c o cs h ho t ih =>
    intro hn
    rw [List.nodup_cons] at hn
    have ha := adj_o h
    have hne := adj_ne ha
    have ho' : o ∈ cs := by
      rcases List.mem_cons.mp ho with e | e
      · exact absurd e.symm hne
      · exact e
    obtain ⟨g, g1, g2⟩ := ih (hn.2.filter _)
    refine ⟨fun d => if d = c then o else if d = o then c else g d, fun d hd => ?_, fun d hd e he heq => ?_⟩
    · by_cases h1 : d = c
      · subst h1
        simp only [if_true]
        exact ⟨ho, ha⟩
      · by_cases h2 : d = o
        · subst h2
          simp only [h1, if_false, if_true]
          exact ⟨List.mem_cons_self, adj_symm ha⟩
        · simp only [h1, h2, if_false]
          have hdc : d ∈ cs := by
            rcases List.mem_cons.mp hd with e | e
            · exact absurd e h1
            · exact e
          have := g1 d (mem_nof.mpr ⟨hdc, h2⟩)
          exact ⟨List.mem_cons_of_mem _ (mem_nof.mp this.1).1, this.2⟩
    · have out : ∀ d, d ∈ c :: cs → d ≠ c → d ≠ o → d ∈ nof o cs ∧ g d ≠ c ∧ g d ≠ o := fun d hd h1 h2 => by
        have hdc : d ∈ cs := by
          rcases List.mem_cons.mp hd with e | e
          · exact absurd e h1
          · exact e
        have hm : d ∈ nof o cs := mem_nof.mpr ⟨hdc, h2⟩
        have := mem_nof.mp (g1 d hm).1
        exact ⟨hm, fun e => hn.1 (by rw [← e]; exact this.1), this.2⟩
      simp only at heq
      by_cases d1 : d = c
      · by_cases e1 : e = c
        · rw [d1, e1]
        · rw [if_pos d1, if_neg e1] at heq
          by_cases e2 : e = o
          · rw [if_pos e2] at heq; exact absurd heq.symm hne
          · rw [if_neg e2] at heq; exact absurd heq.symm (out e he e1 e2).2.2
      · rw [if_neg d1] at heq
        by_cases d2 : d = o
        · rw [if_pos d2] at heq
          by_cases e1 : e = c
          · rw [if_pos e1] at heq; exact absurd heq hne
          · rw [if_neg e1] at heq
            by_cases e2 : e = o
            · rw [d2, e2]
            · rw [if_neg e2] at heq; exact absurd heq.symm (out e he e1 e2).2.1
        · rw [if_neg d2] at heq
          by_cases e1 : e = c
          · rw [if_pos e1] at heq; exact absurd heq (out d hd d1 d2).2.2
          · rw [if_neg e1] at heq
            by_cases e2 : e = o
            · rw [if_pos e2] at heq; exact absurd heq (out d hd d1 d2).2.1
            · rw [if_neg e2] at heq
              exact g2 d (out d hd d1 d2).1 e (out e he e1 e2).1 heq
theorem Few.no {b ps cells met : List Cell} (f : Few b ps cells met) (hn : b.Nodup) : ¬ Til b := fun t => by
  obtain ⟨g, g1, g2⟩ := til_mates t hn
  have h1 : (cells.map g).Nodup := by
    have h := f.nd
    unfold List.Nodup at h ⊢
    rw [List.pairwise_map]
    exact List.Pairwise.imp_of_mem (fun {c d} hc hd hne e => hne (g2 c (f.inb c hc) d (f.inb d hd) e)) h
  have h2 := nodup_len h1 (ys := met) fun x hx => by
    obtain ⟨c, hc, rfl⟩ := List.mem_map.mp hx
    have := g1 c (f.inb c hc)
    exact f.shut c hc _ (nbrs_iff.mpr this)
  rw [List.length_map, f.len] at h2
  omega
theorem til_of {R : Cell → Cell → Prop} (sym : ∀ c d, R c d → R d c) (uniq : ∀ c d e, R c d → R c e → d = e) (hadj : ∀ c d, R c d → adj c d) : ∀ (n : Nat) (cs : List Cell), cs.length ≤ n → (cs.Pairwise fun a b => ltC a b = true) → (∀ c ∈ cs, ∃ d ∈ cs, R c d) → Til cs
  | _, [], _, _, _ => .nil
  | 0, c :: cs, h, _, _ => by rw [List.length_cons] at h; omega
  | n + 1, c :: cs, h, hp, hR => by
    rw [List.length_cons] at h
    rw [List.pairwise_cons] at hp
    obtain ⟨o, ho, hr⟩ := hR c List.mem_cons_self
    have ha := hadj c o hr
    have hne := adj_ne ha
    have ho' : o ∈ cs := by
      rcases List.mem_cons.mp ho with e | e
      · exact absurd e.symm hne
      · exact e
    have hlt := hp.1 o ho'
    have hcn : c ∉ cs := fun hin => by
      have := (ltC_iff.mp (hp.1 c hin)).2
      exact this rfl
    have hor : o = upC c ∨ o = riC c := by
      unfold ltC at hlt
      rw [decide_eq_true_eq] at hlt
      unfold adj at ha
      rcases ha with ha | ha
      · exact .inl (Prod.ext ha.1 (by show o.2 = c.2 + 1; omega))
      · exact .inr (Prod.ext (by show o.1 = c.1 + 1; omega) ha.1)
    refine .cons hor ho (til_of sym uniq hadj n (nof o cs) (by have := nof_len o cs; omega) (hp.2.filter _) fun d hd => ?_)
    obtain ⟨hd1, hd2⟩ := mem_nof.mp hd
    obtain ⟨e, he, hre⟩ := hR d (List.mem_cons_of_mem _ hd1)
    have hec : e ≠ c := fun q => by
      subst q
      exact hd2 (uniq e d o (sym _ _ hre) hr)
    have heo : e ≠ o := fun q => by
      subst q
      have := uniq e d c (sym _ _ hre) (sym _ _ hr)
      subst this
      exact hcn hd1
    refine ⟨e, mem_nof.mpr ⟨?_, heo⟩, hre⟩
    rcases List.mem_cons.mp he with q | q
    · exact absurd q hec
    · exact q
theorem Pairs.til {b : List Cell} {mate : Mate} (B : Brd b) (P : Pairs b mate) : Til b := by
  have hk : ∀ {c d : Cell}, (c, d) ∈ mate → (c.1 + c.2) % 2 = 0 := fun h => ((P.kmem _).mp (List.mem_map_of_mem (f := (·.1)) h)).2
  have hv : ∀ {c d : Cell}, (c, d) ∈ mate → (d.1 + d.2) % 2 = 1 := fun h => ((P.vmem _).mp (List.mem_map_of_mem (f := (·.2)) h)).2
  have sw : ∀ {c d : Cell}, (c, d) ∈ mate → look (mate.map fun p => (p.2, p.1)) d = some c := fun {c d} h => look_of_mem (by rw [List.map_map]; exact P.vnd) (List.mem_map.mpr ⟨(c, d), h, rfl⟩)
  refine til_of (R := fun c d => (c, d) ∈ mate ∨ (d, c) ∈ mate) (fun c d h => h.symm) (fun c d e h1 h2 => ?_) (fun c d h => ?_) b.length b (Nat.le_refl _) (rising_iff.mp B.up) fun c hc => ?_
  · rcases h1 with h1 | h1
    · rcases h2 with h2 | h2
      · have a1 := look_of_mem P.knd h1
        have a2 := look_of_mem P.knd h2
        rw [a1] at a2
        exact Option.some.inj a2
      · have := hk h1
        have := hv h2
        omega
    · rcases h2 with h2 | h2
      · have := hv h1
        have := hk h2
        omega
      · have a1 := sw h1
        have a2 := sw h2
        rw [a1] at a2
        exact Option.some.inj a2
  · rcases h with h | h
    · exact adj_symm (P.adj _ h)
    · exact P.adj _ h
  · have : (c.1 + c.2) % 2 = 0 ∨ (c.1 + c.2) % 2 = 1 := by omega
    rcases this with h | h
    · obtain ⟨p, hp, e⟩ := List.mem_map.mp ((P.kmem c).mpr ⟨hc, h⟩)
      subst e
      exact ⟨p.2, ((P.vmem _).mp (List.mem_map_of_mem (f := (·.2)) hp)).1, .inl hp⟩
    · obtain ⟨p, hp, e⟩ := List.mem_map.mp ((P.vmem c).mpr ⟨hc, h⟩)
      subst e
      exact ⟨p.1, ((P.kmem _).mp (List.mem_map_of_mem (f := (·.1)) hp)).1, .inr hp⟩
theorem dom_says {b : List Cell} (B : Brd b) : (domR b).1 = decide (0 < wy 40 b) ∧ (if (domR b).1 then J1 b (domR b).2 else J2 b (domR b).2) = true ∧ (if (domR b).1 then J2 b (domR b).2 else J1 b (domR b).2) = false := by
  have hn := rising_nodup B.up
  have hl := B.len
  have c0 := domC_ok (b := b) (by omega) (colour b 0) [] [] (fun c h => (colour_mem.mp h).1) (hn.filter _) (fun _ _ h => by cases h) (MI.nil b)
  have c1 := domC_ok (b := b) (by omega) (colour b 1) [] [] (fun c h => (colour_mem.mp h).1) (hn.filter _) (fun _ _ h => by cases h) (MI.nil b)
  rw [List.nil_append] at c0 c1
  have few : ∀ {k : Int} {cells met : List Cell}, Few b (colour b k) cells met → false = decide (0 < wy 40 b) ∧ J2 b (.tup [bD (sortC cells), bD (sortC met)]) = true ∧ J1 b (.tup [bD (sortC cells), bD (sortC met)]) = false := fun {k cells met} f =>
    ⟨(decide_eq_false fun h => f.no hn (wy_til 40 b h)).symm, f.J2 B fun c h => (colour_mem.mp h).2, f.J1⟩
  unfold domR
  cases e0 : domC b (colour b 0) [] with
  | inl r => rw [e0] at c0; exact few c0
  | inr m0 =>
    rw [e0] at c0
    cases e1 : domC b (colour b 1) [] with
    | inl r => rw [e1] at c1; exact few c1
    | inr m1 =>
      rw [e1] at c1
      have P := pairs_of hn c0 c1
      exact ⟨(decide_eq_true (til_wy (P.til B) 40 (by omega))).symm, P.J1 B, J2_tiles (P.tiles B)⟩
end K80
namespace K80
open PySem L2 PD
/-! ### rows and how often they are met -/
abbrev Row := List Cell
abbrev Rows := List (Row × Int)
def kR (r : Row) : NestedKey := .tup (r.map kP)
theorem keyDs_R : ∀ r : Row, keyDs (r.map encP) = some (r.map kP)
  | [] => rfl
  | c :: r => by
    show ((keyD (encP c)).bind fun k => (keyDs (r.map encP)).map (k :: ·)) = _
    rw [keyD_P, keyDs_R r]; rfl
theorem keyD_R (r : Row) : keyD (bD r) = some (kR r) := by
  show (keyDs (r.map encP)).map NestedKey.tup = _
  rw [keyDs_R]; rfl
theorem depth_R : ∀ r : Row, NestedKey.depthAll (r.map kP) ≤ 1
  | [] => by simp [NestedKey.depthAll]
  | c :: r => by
    have := depth_R r
    rw [List.map_cons]
    unfold NestedKey.depthAll
    have h1 : (kP c).depth ≤ 1 := by simp [kP, NestedKey.depth, NestedKey.depthAll]
    omega
theorem keyT_R (r : Row) : keyT (bD r) = some (kR r) := by
  have h : keyT (bD r) = (match keyD (bD r) with | some k => if k.depth ≤ 8 then some k else none | none => none) := rfl
  rw [h, keyD_R]
  simp only
  rw [if_pos]
  have := depth_R r
  show NestedKey.depth (.tup (r.map kP)) ≤ 8
  unfold NestedKey.depth
  omega
theorem kR_inj {r s : Row} : kR r = kR s ↔ r = s := by
  constructor
  · intro h
    unfold kR at h
    injection h with h
    induction r generalizing s with
    | nil =>
      cases s with
      | nil => rfl
      | cons _ _ => cases h
    | cons c r ih =>
      cases s with
      | nil => cases h
      | cons d s =>
        rw [List.map_cons, List.map_cons] at h
        injection h with h1 h2
        rw [kP_inj.mp h1, ih h2]
  · rintro rfl; rfl
def lookR (rs : Rows) (r : Row) : Option Int := (rs.find? fun p => decide (p.1 = r)).map (·.2)
def putR (rs : Rows) (r : Row) (v : Int) : Rows := if (lookR rs r).isSome then rs.map fun p => if p.1 = r then (p.1, v) else p else rs ++ [(r, v)]
def rD (rs : Rows) : List (D × D) := rs.map fun p => (bD p.1, D.int p.2)
theorem dFind_rD (rs : Rows) (r : Row) : dFind (rD rs) (kR r) = (lookR rs r).map D.int := by
  unfold dFind lookR rD
  induction rs with
  | nil => rfl
  | cons p q ih =>
    rw [List.map_cons, List.find?_cons, List.find?_cons]
    have e : decide (keyD (bD p.1) = some (kR r)) = decide (p.1 = r) := by
      rw [keyD_R, decide_eq_decide, Option.some.injEq, kR_inj]
    rw [e]
    cases decide (p.1 = r) with
    | true => rfl
    | false => exact ih
theorem dPut_rD (rs : Rows) (r : Row) (v : Int) : dPut (rD rs) (bD r) (kR r) (.int v) = rD (putR rs r v) := by
  unfold dPut putR
  rw [dFind_rD]
  have e : ((lookR rs r).map D.int).isSome = (lookR rs r).isSome := by cases lookR rs r <;> rfl
  rw [e]
  split
  · unfold rD
    rw [List.map_map, List.map_map]
    refine List.map_congr_left fun p _ => ?_
    show (if keyD (bD p.1) = some (kR r) then (bD p.1, D.int v) else (bD p.1, D.int p.2)) = _
    by_cases h : p.1 = r
    · rw [if_pos (by rw [keyD_R, h])]
      simp [h]
    · rw [if_neg (by rw [keyD_R, Option.some.injEq, kR_inj]; exact h)]
      simp [h]
  · unfold rD
    rw [List.map_append]; rfl
theorem putR_len (rs : Rows) (r : Row) (v : Int) : (putR rs r v).length ≤ rs.length + 1 := by
  unfold putR
  split
  · rw [List.length_map]; omega
  · rw [List.length_append, List.length_singleton]; omega
def wayL (b : List Cell) (c : Cell) (row : Row) : List Row := if c ∈ row then [nof c row] else ((nbrs b c).filter fun o => ltC c o && !decide (o ∈ row)).map fun o => row ++ [o]
def addW (v : Int) (rs : Rows) (w : Row) : Rows := putR rs (sortC w) ((lookR rs (sortC w)).getD 0 + v)
def stepR (b : List Cell) (c : Cell) (rs : Rows) (p : Row × Int) : Rows := (wayL b c p.1).foldl (addW p.2) rs
def stepC (b : List Cell) (rs : Rows) (c : Cell) : Rows := rs.foldl (stepR b c) []
theorem wayL_len (b : List Cell) (c : Cell) (row : Row) : (wayL b c row).length ≤ 2 := by
  unfold wayL
  split
  · simp
  · rw [List.length_map]
    unfold nbrs
    rw [List.filter_filter, List.filter_cons, List.filter_cons]
    have h1 : ltC c (c.1 - 1, c.2) = false := by unfold ltC; rw [decide_eq_false_iff_not]; simp only; omega
    have h2 : ltC c (c.1, c.2 - 1) = false := by unfold ltC; rw [decide_eq_false_iff_not]; simp only; omega
    rw [h1, h2]
    simp only [Bool.false_and, Bool.and_false, Bool.false_eq_true, if_false]
    exact List.length_filter_le _ _
theorem addWs_len (v : Int) : ∀ (ws : List Row) (rs : Rows), (ws.foldl (addW v) rs).length ≤ rs.length + ws.length
  | [], rs => Nat.le_refl _
  | w :: ws, rs => by
    have h1 := addWs_len v ws (addW v rs w)
    have h2 := putR_len rs (sortC w) ((lookR rs (sortC w)).getD 0 + v)
    rw [List.foldl_cons, List.length_cons]
    unfold addW at h1 ⊢
    omega
theorem stepR_len (b : List Cell) (c : Cell) (rs : Rows) (p : Row × Int) : (stepR b c rs p).length ≤ rs.length + 2 := by
  have := addWs_len p.2 (wayL b c p.1) rs
  have := wayL_len b c p.1
  unfold stepR
  omega
theorem stepRs_len (b : List Cell) (c : Cell) : ∀ (ps rs : Rows), (ps.foldl (stepR b c) rs).length ≤ rs.length + 2 * ps.length
  | [], rs => Nat.le_refl _
  | p :: ps, rs => by
    have h1 := stepRs_len b c ps (stepR b c rs p)
    have h2 := stepR_len b c rs p
    rw [List.foldl_cons, List.length_cons]
    omega
theorem stepC_len (b : List Cell) (rs : Rows) (c : Cell) : (stepC b rs c).length ≤ 2 * rs.length := by
  have := stepRs_len b c rs []
  unfold stepC
  simpa using this
/-! ### the code does so -/
def bodyW1 : SF := sSeq (sSet 7 (eB bTuple (aCons (eB (bSortedT false) (aCons (eVar 7) (aNil))) (aNil)))) (sAsg (gDx (eVar 3) (eVar 7)) (eOp (opAddX false) (eDget (eVar 3) (eVar 7) (eC (.int 0))) (eVar 5)))
section
variable {s0 s1 s2 s4 s6 s8 : Option D} {r : Nat} {v : Int}
theorem way_ev {M : Mem} {rs : Rows} {w : Row} (hw : w.length ≤ 1000) (hl : rs.length ≤ 16000000) (e : M[r]? = some (.dct false (rD rs))) :
    bodyW1 [s0, s1, s2, some (.ref r), s4, some (.int v), s6, some (bD w), s8] M = .nx [s0, s1, s2, some (.ref r), s4, some (.int v), s6, some (bD (sortC w)), s8] (M.set r (.dct false (rD (addW v rs w)))) := by
  have h1 : bSortedT false [bD w] M = .ok (.lst ((sortC w).map encP)) M := by
    show (if canSort (w.map encP) then newL false (sortD (w.map encP)) M else .bad) = _
    rw [canSort_P, if_pos rfl, sortD_C]
    exact newL_f (by rw [List.length_map, sortC_len]; omega)
  have h2 := bTuple_lst (m := M) (xs := (sortC w).map encP) (by rw [List.length_map, sortC_len]; omega)
  have h3 := opDget_of (m := M) (x := .int 0) (keyT_R (sortC w)) e
  have h4 := isDc_of e
  have h5 : ((dFind (rD rs) (kR (sortC w))).getD (.int 0)) = .int ((lookR rs (sortC w)).getD 0) := by
    rw [dFind_rD]; cases lookR rs (sortC w) <;> rfl
  rw [h5] at h3
  have h6 := setDx_of (σ := [s0, s1, s2, some (.ref r), s4, some (.int v), s6, some (bD (sortC w)), s8]) (d := .int ((lookR rs (sortC w)).getD 0 + v)) (keyT_R (sortC w)) e (by unfold rD; rw [List.length_map]; omega)
  rw [dPut_rD] at h6
  unfold bodyW1
  rw [sSeq_ap, sSet_ap]
  simp only [eB_ap, aCons_ap, eVar_ap, List.getElem?_cons_zero, List.getElem?_cons_succ, Res.bind_ok, aNil_ap, h1, noexc_ok, h2, Res.st_ok, List.set_cons_zero, List.set_cons_succ, SRes.then_nx, sAsg_ap, eOp_ap, eDget_ap, h4, if_true, eC_ap, h3, opAddX_int, gDx_ap, h6]
  rfl
theorem ways_ev : ∀ (ws : List Row) (rs : Rows) (M : Mem) (s7 : Option D), (∀ w ∈ ws, w.length ≤ 1000) → rs.length + ws.length ≤ 16000000 → M[r]? = some (.dct false (rD rs)) →
    ∃ s7', forL (gN 7) bodyW1 (ws.map bD) [s0, s1, s2, some (.ref r), s4, some (.int v), s6, s7, s8] M = .nx [s0, s1, s2, some (.ref r), s4, some (.int v), s6, s7', s8] (M.set r (.dct false (rD (ws.foldl (addW v) rs))))
  | [], rs, M, s7, _, _, e => ⟨s7, by
    have : M.set r (.dct false (rD rs)) = M := by
      obtain ⟨h, e'⟩ := List.getElem?_eq_some_iff.mp e
      rw [← e']; exact List.set_getElem_self h
    show SRes.nx _ M = .nx _ (M.set r (.dct false (rD rs)))
    rw [this]⟩
  | w :: ws, rs, M, s7, hw, hl, e => by
    rw [List.length_cons] at hl
    have hr := (List.getElem?_eq_some_iff.mp e).1
    have h1 := way_ev (s0 := s0) (s1 := s1) (s2 := s2) (s4 := s4) (s6 := s6) (s8 := s8) (v := v) (hw w List.mem_cons_self) (by omega) e
    have hp := putR_len rs (sortC w) ((lookR rs (sortC w)).getD 0 + v)
    obtain ⟨s7', h2⟩ := ways_ev ws (addW v rs w) (M.set r (.dct false (rD (addW v rs w)))) (some (bD (sortC w))) (fun x hx => hw x (List.mem_cons_of_mem _ hx)) (by unfold addW; omega) (by rw [List.getElem?_set_self hr])
    refine ⟨s7', ?_⟩
    rw [List.map_cons, forL_step (σ1 := [s0, s1, s2, some (.ref r), s4, some (.int v), s6, some (bD w), s8]) (m1 := M) rfl, h1, turnK_nx, h2, List.set_set]
    rfl
end
def bodyR : SF := sSeq (sIf (tCmp opIn (eVar 2) (eVar 4)) (sSet 6 (eLst false (aCons (eB bTuple (aCons (eLc false [8] (iE (eVar 4)) (gN 8) (tCmp opNe (eVar 8) (eVar 2)) (eVar 8)) (aNil))) (aNil)))) (sSet 6 (eLc false [8] (iE (eCall R_around (aCons (eVar 0) (aCons (eVar 2) (aNil))))) (gN 8) (tAndD (tCmp (opOrd .Gt) (eVar 8) (eVar 2)) (tCmp opNin (eVar 8) (eVar 4))) (eOp (opAddX false) (eVar 4) (eTup (aCons (eVar 8) (aNil))))))) (sFor (iE (eVar 6)) (gN 7) bodyW1)
theorem gt_P {m : Mem} (a c : Cell) : opOrd .Gt (encP a) (encP c) m = .ok (.bl (ltC c a)) m := by
  have h : ordD .Gt (encP a) (encP c) = some (ltC c a) := by
    show (match (match ordL .Gt [] [] with | none => none | some z => if eqD (.int a.2) (.int c.2) then some z else ordD .Gt (.int a.2) (.int c.2)) with | none => none | some z => if eqD (.int a.1) (.int c.1) then some z else ordD .Gt (.int a.1) (.int c.1)) = _
    simp only [ordL, ordD, cmpI, eqD_int, ltC]
    by_cases h1 : a.1 = c.1
    · by_cases h2 : a.2 = c.2
      · simp [h1, h2]
      · simp [h1, h2]
    · by_cases h2 : a.2 = c.2
      · simp [h1, h2] <;> omega
      · simp [h1, h2] <;> omega
  show (if sh 60 (encP a) && sh 60 (encP c) then (match ordD .Gt (encP a) (encP c) with | some b => Res.ok (D.bl b) m | none => .bad) else .bad) = _
  rw [encP_sh 59, encP_sh 59, h]; rfl
theorem add_row {m : Mem} (row : Row) (o : Cell) (hl : row.length ≤ 1000) : opAddX false (bD row) (.tup [encP o]) m = .ok (bD (row ++ [o])) m := by
  show newT (row.map encP ++ [encP o]) m = _
  rw [newT_ok (by rw [List.length_append, List.length_map, List.length_singleton]; omega)]
  show Res.ok (D.tup (row.map encP ++ [o].map encP)) m = Res.ok (D.tup ((row ++ [o]).map encP)) m
  rw [List.map_append]
end K80
namespace K80
open PySem L2 PD
theorem putR_all {P : Row → Prop} {rs : Rows} {r : Row} {v : Int} (h : ∀ p ∈ rs, P p.1) (hr : P r) : ∀ p ∈ putR rs r v, P p.1 := fun p hp => by
  unfold putR at hp
  split at hp
  · obtain ⟨q, hq, rfl⟩ := List.mem_map.mp hp
    split
    · exact h q hq
    · exact h q hq
  · rcases List.mem_append.mp hp with hp | hp
    · exact h p hp
    · rw [List.mem_singleton] at hp; subst hp; exact hr
theorem addWs_all {P : Row → Prop} {v : Int} : ∀ (ws : List Row) (rs : Rows), (∀ p ∈ rs, P p.1) → (∀ w ∈ ws, P (sortC w)) → ∀ p ∈ ws.foldl (addW v) rs, P p.1
  | [], rs, h, _ => h
  | w :: ws, rs, h, hw => addWs_all ws (addW v rs w) (putR_all h (hw w List.mem_cons_self)) fun x hx => hw x (List.mem_cons_of_mem _ hx)
theorem stepRs_all {P : Row → Prop} {b : List Cell} {c : Cell} : ∀ (ps rs : Rows), (∀ p ∈ rs, P p.1) → (∀ p ∈ ps, ∀ w ∈ wayL b c p.1, P (sortC w)) → ∀ p ∈ ps.foldl (stepR b c) rs, P p.1
  | [], rs, h, _ => h
  | p :: ps, rs, h, hw => stepRs_all ps (stepR b c rs p) (addWs_all _ _ h (hw p List.mem_cons_self)) fun x hx => hw x (List.mem_cons_of_mem _ hx)
theorem stepC_all {P : Row → Prop} {b : List Cell} {c : Cell} {ps : Rows} (hw : ∀ p ∈ ps, ∀ w ∈ wayL b c p.1, P (sortC w)) : ∀ p ∈ stepC b ps c, P p.1 := stepRs_all ps [] (fun _ h => by cases h) hw
theorem wayL_each {b : List Cell} {c : Cell} {row w : Row} (h : w ∈ wayL b c row) : w.length ≤ row.length + 1 := by
  unfold wayL at h
  split at h
  · rw [List.mem_singleton] at h
    subst h
    have := nof_len c row
    omega
  · obtain ⟨o, _, rfl⟩ := List.mem_map.mp h
    simp
theorem bodyR_ev {b : List Cell} {c : Cell} {row : Row} {v : Int} {M : Mem} {r : Nat} {rs : Rows} {s1 s6 s7 : Option D} (hrow : row.length ≤ 100) (hl : rs.length ≤ 10000000) (e : M[r]? = some (.dct false (rD rs))) :
    ∃ s6' s7', bodyR [some (bD b), s1, some (encP c), some (.ref r), some (bD row), some (.int v), s6, s7, none] M = .nx [some (bD b), s1, some (encP c), some (.ref r), some (bD row), some (.int v), s6', s7', none] (M.set r (.dct false (rD (stepR b c rs (row, v))))) := by
  have hws := wayL_len b c row
  obtain ⟨s7', h2⟩ := ways_ev (r := r) (s0 := some (bD b)) (s1 := s1) (s2 := some (encP c)) (s4 := some (bD row)) (s6 := some (.lst ((wayL b c row).map bD))) (s8 := none) (v := v) (wayL b c row) rs M s7 (fun w hw => by have := wayL_each hw; omega) (by omega) e
  refine ⟨some (.lst ((wayL b c row).map bD)), s7', ?_⟩
  have hin := in_bD (m := M) false row c
  have h1 : sIf (tCmp opIn (eVar 2) (eVar 4)) (sSet 6 (eLst false (aCons (eB bTuple (aCons (eLc false [8] (iE (eVar 4)) (gN 8) (tCmp opNe (eVar 8) (eVar 2)) (eVar 8)) (aNil))) (aNil)))) (sSet 6 (eLc false [8] (iE (eCall R_around (aCons (eVar 0) (aCons (eVar 2) (aNil))))) (gN 8) (tAndD (tCmp (opOrd .Gt) (eVar 8) (eVar 2)) (tCmp opNin (eVar 8) (eVar 4))) (eOp (opAddX false) (eVar 4) (eTup (aCons (eVar 8) (aNil)))))) [some (bD b), s1, some (encP c), some (.ref r), some (bD row), some (.int v), s6, s7, none] M =
      .nx [some (bD b), s1, some (encP c), some (.ref r), some (bD row), some (.int v), some (.lst ((wayL b c row).map bD)), s7, none] M := by
    have hw : wipeD [some (bD b), s1, some (encP c), some (.ref r), some (bD row), some (.int v), s6, s7, none] [8] = [some (bD b), s1, some (encP c), some (.ref r), some (bD row), some (.int v), s6, s7, none] := rfl
    by_cases hc : c ∈ row
    · rw [decide_eq_true hc] at hin
      have hlc : lcL (gN 8) (tCmp opNe (eVar 8) (eVar 2)) (eVar 8) [some (bD b), s1, some (encP c), some (.ref r), some (bD row), some (.int v), s6, s7, none] (row.map encP) M = .ok ((nof c row).map encP) M :=
        lcL_filter fun d _ => ⟨[some (bD b), s1, some (encP c), some (.ref r), some (bD row), some (.int v), s6, s7, some (encP d)], rfl, by simp [ne_P], fun _ => rfl⟩
      have n1 := newL_f (m := M) (xs := (nof c row).map encP) (by rw [List.length_map]; have := nof_len c row; omega)
      have b1 := bTuple_lst (m := M) (xs := (nof c row).map encP) (by rw [List.length_map]; have := nof_len c row; omega)
      have n2 := newL_f (m := M) (xs := [bD (nof c row)]) (by simp)
      have hsrc : srcOf (bD row) M = .ok (.its (row.map encP)) M := rfl
      have ew : wayL b c row = [nof c row] := by unfold wayL; rw [if_pos hc]
      rw [ew, sIf_ap, tCmp_ap]
      simp only [eVar_ap, List.getElem?_cons_zero, List.getElem?_cons_succ, Res.bind_ok, hin, noexc_ok, asB_ap, Bool.false_xor, if_true, Res.st_ok, sSet_ap, eLst_ap, aCons_ap, eB_ap, eLc_ap, iE_ap, hsrc, hw, lcS_its, hlc, n1, aNil_ap, b1, n2, List.set_cons_zero, List.set_cons_succ]
      rfl
    · rw [decide_eq_false hc] at hin
      have har := R_around_ok (m := M) b c
      have hlc : lcL (gN 8) (tAndD (tCmp (opOrd .Gt) (eVar 8) (eVar 2)) (tCmp opNin (eVar 8) (eVar 4))) (eOp (opAddX false) (eVar 4) (eTup (aCons (eVar 8) (aNil)))) [some (bD b), s1, some (encP c), some (.ref r), some (bD row), some (.int v), s6, s7, none] ((nbrs b c).map encP) M = .ok (((nbrs b c).filter fun o => ltC c o && !decide (o ∈ row)).map fun o => bD (row ++ [o])) M := by
        refine lcL_filter fun o _ => ⟨[some (bD b), s1, some (encP c), some (.ref r), some (bD row), some (.int v), s6, s7, some (encP o)], rfl, ?_, fun _ => ?_⟩
        · have h1 := gt_P (m := M) o c
          have h2 := in_bD (m := M) true row o
          rw [tAnd_ap, tCmp_ap]
          simp only [eVar_ap, List.getElem?_cons_zero, List.getElem?_cons_succ, Res.bind_ok, h1, noexc_ok, asB_ap]
          cases ltC c o with
          | false => rfl
          | true =>
            rw [if_pos rfl, tCmp_ap]
            simp only [eVar_ap, List.getElem?_cons_zero, List.getElem?_cons_succ, Res.bind_ok, h2, noexc_ok, asB_ap, Bool.true_and, Bool.true_xor]
        · have h3 := add_row (m := M) row o (by omega)
          simp only [eOp_ap, eVar_ap, List.getElem?_cons_zero, List.getElem?_cons_succ, Res.bind_ok, eTup_ap, aCons_ap, aNil_ap, newT1, h3, noexc_ok]
      have ew : (wayL b c row).map bD = ((nbrs b c).filter fun o => ltC c o && !decide (o ∈ row)).map fun o => bD (row ++ [o]) := by
        unfold wayL; rw [if_neg hc, List.map_map]; rfl
      have hln : (((nbrs b c).filter fun o => ltC c o && !decide (o ∈ row)).map fun o => bD (row ++ [o])).length ≤ 16777216 := by
        rw [← ew, List.length_map]; omega
      have n1 := newL_f (m := M) hln
      have hsrc : srcOf (.lst ((nbrs b c).map encP)) M = .ok (.its ((nbrs b c).map encP)) M := rfl
      rw [ew, sIf_ap, tCmp_ap]
      simp only [eVar_ap, List.getElem?_cons_zero, List.getElem?_cons_succ, Res.bind_ok, hin, noexc_ok, asB_ap, Bool.false_xor, Bool.false_eq_true, if_false, Res.st_ok, sSet_ap, eLc_ap, iE_ap, eCall_ap, aCons_ap, aNil_ap, har, hsrc, hw, lcS_its, hlc, n1, List.set_cons_zero, List.set_cons_succ]
  have hi : iE (eVar 6) [some (bD b), s1, some (encP c), some (.ref r), some (bD row), some (.int v), some (.lst ((wayL b c row).map bD)), s7, none] M = .ok (.its ((wayL b c row).map bD)) M := rfl
  unfold bodyR
  rw [sSeq_ap, h1, SRes.then_nx, sFor_ap, hi, Res.st_ok, forS_its, h2]
  rfl
theorem rows_ev {b : List Cell} {c : Cell} {r : Nat} {s1 : Option D} : ∀ (ps rs : Rows) (M : Mem) (s4 s5 s6 s7 : Option D), (∀ p ∈ ps, p.1.length ≤ 100) → rs.length + 2 * ps.length ≤ 10000000 → M[r]? = some (.dct false (rD rs)) →
    ∃ s4' s5' s6' s7', forL (gT 2 (gsCons (gN 4) (gsCons (gN 5) (gsNil)))) bodyR (ps.map fun p => .tup [bD p.1, .int p.2]) [some (bD b), s1, some (encP c), some (.ref r), s4, s5, s6, s7, none] M = .nx [some (bD b), s1, some (encP c), some (.ref r), s4', s5', s6', s7', none] (M.set r (.dct false (rD (ps.foldl (stepR b c) rs))))
  | [], rs, M, s4, s5, s6, s7, _, _, e => ⟨s4, s5, s6, s7, by
    have : M.set r (.dct false (rD rs)) = M := by
      obtain ⟨h, e'⟩ := List.getElem?_eq_some_iff.mp e
      rw [← e']; exact List.set_getElem_self h
    show SRes.nx _ M = .nx _ (M.set r (.dct false (rD rs)))
    rw [this]⟩
  | p :: ps, rs, M, s4, s5, s6, s7, hp, hl, e => by
    rw [List.length_cons] at hl
    have hr := (List.getElem?_eq_some_iff.mp e).1
    obtain ⟨s6', s7', h1⟩ := bodyR_ev (b := b) (c := c) (row := p.1) (v := p.2) (s1 := s1) (s6 := s6) (s7 := s7) (hp p List.mem_cons_self) (by omega) e
    have hs := stepR_len b c rs p
    obtain ⟨s4'', s5'', s6'', s7'', h2⟩ := rows_ev ps (stepR b c rs p) (M.set r (.dct false (rD (stepR b c rs p)))) (some (bD p.1)) (some (.int p.2)) s6' s7' (fun x hx => hp x (List.mem_cons_of_mem _ hx)) (by omega) (by rw [List.getElem?_set_self hr])
    refine ⟨s4'', s5'', s6'', s7'', ?_⟩
    rw [List.map_cons, forL_step (σ1 := [some (bD b), s1, some (encP c), some (.ref r), some (bD p.1), some (.int p.2), s6, s7, none]) (m1 := M) rfl, h1, turnK_nx, h2, List.set_set]
    rfl
def bodyZ : SF := sSeq (sSet 3 (eDnew)) (sSeq (sLock 1 (sFor (iDi (eVar 1)) (gT 2 (gsCons (gN 4) (gsCons (gN 5) (gsNil)))) bodyR)) (sSet 1 (eVar 3)))
theorem cell_step {b : List Cell} {c : Cell} {q : Nat} {ps : Rows} {M : Mem} {s3 s4 s5 s6 s7 : Option D} (hp : ∀ p ∈ ps, p.1.length ≤ 100) (hl : ps.length ≤ 2000000) (e : M[q]? = some (.dct false (rD ps))) :
    ∃ M' s4' s5' s6' s7', bodyZ [some (bD b), some (.ref q), some (encP c), s3, s4, s5, s6, s7, none] M = .nx [some (bD b), some (.ref M.length), some (encP c), some (.ref M.length), s4', s5', s6', s7', none] M' ∧ M'[M.length]? = some (.dct false (rD (stepC b ps c))) := by
  have hq := (List.getElem?_eq_some_iff.mp e).1
  have hqr : q ≠ M.length := by omega
  have e1 : (M ++ [MO.dct false []])[q]? = some (.dct false (rD ps)) := by rw [List.getElem?_append_left hq]; exact e
  have hq2 : q < (M ++ [MO.dct false []]).length := by simp; omega
  have e2 : ((M ++ [MO.dct false []]).set q (.dct true (rD ps)))[M.length]? = some (.dct false (rD [])) := by
    rw [List.getElem?_set_ne hqr, List.getElem?_append_right (Nat.le_refl _), Nat.sub_self]; rfl
  obtain ⟨s4', s5', s6', s7', h⟩ := rows_ev (b := b) (c := c) (s1 := some (.ref q)) ps [] ((M ++ [MO.dct false []]).set q (.dct true (rD ps))) s4 s5 s6 s7 hp (by simp; omega) e2
  have e3 : ((M ++ [MO.dct false []]).set q (.dct true (rD ps)))[q]? = some (.dct true (rD ps)) := List.getElem?_set_self hq2
  have hi : iDi (eVar 1) [some (bD b), some (.ref q), some (encP c), some (.ref M.length), s4, s5, s6, s7, none] ((M ++ [MO.dct false []]).set q (.dct true (rD ps))) = .ok (.its (ps.map fun p => .tup [bD p.1, .int p.2])) ((M ++ [MO.dct false []]).set q (.dct true (rD ps))) := by
    rw [iDi_ap, eVar_ap]
    simp only [List.getElem?_cons_zero, List.getElem?_cons_succ, Res.bind_ok, e3]
    unfold rD
    rw [List.map_map]
    rfl
  generalize hM2 : (M ++ [MO.dct false []]).set q (.dct true (rD ps)) = M2 at *
  have hl2 : M.length < M2.length := (List.getElem?_eq_some_iff.mp e2).1
  have e4 : (M2.set M.length (.dct false (rD (ps.foldl (stepR b c) []))))[q]? = some (.dct true (rD ps)) := by rw [List.getElem?_set_ne (Ne.symm hqr)]; exact e3
  refine ⟨(M2.set M.length (.dct false (rD (ps.foldl (stepR b c) [])))).set q (.dct false (rD ps)), s4', s5', s6', s7', ?_, ?_⟩
  · unfold bodyZ
    have a1 : sSet 3 (eDnew) [some (bD b), some (.ref q), some (encP c), s3, s4, s5, s6, s7, none] M = .nx [some (bD b), some (.ref q), some (encP c), some (.ref M.length), s4, s5, s6, s7, none] (M ++ [.dct false []]) := rfl
    have a2 : sLock 1 (sFor (iDi (eVar 1)) (gT 2 (gsCons (gN 4) (gsCons (gN 5) (gsNil)))) bodyR) [some (bD b), some (.ref q), some (encP c), some (.ref M.length), s4, s5, s6, s7, none] (M ++ [.dct false []]) = .nx [some (bD b), some (.ref q), some (encP c), some (.ref M.length), s4', s5', s6', s7', none] ((M2.set M.length (.dct false (rD (ps.foldl (stepR b c) [])))).set q (.dct false (rD ps))) := by
      rw [sLock_ap]
      simp only [List.getElem?_cons_zero, List.getElem?_cons_succ, e1]
      rw [hM2, sFor_ap, hi, Res.st_ok, forS_its, h]
      unfold unlockS
      simp only [e4]
    rw [sSeq_ap, a1, SRes.then_nx, sSeq_ap, a2, SRes.then_nx]
    rfl
  · rw [List.getElem?_set_ne hqr, List.getElem?_set_self hl2]
    rfl
theorem cells_step {b : List Cell} : ∀ (cs : List Cell) (k q : Nat) (ps : Rows) (M : Mem) (s2 s3 s4 s5 s6 s7 : Option D), (∀ p ∈ ps, p.1.length ≤ k) → k + cs.length ≤ 40 → ps.length * 2 ^ cs.length ≤ 2000000 → M[q]? = some (.dct false (rD ps)) →
    ∃ M' q' s2' s3' s4' s5' s6' s7', forL (gN 2) bodyZ (cs.map encP) [some (bD b), some (.ref q), s2, s3, s4, s5, s6, s7, none] M = .nx [some (bD b), some (.ref q'), s2', s3', s4', s5', s6', s7', none] M' ∧ M'[q']? = some (.dct false (rD (cs.foldl (stepC b) ps)))
  | [], k, q, ps, M, s2, s3, s4, s5, s6, s7, _, _, _, e => ⟨M, q, s2, s3, s4, s5, s6, s7, rfl, e⟩
  | c :: cs, k, q, ps, M, s2, s3, s4, s5, s6, s7, hp, hk, hl, e => by
    rw [List.length_cons] at hk hl
    have hpow : 1 ≤ 2 ^ cs.length := Nat.one_le_pow _ _ (by decide)
    have hl1 : ps.length ≤ 2000000 := by
      have : ps.length * 1 ≤ ps.length * 2 ^ (cs.length + 1) := Nat.mul_le_mul_left _ (Nat.one_le_pow _ _ (by decide))
      omega
    obtain ⟨M1, t4, t5, t6, t7, h1, e1⟩ := cell_step (b := b) (c := c) (s3 := s3) (s4 := s4) (s5 := s5) (s6 := s6) (s7 := s7) (fun p h => by have := hp p h; omega) hl1 e
    have hsl := stepC_len b ps c
    have hl2 : (stepC b ps c).length * 2 ^ cs.length ≤ 2000000 := by
      have : (stepC b ps c).length * 2 ^ cs.length ≤ (2 * ps.length) * 2 ^ cs.length := Nat.mul_le_mul_right _ hsl
      rw [Nat.pow_succ] at hl
      have e : 2 * ps.length * 2 ^ cs.length = ps.length * (2 ^ cs.length * 2) := by rw [Nat.mul_comm 2, Nat.mul_assoc, Nat.mul_comm 2]
      omega
    obtain ⟨M', q', u2, u3, u4, u5, u6, u7, h2, e2⟩ := cells_step cs (k + 1) M.length (stepC b ps c) M1 (some (encP c)) (some (.ref M.length)) t4 t5 t6 t7 (stepC_all (P := fun r => r.length ≤ k + 1) fun p h w hw => by
      have := wayL_each hw
      have := hp p h
      show (sortC w).length ≤ k + 1
      rw [sortC_len]
      omega) (by omega) hl2 e1
    refine ⟨M', q', u2, u3, u4, u5, u6, u7, ?_, e2⟩
    rw [List.map_cons, forL_step (σ1 := [some (bD b), some (.ref q), some (encP c), s3, s4, s5, s6, s7, none]) (m1 := M) rfl, h1, turnK_nx, h2]
def tilN (b : List Cell) : Int := (lookR (b.foldl (stepC b) [([], 1)]) []).getD 0
theorem R_tilings_ok {b : List Cell} (B : Brd b) (M : Mem) : ∃ M', R_tilings [bD b] M = .ok (.int (tilN b)) M' := by
  have hcb := R_board (m := M) B
  have e1 : (M ++ [MO.dct false []])[M.length]? = some (.dct false (rD [])) := by rw [List.getElem?_append_right (Nat.le_refl _), Nat.sub_self]; rfl
  have h1 : setDx (.ref M.length) (.tup []) (.int 1) [some (bD b), none, none, none, none, none, none, none, none] (M ++ [MO.dct false []]) = .nx [some (bD b), none, none, none, none, none, none, none, none] ((M ++ [MO.dct false []]).set M.length (.dct false (rD [([], 1)]))) := by
    have := setDx_of (σ := [some (bD b), none, none, none, none, none, none, none, none]) (d := .int 1) (keyT_R []) e1 (by simp [rD])
    rw [dPut_rD] at this
    exact this
  have e2 : ((M ++ [MO.dct false []]).set M.length (.dct false (rD [([], 1)])))[M.length]? = some (.dct false (rD [([], 1)])) := List.getElem?_set_self (by simp)
  obtain ⟨M', q', u2, u3, u4, u5, u6, u7, h2, e3⟩ := cells_step (b := b) b 0 M.length [([], 1)] ((M ++ [MO.dct false []]).set M.length (.dct false (rD [([], 1)]))) none none none none none none (fun p h => by
    rw [List.mem_singleton] at h; subst h; exact Nat.le_refl _) (by have := B.len; omega) (by
    have : 2 ^ b.length ≤ 2 ^ 20 := Nat.pow_le_pow_right (by decide) B.len
    have e20 : 2 ^ 20 = 1048576 := rfl
    simp only [List.length_singleton]
    omega) e2
  refine ⟨M', ?_⟩
  have h3 := opDget_of (m := M') (x := .int 0) (keyT_R []) e3
  have h4 := isDc_of e3
  have h5 : ((dFind (rD (b.foldl (stepC b) [([], 1)])) (kR [])).getD (.int 0)) = .int (tilN b) := by
    unfold tilN
    rw [dFind_rD]; cases lookR (b.foldl (stepC b) [([], 1)]) [] <;> rfl
  rw [h5] at h3
  change opDget (.ref q') (.tup []) (.int 0) M' = _ at h3
  unfold R_tilings fnR
  have es : startD 9 [bD b] = [some (bD b), none, none, none, none, none, none, none, none] := rfl
  rw [es]
  have eb : r_tilings R_check_board R_around = sSeq (sExpr (eCall R_check_board (aCons (eVar 0) (aNil)))) (sSeq (sSet 1 (eD1 (eTup (aNil)) (eC (.int 1)))) (sSeq (sFor (iE (eVar 0)) (gN 2) bodyZ) (sRet (eDget (eVar 1) (eTup (aNil)) (eC (.int 0)))))) := rfl
  rw [eb]
  have a1 : sExpr (eCall R_check_board (aCons (eVar 0) (aNil))) [some (bD b), none, none, none, none, none, none, none, none] M = .nx [some (bD b), none, none, none, none, none, none, none, none] M := by
    rw [sExpr_ap]
    simp only [eCall_ap, aCons_ap, eVar_ap, List.getElem?_cons_zero, Res.bind_ok, aNil_ap, hcb, Res.st_ok]
  have a2 : sSet 1 (eD1 (eTup (aNil)) (eC (.int 1))) [some (bD b), none, none, none, none, none, none, none, none] M = .nx [some (bD b), some (.ref M.length), none, none, none, none, none, none, none] ((M ++ [MO.dct false []]).set M.length (.dct false (rD [([], 1)]))) := by
    rw [sSet_ap, eD1_ap]
    simp only [eTup_ap, aNil_ap, Res.bind_ok, newT0, noexc_ok, eC_ap, h1, Res.st_ok, List.set_cons_zero, List.set_cons_succ]
  have hi : iE (eVar 0) [some (bD b), some (.ref M.length), none, none, none, none, none, none, none] ((M ++ [MO.dct false []]).set M.length (.dct false (rD [([], 1)]))) = .ok (.its (b.map encP)) ((M ++ [MO.dct false []]).set M.length (.dct false (rD [([], 1)]))) := rfl
  rw [sSeq_ap, a1, SRes.then_nx, sSeq_ap, a2, SRes.then_nx, sSeq_ap, sFor_ap, hi, Res.st_ok, forS_its, h2, SRes.then_nx, sRet_ap]
  simp only [eDget_ap, eVar_ap, List.getElem?_cons_zero, List.getElem?_cons_succ, Res.bind_ok, h4, if_true, eTup_ap, aNil_ap, newT0, eC_ap, h3, noexc_ok, Res.st_ok]
end K80
namespace K80
open PySem L2 PD
/-! ### tilings are the ways -/
def mi (cs : List Cell) (row : Row) : List Cell := cs.filter fun d => !decide (d ∈ row)
def SW (f : Row → Int) : Rows → Int | [] => 0 | p :: r => p.2 * f p.1 + SW f r
def sumW (f : Row → Int) : List Row → Int | [] => 0 | w :: ws => f (sortC w) + sumW f ws
theorem SW_app (f : Row → Int) (a c : Rows) : SW f (a ++ c) = SW f a + SW f c := by
  induction a with
  | nil => show SW f c = 0 + SW f c; rw [Int.zero_add]
  | cons p a ih => show p.2 * f p.1 + SW f (a ++ c) = p.2 * f p.1 + SW f a + SW f c; rw [ih]; omega
theorem lookR_none {rs : Rows} {r : Row} : (lookR rs r).isSome = false ↔ r ∉ rs.map (·.1) := by
  unfold lookR
  rw [Option.isSome_map]
  constructor
  · intro h hm
    obtain ⟨p, hp, e⟩ := List.mem_map.mp hm
    have : (rs.find? fun p => decide (p.1 = r)).isSome = true := by rw [List.find?_isSome]; exact ⟨p, hp, by simp [e]⟩
    rw [h] at this; cases this
  · intro h
    cases e : (rs.find? fun p => decide (p.1 = r)) with
    | none => rfl
    | some p =>
      have h1 := List.mem_of_find?_eq_some e
      have h2 := List.find?_some e
      exact absurd (List.mem_map.mpr ⟨p, h1, of_decide_eq_true h2⟩) h
theorem map_skip {r : Row} {v : Int} : ∀ {rs : Rows}, r ∉ rs.map (·.1) → (rs.map fun p => if p.1 = r then (p.1, v) else p) = rs
  | [], _ => rfl
  | p :: q, h => by
    rw [List.map_cons, List.mem_cons, not_or] at h
    rw [List.map_cons, if_neg (fun e => h.1 e.symm), map_skip h.2]
theorem SW_map (f : Row → Int) {r : Row} {v : Int} : ∀ {rs : Rows}, (rs.map (·.1)).Nodup → r ∈ rs.map (·.1) → SW f (rs.map fun p => if p.1 = r then (p.1, v) else p) = SW f rs + (v - (lookR rs r).getD 0) * f r
  | [], _, h => by cases h
  | p :: q, hn, h => by
    rw [List.map_cons, List.nodup_cons] at hn
    rw [List.map_cons, List.mem_cons] at h
    by_cases e : p.1 = r
    · have hr : r ∉ q.map (·.1) := by rw [← e]; exact hn.1
      rw [List.map_cons, if_pos e, map_skip hr]
      have hl : lookR (p :: q) r = some p.2 := by unfold lookR; rw [List.find?_cons]; simp [e]
      rw [hl]
      show v * f p.1 + SW f q = p.2 * f p.1 + SW f q + (v - p.2) * f r
      rw [e, Int.sub_mul]; omega
    · have hr : r ∈ q.map (·.1) := by
        rcases h with h | h
        · exact absurd h.symm e
        · exact h
      have hl : lookR (p :: q) r = lookR q r := by unfold lookR; rw [List.find?_cons]; simp [e]
      rw [List.map_cons, if_neg e, hl]
      show p.2 * f p.1 + SW f (q.map fun p => if p.1 = r then (p.1, v) else p) = p.2 * f p.1 + SW f q + _
      rw [SW_map f hn.2 hr]; omega
theorem putR_keys (rs : Rows) (r : Row) (v : Int) (hn : (rs.map (·.1)).Nodup) : ((putR rs r v).map (·.1)).Nodup := by
  unfold putR
  cases e : (lookR rs r).isSome with
  | true =>
    rw [if_pos rfl, List.map_map]
    have : (rs.map ((fun p : Row × Int => p.1) ∘ fun p => if p.1 = r then (p.1, v) else p)) = rs.map (·.1) := List.map_congr_left fun p _ => by
      simp only [Function.comp]
      split <;> rfl
    rw [this]; exact hn
  | false =>
    rw [if_neg Bool.false_ne_true, List.map_append, List.nodup_append]
    refine ⟨hn, by simp, fun a ha d hd => ?_⟩
    simp only [List.map_cons, List.map_nil, List.mem_singleton] at hd
    subst hd
    rintro rfl
    exact (lookR_none.mp e) ha
theorem SW_put (f : Row → Int) {rs : Rows} {r : Row} {v : Int} (hn : (rs.map (·.1)).Nodup) : SW f (putR rs r v) = SW f rs + (v - (lookR rs r).getD 0) * f r := by
  unfold putR
  cases e : (lookR rs r).isSome with
  | true =>
    rw [if_pos rfl]
    refine SW_map f hn ?_
    by_cases h : r ∈ rs.map (·.1)
    · exact h
    · have := lookR_none.mpr h
      rw [e] at this; cases this
  | false =>
    rw [if_neg Bool.false_ne_true, SW_app]
    have hl : lookR rs r = none := by
      cases h : lookR rs r with
      | none => rfl
      | some _ => rw [h] at e; cases e
    rw [hl]
    show SW f rs + (v * f r + 0) = SW f rs + (v - 0) * f r
    rw [Int.sub_zero, Int.add_zero]
theorem SW_add (f : Row → Int) {rs : Rows} {w : Row} {v : Int} (hn : (rs.map (·.1)).Nodup) : SW f (addW v rs w) = SW f rs + v * f (sortC w) := by
  unfold addW
  rw [SW_put f hn]
  have : (lookR rs (sortC w)).getD 0 + v - (lookR rs (sortC w)).getD 0 = v := by omega
  rw [this]
theorem SW_adds (f : Row → Int) {v : Int} : ∀ (ws : List Row) (rs : Rows), (rs.map (·.1)).Nodup → SW f (ws.foldl (addW v) rs) = SW f rs + v * sumW f ws ∧ ((ws.foldl (addW v) rs).map (·.1)).Nodup
  | [], rs, hn => ⟨by show SW f rs = SW f rs + v * 0; rw [Int.mul_zero, Int.add_zero], hn⟩
  | w :: ws, rs, hn => by
    have hn1 : ((addW v rs w).map (·.1)).Nodup := putR_keys _ _ _ hn
    obtain ⟨h1, h2⟩ := SW_adds f ws (addW v rs w) hn1
    refine ⟨?_, h2⟩
    rw [List.foldl_cons, h1, SW_add f hn]
    show SW f rs + v * f (sortC w) + v * sumW f ws = SW f rs + v * (f (sortC w) + sumW f ws)
    rw [Int.mul_add]; omega
theorem SW_steps (f g : Row → Int) {b : List Cell} {c : Cell} : ∀ (ps rs : Rows), (rs.map (·.1)).Nodup → (∀ p ∈ ps, sumW f (wayL b c p.1) = g p.1) → SW f (ps.foldl (stepR b c) rs) = SW f rs + SW g ps ∧ ((ps.foldl (stepR b c) rs).map (·.1)).Nodup
  | [], rs, hn, _ => ⟨by show SW f rs = SW f rs + 0; rw [Int.add_zero], hn⟩
  | p :: ps, rs, hn, h => by
    obtain ⟨a1, a2⟩ := SW_adds f (v := p.2) (wayL b c p.1) rs hn
    obtain ⟨h1, h2⟩ := SW_steps f g ps (stepR b c rs p) a2 fun x hx => h x (List.mem_cons_of_mem _ hx)
    refine ⟨?_, h2⟩
    rw [List.foldl_cons, h1]
    unfold stepR
    rw [a1, h p List.mem_cons_self]
    show SW f rs + p.2 * g p.1 + SW g ps = SW f rs + (p.2 * g p.1 + SW g ps)
    omega
theorem wy_fuel : ∀ (n m : Nat) (cs : List Cell), cs.length < n → cs.length < m → wy n cs = wy m cs
  | 0, _, cs, h, _ => absurd h (Nat.not_lt_zero _)
  | _, 0, cs, _, h => absurd h (Nat.not_lt_zero _)
  | n + 1, m + 1, [], _, _ => rfl
  | n + 1, m + 1, c :: cs, h1, h2 => by
    rw [List.length_cons] at h1 h2
    have h : ∀ o, wo (wy n) c cs o = wo (wy m) c cs o := fun o => by
      unfold wo
      split
      · exact wy_fuel n m _ (by have := nof_len o cs; omega) (by have := nof_len o cs; omega)
      · rfl
    show wo (wy n) c cs (upC c) + wo (wy n) c cs (riC c) = wo (wy m) c cs (upC c) + wo (wy m) c cs (riC c)
    rw [h, h]
theorem mi_len (cs : List Cell) (row : Row) : (mi cs row).length ≤ cs.length := List.length_filter_le _ _
theorem sum_two (f : Row → Int) (P : Cell → Bool) (h : Cell → Row) (u r : Cell) : sumW f (([u, r].filter P).map h) = (if P u then f (sortC (h u)) else 0) + (if P r then f (sortC (h r)) else 0) := by
  rw [List.filter_cons, List.filter_cons]
  cases P u with
  | true =>
    cases P r with
    | true => simp [sumW]
    | false => simp [sumW]
  | false =>
    cases P r with
    | true => simp [sumW]
    | false => simp [sumW]
theorem way_sum {b pre rest : List Cell} {c : Cell} (hb : b = pre ++ c :: rest) (hp : b.Pairwise fun a d => ltC a d = true) (hl : b.length ≤ 30) {row : Row} (hr : ∀ d ∈ row, d ∈ c :: rest) :
    sumW (fun w => wy 40 (mi rest w)) (wayL b c row) = wy 40 (mi (c :: rest) row) := by
  have hp' := hp
  rw [hb, List.pairwise_append] at hp'
  obtain ⟨_, hp2, hp3⟩ := hp'
  rw [List.pairwise_cons] at hp2
  have hc : c ∉ rest := fun h => (ltC_iff.mp (hp2.1 c h)).2 rfl
  have hlr : rest.length ≤ 30 := by rw [hb, List.length_append, List.length_cons] at hl; omega
  have sm : ∀ (w : Row) (d : Cell), d ∈ sortC w ↔ d ∈ w := fun w d => (sortC_pm w).mem_iff
  unfold wayL
  by_cases h : c ∈ row
  · rw [if_pos h]
    show wy 40 (mi rest (sortC (nof c row))) + 0 = _
    have e1 : mi rest (sortC (nof c row)) = mi rest row := by
      refine List.filter_congr fun d hd => ?_
      have : (d ∈ sortC (nof c row)) ↔ d ∈ row := by
        rw [sm, mem_nof]
        exact ⟨fun z => z.1, fun z => ⟨z, fun e => hc (by rw [← e]; exact hd)⟩⟩
      rw [decide_eq_decide.mpr this]
    have e2 : mi (c :: rest) row = mi rest row := by
      unfold mi
      rw [List.filter_cons]
      simp [h]
    rw [e1, e2, Int.add_zero]
  · rw [if_neg h]
    have e2 : mi (c :: rest) row = c :: mi rest row := by
      unfold mi
      rw [List.filter_cons]
      simp [h]
    rw [e2]
    have l1 : ltC c (c.1 - 1, c.2) = false := by unfold ltC; rw [decide_eq_false_iff_not]; simp only; omega
    have l2 : ltC c (c.1, c.2 - 1) = false := by unfold ltC; rw [decide_eq_false_iff_not]; simp only; omega
    have l3 : ltC c (upC c) = true := decide_eq_true (.inr ⟨rfl, by show c.2 < c.2 + 1; omega⟩)
    have l4 : ltC c (riC c) = true := decide_eq_true (.inl (by show c.1 < c.1 + 1; omega))
    have ef : (nbrs b c).filter (fun o => ltC c o && !decide (o ∈ row)) = [upC c, riC c].filter fun o => decide (o ∈ c :: mi rest row) := by
      have hin : ∀ o, ltC c o = true → (((ltC c o && !decide (o ∈ row)) && decide (o ∈ b)) = decide (o ∈ c :: mi rest row)) := fun o ho => by
        have hne := (ltC_iff.mp ho).2
        rw [ho, Bool.true_and, Bool.eq_iff_iff]
        simp only [Bool.and_eq_true, Bool.not_eq_true', decide_eq_false_iff_not, decide_eq_true_eq, List.mem_cons]
        unfold mi
        rw [List.mem_filter]
        simp only [Bool.not_eq_true', decide_eq_false_iff_not]
        constructor
        · rintro ⟨a1, a2⟩
          rw [hb, List.mem_append, List.mem_cons] at a2
          rcases a2 with a2 | a2 | a2
          · have := hp3 o a2 c List.mem_cons_self
            unfold ltC at this ho
            rw [decide_eq_true_eq] at this ho
            omega
          · exact absurd a2.symm hne
          · exact .inr ⟨a2, a1⟩
        · rintro (a | ⟨a1, a2⟩)
          · exact absurd a.symm hne
          · exact ⟨a2, by rw [hb]; simp [a1]⟩
      have i3 := hin (upC c) l3
      have i4 := hin (riC c) l4
      unfold nbrs
      rw [List.filter_filter, List.filter_cons, List.filter_cons, l1, l2]
      simp only [Bool.false_and, Bool.false_eq_true, if_false]
      show List.filter (fun a => (ltC c a && !decide (a ∈ row)) && decide (a ∈ b)) [upC c, riC c] = _
      rw [List.filter_cons, List.filter_cons, List.filter_cons, List.filter_cons, i3, i4]
      rfl
    rw [ef, sum_two]
    have ew : ∀ o, (if decide (o ∈ c :: mi rest row) = true then wy 40 (mi rest (sortC (row ++ [o]))) else 0) = wo (wy 39) c (mi rest row) o := fun o => by
      unfold wo
      simp only [decide_eq_true_eq]
      by_cases hm : o ∈ c :: mi rest row
      · rw [if_pos hm, if_pos hm]
        have e3 : mi rest (sortC (row ++ [o])) = nof o (mi rest row) := by
          unfold nof mi
          rw [List.filter_filter]
          refine List.filter_congr fun d hd => ?_
          rw [Bool.eq_iff_iff]
          simp only [Bool.and_eq_true, Bool.not_eq_true', decide_eq_false_iff_not, decide_eq_true_eq, sm, List.mem_append, List.mem_singleton, not_or]
          exact ⟨fun z => ⟨z.2, z.1⟩, fun z => ⟨z.2, z.1⟩⟩
        rw [e3]
        have q1 := nof_len o (mi rest row)
        have q2 := mi_len rest row
        have q3 : (nof o (mi rest row)).length < 39 := by omega
        exact wy_fuel 40 39 (nof o (mi rest row)) (Nat.lt_succ_of_lt q3) q3
      · rw [if_neg hm, if_neg hm]
    show (if decide (upC c ∈ c :: mi rest row) = true then wy 40 (mi rest (sortC (row ++ [upC c]))) else 0) + (if decide (riC c ∈ c :: mi rest row) = true then wy 40 (mi rest (sortC (row ++ [riC c]))) else 0) = _
    rw [ew, ew]
    rfl
theorem way_sub {b pre rest : List Cell} {c : Cell} (hb : b = pre ++ c :: rest) (hp : b.Pairwise fun a d => ltC a d = true) {row : Row} (hr : ∀ d ∈ row, d ∈ c :: rest) : ∀ w ∈ wayL b c row, ∀ d ∈ sortC w, d ∈ rest := fun w hw d hd => by
  have hd' : d ∈ w := (sortC_pm w).mem_iff.mp hd
  rw [hb, List.pairwise_append] at hp
  obtain ⟨_, hp2, hp3⟩ := hp
  unfold wayL at hw
  split at hw
  · rw [List.mem_singleton] at hw
    subst hw
    obtain ⟨h1, h2⟩ := mem_nof.mp hd'
    rcases List.mem_cons.mp (hr d h1) with h | h
    · exact absurd h h2
    · exact h
  · rename_i hc
    obtain ⟨o, ho, rfl⟩ := List.mem_map.mp hw
    rcases List.mem_append.mp hd' with h | h
    · rcases List.mem_cons.mp (hr d h) with h2 | h2
      · rw [h2] at h; exact absurd h hc
      · exact h2
    · rw [List.mem_singleton] at h
      subst h
      rw [List.mem_filter, Bool.and_eq_true] at ho
      have hb2 := nbrs_mem ho.1
      rw [hb, List.mem_append, List.mem_cons] at hb2
      rcases hb2 with a2 | a2 | a2
      · have h1 := hp3 d a2 c List.mem_cons_self
        have h2 := ho.2.1
        unfold ltC at h1 h2
        rw [decide_eq_true_eq] at h1 h2
        omega
      · exact absurd a2.symm (ltC_iff.mp ho.2.1).2
      · exact a2
theorem til_sum {b : List Cell} (hp : b.Pairwise fun a d => ltC a d = true) (hl : b.length ≤ 30) : ∀ (rest pre : List Cell) (rs : Rows), b = pre ++ rest → (rs.map (·.1)).Nodup → (∀ p ∈ rs, ∀ d ∈ p.1, d ∈ rest) →
    (lookR (rest.foldl (stepC b) rs) []).getD 0 = SW (fun w => wy 40 (mi rest w)) rs
  | [], pre, rs, _, hn, hs => by
    have hnil : ∀ p ∈ rs, p.1 = [] := fun p h => List.eq_nil_iff_forall_not_mem.mpr fun d hd => by cases hs p h d hd
    show (lookR rs []).getD 0 = _
    cases rs with
    | nil => rfl
    | cons p q =>
      have h1 := hnil p List.mem_cons_self
      rw [List.map_cons, List.nodup_cons] at hn
      have hq : q = [] := by
        cases q with
        | nil => rfl
        | cons s t =>
          have h2 := hnil s (by simp)
          exact absurd (by rw [h1, List.map_cons, h2]; simp) hn.1
      subst hq
      have hl : lookR [p] [] = some p.2 := by unfold lookR; rw [List.find?_cons]; simp [h1]
      rw [hl]
      show p.2 = p.2 * 1 + 0
      omega
  | c :: rest, pre, rs, hb, hn, hs => by
    rw [List.foldl_cons]
    have hw := fun p hpm => way_sum hb hp hl (row := p.1) (hs p hpm)
    obtain ⟨h1, h2⟩ := SW_steps (fun w => wy 40 (mi rest w)) (fun w => wy 40 (mi (c :: rest) w)) (b := b) (c := c) rs [] List.nodup_nil hw
    have h3 := til_sum hp hl rest (pre ++ [c]) (stepC b rs c) (by rw [hb, List.append_assoc]; rfl) h2 (stepC_all (P := fun r => ∀ d ∈ r, d ∈ rest) fun p hpm w hwm => way_sub hb hp (hs p hpm) w hwm)
    rw [h3]
    unfold stepC
    rw [h1]
    show 0 + _ = _
    rw [Int.zero_add]
theorem til_ways {b : List Cell} (B : Brd b) : tilN b = wy 40 b := by
  have h := til_sum (b := b) (rising_iff.mp B.up) (by have := B.len; omega) b [] [([], 1)] rfl (by simp) (fun p h d hd => by
    rw [List.mem_singleton] at h; subst h; cases hd)
  unfold tilN
  rw [h]
  show 1 * wy 40 (mi b []) + 0 = _
  have e : mi b [] = b := by
    unfold mi
    rw [List.filter_eq_self]
    intro d _
    simp
  rw [e]; omega
theorem wy_le : ∀ (n : Nat) (cs : List Cell), wy n cs ≤ 2 ^ n
  | 0, cs => by show (0 : Int) ≤ 2 ^ 0; decide
  | n + 1, [] => by
    show (1 : Int) ≤ 2 ^ (n + 1)
    have := Int.pow_pos (n := 2) (m := n + 1) (by decide)
    omega
  | n + 1, c :: cs => by
    have h : ∀ o, wo (wy n) c cs o ≤ 2 ^ n := fun o => by
      unfold wo
      split
      · exact wy_le n _
      · have := Int.pow_pos (n := 2) (m := n) (by decide)
        omega
    show wo (wy n) c cs (upC c) + wo (wy n) c cs (riC c) ≤ 2 ^ (n + 1)
    have := h (upC c)
    have := h (riC c)
    rw [Int.pow_succ]
    omega
theorem wy_log (b : List Cell) : (wy 40 b).natAbs.log2 < 1920 := by
  have h1 := wy_nn 40 b
  have h2 := wy_le 40 b
  have e40 : (2 : Int) ^ 40 = 1099511627776 := by decide
  rw [e40] at h2
  have h3 : (wy 40 b).natAbs ≤ 1099511627776 := by omega
  by_cases h0 : (wy 40 b).natAbs = 0
  · rw [h0]; decide
  · have : (wy 40 b).natAbs.log2 < 41 := by
      rw [Nat.log2_lt h0]
      have : 2 ^ 41 = 2199023255552 := by decide
      omega
    omega
end K80
namespace K80
open PySem L2 PD
theorem R_tiled {n w : Nat} {b : List Cell} (B : Brd b) {says : Bool} {x : D} {M : Mem} (h : vok n w x = true) (hw : w ≤ 100000) : ∃ M', R_is_tiled [bD b, .bl says, x] M = .ok (.bl (if says then J1 b x else J2 b x)) M' ∧ Keep M.length M M' := by
  have hb := B.len
  unfold R_is_tiled fnR
  have es : startD 3 [bD b, .bl says, x] = [some (bD b), some (.bl says), some x] := rfl
  rw [es]
  have hcb := R_board (m := M) B
  cases says with
  | true =>
    obtain ⟨M', h1, k1⟩ := R_tiles (b := b) (M := M) h (by omega)
    exact ⟨M', by simp [r_is_tiled, hcb, h1], k1⟩
  | false =>
    obtain ⟨M', h1, k1⟩ := R_few (b := b) (M := M) (by omega) h (by omega)
    exact ⟨M', by simp [r_is_tiled, hcb, h1], k1⟩
theorem R_take_eq : R__law_take = fnR 5 takeSF := rfl
theorem R_box_eq (o : OScr) : R__law_box o = fnR 2 (boxSF o) := rfl
/-! ### a board is drawn -/
structure AccOk (acc : List Cell) (x y : Int) : Prop where
  pw : acc.Pairwise fun a b => ltC a b = true
  bd : ∀ c ∈ acc, (c.1 < x ∨ (c.1 = x ∧ c.2 < y)) ∧ 0 ≤ c.1 ∧ c.1 ≤ 4 ∧ 0 ≤ c.2 ∧ c.2 ≤ 4
theorem AccOk.add {acc : List Cell} {x y : Int} (A : AccOk acc x y) (hx : 0 ≤ x ∧ x ≤ 4) (hy : 0 ≤ y ∧ y ≤ 4) : AccOk (acc ++ [(x, y)]) x (y + 1) where
  pw := by
    rw [List.pairwise_append]
    refine ⟨A.pw, by simp, fun a ha c hc => ?_⟩
    rw [List.mem_singleton] at hc
    subst hc
    have := (A.bd a ha).1
    unfold ltC
    rw [decide_eq_true_eq]
    exact this
  bd := fun c hc => by
    rcases List.mem_append.mp hc with h | h
    · have := A.bd c h
      exact ⟨by omega, this.2⟩
    · rw [List.mem_singleton] at h
      subst h
      exact ⟨.inr ⟨rfl, by omega⟩, hx.1, hx.2, hy.1, hy.2⟩
theorem AccOk.next {acc : List Cell} {x y : Int} (A : AccOk acc x y) : AccOk acc x (y + 1) := ⟨A.pw, fun c hc => ⟨by have := (A.bd c hc).1; omega, (A.bd c hc).2⟩⟩
theorem AccOk.row {acc : List Cell} {x y : Int} (A : AccOk acc x y) : AccOk acc (x + 1) 0 := ⟨A.pw, fun c hc => ⟨.inl (by have := (A.bd c hc).1; omega), (A.bd c hc).2⟩⟩
def bodyB : SF := sSeq (sIf (tOrD (tAndD (tCmp opEq (eVar 2) (eC (.int 0))) (tCmp (opOrd .Gt) (eCall R__law_take (aCons (eVar 0) (aCons (eC (.int 3)) (aNil)))) (eC (.int 0)))) (tAndD (tCmp opEq (eVar 2) (eC (.int 1))) (tCmp (opOrd .Gt) (eCall R__law_take (aCons (eVar 0) (aCons (eC (.int 9)) (aNil)))) (eC (.int 0))))) (sExpr (eM mAppend (eVar 5) (aCons (eTup (aCons (eVar 6) (aCons (eVar 7) (aNil)))) (aNil)))) (sNil)) (sIf (tAndD (tCmp opEq (eVar 2) (eC (.int 2))) (tOrD (tCmp opIn (eVar 6) (eTup (aCons (eC (.int 0)) (aCons (eOp opSub (eVar 3) (eC (.int 1))) (aNil))))) (tCmp opIn (eVar 7) (eTup (aCons (eC (.int 0)) (aCons (eOp opSub (eVar 4) (eC (.int 1))) (aNil))))))) (sExpr (eM mAppend (eVar 5) (aCons (eTup (aCons (eVar 6) (aCons (eVar 7) (aNil)))) (aNil)))) (sNil))
theorem in_ints (i a b : Int) (m : Mem) : opIn (.int i) (.tup [.int a, .int b]) m = .ok (.bl (decide (a = i) || decide (b = i))) m := by
  show (if sh 60 (D.int i) && sh 60 (D.tup [.int a, .int b]) then Res.ok (D.bl (false ^^ [D.int a, .int b].any fun z => eqD z (D.int i))) m else .bad) = _
  simp [sh60_tup]
structure BI (M : Mem) (q : Nat) (xs : List Int) (acc : List Cell) : Prop where
  box : BoxAt M 0 xs
  at' : M[q]? = some (.lst (acc.map encP))
theorem BI.set {M : Mem} {q : Nat} {xs : List Int} {acc : List Cell} {o : MO} (I : BI M q xs acc) (hq : q ≠ 0) (B : BoxAt (M.set 0 o) 0 xs) : BI (M.set 0 o) q xs acc := ⟨B, by rw [List.getElem?_set_ne (Ne.symm hq)]; exact I.at'⟩
theorem BI.app {M : Mem} {q : Nat} {xs : List Int} {acc : List Cell} (I : BI M q xs acc) (hq : q ≠ 0) (c : Cell) (hl : acc.length ≤ 1000) : mAppend (.ref q) [encP c] M = .ok .non (M.set q (.lst ((acc ++ [c]).map encP))) ∧ isLs M (.ref q) = true ∧ BI (M.set q (.lst ((acc ++ [c]).map encP))) q xs (acc ++ [c]) := by
  have h1 := (List.getElem?_eq_some_iff.mp I.at').1
  refine ⟨by rw [mAppend_ok I.at' (by rw [List.length_map]; omega), List.map_append]; rfl, isLs_ref I.at', ⟨?_, by rw [List.getElem?_set_self h1]⟩⟩
  obtain ⟨h, nn, hl, a, b, c, e, ok⟩ := I.box
  exact ⟨by rw [List.length_set]; exact h, nn, hl, a, b, c, by rw [List.getElem?_set_ne hq]; exact e, ok⟩
theorem board_step {M : Mem} {q : Nat} {xs : List Int} {acc : List Cell} (hq : q ≠ 0) (I : BI M q xs acc) (hl : acc.length ≤ 1000) {sort wide high x y : Int} (hs : 0 ≤ sort ∧ sort < 3) (s1 : Option D) :
    ∃ M' acc', bodyB [some (.ref 0), s1, some (.int sort), some (.int wide), some (.int high), some (.ref q), some (.int x), some (.int y)] M = .nx [some (.ref 0), s1, some (.int sort), some (.int wide), some (.int high), some (.ref q), some (.int x), some (.int y)] M' ∧ BI M' q xs acc' ∧ (acc' = acc ∨ acc' = acc ++ [(x, y)]) := by
  have hT : ∀ m : Mem, newT [D.int x, .int y] m = .ok (encP (x, y)) m := fun m => rfl
  by_cases h0 : sort = 0
  · subst h0
    obtain ⟨r, o, e, r0, r1, B⟩ := take_ok I.box (k := 3) (by decide) (intS_sz (by decide) (by decide))
    rw [← R_take_eq] at e
    have I1 := I.set hq B
    by_cases hr : 0 < r
    · obtain ⟨a1, a2, a3⟩ := I1.app hq (x, y) hl
      refine ⟨_, _, ?_, a3, .inr rfl⟩
      unfold bodyB
      simp [e, hr, a1, a2, hT]
    · refine ⟨_, _, ?_, I1, .inl rfl⟩
      unfold bodyB
      simp [e, hr]
  · by_cases h1 : sort = 1
    · subst h1
      obtain ⟨r, o, e, r0, r1, B⟩ := take_ok I.box (k := 9) (by decide) (intS_sz (by decide) (by decide))
      rw [← R_take_eq] at e
      have I1 := I.set hq B
      by_cases hr : 0 < r
      · obtain ⟨a1, a2, a3⟩ := I1.app hq (x, y) hl
        refine ⟨_, _, ?_, a3, .inr rfl⟩
        unfold bodyB
        simp [e, hr, a1, a2, hT]
      · refine ⟨_, _, ?_, I1, .inl rfl⟩
        unfold bodyB
        simp [e, hr]
    · have h2 : sort = 2 := by omega
      subst h2
      obtain ⟨a1, a2, a3⟩ := I.app hq (x, y) hl
      have a1' : mAppend (.ref q) [D.tup [.int x, .int y]] M = .ok .non (M.set q (.lst ((acc ++ [(x, y)]).map encP))) := a1
      cases hi : (decide ((0 : Int) = x) || decide (wide - 1 = x)) with
      | true =>
        refine ⟨_, _, ?_, a3, .inr rfl⟩
        have hn := in_ints x 0 (wide - 1) M
        rw [hi] at hn
        unfold bodyB
        simp only [sSeq_ap, sIf_ap, tOr_ap, tAnd_ap, tCmp_ap, eVar_ap, eC_ap, List.getElem?_cons_zero, List.getElem?_cons_succ, Res.bind_ok, opEq_int, noexc_ok, asB_ap, show decide ((2 : Int) = 0) = false from rfl, show decide ((2 : Int) = 1) = false from rfl, Bool.false_eq_true, if_false, Res.st_ok, sNil_ap, SRes.then_nx, decide_true, if_true, eTup_ap, aCons_ap, eOp_ap, opSub_int, aNil_ap, newT2, hn, sExpr_ap, eM_ap, a1', a2]
      | false =>
        cases hj : (decide ((0 : Int) = y) || decide (high - 1 = y)) with
        | true =>
          refine ⟨_, _, ?_, a3, .inr rfl⟩
          have hn := in_ints x 0 (wide - 1) M
          have hm := in_ints y 0 (high - 1) M
          rw [hi] at hn
          rw [hj] at hm
          unfold bodyB
          simp only [sSeq_ap, sIf_ap, tOr_ap, tAnd_ap, tCmp_ap, eVar_ap, eC_ap, List.getElem?_cons_zero, List.getElem?_cons_succ, Res.bind_ok, opEq_int, noexc_ok, asB_ap, show decide ((2 : Int) = 0) = false from rfl, show decide ((2 : Int) = 1) = false from rfl, Bool.false_eq_true, if_false, Res.st_ok, sNil_ap, SRes.then_nx, decide_true, if_true, eTup_ap, aCons_ap, eOp_ap, opSub_int, aNil_ap, newT2, hn, hm, sExpr_ap, eM_ap, a1', a2]
        | false =>
          refine ⟨_, _, ?_, I, .inl rfl⟩
          have hn := in_ints x 0 (wide - 1) M
          have hm := in_ints y 0 (high - 1) M
          rw [hi] at hn
          rw [hj] at hm
          unfold bodyB
          simp only [sSeq_ap, sIf_ap, tOr_ap, tAnd_ap, tCmp_ap, eVar_ap, eC_ap, List.getElem?_cons_zero, List.getElem?_cons_succ, Res.bind_ok, opEq_int, noexc_ok, asB_ap, show decide ((2 : Int) = 0) = false from rfl, show decide ((2 : Int) = 1) = false from rfl, Bool.false_eq_true, if_false, Res.st_ok, sNil_ap, SRes.then_nx, decide_true, if_true, eTup_ap, aCons_ap, eOp_ap, opSub_int, aNil_ap, newT2, hn, hm]
theorem board_row {q : Nat} {xs : List Int} (hq : q ≠ 0) {sort wide high x : Int} (hs : 0 ≤ sort ∧ sort < 3) (hx : 0 ≤ x ∧ x ≤ 4) (s1 : Option D) : ∀ (k j : Nat) (M : Mem) (acc : List Cell) (s7 : Option D), BI M q xs acc → AccOk acc x j → j + k ≤ 5 → acc.length + k ≤ 1000 →
    ∃ M' acc' s7', forL (gN 7) bodyB ((List.range' j k).map fun (i : Nat) => D.int i) [some (.ref 0), s1, some (.int sort), some (.int wide), some (.int high), some (.ref q), some (.int x), s7] M = .nx [some (.ref 0), s1, some (.int sort), some (.int wide), some (.int high), some (.ref q), some (.int x), s7'] M' ∧ BI M' q xs acc' ∧ AccOk acc' (x + 1) 0 ∧ acc'.length ≤ acc.length + k
  | 0, j, M, acc, s7, I, A, _, _ => ⟨M, acc, s7, rfl, I, A.row, Nat.le_refl _⟩
  | k + 1, j, M, acc, s7, I, A, hj, hl => by
    obtain ⟨M1, acc1, e1, I1, h1⟩ := board_step hq I (by omega) (wide := wide) (high := high) (x := x) (y := j) hs s1
    have A1 : AccOk acc1 x ((j + 1 : Nat) : Int) := by
      rcases h1 with rfl | rfl
      · exact A.next
      · exact A.add hx ⟨by omega, by omega⟩
    have l1 : acc1.length ≤ acc.length + 1 := by rcases h1 with rfl | rfl <;> simp
    obtain ⟨M', acc', s7', e2, I2, A2, l2⟩ := board_row hq (wide := wide) (high := high) hs hx s1 k (j + 1) M1 acc1 (some (.int j)) I1 A1 (by omega) (by omega)
    refine ⟨M', acc', s7', ?_, I2, A2, by omega⟩
    rw [List.range'_succ, List.map_cons, forL_step (σ1 := [some (.ref 0), s1, some (.int sort), some (.int wide), some (.int high), some (.ref q), some (.int x), some (.int j)]) (m1 := M) rfl, e1, turnK_nx, e2]
theorem rngL_0 (n : Nat) : rngL 0 n = (List.range' 0 n).map fun (i : Nat) => D.int i := by
  unfold rngL
  rw [List.range_eq_range']
  exact List.map_congr_left fun i _ => by rw [Int.zero_add]
theorem board_rows {q : Nat} {xs : List Int} (hq : q ≠ 0) {sort wide high : Int} (hs : 0 ≤ sort ∧ sort < 3) (hh : 0 ≤ high ∧ high ≤ 5) (s1 : Option D) : ∀ (k j : Nat) (M : Mem) (acc : List Cell) (s6 s7 : Option D), BI M q xs acc → AccOk acc j 0 → j + k ≤ 5 → acc.length + 5 * k ≤ 100 →
    ∃ M' acc' s6' s7', forL (gN 6) (sFor (iA range1 (aCons (eVar 4) (aNil))) (gN 7) bodyB) ((List.range' j k).map fun (i : Nat) => D.int i) [some (.ref 0), s1, some (.int sort), some (.int wide), some (.int high), some (.ref q), s6, s7] M = .nx [some (.ref 0), s1, some (.int sort), some (.int wide), some (.int high), some (.ref q), s6', s7'] M' ∧ BI M' q xs acc' ∧ AccOk acc' ((j + k : Nat) : Int) 0 ∧ acc'.length ≤ 100
  | 0, j, M, acc, s6, s7, I, A, _, hl => ⟨M, acc, s6, s7, rfl, I, A, by omega⟩
  | k + 1, j, M, acc, s6, s7, I, A, hj, hl => by
    obtain ⟨M1, acc1, s7', e1, I1, A1, l1⟩ := board_row hq (wide := wide) (high := high) (x := j) hs ⟨by omega, by omega⟩ s1 high.toNat 0 M acc s7 I A (by omega) (by omega)
    have ei : iA range1 (aCons (eVar 4) (aNil)) [some (.ref 0), s1, some (.int sort), some (.int wide), some (.int high), some (.ref q), some (.int j), s7] M = .ok (.its ((List.range' 0 high.toNat).map fun (i : Nat) => D.int i)) M := by
      rw [iA_ap, aCons_ap, eVar_ap]
      simp only [List.getElem?_cons_zero, List.getElem?_cons_succ, Res.bind_ok, aNil_ap]
      rw [range1_ok (bnd_of (by omega) (by omega)), rngL_0]
    obtain ⟨M', acc', s6', s7'', e2, I2, A2, l2⟩ := board_rows hq (wide := wide) (high := high) hs hh s1 k (j + 1) M1 acc1 (some (.int j)) s7' I1 (by simpa using A1) (by omega) (by omega)
    refine ⟨M', acc', s6', s7'', ?_, I2, by rw [show j + (k + 1) = j + 1 + k by omega]; exact A2, l2⟩
    rw [List.range'_succ, List.map_cons, forL_step (σ1 := [some (.ref 0), s1, some (.int sort), some (.int wide), some (.int high), some (.ref q), some (.int j), s7]) (m1 := M) rfl, sFor_ap, ei, Res.st_ok, forS_its, e1, turnK_nx, e2]
theorem cut_take (ts : List D) (k : Nat) : cutD ts none (some (k : Int)) = ts.take k := by
  unfold cutD
  rw [sIx_noneD, sIx_natD, Nat.sub_zero, List.drop_zero]
  by_cases h : k ≤ ts.length
  · rw [Nat.min_eq_left h]
  · rw [Nat.min_eq_right (by omega), List.take_of_length_le (Nat.le_refl _), List.take_of_length_le (by omega)]
theorem R_lawboard {M : Mem} {xs : List Int} (B : BoxAt M 0 xs) (most : Nat) : ∃ b M', R__law_board [.ref 0, .int most] M = .ok (bD b) M' ∧ BoxAt M' 0 xs ∧ rising ltC (0, 0) b = true ∧ (∀ c ∈ b, 0 ≤ c.1 ∧ c.1 ≤ 4 ∧ 0 ≤ c.2 ∧ c.2 ≤ 4) ∧ b.length ≤ most := by
  obtain ⟨r1, o1, e1, a1, b1, B1⟩ := take_ok B (k := 3) (by decide) (intS_sz (by decide) (by decide))
  obtain ⟨r2, o2, e2, a2, b2, B2⟩ := take_ok B1 (k := 5) (by decide) (intS_sz (by decide) (by decide))
  obtain ⟨r3, o3, e3, a3, b3, B3⟩ := take_ok B2 (k := 5) (by decide) (intS_sz (by decide) (by decide))
  rw [← R_take_eq] at e1 e2 e3
  generalize hM3 : ((M.set 0 o1).set 0 o2).set 0 o3 = M3 at e3 B3
  have hM3l : 0 < M3.length := B3.lt
  have I0 : BI (M3 ++ [.lst []]) M3.length xs [] := ⟨by
    obtain ⟨h, nn, hl, a, b, c, e, ok⟩ := B3
    exact ⟨by simp, nn, hl, a, b, c, by rw [List.getElem?_append_left h]; exact e, ok⟩, by rw [List.getElem?_append_right (Nat.le_refl _), Nat.sub_self]; rfl⟩
  obtain ⟨M4, acc, s6, s7, e4, I4, A4, l4⟩ := board_rows (q := M3.length) (xs := xs) (by omega) (sort := r1) (wide := 1 + r2) (high := 1 + r3) ⟨a1, b1⟩ ⟨by omega, by omega⟩ (some (.int most)) (1 + r2).toNat 0 (M3 ++ [.lst []]) [] none none I0 ⟨.nil, fun c h => by cases h⟩ (by omega) (by simp; omega)
  have es : startD 8 [.ref 0, .int most] = [some (.ref 0), some (.int most), none, none, none, none, none, none] := rfl
  have eb : r__law_board R__law_take = sSeq (sPar3 2 3 4 (aCons (eCall R__law_take (aCons (eVar 0) (aCons (eC (.int 3)) (aNil)))) (aCons (eOp (opAddX false) (eC (.int 1)) (eCall R__law_take (aCons (eVar 0) (aCons (eC (.int 5)) (aNil))))) (aCons (eOp (opAddX false) (eC (.int 1)) (eCall R__law_take (aCons (eVar 0) (aCons (eC (.int 5)) (aNil))))) (aNil))))) (sSeq (sSet 5 (eLst true (aNil))) (sSeq (sFor (iA range1 (aCons (eVar 3) (aNil))) (gN 6) (sFor (iA range1 (aCons (eVar 4) (aNil))) (gN 7) bodyB)) (sRet (eB bTuple (aCons (eSl false (eVar 5) pNone (pSome (eVar 1))) (aNil)))))) := rfl
  have s1 : sPar3 2 3 4 (aCons (eCall R__law_take (aCons (eVar 0) (aCons (eC (.int 3)) (aNil)))) (aCons (eOp (opAddX false) (eC (.int 1)) (eCall R__law_take (aCons (eVar 0) (aCons (eC (.int 5)) (aNil))))) (aCons (eOp (opAddX false) (eC (.int 1)) (eCall R__law_take (aCons (eVar 0) (aCons (eC (.int 5)) (aNil))))) (aNil)))) [some (.ref 0), some (.int most), none, none, none, none, none, none] M = .nx [some (.ref 0), some (.int most), some (.int r1), some (.int (1 + r2)), some (.int (1 + r3)), none, none, none] M3 := by
    rw [sPar3_ap]
    simp only [aCons_ap, eCall_ap, eVar_ap, eC_ap, aNil_ap, List.getElem?_cons_zero, Res.bind_ok, e1, eOp_ap, e2, opAddX_int, noexc_ok, e3, Res.st_ok]
    rfl
  have hn := newL_t (m := M3) (xs := []) (by simp)
  have s2 : sSet 5 (eLst true (aNil)) [some (.ref 0), some (.int most), some (.int r1), some (.int (1 + r2)), some (.int (1 + r3)), none, none, none] M3 = .nx [some (.ref 0), some (.int most), some (.int r1), some (.int (1 + r2)), some (.int (1 + r3)), some (.ref M3.length), none, none] (M3 ++ [.lst []]) := by simp [hn]
  have ei : iA range1 (aCons (eVar 3) (aNil)) [some (.ref 0), some (.int most), some (.int r1), some (.int (1 + r2)), some (.int (1 + r3)), some (.ref M3.length), none, none] (M3 ++ [.lst []]) = .ok (.its ((List.range' 0 (1 + r2).toNat).map fun (i : Nat) => D.int i)) (M3 ++ [.lst []]) := by
    rw [iA_ap, aCons_ap, eVar_ap]
    simp only [List.getElem?_cons_zero, List.getElem?_cons_succ, Res.bind_ok, aNil_ap]
    rw [range1_ok (bnd_of (by omega) (by omega)), rngL_0]
  have sl : opSl false (.ref M3.length) none (some (most : Int)) M4 = .ok (.lst ((acc.take most).map encP)) M4 := by
    unfold opSl
    rw [deref_ref I4.at']
    simp only
    rw [cut_take, ← List.map_take]
    exact newL_f (by rw [List.length_map, List.length_take]; omega)
  have bt := bTuple_lst (m := M4) (xs := (acc.take most).map encP) (by rw [List.length_map, List.length_take]; omega)
  refine ⟨acc.take most, M4, ?_, I4.box, ?_, fun c hc => (A4.bd c (List.mem_of_mem_take hc)).2, by rw [List.length_take]; omega⟩
  · unfold R__law_board fnR
    rw [es, eb, sSeq_ap, s1, SRes.then_nx, sSeq_ap, s2, SRes.then_nx, sSeq_ap, sFor_ap, ei, Res.st_ok, forS_its, e4, SRes.then_nx]
    simp only [sRet_ap, eB_ap, aCons_ap, eSl_ap, eVar_ap, pNone_ap, pSome_ap, List.getElem?_cons_zero, List.getElem?_cons_succ, Res.bind_ok, aNil_ap, sl, noexc_ok, bt, Res.st_ok]
  · rw [rising_iff]
    exact A4.pw.sublist (List.take_sublist _ _)
theorem str_ok (i : Int) : (PyData.str (toString i)).canLay0 = true := by
  rw [PyData.canLay0.eq_4]
  unfold PyData.strOk
  rw [← Array.all_toList, List.all_eq_true]
  intro k hk
  rw [decide_eq_true_eq]
  rcases Nat.lt_or_ge k 0x110000 with h | h
  · exact h
  · exact absurd hk (PyProof.Rows.int_text_free' k ⟨by omega, .inr (by omega)⟩ i)
/-! ### the law -/
theorem plain : ∀ (ns : List Int) (o : OScr) (d : D), ScrIn ns o d → ns.length ≤ 63 → ∃ m, R_law o [d] [] = .ok (.bl true) m := by
  intro ns o d hi hl
  obtain ⟨xs, e0, B0⟩ := box_ok hi hl []
  rw [← R_box_eq] at e0
  generalize hM0 : ([] : Mem) ++ [boxD xs 0 0 0] = M0 at e0 B0
  change R__law_box o [d] [] = .ok (.ref 0) M0 at e0
  change BoxAt M0 0 xs at B0
  obtain ⟨b, M1, e1, B1, q1, q2, q3⟩ := R_lawboard B0 20
  have Bd : Brd b := ⟨q1, q2, q3⟩
  obtain ⟨M2, e2, k2, v2⟩ := R_dom (b := b) (by omega) (M := M1) B1.lt fun m => R_board Bd
  obtain ⟨f1, f2, f3⟩ := dom_says Bd
  have ew := R_ways (m := M2) 40 b (by omega) (by omega)
  generalize hS : (domR b).1 = says at *
  generalize hX : (domR b).2 = x at *
  obtain ⟨M3, e3, k3⟩ := R_lawtiled Bd (says := says) (M := M2) v2 (by decide)
  obtain ⟨M4, e4, k4⟩ := R_tiled Bd (says := says) (M := M3) v2 (by decide)
  obtain ⟨M5, e5, k5⟩ := R_tiled Bd (says := !says) (M := M4) v2 (by decide)
  obtain ⟨M6, e6⟩ := R_tilings_ok Bd M5
  have g1 : (if says = true then J1 b x else J2 b x) = true := f2
  have g2 : (if (!says) = true then J1 b x else J2 b x) = false := by
    cases says with
    | true => exact f3
    | false => exact f3
  rw [g1] at e3 e4
  rw [g2] at e5
  rw [til_ways Bd] at e6
  have es : startD 6 [d] = [some d, none, none, none, none, none] := rfl
  have a0 : C_law_0 o [some d, none, none, none, none, none] [] = .nx [some d, some (.ref 0), none, none, none, none] M0 := by
    unfold C_law_0 r_law_0
    simp [e0]
  have a1 : C_law_1 o [some d, some (.ref 0), none, none, none, none] M0 = .nx [some d, some (.ref 0), some (bD b), none, none, none] M1 := by
    unfold C_law_1 r_law_1
    change R__law_board [.ref 0, .int 20] M0 = _ at e1
    simp only [sSet_ap, eCall_ap, aCons_ap, eVar_ap, eC_ap, aNil_ap, List.getElem?_cons_zero, List.getElem?_cons_succ, Res.bind_ok, e1, Res.st_ok]
    rfl
  have a2 : C_law_2 o [some d, some (.ref 0), some (bD b), none, none, none] M1 = .nx [some d, some (.ref 0), some (bD b), some (.bl says), some x, none] M2 := by
    unfold C_law_2 r_law_2
    simp only [sAsg_ap, eCall_ap, aCons_ap, eVar_ap, aNil_ap, List.getElem?_cons_zero, List.getElem?_cons_succ, Res.bind_ok, e2, Res.st_ok]
    rfl
  have a3 : C_law_3 o [some d, some (.ref 0), some (bD b), some (.bl says), some x, none] M2 = .nx [some d, some (.ref 0), some (bD b), some (.bl says), some x, some (.int (wy 40 b))] M2 := by
    unfold C_law_3 r_law_3
    simp only [sSet_ap, eCall_ap, aCons_ap, eVar_ap, aNil_ap, List.getElem?_cons_zero, List.getElem?_cons_succ, Res.bind_ok, ew, Res.st_ok]
    rfl
  have hgt : opOrd .Gt (.int (wy 40 b)) (.int 0) M2 = .ok (.bl says) M2 := by
    rw [f1]; simp
  have hne : ∀ (c : Bool) (m : Mem), opNe (.bl c) (.bl c) m = .ok (.bl false) m := fun c m => by rw [opNe_of rfl rfl]; simp
  have a4 : C_law_4 o [some d, some (.ref 0), some (bD b), some (.bl says), some x, some (.int (wy 40 b))] M2 = .nx [some d, some (.ref 0), some (bD b), some (.bl says), some x, some (.int (wy 40 b))] M3 := by
    unfold C_law_4 r_law_4
    simp only [sIf_ap, tOr_ap, tNot_ap, tE_ap, eIsi_ap, eVar_ap, List.getElem?_cons_zero, List.getElem?_cons_succ, Res.bind_ok, isi_bool_bl, noexc_ok, asB_ap, Bool.not_true, Bool.false_eq_true, if_false, tCmp_ap, eOp_ap, eC_ap, hgt, hne, eCall_ap, aCons_ap, aNil_ap, e3, Res.st_ok, sNil_ap]
  have hib1 : ∀ m : Mem, opIsB true (.bl true) (.bl true) m = .ok (.bl false) m := fun m => rfl
  have hib2 : ∀ m : Mem, opIsB true (.bl false) (.bl false) m = .ok (.bl false) m := fun m => rfl
  have hib3 : ∀ m : Mem, opIsB false (.bl true) (.bl true) m = .ok (.bl true) m := fun m => rfl
  have a5 : C_law_5 o [some d, some (.ref 0), some (bD b), some (.bl says), some x, some (.int (wy 40 b))] M3 = .nx [some d, some (.ref 0), some (bD b), some (.bl says), some x, some (.int (wy 40 b))] M5 := by
    unfold C_law_5 r_law_5
    simp only [sIf_ap, tOr_ap, tCmp_ap, eCall_ap, aCons_ap, eVar_ap, List.getElem?_cons_zero, List.getElem?_cons_succ, Res.bind_ok, aNil_ap, e4, eC_ap, hib1, noexc_ok, asB_ap, Bool.false_eq_true, if_false, eNot_ap, e5, hib2, Res.st_ok, sNil_ap]
  have hr : ∀ m : Mem, bRepr [.int (wy 40 b)] m = .ok (.str (toString (wy 40 b))) m := fun m => by
    show (if (wy 40 b).natAbs.log2 < 1920 then Res.ok (D.str (toString (wy 40 b))) m else .bad) = _
    rw [if_pos (wy_log b)]
  have hst : ∀ m : Mem, opEq (.str (toString (wy 40 b))) (.str (toString (wy 40 b))) m = .ok (.bl true) m := fun m => by
    have h : sh 60 (D.str (toString (wy 40 b))) = true := str_ok (wy 40 b)
    rw [opEq_of (show sh 60 (deref m (D.str (toString (wy 40 b)))) = true from h) (show sh 60 (deref m (D.str (toString (wy 40 b)))) = true from h)]
    simp
  have hbo := R_isboard (m := M5) Bd
  have a6 : C_law_6 o [some d, some (.ref 0), some (bD b), some (.bl says), some x, some (.int (wy 40 b))] M5 = .rt (.bl true) M6 := by
    unfold C_law_6 r_law_6
    simp only [sRet_ap, eAnd_ap, eOp_ap, eCall_ap, aCons_ap, eVar_ap, List.getElem?_cons_zero, List.getElem?_cons_succ, Res.bind_ok, aNil_ap, hbo, eC_ap, hib3, noexc_ok, asB_ap, if_true, eB_ap, e6, hr, hst, Res.st_ok]
  refine ⟨M6, ?_⟩
  unfold R_law fnR
  rw [es]
  have eL : r_law (R__law_box o) R__law_board R_dominoes (R__law_ways 40) R__law_is_tiled R_is_tiled R_is_board R_tilings [some d, none, none, none, none, none] [] = .rt (.bl true) M6 := by
    show sSeq (C_law_0 o) (sSeq (C_law_1 o) (sSeq (C_law_2 o) (sSeq (C_law_3 o) (sSeq (C_law_4 o) (sSeq (C_law_5 o) (C_law_6 o)))))) _ _ = _
    rw [sSeq_ap, a0, SRes.then_nx, sSeq_ap, a1, SRes.then_nx, sSeq_ap, a2, SRes.then_nx, sSeq_ap, a3, SRes.then_nx, sSeq_ap, a4, SRes.then_nx, sSeq_ap, a5, SRes.then_nx, a6]
  rw [eL]
end K80
namespace K80
open PySem PySem.Spec L2 PD
open PyProof.Rows hiding St
def topS (i : Nat) : Stmt := PySem.Challenge.pw_straightedge_k79_dominoes_or_too_few.main.body.getD i (.Pass ⟨0, 0, 0, 0⟩)
theorem hv_of {k : Nat} {A : Around} (hr : Room k A) : A.units + 65 < cLine := by have := hr.un; omega
abbrev st_is_number : Stmt := topS 4
abbrev st_is_cell : Stmt := topS 7
abbrev st_are_cells : Stmt := topS 8
abbrev st_is_board : Stmt := topS 9
abbrev st_check_board : Stmt := topS 10
abbrev st_around : Stmt := topS 11
abbrev st_widened : Stmt := topS 12
abbrev st_dominoes : Stmt := topS 13
abbrev st_are_tiles : Stmt := topS 14
abbrev st_are_too_few : Stmt := topS 15
abbrev st_is_tiled : Stmt := topS 16
abbrev st_tilings : Stmt := topS 17
abbrev st__law_box : Stmt := topS 19
abbrev st__law_take : Stmt := topS 20
abbrev st__law_whole : Stmt := topS 21
abbrev st__law_board : Stmt := topS 22
abbrev st__law_beside : Stmt := topS 23
abbrev st__law_ways : Stmt := topS 24
abbrev st__law_is_tiled : Stmt := topS 25
abbrev st_law : Stmt := topS 26

theorem sc_is_number : FnScope ["x"] ["x"] (defScope st_is_number) := ⟨rfl, rfl, rfl, by decide +kernel, rfl, by decide +kernel, by decide +kernel⟩
theorem sc_is_cell : FnScope ["x", "one"] ["x"] (defScope st_is_cell) := ⟨rfl, rfl, rfl, by decide +kernel, rfl, by decide +kernel, by decide +kernel⟩
theorem sc_are_cells : FnScope ["x", "one", "k"] ["x"] (defScope st_are_cells) := ⟨rfl, rfl, rfl, by decide +kernel, rfl, by decide +kernel, by decide +kernel⟩
theorem sc_is_board : FnScope ["x"] ["x"] (defScope st_is_board) := ⟨rfl, rfl, rfl, by decide +kernel, rfl, by decide +kernel, by decide +kernel⟩
theorem sc_check_board : FnScope ["x"] ["x"] (defScope st_check_board) := ⟨rfl, rfl, rfl, by decide +kernel, rfl, by decide +kernel, by decide +kernel⟩
theorem sc_around : FnScope ["board", "cell", "x", "y", "one"] ["board", "cell"] (defScope st_around) := ⟨rfl, rfl, rfl, by decide +kernel, rfl, by decide +kernel, by decide +kernel⟩
theorem sc_widened : FnScope ["board", "cell", "mate", "met", "one"] ["board", "cell", "mate", "met"] (defScope st_widened) := ⟨rfl, rfl, rfl, by decide +kernel, rfl, by decide +kernel, by decide +kernel⟩
theorem sc_dominoes : FnScope ["board", "colour", "mate", "cell", "met", "cells", "one", "a", "b"] ["board"] (defScope st_dominoes) := ⟨rfl, rfl, rfl, by decide +kernel, rfl, by decide +kernel, by decide +kernel⟩
theorem sc_are_tiles : FnScope ["board", "x", "cells", "one", "k"] ["board", "x"] (defScope st_are_tiles) := ⟨rfl, rfl, rfl, by decide +kernel, rfl, by decide +kernel, by decide +kernel⟩
theorem sc_are_too_few : FnScope ["board", "x", "cells", "told", "found", "cell", "one"] ["board", "x"] (defScope st_are_too_few) := ⟨rfl, rfl, rfl, by decide +kernel, rfl, by decide +kernel, by decide +kernel⟩
theorem sc_is_tiled : FnScope ["board", "says", "paper"] ["board", "says", "paper"] (defScope st_is_tiled) := ⟨rfl, rfl, rfl, by decide +kernel, rfl, by decide +kernel, by decide +kernel⟩
theorem sc_tilings : FnScope ["board", "rows", "cell", "later", "row", "many", "ways", "way", "one"] ["board"] (defScope st_tilings) := ⟨rfl, rfl, rfl, by decide +kernel, rfl, by decide +kernel, by decide +kernel⟩
theorem sc__law_box : FnScope ["script", "x"] ["script"] (defScope st__law_box) := ⟨rfl, rfl, rfl, by decide +kernel, rfl, by decide +kernel, by decide +kernel⟩
theorem sc__law_take : FnScope ["box", "m", "at", "cell", "told"] ["box", "m"] (defScope st__law_take) := ⟨rfl, rfl, rfl, by decide +kernel, rfl, by decide +kernel, by decide +kernel⟩
theorem sc__law_whole : FnScope ["x"] ["x"] (defScope st__law_whole) := ⟨rfl, rfl, rfl, by decide +kernel, rfl, by decide +kernel, by decide +kernel⟩
theorem sc__law_board : FnScope ["box", "most", "sort", "wide", "high", "cells", "x", "y"] ["box", "most"] (defScope st__law_board) := ⟨rfl, rfl, rfl, by decide +kernel, rfl, by decide +kernel, by decide +kernel⟩
theorem sc__law_beside : FnScope ["board", "cell", "x", "y", "one"] ["board", "cell"] (defScope st__law_beside) := ⟨rfl, rfl, rfl, by decide +kernel, rfl, by decide +kernel, by decide +kernel⟩
theorem sc__law_ways : FnScope ["cells", "x", "y", "total", "other", "one"] ["cells"] (defScope st__law_ways) := ⟨rfl, rfl, rfl, by decide +kernel, rfl, by decide +kernel, by decide +kernel⟩
theorem sc__law_is_tiled : FnScope ["board", "says", "x", "lots", "lot", "cell", "cells", "told", "found", "met", "one", "k"] ["board", "says", "x"] (defScope st__law_is_tiled) := ⟨rfl, rfl, rfl, by decide +kernel, rfl, by decide +kernel, by decide +kernel⟩
theorem sc_law : FnScope ["script", "box", "board", "says", "paper", "ways"] ["script"] (defScope st_law) := ⟨rfl, rfl, rfl, by decide +kernel, rfl, by decide +kernel, by decide +kernel⟩
theorem bt_abs : bootBuiltins "abs" = some (.builtin "abs") := by decide +kernel
theorem bt_all : bootBuiltins "all" = some (.builtin "all") := by decide +kernel
theorem bt_bool : bootBuiltins "bool" = some (.type "bool") := by decide +kernel
theorem bt_int : bootBuiltins "int" = some (.type "int") := by decide +kernel
theorem bt_isinstance : bootBuiltins "isinstance" = some (.builtin "isinstance") := by decide +kernel
theorem bt_len : bootBuiltins "len" = some (.builtin "len") := by decide +kernel
theorem bt_max : bootBuiltins "max" = some (.builtin "max") := by decide +kernel
theorem bt_min : bootBuiltins "min" = some (.builtin "min") := by decide +kernel
theorem bt_range : bootBuiltins "range" = some (.type "range") := by decide +kernel
theorem bt_repr : bootBuiltins "repr" = some (.builtin "repr") := by decide +kernel
theorem bt_set : bootBuiltins "set" = some (.type "set") := by decide +kernel
theorem bt_sorted : bootBuiltins "sorted" = some (.builtin "sorted") := by decide +kernel
theorem bt_sum : bootBuiltins "sum" = some (.builtin "sum") := by decide +kernel
theorem bt_tuple : bootBuiltins "tuple" = some (.type "tuple") := by decide +kernel
structure Tx (K : PySem.W.Frag) (mg : Str → Option Value) where
  d_is_number : DefT K mg "is_number" ["x"] st_is_number
  d_is_cell : DefT K mg "is_cell" ["x"] st_is_cell
  d_are_cells : DefT K mg "are_cells" ["x"] st_are_cells
  d_is_board : DefT K mg "is_board" ["x"] st_is_board
  d_check_board : DefT K mg "check_board" ["x"] st_check_board
  d_around : DefT K mg "around" ["board", "cell"] st_around
  d_widened : DefT K mg "widened" ["board", "cell", "mate", "met"] st_widened
  d_dominoes : DefT K mg "dominoes" ["board"] st_dominoes
  d_are_tiles : DefT K mg "are_tiles" ["board", "x"] st_are_tiles
  d_are_too_few : DefT K mg "are_too_few" ["board", "x"] st_are_too_few
  d_is_tiled : DefT K mg "is_tiled" ["board", "says", "paper"] st_is_tiled
  d_tilings : DefT K mg "tilings" ["board"] st_tilings
  d__law_box : DefT K mg "_law_box" ["script"] st__law_box
  d__law_take : DefT K mg "_law_take" ["box", "m"] st__law_take
  d__law_whole : DefT K mg "_law_whole" ["x"] st__law_whole
  d__law_board : DefT K mg "_law_board" ["box", "most"] st__law_board
  d__law_beside : DefT K mg "_law_beside" ["board", "cell"] st__law_beside
  d__law_ways : DefT K mg "_law_ways" ["cells"] st__law_ways
  d__law_is_tiled : DefT K mg "_law_is_tiled" ["board", "says", "x"] st__law_is_tiled
  d_law : DefT K mg "law" ["script"] st_law
  m_abs : mg "abs" = none
  m_all : mg "all" = none
  m_bool : mg "bool" = none
  m_int : mg "int" = none
  m_isinstance : mg "isinstance" = none
  m_len : mg "len" = none
  m_max : mg "max" = none
  m_min : mg "min" = none
  m_range : mg "range" = none
  m_repr : mg "repr" = none
  m_set : mg "set" = none
  m_sorted : mg "sorted" = none
  m_sum : mg "sum" = none
  m_tuple : mg "tuple" = none
  gi_MOST_CELLS : ∃ t : Tok, mg "MOST_CELLS" = some (.int 40 t)
  c_BadShape : Addr
  x_BadShape : ExcT K mg "BadShape" c_BadShape

section
variable {P : Program} {w : World} {K : PySem.W.Frag} {mg : Str → Option Value} {base : Heap} (Tg : Tx K mg)
include Tg
theorem w_is_number : Fn P w K mg base 1 Tg.d_is_number.a Tg.d_is_number.fd ["x"] (fnR 1 (r_is_number)) := fn_ok Tg.d_is_number.F sc_is_number fun cdv A outer s H Ex hr =>
  ss_one (s_ret (e_and (e_isi (T := "int") (TS := "int") (e_var 0) rfl Tg.m_isinstance rfl Tg.m_int bt_int (by decide) (by decide)) (e_one (e_not (e_isi (T := "bool") (TS := "bool") (e_var 0) rfl Tg.m_isinstance rfl Tg.m_bool bt_bool (by decide) (by decide))))))
theorem w_is_cell {G_is_number : List D → Mem → Res D} (h_is_number : Fn P w K mg base 1 Tg.d_is_number.a Tg.d_is_number.fd ["x"] G_is_number) : Fn P w K mg base 2 Tg.d_is_cell.a Tg.d_is_cell.fd ["x"] (fnR 2 (r_is_cell G_is_number)) := fn_ok Tg.d_is_cell.F sc_is_cell fun cdv A outer s H Ex hr =>
  ss_one (s_ret (e_and (e_isi (T := "tuple") (TS := "tuple") (e_var 0) rfl Tg.m_isinstance rfl Tg.m_tuple bt_tuple (by decide) (by decide)) (e_and (e_cmp (op_eq_ok hr.units) (e_bi (op := bLen) bLen_ok rfl Tg.m_len bt_len (a_cons (e_var 0) (a_nil))) (e_int)) (e_one (e_bi (op := (bAllB false)) (bAll_ok rfl) rfl Tg.m_all bt_all (a_cons (e_lc (nw := false) (own := [("one", 1)]) rfl sc_is_cell.nd (i_any (e_var 0)) (blkOk_by (own := [("one", 1)]) (by rfl)) (gok_name) (fun _ _ _ _ _ => g_name (i := 1) sc_is_cell.nd rfl (by first | exact .inl rfl | exact .inr rfl)) (fun _ _ _ _ _ => pts_nilD) (fun _ _ _ _ _ => e_and (e_def Tg.d_is_number h_is_number hr (by decide) rfl takesW0 (a_cons (e_var 1) (a_nil)) (argn_cons argn_nil)) (e_one (e_chain (op_le_ok hr.units) (op_le_ok hr.units) (e_int) (e_var 1) (e_int))))) (a_nil)))))))
theorem w_are_cells {G_is_cell : List D → Mem → Res D} (h_is_cell : Fn P w K mg base 2 Tg.d_is_cell.a Tg.d_is_cell.fd ["x"] G_is_cell) : Fn P w K mg base 3 Tg.d_are_cells.a Tg.d_are_cells.fd ["x"] (fnR 3 (r_are_cells G_is_cell)) := fn_ok Tg.d_are_cells.F sc_are_cells fun cdv A outer s H Ex hr =>
  ss_cons (s_if (PW.pt (t_or (t_not (t_val (e_isi (T := "tuple") (TS := "tuple") (e_var 0) rfl Tg.m_isinstance rfl Tg.m_tuple bt_tuple (by decide) (by decide)))) (t_or1 (t_not (t_val (e_bi (op := (bAllB false)) (bAll_ok rfl) rfl Tg.m_all bt_all (a_cons (e_lc (nw := false) (own := [("one", 1)]) rfl sc_are_cells.nd (i_any (e_var 0)) (blkOk_by (own := [("one", 1)]) (by rfl)) (gok_name) (fun _ _ _ _ _ => g_name (i := 1) sc_are_cells.nd rfl (by first | exact .inl rfl | exact .inr rfl)) (fun _ _ _ _ _ => pts_nilD) (fun _ _ _ _ _ => e_def Tg.d_is_cell h_is_cell hr (by decide) rfl takesW0 (a_cons (e_var 1) (a_nil)) (argn_cons argn_nil))) (a_nil)))))))) (ss_one (s_ret (e_bl))) (ss_nil)) (ss_one (s_ret (e_bi (op := (bAllB false)) (bAll_ok rfl) rfl Tg.m_all bt_all (a_cons (e_lc (nw := false) (own := [("k", 2)]) rfl sc_are_cells.nd (i_range2 rfl Tg.m_range (a_cons (e_int) (a_cons (e_bi (op := bLen) bLen_ok rfl Tg.m_len bt_len (a_cons (e_var 0) (a_nil))) (a_nil)))) (blkOk_by (own := [("k", 2)]) (by rfl)) (gok_name) (fun _ _ _ _ _ => g_name (i := 2) sc_are_cells.nd rfl (by first | exact .inl rfl | exact .inr rfl)) (fun _ _ _ _ _ => pts_nilD) (fun _ _ _ _ _ => e_cmp (op_lt_ok hr.units) (e_ix (e_var 0) (e_op op_sub_ok (e_var 2) (e_int))) (e_ix (e_var 0) (e_var 2)))) (a_nil)))))
theorem w_is_board {G_are_cells : List D → Mem → Res D} (h_are_cells : Fn P w K mg base 3 Tg.d_are_cells.a Tg.d_are_cells.fd ["x"] G_are_cells) : Fn P w K mg base 4 Tg.d_is_board.a Tg.d_is_board.fd ["x"] (fnR 1 (r_is_board G_are_cells)) := fn_ok Tg.d_is_board.F sc_is_board fun cdv A outer s H Ex hr =>
  ss_one (s_ret (e_and (e_def Tg.d_are_cells h_are_cells hr (by decide) rfl takes_fn (a_cons (e_var 0) (a_nil)) (argn_cons argn_nil)) (e_one (e_cmp (op_le_ok hr.units) (e_bi (op := bLen) bLen_ok rfl Tg.m_len bt_len (a_cons (e_var 0) (a_nil))) (e_glob rfl (Tg.gi_MOST_CELLS).choose_spec)))))
theorem w_check_board {G_is_board : List D → Mem → Res D} (h_is_board : Fn P w K mg base 4 Tg.d_is_board.a Tg.d_is_board.fd ["x"] G_is_board) : Fn P w K mg base 5 Tg.d_check_board.a Tg.d_check_board.fd ["x"] (fnR 1 (r_check_board G_is_board)) := fn_ok Tg.d_check_board.F sc_check_board fun cdv A outer s H Ex hr =>
  ss_one (s_if (t_not (t_val (e_def Tg.d_is_board h_is_board hr (by decide) rfl takes_fn (a_cons (e_var 0) (a_nil)) (argn_cons argn_nil)))) (ss_one (s_raiseT rfl takes_fn Tg.x_BadShape rfl)) (ss_nil))
theorem w_around : Fn P w K mg base 1 Tg.d_around.a Tg.d_around.fd ["board", "cell"] (fnR 5 (r_around)) := fn_ok Tg.d_around.F sc_around fun cdv A outer s H Ex hr =>
  ss_cons (s_asg (ws := [2, 3]) (e_var 1) (g_tup rfl (gs_cons (g_name (i := 2) sc_around.nd rfl (by first | exact .inl rfl | exact .inr rfl)) (gs_cons (g_name (i := 3) sc_around.nd rfl (by first | exact .inl rfl | exact .inr rfl)) (gs_nil)))) (gok_tup (gsok_cons (gok_name) (gsok_cons (gok_name) (gsok_nil))))) (ss_one (s_ret (e_lc (nw := false) (own := [("one", 4)]) rfl sc_around.nd (i_any (e_tup (a_cons (e_tup (a_cons (e_op op_sub_ok (e_var 2) (e_int)) (a_cons (e_var 3) (a_nil)))) (a_cons (e_tup (a_cons (e_var 2) (a_cons (e_op op_sub_ok (e_var 3) (e_int)) (a_nil)))) (a_cons (e_tup (a_cons (e_var 2) (a_cons (e_op op_addX_ok (e_var 3) (e_int)) (a_nil)))) (a_cons (e_tup (a_cons (e_op op_addX_ok (e_var 2) (e_int)) (a_cons (e_var 3) (a_nil)))) (a_nil))))))) (blkOk_by (own := [("one", 4)]) (by rfl)) (gok_name) (fun _ _ _ _ _ => g_name (i := 4) sc_around.nd rfl (by first | exact .inl rfl | exact .inr rfl)) (fun _ _ _ _ _ => pts_oneD (t_cmp (op_in_ok (hv_of hr)) (e_var 4) (e_var 0))) (fun _ _ _ _ _ => e_var 4))))
theorem w_widened {n : Nat} {G_around : List D → Mem → Res D} (h_around : Fn P w K mg base 1 Tg.d_around.a Tg.d_around.fd ["board", "cell"] G_around) {G_widened : List D → Mem → Res D} (h_widened : Fn P w K mg base (2 + n) Tg.d_widened.a Tg.d_widened.fd ["board", "cell", "mate", "met"] G_widened) : Fn P w K mg base (2 + n + 1) Tg.d_widened.a Tg.d_widened.fd ["board", "cell", "mate", "met"] (fnR 5 (r_widened G_around G_widened)) := fn_ok Tg.d_widened.F sc_widened fun cdv A outer s H Ex hr =>
  ss_cons (s_for passes_fn rfl (i_any (e_def Tg.d_around h_around hr (by omega) rfl takes_fn (a_cons (e_var 0) (a_cons (e_var 1) (a_nil))) (argn_cons (argn_cons argn_nil)))) (ws := [4]) (g_name (i := 4) sc_widened.nd rfl (by first | exact .inl rfl | exact .inr rfl)) (gok_name) (ss_cons (s_if (t_cmp (op_in_ok (hv_of hr)) (e_var 4) (e_var 3)) (ss_one (s_continue)) (ss_nil)) (ss_cons (s_expr (e_meth PySem.F.slot_list_append PySem.F.type_list_append m_append (e_var 3) (a_cons (e_var 4) (a_nil)))) (ss_one (s_if (PW.pt (t_or (t_cmp (op_dnin_ok hr.units) (e_var 4) (e_var 2)) (t_or1 (t_val (e_def Tg.d_widened h_widened hr (by omega) rfl takes_fn (a_cons (e_var 0) (a_cons (e_dix hr.units (e_var 2) (e_var 4)) (a_cons (e_var 2) (a_cons (e_var 3) (a_nil))))) (argn_cons (argn_cons (argn_cons (argn_cons argn_nil))))))))) (ss_cons (s_asg (ws := []) (e_var 1) (g_dx hr.units (W := W0) (e_var 2) (e_var 4)) (gok_dx)) (ss_one (s_ret (e_bl)))) (ss_nil)))))) (ss_one (s_ret (e_bl)))
theorem w_dominoes {G_check_board : List D → Mem → Res D} (h_check_board : Fn P w K mg base 5 Tg.d_check_board.a Tg.d_check_board.fd ["x"] G_check_board) {G_widened : List D → Mem → Res D} (h_widened : Fn P w K mg base 42 Tg.d_widened.a Tg.d_widened.fd ["board", "cell", "mate", "met"] G_widened) : Fn P w K mg base 43 Tg.d_dominoes.a Tg.d_dominoes.fd ["board"] (fnR 9 (r_dominoes G_check_board G_widened)) := fn_ok Tg.d_dominoes.F sc_dominoes fun cdv A outer s H Ex hr =>
  ss_cons (s_expr (e_def Tg.d_check_board h_check_board hr (by decide) rfl takes_fn (a_cons (e_var 0) (a_nil)) (argn_cons argn_nil))) (ss_one (s_for passes_fn rfl (i_any (e_tup (a_cons (e_int) (a_cons (e_int) (a_nil))))) (ws := [1]) (g_name (i := 1) sc_dominoes.nd rfl (by first | exact .inl rfl | exact .inr rfl)) (gok_name) (ss_cons (s_set (i := 2) sc_dominoes.nd rfl (by first | exact .inl rfl | exact .inr rfl) (e_dnew)) (ss_cons (s_for passes_fn rfl (i_any (e_lc (nw := false) (own := [("one", 6)]) rfl sc_dominoes.nd (i_any (e_var 0)) (blkOk_by (own := [("one", 6)]) (by rfl)) (gok_name) (fun _ _ _ _ _ => g_name (i := 6) sc_dominoes.nd rfl (by first | exact .inl rfl | exact .inr rfl)) (fun _ _ _ _ _ => pts_oneD (t_cmp (op_eq_ok hr.units) (e_op op_mod_ok (e_op op_addX_ok (e_ix (e_var 6) (e_int)) (e_ix (e_var 6) (e_int))) (e_int)) (e_var 1))) (fun _ _ _ _ _ => e_var 6))) (ws := [3]) (g_name (i := 3) sc_dominoes.nd rfl (by first | exact .inl rfl | exact .inr rfl)) (gok_name) (ss_cons (s_set (i := 4) sc_dominoes.nd rfl (by first | exact .inl rfl | exact .inr rfl) (e_lst (nw := true) (a_nil))) (ss_one (s_if (t_not (t_val (e_def Tg.d_widened h_widened hr (by decide) rfl takes_fn (a_cons (e_var 0) (a_cons (e_var 3) (a_cons (e_var 2) (a_cons (e_var 4) (a_nil))))) (argn_cons (argn_cons (argn_cons (argn_cons argn_nil))))))) (ss_cons (s_set (i := 5) sc_dominoes.nd rfl (by first | exact .inl rfl | exact .inr rfl) (e_bi (op := (bSortedX false)) (bSortedX_ok rfl hr.units) rfl Tg.m_sorted bt_sorted (a_cons (e_op op_addX_ok (e_lst (nw := false) (a_cons (e_var 3) (a_nil))) (e_lc (nw := false) (own := [("one", 6)]) rfl sc_dominoes.nd (i_any (e_var 4)) (blkOk_by (own := [("one", 6)]) (by rfl)) (gok_name) (fun _ _ _ _ _ => g_name (i := 6) sc_dominoes.nd rfl (by first | exact .inl rfl | exact .inr rfl)) (fun _ _ _ _ _ => pts_nilD) (fun _ _ _ _ _ => e_dix hr.units (e_var 2) (e_var 6)))) (a_nil)))) (ss_one (s_ret (e_tup (a_cons (e_bl) (a_cons (e_tup (a_cons (e_ty (op := bTuple) bTuple_ok rfl Tg.m_tuple bt_tuple (a_cons (e_var 5) (a_nil))) (a_cons (e_ty (op := bTuple) bTuple_ok rfl Tg.m_tuple bt_tuple (a_cons (e_bi (op := (bSortedX false)) (bSortedX_ok rfl hr.units) rfl Tg.m_sorted bt_sorted (a_cons (e_var 4) (a_nil))) (a_nil))) (a_nil)))) (a_nil))))))) (ss_nil))))) (ss_one (s_if (t_cmp (op_eq_ok hr.units) (e_var 1) (e_int)) (ss_one (s_ret (e_tup (a_cons (e_bl) (a_cons (e_ty (op := bTuple) bTuple_ok rfl Tg.m_tuple bt_tuple (a_cons (e_bi (op := (bSortedX false)) (bSortedX_ok rfl hr.units) rfl Tg.m_sorted bt_sorted (a_cons (e_lock 2 (e_lc (nw := false) (own := [("a", 7), ("b", 8)]) rfl sc_dominoes.nd (i_di (e_var 2)) (blkOk_by (own := [("a", 7), ("b", 8)]) (by rfl)) (gok_tup (gsok_cons (gok_name) (gsok_cons (gok_name) (gsok_nil)))) (fun _ _ _ _ _ => g_tup rfl (gs_cons (g_name (i := 7) sc_dominoes.nd rfl (by first | exact .inl rfl | exact .inr rfl)) (gs_cons (g_name (i := 8) sc_dominoes.nd rfl (by first | exact .inl rfl | exact .inr rfl)) (gs_nil)))) (fun _ _ _ _ _ => pts_nilD) (fun _ _ _ _ _ => e_tup (a_cons (e_bi (op := bMinX) (bMinX_ok rfl hr.units) rfl Tg.m_min bt_min (a_cons (e_var 7) (a_cons (e_var 8) (a_nil)))) (a_cons (e_bi (op := bMaxX) (bMaxX_ok rfl hr.units) rfl Tg.m_max bt_max (a_cons (e_var 7) (a_cons (e_var 8) (a_nil)))) (a_nil)))))) (a_nil))) (a_nil))) (a_nil)))))) (ss_nil)))))))
theorem w_are_tiles {G_is_cell : List D → Mem → Res D} (h_is_cell : Fn P w K mg base 2 Tg.d_is_cell.a Tg.d_is_cell.fd ["x"] G_is_cell) : Fn P w K mg base 3 Tg.d_are_tiles.a Tg.d_are_tiles.fd ["board", "x"] (fnR 5 (r_are_tiles G_is_cell)) := fn_ok Tg.d_are_tiles.F sc_are_tiles fun cdv A outer s H Ex hr =>
  ss_cons (s_if (t_not (t_val (e_isi (T := "tuple") (TS := "tuple") (e_var 1) rfl Tg.m_isinstance rfl Tg.m_tuple bt_tuple (by decide) (by decide)))) (ss_one (s_ret (e_bl))) (ss_nil)) (ss_cons (s_set (i := 2) sc_are_tiles.nd rfl (by first | exact .inl rfl | exact .inr rfl) (e_lst (nw := true) (a_nil))) (ss_cons (s_for passes_fn rfl (i_any (e_var 1)) (ws := [3]) (g_name (i := 3) sc_are_tiles.nd rfl (by first | exact .inl rfl | exact .inr rfl)) (gok_name) (ss_cons (s_if (PW.pt (t_or (t_not (t_val (e_isi (T := "tuple") (TS := "tuple") (e_var 3) rfl Tg.m_isinstance rfl Tg.m_tuple bt_tuple (by decide) (by decide)))) (t_or (t_cmp (op_ne_ok hr.units) (e_bi (op := bLen) bLen_ok rfl Tg.m_len bt_len (a_cons (e_var 3) (a_nil))) (e_int)) (t_or (t_not (t_val (e_def Tg.d_is_cell h_is_cell hr (by decide) rfl takes_fn (a_cons (e_ix (e_var 3) (e_int)) (a_nil)) (argn_cons argn_nil)))) (t_or1 (t_not (t_val (e_def Tg.d_is_cell h_is_cell hr (by decide) rfl takes_fn (a_cons (e_ix (e_var 3) (e_int)) (a_nil)) (argn_cons argn_nil))))))))) (ss_one (s_ret (e_bl))) (ss_nil)) (ss_cons (s_if (PW.pt (t_or (t_cmp (op_ge_ok hr.units) (e_ix (e_var 3) (e_int)) (e_ix (e_var 3) (e_int))) (t_or1 (t_cmp (op_ne_ok hr.units) (e_op op_addX_ok (e_bi (op := bAbs) bAbs_ok rfl Tg.m_abs bt_abs (a_cons (e_op op_sub_ok (e_ix (e_ix (e_var 3) (e_int)) (e_int)) (e_ix (e_ix (e_var 3) (e_int)) (e_int))) (a_nil))) (e_bi (op := bAbs) bAbs_ok rfl Tg.m_abs bt_abs (a_cons (e_op op_sub_ok (e_ix (e_ix (e_var 3) (e_int)) (e_int)) (e_ix (e_ix (e_var 3) (e_int)) (e_int))) (a_nil)))) (e_int))))) (ss_one (s_ret (e_bl))) (ss_nil)) (ss_one (s_expr (e_meth PySem.F.slot_list_extend PySem.F.type_list_extend m_extendX (e_var 2) (a_cons (e_var 3) (a_nil)))))))) (ss_one (s_ret (e_and (e_bi (op := (bAllB false)) (bAll_ok rfl) rfl Tg.m_all bt_all (a_cons (e_lc (nw := false) (own := [("k", 4)]) rfl sc_are_tiles.nd (i_range2 rfl Tg.m_range (a_cons (e_int) (a_cons (e_bi (op := bLen) bLen_ok rfl Tg.m_len bt_len (a_cons (e_var 1) (a_nil))) (a_nil)))) (blkOk_by (own := [("k", 4)]) (by rfl)) (gok_name) (fun _ _ _ _ _ => g_name (i := 4) sc_are_tiles.nd rfl (by first | exact .inl rfl | exact .inr rfl)) (fun _ _ _ _ _ => pts_nilD) (fun _ _ _ _ _ => e_cmp (op_lt_ok hr.units) (e_ix (e_var 1) (e_op op_sub_ok (e_var 4) (e_int))) (e_ix (e_var 1) (e_var 4)))) (a_nil))) (e_one (e_cmp (op_eq_ok hr.units) (e_ty (op := bTuple) bTuple_ok rfl Tg.m_tuple bt_tuple (a_cons (e_bi (op := (bSortedX false)) (bSortedX_ok rfl hr.units) rfl Tg.m_sorted bt_sorted (a_cons (e_var 2) (a_nil))) (a_nil))) (e_var 0))))))))
theorem w_are_too_few {G_around : List D → Mem → Res D} (h_around : Fn P w K mg base 1 Tg.d_around.a Tg.d_around.fd ["board", "cell"] G_around) {G_are_cells : List D → Mem → Res D} (h_are_cells : Fn P w K mg base 3 Tg.d_are_cells.a Tg.d_are_cells.fd ["x"] G_are_cells) : Fn P w K mg base 4 Tg.d_are_too_few.a Tg.d_are_too_few.fd ["board", "x"] (fnR 7 (r_are_too_few G_around G_are_cells)) := fn_ok Tg.d_are_too_few.F sc_are_too_few fun cdv A outer s H Ex hr =>
  ss_cons (s_if (PW.pt (t_or (t_not (t_val (e_isi (T := "tuple") (TS := "tuple") (e_var 1) rfl Tg.m_isinstance rfl Tg.m_tuple bt_tuple (by decide) (by decide)))) (t_or (t_cmp (op_ne_ok hr.units) (e_bi (op := bLen) bLen_ok rfl Tg.m_len bt_len (a_cons (e_var 1) (a_nil))) (e_int)) (t_or (t_not (t_val (e_def Tg.d_are_cells h_are_cells hr (by decide) rfl takes_fn (a_cons (e_ix (e_var 1) (e_int)) (a_nil)) (argn_cons argn_nil)))) (t_or1 (t_not (t_val (e_def Tg.d_are_cells h_are_cells hr (by decide) rfl takes_fn (a_cons (e_ix (e_var 1) (e_int)) (a_nil)) (argn_cons argn_nil))))))))) (ss_one (s_ret (e_bl))) (ss_nil)) (ss_cons (s_asg (ws := [2, 3]) (e_var 1) (g_tup rfl (gs_cons (g_name (i := 2) sc_are_too_few.nd rfl (by first | exact .inl rfl | exact .inr rfl)) (gs_cons (g_name (i := 3) sc_are_too_few.nd rfl (by first | exact .inl rfl | exact .inr rfl)) (gs_nil)))) (gok_tup (gsok_cons (gok_name) (gsok_cons (gok_name) (gsok_nil))))) (ss_cons (s_if (PW.pt (t_or (t_not (t_val (e_bi (op := (bAllB false)) (bAll_ok rfl) rfl Tg.m_all bt_all (a_cons (e_lc (nw := false) (own := [("one", 6)]) rfl sc_are_too_few.nd (i_any (e_var 2)) (blkOk_by (own := [("one", 6)]) (by rfl)) (gok_name) (fun _ _ _ _ _ => g_name (i := 6) sc_are_too_few.nd rfl (by first | exact .inl rfl | exact .inr rfl)) (fun _ _ _ _ _ => pts_nilD) (fun _ _ _ _ _ => e_cmp (op_in_ok (hv_of hr)) (e_var 6) (e_var 0))) (a_nil))))) (t_or1 (t_cmp (op_ne_ok hr.units) (e_lenSet rfl rfl Tg.m_len rfl Tg.m_set bt_set (e_lc (nw := false) (own := [("one", 6)]) rfl sc_are_too_few.nd (i_any (e_var 2)) (blkOk_by (own := [("one", 6)]) (by rfl)) (gok_name) (fun _ _ _ _ _ => g_name (i := 6) sc_are_too_few.nd rfl (by first | exact .inl rfl | exact .inr rfl)) (fun _ _ _ _ _ => pts_nilD) (fun _ _ _ _ _ => e_op op_mod_ok (e_bi (op := bSumX) (bSumX_ok rfl) rfl Tg.m_sum bt_sum (a_cons (e_var 6) (a_nil))) (e_int)))) (e_int))))) (ss_one (s_ret (e_bl))) (ss_nil)) (ss_cons (s_set (i := 4) sc_are_too_few.nd rfl (by first | exact .inl rfl | exact .inr rfl) (e_dnew)) (ss_cons (s_for passes_fn rfl (i_any (e_var 2)) (ws := [5]) (g_name (i := 5) sc_are_too_few.nd rfl (by first | exact .inl rfl | exact .inr rfl)) (gok_name) (ss_one (s_for passes_fn rfl (i_any (e_def Tg.d_around h_around hr (by decide) rfl takes_fn (a_cons (e_var 0) (a_cons (e_var 5) (a_nil))) (argn_cons (argn_cons argn_nil)))) (ws := [6]) (g_name (i := 6) sc_are_too_few.nd rfl (by first | exact .inl rfl | exact .inr rfl)) (gok_name) (ss_one (s_asg (ws := []) (e_bl) (g_dx hr.units (W := W0) (e_var 4) (e_var 6)) (gok_dx)))))) (ss_one (s_ret (e_and (e_cmp (op_eq_ok hr.units) (e_ty (op := bTuple) bTuple_ok rfl Tg.m_tuple bt_tuple (a_cons (e_bi (op := (bSortedX false)) (bSortedX_ok rfl hr.units) rfl Tg.m_sorted bt_sorted (a_cons (e_var 4) (a_nil))) (a_nil))) (e_var 3)) (e_one (e_cmp (op_lt_ok hr.units) (e_bi (op := bLen) bLen_ok rfl Tg.m_len bt_len (a_cons (e_var 3) (a_nil))) (e_bi (op := bLen) bLen_ok rfl Tg.m_len bt_len (a_cons (e_var 2) (a_nil))))))))))))
theorem w_is_tiled {G_check_board : List D → Mem → Res D} (h_check_board : Fn P w K mg base 5 Tg.d_check_board.a Tg.d_check_board.fd ["x"] G_check_board) {G_are_tiles : List D → Mem → Res D} (h_are_tiles : Fn P w K mg base 3 Tg.d_are_tiles.a Tg.d_are_tiles.fd ["board", "x"] G_are_tiles) {G_are_too_few : List D → Mem → Res D} (h_are_too_few : Fn P w K mg base 4 Tg.d_are_too_few.a Tg.d_are_too_few.fd ["board", "x"] G_are_too_few) : Fn P w K mg base 6 Tg.d_is_tiled.a Tg.d_is_tiled.fd ["board", "says", "paper"] (fnR 3 (r_is_tiled G_check_board G_are_tiles G_are_too_few)) := fn_ok Tg.d_is_tiled.F sc_is_tiled fun cdv A outer s H Ex hr =>
  ss_cons (s_expr (e_def Tg.d_check_board h_check_board hr (by decide) rfl takes_fn (a_cons (e_var 0) (a_nil)) (argn_cons argn_nil))) (ss_one (s_ret (e_if (t_val (e_var 1)) (e_def Tg.d_are_tiles h_are_tiles hr (by decide) rfl takes_fn (a_cons (e_var 0) (a_cons (e_var 2) (a_nil))) (argn_cons (argn_cons argn_nil))) (e_def Tg.d_are_too_few h_are_too_few hr (by decide) rfl takes_fn (a_cons (e_var 0) (a_cons (e_var 2) (a_nil))) (argn_cons (argn_cons argn_nil))))))
theorem w_tilings {G_check_board : List D → Mem → Res D} (h_check_board : Fn P w K mg base 5 Tg.d_check_board.a Tg.d_check_board.fd ["x"] G_check_board) {G_around : List D → Mem → Res D} (h_around : Fn P w K mg base 1 Tg.d_around.a Tg.d_around.fd ["board", "cell"] G_around) : Fn P w K mg base 6 Tg.d_tilings.a Tg.d_tilings.fd ["board"] (fnR 9 (r_tilings G_check_board G_around)) := fn_ok Tg.d_tilings.F sc_tilings fun cdv A outer s H Ex hr =>
  ss_cons (s_expr (e_def Tg.d_check_board h_check_board hr (by decide) rfl takes_fn (a_cons (e_var 0) (a_nil)) (argn_cons argn_nil))) (ss_cons (s_set (i := 1) sc_tilings.nd rfl (by first | exact .inl rfl | exact .inr rfl) (e_d1 hr.units (e_tup (a_nil)) (e_int))) (ss_cons (s_for passes_fn rfl (i_any (e_var 0)) (ws := [2]) (g_name (i := 2) sc_tilings.nd rfl (by first | exact .inl rfl | exact .inr rfl)) (gok_name) (ss_cons (s_set (i := 3) sc_tilings.nd rfl (by first | exact .inl rfl | exact .inr rfl) (e_dnew)) (ss_cons (s_lock 1 (s_for passes_fn rfl (i_di (e_var 1)) (ws := [4, 5]) (g_tup rfl (gs_cons (g_name (i := 4) sc_tilings.nd rfl (by first | exact .inl rfl | exact .inr rfl)) (gs_cons (g_name (i := 5) sc_tilings.nd rfl (by first | exact .inl rfl | exact .inr rfl)) (gs_nil)))) (gok_tup (gsok_cons (gok_name) (gsok_cons (gok_name) (gsok_nil)))) (ss_cons (s_if (t_cmp (op_in_ok (hv_of hr)) (e_var 2) (e_var 4)) (ss_one (s_set (i := 6) sc_tilings.nd rfl (by first | exact .inl rfl | exact .inr rfl) (e_lst (nw := false) (a_cons (e_ty (op := bTuple) bTuple_ok rfl Tg.m_tuple bt_tuple (a_cons (e_lc (nw := false) (own := [("one", 8)]) rfl sc_tilings.nd (i_any (e_var 4)) (blkOk_by (own := [("one", 8)]) (by rfl)) (gok_name) (fun _ _ _ _ _ => g_name (i := 8) sc_tilings.nd rfl (by first | exact .inl rfl | exact .inr rfl)) (fun _ _ _ _ _ => pts_oneD (t_cmp (op_ne_ok hr.units) (e_var 8) (e_var 2))) (fun _ _ _ _ _ => e_var 8)) (a_nil))) (a_nil))))) (ss_one (s_setLc (nw := false) (i := 6) (own := [("one", 8)]) rfl sc_tilings.nd rfl rfl rfl (i_any (e_def Tg.d_around h_around hr (by decide) rfl takes_fn (a_cons (e_var 0) (a_cons (e_var 2) (a_nil))) (argn_cons (argn_cons argn_nil)))) (blkOk_by (own := [("one", 8)]) (by rfl)) (gok_name) (fun _ _ _ _ _ => g_name (i := 8) sc_tilings.nd rfl (by first | exact .inl rfl | exact .inr rfl)) (fun _ _ _ _ _ => pts_oneD (PW.pt (t_and (t_cmp (op_gt_ok hr.units) (e_var 8) (e_var 2)) (t_and1 (t_cmp (op_nin_ok (hv_of hr)) (e_var 8) (e_var 4)))))) (fun _ _ _ _ _ => e_op op_addX_ok (e_var 4) (e_tup (a_cons (e_var 8) (a_nil))))))) (ss_one (s_for passes_fn rfl (i_any (e_var 6)) (ws := [7]) (g_name (i := 7) sc_tilings.nd rfl (by first | exact .inl rfl | exact .inr rfl)) (gok_name) (ss_cons (s_set (i := 7) sc_tilings.nd rfl (by first | exact .inl rfl | exact .inr rfl) (e_ty (op := bTuple) bTuple_ok rfl Tg.m_tuple bt_tuple (a_cons (e_bi (op := (bSortedT false)) (bSortedT_ok hr.units) rfl Tg.m_sorted bt_sorted (a_cons (e_var 7) (a_nil))) (a_nil)))) (ss_one (s_asg (ws := []) (e_op op_addX_ok (e_dget hr.units (e_var 3) (e_var 7) (e_int)) (e_var 5)) (g_dx hr.units (W := W0) (e_var 3) (e_var 7)) (gok_dx))))))))) (ss_one (s_set (i := 1) sc_tilings.nd rfl (by first | exact .inl rfl | exact .inr rfl) (e_var 3)))))) (ss_one (s_ret (e_dget hr.units (e_var 1) (e_tup (a_nil)) (e_int))))))
theorem w__law_box {scr : OScr} (ho : scr.Ok K) : Fn P w K mg base 1 Tg.d__law_box.a Tg.d__law_box.fd ["script"] (fnR 2 (r__law_box scr)) := fn_ok Tg.d__law_box.F sc__law_box fun cdv A outer s H Ex hr =>
  ss_one (s_ret (e_lst (nw := true) (a_cons (e_int) (a_cons (e_int) (a_cons (e_int) (a_cons (e_lc (nw := false) (own := [("x", 1)]) rfl sc__law_box.nd (i_scr ho (e_var 0)) (blkOk_by (own := [("x", 1)]) (by rfl)) (gok_name) (fun _ _ _ _ _ => g_name (i := 1) sc__law_box.nd rfl (by first | exact .inl rfl | exact .inr rfl)) (fun _ _ _ _ _ => pts_nilD) (fun _ _ _ _ _ => e_bi (op := bAbs) bAbs_ok rfl Tg.m_abs bt_abs (a_cons (e_ty (op := bInt) bInt_ok rfl Tg.m_int bt_int (a_cons (e_var 1) (a_nil))) (a_nil)))) (a_nil)))))))
theorem w__law_take : Fn P w K mg base 1 Tg.d__law_take.a Tg.d__law_take.fd ["box", "m"] (fnR 5 (r__law_take)) := fn_ok Tg.d__law_take.F sc__law_take fun cdv A outer s H Ex hr =>
  ss_cons (s_if (t_cmp (op_eq_ok hr.units) (e_ix (e_var 0) (e_int)) (e_int)) (ss_cons (s_set (i := 2) sc__law_take.nd rfl (by first | exact .inl rfl | exact .inr rfl) (e_ix (e_var 0) (e_int))) (ss_cons (s_set (i := 3) sc__law_take.nd rfl (by first | exact .inl rfl | exact .inr rfl) (e_int)) (ss_cons (s_if (t_cmp (op_lt_ok hr.units) (e_var 2) (e_bi (op := bLen) bLen_ok rfl Tg.m_len bt_len (a_cons (e_ix (e_var 0) (e_int)) (a_nil)))) (ss_cons (s_set (i := 3) sc__law_take.nd rfl (by first | exact .inl rfl | exact .inr rfl) (e_ix (e_ix (e_var 0) (e_int)) (e_var 2))) (ss_one (s_asg (ws := []) (e_if (t_cmp (op_ge_ok hr.units) (e_var 3) (e_op op_pow_ok (e_int) (e_int))) (e_int) (e_un un_neg_ok (e_int))) (g_ix (W := W0) (e_var 0) (e_int)) (gok_ix)))) (ss_nil)) (ss_cons (s_asg (ws := []) (e_op op_addX_ok (e_var 2) (e_int)) (g_ix (W := W0) (e_var 0) (e_int)) (gok_ix)) (ss_cons (s_asg (ws := []) (e_var 3) (g_ix (W := W0) (e_var 0) (e_int)) (gok_ix)) (ss_one (s_if (t_cmp (op_eq_ok hr.units) (e_ix (e_var 0) (e_int)) (e_int)) (ss_one (s_ret (e_int))) (ss_nil)))))))) (ss_nil)) (ss_cons (s_if (t_cmp (op_gt_ok hr.units) (e_ix (e_var 0) (e_int)) (e_int)) (ss_cons (s_set (i := 4) sc__law_take.nd rfl (by first | exact .inl rfl | exact .inr rfl) (e_op op_mod_ok (e_ty (op := bInt) bInt_ok rfl Tg.m_int bt_int (a_cons (e_ix (e_var 0) (e_int)) (a_nil))) (e_var 1))) (ss_cons (s_asg (ws := []) (e_op op_fdiv_ok (e_ix (e_var 0) (e_int)) (e_var 1)) (g_ix (W := W0) (e_var 0) (e_int)) (gok_ix)) (ss_cons (s_asg (ws := []) (e_if (t_cmp (op_gt_ok hr.units) (e_ix (e_var 0) (e_int)) (e_int)) (e_op op_sub_ok (e_ix (e_var 0) (e_int)) (e_int)) (e_int)) (g_ix (W := W0) (e_var 0) (e_int)) (gok_ix)) (ss_one (s_ret (e_var 4)))))) (ss_nil)) (ss_cons (s_asg (ws := []) (e_op op_addX_ok (e_ix (e_var 0) (e_int)) (e_int)) (g_ix (W := W0) (e_var 0) (e_int)) (gok_ix)) (ss_cons (s_asg (ws := []) (e_op op_mod_ok (e_ty (op := bInt) bInt_ok rfl Tg.m_int bt_int (a_cons (e_op op_addX_ok (e_op op_mulX_ok (e_ix (e_var 0) (e_int)) (e_int)) (e_op op_mulX_ok (e_int) (e_op op_addX_ok (e_ix (e_var 0) (e_int)) (e_int)))) (a_nil))) (e_int)) (g_ix (W := W0) (e_var 0) (e_int)) (gok_ix)) (ss_one (s_ret (e_op op_mod_ok (e_op op_mod_ok (e_ty (op := bInt) bInt_ok rfl Tg.m_int bt_int (a_cons (e_op op_addX_ok (e_op op_fdiv_ok (e_ix (e_var 0) (e_int)) (e_int)) (e_ix (e_var 0) (e_int))) (a_nil))) (e_int)) (e_var 1)))))))
theorem w__law_whole : Fn P w K mg base 1 Tg.d__law_whole.a Tg.d__law_whole.fd ["x"] (fnR 1 (r__law_whole)) := fn_ok Tg.d__law_whole.F sc__law_whole fun cdv A outer s H Ex hr =>
  ss_one (s_ret (e_and (e_isi (T := "int") (TS := "int") (e_var 0) rfl Tg.m_isinstance rfl Tg.m_int bt_int (by decide) (by decide)) (e_one (e_not (e_isi (T := "bool") (TS := "bool") (e_var 0) rfl Tg.m_isinstance rfl Tg.m_bool bt_bool (by decide) (by decide))))))
theorem w__law_board {G__law_take : List D → Mem → Res D} (h__law_take : Fn P w K mg base 1 Tg.d__law_take.a Tg.d__law_take.fd ["box", "m"] G__law_take) : Fn P w K mg base 2 Tg.d__law_board.a Tg.d__law_board.fd ["box", "most"] (fnR 8 (r__law_board G__law_take)) := fn_ok Tg.d__law_board.F sc__law_board fun cdv A outer s H Ex hr =>
  ss_cons (s_par3 (i := 2) (j := 3) (l := 4) rfl sc__law_board.nd rfl rfl rfl (by decide) (by decide) (by decide) rfl rfl rfl (a_cons (e_def Tg.d__law_take h__law_take hr (by decide) rfl takes_fn (a_cons (e_var 0) (a_cons (e_int) (a_nil))) (argn_cons (argn_cons argn_nil))) (a_cons (e_op op_addX_ok (e_int) (e_def Tg.d__law_take h__law_take hr (by decide) rfl takes_fn (a_cons (e_var 0) (a_cons (e_int) (a_nil))) (argn_cons (argn_cons argn_nil)))) (a_cons (e_op op_addX_ok (e_int) (e_def Tg.d__law_take h__law_take hr (by decide) rfl takes_fn (a_cons (e_var 0) (a_cons (e_int) (a_nil))) (argn_cons (argn_cons argn_nil)))) (a_nil))))) (ss_cons (s_set (i := 5) sc__law_board.nd rfl (by first | exact .inl rfl | exact .inr rfl) (e_lst (nw := true) (a_nil))) (ss_cons (s_for passes_fn rfl (i_range1 rfl Tg.m_range (a_cons (e_var 3) (a_nil))) (ws := [6]) (g_name (i := 6) sc__law_board.nd rfl (by first | exact .inl rfl | exact .inr rfl)) (gok_name) (ss_one (s_for passes_fn rfl (i_range1 rfl Tg.m_range (a_cons (e_var 4) (a_nil))) (ws := [7]) (g_name (i := 7) sc__law_board.nd rfl (by first | exact .inl rfl | exact .inr rfl)) (gok_name) (ss_cons (s_if (PW.pt (t_or (PW.pt (t_and (t_cmp (op_eq_ok hr.units) (e_var 2) (e_int)) (t_and1 (t_cmp (op_gt_ok hr.units) (e_def Tg.d__law_take h__law_take hr (by decide) rfl takes_fn (a_cons (e_var 0) (a_cons (e_int) (a_nil))) (argn_cons (argn_cons argn_nil))) (e_int))))) (t_or1 (PW.pt (t_and (t_cmp (op_eq_ok hr.units) (e_var 2) (e_int)) (t_and1 (t_cmp (op_gt_ok hr.units) (e_def Tg.d__law_take h__law_take hr (by decide) rfl takes_fn (a_cons (e_var 0) (a_cons (e_int) (a_nil))) (argn_cons (argn_cons argn_nil))) (e_int)))))))) (ss_one (s_expr (e_meth PySem.F.slot_list_append PySem.F.type_list_append m_append (e_var 5) (a_cons (e_tup (a_cons (e_var 6) (a_cons (e_var 7) (a_nil)))) (a_nil))))) (ss_nil)) (ss_one (s_if (PW.pt (t_and (t_cmp (op_eq_ok hr.units) (e_var 2) (e_int)) (t_and1 (PW.pt (t_or (t_cmp (op_in_ok (hv_of hr)) (e_var 6) (e_tup (a_cons (e_int) (a_cons (e_op op_sub_ok (e_var 3) (e_int)) (a_nil))))) (t_or1 (t_cmp (op_in_ok (hv_of hr)) (e_var 7) (e_tup (a_cons (e_int) (a_cons (e_op op_sub_ok (e_var 4) (e_int)) (a_nil))))))))))) (ss_one (s_expr (e_meth PySem.F.slot_list_append PySem.F.type_list_append m_append (e_var 5) (a_cons (e_tup (a_cons (e_var 6) (a_cons (e_var 7) (a_nil)))) (a_nil))))) (ss_nil))))))) (ss_one (s_ret (e_ty (op := bTuple) bTuple_ok rfl Tg.m_tuple bt_tuple (a_cons (e_sl (nw := false) (e_var 5) p_none (p_some (e_var 1))) (a_nil)))))))
theorem w__law_beside : Fn P w K mg base 1 Tg.d__law_beside.a Tg.d__law_beside.fd ["board", "cell"] (fnR 5 (r__law_beside)) := fn_ok Tg.d__law_beside.F sc__law_beside fun cdv A outer s H Ex hr =>
  ss_cons (s_asg (ws := [2, 3]) (e_var 1) (g_tup rfl (gs_cons (g_name (i := 2) sc__law_beside.nd rfl (by first | exact .inl rfl | exact .inr rfl)) (gs_cons (g_name (i := 3) sc__law_beside.nd rfl (by first | exact .inl rfl | exact .inr rfl)) (gs_nil)))) (gok_tup (gsok_cons (gok_name) (gsok_cons (gok_name) (gsok_nil))))) (ss_one (s_ret (e_lc (nw := false) (own := [("one", 4)]) rfl sc__law_beside.nd (i_any (e_tup (a_cons (e_tup (a_cons (e_op op_sub_ok (e_var 2) (e_int)) (a_cons (e_var 3) (a_nil)))) (a_cons (e_tup (a_cons (e_var 2) (a_cons (e_op op_sub_ok (e_var 3) (e_int)) (a_nil)))) (a_cons (e_tup (a_cons (e_var 2) (a_cons (e_op op_addX_ok (e_var 3) (e_int)) (a_nil)))) (a_cons (e_tup (a_cons (e_op op_addX_ok (e_var 2) (e_int)) (a_cons (e_var 3) (a_nil)))) (a_nil))))))) (blkOk_by (own := [("one", 4)]) (by rfl)) (gok_name) (fun _ _ _ _ _ => g_name (i := 4) sc__law_beside.nd rfl (by first | exact .inl rfl | exact .inr rfl)) (fun _ _ _ _ _ => pts_oneD (t_cmp (op_in_ok (hv_of hr)) (e_var 4) (e_var 0))) (fun _ _ _ _ _ => e_var 4))))
theorem w__law_ways {n : Nat} {G__law_ways : List D → Mem → Res D} (h__law_ways : Fn P w K mg base (1 + n) Tg.d__law_ways.a Tg.d__law_ways.fd ["cells"] G__law_ways) : Fn P w K mg base (1 + n + 1) Tg.d__law_ways.a Tg.d__law_ways.fd ["cells"] (fnR 6 (r__law_ways G__law_ways)) := fn_ok Tg.d__law_ways.F sc__law_ways fun cdv A outer s H Ex hr =>
  ss_cons (s_if (t_cmp (op_eq_ok hr.units) (e_var 0) (e_tup (a_nil))) (ss_one (s_ret (e_int))) (ss_nil)) (ss_cons (s_asg (ws := [1, 2]) (e_ix (e_var 0) (e_int)) (g_tup rfl (gs_cons (g_name (i := 1) sc__law_ways.nd rfl (by first | exact .inl rfl | exact .inr rfl)) (gs_cons (g_name (i := 2) sc__law_ways.nd rfl (by first | exact .inl rfl | exact .inr rfl)) (gs_nil)))) (gok_tup (gsok_cons (gok_name) (gsok_cons (gok_name) (gsok_nil))))) (ss_cons (s_set (i := 3) sc__law_ways.nd rfl (by first | exact .inl rfl | exact .inr rfl) (e_int)) (ss_cons (s_for passes_fn rfl (i_any (e_tup (a_cons (e_tup (a_cons (e_var 1) (a_cons (e_op op_addX_ok (e_var 2) (e_int)) (a_nil)))) (a_cons (e_tup (a_cons (e_op op_addX_ok (e_var 1) (e_int)) (a_cons (e_var 2) (a_nil)))) (a_nil))))) (ws := [4]) (g_name (i := 4) sc__law_ways.nd rfl (by first | exact .inl rfl | exact .inr rfl)) (gok_name) (ss_one (s_if (t_cmp (op_in_ok (hv_of hr)) (e_var 4) (e_var 0)) (ss_one (s_set (i := 3) sc__law_ways.nd rfl (by first | exact .inl rfl | exact .inr rfl) (e_op op_addX_ok (e_var 3) (e_def Tg.d__law_ways h__law_ways hr (by omega) rfl takes_fn (a_cons (e_ty (op := bTuple) bTuple_ok rfl Tg.m_tuple bt_tuple (a_cons (e_lc (nw := false) (own := [("one", 5)]) rfl sc__law_ways.nd (i_any (e_sl (nw := false) (e_var 0) (p_some (e_int)) p_none)) (blkOk_by (own := [("one", 5)]) (by rfl)) (gok_name) (fun _ _ _ _ _ => g_name (i := 5) sc__law_ways.nd rfl (by first | exact .inl rfl | exact .inr rfl)) (fun _ _ _ _ _ => pts_oneD (t_cmp (op_ne_ok hr.units) (e_var 5) (e_var 4))) (fun _ _ _ _ _ => e_var 5)) (a_nil))) (a_nil)) (argn_cons argn_nil))))) (ss_nil)))) (ss_one (s_ret (e_var 3))))))
theorem w__law_is_tiled {G__law_beside : List D → Mem → Res D} (h__law_beside : Fn P w K mg base 1 Tg.d__law_beside.a Tg.d__law_beside.fd ["board", "cell"] G__law_beside) {G__law_whole : List D → Mem → Res D} (h__law_whole : Fn P w K mg base 1 Tg.d__law_whole.a Tg.d__law_whole.fd ["x"] G__law_whole) : Fn P w K mg base 2 Tg.d__law_is_tiled.a Tg.d__law_is_tiled.fd ["board", "says", "x"] (fnR 12 (r__law_is_tiled G__law_beside G__law_whole)) := fn_ok Tg.d__law_is_tiled.F sc__law_is_tiled fun cdv A outer s H Ex hr =>
  ss_cons (s_if (t_not (t_val (e_isi (T := "tuple") (TS := "tuple") (e_var 2) rfl Tg.m_isinstance rfl Tg.m_tuple bt_tuple (by decide) (by decide)))) (ss_one (s_ret (e_bl))) (ss_nil)) (ss_cons (s_set (i := 3) sc__law_is_tiled.nd rfl (by first | exact .inl rfl | exact .inr rfl) (e_var 2)) (ss_cons (s_if (PW.pt (t_and (t_not (t_val (e_var 1))) (t_and1 (t_cmp (op_ne_ok hr.units) (e_bi (op := bLen) bLen_ok rfl Tg.m_len bt_len (a_cons (e_var 2) (a_nil))) (e_int))))) (ss_one (s_ret (e_bl))) (ss_nil)) (ss_cons (s_for passes_fn rfl (i_any (e_var 3)) (ws := [4]) (g_name (i := 4) sc__law_is_tiled.nd rfl (by first | exact .inl rfl | exact .inr rfl)) (gok_name) (ss_cons (s_if (t_not (t_val (e_isi (T := "tuple") (TS := "tuple") (e_var 4) rfl Tg.m_isinstance rfl Tg.m_tuple bt_tuple (by decide) (by decide)))) (ss_one (s_ret (e_bl))) (ss_nil)) (ss_one (s_for passes_fn rfl (i_any (e_var 4)) (ws := [5]) (g_name (i := 5) sc__law_is_tiled.nd rfl (by first | exact .inl rfl | exact .inr rfl)) (gok_name) (ss_one (s_if (PW.pt (t_or (t_not (t_val (e_isi (T := "tuple") (TS := "tuple") (e_var 5) rfl Tg.m_isinstance rfl Tg.m_tuple bt_tuple (by decide) (by decide)))) (t_or (t_cmp (op_ne_ok hr.units) (e_bi (op := bLen) bLen_ok rfl Tg.m_len bt_len (a_cons (e_var 5) (a_nil))) (e_int)) (t_or1 (t_cmp (op_ne_ok hr.units) (e_lc (nw := false) (own := [("one", 10)]) rfl sc__law_is_tiled.nd (i_any (e_var 5)) (blkOk_by (own := [("one", 10)]) (by rfl)) (gok_name) (fun _ _ _ _ _ => g_name (i := 10) sc__law_is_tiled.nd rfl (by first | exact .inl rfl | exact .inr rfl)) (fun _ _ _ _ _ => pts_oneD (PW.pt (t_or (t_not (t_val (e_def Tg.d__law_whole h__law_whole hr (by decide) rfl takesW0 (a_cons (e_var 10) (a_nil)) (argn_cons argn_nil)))) (t_or1 (t_not (t_chain (op_le_ok hr.units) (op_le_ok hr.units) (e_int) (e_var 10) (e_int))))))) (fun _ _ _ _ _ => e_int)) (e_lst (nw := false) (a_nil))))))) (ss_one (s_ret (e_bl))) (ss_nil))))))) (ss_cons (s_if (t_not (t_val (e_var 1))) (ss_cons (s_asg (ws := [6, 7]) (e_var 2) (g_tup rfl (gs_cons (g_name (i := 6) sc__law_is_tiled.nd rfl (by first | exact .inl rfl | exact .inr rfl)) (gs_cons (g_name (i := 7) sc__law_is_tiled.nd rfl (by first | exact .inl rfl | exact .inr rfl)) (gs_nil)))) (gok_tup (gsok_cons (gok_name) (gsok_cons (gok_name) (gsok_nil))))) (ss_cons (s_if (PW.pt (t_or (t_cmp (op_ne_ok hr.units) (e_lc (nw := false) (own := [("k", 11)]) rfl sc__law_is_tiled.nd (i_range2 rfl Tg.m_range (a_cons (e_int) (a_cons (e_bi (op := bLen) bLen_ok rfl Tg.m_len bt_len (a_cons (e_var 6) (a_nil))) (a_nil)))) (blkOk_by (own := [("k", 11)]) (by rfl)) (gok_name) (fun _ _ _ _ _ => g_name (i := 11) sc__law_is_tiled.nd rfl (by first | exact .inl rfl | exact .inr rfl)) (fun _ _ _ _ _ => pts_oneD (t_not (t_cmp (op_lt_ok hr.units) (e_ix (e_var 6) (e_op op_sub_ok (e_var 11) (e_int))) (e_ix (e_var 6) (e_var 11))))) (fun _ _ _ _ _ => e_var 11)) (e_lst (nw := false) (a_nil))) (t_or1 (t_cmp (op_ne_ok hr.units) (e_lc (nw := false) (own := [("one", 10)]) rfl sc__law_is_tiled.nd (i_any (e_var 6)) (blkOk_by (own := [("one", 10)]) (by rfl)) (gok_name) (fun _ _ _ _ _ => g_name (i := 10) sc__law_is_tiled.nd rfl (by first | exact .inl rfl | exact .inr rfl)) (fun _ _ _ _ _ => pts_oneD (t_cmp (op_nin_ok (hv_of hr)) (e_var 10) (e_var 0))) (fun _ _ _ _ _ => e_var 10)) (e_lst (nw := false) (a_nil)))))) (ss_one (s_ret (e_bl))) (ss_nil)) (ss_cons (s_if (t_cmp (op_ne_ok hr.units) (e_lenSet rfl rfl Tg.m_len rfl Tg.m_set bt_set (e_lc (nw := false) (own := [("one", 10)]) rfl sc__law_is_tiled.nd (i_any (e_var 6)) (blkOk_by (own := [("one", 10)]) (by rfl)) (gok_name) (fun _ _ _ _ _ => g_name (i := 10) sc__law_is_tiled.nd rfl (by first | exact .inl rfl | exact .inr rfl)) (fun _ _ _ _ _ => pts_nilD) (fun _ _ _ _ _ => e_op op_mod_ok (e_op op_addX_ok (e_ix (e_var 10) (e_int)) (e_ix (e_var 10) (e_int))) (e_int)))) (e_int)) (ss_one (s_ret (e_bl))) (ss_nil)) (ss_cons (s_set (i := 8) sc__law_is_tiled.nd rfl (by first | exact .inl rfl | exact .inr rfl) (e_lst (nw := true) (a_nil))) (ss_cons (s_for passes_fn rfl (i_any (e_var 6)) (ws := [5]) (g_name (i := 5) sc__law_is_tiled.nd rfl (by first | exact .inl rfl | exact .inr rfl)) (gok_name) (ss_one (s_expr (e_meth PySem.F.slot_list_extend PySem.F.type_list_extend m_extendX (e_var 8) (a_cons (e_def Tg.d__law_beside h__law_beside hr (by decide) rfl takes_fn (a_cons (e_var 0) (a_cons (e_var 5) (a_nil))) (argn_cons (argn_cons argn_nil))) (a_nil)))))) (ss_one (s_ret (e_and (e_cmp (op_eq_ok hr.units) (e_var 7) (e_ty (op := bTuple) bTuple_ok rfl Tg.m_tuple bt_tuple (a_cons (e_sortSet (nw := false) rfl hr.units rfl Tg.m_sorted bt_sorted rfl Tg.m_set bt_set (e_var 8)) (a_nil)))) (e_one (e_cmp (op_lt_ok hr.units) (e_bi (op := bLen) bLen_ok rfl Tg.m_len bt_len (a_cons (e_var 7) (a_nil))) (e_bi (op := bLen) bLen_ok rfl Tg.m_len bt_len (a_cons (e_var 6) (a_nil))))))))))))) (ss_nil)) (ss_cons (s_set (i := 9) sc__law_is_tiled.nd rfl (by first | exact .inl rfl | exact .inr rfl) (e_lst (nw := true) (a_nil))) (ss_cons (s_for passes_fn rfl (i_any (e_var 2)) (ws := [10]) (g_name (i := 10) sc__law_is_tiled.nd rfl (by first | exact .inl rfl | exact .inr rfl)) (gok_name) (ss_cons (s_if (PW.pt (t_or (t_cmp (op_ne_ok hr.units) (e_bi (op := bLen) bLen_ok rfl Tg.m_len bt_len (a_cons (e_var 10) (a_nil))) (e_int)) (t_or1 (t_cmp (op_nin_ok (hv_of hr)) (e_ix (e_var 10) (e_int)) (e_tup (a_cons (e_tup (a_cons (e_ix (e_ix (e_var 10) (e_int)) (e_int)) (a_cons (e_op op_addX_ok (e_ix (e_ix (e_var 10) (e_int)) (e_int)) (e_int)) (a_nil)))) (a_cons (e_tup (a_cons (e_op op_addX_ok (e_ix (e_ix (e_var 10) (e_int)) (e_int)) (e_int)) (a_cons (e_ix (e_ix (e_var 10) (e_int)) (e_int)) (a_nil)))) (a_nil)))))))) (ss_one (s_ret (e_bl))) (ss_nil)) (ss_one (s_expr (e_meth PySem.F.slot_list_extend PySem.F.type_list_extend m_extendX (e_var 9) (a_cons (e_var 10) (a_nil))))))) (ss_one (s_ret (e_and (e_cmp (op_eq_ok hr.units) (e_ty (op := bTuple) bTuple_ok rfl Tg.m_tuple bt_tuple (a_cons (e_bi (op := (bSortedX false)) (bSortedX_ok rfl hr.units) rfl Tg.m_sorted bt_sorted (a_cons (e_var 9) (a_nil))) (a_nil))) (e_var 0)) (e_one (e_cmp (op_eq_ok hr.units) (e_lc (nw := false) (own := [("k", 11)]) rfl sc__law_is_tiled.nd (i_range2 rfl Tg.m_range (a_cons (e_int) (a_cons (e_bi (op := bLen) bLen_ok rfl Tg.m_len bt_len (a_cons (e_var 2) (a_nil))) (a_nil)))) (blkOk_by (own := [("k", 11)]) (by rfl)) (gok_name) (fun _ _ _ _ _ => g_name (i := 11) sc__law_is_tiled.nd rfl (by first | exact .inl rfl | exact .inr rfl)) (fun _ _ _ _ _ => pts_oneD (t_not (t_cmp (op_lt_ok hr.units) (e_ix (e_var 2) (e_op op_sub_ok (e_var 11) (e_int))) (e_ix (e_var 2) (e_var 11))))) (fun _ _ _ _ _ => e_var 11)) (e_lst (nw := false) (a_nil)))))))))))))
theorem w_law {G__law_box : List D → Mem → Res D} (h__law_box : Fn P w K mg base 1 Tg.d__law_box.a Tg.d__law_box.fd ["script"] G__law_box) {G__law_board : List D → Mem → Res D} (h__law_board : Fn P w K mg base 2 Tg.d__law_board.a Tg.d__law_board.fd ["box", "most"] G__law_board) {G_dominoes : List D → Mem → Res D} (h_dominoes : Fn P w K mg base 43 Tg.d_dominoes.a Tg.d_dominoes.fd ["board"] G_dominoes) {G__law_ways : List D → Mem → Res D} (h__law_ways : Fn P w K mg base 41 Tg.d__law_ways.a Tg.d__law_ways.fd ["cells"] G__law_ways) {G__law_is_tiled : List D → Mem → Res D} (h__law_is_tiled : Fn P w K mg base 2 Tg.d__law_is_tiled.a Tg.d__law_is_tiled.fd ["board", "says", "x"] G__law_is_tiled) {G_is_tiled : List D → Mem → Res D} (h_is_tiled : Fn P w K mg base 6 Tg.d_is_tiled.a Tg.d_is_tiled.fd ["board", "says", "paper"] G_is_tiled) {G_is_board : List D → Mem → Res D} (h_is_board : Fn P w K mg base 4 Tg.d_is_board.a Tg.d_is_board.fd ["x"] G_is_board) {G_tilings : List D → Mem → Res D} (h_tilings : Fn P w K mg base 6 Tg.d_tilings.a Tg.d_tilings.fd ["board"] G_tilings) : Fn P w K mg base 44 Tg.d_law.a Tg.d_law.fd ["script"] (fnR 6 (r_law G__law_box G__law_board G_dominoes G__law_ways G__law_is_tiled G_is_tiled G_is_board G_tilings)) := fn_ok Tg.d_law.F sc_law fun cdv A outer s H Ex hr =>
  ss_cons (s_set (i := 1) sc_law.nd rfl (by first | exact .inl rfl | exact .inr rfl) (e_def Tg.d__law_box h__law_box hr (by decide) rfl takes_fn (a_cons (e_var 0) (a_nil)) (argn_cons argn_nil))) (ss_cons (s_set (i := 2) sc_law.nd rfl (by first | exact .inl rfl | exact .inr rfl) (e_def Tg.d__law_board h__law_board hr (by decide) rfl takes_fn (a_cons (e_var 1) (a_cons (e_int) (a_nil))) (argn_cons (argn_cons argn_nil)))) (ss_cons (s_asg (ws := [3, 4]) (e_def Tg.d_dominoes h_dominoes hr (by decide) rfl takes_fn (a_cons (e_var 2) (a_nil)) (argn_cons argn_nil)) (g_tup rfl (gs_cons (g_name (i := 3) sc_law.nd rfl (by first | exact .inl rfl | exact .inr rfl)) (gs_cons (g_name (i := 4) sc_law.nd rfl (by first | exact .inl rfl | exact .inr rfl)) (gs_nil)))) (gok_tup (gsok_cons (gok_name) (gsok_cons (gok_name) (gsok_nil))))) (ss_cons (s_set (i := 5) sc_law.nd rfl (by first | exact .inl rfl | exact .inr rfl) (e_def Tg.d__law_ways h__law_ways hr (by decide) rfl takes_fn (a_cons (e_var 2) (a_nil)) (argn_cons argn_nil))) (ss_cons (s_if (PW.pt (t_or (t_not (t_val (e_isi (T := "bool") (TS := "bool") (e_var 3) rfl Tg.m_isinstance rfl Tg.m_bool bt_bool (by decide) (by decide)))) (t_or (t_cmp (op_ne_ok hr.units) (e_var 3) (e_cmp (op_gt_ok hr.units) (e_var 5) (e_int))) (t_or1 (t_not (t_val (e_def Tg.d__law_is_tiled h__law_is_tiled hr (by decide) rfl takes_fn (a_cons (e_var 2) (a_cons (e_var 3) (a_cons (e_var 4) (a_nil)))) (argn_cons (argn_cons (argn_cons argn_nil)))))))))) (ss_one (s_ret (e_bl))) (ss_nil)) (ss_cons (s_if (PW.pt (t_or (t_cmp op_isnotB_ok (e_def Tg.d_is_tiled h_is_tiled hr (by decide) rfl takes_fn (a_cons (e_var 2) (a_cons (e_var 3) (a_cons (e_var 4) (a_nil)))) (argn_cons (argn_cons (argn_cons argn_nil)))) (e_bl)) (t_or1 (t_cmp op_isnotB_ok (e_def Tg.d_is_tiled h_is_tiled hr (by decide) rfl takes_fn (a_cons (e_var 2) (a_cons (e_not (e_var 3)) (a_cons (e_var 4) (a_nil)))) (argn_cons (argn_cons (argn_cons argn_nil)))) (e_bl))))) (ss_one (s_ret (e_bl))) (ss_nil)) (ss_one (s_ret (e_and (e_cmp op_isB_ok (e_def Tg.d_is_board h_is_board hr (by decide) rfl takes_fn (a_cons (e_var 2) (a_nil)) (argn_cons argn_nil)) (e_bl)) (e_one (e_cmp (op_eq_ok hr.units) (e_bi (op := bRepr) bRepr_ok rfl Tg.m_repr bt_repr (a_cons (e_def Tg.d_tilings h_tilings hr (by decide) rfl takes_fn (a_cons (e_var 2) (a_nil)) (argn_cons argn_nil)) (a_nil))) (e_bi (op := bRepr) bRepr_ok rfl Tg.m_repr bt_repr (a_cons (e_var 5) (a_nil)))))))))))))
theorem ok_is_number : Fn P w K mg base 1 Tg.d_is_number.a Tg.d_is_number.fd ["x"] R_is_number := w_is_number Tg
theorem ok_is_cell : Fn P w K mg base 2 Tg.d_is_cell.a Tg.d_is_cell.fd ["x"] R_is_cell := w_is_cell Tg (ok_is_number Tg)
theorem ok_are_cells : Fn P w K mg base 3 Tg.d_are_cells.a Tg.d_are_cells.fd ["x"] R_are_cells := w_are_cells Tg (ok_is_cell Tg)
theorem ok_is_board : Fn P w K mg base 4 Tg.d_is_board.a Tg.d_is_board.fd ["x"] R_is_board := w_is_board Tg (ok_are_cells Tg)
theorem ok_check_board : Fn P w K mg base 5 Tg.d_check_board.a Tg.d_check_board.fd ["x"] R_check_board := w_check_board Tg (ok_is_board Tg)
theorem ok_around : Fn P w K mg base 1 Tg.d_around.a Tg.d_around.fd ["board", "cell"] R_around := w_around Tg
theorem ok_widened : ∀ n : Nat, Fn P w K mg base (2 + n) Tg.d_widened.a Tg.d_widened.fd ["board", "cell", "mate", "met"] (R_widened n)
  | 0 => fn_ok (k := 1) Tg.d_widened.F sc_widened fun cdv A outer s H Ex hr => ss_bad
  | n + 1 => w_widened Tg (ok_around Tg) (ok_widened n)
theorem ok_dominoes : Fn P w K mg base 43 Tg.d_dominoes.a Tg.d_dominoes.fd ["board"] R_dominoes := w_dominoes Tg (ok_check_board Tg) (ok_widened Tg 40)
theorem ok_are_tiles : Fn P w K mg base 3 Tg.d_are_tiles.a Tg.d_are_tiles.fd ["board", "x"] R_are_tiles := w_are_tiles Tg (ok_is_cell Tg)
theorem ok_are_too_few : Fn P w K mg base 4 Tg.d_are_too_few.a Tg.d_are_too_few.fd ["board", "x"] R_are_too_few := w_are_too_few Tg (ok_around Tg) (ok_are_cells Tg)
theorem ok_is_tiled : Fn P w K mg base 6 Tg.d_is_tiled.a Tg.d_is_tiled.fd ["board", "says", "paper"] R_is_tiled := w_is_tiled Tg (ok_check_board Tg) (ok_are_tiles Tg) (ok_are_too_few Tg)
theorem ok_tilings : Fn P w K mg base 6 Tg.d_tilings.a Tg.d_tilings.fd ["board"] R_tilings := w_tilings Tg (ok_check_board Tg) (ok_around Tg)
theorem ok__law_box {scr : OScr} (ho : scr.Ok K) : Fn P w K mg base 1 Tg.d__law_box.a Tg.d__law_box.fd ["script"] (R__law_box scr) := w__law_box Tg ho
theorem ok__law_take : Fn P w K mg base 1 Tg.d__law_take.a Tg.d__law_take.fd ["box", "m"] R__law_take := w__law_take Tg
theorem ok__law_whole : Fn P w K mg base 1 Tg.d__law_whole.a Tg.d__law_whole.fd ["x"] R__law_whole := w__law_whole Tg
theorem ok__law_board : Fn P w K mg base 2 Tg.d__law_board.a Tg.d__law_board.fd ["box", "most"] R__law_board := w__law_board Tg (ok__law_take Tg)
theorem ok__law_beside : Fn P w K mg base 1 Tg.d__law_beside.a Tg.d__law_beside.fd ["board", "cell"] R__law_beside := w__law_beside Tg
theorem ok__law_ways : ∀ n : Nat, Fn P w K mg base (1 + n) Tg.d__law_ways.a Tg.d__law_ways.fd ["cells"] (R__law_ways n)
  | 0 => fn_ok (k := 0) Tg.d__law_ways.F sc__law_ways fun cdv A outer s H Ex hr => ss_bad
  | n + 1 => w__law_ways Tg (ok__law_ways n)
theorem ok__law_is_tiled : Fn P w K mg base 2 Tg.d__law_is_tiled.a Tg.d__law_is_tiled.fd ["board", "says", "x"] R__law_is_tiled := w__law_is_tiled Tg (ok__law_beside Tg) (ok__law_whole Tg)
theorem ok_law {scr : OScr} (ho : scr.Ok K) : Fn P w K mg base 44 Tg.d_law.a Tg.d_law.fd ["script"] (R_law scr) := w_law Tg (ok__law_box Tg ho) (ok__law_board Tg) (ok_dominoes Tg) (ok__law_ways Tg 40) (ok__law_is_tiled Tg) (ok_is_tiled Tg) (ok_is_board Tg) (ok_tilings Tg)
end
def Tx.of {K : PySem.W.Frag} {mg : Str → Option Value} {h : Heap} (X : K.In h) (G : h.Ns mainGlobals mg)
    {f0 : Addr} {od0 an0 : Option Addr} {sl0 : Array (Option Value)} {oc0 kV0 dc0 pm0 cd0 ct0 : Value}
    {f1 : Addr} {od1 an1 : Option Addr} {sl1 : Array (Option Value)} {oc1 kV1 dc1 pm1 cd1 ct1 : Value}
    {f2 : Addr} {od2 an2 : Option Addr} {sl2 : Array (Option Value)} {oc2 kV2 dc2 pm2 cd2 ct2 : Value}
    {f3 : Addr} {od3 an3 : Option Addr} {sl3 : Array (Option Value)} {oc3 kV3 dc3 pm3 cd3 ct3 : Value}
    {f4 : Addr} {od4 an4 : Option Addr} {sl4 : Array (Option Value)} {oc4 kV4 dc4 pm4 cd4 ct4 : Value}
    {f5 : Addr} {od5 an5 : Option Addr} {sl5 : Array (Option Value)} {oc5 kV5 dc5 pm5 cd5 ct5 : Value}
    {f6 : Addr} {od6 an6 : Option Addr} {sl6 : Array (Option Value)} {oc6 kV6 dc6 pm6 cd6 ct6 : Value}
    {f7 : Addr} {od7 an7 : Option Addr} {sl7 : Array (Option Value)} {oc7 kV7 dc7 pm7 cd7 ct7 : Value}
    {f8 : Addr} {od8 an8 : Option Addr} {sl8 : Array (Option Value)} {oc8 kV8 dc8 pm8 cd8 ct8 : Value}
    {f9 : Addr} {od9 an9 : Option Addr} {sl9 : Array (Option Value)} {oc9 kV9 dc9 pm9 cd9 ct9 : Value}
    {f10 : Addr} {od10 an10 : Option Addr} {sl10 : Array (Option Value)} {oc10 kV10 dc10 pm10 cd10 ct10 : Value}
    {f11 : Addr} {od11 an11 : Option Addr} {sl11 : Array (Option Value)} {oc11 kV11 dc11 pm11 cd11 ct11 : Value}
    {f12 : Addr} {od12 an12 : Option Addr} {sl12 : Array (Option Value)} {oc12 kV12 dc12 pm12 cd12 ct12 : Value}
    {f13 : Addr} {od13 an13 : Option Addr} {sl13 : Array (Option Value)} {oc13 kV13 dc13 pm13 cd13 ct13 : Value}
    {f14 : Addr} {od14 an14 : Option Addr} {sl14 : Array (Option Value)} {oc14 kV14 dc14 pm14 cd14 ct14 : Value}
    {f15 : Addr} {od15 an15 : Option Addr} {sl15 : Array (Option Value)} {oc15 kV15 dc15 pm15 cd15 ct15 : Value}
    {f16 : Addr} {od16 an16 : Option Addr} {sl16 : Array (Option Value)} {oc16 kV16 dc16 pm16 cd16 ct16 : Value}
    {f17 : Addr} {od17 an17 : Option Addr} {sl17 : Array (Option Value)} {oc17 kV17 dc17 pm17 cd17 ct17 : Value}
    {f18 : Addr} {od18 an18 : Option Addr} {sl18 : Array (Option Value)} {oc18 kV18 dc18 pm18 cd18 ct18 : Value}
    {f19 : Addr} {od19 an19 : Option Addr} {sl19 : Array (Option Value)} {oc19 kV19 dc19 pm19 cd19 ct19 : Value}
    {t_MOST_CELLS : Tok}
    {C_BadShape : Addr}
    {C_EdgeError : Addr}
    (a0 : PySem.W.nsIn K mainGlobals "is_number" = some (some (.ref f0))) (l0 : K.lookup f0 = some ⟨oc0, od0, .func (PySem.W.fnOf "is_number" "is_number" (defArgs st_is_number) (defBody st_is_number) (defScope st_is_number) .none kV0 dc0 pm0 an0 cd0 ct0), sl0⟩) (c0 : PySem.W.codeIn K cd0 "is_number" = true) (k0 : PySem.W.keepIn K (.ref f0) = true)
    (a1 : PySem.W.nsIn K mainGlobals "is_cell" = some (some (.ref f1))) (l1 : K.lookup f1 = some ⟨oc1, od1, .func (PySem.W.fnOf "is_cell" "is_cell" (defArgs st_is_cell) (defBody st_is_cell) (defScope st_is_cell) .none kV1 dc1 pm1 an1 cd1 ct1), sl1⟩) (c1 : PySem.W.codeIn K cd1 "is_cell" = true) (k1 : PySem.W.keepIn K (.ref f1) = true)
    (a2 : PySem.W.nsIn K mainGlobals "are_cells" = some (some (.ref f2))) (l2 : K.lookup f2 = some ⟨oc2, od2, .func (PySem.W.fnOf "are_cells" "are_cells" (defArgs st_are_cells) (defBody st_are_cells) (defScope st_are_cells) .none kV2 dc2 pm2 an2 cd2 ct2), sl2⟩) (c2 : PySem.W.codeIn K cd2 "are_cells" = true) (k2 : PySem.W.keepIn K (.ref f2) = true)
    (a3 : PySem.W.nsIn K mainGlobals "is_board" = some (some (.ref f3))) (l3 : K.lookup f3 = some ⟨oc3, od3, .func (PySem.W.fnOf "is_board" "is_board" (defArgs st_is_board) (defBody st_is_board) (defScope st_is_board) .none kV3 dc3 pm3 an3 cd3 ct3), sl3⟩) (c3 : PySem.W.codeIn K cd3 "is_board" = true) (k3 : PySem.W.keepIn K (.ref f3) = true)
    (a4 : PySem.W.nsIn K mainGlobals "check_board" = some (some (.ref f4))) (l4 : K.lookup f4 = some ⟨oc4, od4, .func (PySem.W.fnOf "check_board" "check_board" (defArgs st_check_board) (defBody st_check_board) (defScope st_check_board) .none kV4 dc4 pm4 an4 cd4 ct4), sl4⟩) (c4 : PySem.W.codeIn K cd4 "check_board" = true) (k4 : PySem.W.keepIn K (.ref f4) = true)
    (a5 : PySem.W.nsIn K mainGlobals "around" = some (some (.ref f5))) (l5 : K.lookup f5 = some ⟨oc5, od5, .func (PySem.W.fnOf "around" "around" (defArgs st_around) (defBody st_around) (defScope st_around) .none kV5 dc5 pm5 an5 cd5 ct5), sl5⟩) (c5 : PySem.W.codeIn K cd5 "around" = true) (k5 : PySem.W.keepIn K (.ref f5) = true)
    (a6 : PySem.W.nsIn K mainGlobals "widened" = some (some (.ref f6))) (l6 : K.lookup f6 = some ⟨oc6, od6, .func (PySem.W.fnOf "widened" "widened" (defArgs st_widened) (defBody st_widened) (defScope st_widened) .none kV6 dc6 pm6 an6 cd6 ct6), sl6⟩) (c6 : PySem.W.codeIn K cd6 "widened" = true) (k6 : PySem.W.keepIn K (.ref f6) = true)
    (a7 : PySem.W.nsIn K mainGlobals "dominoes" = some (some (.ref f7))) (l7 : K.lookup f7 = some ⟨oc7, od7, .func (PySem.W.fnOf "dominoes" "dominoes" (defArgs st_dominoes) (defBody st_dominoes) (defScope st_dominoes) .none kV7 dc7 pm7 an7 cd7 ct7), sl7⟩) (c7 : PySem.W.codeIn K cd7 "dominoes" = true) (k7 : PySem.W.keepIn K (.ref f7) = true)
    (a8 : PySem.W.nsIn K mainGlobals "are_tiles" = some (some (.ref f8))) (l8 : K.lookup f8 = some ⟨oc8, od8, .func (PySem.W.fnOf "are_tiles" "are_tiles" (defArgs st_are_tiles) (defBody st_are_tiles) (defScope st_are_tiles) .none kV8 dc8 pm8 an8 cd8 ct8), sl8⟩) (c8 : PySem.W.codeIn K cd8 "are_tiles" = true) (k8 : PySem.W.keepIn K (.ref f8) = true)
    (a9 : PySem.W.nsIn K mainGlobals "are_too_few" = some (some (.ref f9))) (l9 : K.lookup f9 = some ⟨oc9, od9, .func (PySem.W.fnOf "are_too_few" "are_too_few" (defArgs st_are_too_few) (defBody st_are_too_few) (defScope st_are_too_few) .none kV9 dc9 pm9 an9 cd9 ct9), sl9⟩) (c9 : PySem.W.codeIn K cd9 "are_too_few" = true) (k9 : PySem.W.keepIn K (.ref f9) = true)
    (a10 : PySem.W.nsIn K mainGlobals "is_tiled" = some (some (.ref f10))) (l10 : K.lookup f10 = some ⟨oc10, od10, .func (PySem.W.fnOf "is_tiled" "is_tiled" (defArgs st_is_tiled) (defBody st_is_tiled) (defScope st_is_tiled) .none kV10 dc10 pm10 an10 cd10 ct10), sl10⟩) (c10 : PySem.W.codeIn K cd10 "is_tiled" = true) (k10 : PySem.W.keepIn K (.ref f10) = true)
    (a11 : PySem.W.nsIn K mainGlobals "tilings" = some (some (.ref f11))) (l11 : K.lookup f11 = some ⟨oc11, od11, .func (PySem.W.fnOf "tilings" "tilings" (defArgs st_tilings) (defBody st_tilings) (defScope st_tilings) .none kV11 dc11 pm11 an11 cd11 ct11), sl11⟩) (c11 : PySem.W.codeIn K cd11 "tilings" = true) (k11 : PySem.W.keepIn K (.ref f11) = true)
    (a12 : PySem.W.nsIn K mainGlobals "_law_box" = some (some (.ref f12))) (l12 : K.lookup f12 = some ⟨oc12, od12, .func (PySem.W.fnOf "_law_box" "_law_box" (defArgs st__law_box) (defBody st__law_box) (defScope st__law_box) .none kV12 dc12 pm12 an12 cd12 ct12), sl12⟩) (c12 : PySem.W.codeIn K cd12 "_law_box" = true) (k12 : PySem.W.keepIn K (.ref f12) = true)
    (a13 : PySem.W.nsIn K mainGlobals "_law_take" = some (some (.ref f13))) (l13 : K.lookup f13 = some ⟨oc13, od13, .func (PySem.W.fnOf "_law_take" "_law_take" (defArgs st__law_take) (defBody st__law_take) (defScope st__law_take) .none kV13 dc13 pm13 an13 cd13 ct13), sl13⟩) (c13 : PySem.W.codeIn K cd13 "_law_take" = true) (k13 : PySem.W.keepIn K (.ref f13) = true)
    (a14 : PySem.W.nsIn K mainGlobals "_law_whole" = some (some (.ref f14))) (l14 : K.lookup f14 = some ⟨oc14, od14, .func (PySem.W.fnOf "_law_whole" "_law_whole" (defArgs st__law_whole) (defBody st__law_whole) (defScope st__law_whole) .none kV14 dc14 pm14 an14 cd14 ct14), sl14⟩) (c14 : PySem.W.codeIn K cd14 "_law_whole" = true) (k14 : PySem.W.keepIn K (.ref f14) = true)
    (a15 : PySem.W.nsIn K mainGlobals "_law_board" = some (some (.ref f15))) (l15 : K.lookup f15 = some ⟨oc15, od15, .func (PySem.W.fnOf "_law_board" "_law_board" (defArgs st__law_board) (defBody st__law_board) (defScope st__law_board) .none kV15 dc15 pm15 an15 cd15 ct15), sl15⟩) (c15 : PySem.W.codeIn K cd15 "_law_board" = true) (k15 : PySem.W.keepIn K (.ref f15) = true)
    (a16 : PySem.W.nsIn K mainGlobals "_law_beside" = some (some (.ref f16))) (l16 : K.lookup f16 = some ⟨oc16, od16, .func (PySem.W.fnOf "_law_beside" "_law_beside" (defArgs st__law_beside) (defBody st__law_beside) (defScope st__law_beside) .none kV16 dc16 pm16 an16 cd16 ct16), sl16⟩) (c16 : PySem.W.codeIn K cd16 "_law_beside" = true) (k16 : PySem.W.keepIn K (.ref f16) = true)
    (a17 : PySem.W.nsIn K mainGlobals "_law_ways" = some (some (.ref f17))) (l17 : K.lookup f17 = some ⟨oc17, od17, .func (PySem.W.fnOf "_law_ways" "_law_ways" (defArgs st__law_ways) (defBody st__law_ways) (defScope st__law_ways) .none kV17 dc17 pm17 an17 cd17 ct17), sl17⟩) (c17 : PySem.W.codeIn K cd17 "_law_ways" = true) (k17 : PySem.W.keepIn K (.ref f17) = true)
    (a18 : PySem.W.nsIn K mainGlobals "_law_is_tiled" = some (some (.ref f18))) (l18 : K.lookup f18 = some ⟨oc18, od18, .func (PySem.W.fnOf "_law_is_tiled" "_law_is_tiled" (defArgs st__law_is_tiled) (defBody st__law_is_tiled) (defScope st__law_is_tiled) .none kV18 dc18 pm18 an18 cd18 ct18), sl18⟩) (c18 : PySem.W.codeIn K cd18 "_law_is_tiled" = true) (k18 : PySem.W.keepIn K (.ref f18) = true)
    (a19 : PySem.W.nsIn K mainGlobals "law" = some (some (.ref f19))) (l19 : K.lookup f19 = some ⟨oc19, od19, .func (PySem.W.fnOf "law" "law" (defArgs st_law) (defBody st_law) (defScope st_law) .none kV19 dc19 pm19 an19 cd19 ct19), sl19⟩) (c19 : PySem.W.codeIn K cd19 "law" = true) (k19 : PySem.W.keepIn K (.ref f19) = true)
    (z_abs : PySem.W.nsIn K mainGlobals "abs" = some none)
    (z_all : PySem.W.nsIn K mainGlobals "all" = some none)
    (z_bool : PySem.W.nsIn K mainGlobals "bool" = some none)
    (z_int : PySem.W.nsIn K mainGlobals "int" = some none)
    (z_isinstance : PySem.W.nsIn K mainGlobals "isinstance" = some none)
    (z_len : PySem.W.nsIn K mainGlobals "len" = some none)
    (z_max : PySem.W.nsIn K mainGlobals "max" = some none)
    (z_min : PySem.W.nsIn K mainGlobals "min" = some none)
    (z_range : PySem.W.nsIn K mainGlobals "range" = some none)
    (z_repr : PySem.W.nsIn K mainGlobals "repr" = some none)
    (z_set : PySem.W.nsIn K mainGlobals "set" = some none)
    (z_sorted : PySem.W.nsIn K mainGlobals "sorted" = some none)
    (z_sum : PySem.W.nsIn K mainGlobals "sum" = some none)
    (z_tuple : PySem.W.nsIn K mainGlobals "tuple" = some none)
    (g_MOST_CELLS : PySem.W.nsIn K mainGlobals "MOST_CELLS" = some (some (.int 40 t_MOST_CELLS)))
    (xa_BadShape : PySem.W.nsIn K mainGlobals "BadShape" = some (some (.ref C_BadShape)))
    (xa_EdgeError : PySem.W.nsIn K mainGlobals "EdgeError" = some (some (.ref C_EdgeError)))
    (xy_BadShape : ClsK K C_BadShape (.ref C_EdgeError :: veB))
    (xy_EdgeError : ClsK K C_EdgeError (veB))
    (xk_BadShape : PySem.W.keepIn K (.ref C_BadShape) = true) (xb_BadShape : PySem.W.subIn K (.ref C_BadShape) (.type "BaseException") = some true) (xt_BadShape : PySem.W.typeIn K (.ref C_BadShape) = some (.type "type")) (xd_BadShape : PySem.W.hasDictIn K C_BadShape = true) : Tx K mg where
  d_is_number := DefT.of X G a0 l0 c0 k0 (fun us hl => match us, hl with | [_], _ => rfl)
  d_is_cell := DefT.of X G a1 l1 c1 k1 (fun us hl => match us, hl with | [_], _ => rfl)
  d_are_cells := DefT.of X G a2 l2 c2 k2 (fun us hl => match us, hl with | [_], _ => rfl)
  d_is_board := DefT.of X G a3 l3 c3 k3 (fun us hl => match us, hl with | [_], _ => rfl)
  d_check_board := DefT.of X G a4 l4 c4 k4 (fun us hl => match us, hl with | [_], _ => rfl)
  d_around := DefT.of X G a5 l5 c5 k5 (fun us hl => match us, hl with | [_, _], _ => rfl)
  d_widened := DefT.of X G a6 l6 c6 k6 (fun us hl => match us, hl with | [_, _, _, _], _ => rfl)
  d_dominoes := DefT.of X G a7 l7 c7 k7 (fun us hl => match us, hl with | [_], _ => rfl)
  d_are_tiles := DefT.of X G a8 l8 c8 k8 (fun us hl => match us, hl with | [_, _], _ => rfl)
  d_are_too_few := DefT.of X G a9 l9 c9 k9 (fun us hl => match us, hl with | [_, _], _ => rfl)
  d_is_tiled := DefT.of X G a10 l10 c10 k10 (fun us hl => match us, hl with | [_, _, _], _ => rfl)
  d_tilings := DefT.of X G a11 l11 c11 k11 (fun us hl => match us, hl with | [_], _ => rfl)
  d__law_box := DefT.of X G a12 l12 c12 k12 (fun us hl => match us, hl with | [_], _ => rfl)
  d__law_take := DefT.of X G a13 l13 c13 k13 (fun us hl => match us, hl with | [_, _], _ => rfl)
  d__law_whole := DefT.of X G a14 l14 c14 k14 (fun us hl => match us, hl with | [_], _ => rfl)
  d__law_board := DefT.of X G a15 l15 c15 k15 (fun us hl => match us, hl with | [_, _], _ => rfl)
  d__law_beside := DefT.of X G a16 l16 c16 k16 (fun us hl => match us, hl with | [_, _], _ => rfl)
  d__law_ways := DefT.of X G a17 l17 c17 k17 (fun us hl => match us, hl with | [_], _ => rfl)
  d__law_is_tiled := DefT.of X G a18 l18 c18 k18 (fun us hl => match us, hl with | [_, _, _], _ => rfl)
  d_law := DefT.of X G a19 l19 c19 k19 (fun us hl => match us, hl with | [_], _ => rfl)
  m_abs := PySem.W.mg_none_of X G z_abs
  m_all := PySem.W.mg_none_of X G z_all
  m_bool := PySem.W.mg_none_of X G z_bool
  m_int := PySem.W.mg_none_of X G z_int
  m_isinstance := PySem.W.mg_none_of X G z_isinstance
  m_len := PySem.W.mg_none_of X G z_len
  m_max := PySem.W.mg_none_of X G z_max
  m_min := PySem.W.mg_none_of X G z_min
  m_range := PySem.W.mg_none_of X G z_range
  m_repr := PySem.W.mg_none_of X G z_repr
  m_set := PySem.W.mg_none_of X G z_set
  m_sorted := PySem.W.mg_none_of X G z_sorted
  m_sum := PySem.W.mg_none_of X G z_sum
  m_tuple := PySem.W.mg_none_of X G z_tuple
  gi_MOST_CELLS := ⟨_, PySem.W.mg_of X G g_MOST_CELLS⟩
  c_BadShape := C_BadShape
  x_BadShape := ExcT.of X G xa_BadShape (xy_BadShape.exc (xy_EdgeError.tail tail_ve)) xk_BadShape xb_BadShape xt_BadShape
theorem fin {P : Program} {w : World} {K : PySem.W.Frag} {mg : Str → Option Value} {fa : Addr} (plain : ∀ (ns : List Int) (o : OScr) (d : D), ScrIn ns o d → ns.length ≤ 63 → ∃ m, R_law o [d] [] = .ok (.bl true) m) (hmg : mg "law" = some (.ref fa)) (T : Tx K mg) : ∃ fd : FuncData, (∀ (s : Shared) (v : Value), BindsTo s fd ⟨[v], []⟩ [("script", v)]) ∧ ∀ base : Heap, K.In base → base.Ns mainGlobals mg → FnOk P w K mg base (L2.CX P w) 44 fa fd ["script"] (spLawD K) := by
  have ef := Option.some.inj (hmg.symm.trans T.d_law.g)
  cases ef
  exact ⟨T.d_law.fd, fun s v => .of_eq (T.d_law.ba [v] rfl), fun base _ _ => law_sp (fun o ho => ok_law T ho) plain⟩
end K80
open PySem PySem.W PyProof.Rows
set_option maxHeartbeats 0 in
theorem PySem.Challenge.cw_straightedge_k79_dominoes_or_too_few_holds : PySem.Challenge.rw_straightedge_k79_dominoes_or_too_few.Holds := by
  w_on; o_law; k_head; (case hw => w_witness2)
  k_fill
  refine L2.walk_of (l := PySem.Challenge.rw_straightedge_k79_dominoes_or_too_few) (n := 63) (k := 44) (x := "script") (CX := fun w => L2.CX PySem.Challenge.rw_straightedge_k79_dominoes_or_too_few.prog w) (sp := fun w => PD.spLawD _) rfl (by decide) rfl ⟨rfl, by decide, by decide⟩ (fun w h Y => PySem.W.kIn_of Y) ?F (fun _ _ a ns hl _ hS => ⟨a, ns, rfl, hS, hl, fun _ => rfl⟩) (fun _ _ _ _ _ h => PD.cx_no h)
  case F =>
    intro w mg fa h KX G hmg
    refine' K80.fin K80.plain hmg (K80.Tx.of KX G ?a0 ?l0 ?c0 ?k0 ?a1 ?l1 ?c1 ?k1 ?a2 ?l2 ?c2 ?k2 ?a3 ?l3 ?c3 ?k3 ?a4 ?l4 ?c4 ?k4 ?a5 ?l5 ?c5 ?k5 ?a6 ?l6 ?c6 ?k6 ?a7 ?l7 ?c7 ?k7 ?a8 ?l8 ?c8 ?k8 ?a9 ?l9 ?c9 ?k9 ?a10 ?l10 ?c10 ?k10 ?a11 ?l11 ?c11 ?k11 ?a12 ?l12 ?c12 ?k12 ?a13 ?l13 ?c13 ?k13 ?a14 ?l14 ?c14 ?k14 ?a15 ?l15 ?c15 ?k15 ?a16 ?l16 ?c16 ?k16 ?a17 ?l17 ?c17 ?k17 ?a18 ?l18 ?c18 ?k18 ?a19 ?l19 ?c19 ?k19 ?z_abs ?z_all ?z_bool ?z_int ?z_isinstance ?z_len ?z_max ?z_min ?z_range ?z_repr ?z_set ?z_sorted ?z_sum ?z_tuple ?g_MOST_CELLS ?xa_BadShape ?xa_EdgeError ?xy_BadShape ?xy_EdgeError ?xk_BadShape ?xb_BadShape ?xt_BadShape ?xd_BadShape)
    (case a0 => k_is); (case l0 => k_is); (case c0 => k_is); (case k0 => k_is); (case a1 => k_is); (case l1 => k_is); (case c1 => k_is); (case k1 => k_is); (case a2 => k_is); (case l2 => k_is); (case c2 => k_is); (case k2 => k_is); (case a3 => k_is); (case l3 => k_is); (case c3 => k_is); (case k3 => k_is); (case a4 => k_is); (case l4 => k_is); (case c4 => k_is); (case k4 => k_is); (case a5 => k_is); (case l5 => k_is); (case c5 => k_is); (case k5 => k_is); (case a6 => k_is); (case l6 => k_is); (case c6 => k_is); (case k6 => k_is); (case a7 => k_is); (case l7 => k_is); (case c7 => k_is); (case k7 => k_is); (case a8 => k_is); (case l8 => k_is); (case c8 => k_is); (case k8 => k_is); (case a9 => k_is); (case l9 => k_is); (case c9 => k_is); (case k9 => k_is); (case a10 => k_is); (case l10 => k_is); (case c10 => k_is); (case k10 => k_is); (case a11 => k_is); (case l11 => k_is); (case c11 => k_is); (case k11 => k_is); (case a12 => k_is); (case l12 => k_is); (case c12 => k_is); (case k12 => k_is); (case a13 => k_is); (case l13 => k_is); (case c13 => k_is); (case k13 => k_is); (case a14 => k_is); (case l14 => k_is); (case c14 => k_is); (case k14 => k_is); (case a15 => k_is); (case l15 => k_is); (case c15 => k_is); (case k15 => k_is); (case a16 => k_is); (case l16 => k_is); (case c16 => k_is); (case k16 => k_is); (case a17 => k_is); (case l17 => k_is); (case c17 => k_is); (case k17 => k_is); (case a18 => k_is); (case l18 => k_is); (case c18 => k_is); (case k18 => k_is); (case a19 => k_is); (case l19 => k_is); (case c19 => k_is); (case k19 => k_is); (case z_abs => k_is); (case z_all => k_is); (case z_bool => k_is); (case z_int => k_is); (case z_isinstance => k_is); (case z_len => k_is); (case z_max => k_is); (case z_min => k_is); (case z_range => k_is); (case z_repr => k_is); (case z_set => k_is); (case z_sorted => k_is); (case z_sum => k_is); (case z_tuple => k_is); (case g_MOST_CELLS => k_is); (case xa_BadShape => k_is); (case xa_EdgeError => k_is); (case xy_BadShape => (refine' PD.ClsK.mk' ?qx ?qm ?qs ?qd ?qn ?qo ?qi; (case qx => k_is); (case qm => rfl); (case qs => rfl); (case qd => rfl); (case qn => k_is); (case qo => rfl); (case qi => k_is))); (case xy_EdgeError => (refine' PD.ClsK.mk' ?qx ?qm ?qs ?qd ?qn ?qo ?qi; (case qx => k_is); (case qm => rfl); (case qs => rfl); (case qd => rfl); (case qn => k_is); (case qo => rfl); (case qi => k_is))); (case xk_BadShape => k_is); (case xb_BadShape => k_is); (case xt_BadShape => k_is); (case xd_BadShape => k_is)
