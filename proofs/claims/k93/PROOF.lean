import PyProof.Rows.All
import Wide.All
import OpenK.AllK
import Wide.FinOn
import HandS.ForMost
import HandS.ForExc
import HandS.IsInst
import HandS.Flow
import HandS.Style
import HandS.TupAny
import HandS.TupLe
import HandS.Wide
import HandS.Walk
import HandS.Zip
import HandS.CallSlots
import HandS.TryMany
import HandS.WordsExc
import HandS.Rev
import HandS.Iter
import HandS.TupMul
import HandS.Sort
import HandS.SortOrd
import HandS.SortRule
import HandS.More
import KE.SortData
import KE.DataMinMax
import HandS.ExcIs
import PySem.Challenge.RW_straightedge_k93_rows_with_fewer_corners
set_option Elab.async false
set_option linter.all false
set_option exponentiation.threshold 10000
set_option maxRecDepth 100000
set_option maxHeartbeats 4000000
namespace PD
open PySem PySem.Spec L2
open PyProof.Rows hiding St

/-! ### data -/
inductive D where
  | non | bl (b : Bool) | int (i : Int) | str (x : Str) | tup (xs : List D) | lst (xs : List D) | ref (n : Nat) | scr (xs : List D) | adr (a : Addr)
  deriving Inhabited

inductive MO where
  | lst (xs : List D)
  | dct (kvs : List (List D × D))
  deriving Inhabited
abbrev Mem := List MO

inductive Res (α : Type) where
  | ok (a : α) (m : Mem) | exc (c : Str) (m : Mem) | bad
namespace Res
variable {α β : Type}
def bind (r : Res α) (f : α → Mem → Res β) : Res β := match r with
  | ok a m => f a m
  | exc c m => exc c m
  | bad => bad
@[simp] theorem bind_ok (a : α) (m : Mem) (f : α → Mem → Res β) : (ok a m).bind f = f a m := rfl
@[simp] theorem bind_exc (c : Str) (m : Mem) (f : α → Mem → Res β) : (exc c m : Res α).bind f = exc c m := rfl
@[simp] theorem bind_bad (f : α → Mem → Res β) : (bad : Res α).bind f = bad := rfl
end Res

/-! ### how data lies in the heap -/
structure Zn where
  ρ : List Addr
  φ : List Addr
def Zn.out (Z : Zn) (a : Addr) : Prop := a ∉ Z.ρ ∧ a ∉ Z.φ

mutual
def Rep (H : Hp) (Z : Zn) : D → V → Prop
  | .non, v => v = .non
  | .bl b, v => v = .bl b
  | .int i, v => v = .int i
  | .str x, v => v = .str x
  | .tup xs, v => ∃ a vs, v = .ref a ∧ Rd H a (.tup vs) ∧ Z.out a ∧ Reps H Z xs vs
  | .lst xs, v => ∃ a vs, v = .ref a ∧ H a = some (.lst vs) ∧ Z.out a ∧ Reps H Z xs vs
  | .ref n, v => ∃ a, Z.ρ[n]? = some a ∧ v = .ref a
  | .scr xs, v => ∃ a vs, v = .ref a ∧ Rd H a (.lst vs) ∧ Z.out a ∧ Reps H Z xs vs
  | .adr a, v => v = .ref a
def Reps (H : Hp) (Z : Zn) : List D → List V → Prop
  | [], vs => vs = []
  | x :: xs, vs => ∃ v r, vs = v :: r ∧ Rep H Z x v ∧ Reps H Z xs r
end

/-- what stands stays, the memory's objects set aside -/
structure Ext (Z : Zn) (H : Hp) (Z' : Zn) (H' : Hp) : Prop where
  phi1 : ∀ a, a ∈ Z.φ → a ∈ Z'.φ
  phi2 : ∀ a, a ∈ Z'.φ → a ∈ Z.φ ∨ H a = none
  pre : ∃ more, Z'.ρ = Z.ρ ++ more
  keep : ∀ a o, H a = some o → a ∉ Z.ρ → H' a = some o ∧ a ∉ Z'.ρ
  more : ∀ a o, H a = some o → ∃ o', H' a = some o'
theorem Ext.refl (Z : Zn) (H : Hp) : Ext Z H Z H := ⟨fun _ h => h, fun _ h => .inl h, ⟨[], by simp⟩, fun a o h n => ⟨h, n⟩, fun a o h => ⟨o, h⟩⟩
theorem Ext.trans {Z Z1 Z2 : Zn} {H H1 H2 : Hp} (a : Ext Z H Z1 H1) (b : Ext Z1 H1 Z2 H2) : Ext Z H Z2 H2 where
  phi1 := fun c h => b.phi1 c (a.phi1 c h)
  phi2 := fun c h => by
    rcases b.phi2 c h with h | h
    · exact a.phi2 c h
    · refine .inr ?_
      cases e : H c with
      | none => rfl
      | some o =>
        obtain ⟨o', e'⟩ := a.more c o e
        rw [h] at e'; cases e'
  pre := by
    obtain ⟨m1, e1⟩ := a.pre
    obtain ⟨m2, e2⟩ := b.pre
    exact ⟨m1 ++ m2, by rw [e2, e1, List.append_assoc]⟩
  keep := fun c o h n => by
    obtain ⟨h1, n1⟩ := a.keep c o h n
    exact b.keep c o h1 n1
  more := fun c o h => by
    obtain ⟨o1, h1⟩ := a.more c o h
    exact b.more c o1 h1
theorem Rd.there {H : Hp} {a : Addr} {u : HO} (r : Rd H a u) : ∃ o, H a = some o := by
  rcases r with r | ⟨o, r⟩
  · exact ⟨_, r⟩
  · exact ⟨_, r⟩
theorem Rd.ext {Z Z' : Zn} {H H' : Hp} {a : Addr} {u : HO} (x : Ext Z H Z' H') (r : Rd H a u) (n : Z.out a) : Rd H' a u ∧ Z'.out a := by
  have n2 : a ∉ Z'.φ := fun h => by
    rcases x.phi2 a h with h | h
    · exact n.2 h
    · obtain ⟨o, e⟩ := Rd.there r
      rw [h] at e; cases e
  rcases r with r | ⟨o, r⟩
  · obtain ⟨h1, h2⟩ := x.keep a _ r n.1
    exact ⟨.inl h1, h2, n2⟩
  · obtain ⟨h1, h2⟩ := x.keep a _ r n.1
    exact ⟨.inr ⟨o, h1⟩, h2, n2⟩
mutual
theorem Rep.ext {Z Z' : Zn} {H H' : Hp} (x : Ext Z H Z' H') : ∀ (d : D) (v : V), Rep H Z d v → Rep H' Z' d v
  | .non, v, h => by simp only [Rep] at h ⊢; exact h
  | .bl b, v, h => by simp only [Rep] at h ⊢; exact h
  | .int i, v, h => by simp only [Rep] at h ⊢; exact h
  | .str s, v, h => by simp only [Rep] at h ⊢; exact h
  | .tup xs, v, h => by
    simp only [Rep] at h ⊢
    obtain ⟨a, vs, e, r, n, rs⟩ := h
    obtain ⟨r', n'⟩ := Rd.ext x r n
    exact ⟨a, vs, e, r', n', Reps.ext x xs vs rs⟩
  | .lst xs, v, h => by
    simp only [Rep] at h ⊢
    obtain ⟨a, vs, e, r, n, rs⟩ := h
    obtain ⟨r', n'⟩ := Rd.ext x (.inl r) n
    exact ⟨a, vs, e, (x.keep a _ r n.1).1, n', Reps.ext x xs vs rs⟩
  | .adr a, v, h => by simp only [Rep] at h ⊢; exact h
  | .scr xs, v, h => by
    simp only [Rep] at h ⊢
    obtain ⟨a, vs, e, r, n, rs⟩ := h
    obtain ⟨r', n'⟩ := Rd.ext x r n
    exact ⟨a, vs, e, r', n', Reps.ext x xs vs rs⟩
  | .ref n, v, h => by
    simp only [Rep] at h ⊢
    obtain ⟨a, e, e2⟩ := h
    obtain ⟨more, em⟩ := x.pre
    refine ⟨a, ?_, e2⟩
    rw [em, List.getElem?_append_left (List.getElem?_eq_some_iff.mp e).1]
    exact e
theorem Reps.ext {Z Z' : Zn} {H H' : Hp} (x : Ext Z H Z' H') : ∀ (ds : List D) (vs : List V), Reps H Z ds vs → Reps H' Z' ds vs
  | [], vs, h => by simp only [Reps] at h ⊢; exact h
  | d :: ds, vs, h => by
    simp only [Reps] at h ⊢
    obtain ⟨v, r, e, h1, h2⟩ := h
    exact ⟨v, r, e, Rep.ext x d v h1, Reps.ext x ds r h2⟩
end
theorem reps_len {H : Hp} {Z : Zn} : ∀ {ds : List D} {vs : List V}, Reps H Z ds vs → ds.length = vs.length
  | [], vs, h => by simp only [Reps] at h; subst h; rfl
  | d :: ds, vs, h => by
    simp only [Reps] at h
    obtain ⟨v, r, e, h1, h2⟩ := h
    subst e
    rw [List.length_cons, List.length_cons, reps_len h2]
theorem reps_get {H : Hp} {Z : Zn} : ∀ {ds : List D} {vs : List V} {i : Nat} {d : D}, Reps H Z ds vs → ds[i]? = some d → ∃ v, vs[i]? = some v ∧ Rep H Z d v
  | [], _, _, _, _, e => by simp at e
  | d :: ds, vs, i, d', h, e => by
    simp only [Reps] at h
    obtain ⟨v, r, e1, h1, h2⟩ := h
    subst e1
    cases i with
    | zero => simp at e; subst e; exact ⟨v, rfl, h1⟩
    | succ i =>
      rw [List.getElem?_cons_succ] at e ⊢
      exact reps_get h2 e
theorem reps_get' {H : Hp} {Z : Zn} {ds : List D} {vs : List V} {i : Nat} {v : V} (h : Reps H Z ds vs) (e : vs[i]? = some v) : ∃ d, ds[i]? = some d ∧ Rep H Z d v := by
  have hl := reps_len h
  have hi := (List.getElem?_eq_some_iff.mp e).1
  have hi' : i < ds.length := by omega
  obtain ⟨v', e', r⟩ := reps_get h (List.getElem?_eq_getElem hi')
  rw [e] at e'; cases e'
  exact ⟨_, List.getElem?_eq_getElem hi', r⟩
theorem reps_app {H : Hp} {Z : Zn} : ∀ {ds es : List D} {vs us : List V}, Reps H Z ds vs → Reps H Z es us → Reps H Z (ds ++ es) (vs ++ us)
  | [], es, vs, us, h, k => by simp only [Reps] at h; subst h; exact k
  | d :: ds, es, vs, us, h, k => by
    simp only [Reps] at h
    obtain ⟨v, r, e, h1, h2⟩ := h
    subst e
    show Reps H Z (d :: (ds ++ es)) (v :: (r ++ us))
    simp only [Reps]
    exact ⟨v, r ++ us, rfl, h1, reps_app h2 k⟩
theorem reps_one {H : Hp} {Z : Zn} {d : D} {v : V} (h : Rep H Z d v) : Reps H Z [d] [v] := by
  simp only [Reps]; exact ⟨v, [], rfl, h, rfl⟩
theorem reps_take {H : Hp} {Z : Zn} : ∀ {ds : List D} {vs : List V} (n : Nat), Reps H Z ds vs → Reps H Z (ds.take n) (vs.take n)
  | [], vs, n, h => by simp only [Reps] at h; subst h; simp [Reps]
  | d :: ds, vs, 0, h => by simp [Reps]
  | d :: ds, vs, n + 1, h => by
    simp only [Reps] at h
    obtain ⟨v, r, e, h1, h2⟩ := h
    subst e
    simp only [List.take_succ_cons, Reps]
    exact ⟨v, _, rfl, h1, reps_take n h2⟩
theorem reps_drop {H : Hp} {Z : Zn} : ∀ {ds : List D} {vs : List V} (n : Nat), Reps H Z ds vs → Reps H Z (ds.drop n) (vs.drop n)
  | [], vs, n, h => by simp only [Reps] at h; subst h; simp [Reps]
  | d :: ds, vs, 0, h => h
  | d :: ds, vs, n + 1, h => by
    simp only [Reps] at h
    obtain ⟨v, r, e, h1, h2⟩ := h
    subst e
    simp only [List.drop_succ_cons]
    exact reps_drop n h2
theorem reps_rev {H : Hp} {Z : Zn} : ∀ {ds : List D} {vs : List V}, Reps H Z ds vs → Reps H Z ds.reverse vs.reverse
  | [], vs, h => by simp only [Reps] at h; subst h; simp [Reps]
  | d :: ds, vs, h => by
    simp only [Reps] at h
    obtain ⟨v, r, e, h1, h2⟩ := h
    subst e
    rw [List.reverse_cons, List.reverse_cons]
    exact reps_app (reps_rev h2) (reps_one h1)
theorem reps_set {H : Hp} {Z : Zn} {d : D} {v : V} (k : Rep H Z d v) : ∀ {ds : List D} {vs : List V} (n : Nat), Reps H Z ds vs → Reps H Z (ds.set n d) (vs.set n v)
  | [], vs, n, h => by simp only [Reps] at h; subst h; simp [Reps]
  | e :: ds, vs, n, h => by
    simp only [Reps] at h
    obtain ⟨u, r, e1, h1, h2⟩ := h
    subst e1
    cases n with
    | zero => simp only [List.set_cons_zero, Reps]; exact ⟨v, r, rfl, k, h2⟩
    | succ n => simp only [List.set_cons_succ, Reps]; exact ⟨u, _, rfl, h1, reps_set k n h2⟩

/-! ### the memory -/
def keyV : D → Option Key
  | .int i => some (.inl i)
  | .str x => some (.inr x)
  | _ => none
def KRep : List D → List Key → Prop
  | [], ks => ks = []
  | d :: ds, ks => ∃ k r, ks = k :: r ∧ keyV d = some k ∧ KRep ds r
def ORep (H : Hp) (Z : Zn) : MO → Addr → Prop
  | .lst xs, a => ∃ vs, H a = some (.lst vs) ∧ Reps H Z xs vs
  | .dct kvs, a => ∃ ks : List (List Key × V), H a = some (.dT ks) ∧ Paired (fun (p : List D × D) (q : List Key × V) => KRep p.1 q.1 ∧ Rep H Z p.2 q.2) kvs ks
structure MRep (H : Hp) (Z : Zn) (m : Mem) : Prop where
  len : m.length = Z.ρ.length
  nd : Z.ρ.Nodup
  off : ∀ a ∈ Z.ρ, a ∉ Z.φ
  asd : ∀ a ∈ Z.φ, ∃ o, H a = some o
  obj : ∀ (n : Nat) (a : Addr) (o : MO), Z.ρ[n]? = some a → m[n]? = some o → ORep H Z o a
theorem ORep.there {H : Hp} {Z : Zn} {o : MO} {a : Addr} (h : ORep H Z o a) : ∃ u, H a = some u := by
  cases o with
  | lst xs => obtain ⟨vs, e, _⟩ := h; exact ⟨_, e⟩
  | dct kvs => obtain ⟨vs, e, _⟩ := h; exact ⟨_, e⟩
theorem MRep.there {H : Hp} {Z : Zn} {m : Mem} (M : MRep H Z m) {a : Addr} (h : a ∈ Z.ρ) : ∃ u, H a = some u := by
  obtain ⟨n, hn, e⟩ := List.mem_iff_getElem.mp h
  have hm : n < m.length := by rw [M.len]; exact hn
  exact (M.obj n a _ (by rw [List.getElem?_eq_getElem hn, e]) (List.getElem?_eq_getElem hm)).there

/-! ### the slots -/
abbrev Sg := List (Option D)
structure SRep (H : Hp) (Z : Zn) (σd : Sg) (σ : St) : Prop where
  len : σd.length = σ.length
  val : ∀ (i : Nat) (d : D), σd[i]? = some (some d) → ∃ v, σ[i]? = some (some v) ∧ Rep H Z d v
theorem SRep.ext {Z Z' : Zn} {H H' : Hp} {σd : Sg} {σ : St} (S : SRep H Z σd σ) (x : Ext Z H Z' H') : SRep H' Z' σd σ :=
  ⟨S.len, fun i d e => let ⟨v, e', r⟩ := S.val i d e; ⟨v, e', Rep.ext x _ _ r⟩⟩
theorem SRep.set {Z : Zn} {H : Hp} {σd : Sg} {σ : St} {d : D} {v : V} (S : SRep H Z σd σ) (i : Nat) (r : Rep H Z d v) : SRep H Z (σd.set i (some d)) (σ.set i (some v)) := by
  refine ⟨by simp [S.len], fun j d' e => ?_⟩
  by_cases h : i = j
  · subst h
    by_cases hi : i < σd.length
    · rw [List.getElem?_set_self hi] at e
      cases e
      exact ⟨v, by rw [List.getElem?_set_self (by rw [← S.len]; exact hi)], r⟩
    · rw [List.getElem?_eq_none (by simpa using hi)] at e; cases e
  · rw [List.getElem?_set_ne h] at e ⊢
    exact S.val j d' e
end PD
namespace PD
open PySem PySem.Spec L2
open PyProof.Rows hiding St

/-! ### judgements -/
abbrev EF := Sg → Mem → Res D
abbrev TF := Sg → Mem → Res Bool
abbrev AF := Sg → Mem → Res (List D)

def Fin {α : Type} (X : Cx) (W : WX) (σ : St) (H : Hp) (Z : Zn) (r : Res α) (R : α → Mem → Hp → Zn → Prop) : Prop :=
  match r with
  | .ok a m => ∀ H' Z', Ext Z H Z' H' → MRep H' Z' m → R a m H' Z'
  | .exc c m => ∀ u H' Z', X.mg c = some u → Ext Z H Z' H' → MRep H' Z' m → W u none σ H'
  | .bad => False
section
variable {X : Cx} {W : WX} {σ : St} {H : Hp} {Z : Zn} {α β : Type}
theorem Fin.mono {r : Res α} {R R' : α → Mem → Hp → Zn → Prop} (h : Fin X W σ H Z r R) (k : ∀ a m H' Z', Ext Z H Z' H' → MRep H' Z' m → R a m H' Z' → R' a m H' Z') : Fin X W σ H Z r R' := by
  cases r with
  | ok a m => exact fun H' Z' x M => k a m H' Z' x M (h H' Z' x M)
  | exc c m => exact h
  | bad => exact h
theorem Fin.shift {r : Res α} {R : α → Mem → Hp → Zn → Prop} {H1 : Hp} {Z1 : Zn} (x : Ext Z H Z1 H1) (h : Fin X W σ H Z r R) : Fin X W σ H1 Z1 r R := by
  cases r with
  | ok a m => exact fun H' Z' y M => h H' Z' (x.trans y) M
  | exc c m => exact fun u H' Z' e y M => h u H' Z' e (x.trans y) M
  | bad => exact h
theorem Fin.bind {r : Res α} {f : α → Mem → Res β} {R : β → Mem → Hp → Zn → Prop} (h : Fin X W σ H Z (r.bind f) R) : Fin X W σ H Z r fun a m H1 Z1 => Fin X W σ H1 Z1 (f a m) R := by
  cases r with
  | ok a m => exact fun H1 Z1 x M => Fin.shift x h
  | exc c m => exact h
  | bad => exact h
end

def rdE (X : Cx) (W : WX) (f : EF) : TE := fun σ H Q => ∃ Z σd m, SRep H Z σd σ ∧ MRep H Z m ∧ Fin X W σ H Z (f σd m) fun d _ H' Z' => ∀ v, Rep H' Z' d v → Q v H'
def rdT (X : Cx) (W : WX) (f : TF) : TT := fun σ H Q => ∃ Z σd m, SRep H Z σd σ ∧ MRep H Z m ∧ Fin X W σ H Z (f σd m) fun b _ H' _ => Q b H'
def rdA (X : Cx) (W : WX) (f : AF) : TA := fun σ H Q => ∃ Z σd m, SRep H Z σd σ ∧ MRep H Z m ∧ Fin X W σ H Z (f σd m) fun ds _ H' Z' => ∀ vs, Reps H' Z' ds vs → Q vs H'

abbrev E (X : Cx) (W : WX) (e : Expr) (f : EF) : Prop := PE X e (rdE X W f)
abbrev T (X : Cx) (W : WX) (e : Expr) (f : TF) : Prop := PT X e (rdT X W f)
abbrev TW (X : Cx) (W : WX) (e : Expr) (f : TF) : Prop := PW X e (rdT X W f)
abbrev AA (X : Cx) (W : WX) (es : List Expr) (f : AF) : Prop := PA X es (rdA X W f)

theorem PE.imp {X : Cx} {e : Expr} {t t' : TE} (h : PE X e t) (k : ∀ σ H Q, t' σ H Q → t σ H Q) : PE X e t' := ⟨fun pins s σ H Q I q => h.run pins s σ H Q I (k σ H Q q)⟩
theorem PT.imp {X : Cx} {e : Expr} {t t' : TT} (h : PT X e t) (k : ∀ σ H Q, t' σ H Q → t σ H Q) : PT X e t' := ⟨fun pins s σ H Q I q => h.run pins s σ H Q I (k σ H Q q)⟩
theorem PW.imp {X : Cx} {e : Expr} {t t' : TT} (h : PW X e t) (k : ∀ σ H Q, t' σ H Q → t σ H Q) : PW X e t' := ⟨fun wh pins s σ H Q I q => h.run wh pins s σ H Q I (k σ H Q q)⟩
theorem PA.imp {X : Cx} {es : List Expr} {t t' : TA} (h : PA X es t) (k : ∀ σ H Q, t' σ H Q → t σ H Q) : PA X es t' := ⟨fun pos pins s σ H Q I q => h.run pos pins s σ H Q I (k σ H Q q)⟩

/-- what an operation on data is worth: no exception -/
def FinO (H : Hp) (Z : Zn) (r : Res D) (Q : VK) : Prop :=
  match r with
  | .ok d m => ∀ H' Z' v, Ext Z H Z' H' → MRep H' Z' m → Rep H' Z' d v → Q v H'
  | _ => False
def rdO2 (op : D → D → Mem → Res D) : R2 := fun x y H Q => ∃ Z m dx dy, Rep H Z dx x ∧ Rep H Z dy y ∧ MRep H Z m ∧ FinO H Z (op dx dy m) Q
def rdO1 (op : D → Mem → Res D) : V → Hp → VK → Prop := fun x H Q => ∃ Z m dx, Rep H Z dx x ∧ MRep H Z m ∧ FinO H Z (op dx m) Q
def rdC (op : List D → Mem → Res D) : List V → Hp → VK → Prop := fun xs H Q => ∃ Z m ds, Reps H Z ds xs ∧ MRep H Z m ∧ FinO H Z (op ds m) Q
/-- operations that never raise -/
def noexc {α : Type} (r : Res α) : Res α := match r with | .exc _ _ => .bad | r => r
@[simp] theorem noexc_ok {α : Type} (a : α) (m : Mem) : noexc (.ok a m) = .ok a m := rfl
@[simp] theorem noexc_bad {α : Type} : noexc (.bad : Res α) = .bad := rfl
theorem FinO.of {X : Cx} {W : WX} {σ : St} {H : Hp} {Z : Zn} {r : Res D} {Q : VK} (h : Fin X W σ H Z (noexc r) fun d _ H' Z' => ∀ v, Rep H' Z' d v → Q v H') : FinO H Z r Q := by
  cases r with
  | ok d m => exact fun H' Z' v x M r => h H' Z' x M v r
  | exc c m => exact h
  | bad => exact h
section
variable {X : Cx} {W : WX} {pos : Pos}
theorem OpR.by {f : Value → Value → Sem Value} {r : R2} (h : ∀ x y H Q, r x y H Q → ∃ r', OpR X f r' ∧ r' x y H Q) : OpR X f r := fun pins s σ H x y v u Q I rx ry q =>
  let ⟨_, o, q'⟩ := h x y H Q q
  o pins s σ H x y v u Q I rx ry q'
theorem UnR.by {f : Value → Sem Value} {r : V → Hp → VK → Prop} (h : ∀ x H Q, r x H Q → ∃ r', UnR X f r' ∧ r' x H Q) : UnR X f r := fun pins s σ H x v Q I rx q =>
  let ⟨_, o, q'⟩ := h x H Q q
  o pins s σ H x v Q I rx q'
theorem CallR.by {f : Value} {r : List V → Hp → VK → Prop} (h : ∀ xs H Q, r xs H Q → ∃ r', CallR X f r' ∧ r' xs H Q) : CallR X f r := fun pins s σ H xs us Q I rx q =>
  let ⟨_, o, q'⟩ := h xs H Q q
  o pins s σ H xs us Q I rx q'

/-! ### names, constants -/
def eVar (i : Nat) : EF := fun σ m => match σ[i]? with | some (some d) => .ok d m | _ => .bad
def eC (d : D) : EF := fun _ m => .ok d m
theorem e_var (i : Nat) {x : Str} {pos : Pos} (hN : X.N[i]? = some x := by rfl) (hv : Vis X.env.scope x := by first | exact Or.inl rfl | exact Or.inr (Or.inl rfl) | exact Or.inr (Or.inr rfl)) (hd : (x == ("__debug__" : Str)) = false := by decide)
    (hcd : (x == ("__classdict__" : Str)) = false := by decide) : E X W (.Name x pos) (eVar i) := by
  refine PE.imp (pe_var hN hv hd hcd) fun σ H Q ⟨Z, σd, m, S, M, h⟩ => ?_
  unfold eVar at h
  split at h
  · rename_i d e
    obtain ⟨v, e', r⟩ := S.val i d e
    exact ⟨v, e', h H Z (.refl _ _) M v r⟩
  · exact h.elim
theorem e_c {e : Expr} {v : V} {d : D} (h : PE X e (tC v)) (r : ∀ H Z, Rep H Z d v) : E X W e (eC d) :=
  PE.imp h fun σ H Q ⟨Z, σd, m, S, M, h⟩ => h H Z (.refl _ _) M v (r H Z)
theorem e_int {i j pos} : E X W (.Constant (.int i) j pos) (eC (.int i)) := e_c pe_int fun _ _ => by simp only [Rep]
theorem e_bl {b j pos} : E X W (.Constant (.bool b) j pos) (eC (.bl b)) := e_c pe_bl fun _ _ => by simp only [Rep]
theorem e_non {j pos} : E X W (.Constant .none j pos) (eC .non) := e_c pe_non fun _ _ => by simp only [Rep]
theorem e_str {x j pos} : E X W (.Constant (.str x) j pos) (eC (.str x)) := e_c pe_str fun _ _ => by simp only [Rep]
theorem e_glob {x : Str} {i : Int} {t : Tok} {pos : Pos} (hg : Gl X x) (hm : X.mg x = some (.int i t)) (hd : (x == ("__debug__" : Str)) = false := by decide) : E X W (.Name x pos) (eC (.int i)) := e_c (v := .int i) (pe_glob hg hm ⟨_, rfl⟩ hd) fun _ _ => by simp only [Rep]

/-! ### operators -/
def eOp (op : D → D → Mem → Res D) (a b : EF) : EF := fun σ m => (a σ m).bind fun x m => (b σ m).bind fun y m => noexc (op x y m)
def eUn (op : D → Mem → Res D) (a : EF) : EF := fun σ m => (a σ m).bind fun x m => noexc (op x m)
variable {a b : Expr} {fa fb : EF}
theorem rd_op {op : D → D → Mem → Res D} {σ : St} {H : Hp} {Q : VK} (h : rdE X W (eOp op fa fb) σ H Q) : tOp (rdO2 op) (rdE X W fa) (rdE X W fb) σ H Q := by
  obtain ⟨Z, σd, m, S, M, h⟩ := h
  refine ⟨Z, σd, m, S, M, (Fin.bind h).mono fun x m1 H1 Z1 x1 M1 h1 v1 r1 => ?_⟩
  refine ⟨Z1, σd, m1, S.ext x1, M1, (Fin.bind h1).mono fun y m2 H2 Z2 x2 M2 h2 v2 r2 => ?_⟩
  exact ⟨Z2, m2, x, y, Rep.ext x2 _ _ r1, r2, M2, FinO.of h2⟩
theorem e_op {op : Operator} {f : D → D → Mem → Res D} (ho : OpR X (binaryOp op) (rdO2 f)) (ha : E X W a fa) (hb : E X W b fb) : E X W (.BinOp a op b pos) (eOp f fa fb) :=
  PE.imp (pe_op ho ha hb) fun _ _ _ h => rd_op h
theorem e_cmp {op : CmpOp} {f : D → D → Mem → Res D} (ho : OpR X (compareOp op) (rdO2 f)) (ha : E X W a fa) (hb : E X W b fb) (hm : behindInMarks op b = false := by first | exact nomark _ | rfl) : E X W (.Compare a [op] [b] pos) (eOp f fa fb) :=
  PE.imp (pe_cmpR ho ha hb hm) fun _ _ _ h => rd_op h
theorem e_un {op : UnaryOp} {f : D → Mem → Res D} (ho : UnR X (unaryOp op) (rdO1 f)) (ha : E X W a fa) : E X W (.UnaryOp op a pos) (eUn f fa) := by
  refine PE.imp (pe_un ho ha) fun σ H Q h => ?_
  obtain ⟨Z, σd, m, S, M, h⟩ := h
  exact ⟨Z, σd, m, S, M, (Fin.bind h).mono fun x m1 H1 Z1 x1 M1 h1 v1 r1 => ⟨Z1, m1, x, r1, M1, FinO.of h1⟩⟩

/-! ### tests -/
/-- a value that is True or False -/
def asB (d : D) (m : Mem) : Res Bool := match d with | .bl b => .ok b m | _ => .bad
@[simp] theorem asB_bl (b : Bool) (m : Mem) : asB (.bl b) m = .ok b m := rfl
def tE (f : EF) : TF := fun σ m => (f σ m).bind asB
def tCmp (op : D → D → Mem → Res D) (a b : EF) : TF := tE (eOp op a b)
theorem rd_tB {f : EF} {σ : St} {H : Hp} {Q : Bool → Hp → Prop} (h : rdT X W (tE f) σ H Q) : rdE X W f σ H fun x H1 => ∃ c, x = .bl c ∧ Q c H1 := by
  obtain ⟨Z, σd, m, S, M, h⟩ := h
  refine ⟨Z, σd, m, S, M, (Fin.bind h).mono fun x m1 H1 Z1 x1 M1 h1 v1 r1 => ?_⟩
  cases x with
  | bl b =>
    simp only [Rep] at r1
    exact ⟨b, r1, h1 H1 Z1 (.refl _ _) M1⟩
  | _ => exact False.elim h1
theorem t_val {e : Expr} {f : EF} (h : E X W e f) (he : ∀ whole, isTrue e X.env whole = (do let v ← whole; standAt e.pos; holding [v] (truthy v)) := by intro _; rfl) : T X W e (tE f) :=
  PT.imp (pt_val h he) fun σ H Q q => rd_tB q
theorem t_cmp {op : CmpOp} {f : D → D → Mem → Res D} (ho : OpR X (compareOp op) (rdO2 f)) (ha : E X W a fa) (hb : E X W b fb) (hm : behindInMarks op b = false := by first | exact nomark _ | rfl) : T X W (.Compare a [op] [b] pos) (tCmp f fa fb) :=
  PT.imp (pt_cmpR ho ha hb hm) fun σ H Q q => rd_op (rd_tB q)
variable {rest : List Expr} {ta tb : TF}
def tAndD (a b : TF) : TF := fun σ m => (a σ m).bind fun c m => if c then b σ m else .ok false m
def tOrD (a b : TF) : TF := fun σ m => (a σ m).bind fun c m => if c then .ok true m else b σ m
def tNotD (a : TF) : TF := fun σ m => (a σ m).bind fun c m => .ok (!c) m
theorem t_and1 (ha : T X W a ta) : TW X W (.BoolOp .And [a] pos) ta := pw_and1 ha
theorem t_or1 (ha : T X W a ta) : TW X W (.BoolOp .Or [a] pos) ta := pw_or1 ha
theorem t_and (ha : T X W a ta) (hb : TW X W (.BoolOp .And (b :: rest) pos) tb) : TW X W (.BoolOp .And (a :: b :: rest) pos) (tAndD ta tb) := by
  refine PW.imp (pw_and ha hb) fun σ H Q ⟨Z, σd, m, S, M, h⟩ => ?_
  refine ⟨Z, σd, m, S, M, (Fin.bind h).mono fun c m1 H1 Z1 x1 M1 h1 => ?_⟩
  cases c with
  | true => exact iteT ⟨Z1, σd, m1, S.ext x1, M1, h1⟩
  | false => exact iteF (h1 H1 Z1 (.refl _ _) M1)
theorem t_or (ha : T X W a ta) (hb : TW X W (.BoolOp .Or (b :: rest) pos) tb) : TW X W (.BoolOp .Or (a :: b :: rest) pos) (tOrD ta tb) := by
  refine PW.imp (pw_or ha hb) fun σ H Q ⟨Z, σd, m, S, M, h⟩ => ?_
  refine ⟨Z, σd, m, S, M, (Fin.bind h).mono fun c m1 H1 Z1 x1 M1 h1 => ?_⟩
  cases c with
  | true => exact iteT (h1 H1 Z1 (.refl _ _) M1)
  | false => exact iteF ⟨Z1, σd, m1, S.ext x1, M1, h1⟩
theorem t_not (ha : T X W a ta) : T X W (.UnaryOp .Not a pos) (tNotD ta) := by
  refine PT.imp (pt_not ha) fun σ H Q ⟨Z, σd, m, S, M, h⟩ => ?_
  exact ⟨Z, σd, m, S, M, (Fin.bind h).mono fun c m1 H1 Z1 x1 M1 h1 => h1 H1 Z1 (.refl _ _) M1⟩
/-- and, or, not as values -/
def eAnd (a b : EF) : EF := fun σ m => (a σ m).bind fun x m => (asB x m).bind fun c m => if c then b σ m else .ok (.bl false) m
def eOr (a b : EF) : EF := fun σ m => (a σ m).bind fun x m => (asB x m).bind fun c m => if c then .ok (.bl true) m else b σ m
def eNot (a : EF) : EF := fun σ m => (a σ m).bind fun x m => (asB x m).bind fun c m => .ok (.bl (!c)) m
theorem e_one {op} (h : E X W a fa) : E X W (.BoolOp op [a] pos) fa := pe_one h
theorem fin_asB {σ : St} {H : Hp} {Z : Zn} {x : D} {m : Mem} {β : Type} {f : Bool → Mem → Res β} {R : β → Mem → Hp → Zn → Prop} {v : V} (h : Fin X W σ H Z ((asB x m).bind f) R) (r : Rep H Z x v) : ∃ c, v = .bl c ∧ Fin X W σ H Z (f c m) R := by
  cases x with
  | bl b =>
    simp only [Rep] at r
    exact ⟨b, r, h⟩
  | _ => exact False.elim h
theorem e_and (ha : E X W a fa) (hb : E X W (.BoolOp .And (b :: rest) pos) fb) : E X W (.BoolOp .And (a :: b :: rest) pos) (eAnd fa fb) := by
  refine PE.imp (pe_and ha hb) fun σ H Q ⟨Z, σd, m, S, M, h⟩ => ?_
  refine ⟨Z, σd, m, S, M, (Fin.bind h).mono fun x m1 H1 Z1 x1 M1 h1 v r => ?_⟩
  obtain ⟨c, e, h1⟩ := fin_asB h1 r
  refine ⟨c, e, ?_⟩
  cases c with
  | true => exact iteT ⟨Z1, σd, m1, S.ext x1, M1, h1⟩
  | false => exact iteF (h1 H1 Z1 (.refl _ _) M1 _ (by simp only [Rep]))
theorem e_or (ha : E X W a fa) (hb : E X W (.BoolOp .Or (b :: rest) pos) fb) : E X W (.BoolOp .Or (a :: b :: rest) pos) (eOr fa fb) := by
  refine PE.imp (pe_or ha hb) fun σ H Q ⟨Z, σd, m, S, M, h⟩ => ?_
  refine ⟨Z, σd, m, S, M, (Fin.bind h).mono fun x m1 H1 Z1 x1 M1 h1 v r => ?_⟩
  obtain ⟨c, e, h1⟩ := fin_asB h1 r
  refine ⟨c, e, ?_⟩
  cases c with
  | true => exact iteT (h1 H1 Z1 (.refl _ _) M1 _ (by simp only [Rep]))
  | false => exact iteF ⟨Z1, σd, m1, S.ext x1, M1, h1⟩
theorem e_not (ha : E X W a fa) : E X W (.UnaryOp .Not a pos) (eNot fa) := by
  refine PE.imp (pe_not ha) fun σ H Q ⟨Z, σd, m, S, M, h⟩ => ?_
  refine ⟨Z, σd, m, S, M, (Fin.bind h).mono fun x m1 H1 Z1 x1 M1 h1 v r => ?_⟩
  obtain ⟨c, e, h1⟩ := fin_asB h1 r
  exact ⟨c, e, h1 H1 Z1 (.refl _ _) M1 _ (by simp only [Rep])⟩
def eIf (c : TF) (a b : EF) : EF := fun σ m => (c σ m).bind fun k m => if k then a σ m else b σ m
theorem e_if {c : Expr} {fc : TF} (hc : T X W c fc) (ha : E X W a fa) (hb : E X W b fb) : E X W (.IfExp c a b pos) (eIf fc fa fb) := by
  refine PE.imp (pe_ifExp hc ha hb) fun σ H Q ⟨Z, σd, m, S, M, h⟩ => ?_
  refine ⟨Z, σd, m, S, M, (Fin.bind h).mono fun k m1 H1 Z1 x1 M1 h1 => ?_⟩
  cases k with
  | true => exact iteT ⟨Z1, σd, m1, S.ext x1, M1, h1⟩
  | false => exact iteF ⟨Z1, σd, m1, S.ext x1, M1, h1⟩
/-- a < b <= c -/
def eChain (f g : D → D → Mem → Res D) (a b c : EF) : EF := fun σ m => (a σ m).bind fun x m => (b σ m).bind fun y m => (noexc (f x y m)).bind fun z m => (asB z m).bind fun k m =>
  if k then (c σ m).bind fun w m => noexc (g y w m) else .ok (.bl false) m
theorem rd_chain {f g : D → D → Mem → Res D} {fc : EF} {σ : St} {H : Hp} {Q : VK} (h : rdE X W (eChain f g fa fb fc) σ H Q) : tChain (rdO2 f) (rdO2 g) (rdE X W fa) (rdE X W fb) (rdE X W fc) σ H Q := by
  obtain ⟨Z, σd, m, S, M, h⟩ := h
  refine ⟨Z, σd, m, S, M, (Fin.bind h).mono fun x m1 H1 Z1 x1 M1 h1 v1 r1 => ?_⟩
  refine ⟨Z1, σd, m1, S.ext x1, M1, (Fin.bind h1).mono fun y m2 H2 Z2 x2 M2 h2 v2 r2 => ?_⟩
  refine ⟨Z2, m2, x, y, Rep.ext x2 _ _ r1, r2, M2, ?_⟩
  have h3 := Fin.bind h2
  cases ef : f x y m2 with
  | ok d m3 =>
    rw [ef] at h3
    intro H3 Z3 v3 x3 M3 r3
    have h4 := h3 H3 Z3 x3 M3
    obtain ⟨k, e, h5⟩ := fin_asB h4 r3
    refine ⟨k, e, ?_⟩
    cases k with
    | true =>
      refine iteT ⟨Z3, σd, m3, (S.ext x1).ext (x2.trans x3), M3, (Fin.bind h5).mono fun w m4 H4 Z4 x4 M4 h6 v4 r4 => ?_⟩
      exact ⟨Z4, m4, y, w, Rep.ext (x3.trans x4) _ _ r2, r4, M4, FinO.of h6⟩
    | false => exact iteF (h5 H3 Z3 (.refl _ _) M3 _ (by simp only [Rep]))
  | exc c m3 =>
    rw [ef] at h3
    exact False.elim h3
  | bad =>
    rw [ef] at h3
    exact False.elim h3
theorem e_chain {op op' : CmpOp} {f g : D → D → Mem → Res D} {c : Expr} {fc : EF} (ho : OpR X (compareOp op) (rdO2 f)) (ho' : OpR X (compareOp op') (rdO2 g)) (ha : E X W a fa) (hb : E X W b fb) (hc : E X W c fc) (hm : lastMarks [op, op'] [b, c] = false := by with_unfolding_all rfl) :
    E X W (.Compare a [op, op'] [b, c] pos) (eChain f g fa fb fc) := PE.imp (pe_chain ho ho' ha hb hc hm) fun _ _ _ h => rd_chain h
theorem t_chain {op op' : CmpOp} {f g : D → D → Mem → Res D} {c : Expr} {fc : EF} (ho : OpR X (compareOp op) (rdO2 f)) (ho' : OpR X (compareOp op') (rdO2 g)) (ha : E X W a fa) (hb : E X W b fb) (hc : E X W c fc) (hm : lastMarks [op, op'] [b, c] = false := by with_unfolding_all rfl) :
    T X W (.Compare a [op, op'] [b, c] pos) (tE (eChain f g fa fb fc)) := PT.imp (pt_chain ho ho' ha hb hc hm) fun _ _ _ h => rd_chain (rd_tB h)

/-! ### argument lists, displays, calls -/
def aNil : AF := fun _ m => .ok [] m
def aCons (a : EF) (r : AF) : AF := fun σ m => (a σ m).bind fun x m => (r σ m).bind fun xs m => .ok (x :: xs) m
theorem a_nil : AA X W [] aNil := PA.imp pa_nil fun σ H Q ⟨Z, σd, m, S, M, h⟩ => h H Z (.refl _ _) M [] (by simp only [Reps])
theorem a_cons {e : Expr} {es : List Expr} {fe : EF} {fr : AF} (he : E X W e fe) (hr : AA X W es fr) (hs : starEach (e :: es) X.env = (false, eval e X.env) :: starEach es X.env := by rfl) : AA X W (e :: es) (aCons fe fr) := by
  refine PA.imp (pa_cons he hr hs) fun σ H Q ⟨Z, σd, m, S, M, h⟩ => ?_
  refine ⟨Z, σd, m, S, M, (Fin.bind h).mono fun x m1 H1 Z1 x1 M1 h1 v1 r1 => ?_⟩
  refine ⟨Z1, σd, m1, S.ext x1, M1, (Fin.bind h1).mono fun xs m2 H2 Z2 x2 M2 h2 vs r2 => ?_⟩
  refine h2 H2 Z2 (.refl _ _) M2 _ ?_
  simp only [Reps]
  exact ⟨v1, vs, rfl, Rep.ext x2 _ _ r1, r2⟩
theorem Ext.laid {Z : Zn} {H : Hp} {m : Mem} {p : Addr} {o : HO} (M : MRep H Z m) (n : H p = none) : Ext Z H Z (upd H p o) := ⟨fun _ h => h, fun _ h => .inl h, ⟨[], by simp⟩, fun a u h na => ⟨by rw [upd_ne (ne_of_none h n)]; exact h, na⟩, fun a u h => ⟨u, by rw [upd_ne (ne_of_none h n)]; exact h⟩⟩
theorem ORep.keep {Z : Zn} {H H' : Hp} {o : MO} {a : Addr} (x : Ext Z H Z H') (e : H' a = H a) (h : ORep H Z o a) : ORep H' Z o a := by
  cases o with
  | lst xs =>
    obtain ⟨vs, h1, h2⟩ := h
    exact ⟨vs, by rw [e]; exact h1, Reps.ext x _ _ h2⟩
  | dct kvs =>
    obtain ⟨ks, h1, h2⟩ := h
    exact ⟨ks, by rw [e]; exact h1, Paired.mapP h2 fun p q z => ⟨z.1, Rep.ext x _ _ z.2⟩⟩
theorem MRep.laid {Z : Zn} {H : Hp} {m : Mem} {p : Addr} {o : HO} (M : MRep H Z m) (n : H p = none) : MRep (upd H p o) Z m :=
  ⟨M.len, M.nd, M.off, fun a h => let ⟨u, e⟩ := M.asd a h; ⟨u, by rw [upd_ne (ne_of_none e n)]; exact e⟩, fun i a u e1 e2 => (M.obj i a u e1 e2).keep (Ext.laid M n) (by
    obtain ⟨z, hz⟩ := (M.obj i a u e1 e2).there
    rw [upd_ne (ne_of_none hz n)])⟩
theorem MRep.out {Z : Zn} {H : Hp} {m : Mem} {p : Addr} (M : MRep H Z m) (n : H p = none) : Z.out p := by
  refine ⟨fun h => ?_, fun h => ?_⟩
  · obtain ⟨u, e⟩ := M.there h
    rw [n] at e; cases e
  · obtain ⟨u, e⟩ := M.asd p h
    rw [n] at e; cases e
def lenOk (n : Nat) : Bool := decide (n ≤ 16777216)
theorem lenOk_le {n : Nat} (h : lenOk n = true) : n ≤ sizeLine := by rw [sizeLine_eq]; exact of_decide_eq_true h
end
end PD
namespace PD
open PySem PySem.Spec L2
open PyProof.Rows hiding St

/-! ### new objects -/
def newL (nw : Bool) (xs : List D) (m : Mem) : Res D := if lenOk xs.length then (if nw then .ok (.ref m.length) (m ++ [.lst xs]) else .ok (.lst xs) m) else .bad
def newT (xs : List D) (m : Mem) : Res D := if lenOk xs.length then .ok (.tup xs) m else .bad
section
variable {X : Cx} {W : WX} {H : Hp} {Z : Zn} {m : Mem} {xs : List D} {vs : List V} {Q : VK}
theorem rep_tup_new {p : Addr} (M : MRep H Z m) (r : Reps H Z xs vs) (n : H p = none) : Rep (upd H p (.tup vs)) Z (.tup xs) (.ref p) := by
  simp only [Rep]
  exact ⟨p, vs, rfl, .inl upd_same, M.out n, Reps.ext (Ext.laid M n) _ _ r⟩
theorem rep_lst_new {p : Addr} (M : MRep H Z m) (r : Reps H Z xs vs) (n : H p = none) : Rep (upd H p (.lst vs)) Z (.lst xs) (.ref p) := by
  simp only [Rep]
  exact ⟨p, vs, rfl, upd_same, M.out n, Reps.ext (Ext.laid M n) _ _ r⟩
theorem fin_newT (h : FinO H Z (newT xs m) Q) (M : MRep H Z m) (r : Reps H Z xs vs) : vs.length ≤ sizeLine ∧ ∀ p, H p = none → Q (.ref p) (upd H p (.tup vs)) := by
  unfold newT at h
  split at h
  · rename_i hl
    rw [← reps_len r]
    exact ⟨lenOk_le hl, fun p n => h _ Z _ (Ext.laid M n) (M.laid n) (rep_tup_new M r n)⟩
  · exact h.elim
/-- one more object in the memory -/
abbrev Zn.add (Z : Zn) (p : Addr) : Zn := ⟨Z.ρ ++ [p], Z.φ⟩
theorem Ext.add {p : Addr} {o : HO} (M : MRep H Z m) (n : H p = none) : Ext Z H (Z.add p) (upd H p o) := by
  refine ⟨fun _ h => h, fun _ h => .inl h, ⟨[p], rfl⟩, fun a u h na => ⟨by rw [upd_ne (ne_of_none h n)]; exact h, ?_⟩, fun a u h => ⟨u, by rw [upd_ne (ne_of_none h n)]; exact h⟩⟩
  show a ∉ Z.ρ ++ [p]
  rw [List.mem_append, List.mem_singleton]
  rintro (h1 | h1)
  · exact na h1
  · exact ne_of_none h n h1
theorem MRep.add {p : Addr} {o : HO} {u : MO} (M : MRep H Z m) (n : H p = none) (ho : ORep (upd H p o) (Z.add p) u p) : MRep (upd H p o) (Z.add p) (m ++ [u]) := by
  have hout := M.out n
  refine ⟨by simp [M.len], ?_, ?_, ?_, ?_⟩
  · show (Z.ρ ++ [p]).Nodup
    rw [List.nodup_append]
    refine ⟨M.nd, by simp, fun a ha b hb => ?_⟩
    rw [List.mem_singleton] at hb
    subst hb
    rintro rfl
    exact hout.1 ha
  · intro a ha
    rcases List.mem_append.mp ha with h | h
    · exact M.off a h
    · rw [List.mem_singleton] at h; subst h; exact hout.2
  · intro a ha
    obtain ⟨z, e⟩ := M.asd a ha
    exact ⟨z, by rw [upd_ne (ne_of_none e n)]; exact e⟩
  · intro i a z e1 e2
    by_cases hi : i < Z.ρ.length
    · rw [List.getElem?_append_left hi] at e1
      rw [List.getElem?_append_left (by rw [M.len]; exact hi)] at e2
      have q := M.obj i a z e1 e2
      obtain ⟨y, hy⟩ := q.there
      have x : Ext Z H (Z.add p) (upd H p o) := Ext.add M n
      have e : (upd H p o) a = H a := upd_ne (ne_of_none hy n)
      cases z with
      | lst xs =>
        obtain ⟨vs, h1, h2⟩ := q
        exact ⟨vs, by rw [e]; exact h1, Reps.ext x _ _ h2⟩
      | dct kvs =>
        obtain ⟨ks, h1, h2⟩ := q
        exact ⟨ks, by rw [e]; exact h1, Paired.mapP h2 fun p q z => ⟨z.1, Rep.ext x _ _ z.2⟩⟩
    · have hl : i = Z.ρ.length := by
        have := (List.getElem?_eq_some_iff.mp e1).1
        simp at this
        omega
      subst hl
      rw [List.getElem?_append_right (Nat.le_refl _), Nat.sub_self] at e1
      rw [List.getElem?_append_right (by rw [M.len]; exact Nat.le_refl _), M.len, Nat.sub_self] at e2
      cases e1
      cases e2
      exact ho
theorem fin_newL {nw : Bool} (h : FinO H Z (newL nw xs m) Q) (M : MRep H Z m) (r : Reps H Z xs vs) : vs.length ≤ sizeLine ∧ ∀ p, H p = none → Q (.ref p) (upd H p (.lst vs)) := by
  unfold newL at h
  split at h
  · rename_i hl
    rw [← reps_len r]
    refine ⟨lenOk_le hl, fun p n => ?_⟩
    cases nw with
    | false => exact h _ Z _ (Ext.laid M n) (M.laid n) (rep_lst_new M r n)
    | true =>
      refine h _ (Z.add p) _ (Ext.add M n) (M.add n ⟨vs, upd_same, Reps.ext (Ext.add M n) _ _ r⟩) ?_
      simp only [Rep]
      exact ⟨p, by rw [M.len, List.getElem?_append_right (Nat.le_refl _), Nat.sub_self]; rfl, rfl⟩
  · exact h.elim
end
section
variable {X : Cx} {W : WX} {pos : Pos} {es : List Expr} {fr : AF} {e : Expr} {fe : EF}
def eTup (a : AF) : EF := fun σ m => (a σ m).bind fun xs m => noexc (newT xs m)
def eLst (nw : Bool) (a : AF) : EF := fun σ m => (a σ m).bind fun xs m => noexc (newL nw xs m)
theorem e_tup {k} (h : AA X W es fr) : E X W (.Tuple es k pos) (eTup fr) := by
  refine PE.imp (pe_tup h) fun σ H Q ⟨Z, σd, m, S, M, h⟩ => ?_
  exact ⟨Z, σd, m, S, M, (Fin.bind h).mono fun xs m1 H1 Z1 x1 M1 h1 vs r => fin_newT (FinO.of h1) M1 r⟩
theorem e_lst {nw : Bool} (h : AA X W es fr) : E X W (.List es pos) (eLst nw fr) := by
  refine PE.imp (pe_lst h) fun σ H Q ⟨Z, σd, m, S, M, h⟩ => ?_
  exact ⟨Z, σd, m, S, M, (Fin.bind h).mono fun xs m1 H1 Z1 x1 M1 h1 vs r => fin_newL (FinO.of h1) M1 r⟩
/-! ### calls -/
def eCall (F : List D → Mem → Res D) (a : AF) : EF := fun σ m => (a σ m).bind F
/-- a def's promise, by a function on data -/
def spM (mg : Str → Option Value) (n : Nat) (F : List D → Mem → Res D) : Sp := fun vs H Q Ex => vs.length = n ∧ ∃ Z ds m, Reps H Z ds vs ∧ MRep H Z m ∧
  match F ds m with
  | .ok d m' => ∀ H' Z' v, Ext Z H Z' H' → MRep H' Z' m' → Rep H' Z' d v → Q v H'
  | .exc c m' => ∀ u H' Z', mg c = some u → Ext Z H Z' H' → MRep H' Z' m' → Ex u none H'
  | .bad => False
abbrev Fn (P : Program) (w : World) (K : PySem.W.Frag) (mg : Str → Option Value) (base : Heap) (k : Nat) (f : Addr) (fd : FuncData) (ps : List Str) (F : List D → Mem → Res D) : Prop :=
  FnOk P w K mg base (L2.CX P w) k f fd ps (spM mg ps.length F)
variable {k : Nat} {f : Addr} {fd : FuncData} {ps : List Str} {F : List D → Mem → Res D} {x : Str} {p : Pos}
theorem fin_sp {σ : St} {H : Hp} {Z : Zn} {ds : List D} {m : Mem} {vs : List V} {Q : VK} {n : Nat} (h : Fin X W σ H Z (F ds m) fun d _ H' Z' => ∀ v, Rep H' Z' d v → Q v H') (M : MRep H Z m) (r : Reps H Z ds vs) (hl : ds.length = n) :
    spM X.mg n F vs H Q (fun c d H' => W c d σ H') := by
  refine ⟨by rw [← reps_len r]; exact hl, Z, ds, m, r, M, ?_⟩
  cases e : F ds m with
  | ok d m' =>
    rw [e] at h
    exact fun H' Z' v x M r => h H' Z' x M v r
  | exc c m' =>
    rw [e] at h
    exact h
  | bad =>
    rw [e] at h
    exact h
def argN (n : Nat) (ds : List D) (m : Mem) : Res (List D) := if ds.length = n then .ok ds m else .bad
theorem e_call (Fk : Fn X.prog X.w X.K X.mg X.base k f fd ps F) (hr : Room k X.A) (hg : Gl X x) (hm : X.mg x = some (.ref f)) (hk : PySem.W.keepIn X.K (.ref f) = true) (hb : Binds X.K fd ps []) (tk : Takes X W) (ha : AA X W (e :: es) fr)
    (hn : ∀ σ m ds m', fr σ m = .ok ds m' → ds.length = ps.length)
    (hdb : (x == ("__debug__" : Str)) = false := by decide) (he : starEach (e :: es) X.env = (false, eval e X.env) :: starEach es X.env := by rfl) (hpl : (backTo pos (starEach es X.env)).any (·.1) = false := by rfl) :
    E X W (.Call (.Name x p) (e :: es) [] pos) (eCall F fr) := by
  refine PE.imp (pe_callSD (E := fun σ c d H => W c d σ H) Fk hr hg hm hk hb .nil (fun σ => passAt tk σ) ha hdb he hpl) fun σ H Q ⟨Z, σd, m, S, M, h⟩ => ?_
  cases efr : fr σd m with
  | ok ds m1 =>
    refine ⟨Z, σd, m, S, M, ?_⟩
    have h' := Fin.bind h
    rw [efr] at h' ⊢
    intro H1 Z1 x1 M1 vs r
    rw [List.append_nil]
    exact fin_sp (h' H1 Z1 x1 M1) M1 r (hn _ _ _ _ efr)
  | exc c m1 =>
    refine ⟨Z, σd, m, S, M, ?_⟩
    have h' := Fin.bind h
    rw [efr] at h' ⊢
    exact h'
  | bad =>
    have h' := Fin.bind h
    rw [efr] at h'
    exact h'.elim
theorem e_call0 (Fk : Fn X.prog X.w X.K X.mg X.base k f fd [] F) (hr : Room k X.A) (hg : Gl X x) (hm : X.mg x = some (.ref f)) (hk : PySem.W.keepIn X.K (.ref f) = true) (hb : Binds X.K fd [] []) (hno : ∀ m c m', F [] m ≠ .exc c m')
    (hdb : (x == ("__debug__" : Str)) = false := by decide) : E X W (.Call (.Name x p) [] [] pos) (eCall F aNil) := by
  refine PE.imp (pe_call0 (E := L2.E0) Fk hr hg hm hk hb .nil passL hdb) fun σ H Q ⟨Z, σd, m, S, M, h⟩ => ?_
  refine ⟨rfl, Z, [], m, by simp [Reps], M, ?_⟩
  have h' : Fin X W σ H Z (F [] m) fun d _ H' Z' => ∀ v, Rep H' Z' d v → Q v H' := h
  cases e : F [] m with
  | ok d m' =>
    rw [e] at h'
    exact fun H' Z' v x M r => h' H' Z' x M v r
  | exc c m' => exact (hno _ _ _ e).elim
  | bad =>
    rw [e] at h'
    exact h'
/-- built-ins -/
def eB (op : List D → Mem → Res D) (a : AF) : EF := fun σ m => (a σ m).bind fun ds m => noexc (op ds m)
theorem rd_B {op : List D → Mem → Res D} {σ : St} {H : Hp} {Q : VK} (h : rdE X W (eB op fr) σ H Q) : tCB (rdC op) (rdA X W fr) σ H Q := by
  obtain ⟨Z, σd, m, S, M, h⟩ := h
  exact ⟨Z, σd, m, S, M, (Fin.bind h).mono fun ds m1 H1 Z1 x1 M1 h1 vs r => ⟨Z1, m1, ds, r, M1, FinO.of h1⟩⟩
theorem e_bi {id : String} {op : List D → Mem → Res D} (hc : CallR X (.builtin id) (rdC op)) (hg : Gl X x) (hm : X.mg x = none) (hv : bootBuiltins x = some (.builtin id)) (ha : AA X W (e :: es) fr) (hn : x ≠ "__name__" := by decide) (hdb : (x == ("__debug__" : Str)) = false := by decide)
    (he : starEach (e :: es) X.env = (false, eval e X.env) :: starEach es X.env := by rfl) (hpl : (backTo pos (starEach es X.env)).any (·.1) = false := by rfl) : E X W (.Call (.Name x p) (e :: es) [] pos) (eB op fr) :=
  PE.imp (pe_callB hc hg hm hv ha hn hdb he hpl) fun σ H Q h => rd_B h
theorem e_ty {T : String} {op : List D → Mem → Res D} (hc : CallR X (.type T) (rdC op)) (hg : Gl X x) (hm : X.mg x = none) (hv : bootBuiltins x = some (.type T)) (ha : AA X W (e :: es) fr) (hn : x ≠ "__name__" := by decide) (hdb : (x == ("__debug__" : Str)) = false := by decide)
    (he : starEach (e :: es) X.env = (false, eval e X.env) :: starEach es X.env := by rfl) (hpl : (backTo pos (starEach es X.env)).any (·.1) = false := by rfl) : E X W (.Call (.Name x p) (e :: es) [] pos) (eB op fr) :=
  PE.imp (pe_callTy hc hg hm hv ha hn hdb he hpl) fun σ H Q h => rd_B h
end

/-! ### statements -/
inductive SRes where
  | nx (σ : Sg) (m : Mem) | rt (d : D) (m : Mem) | bk (σ : Sg) (m : Mem) | ct (σ : Sg) (m : Mem) | exc (c : Str) (σ : Sg) (m : Mem) | bad
abbrev SF := Sg → Mem → SRes
def SRes.then (r : SRes) (f : SF) : SRes := match r with | .nx σ m => f σ m | r => r
@[simp] theorem SRes.then_nx (σ : Sg) (m : Mem) (f : SF) : (SRes.nx σ m).then f = f σ m := rfl
@[simp] theorem SRes.then_rt (d : D) (m : Mem) (f : SF) : (SRes.rt d m).then f = .rt d m := rfl
@[simp] theorem SRes.then_bk (σ : Sg) (m : Mem) (f : SF) : (SRes.bk σ m).then f = .bk σ m := rfl
@[simp] theorem SRes.then_ct (σ : Sg) (m : Mem) (f : SF) : (SRes.ct σ m).then f = .ct σ m := rfl
@[simp] theorem SRes.then_exc (c : Str) (σ : Sg) (m : Mem) (f : SF) : (SRes.exc c σ m).then f = .exc c σ m := rfl
@[simp] theorem SRes.then_bad (f : SF) : (SRes.bad).then f = .bad := rfl
/-- an expression's result within a statement -/
def Res.st {α : Type} (r : Res α) (σ : Sg) (f : α → Mem → SRes) : SRes := match r with | .ok a m => f a m | .exc c m => .exc c σ m | .bad => .bad
@[simp] theorem Res.st_ok {α : Type} (a : α) (m : Mem) (σ : Sg) (f : α → Mem → SRes) : (Res.ok a m).st σ f = f a m := rfl
@[simp] theorem Res.st_exc {α : Type} (c : Str) (m : Mem) (σ : Sg) (f : α → Mem → SRes) : (Res.exc c m : Res α).st σ f = .exc c σ m := rfl
@[simp] theorem Res.st_bad {α : Type} (σ : Sg) (f : α → Mem → SRes) : (Res.bad : Res α).st σ f = .bad := rfl

def FinS (X : Cx) (W : WX) (H : Hp) (Z : Zn) (r : SRes) (D : Ends) : Prop :=
  match r with
  | .nx σd m => ∀ H' Z' σ, Ext Z H Z' H' → MRep H' Z' m → SRep H' Z' σd σ → D.nx σ H'
  | .rt d m => ∀ H' Z' v, Ext Z H Z' H' → MRep H' Z' m → Rep H' Z' d v → D.rt v H'
  | .bk σd m => ∀ H' Z' σ, Ext Z H Z' H' → MRep H' Z' m → SRep H' Z' σd σ → D.bk σ H'
  | .ct σd m => ∀ H' Z' σ, Ext Z H Z' H' → MRep H' Z' m → SRep H' Z' σd σ → D.ct σ H'
  | .exc c σd m => ∀ u H' Z' σ, X.mg c = some u → Ext Z H Z' H' → MRep H' Z' m → SRep H' Z' σd σ → W u none σ H'
  | .bad => False
section
variable {X : Cx} {W : WX} {H : Hp} {Z : Zn} {Dn : Ends}
theorem FinS.shift {r : SRes} {H1 : Hp} {Z1 : Zn} (x : Ext Z H Z1 H1) (h : FinS X W H Z r Dn) : FinS X W H1 Z1 r Dn := by
  cases r with
  | nx σd m => exact fun H' Z' σ y M S => h H' Z' σ (x.trans y) M S
  | rt d m => exact fun H' Z' v y M r => h H' Z' v (x.trans y) M r
  | bk σd m => exact fun H' Z' σ y M S => h H' Z' σ (x.trans y) M S
  | ct σd m => exact fun H' Z' σ y M S => h H' Z' σ (x.trans y) M S
  | exc c σd m => exact fun u H' Z' σ e y M S => h u H' Z' σ e (x.trans y) M S
  | bad => exact h
theorem Fin.st {α : Type} {r : Res α} {σd : Sg} {σ : St} {f : α → Mem → SRes} (h : FinS X W H Z (r.st σd f) Dn) (S : SRep H Z σd σ) : Fin X W σ H Z r fun a m H1 Z1 => FinS X W H1 Z1 (f a m) Dn := by
  cases r with
  | ok a m => exact fun H1 Z1 x M => FinS.shift x h
  | exc c m => exact fun u H1 Z1 e x M => h u H1 Z1 σ e x M (S.ext x)
  | bad => exact h
end
def rdS (X : Cx) (W : WX) (f : SF) : TS := fun D σ H => ∃ Z σd m, SRep H Z σd σ ∧ MRep H Z m ∧ FinS X W H Z (f σd m) D
abbrev S1 (X : Cx) (W : WX) (st : Stmt) (f : SF) : Prop := PS X st (rdS X W f)
abbrev Ss (X : Cx) (W : WX) (st : List Stmt) (f : SF) : Prop := PSs X st (rdS X W f)
theorem PS.imp {X : Cx} {st : Stmt} {t t' : TS} (h : PS X st t) (k : ∀ D σ H, t' D σ H → t D σ H) : PS X st t' := ⟨fun pins s σ H D I q => h.run pins s σ H D I (k D σ H q)⟩
theorem PSs.imp {X : Cx} {st : List Stmt} {t t' : TS} (h : PSs X st t) (k : ∀ D σ H, t' D σ H → t D σ H) : PSs X st t' := ⟨fun pins s σ H D I q => h.run pins s σ H D I (k D σ H q)⟩
section
variable {X : Cx} {W : WX} {st : Stmt} {rest : List Stmt} {f g : SF} {e : Expr} {fe : EF} {pos : Pos}
def sNil : SF := fun σ m => .nx σ m
def sSeq (f g : SF) : SF := fun σ m => (f σ m).then g
theorem ss_nil : Ss X W [] sNil := PSs.imp pss_nil fun D σ H ⟨Z, σd, m, S, M, h⟩ => h H Z σ (.refl _ _) M S
theorem ss_one (h : S1 X W st f) : Ss X W [st] f := pss_one h
theorem ss_cons (h : S1 X W st f) (r : Ss X W rest g) : Ss X W (st :: rest) (sSeq f g) := by
  refine PSs.imp (pss_cons h r) fun D σ H ⟨Z, σd, m, S, M, h⟩ => ?_
  refine ⟨Z, σd, m, S, M, ?_⟩
  unfold sSeq at h
  cases e : f σd m with
  | nx σ1 m1 =>
    rw [e] at h
    exact fun H' Z' σ' x M' S' => ⟨Z', σ1, m1, S', M', FinS.shift x h⟩
  | rt d m1 => rw [e] at h; exact h
  | bk σ1 m1 => rw [e] at h; exact h
  | ct σ1 m1 => rw [e] at h; exact h
  | exc c σ1 m1 => rw [e] at h; exact h
  | bad => rw [e] at h; exact h
def sBk : SF := fun σ m => .bk σ m
def sCt : SF := fun σ m => .ct σ m
theorem s_pass : S1 X W (.Pass pos) sNil := PS.imp ps_pass fun D σ H ⟨Z, σd, m, S, M, h⟩ => h H Z σ (.refl _ _) M S
theorem s_break : S1 X W (.Break pos) sBk := PS.imp ps_break fun D σ H ⟨Z, σd, m, S, M, h⟩ => h H Z σ (.refl _ _) M S
theorem s_continue : S1 X W (.Continue pos) sCt := PS.imp ps_continue fun D σ H ⟨Z, σd, m, S, M, h⟩ => h H Z σ (.refl _ _) M S
def sExpr (fe : EF) : SF := fun σ m => (fe σ m).st σ fun _ m => .nx σ m
theorem s_expr (he : E X W e fe) (hs : swapsWith e none pos.line X.env = pure false := by rfl) : S1 X W (.Expr e pos) (sExpr fe) := by
  refine PS.imp (ps_expr he hs) fun D σ H ⟨Z, σd, m, S, M, h⟩ => ?_
  exact ⟨Z, σd, m, S, M, (Fin.st h S).mono fun a m1 H1 Z1 x1 M1 h1 v r => h1 H1 Z1 σ (.refl _ _) M1 (S.ext x1)⟩
def sRet (fe : EF) : SF := fun σ m => (fe σ m).st σ fun d m => .rt d m
theorem s_ret (he : E X W e fe) : S1 X W (.Return (some e) pos) (sRet fe) := by
  refine PS.imp (ps_ret he) fun D σ H ⟨Z, σd, m, S, M, h⟩ => ?_
  exact ⟨Z, σd, m, S, M, (Fin.st h S).mono fun a m1 H1 Z1 x1 M1 h1 v r => h1 H1 Z1 v (.refl _ _) M1 r⟩
def sRetN : SF := fun _ m => .rt .non m
theorem s_retN : S1 X W (.Return none pos) sRetN := PS.imp ps_retN fun D σ H ⟨Z, σd, m, S, M, h⟩ => h H Z .non (.refl _ _) M (by simp only [Rep])
def sIf (c : TF) (f g : SF) : SF := fun σ m => (c σ m).st σ fun b m => if b then f σ m else g σ m
theorem s_if {c : Expr} {fc : TF} {a b : List Stmt} (hc : T X W c fc) (ha : Ss X W a f) (hb : Ss X W b g) : S1 X W (.If c a b pos) (sIf fc f g) := by
  refine PS.imp (ps_if hc ha hb) fun D σ H ⟨Z, σd, m, S, M, h⟩ => ?_
  refine ⟨Z, σd, m, S, M, (Fin.st h S).mono fun b m1 H1 Z1 x1 M1 h1 => ?_⟩
  cases b with
  | true => exact iteT ⟨Z1, σd, m1, S.ext x1, M1, h1⟩
  | false => exact iteF ⟨Z1, σd, m1, S.ext x1, M1, h1⟩

/-! ### targets, assignments -/
variable {ws : List Nat}
abbrev GF := D → Sg → Mem → SRes
def rdG (ws : List Nat) (g : GF) : TG := fun v σ H Q => ∃ Z σd m d, SRep H Z σd σ ∧ MRep H Z m ∧ Rep H Z d v ∧ ∃ σ1 m1, g d σd m = .nx σ1 m1 ∧ ∀ H' Z' σ', Ext Z H Z' H' → MRep H' Z' m1 → SRep H' Z' σ1 σ' → L2.wipe σ' ws = L2.wipe σ ws → Q σ' H'
abbrev G (X : Cx) (ws : List Nat) (tg : Expr) (g : GF) : Prop := PG X tg (rdG ws g)
theorem PG.imp {tg : Expr} {t t' : TG} (h : PG X tg t) (k : ∀ v σ H Q, t' v σ H Q → t v σ H Q) : PG X tg t' := ⟨fun pins s σ H v u Q I r q => h.run pins s σ H v u Q I r (k v σ H Q q)⟩
abbrev GsF := List D → Sg → Mem → SRes
def rdGs (ws : List Nat) (g : GsF) : TGs := fun vs σ H Q => ∃ Z σd m ds, SRep H Z σd σ ∧ MRep H Z m ∧ Reps H Z ds vs ∧ ∃ σ1 m1, g ds σd m = .nx σ1 m1 ∧ ∀ H' Z' σ', Ext Z H Z' H' → MRep H' Z' m1 → SRep H' Z' σ1 σ' → L2.wipe σ' ws = L2.wipe σ ws → Q σ' H'
abbrev Gs (X : Cx) (ws : List Nat) (tgs : List Expr) (g : GsF) : Prop := PGs X tgs (rdGs ws g)
theorem wipe_set {σ : St} {i : Nat} {x : Option V} : ∀ {ws : List Nat}, i ∈ ws → L2.wipe (σ.set i x) ws = L2.wipe σ ws
  | [], h => by simp at h
  | w :: ws, h => by
    unfold L2.wipe
    by_cases hw : i ∈ ws
    · rw [wipe_set hw]
    · have e : w = i := by
        rcases List.mem_cons.mp h with h | h
        · exact h.symm
        · exact (hw h).elim
      subst e
      have : ∀ (vs : List Nat), L2.wipe (σ.set w x) vs = (L2.wipe σ vs).set w x ∨ L2.wipe (σ.set w x) vs = L2.wipe σ vs := by
        intro vs
        induction vs with
        | nil => exact .inl rfl
        | cons v vs ih =>
          unfold L2.wipe
          rcases ih with e | e
          · rw [e]
            by_cases hv : w = v
            · subst hv; exact .inr (by rw [List.set_set])
            · exact .inl (by rw [List.set_comm _ _ hv])
          · exact .inr (by rw [e])
      rcases this ws with e | e
      · rw [e, List.set_set]
      · rw [e]
theorem PGs.imp {tg : List Expr} {t t' : TGs} (h : PGs X tg t) (k : ∀ v σ H Q, t' v σ H Q → t v σ H Q) : PGs X tg t' := ⟨fun pins s σ H v u Q I r q => h.run pins s σ H v u Q I r (k v σ H Q q)⟩
def gN (i : Nat) : GF := fun d σ m => .nx (σ.set i (some d)) m
theorem g_name {i : Nat} {x : Str} (hN : X.N.Nodup) (hi : X.N[i]? = some x) (hx : Loc X.env.scope x) (hf : X.fn x = true ∨ X.env.scope.names.lookup x = some .local := by first | exact .inl rfl | exact .inr rfl | assumption) (hw : i ∈ ws := by decide) : G X ws (.Name x pos) (gN i) := by
  refine PG.imp (pg_name hN hi hx hf) fun v σ H Q ⟨Z, σd, m, d, S, M, r, σ1, m1, e, q⟩ => ?_
  cases e
  exact q H Z _ (.refl _ _) M (S.set i r) (wipe_set hw)
def gsNil : GsF := fun ds σ m => match ds with | [] => .nx σ m | _ => .bad
def gsCons (g : GF) (r : GsF) : GsF := fun ds σ m => match ds with | d :: ds => (g d σ m).then (r ds) | [] => .bad
theorem gs_nil : Gs X ws [] gsNil := by
  refine PGs.imp pgs_nil fun vs σ H Q ⟨Z, σd, m, ds, S, M, r, σ1, m1, e, q⟩ => ?_
  cases ds with
  | nil =>
    simp only [Reps] at r
    cases e
    exact ⟨r, q H Z σ (.refl _ _) M S rfl⟩
  | cons d ds => cases e
theorem gs_cons {es : List Expr} {g : GF} {r : GsF} (h1 : G X ws e g) (h2 : Gs X ws es r) (hs : (assignEach (e :: es) X.env).map (·.2) = assign e X.env :: (assignEach es X.env).map (·.2) := by rfl) : Gs X ws (e :: es) (gsCons g r) := by
  refine PGs.imp (pgs_cons h1 h2 hs) fun vs σ H Q ⟨Z, σd, m, ds, S, M, rs, σ1, m1, e, q⟩ => ?_
  cases ds with
  | nil => cases e
  | cons d ds =>
    simp only [Reps] at rs
    obtain ⟨v, r', ev, r1, r2⟩ := rs
    refine ⟨v, r', ev, Z, σd, m, d, S, M, r1, ?_⟩
    have e' : (g d σd m).then (r ds) = .nx σ1 m1 := e
    cases eg : g d σd m with
    | nx σ2 m2 =>
      rw [eg] at e'
      exact ⟨σ2, m2, rfl, fun H1 Z1 σ1' x1 M1 S1 w1 => ⟨Z1, σ2, m2, ds, S1, M1, Reps.ext x1 _ _ r2, σ1, m1, e', fun H' Z' σ' x M S w => q H' Z' σ' (x1.trans x) M S (w.trans w1)⟩⟩
    | rt _ _ => rw [eg] at e'; cases e'
    | bk _ _ => rw [eg] at e'; cases e'
    | ct _ _ => rw [eg] at e'; cases e'
    | exc _ _ _ => rw [eg] at e'; cases e'
    | bad => rw [eg] at e'; cases e'
/-- a, b = a tuple -/
def gT (n : Nat) (g : GsF) : GF := fun d σ m => match d with | .tup xs => if xs.length = n then g xs σ m else .bad | _ => .bad
theorem g_tup {es : List Expr} {kk : Nat} {g : GsF} {n : Nat} (hc : X.calm = true) (h : Gs X ws es g) (hn : (assignEach es X.env).length = n := by rfl) (hst : (assignEach es X.env).findIdx? (·.1) = none := by rfl) : G X ws (.Tuple es kk pos) (gT n g) := by
  refine PG.imp (pg_tup hc h hn hst) fun v σ H Q ⟨Z, σd, m, d, S, M, r, σ1, m1, e, q⟩ => ?_
  cases d with
  | tup xs =>
    simp only [Rep] at r
    obtain ⟨a, vs, ev, rd, _, rs⟩ := r
    have e' : (if xs.length = n then g xs σd m else .bad) = SRes.nx σ1 m1 := e
    by_cases hl : xs.length = n
    · rw [if_pos hl] at e'
      exact ⟨a, vs, ev, .inl rd, by rw [← reps_len rs]; exact hl, Z, σd, m, xs, S, M, rs, σ1, m1, e', q⟩
    · rw [if_neg hl] at e'; cases e'
  | _ => cases e
def sAsg (g : GF) (fe : EF) : SF := fun σ m => (fe σ m).st σ fun d m => g d σ m
def GOk (g : GF) : Prop := ∀ d σ m, (∃ σ1 m1, g d σ m = .nx σ1 m1) ∨ g d σ m = .bad
theorem fin_g {g : GF} {H : Hp} {Z : Zn} {σ : St} {σd : Sg} {m : Mem} {d : D} {v : V} {Dn : Ends} (ok : GOk g) (h : FinS X W H Z (g d σd m) Dn) (S : SRep H Z σd σ) (M : MRep H Z m) (r : Rep H Z d v) : rdG ws g v σ H Dn.nx := by
  refine ⟨Z, σd, m, d, S, M, r, ?_⟩
  rcases ok d σd m with ⟨σ1, m1, e⟩ | e
  · rw [e] at h
    exact ⟨σ1, m1, e, fun H' Z' σ' x M S _ => h H' Z' σ' x M S⟩
  · rw [e] at h
    exact h.elim
theorem gok_name {i : Nat} : GOk (gN i) := fun d σ m => .inl ⟨_, _, rfl⟩
def GsOk (g : GsF) : Prop := ∀ ds σ m, (∃ σ1 m1, g ds σ m = .nx σ1 m1) ∨ g ds σ m = .bad
theorem gsok_nil : GsOk gsNil := fun ds σ m => by
  cases ds with
  | nil => exact .inl ⟨_, _, rfl⟩
  | cons d ds => exact .inr rfl
theorem gsok_cons {g : GF} {r : GsF} (h1 : GOk g) (h2 : GsOk r) : GsOk (gsCons g r) := fun ds σ m => by
  cases ds with
  | nil => exact .inr rfl
  | cons d ds =>
    show (∃ σ1 m1, (g d σ m).then (r ds) = .nx σ1 m1) ∨ (g d σ m).then (r ds) = .bad
    rcases h1 d σ m with ⟨σ1, m1, e⟩ | e
    · rw [e]; exact h2 ds σ1 m1
    · rw [e]; exact .inr rfl
theorem gok_tup {n : Nat} {g : GsF} (h : GsOk g) : GOk (gT n g) := fun d σ m => by
  cases d with
  | tup xs =>
    show (∃ σ1 m1, (if xs.length = n then g xs σ m else .bad) = .nx σ1 m1) ∨ (if xs.length = n then g xs σ m else .bad) = .bad
    by_cases hl : xs.length = n
    · rw [if_pos hl]; exact h xs σ m
    · rw [if_neg hl]; exact .inr rfl
  | _ => exact .inr rfl
theorem s_asg {tg : Expr} {g : GF} (he : E X W e fe) (hg : G X ws tg g) (ok : GOk g) (hs : swapsWithSole [tg] e pos.line X.env = pure false := by rfl) (hw : swappedStores [tg] e X.env = pure none := by rfl)
    (h1 : (assignEach [tg] X.env).map (·.2) = [assign tg X.env] := by rfl) : S1 X W (.Assign [tg] e pos) (sAsg g fe) := by
  refine PS.imp (ps_asg he hg hs hw h1) fun D σ H ⟨Z, σd, m, S, M, h⟩ => ?_
  exact ⟨Z, σd, m, S, M, (Fin.st h S).mono fun a m1 H1 Z1 x1 M1 h1 v r => fin_g ok h1 (S.ext x1) M1 r⟩
def sSet (i : Nat) (fe : EF) : SF := fun σ m => (fe σ m).st σ fun d m => .nx (σ.set i (some d)) m
theorem s_set {i : Nat} {x : Str} {pos' : Pos} (hN : X.N.Nodup) (hi : X.N[i]? = some x) (hx : Loc X.env.scope x) (he : E X W e fe) (hs : swapsWith e (some (.Name x pos')) pos.line X.env = pure false := by rfl)
    (hf : X.fn x = true ∨ X.env.scope.names.lookup x = some .local := by first | exact .inl rfl | exact .inr rfl | assumption) : S1 X W (.Assign [.Name x pos'] e pos) (sSet i fe) := by
  refine PS.imp (ps_set hN hi hx he hs hf) fun D σ H ⟨Z, σd, m, S, M, h⟩ => ?_
  exact ⟨Z, σd, m, S, M, (Fin.st h S).mono fun a m1 H1 Z1 x1 M1 h1 v r => h1 H1 Z1 _ (.refl _ _) M1 ((S.ext x1).set i r)⟩
def sPar (i j : Nat) (a : AF) : SF := fun σ m => (a σ m).st σ fun ds m => match ds with | [x, y] => .nx ((σ.set i (some x)).set j (some y)) m | _ => .bad
theorem s_par {i j : Nat} {x y : Str} {a b : Expr} {fa : AF} {px py pt : Pos} {kt k2 pt2} (hc : X.calm = true) (hN : X.N.Nodup) (hi : X.N[i]? = some x) (hj : X.N[j]? = some y) (hij : i ≠ j)
    (hx : X.env.scope.names.lookup x = some .local) (hy : X.env.scope.names.lookup y = some .local) (ha : AA X W [a, b] fa)
    (hw : swappedStores [.Tuple [.Name x px, .Name y py] kt pt] (.Tuple [a, b] k2 pt2) X.env = pure (some [x, y]) := by rfl)
    (hs : swapsWithSole [.Tuple [.Name x px, .Name y py] kt pt] (.Tuple [a, b] k2 pt2) pos.line X.env = pure false := by rfl) :
    S1 X W (.Assign [.Tuple [.Name x px, .Name y py] kt pt] (.Tuple [a, b] k2 pt2) pos) (sPar i j fa) := by
  refine PS.imp (ps_par hc hN hi hj hij hx hy ha hw hs) fun D σ H ⟨Z, σd, m, S, M, h⟩ => ?_
  refine ⟨Z, σd, m, S, M, (Fin.st h S).mono fun ds m1 H1 Z1 x1 M1 h1 vs r => ?_⟩
  match ds, h1, r with
  | [x, y], h1, r =>
    simp only [Reps] at r
    obtain ⟨v, vs', rfl, rv, w, vs'', rfl, rw', rfl⟩ := r
    exact ⟨v, w, rfl, h1 H1 Z1 _ (.refl _ _) M1 (((S.ext x1).set i rv).set j rw')⟩
  | [], h1, _ => exact h1.elim
  | [_], h1, _ => exact h1.elim
  | _ :: _ :: _ :: _, h1, _ => exact h1.elim
def sPar3 (i j l : Nat) (a : AF) : SF := fun σ m => (a σ m).st σ fun ds m => match ds with | [x, y, z] => .nx (((σ.set i (some x)).set j (some y)).set l (some z)) m | _ => .bad
theorem s_par3 {i j l : Nat} {x y z : Str} {a b c : Expr} {fa : AF} {px py pz pt : Pos} {kt k2 pt2} (hc : X.calm = true) (hN : X.N.Nodup) (hi : X.N[i]? = some x) (hj : X.N[j]? = some y) (hl : X.N[l]? = some z) (hij : i ≠ j) (hil : i ≠ l) (hjl : j ≠ l)
    (hx : X.env.scope.names.lookup x = some .local) (hy : X.env.scope.names.lookup y = some .local) (hz : X.env.scope.names.lookup z = some .local) (ha : AA X W [a, b, c] fa)
    (hw : swappedStores [.Tuple [.Name x px, .Name y py, .Name z pz] kt pt] (.Tuple [a, b, c] k2 pt2) X.env = pure (some [x, y, z]) := by rfl)
    (hs : swapsWithSole [.Tuple [.Name x px, .Name y py, .Name z pz] kt pt] (.Tuple [a, b, c] k2 pt2) pos.line X.env = pure false := by rfl) :
    S1 X W (.Assign [.Tuple [.Name x px, .Name y py, .Name z pz] kt pt] (.Tuple [a, b, c] k2 pt2) pos) (sPar3 i j l fa) := by
  refine PS.imp (ps_par3 hc hN hi hj hl hij hil hjl hx hy hz ha hw hs) fun D σ H ⟨Z, σd, m, S, M, h⟩ => ?_
  refine ⟨Z, σd, m, S, M, (Fin.st h S).mono fun ds m1 H1 Z1 x1 M1 h1 vs r => ?_⟩
  match ds, h1, r with
  | [x, y, z], h1, r =>
    simp only [Reps] at r
    obtain ⟨v, vs', rfl, rv, w, vs'', rfl, rw', u, vs3, rfl, ru, rfl⟩ := r
    exact ⟨v, w, u, rfl, h1 H1 Z1 _ (.refl _ _) M1 ((((S.ext x1).set i rv).set j rw').set l ru)⟩
  | [], h1, _ => exact h1.elim
  | [_], h1, _ => exact h1.elim
  | [_, _], h1, _ => exact h1.elim
  | _ :: _ :: _ :: _ :: _, h1, _ => exact h1.elim
end
end PD
namespace PD
open PySem PySem.Spec L2
open PyProof.Rows hiding St

/-! ### while -/
def whileN (c : TF) (b : SF) : Nat → SF
  | 0, _, _ => .bad
  | n + 1, σ, m => (c σ m).st σ fun k m1 => if k then
      (match b σ m1 with
        | .nx σ2 m2 => whileN c b n σ2 m2
        | .ct σ2 m2 => whileN c b n σ2 m2
        | .bk σ2 m2 => .nx σ2 m2
        | r => r)
    else .nx σ m1
/-- turns that are enough for every loop -/
def FUEL : Nat := 20000000
section
variable {X : Cx} {W : WX} {pos : Pos}
theorem s_while {c : Expr} {body : List Stmt} {fc : TF} {fb : SF} (hp : PassesOwn (model X.prog X.w) X.A X.env X.xe) (hc : T X W c fc) (hb : Ss X W body fb) : S1 X W (.While c body [] pos) (whileN fc fb FUEL) := by
  refine PS.imp (ps_while hp hc hb) fun D σ H ⟨Z, σd, m, S, M, h⟩ => ?_
  refine ⟨fun k σ H => ∃ Z σd m, SRep H Z σd σ ∧ MRep H Z m ∧ FinS X W H Z (whileN fc fb k σd m) D, ⟨FUEL, Z, σd, m, S, M, h⟩, ?_⟩
  rintro k σ H ⟨Z, σd, m, S, M, h⟩
  cases k with
  | zero => exact h.elim
  | succ k =>
    refine ⟨Z, σd, m, S, M, (Fin.st h S).mono fun b m1 H1 Z1 x1 M1 h1 => ?_⟩
    cases b with
    | false => exact iteF (h1 H1 Z1 σ (.refl _ _) M1 (S.ext x1))
    | true =>
      refine iteT ⟨fun σ' H' => ∃ Z σd m, SRep H' Z σd σ' ∧ MRep H' Z m ∧ FinS X W H' Z (whileN fc fb k σd m) D, fun σ' H' q => ⟨k, Nat.lt_succ_self _, q⟩, Z1, σd, m1, S.ext x1, M1, ?_⟩
      have h2 : FinS X W H1 Z1 (match fb σd m1 with | .nx σ2 m2 => whileN fc fb k σ2 m2 | .ct σ2 m2 => whileN fc fb k σ2 m2 | .bk σ2 m2 => .nx σ2 m2 | r => r) D := h1
      cases e : fb σd m1 with
      | nx σ2 m2 => rw [e] at h2; exact fun H' Z' σ' x M' S' => ⟨Z', σ2, m2, S', M', FinS.shift x h2⟩
      | ct σ2 m2 => rw [e] at h2; exact fun H' Z' σ' x M' S' => ⟨Z', σ2, m2, S', M', FinS.shift x h2⟩
      | bk σ2 m2 => rw [e] at h2; exact h2
      | rt d m2 => rw [e] at h2; exact h2
      | exc c σ2 m2 => rw [e] at h2; exact h2
      | bad => rw [e] at h2; exact h2
end

/-! ### what a for walks -/
inductive Src where
  | its (xs : List D) | mem (n : Nat)
structure Its (J : It) (H1 : Hp) (Z1 : Zn) (xs : List D) : Prop where
  go : ∀ (i : Nat) H Z m, Ext Z1 H1 Z H → MRep H Z m → i < xs.length → J.go i H
  yld : ∀ (i : Nat) H Z m x H' d, Ext Z1 H1 Z H → MRep H Z m → xs[i]? = some d → J.yld i H x H' → Ext Z H Z H' ∧ MRep H' Z m ∧ Rep H' Z d x
  stop : ∀ (i : Nat) H Z m, Ext Z1 H1 Z H → MRep H Z m → xs.length ≤ i → J.stop i H
structure ItM (J : It) (a : Addr) : Prop where
  go : ∀ (i : Nat) (H : Hp) (vs : List V) x, H a = some (.lst vs) → vs[i]? = some x → J.go i H
  yld : ∀ (i : Nat) (H : Hp) (vs : List V) x H', H a = some (.lst vs) → J.yld i H x H' → H' = H ∧ vs[i]? = some x
  stop : ∀ (i : Nat) (H : Hp) (vs : List V), H a = some (.lst vs) → vs.length ≤ i → J.stop i H
def SrcOk (J : It) (H : Hp) (Z : Zn) : Src → Prop
  | .its xs => Its J H Z xs
  | .mem n => ∃ a, Z.ρ[n]? = some a ∧ ItM J a
abbrev IF := Sg → Mem → Res Src
def rdI (X : Cx) (W : WX) (f : IF) : TI := fun σ H R => ∃ Z σd m, SRep H Z σd σ ∧ MRep H Z m ∧ Fin X W σ H Z (f σd m) fun s _ H' Z' => ∀ J, SrcOk J H' Z' s → R J H'
abbrev I (X : Cx) (W : WX) (tg iter : Expr) (f : IF) : Prop := PI X tg iter (rdI X W f)
theorem PI.imp {X : Cx} {tg iter : Expr} {t t' : TI} (h : PI X tg iter t) (k : ∀ σ H R, t' σ H R → t σ H R) : PI X tg iter t' := ⟨fun pins s σ H R I q => h.run pins s σ H R I (k σ H R q)⟩
theorem PI.by {X : Cx} {tg iter : Expr} {t : TI} (h : ∀ σ H R, t σ H R → ∃ t', PI X tg iter t' ∧ t' σ H R) : PI X tg iter t := ⟨fun pins s σ H R I q => let ⟨_, h', q'⟩ := h σ H R q; h'.run pins s σ H R I q'⟩
theorem its_list {K : PySem.W.Frag} {H : Hp} {Z : Zn} {xs : List D} {vs : List V} {a : Addr} (rd : Rd H a (.lst vs)) (o : Z.out a) (r : Reps H Z xs vs) (uq : ∀ (H : Hp) ys, SqL K H a ys → Rd H a (.lst vs) → ys = vs) : Its (Itl K a) H Z xs where
  go := fun i H1 Z1 m x M hi => by
    obtain ⟨d, e⟩ : ∃ d, xs[i]? = some d := ⟨_, List.getElem?_eq_getElem hi⟩
    obtain ⟨v, ev, _⟩ := reps_get r e
    exact ⟨vs, v, .inl (Rd.ext x rd o).1, ev⟩
  yld := fun i H1 Z1 m v H' d x M e q => by
    obtain ⟨e1, e2⟩ := q
    subst e1
    obtain ⟨v', ev, rv⟩ := reps_get r e
    have q := e2 vs (.inl (Rd.ext x rd o).1)
    rw [ev] at q; cases q
    exact ⟨.refl _ _, M, Rep.ext x _ _ rv⟩
  stop := fun i H1 Z1 m x M hi => ⟨vs, .inl (Rd.ext x rd o).1, by rw [← reps_len r]; exact hi⟩
theorem its_tup {K : PySem.W.Frag} {H : Hp} {Z : Zn} {xs : List D} {vs : List V} {a : Addr} (rd : Rd H a (.tup vs)) (o : Z.out a) (r : Reps H Z xs vs) : Its (Itt K a) H Z xs where
  go := fun i H1 Z1 m x M hi => by
    obtain ⟨d, e⟩ : ∃ d, xs[i]? = some d := ⟨_, List.getElem?_eq_getElem hi⟩
    obtain ⟨v, ev, _⟩ := reps_get r e
    exact ⟨vs, v, .inl (Rd.ext x rd o).1, ev⟩
  yld := fun i H1 Z1 m v H' d x M e q => by
    obtain ⟨e1, e2⟩ := q
    subst e1
    obtain ⟨v', ev, rv⟩ := reps_get r e
    have q := e2 vs (.inl (Rd.ext x rd o).1)
    rw [ev] at q; cases q
    exact ⟨.refl _ _, M, Rep.ext x _ _ rv⟩
  stop := fun i H1 Z1 m x M hi => ⟨vs, .inl (Rd.ext x rd o).1, by rw [← reps_len r]; exact hi⟩
theorem its_list' {K : PySem.W.Frag} {H : Hp} {Z : Zn} {xs : List D} {vs : List V} {a : Addr} (rd : Rd H a (.lst vs)) (o : Z.out a) (r : Reps H Z xs vs) : Its (Itl K a) H Z xs where
  go := fun i H1 Z1 m x M hi => by
    obtain ⟨d, e⟩ : ∃ d, xs[i]? = some d := ⟨_, List.getElem?_eq_getElem hi⟩
    obtain ⟨v, ev, _⟩ := reps_get r e
    exact ⟨vs, v, .inl (Rd.ext x rd o).1, ev⟩
  yld := fun i H1 Z1 m v H' d x M e q => by
    obtain ⟨e1, e2⟩ := q
    subst e1
    obtain ⟨v', ev, rv⟩ := reps_get r e
    have q := e2 vs (.inl (Rd.ext x rd o).1)
    rw [ev] at q; cases q
    exact ⟨.refl _ _, M, Rep.ext x _ _ rv⟩
  stop := fun i H1 Z1 m x M hi => ⟨vs, .inl (Rd.ext x rd o).1, by rw [← reps_len r]; exact hi⟩
theorem itm_list {K : PySem.W.Frag} {a : Addr} : ItM (Itl K a) a where
  go := fun i H vs x e ex => ⟨vs, x, .inl (.inl e), ex⟩
  yld := fun i H vs x H' e q => ⟨q.1, q.2 vs (.inl (.inl e))⟩
  stop := fun i H vs e hi => ⟨vs, .inl (.inl e), hi⟩
def srcOf (d : D) (m : Mem) : Res Src := match d with
  | .tup xs => .ok (.its xs) m
  | .lst xs => .ok (.its xs) m
  | .scr xs => .ok (.its xs) m
  | .ref n => (match m[n]? with | some (.lst _) => .ok (.mem n) m | _ => .bad)
  | _ => .bad
@[simp] theorem srcOf_tup (xs : List D) (m : Mem) : srcOf (.tup xs) m = .ok (.its xs) m := rfl
@[simp] theorem srcOf_scr (xs : List D) (m : Mem) : srcOf (.scr xs) m = .ok (.its xs) m := rfl
@[simp] theorem srcOf_lst (xs : List D) (m : Mem) : srcOf (.lst xs) m = .ok (.its xs) m := rfl
def iE (f : EF) : IF := fun σ m => (f σ m).bind srcOf
section
variable {X : Cx} {W : WX} {tg : Expr} {pos : Pos}
theorem i_any {l : Expr} {f : EF} (hl : E X W l f) : I X W tg l (iE f) := by
  refine PI.by fun σ H R ⟨Z, σd, m, S, M, h⟩ => ?_
  have h2 := Fin.bind h
  cases ef : f σd m with
  | ok d m1 =>
    cases d with
    | tup xs =>
      refine ⟨_, pi_tup hl, Z, σd, m, S, M, ?_⟩
      rw [ef] at h2 ⊢
      intro H1 Z1 x1 M1 v r
      simp only [Rep] at r
      obtain ⟨a, vs, e, rd, o, rs⟩ := r
      exact ⟨a, e, ⟨vs, .inl rd⟩, h2 H1 Z1 x1 M1 H1 Z1 (.refl _ _) M1 _ (its_tup rd o rs)⟩
    | lst xs =>
      refine ⟨_, pi_list hl, Z, σd, m, S, M, ?_⟩
      rw [ef] at h2 ⊢
      intro H1 Z1 x1 M1 v r
      simp only [Rep] at r
      obtain ⟨a, vs, e, rd, o, rs⟩ := r
      exact ⟨a, e, ⟨vs, .inl (.inl rd)⟩, h2 H1 Z1 x1 M1 H1 Z1 (.refl _ _) M1 _ (its_list' (.inl rd) o rs)⟩
    | scr xs =>
      refine ⟨_, pi_list hl, Z, σd, m, S, M, ?_⟩
      rw [ef] at h2 ⊢
      intro H1 Z1 x1 M1 v r
      simp only [Rep] at r
      obtain ⟨a, vs, e, rd, o, rs⟩ := r
      exact ⟨a, e, ⟨vs, .inl rd⟩, h2 H1 Z1 x1 M1 H1 Z1 (.refl _ _) M1 _ (its_list' rd o rs)⟩
    | adr b => refine ⟨_, pi_list hl, Z, σd, m, S, M, ?_⟩; rw [ef] at h2 ⊢; exact fun H1 Z1 x1 M1 => (h2 H1 Z1 x1 M1).elim
    | ref n =>
      refine ⟨_, pi_list hl, Z, σd, m, S, M, ?_⟩
      rw [ef] at h2 ⊢
      intro H1 Z1 x1 M1 v r
      simp only [Rep] at r
      obtain ⟨a, ea, e⟩ := r
      have h3 := h2 H1 Z1 x1 M1
      simp only [srcOf] at h3
      split at h3
      · rename_i ys em
        obtain ⟨vs, hv, _⟩ := M1.obj n a _ ea em
        exact ⟨a, e, ⟨vs, .inl (.inl hv)⟩, h3 H1 Z1 (.refl _ _) M1 _ ⟨a, ea, itm_list⟩⟩
      · exact h3.elim
    | non => refine ⟨_, pi_list hl, Z, σd, m, S, M, ?_⟩; rw [ef] at h2 ⊢; exact fun H1 Z1 x1 M1 => (h2 H1 Z1 x1 M1).elim
    | bl b => refine ⟨_, pi_list hl, Z, σd, m, S, M, ?_⟩; rw [ef] at h2 ⊢; exact fun H1 Z1 x1 M1 => (h2 H1 Z1 x1 M1).elim
    | int i => refine ⟨_, pi_list hl, Z, σd, m, S, M, ?_⟩; rw [ef] at h2 ⊢; exact fun H1 Z1 x1 M1 => (h2 H1 Z1 x1 M1).elim
    | str x => refine ⟨_, pi_list hl, Z, σd, m, S, M, ?_⟩; rw [ef] at h2 ⊢; exact fun H1 Z1 x1 M1 => (h2 H1 Z1 x1 M1).elim
  | exc c m1 => refine ⟨_, pi_list hl, Z, σd, m, S, M, ?_⟩; rw [ef] at h2 ⊢; exact h2
  | bad => rw [ef] at h2; exact h2.elim
/-- range -/
def rngL (lo : Int) (n : Nat) : List D := (List.range n).map fun (i : Nat) => D.int (lo + i)
def rngC (lo c : Int) (n : Nat) : List D := (List.range n).map fun (i : Nat) => D.int (lo + i * c)
def bnd (i : Int) : Bool := decide (i.natAbs ≤ 1000000000)
def range1 (ds : List D) (m : Mem) : Res Src := match ds with | [.int j] => if bnd j then .ok (.its (rngL 0 j.toNat)) m else .bad | _ => .bad
def range2 (ds : List D) (m : Mem) : Res Src := match ds with | [.int i, .int j] => if bnd i && bnd j then .ok (.its (rngL i (j - i).toNat)) m else .bad | _ => .bad
/-- range(i, j, -1) -/
def range3 (ds : List D) (m : Mem) : Res Src := match ds with | [.int i, .int j, .int c] => if bnd i && bnd j && decide (c = -1) then .ok (.its (rngC i (-1) (i - j).toNat)) m else .bad | _ => .bad
def iA (op : List D → Mem → Res Src) (a : AF) : IF := fun σ m => (a σ m).bind op
theorem its_rng {lo : Int} {n : Nat} {H : Hp} {Z : Zn} : Its (Itr lo n) H Z (rngL lo n) where
  go := fun i H Z m x M hi => by simpa [rngL, Itr] using hi
  yld := fun i H Z m v H' d x M e q => by
    obtain ⟨e1, e2⟩ := q
    subst e1
    refine ⟨.refl _ _, M, ?_⟩
    unfold rngL at e
    rw [List.getElem?_map] at e
    cases er : (List.range n)[i]? with
    | none => rw [er] at e; cases e
    | some j =>
      rw [er] at e
      obtain ⟨hi, ei⟩ := List.getElem?_eq_some_iff.mp er
      rw [List.getElem_range] at ei
      subst ei
      cases e
      simp only [Rep]
      exact e2
  stop := fun i H Z m x M hi => by simpa [rngL, Itr] using hi
theorem its_rngC {lo c : Int} {n : Nat} {H : Hp} {Z : Zn} : Its (Itc lo c n) H Z (rngC lo c n) where
  go := fun i H Z m x M hi => by simpa [rngC, Itc] using hi
  yld := fun i H Z m v H' d x M e q => by
    obtain ⟨e1, e2⟩ := q
    subst e1
    refine ⟨.refl _ _, M, ?_⟩
    unfold rngC at e
    rw [List.getElem?_map] at e
    cases er : (List.range n)[i]? with
    | none => rw [er] at e; cases e
    | some j =>
      rw [er] at e
      obtain ⟨hi, ei⟩ := List.getElem?_eq_some_iff.mp er
      rw [List.getElem_range] at ei
      subst ei
      cases e
      simp only [Rep]
      exact e2
  stop := fun i H Z m x M hi => by simpa [rngC, Itc] using hi
theorem bnd_iff {i : Int} : bnd i = true ↔ -1000000000 ≤ i ∧ i ≤ 1000000000 := by
  unfold bnd
  rw [decide_eq_true_iff]
  omega
theorem reps1 {H : Hp} {Z : Zn} {d : D} {vs : List V} (r : Reps H Z [d] vs) : ∃ v, vs = [v] ∧ Rep H Z d v := by
  simp only [Reps] at r
  obtain ⟨v, _, rfl, r1, rfl⟩ := r
  exact ⟨v, rfl, r1⟩
theorem reps2 {H : Hp} {Z : Zn} {d e : D} {vs : List V} (r : Reps H Z [d, e] vs) : ∃ v u, vs = [v, u] ∧ Rep H Z d v ∧ Rep H Z e u := by
  simp only [Reps] at r
  obtain ⟨v, _, rfl, r1, u, _, rfl, r2, rfl⟩ := r
  exact ⟨v, u, rfl, r1, r2⟩
theorem reps3 {H : Hp} {Z : Zn} {d e f : D} {vs : List V} (r : Reps H Z [d, e, f] vs) : ∃ v u w, vs = [v, u, w] ∧ Rep H Z d v ∧ Rep H Z e u ∧ Rep H Z f w := by
  simp only [Reps] at r
  obtain ⟨v, _, rfl, r1, u, _, rfl, r2, w, _, rfl, r3, rfl⟩ := r
  exact ⟨v, u, w, rfl, r1, r2, r3⟩
theorem i_range1 {a : Expr} {fa : AF} {p : Pos} (hg : Gl X "range") (hm : X.mg "range" = none) (ha : AA X W [a] fa) (hs : starEach [a] X.env = [(false, eval a X.env)] := by rfl) : I X W tg (.Call (.Name "range" p) [a] [] pos) (iA range1 fa) := by
  refine PI.imp (pi_range1 hg hm ha hs) fun σ H R ⟨Z, σd, m, S, M, h⟩ => ?_
  refine ⟨Z, σd, m, S, M, (Fin.bind h).mono fun ds m1 H1 Z1 x1 M1 h1 vs r => ?_⟩
  unfold range1 at h1
  split at h1
  · rename_i j
    obtain ⟨v, rfl, rv⟩ := reps1 r
    simp only [Rep] at rv
    subst rv
    by_cases hb : bnd j = true
    · rw [if_pos hb] at h1
      have hb' := bnd_iff.mp hb
      exact ⟨j, rfl, by omega, by omega, h1 H1 Z1 (.refl _ _) M1 _ its_rng⟩
    · rw [if_neg hb] at h1; exact h1.elim
  · exact h1.elim
theorem i_range2 {a b : Expr} {fa : AF} {p : Pos} (hg : Gl X "range") (hm : X.mg "range" = none) (ha : AA X W [a, b] fa) (hs : starEach [a, b] X.env = [(false, eval a X.env), (false, eval b X.env)] := by rfl) (hs2 : starEach [b] X.env = [(false, eval b X.env)] := by rfl) : I X W tg (.Call (.Name "range" p) [a, b] [] pos) (iA range2 fa) := by
  refine PI.imp (pi_range2 hg hm ha hs hs2) fun σ H R ⟨Z, σd, m, S, M, h⟩ => ?_
  refine ⟨Z, σd, m, S, M, (Fin.bind h).mono fun ds m1 H1 Z1 x1 M1 h1 vs r => ?_⟩
  unfold range2 at h1
  split at h1
  · rename_i i j
    obtain ⟨v, u, rfl, rv, ru⟩ := reps2 r
    simp only [Rep] at rv ru
    subst rv ru
    by_cases hb : (bnd i && bnd j) = true
    · rw [if_pos hb] at h1
      have hb1 := bnd_iff.mp (Bool.and_eq_true_iff.mp hb).1
      have hb2 := bnd_iff.mp (Bool.and_eq_true_iff.mp hb).2
      exact ⟨i, j, rfl, by omega, h1 H1 Z1 (.refl _ _) M1 _ its_rng⟩
    · rw [if_neg hb] at h1; exact h1.elim
  · exact h1.elim
theorem i_range3 {a b c : Expr} {fa : AF} {p : Pos} (hg : Gl X "range") (hm : X.mg "range" = none) (ha : AA X W [a, b, c] fa)
    (hs : starEach [a, b, c] X.env = (false, eval a X.env) :: starEach [b, c] X.env := by rfl) (hpl : (backTo pos (starEach [b, c] X.env)).any (·.1) = false := by rfl) : I X W tg (.Call (.Name "range" p) [a, b, c] [] pos) (iA range3 fa) := by
  refine PI.imp (pi_range3 hg hm ha hs hpl) fun σ H R ⟨Z, σd, m, S, M, h⟩ => ?_
  refine ⟨Z, σd, m, S, M, (Fin.bind h).mono fun ds m1 H1 Z1 x1 M1 h1 vs r => ?_⟩
  unfold range3 at h1
  split at h1
  · rename_i i j c
    obtain ⟨v, u, w, rfl, rv, ru, rw'⟩ := reps3 r
    simp only [Rep] at rv ru rw'
    subst rv ru rw'
    by_cases hb : (bnd i && bnd j && decide (c = -1)) = true
    · rw [if_pos hb] at h1
      simp only [Bool.and_eq_true, bnd_iff, decide_eq_true_eq] at hb
      obtain ⟨⟨hb1, hb2⟩, hc⟩ := hb
      subst hc
      exact ⟨i, j, -1, (i - j).toNat, rfl, RgC.neg (by omega) (by omega) (by omega) (by omega), h1 H1 Z1 (.refl _ _) M1 _ its_rngC⟩
    · rw [if_neg hb] at h1; exact h1.elim
  · exact h1.elim
/-- zip -/
def zipD (ds : List D) (m : Mem) : Res Src := match ds with
  | [.tup xs, .tup ys] => .ok (.its ((xs.zip ys).map fun p => D.tup [p.1, p.2])) m
  | [.lst xs, .lst ys] => .ok (.its ((xs.zip ys).map fun p => D.tup [p.1, p.2])) m
  | _ => .bad
end
end PD
namespace PD
open PySem PySem.Spec L2
open PyProof.Rows hiding St

section
variable {X : Cx} {W : WX} {tg : Expr} {pos : Pos}
theorem getElem_zip {α β : Type} : ∀ {xs : List α} {ys : List β} {i : Nat} {p : α × β}, (xs.zip ys)[i]? = some p → xs[i]? = some p.1 ∧ ys[i]? = some p.2
  | [], ys, i, p, h => by simp at h
  | x :: xs, [], i, p, h => by simp at h
  | x :: xs, y :: ys, 0, p, h => by simp at h; subst h; simp
  | x :: xs, y :: ys, i + 1, p, h => by
    simp only [List.zip_cons_cons, List.getElem?_cons_succ] at h ⊢
    exact getElem_zip h
theorem its_zipT {K : PySem.W.Frag} {H : Hp} {Z : Zn} {xs ys : List D} {vs us : List V} {a b : Addr} (rd : Rd H a (.tup vs)) (o : Z.out a) (r : Reps H Z xs vs) (rd' : Rd H b (.tup us)) (o' : Z.out b) (r' : Reps H Z ys us) :
    Its (RZ.ItzT K a b) H Z ((xs.zip ys).map fun p => D.tup [p.1, p.2]) where
  go := fun i H1 Z1 m x M hi => by
    rw [List.length_map, List.length_zip] at hi
    obtain ⟨d, e⟩ : ∃ d, xs[i]? = some d := ⟨_, List.getElem?_eq_getElem (by omega)⟩
    obtain ⟨d', e'⟩ : ∃ d, ys[i]? = some d := ⟨_, List.getElem?_eq_getElem (by omega)⟩
    obtain ⟨v, ev, _⟩ := reps_get r e
    obtain ⟨u, eu, _⟩ := reps_get r' e'
    exact ⟨vs, us, v, u, .inl (Rd.ext x rd o).1, .inl (Rd.ext x rd' o').1, ev, eu⟩
  yld := fun i H1 Z1 m v H' d x M e q => by
    obtain ⟨T, x1, y1, rfl, nT, rfl, f1, f2⟩ := q
    rw [List.getElem?_map] at e
    cases ez : (xs.zip ys)[i]? with
    | none => rw [ez] at e; cases e
    | some p =>
      rw [ez] at e
      cases e
      obtain ⟨g1, g2⟩ := getElem_zip ez
      obtain ⟨v, ev, rv⟩ := reps_get r g1
      obtain ⟨u, eu, ru⟩ := reps_get r' g2
      have q1 := f1 vs (.inl (Rd.ext x rd o).1)
      rw [ev] at q1; cases q1
      have q2 := f2 us (.inl (Rd.ext x rd' o').1)
      rw [eu] at q2; cases q2
      refine ⟨Ext.laid M nT, M.laid nT, rep_tup_new M ?_ nT⟩
      simp only [Reps]
      exact ⟨_, [_], rfl, Rep.ext x _ _ rv, _, [], rfl, Rep.ext x _ _ ru, rfl⟩
  stop := fun i H1 Z1 m x M hi => by
    rw [List.length_map, List.length_zip, reps_len r, reps_len r'] at hi
    exact ⟨vs, us, .inl (Rd.ext x rd o).1, .inl (Rd.ext x rd' o').1, by omega⟩
theorem its_zipL {K : PySem.W.Frag} {H : Hp} {Z : Zn} {xs ys : List D} {vs us : List V} {a b : Addr} (rd : Rd H a (.lst vs)) (o : Z.out a) (r : Reps H Z xs vs) (rd' : Rd H b (.lst us)) (o' : Z.out b) (r' : Reps H Z ys us) :
    Its (Itz K a b) H Z ((xs.zip ys).map fun p => D.tup [p.1, p.2]) where
  go := fun i H1 Z1 m x M hi => by
    rw [List.length_map, List.length_zip] at hi
    obtain ⟨d, e⟩ : ∃ d, xs[i]? = some d := ⟨_, List.getElem?_eq_getElem (by omega)⟩
    obtain ⟨d', e'⟩ : ∃ d, ys[i]? = some d := ⟨_, List.getElem?_eq_getElem (by omega)⟩
    obtain ⟨v, ev, _⟩ := reps_get r e
    obtain ⟨u, eu, _⟩ := reps_get r' e'
    exact ⟨vs, us, v, u, .inl (Rd.ext x rd o).1, .inl (Rd.ext x rd' o').1, ev, eu⟩
  yld := fun i H1 Z1 m v H' d x M e q => by
    obtain ⟨T, x1, y1, rfl, nT, rfl, f1, f2⟩ := q
    rw [List.getElem?_map] at e
    cases ez : (xs.zip ys)[i]? with
    | none => rw [ez] at e; cases e
    | some p =>
      rw [ez] at e
      cases e
      obtain ⟨g1, g2⟩ := getElem_zip ez
      obtain ⟨v, ev, rv⟩ := reps_get r g1
      obtain ⟨u, eu, ru⟩ := reps_get r' g2
      have q1 := f1 vs (.inl (Rd.ext x rd o).1)
      rw [ev] at q1; cases q1
      have q2 := f2 us (.inl (Rd.ext x rd' o').1)
      rw [eu] at q2; cases q2
      refine ⟨Ext.laid M nT, M.laid nT, rep_tup_new M ?_ nT⟩
      simp only [Reps]
      exact ⟨_, [_], rfl, Rep.ext x _ _ rv, _, [], rfl, Rep.ext x _ _ ru, rfl⟩
  stop := fun i H1 Z1 m x M hi => by
    rw [List.length_map, List.length_zip, reps_len r, reps_len r'] at hi
    exact ⟨vs, us, .inl (Rd.ext x rd o).1, .inl (Rd.ext x rd' o').1, by omega⟩
theorem i_zip {e e2 : Expr} {fa : AF} {p tpos : Pos} {elts : List Expr} {kk : Nat} (hg : Gl X "zip") (hm : X.mg "zip" = none) (ha : AA X W [e, e2] fa)
    (hs : starEach [e, e2] X.env = (false, eval e X.env) :: starEach [e2] X.env := by rfl) (hpl : (backTo pos (starEach [e2] X.env)).any (·.1) = false := by rfl) :
    I X W (.Tuple elts kk tpos) (.Call (.Name "zip" p) [e, e2] [] pos) (iA zipD fa) := by
  refine PI.imp (RZ.pi_zipA hg hm ha hs hpl) fun σ H R ⟨Z, σd, m, S, M, h⟩ => ?_
  refine ⟨Z, σd, m, S, M, (Fin.bind h).mono fun ds m1 H1 Z1 x1 M1 h1 vs r => ?_⟩
  unfold zipD at h1
  split at h1
  · rename_i xs ys
    obtain ⟨v, u, rfl, rv, ru⟩ := reps2 r
    simp only [Rep] at rv ru
    obtain ⟨a, vs, rfl, rd, o, rs⟩ := rv
    obtain ⟨b, us, rfl, rd', o', rs'⟩ := ru
    exact ⟨a, b, vs, us, rfl, .inr ⟨.inl rd, .inl rd', h1 H1 Z1 (.refl _ _) M1 _ (its_zipT rd o rs rd' o' rs')⟩⟩
  · rename_i xs ys
    obtain ⟨v, u, rfl, rv, ru⟩ := reps2 r
    simp only [Rep] at rv ru
    obtain ⟨a, vs, rfl, rd, o, rs⟩ := rv
    obtain ⟨b, us, rfl, rd', o', rs'⟩ := ru
    exact ⟨a, b, vs, us, rfl, .inl ⟨.inl (.inl rd), .inl (.inl rd'), h1 H1 Z1 (.refl _ _) M1 _ (its_zipL (.inl rd) o rs (.inl rd') o' rs')⟩⟩
  · exact h1.elim
end

/-! ### for -/
def forL (g : GF) (b : SF) : List D → SF
  | [], σ, m => .nx σ m
  | x :: xs, σ, m => (g x σ m).then fun σ1 m1 => match b σ1 m1 with
    | .nx σ2 m2 => forL g b xs σ2 m2
    | .ct σ2 m2 => forL g b xs σ2 m2
    | .bk σ2 m2 => .nx σ2 m2
    | r => r
def forR (a : Nat) (g : GF) (b : SF) : Nat → Nat → SF
  | 0, _, _, _ => .bad
  | n + 1, i, σ, m => match m[a]? with
    | some (.lst xs) => (match xs[i]? with
      | some x => (g x σ m).then fun σ1 m1 => (match b σ1 m1 with
        | .nx σ2 m2 => forR a g b n (i + 1) σ2 m2
        | .ct σ2 m2 => forR a g b n (i + 1) σ2 m2
        | .bk σ2 m2 => .nx σ2 m2
        | r => r)
      | none => .nx σ m)
    | _ => .bad
def forS (g : GF) (b : SF) (s : Src) : SF := match s with | .its xs => forL g b xs | .mem a => forR a g b FUEL 0
@[simp] theorem forS_its (g : GF) (b : SF) (xs : List D) : forS g b (.its xs) = forL g b xs := rfl
def sFor (i : IF) (g : GF) (b : SF) : SF := fun σ m => (i σ m).st σ fun s m => forS g b s σ m
section
variable {X : Cx} {W : WX} {tg : Expr} {pos : Pos}
/-- one turn's end -/
def turnK (r : SRes) (k : SF) : SRes := match r with
  | .nx σ2 m2 => k σ2 m2
  | .ct σ2 m2 => k σ2 m2
  | .bk σ2 m2 => .nx σ2 m2
  | r => r
theorem fin_turn {H : Hp} {Z : Zn} {r : SRes} {k : SF} {D : Ends} (h : FinS X W H Z (turnK r k) D) : FinS X W H Z r { D with nx := fun σ' H' => ∃ Z' σ1 m1, Ext Z H Z' H' ∧ SRep H' Z' σ1 σ' ∧ MRep H' Z' m1 ∧ FinS X W H' Z' (k σ1 m1) D, ct := fun σ' H' => ∃ Z' σ1 m1, Ext Z H Z' H' ∧ SRep H' Z' σ1 σ' ∧ MRep H' Z' m1 ∧ FinS X W H' Z' (k σ1 m1) D, bk := D.nx } := by
  cases r with
  | nx σ1 m1 => exact fun H' Z' σ' x M S => ⟨Z', σ1, m1, x, S, M, FinS.shift x h⟩
  | ct σ1 m1 => exact fun H' Z' σ' x M S => ⟨Z', σ1, m1, x, S, M, FinS.shift x h⟩
  | bk σ1 m1 => exact h
  | rt d m1 => exact h
  | exc c σ1 m1 => exact h
  | bad => exact h
theorem FinS.imp {H : Hp} {Z : Zn} {r : SRes} {D D' : Ends} (h : FinS X W H Z r D) (h1 : ∀ σ H, D.nx σ H → D'.nx σ H) (h2 : ∀ σ H, D.ct σ H → D'.ct σ H) (h3 : ∀ σ H, D.bk σ H → D'.bk σ H) (h4 : ∀ v H, D.rt v H → D'.rt v H) : FinS X W H Z r D' := by
  cases r with
  | nx σ1 m1 => exact fun H' Z' σ' x M S => h1 _ _ (h H' Z' σ' x M S)
  | ct σ1 m1 => exact fun H' Z' σ' x M S => h2 _ _ (h H' Z' σ' x M S)
  | bk σ1 m1 => exact fun H' Z' σ' x M S => h3 _ _ (h H' Z' σ' x M S)
  | rt d m1 => exact fun H' Z' σ' x M S => h4 _ _ (h H' Z' σ' x M S)
  | exc c σ1 m1 => exact h
  | bad => exact h
theorem forL_cons (g : GF) (b : SF) (x : D) (xs : List D) (σ : Sg) (m : Mem) : forL g b (x :: xs) σ m = (g x σ m).then fun σ1 m1 => turnK (b σ1 m1) (forL g b xs) := rfl
theorem s_for {iter : Expr} {body : List Stmt} {fi : IF} {g : GF} {fb : SF} (hp : PassesOwn (model X.prog X.w) X.A X.env X.xe) (hc : X.calm = true) (hi : I X W tg iter fi) {ws : List Nat} (hg : G X ws tg g) (ok : GOk g) (hb : Ss X W body fb)
    (hs : ∀ x, foldedSetIterable iter X.env x = pure x := by intro _; rfl) : S1 X W (.For tg iter body [] pos) (sFor fi g fb) := by
  refine PS.imp (ps_for hp hc hi hg hb hs) fun D σ H ⟨Z, σd, m, S, M, h⟩ => ?_
  refine ⟨Z, σd, m, S, M, (Fin.st h S).mono fun s m1 H1 Z1 x1 M1 h1 J hJ => ?_⟩
  cases s with
  | its xs =>
    have hJ : Its J H1 Z1 xs := hJ
    refine ⟨fun i k σ H => k = xs.length - i ∧ i ≤ xs.length ∧ ∃ Z σd m, Ext Z1 H1 Z H ∧ SRep H Z σd σ ∧ MRep H Z m ∧ FinS X W H Z (forL g fb (xs.drop i) σd m) D, ⟨_, rfl, Nat.zero_le _, Z1, σd, m1, .refl _ _, S.ext x1, M1, h1⟩, ?_⟩
    rintro i k σ H ⟨rfl, hi, Z, σd, m, x, S, M, h⟩
    by_cases hlt : i < xs.length
    · refine .inr ⟨hJ.go i H Z m x M hlt, _, fun σ' H' q => ⟨xs.length - (i + 1), by omega, rfl, hlt, q⟩, fun v H' y => ?_⟩
      have ed : xs[i]? = some xs[i] := List.getElem?_eq_getElem hlt
      obtain ⟨x', M', r'⟩ := hJ.yld i H Z m v H' xs[i] x M ed y
      have h := FinS.shift x' h
      rw [List.drop_eq_getElem_cons hlt, forL_cons] at h
      refine ⟨Z, σd, m, xs[i], S.ext x', M', r', ?_⟩
      rcases ok xs[i] σd m with ⟨σ2, m2, e⟩ | e
      · rw [e] at h
        refine ⟨σ2, m2, e, fun H3 Z3 σ3 x3 M3 S3 _ => ⟨Z3, σ2, m2, S3, M3, ?_⟩⟩
        have h := fin_turn (FinS.shift x3 h)
        have tr := (x.trans x').trans x3
        exact h.imp (fun σ4 H4 ⟨Z4, s4, m4, x4, q⟩ => ⟨Z4, s4, m4, tr.trans x4, q⟩) (fun σ4 H4 ⟨Z4, s4, m4, x4, q⟩ => ⟨Z4, s4, m4, tr.trans x4, q⟩) (fun _ _ q => q) fun _ _ q => q
      · rw [e] at h
        exact h.elim
    · have e : i = xs.length := by omega
      subst e
      rw [List.drop_length] at h
      exact .inl ⟨hJ.stop _ H Z m x M (Nat.le_refl _), h H Z σ (.refl _ _) M S⟩
  | mem n =>
    obtain ⟨a, ea, hJ⟩ := hJ
    refine ⟨fun i k σ H => ∃ Z σd m, Ext Z1 H1 Z H ∧ SRep H Z σd σ ∧ MRep H Z m ∧ FinS X W H Z (forR n g fb k i σd m) D, ⟨FUEL, Z1, σd, m1, .refl _ _, S.ext x1, M1, h1⟩, ?_⟩
    rintro i k σ H ⟨Z, σd, m, x, S, M, h⟩
    cases k with
    | zero => exact h.elim
    | succ k =>
      have ea' : Z.ρ[n]? = some a := by
        obtain ⟨more, em⟩ := x.pre
        rw [em, List.getElem?_append_left (List.getElem?_eq_some_iff.mp ea).1]
        exact ea
      simp only [forR] at h
      split at h
      · rename_i ys em
        obtain ⟨vs, hv, rs⟩ := M.obj n a _ ea' em
        split at h
        · rename_i d ed
          obtain ⟨v, ev, rv⟩ := reps_get rs ed
          refine .inr ⟨hJ.go i H vs v hv ev, _, fun σ' H' q => ⟨k, Nat.lt_succ_self _, q⟩, fun v' H' y => ?_⟩
          obtain ⟨rfl, ev'⟩ := hJ.yld i H vs v' H' hv y
          rw [ev] at ev'
          cases ev'
          refine ⟨Z, σd, m, d, S, M, rv, ?_⟩
          rcases ok d σd m with ⟨σ2, m2, e⟩ | e
          · rw [e] at h
            refine ⟨σ2, m2, e, fun H3 Z3 σ3 x3 M3 S3 _ => ⟨Z3, σ2, m2, S3, M3, ?_⟩⟩
            have h : FinS X W H' Z (turnK (fb σ2 m2) (forR n g fb k (i + 1))) D := h
            have h := fin_turn (FinS.shift x3 h)
            have tr := x.trans x3
            exact h.imp (fun σ4 H4 ⟨Z4, s4, m4, x4, q⟩ => ⟨Z4, s4, m4, tr.trans x4, q⟩) (fun σ4 H4 ⟨Z4, s4, m4, x4, q⟩ => ⟨Z4, s4, m4, tr.trans x4, q⟩) (fun _ _ q => q) fun _ _ q => q
          · rw [e] at h
            exact h.elim
        · rename_i ed
          refine .inl ⟨hJ.stop i H vs hv ?_, h H Z σ (.refl _ _) M S⟩
          rw [← reps_len rs]
          exact List.getElem?_eq_none_iff.mp ed
      · exact h.elim

/-! ### comprehensions -/
def wipeD (σ : Sg) : List Nat → Sg
  | [] => σ
  | v :: vs => (wipeD σ vs).set v none
theorem SRep.wipe {H : Hp} {Z : Zn} {σd : Sg} {σ : St} (S : SRep H Z σd σ) : ∀ vs, SRep H Z (wipeD σd vs) (L2.wipe σ vs)
  | [] => S
  | v :: vs => by
    have ih := SRep.wipe S vs
    unfold wipeD L2.wipe
    refine ⟨by simp [ih.len], fun i d e => ?_⟩
    by_cases h : v = i
    · subst h
      by_cases hi : v < (wipeD σd vs).length
      · rw [List.getElem?_set_self hi] at e; cases e
      · rw [List.getElem?_eq_none (by simpa using hi)] at e; cases e
    · rw [List.getElem?_set_ne h] at e ⊢
      exact ih.val i d e

mutual
theorem rep_phi {H : Hp} {Z : Zn} {m : Mem} {p : Addr} {o : HO} (M : MRep H Z m) (n : H p = none) : ∀ (d : D) (v : V), Rep H Z d v → Rep (upd H p o) ⟨Z.ρ, p :: Z.φ⟩ d v
  | .non, v, h => by simp only [Rep] at h ⊢; exact h
  | .bl b, v, h => by simp only [Rep] at h ⊢; exact h
  | .int i, v, h => by simp only [Rep] at h ⊢; exact h
  | .str s, v, h => by simp only [Rep] at h ⊢; exact h
  | .tup xs, v, h => by
    simp only [Rep] at h ⊢
    obtain ⟨a, vs, e, r, k, rs⟩ := h
    obtain ⟨u, hu⟩ := Rd.there r
    exact ⟨a, vs, e, (Rd.ext (Ext.laid M n) r k).1, ⟨k.1, fun z => (List.mem_cons.mp z).elim (fun e => ne_of_none hu n e) k.2⟩, reps_phi M n xs vs rs⟩
  | .lst xs, v, h => by
    simp only [Rep] at h ⊢
    obtain ⟨a, vs, e, r, k, rs⟩ := h
    have hu := r
    exact ⟨a, vs, e, (by rw [upd_ne (ne_of_none hu n)]; exact r), ⟨k.1, fun z => (List.mem_cons.mp z).elim (fun e => ne_of_none hu n e) k.2⟩, reps_phi M n xs vs rs⟩
  | .adr a, v, h => by simp only [Rep] at h ⊢; exact h
  | .scr xs, v, h => by
    simp only [Rep] at h ⊢
    obtain ⟨a, vs, e, r, k, rs⟩ := h
    obtain ⟨u, hu⟩ := Rd.there r
    exact ⟨a, vs, e, (Rd.ext (Ext.laid M n) r k).1, ⟨k.1, fun z => (List.mem_cons.mp z).elim (fun e => ne_of_none hu n e) k.2⟩, reps_phi M n xs vs rs⟩
  | .ref i, v, h => by simp only [Rep] at h ⊢; exact h
theorem reps_phi {H : Hp} {Z : Zn} {m : Mem} {p : Addr} {o : HO} (M : MRep H Z m) (n : H p = none) : ∀ (ds : List D) (vs : List V), Reps H Z ds vs → Reps (upd H p o) ⟨Z.ρ, p :: Z.φ⟩ ds vs
  | [], vs, h => by simp only [Reps] at h ⊢; exact h
  | d :: ds, vs, h => by
    simp only [Reps] at h ⊢
    obtain ⟨v, r, e, h1, h2⟩ := h
    exact ⟨v, r, e, rep_phi M n d v h1, reps_phi M n ds r h2⟩
end
mutual
theorem rep_put {H : Hp} {Z : Zn} {p : Addr} {o : HO} (n : p ∈ Z.φ) : ∀ (d : D) (v : V), Rep H Z d v → Rep (upd H p o) Z d v
  | .non, v, h => by simp only [Rep] at h ⊢; exact h
  | .bl b, v, h => by simp only [Rep] at h ⊢; exact h
  | .int i, v, h => by simp only [Rep] at h ⊢; exact h
  | .str s, v, h => by simp only [Rep] at h ⊢; exact h
  | .tup xs, v, h => by
    simp only [Rep] at h ⊢
    obtain ⟨a, vs, e, r, k, rs⟩ := h
    have ne : a ≠ p := fun z => k.2 (by rw [z]; exact n)
    exact ⟨a, vs, e, by unfold Rd; rw [upd_ne ne]; exact r, k, reps_put n xs vs rs⟩
  | .lst xs, v, h => by
    simp only [Rep] at h ⊢
    obtain ⟨a, vs, e, r, k, rs⟩ := h
    have ne : a ≠ p := fun z => k.2 (by rw [z]; exact n)
    exact ⟨a, vs, e, by rw [upd_ne ne]; exact r, k, reps_put n xs vs rs⟩
  | .adr a, v, h => by simp only [Rep] at h ⊢; exact h
  | .scr xs, v, h => by
    simp only [Rep] at h ⊢
    obtain ⟨a, vs, e, r, k, rs⟩ := h
    have ne : a ≠ p := fun z => k.2 (by rw [z]; exact n)
    exact ⟨a, vs, e, by unfold Rd; rw [upd_ne ne]; exact r, k, reps_put n xs vs rs⟩
  | .ref i, v, h => by simp only [Rep] at h ⊢; exact h
theorem reps_put {H : Hp} {Z : Zn} {p : Addr} {o : HO} (n : p ∈ Z.φ) : ∀ (ds : List D) (vs : List V), Reps H Z ds vs → Reps (upd H p o) Z ds vs
  | [], vs, h => by simp only [Reps] at h ⊢; exact h
  | d :: ds, vs, h => by
    simp only [Reps] at h ⊢
    obtain ⟨v, r, e, h1, h2⟩ := h
    exact ⟨v, r, e, rep_put n d v h1, reps_put n ds r h2⟩
end
mutual
theorem rep_sub {H : Hp} {ρ φ φ' : List Addr} (k : ∀ a, a ∈ φ' → a ∈ φ) : ∀ (d : D) (v : V), Rep H ⟨ρ, φ⟩ d v → Rep H ⟨ρ, φ'⟩ d v
  | .non, v, h => by simp only [Rep] at h ⊢; exact h
  | .bl b, v, h => by simp only [Rep] at h ⊢; exact h
  | .int i, v, h => by simp only [Rep] at h ⊢; exact h
  | .str s, v, h => by simp only [Rep] at h ⊢; exact h
  | .tup xs, v, h => by
    simp only [Rep] at h ⊢
    obtain ⟨a, vs, e, r, n, rs⟩ := h
    exact ⟨a, vs, e, r, ⟨n.1, fun z => n.2 (k _ z)⟩, reps_sub k xs vs rs⟩
  | .lst xs, v, h => by
    simp only [Rep] at h ⊢
    obtain ⟨a, vs, e, r, n, rs⟩ := h
    exact ⟨a, vs, e, r, ⟨n.1, fun z => n.2 (k _ z)⟩, reps_sub k xs vs rs⟩
  | .adr a, v, h => by simp only [Rep] at h ⊢; exact h
  | .scr xs, v, h => by
    simp only [Rep] at h ⊢
    obtain ⟨a, vs, e, r, n, rs⟩ := h
    exact ⟨a, vs, e, r, ⟨n.1, fun z => n.2 (k _ z)⟩, reps_sub k xs vs rs⟩
  | .ref i, v, h => by simp only [Rep] at h ⊢; exact h
theorem reps_sub {H : Hp} {ρ φ φ' : List Addr} (k : ∀ a, a ∈ φ' → a ∈ φ) : ∀ (ds : List D) (vs : List V), Reps H ⟨ρ, φ⟩ ds vs → Reps H ⟨ρ, φ'⟩ ds vs
  | [], vs, h => by simp only [Reps] at h ⊢; exact h
  | d :: ds, vs, h => by
    simp only [Reps] at h ⊢
    obtain ⟨v, r, e, h1, h2⟩ := h
    exact ⟨v, r, e, rep_sub k d v h1, reps_sub k ds r h2⟩
end
theorem MRep.sub {H : Hp} {Z : Zn} {φ' : List Addr} {m : Mem} (k : ∀ a, a ∈ φ' → a ∈ Z.φ) (M : MRep H Z m) : MRep H ⟨Z.ρ, φ'⟩ m where
  len := M.len
  nd := M.nd
  off := fun a ha h => M.off a ha (k a h)
  asd := fun a h => M.asd a (k a h)
  obj := fun i a u e1 e2 => by
    have q := M.obj i a u e1 e2
    cases u with
    | lst xs =>
      obtain ⟨vs, h1, h2⟩ := q
      exact ⟨vs, h1, reps_sub (φ := Z.φ) k _ _ h2⟩
    | dct kvs =>
      obtain ⟨ks, h1, h2⟩ := q
      exact ⟨ks, h1, Paired.mapP h2 fun x y z => ⟨z.1, rep_sub (φ := Z.φ) k _ _ z.2⟩⟩
theorem MRep.put {H : Hp} {Z : Zn} {m : Mem} {p : Addr} {o : HO} (M : MRep H Z m) (n : p ∈ Z.φ) : MRep (upd H p o) Z m where
  len := M.len
  nd := M.nd
  off := M.off
  asd := fun a h => by
    by_cases e : a = p
    · subst e; exact ⟨o, upd_same⟩
    · obtain ⟨u, e'⟩ := M.asd a h
      exact ⟨u, by rw [upd_ne e]; exact e'⟩
  obj := fun i a u e1 e2 => by
    have q := M.obj i a u e1 e2
    have ne : a ≠ p := fun z => M.off a (List.mem_of_getElem? e1) (by rw [z]; exact n)
    have e : (upd H p o) a = H a := upd_ne ne
    cases u with
    | lst xs =>
      obtain ⟨vs, h1, h2⟩ := q
      exact ⟨vs, by rw [e]; exact h1, reps_put n _ _ h2⟩
    | dct kvs =>
      obtain ⟨ks, h1, h2⟩ := q
      exact ⟨ks, by rw [e]; exact h1, Paired.mapP h2 fun x y z => ⟨z.1, rep_put n _ _ z.2⟩⟩
def lcL (g : GF) (tt : TF) (te : EF) (σw : Sg) : List D → Mem → Res (List D)
  | [], m => .ok [] m
  | x :: xs, m => match g x σw m with
    | .nx σ1 m1 => (tt σ1 m1).bind fun b m2 => if b then (te σ1 m2).bind fun y m3 => (lcL g tt te σw xs m3).bind fun ys m4 => .ok (y :: ys) m4
        else lcL g tt te σw xs m2
    | _ => .bad
theorem MRep.phi {H : Hp} {Z : Zn} {m : Mem} {p : Addr} {o : HO} (M : MRep H Z m) (n : H p = none) : MRep (upd H p o) ⟨Z.ρ, p :: Z.φ⟩ m where
  len := M.len
  nd := M.nd
  off := fun a ha h => by
    rcases List.mem_cons.mp h with e | h
    · subst e; exact (M.out n).1 ha
    · exact M.off a ha h
  asd := fun a h => by
    rcases List.mem_cons.mp h with e | h
    · subst e; exact ⟨o, upd_same⟩
    · obtain ⟨u, e⟩ := M.asd a h
      exact ⟨u, by rw [upd_ne (ne_of_none e n)]; exact e⟩
  obj := fun i a u e1 e2 => by
    have q := M.obj i a u e1 e2
    obtain ⟨z, hz⟩ := q.there
    have e : (upd H p o) a = H a := upd_ne (ne_of_none hz n)
    have rp : ∀ xs vs, Reps H Z xs vs → Reps (upd H p o) ⟨Z.ρ, p :: Z.φ⟩ xs vs := fun xs vs r => reps_phi M n xs vs r
    cases u with
    | lst xs =>
      obtain ⟨vs, h1, h2⟩ := q
      exact ⟨vs, by rw [e]; exact h1, rp _ _ h2⟩
    | dct kvs =>
      obtain ⟨ks, h1, h2⟩ := q
      exact ⟨ks, by rw [e]; exact h1, Paired.mapP h2 fun x y z => ⟨z.1, rep_phi M n _ _ z.2⟩⟩
end
end PD
namespace PD
open PySem PySem.Spec L2
open PyProof.Rows hiding St

/-- .. over a list of the memory, as it stands at each turn -/
def lcR (a : Nat) (g : GF) (tt : TF) (te : EF) (σw : Sg) : Nat → Nat → Mem → Res (List D)
  | 0, _, _ => .bad
  | n + 1, i, m => match m[a]? with
    | some (.lst xs) => (match xs[i]? with
      | some x => (match g x σw m with
        | .nx σ1 m1 => (tt σ1 m1).bind fun b m2 => if b then (te σ1 m2).bind fun y m3 => (lcR a g tt te σw n (i + 1) m3).bind fun ys m4 => .ok (y :: ys) m4
            else lcR a g tt te σw n (i + 1) m2
        | _ => .bad)
      | none => .ok [] m)
    | _ => .bad
def lcS (g : GF) (tt : TF) (te : EF) (σw : Sg) (s : Src) (m : Mem) : Res (List D) := match s with
  | .its xs => lcL g tt te σw xs m
  | .mem a => lcR a g tt te σw FUEL 0 m
@[simp] theorem lcS_its (g : GF) (tt : TF) (te : EF) (σw : Sg) (xs : List D) (m : Mem) : lcS g tt te σw (.its xs) m = lcL g tt te σw xs m := rfl
/-- [elt for target in iter if ..] -/
def eLc (nw : Bool) (ws : List Nat) (fi : IF) (g : GF) (tt : TF) (te : EF) : EF := fun σ m =>
  (fi σ m).bind fun s m1 => (noexc (lcS g tt te (wipeD σ ws) s m1)).bind fun ys m2 => noexc (newL nw ys m2)
def tYesD : TF := fun _ m => .ok true m
abbrev W0 : WX := fun _ _ _ _ => False
theorem Ext.reset {Z Z' : Zn} {H H' : Hp} (x : Ext Z H Z' H') : Ext Z H ⟨Z'.ρ, Z.φ⟩ H' := ⟨fun _ h => h, fun _ h => .inl h, x.pre, x.keep, x.more⟩
theorem Ext.put {Z Z' : Zn} {H H' : Hp} {p : Addr} {o : HO} (x : Ext Z H Z' H') (n : H p = none) : Ext Z H Z' (upd H' p o) :=
  ⟨x.phi1, x.phi2, x.pre, fun a u h na => ⟨by rw [upd_ne (ne_of_none h n)]; exact (x.keep a u h na).1, (x.keep a u h na).2⟩, fun a u h => by
    obtain ⟨u', e⟩ := x.more a u h
    exact ⟨u', by rw [upd_ne (ne_of_none h n)]; exact e⟩⟩
theorem Ext.fresh {Z Z' : Zn} {H H' : Hp} (x : Ext Z H Z' H') {p : Addr} (n : H' p = none) : H p = none := by
  cases e : H p with
  | none => rfl
  | some o =>
    obtain ⟨o', e'⟩ := x.more p o e
    rw [n] at e'; cases e'
section
variable {X : Cx} {W : WX} {ws : List Nat} {g : GF} {tt : TF} {te : EF}
/-- the block of a comprehension, from the item to the end of the turn -/
theorem lc_turn {H1 : Hp} {Z1 : Zn} {Dn : Addr} {σw : St} {σwd : Sg} {Nx : Hp → Prop} {k : Mem → Res (List D)} {R : List D → Mem → Prop} (n : H1 Dn = none) (ok : GOk g)
    {H : Hp} {Z : Zn} {m : Mem} {d : D} {v : V} {acc : List V} {accd : List D}
    (x : Ext Z1 H1 Z H) (hD : Dn ∈ Z.φ) (M : MRep H Z m) (S : SRep H Z σwd σw) (hw : L2.wipe σw ws = σw) (r : Rep H Z d v) (ha : H Dn = some (.lst acc)) (hr : Reps H Z accd acc)
    (h : ∃ ys m', (match g d σwd m with
        | .nx σ1 m1 => (tt σ1 m1).bind fun b m2 => if b then (te σ1 m2).bind fun y m3 => (k m3).bind fun ys m4 => .ok (y :: ys) m4 else k m2
        | _ => .bad) = Res.ok ys m' ∧ R (accd ++ ys) m')
    (hz : ∀ ys m', R ys m' → ys.length ≤ 16777216)
    (hN : ∀ H' Z' m2 acc' accd', Ext Z1 H1 Z' H' → Dn ∈ Z'.φ → MRep H' Z' m2 → H' Dn = some (.lst acc') → Reps H' Z' accd' acc' → (∃ ys m', k m2 = .ok ys m' ∧ R (accd' ++ ys) m') → Nx H') :
    rdG ws g v σw H fun σ2 H2 => L2.wipe σ2 ws = σw ∧ rdT X W0 tt σ2 H2 fun b H3 => if b = true then rdE X W0 te σ2 H3 fun y H4 => ∃ acc, H4 Dn = some (.lst acc) ∧ acc.length < sizeLine ∧ Nx (upd H4 Dn (.lst (acc ++ [y]))) else Nx H3 := by
  obtain ⟨ys, m', h, hR⟩ := h
  refine ⟨Z, σwd, m, d, S, M, r, ?_⟩
  rcases ok d σwd m with ⟨σ1, m1, e⟩ | e
  · rw [e] at h
    refine ⟨σ1, m1, e, fun H2 Z2 σ2 x2 M2 S2 w2 => ⟨w2.trans hw, Z2, σ1, m1, S2, M2, ?_⟩⟩
    have hD2 : Dn ∈ Z2.φ := x2.phi1 _ hD
    have nr : ∀ {H : Hp} {Z : Zn} {m : Mem}, MRep H Z m → Dn ∈ Z.φ → Dn ∉ Z.ρ := fun M h z => M.off _ z h
    have ha2 := (x2.keep _ _ ha (nr M hD)).1
    have hr2 := Reps.ext x2 _ _ hr
    have h : (tt σ1 m1).bind (fun b m2 => if b then (te σ1 m2).bind fun y m3 => (k m3).bind fun ys m4 => .ok (y :: ys) m4 else k m2) = .ok ys m' := h
    cases et : tt σ1 m1 with
    | ok b m2 =>
      rw [et] at h
      intro H3 Z3 x3 M3
      have hD3 : Dn ∈ Z3.φ := x3.phi1 _ hD2
      have ha3 := (x3.keep _ _ ha2 (nr M2 hD2)).1
      have hr3 := Reps.ext x3 _ _ hr2
      cases b with
      | true =>
        refine iteT ⟨Z3, σ1, m2, S2.ext x3, M3, ?_⟩
        have h : (te σ1 m2).bind (fun y m3 => (k m3).bind fun ys m4 => .ok (y :: ys) m4) = .ok ys m' := h
        cases ee : te σ1 m2 with
        | ok y m3 =>
          rw [ee] at h
          intro H4 Z4 x4 M4 u ru
          have hD4 : Dn ∈ Z4.φ := x4.phi1 _ hD3
          have ha4 := (x4.keep _ _ ha3 (nr M3 hD3)).1
          have hr4 := Reps.ext x4 _ _ hr3
          have h : (k m3).bind (fun ys m4 => .ok (y :: ys) m4) = .ok ys m' := h
          cases ek : k m3 with
          | ok zs m4 =>
            rw [ek] at h
            cases h
            have hlen := hz _ _ hR
            rw [List.length_append, List.length_cons, reps_len hr4] at hlen
            refine ⟨acc, ha4, by rw [sizeLine_eq]; omega, hN _ Z4 m3 (acc ++ [u]) (accd ++ [y]) (((x.trans x2).trans (x3.trans x4)).put n) hD4 (M4.put hD4) upd_same (reps_put hD4 _ _ (reps_app hr4 (reps_one ru))) ⟨zs, _, ek, by simpa using hR⟩⟩
          | exc c m4 => rw [ek] at h; cases h
          | bad => rw [ek] at h; cases h
        | exc c m3 => rw [ee] at h; cases h
        | bad => rw [ee] at h; cases h
      | false => exact iteF (hN H3 Z3 m2 acc accd ((x.trans x2).trans x3) hD3 M3 ha3 hr3 ⟨ys, m', h, hR⟩)
    | exc c m2 => rw [et] at h; cases h
    | bad => rw [et] at h; cases h
  · rw [e] at h; cases h
theorem wipe_none {σ : St} {v : Nat} : ∀ {vs : List Nat}, v ∈ vs → v < σ.length → (L2.wipe σ vs)[v]? = some none
  | [], h, _ => by simp at h
  | w :: ws, h, hl => by
    unfold L2.wipe
    by_cases e : w = v
    · subst e
      rw [List.getElem?_set_self (by rw [L2.wipe_length]; exact hl)]
    · rw [List.getElem?_set_ne e]
      refine wipe_none ?_ hl
      rcases List.mem_cons.mp h with h | h
      · exact (e h.symm).elim
      · exact h
theorem wipe_ge {σ : St} {v : Nat} (hl : σ.length ≤ v) : ∀ {vs : List Nat}, (L2.wipe σ vs)[v]? = none := by
  intro vs
  rw [List.getElem?_eq_none]
  rw [L2.wipe_length]; exact hl
theorem wipe_twice {σ : St} : ∀ {vs ws : List Nat}, (∀ v ∈ vs, v ∈ ws) → L2.wipe (L2.wipe σ ws) vs = L2.wipe σ ws
  | [], ws, _ => rfl
  | v :: vs, ws, h => by
    show (L2.wipe (L2.wipe σ ws) vs).set v none = _
    rw [wipe_twice fun u hu => h u (List.mem_cons_of_mem _ hu)]
    apply List.ext_getElem?
    intro i
    by_cases e : v = i
    · subst e
      by_cases hl : v < σ.length
      · rw [List.getElem?_set_self (by rw [L2.wipe_length]; exact hl), wipe_none (h v List.mem_cons_self) hl]
      · rw [List.getElem?_eq_none (by rw [List.length_set, L2.wipe_length]; omega), wipe_ge (by omega)]
    · rw [List.getElem?_set_ne e]
mutual
theorem rep_hold {H : Hp} {Z : Zn} {p : Addr} {φ' : List Addr} (hp : p ∈ Z.φ) (k : ∀ a, a ∈ φ' → a ∈ Z.φ) : ∀ (d : D) (v : V), Rep H Z d v → Rep H ⟨Z.ρ ++ [p], φ'⟩ d v
  | .non, v, h => by simp only [Rep] at h ⊢; exact h
  | .bl b, v, h => by simp only [Rep] at h ⊢; exact h
  | .int i, v, h => by simp only [Rep] at h ⊢; exact h
  | .str s, v, h => by simp only [Rep] at h ⊢; exact h
  | .tup xs, v, h => by
    simp only [Rep] at h ⊢
    obtain ⟨a, vs, e, r, n, rs⟩ := h
    refine ⟨a, vs, e, r, ⟨fun z => ?_, fun z => n.2 (k _ z)⟩, reps_hold hp k xs vs rs⟩
    rcases List.mem_append.mp z with z | z
    · exact n.1 z
    · rw [List.mem_singleton] at z; subst z; exact n.2 hp
  | .lst xs, v, h => by
    simp only [Rep] at h ⊢
    obtain ⟨a, vs, e, r, n, rs⟩ := h
    refine ⟨a, vs, e, r, ⟨fun z => ?_, fun z => n.2 (k _ z)⟩, reps_hold hp k xs vs rs⟩
    rcases List.mem_append.mp z with z | z
    · exact n.1 z
    · rw [List.mem_singleton] at z; subst z; exact n.2 hp
  | .adr a, v, h => by simp only [Rep] at h ⊢; exact h
  | .scr xs, v, h => by
    simp only [Rep] at h ⊢
    obtain ⟨a, vs, e, r, n, rs⟩ := h
    refine ⟨a, vs, e, r, ⟨fun z => ?_, fun z => n.2 (k _ z)⟩, reps_hold hp k xs vs rs⟩
    rcases List.mem_append.mp z with z | z
    · exact n.1 z
    · rw [List.mem_singleton] at z; subst z; exact n.2 hp
  | .ref i, v, h => by
    simp only [Rep] at h ⊢
    obtain ⟨a, e, e2⟩ := h
    exact ⟨a, by rw [List.getElem?_append_left (List.getElem?_eq_some_iff.mp e).1]; exact e, e2⟩
theorem reps_hold {H : Hp} {Z : Zn} {p : Addr} {φ' : List Addr} (hp : p ∈ Z.φ) (k : ∀ a, a ∈ φ' → a ∈ Z.φ) : ∀ (ds : List D) (vs : List V), Reps H Z ds vs → Reps H ⟨Z.ρ ++ [p], φ'⟩ ds vs
  | [], vs, h => by simp only [Reps] at h ⊢; exact h
  | d :: ds, vs, h => by
    simp only [Reps] at h ⊢
    obtain ⟨v, r, e, h1, h2⟩ := h
    exact ⟨v, r, e, rep_hold hp k d v h1, reps_hold hp k ds r h2⟩
end
theorem MRep.take {H : Hp} {Z : Zn} {m : Mem} {p : Addr} {φ' : List Addr} {acc : List V} {xs : List D} (M : MRep H Z m) (hp : p ∈ Z.φ) (k : ∀ a, a ∈ φ' → a ∈ Z.φ) (np : p ∉ φ') (e : H p = some (.lst acc)) (r : Reps H Z xs acc) :
    MRep H ⟨Z.ρ ++ [p], φ'⟩ (m ++ [.lst xs]) where
  len := by simp [M.len]
  nd := by
    show (Z.ρ ++ [p]).Nodup
    rw [List.nodup_append]
    refine ⟨M.nd, by simp, fun a ha b hb => ?_⟩
    rw [List.mem_singleton] at hb
    subst hb
    rintro rfl
    exact M.off _ ha hp
  off := fun a ha h => by
    rcases List.mem_append.mp ha with z | z
    · exact M.off a z (k a h)
    · rw [List.mem_singleton] at z; subst z; exact np h
  asd := fun a h => M.asd a (k a h)
  obj := fun i a u e1 e2 => by
    by_cases hi : i < Z.ρ.length
    · rw [List.getElem?_append_left hi] at e1
      rw [List.getElem?_append_left (by rw [M.len]; exact hi)] at e2
      have q := M.obj i a u e1 e2
      cases u with
      | lst ys =>
        obtain ⟨vs, h1, h2⟩ := q
        exact ⟨vs, h1, reps_hold hp k _ _ h2⟩
      | dct kvs =>
        obtain ⟨ks, h1, h2⟩ := q
        exact ⟨ks, h1, Paired.mapP h2 fun x y z => ⟨z.1, rep_hold hp k _ _ z.2⟩⟩
    · have hl : i = Z.ρ.length := by
        have := (List.getElem?_eq_some_iff.mp e1).1
        simp at this
        omega
      subst hl
      rw [List.getElem?_append_right (Nat.le_refl _), Nat.sub_self] at e1
      rw [List.getElem?_append_right (by rw [M.len]; exact Nat.le_refl _), M.len, Nat.sub_self] at e2
      cases e1
      cases e2
      exact ⟨acc, e, reps_hold hp k _ _ r⟩
theorem fin_noL {nw : Bool} {σ : St} {H : Hp} {Z : Zn} {zs : List D} {m : Mem} {R : D → Mem → Hp → Zn → Prop} (h : Fin X W σ H Z (noexc (newL nw zs m)) R) : zs.length ≤ 16777216 := by
  by_cases hl : lenOk zs.length = true
  · exact of_decide_eq_true hl
  · unfold newL at h
    rw [if_neg hl] at h
    exact h.elim
/-- the made list is let out -/
theorem lc_end {nw : Bool} {σ : St} {H1 H : Hp} {Z1 Z : Zn} {zs : List D} {m2 m : Mem} {Dn : Addr} {acc : List V} {Q : VK} (n : H1 Dn = none) (na : Z1.φ ⊆ Z.φ) (M1 : ∀ a ∈ Z1.φ, ∃ o, H1 a = some o)
    (h : Fin X W σ H1 Z1 (noexc (newL nw zs m)) fun d _ H' Z' => ∀ v, Rep H' Z' d v → Q v H') (x : Ext Z1 H1 Z H) (hD : Dn ∈ Z.φ) (M : MRep H Z m) (ha : H Dn = some (.lst acc)) (hr : Reps H Z zs acc) : Q (.ref Dn) H := by
  have np : Dn ∉ Z1.φ := fun z => by
    obtain ⟨o, e⟩ := M1 _ z
    rw [n] at e; cases e
  have hl : lenOk zs.length = true := decide_eq_true (fin_noL h)
  unfold newL at h
  rw [if_pos hl] at h
  cases nw with
  | false =>
    refine h H ⟨Z.ρ, Z1.φ⟩ x.reset (M.sub na) (.ref Dn) ?_
    simp only [Rep]
    exact ⟨Dn, acc, rfl, ha, ⟨fun z => M.off _ z hD, np⟩, reps_sub (φ := Z.φ) na _ _ hr⟩
  | true =>
    refine h H ⟨Z.ρ ++ [Dn], Z1.φ⟩ ⟨fun _ h => h, fun _ h => .inl h, ?_, fun a o e na' => ?_, x.more⟩ (M.take hD na np ha hr) (.ref Dn) ?_
    · obtain ⟨more, e⟩ := x.pre
      exact ⟨more ++ [Dn], by show Z.ρ ++ [Dn] = _; rw [e, List.append_assoc]⟩
    · obtain ⟨h1, h2⟩ := x.keep a o e na'
      refine ⟨h1, fun z => ?_⟩
      rcases List.mem_append.mp z with z | z
      · exact h2 z
      · rw [List.mem_singleton] at z; subst z; rw [n] at e; cases e
    · simp only [Rep]
      exact ⟨Dn, by rw [M.len, List.getElem?_append_right (Nat.le_refl _), Nat.sub_self]; rfl, rfl⟩
/-- the reading of a comprehension -/
theorem rd_lc {nw : Bool} {fi : IF} {σ : St} {H : Hp} {Q : VK} (ok : GOk g) (h : rdE X W (eLc nw ws fi g tt te) σ H Q) : tLc (rdI X W fi) (rdG ws g) (rdT X W0 tt) (rdE X W0 te) ws σ H Q := by
  obtain ⟨Z, σd, m, S, M, h⟩ := h
  refine ⟨Z, σd, m, S, M, (Fin.bind h).mono fun s m1 H1 Z1 x1 M1 h1 J hJ Dn n => ?_⟩
  cases el : lcS g tt te (wipeD σd ws) s m1 with
  | exc c m2 => rw [el] at h1; exact h1.elim
  | bad => rw [el] at h1; exact h1.elim
  | ok zs m2 =>
    rw [el] at h1
    have h1 : Fin X W σ H1 Z1 (noexc (newL nw zs m2)) fun d _ H' Z' => ∀ v, Rep H' Z' d v → Q v H' := h1
    have hlen := fin_noL h1
    have S1 : SRep H1 Z1 (wipeD σd ws) (L2.wipe σ ws) := (S.ext x1).wipe ws
    have hww : L2.wipe (L2.wipe σ ws) ws = L2.wipe σ ws := wipe_twice fun v h => h
    have x0 : Ext Z1 H1 ⟨Z1.ρ, Dn :: Z1.φ⟩ (upd H1 Dn (.lst [])) := by
      refine ⟨fun a h => List.mem_cons_of_mem _ h, fun a h => ?_, ⟨[], by simp⟩, fun a o e na => ⟨by rw [upd_ne (ne_of_none e n)]; exact e, na⟩, fun a o e => ⟨o, by rw [upd_ne (ne_of_none e n)]; exact e⟩⟩
      rcases List.mem_cons.mp h with e | h
      · subst e; exact .inr n
      · exact .inl h
    have sub : ∀ {Z : Zn} {H : Hp}, Ext Z1 H1 Z H → Z1.φ ⊆ Z.φ := fun x a h => x.phi1 a h
    cases s with
    | its xs =>
      have hJ : Its J H1 Z1 xs := hJ
      have el : lcL g tt te (wipeD σd ws) xs m1 = .ok zs m2 := el
      refine ⟨fun i k H => k = xs.length - i ∧ i ≤ xs.length ∧ ∃ Z m acc accd, Ext Z1 H1 Z H ∧ Dn ∈ Z.φ ∧ MRep H Z m ∧ H Dn = some (.lst acc) ∧ Reps H Z accd acc ∧ ∃ ys m', lcL g tt te (wipeD σd ws) (xs.drop i) m = .ok ys m' ∧ accd ++ ys = zs ∧ m' = m2,
        ⟨_, rfl, Nat.zero_le _, _, m1, [], [], x0, List.mem_cons_self, M1.phi n, upd_same, by simp [Reps], zs, m2, el, rfl, rfl⟩, ?_⟩
      rintro i k H ⟨rfl, hi, Z, m, acc, accd, x, hD, M, ha, hr, ys, m', e, ez, em⟩
      by_cases hlt : i < xs.length
      · refine .inr ⟨hJ.go i H Z m x M hlt, _, fun H' q => ⟨xs.length - (i + 1), by omega, rfl, hlt, q⟩, fun v H' y => ?_⟩
        have ed : xs[i]? = some xs[i] := List.getElem?_eq_getElem hlt
        obtain ⟨x', M', r'⟩ := hJ.yld i H Z m v H' xs[i] x M ed y
        rw [List.drop_eq_getElem_cons hlt] at e
        have nr : Dn ∉ Z.ρ := fun z => M.off _ z hD
        exact lc_turn (X := X) (R := fun ys m' => ys = zs ∧ m' = m2) n ok (x.trans x') (x'.phi1 _ hD) M' ((S1.ext x).ext x') hww r' (x'.keep _ _ ha nr).1 (Reps.ext x' _ _ hr) ⟨ys, m', e, ez, em⟩ (fun ys m' q => by rw [q.1]; exact hlen)
          (fun H' Z' m2 acc' accd' x M hD ha hr q => ⟨Z', m2, acc', accd', x, M, hD, ha, hr, q⟩)
      · have ei : i = xs.length := by omega
        subst ei
        rw [List.drop_length] at e
        cases e
        rw [List.append_nil] at ez
        subst ez em
        exact .inl ⟨hJ.stop _ H Z m x M (Nat.le_refl _), lc_end (m2 := m) n (sub x) M1.asd h1 x hD M ha hr⟩
    | mem a0 =>
      obtain ⟨a, ea, hJ⟩ := hJ
      have el : lcR a0 g tt te (wipeD σd ws) FUEL 0 m1 = .ok zs m2 := el
      refine ⟨fun i k H => ∃ Z m acc accd, Ext Z1 H1 Z H ∧ Dn ∈ Z.φ ∧ MRep H Z m ∧ H Dn = some (.lst acc) ∧ Reps H Z accd acc ∧ ∃ ys m', lcR a0 g tt te (wipeD σd ws) k i m = .ok ys m' ∧ accd ++ ys = zs ∧ m' = m2,
        ⟨FUEL, _, m1, [], [], x0, List.mem_cons_self, M1.phi n, upd_same, by simp [Reps], zs, m2, el, rfl, rfl⟩, ?_⟩
      rintro i k H ⟨Z, m, acc, accd, x, hD, M, ha, hr, ys, m', e, ez, em⟩
      cases k with
      | zero => cases e
      | succ k =>
        have ea' : Z.ρ[a0]? = some a := by
          obtain ⟨more, em⟩ := x.pre
          rw [em, List.getElem?_append_left (List.getElem?_eq_some_iff.mp ea).1]
          exact ea
        simp only [lcR] at e
        split at e
        · rename_i zs' em'
          obtain ⟨vs, hv, rs⟩ := M.obj a0 a _ ea' em'
          split at e
          · rename_i d ed
            obtain ⟨v, ev, rv⟩ := reps_get rs ed
            refine .inr ⟨hJ.go i H vs v hv ev, _, fun H' q => ⟨k, Nat.lt_succ_self _, q⟩, fun v' H' y => ?_⟩
            obtain ⟨rfl, ev'⟩ := hJ.yld i H vs v' H' hv y
            rw [ev] at ev'
            cases ev'
            exact lc_turn (X := X) (R := fun ys m' => ys = zs ∧ m' = m2) n ok x hD M (S1.ext x) hww rv ha hr ⟨ys, m', e, ez, em⟩ (fun ys m' q => by rw [q.1]; exact hlen)
              (fun H' Z' m2 acc' accd' x M hD ha hr q => ⟨Z', m2, acc', accd', x, M, hD, ha, hr, q⟩)
          · rename_i ed
            cases e
            rw [List.append_nil] at ez
            subst ez em
            refine .inl ⟨hJ.stop i H vs hv ?_, lc_end (m2 := m) n (sub x) M1.asd h1 x hD M ha hr⟩
            rw [← reps_len rs]
            exact List.getElem?_eq_none_iff.mp ed
        · cases e
variable {elt tg iter : Expr} {ifs : List Expr} {scope : Scope} {own : List (Str × Nat)} {pos spos : Pos} {fi : IF}
theorem pts_nilD : PTs X [] (rdT X W0 tYesD) := ⟨fun pins s σ H Q I ⟨Z, σd, m, S, M, h⟩ => pts_nil.run pins s σ H Q I (h H Z (.refl _ _) M)⟩
theorem pts_oneD {c : Expr} (h : T X W0 c tt) : PTs X [c] (rdT X W0 tt) := pts_one h
theorem e_lc {nw : Bool} (hc : X.calm = true) (hN : X.N.Nodup) (hi : I X W tg iter fi) (ok : BlkOk X.N X.env.scope scope own) (gk : GOk g)
    (hg : ∀ (s : Shared) (H : Hp) (C : Addr) (cl : List (Str × Addr)) (fp : List Addr), G (X.blk s H scope (compEnvC scope cl C X.env) fp) (own.map (·.2)) tg g)
    (ht : ∀ (s : Shared) (H : Hp) (C : Addr) (cl : List (Str × Addr)) (fp : List Addr), PTs (X.blk s H scope (compEnvC scope cl C X.env) fp) ifs (rdT (X.blk s H scope (compEnvC scope cl C X.env) fp) W0 tt))
    (he : ∀ (s : Shared) (H : Hp) (C : Addr) (cl : List (Str × Addr)) (fp : List Addr), E (X.blk s H scope (compEnvC scope cl C X.env) fp) W0 elt te) (hs : ∀ x, foldedSetIterable iter X.env x = pure x := by intro _; rfl) :
    E X W (.ListComp elt [⟨tg, iter, ifs, 0⟩] scope pos) (eLc nw (own.map (·.2)) fi g tt te) :=
  PE.imp (pe_lc (tt := rdT X W0 tt) (te := rdE X W0 te) hc hN hi ok hg ht he hs) fun σ H Q h => rd_lc gk h
theorem s_setLc {nw : Bool} {i : Nat} {y : Str} {py : Pos} (hc : X.calm = true) (hN : X.N.Nodup) (hy : X.N[i]? = some y) (hyl : X.env.scope.names.lookup y = some .local)
    (hsw : swapsWith (.ListComp elt [⟨tg, iter, ifs, 0⟩] scope pos) (some (.Name y py)) spos.line X.env = pure true) (hi : I X W tg iter fi) (ok : BlkOk X.N X.env.scope scope own) (gk : GOk g)
    (hg : ∀ (s : Shared) (H : Hp) (C : Addr) (cl : List (Str × Addr)) (fp : List Addr), G (X.blk s H scope (compEnvC scope cl C X.env) fp) (own.map (·.2)) tg g)
    (ht : ∀ (s : Shared) (H : Hp) (C : Addr) (cl : List (Str × Addr)) (fp : List Addr), PTs (X.blk s H scope (compEnvC scope cl C X.env) fp) ifs (rdT (X.blk s H scope (compEnvC scope cl C X.env) fp) W0 tt))
    (he : ∀ (s : Shared) (H : Hp) (C : Addr) (cl : List (Str × Addr)) (fp : List Addr), E (X.blk s H scope (compEnvC scope cl C X.env) fp) W0 elt te) (hs : ∀ x, foldedSetIterable iter X.env x = pure x := by intro _; rfl) :
    S1 X W (.Assign [.Name y py] (.ListComp elt [⟨tg, iter, ifs, 0⟩] scope pos) spos) (sSet i (eLc nw (own.map (·.2)) fi g tt te)) := by
  refine PS.imp (ps_setLc (tt := rdT X W0 tt) (te := rdE X W0 te) hc hN hy hyl hsw hi ok hg ht he hs) fun D σ H ⟨Z, σd, m, S, M, h⟩ => ?_
  refine rd_lc (X := X) gk ⟨Z, σd, m, S, M, (Fin.st h S).mono fun a m1 H1 Z1 x1 M1 h1 v r => h1 H1 Z1 _ (.refl _ _) M1 ((S.ext x1).set i r)⟩
end
end PD
namespace PD
open PySem PySem.Spec L2
open PyProof.Rows hiding St

/-! ### raise -/
section
variable {X : Cx} {W : WX} {pos : Pos} {C : Addr} {bmB : List Value} {B newId initId : String}
/-- X() -/
theorem pmk_own0 {x : Str} {p : Pos} (F : ExcBaseFacts B newId initId bmB) (q : PySem.W.excIn X.K C bmB newId = true) (gC : X.mg x = some (.ref C)) (kC : PySem.W.keepIn X.K (.ref C) = true) (r : Raises X (.ref C)) (hg : Gl X x)
    (hdb : (x == ("__debug__" : Str)) = false := by decide) : PMk X (.Call (.Name x p) [] [] pos) (fun _ H Q => Q (.ref C) none H) := by
  intro pins s σ H Q I h
  refine wpAny_Call_Name_kw (ld_glob I hg gC ?_ hdb)
  refine PySem.W.callWith_K0 I.kIn kC ?_
  obtain ⟨bm, N, nm, qn, bs, hdct, sn, sub, ab, col, dd, k0, k1, k2, k3, k5, mN, hC, hN, hni, T⟩ := exc_obj I.kIn q
  refine wpAny_call_exc_subT F T hC hN hni (fun h' e hm => ?_) (by show 0 ≤ sizeLine; exact Nat.zero_le _)
  exact mk_of I hm r h (I.hok.gone hm.new)
def sRaise (c : Str) : SF := fun σ m => .exc c σ m
theorem s_raise {x : Str} {p : Pos} (hc : X.calm = true) (tk : Takes X W) (F : ExcBaseFacts B newId initId bmB) (q : PySem.W.excIn X.K C bmB newId = true) (gC : X.mg x = some (.ref C)) (kC : PySem.W.keepIn X.K (.ref C) = true) (r : Raises X (.ref C)) (hg : Gl X x)
    (hdb : (x == ("__debug__" : Str)) = false := by decide) : S1 X W (.Raise (some (.Call (.Name x p) [] [] pos)) none pos) (sRaise x) := by
  refine PS.imp (ps_raise hc tk (pmk_own0 F q gC kC r hg hdb)) fun D σ H ⟨Z, σd, m, S, M, h⟩ => ?_
  exact h _ H Z σ gC (.refl _ _) M S
/-- what is known of an own exception class -/
structure ExcT (K : PySem.W.Frag) (mg : Str → Option Value) (x : Str) (C : Addr) : Prop where
  g : mg x = some (.ref C)
  q : PySem.W.excIn K C [.type "ValueError", .type "Exception", .type "BaseException", .type "object"] "ValueError.__new__" = true
  k : PySem.W.keepIn K (.ref C) = true
  b : PySem.W.subIn K (.ref C) (.type "BaseException") = some true
  t : PySem.W.typeIn K (.ref C) = some (.type "type")
theorem s_raiseT {x : Str} {p : Pos} {pos' : Pos} (hc : X.calm = true) (tk : Takes X W) (t : ExcT X.K X.mg x C) (hg : Gl X x) (hdb : (x == ("__debug__" : Str)) = false := by decide) : S1 X W (.Raise (some (.Call (.Name x p) [] [] pos)) none pos') (sRaise x) := by
  refine PS.imp (ps_raise hc tk (pmk_own0 PySem.F.excBase_ValueError t.q t.g t.k (raises_own t.b t.t) hg hdb)) fun D σ H ⟨Z, σd, m, S, M, h⟩ => ?_
  exact h _ H Z σ t.g (.refl _ _) M S
end

/-! ### try: .. except X: .. -/
/-- the clauses: names of classes and their suites -/
def catch1 (cs : List (Str × SF)) (is : Str → Str → Bool) (c : Str) : Option SF := match cs with
  | [] => none
  | (x, f) :: r => if is c x then some f else catch1 r is c
def sTry (ns : List Str) (is : Str → Str → Bool) (b : SF) (cs : List (Str × SF)) : SF := fun σ m => match b σ m with
  | .exc c σ1 m1 => if c ∈ ns then (match catch1 cs is c with | some f => (match f σ1 m1 with | .exc _ _ _ => .bad | r => r) | none => .exc c σ1 m1) else .bad
  | r => r
/-- one class against another -/
def ExM (K : PySem.W.Frag) (mg : Str → Option Value) (c x : Str) (b : Bool) : Prop := ∃ C D : Addr, mg c = some (.ref C) ∧ mg x = some (.ref D) ∧ PySem.W.exmOne K (.ref C) (.ref D) = some b
theorem ExM.at {K : PySem.W.Frag} {mg : Str → Option Value} {c x : Str} {b : Bool} (h : ExM K mg c x b) (u v : Value) (hu : mg c = some u) (hv : mg x = some v) : PySem.W.exmOne K u v = some b := by
  obtain ⟨C, D, h1, h2, h3⟩ := h
  rw [h1] at hu; cases hu
  rw [h2] at hv; cases hv
  exact h3
theorem allN {α : Type} {p : α → Prop} : ∀ x ∈ ([] : List α), p x := fun _ h => by cases h
theorem allC {α : Type} {p : α → Prop} {a : α} {l : List α} (h : p a) (r : ∀ x ∈ l, p x) : ∀ x ∈ a :: l, p x := List.forall_mem_cons.mpr ⟨h, r⟩
section
variable {X : Cx} {W : WX} {pos : Pos}
inductive Hds (X : Cx) : List ExceptHandler → List (Str × SF) → Prop
  | nil : Hds X [] []
  | cons {x : Str} {c : Value} {f : SF} {b₀ : Stmt} {suite : List Stmt} {np pos' : Pos} {hds : List ExceptHandler} {l : List (Str × SF)} (hc : Names X x c) (hm : X.mg x = some c)
      (hsu : ∀ (a : Addr) (pn : List (Addr × Obj)), Ss (X.suite a pn) W0 (b₀ :: suite) f) (r : Hds X hds l) :
      Hds X (.ExceptHandler (some (.Name x np)) none (b₀ :: suite) pos' :: hds) ((x, f) :: l)
theorem s_try {body : List Stmt} {h₀ : ExceptHandler} {hds : List ExceptHandler} {l : List (Str × SF)} {fb : SF} {ns : List Str} {is : Str → Str → Bool} (hs : X.stack = X.env :: X.outer) (hf : X.env.frame = some X.env.locals) (tk : Takes X W)
    (hb : ∀ (W' : WX) (pn : List (Addr × Obj)) (xe : Value → Shared → Prop), Takes (X.tr pn xe) W' → PassesOwn (model X.prog X.w) X.A X.env xe → Ss (X.tr pn xe) W' body fb)
    (hh : Hds X (h₀ :: hds) l) (hi : ∀ c ∈ ns, ∀ x ∈ l.map (·.1), ∀ u v, X.mg c = some u → X.mg x = some v → PySem.W.exmOne X.K u v = some (is c x)) : S1 X W (.Try body (h₀ :: hds) [] [] pos) (sTry ns is fb l) := by
  have key : ∀ (hds : List ExceptHandler) (l : List (Str × SF)), Hds X hds l → (∀ c ∈ ns, ∀ x ∈ l.map (·.1), ∀ u v, X.mg c = some u → X.mg x = some v → PySem.W.exmOne X.K u v = some (is c x)) →
      ∃ L, HdsOk X hds L ∧ ∀ (D : Ends) (c : Str) (u : Value) (σ : St) (H : Hp) (Z : Zn) (σd : Sg) (m : Mem), c ∈ ns → X.mg c = some u → SRep H Z σd σ → MRep H Z m →
        FinS X W H Z (match catch1 l is c with | some f => (match f σd m with | .exc _ _ _ => .bad | r => r) | none => .exc c σd m) D → wMany X.K W D L u none σ H := by
    intro hds l h
    induction h with
    | nil =>
      intro _
      exact ⟨[], .nil, fun D c u σ H Z σd m hc e S M h => h u H Z σ e (.refl _ _) M S⟩
    | @cons x cv f b₀ suite np pos' hds l hc hm hsu r ih =>
      intro hi
      obtain ⟨L, hL, k⟩ := ih fun c hc x' hx => hi c hc x' (List.mem_cons_of_mem _ hx)
      refine ⟨(cv, fun a cls d => rdS X W0 f) :: L, .cons hc (fun a oe cls d pn _ _ => hsu a _) hL, fun D c u σ H Z σd m hcn e S M h => ?_⟩
      have e1 := hi c hcn x (by simp) u cv e hm
      refine ⟨is c x, e1, fun ht a na => ?_, fun hf => ?_⟩
      · have h : FinS X W H Z (match catch1 ((x, f) :: l) is c with | some f => (match f σd m with | .exc _ _ _ => .bad | r => r) | none => .exc c σd m) D := h
        simp only [catch1, ht, if_true] at h
        refine ⟨Z, σd, m, S, M, ?_⟩
        cases ef : f σd m with
        | exc c' s' m' => rw [ef] at h; exact h.elim
        | nx s' m' => rw [ef] at h; exact h
        | rt d m' => rw [ef] at h; exact h
        | bk s' m' => rw [ef] at h; exact h
        | ct s' m' => rw [ef] at h; exact h
        | bad => rw [ef] at h; exact h
      · have h : FinS X W H Z (match catch1 ((x, f) :: l) is c with | some f => (match f σd m with | .exc _ _ _ => .bad | r => r) | none => .exc c σd m) D := h
        simp only [catch1, hf, Bool.false_eq_true, if_false] at h
        exact k D c u σ H Z σd m hcn e S M h
  obtain ⟨L, hL, k⟩ := key _ _ hh hi
  refine PS.imp (ps_try_many (tb := fun W' => rdS X W' fb) hs hf tk (fun W' pn xe tk' po => hb W' pn xe tk' po) hL) fun D σ H ⟨Z, σd, m, S, M, h⟩ => ?_
  refine ⟨Z, σd, m, S, M, ?_⟩
  unfold sTry at h
  cases eb : fb σd m with
  | exc c s1 m1 =>
    rw [eb] at h
    have h : FinS X W H Z (if c ∈ ns then (match catch1 l is c with | some f => (match f s1 m1 with | .exc _ _ _ => .bad | r => r) | none => .exc c s1 m1) else .bad) D := h
    split at h
    · rename_i hcn
      intro u H' Z' σ' e x' M' S'
      exact k D c u σ' H' Z' s1 m1 hcn e S' M' (FinS.shift x' h)
    · exact h.elim
  | nx s' m' => rw [eb] at h; exact h
  | rt d m' => rw [eb] at h; exact h
  | bk s' m' => rw [eb] at h; exact h
  | ct s' m' => rw [eb] at h; exact h
  | bad => rw [eb] at h; exact h
end

/-! ### a def -/
def startD (n : Nat) (ds : List D) : Sg := ds.map some ++ List.replicate (n - ds.length) none
def fnR (n : Nat) (body : SF) (ds : List D) (m : Mem) : Res D := match body (startD n ds) m with
  | .nx _ m => .ok .non m
  | .rt d m => .ok d m
  | .exc c _ m => .exc c m
  | _ => .bad
theorem srep_start {H : Hp} {Z : Zn} {ds : List D} {vs : List V} {N : List Str} (r : Reps H Z ds vs) : SRep H Z (startD N.length ds) (L2.start N vs) := by
  have hl := reps_len r
  unfold startD L2.start
  refine ⟨by simp [hl], fun i d e => ?_⟩
  by_cases hi : i < ds.length
  · rw [List.getElem?_append_left (by simpa using hi), List.getElem?_map] at e
    cases ed : ds[i]? with
    | none => rw [ed] at e; cases e
    | some d' =>
      rw [ed] at e
      cases e
      obtain ⟨v, ev, rv⟩ := reps_get r ed
      exact ⟨v, by rw [List.getElem?_append_left (by rw [List.length_map, ← hl]; exact hi), List.getElem?_map, ev]; rfl, rv⟩
  · rw [List.getElem?_append_right (by simpa using hi)] at e
    have := List.mem_of_getElem? e
    rw [List.mem_replicate] at this
    cases this.2
section
variable {P : Program} {w : World} {K : PySem.W.Frag} {mg : Str → Option Value} {base : Heap}
/-- THE RULE for a def: its body derived, under any wish -/
theorem fn_ok {x qual : Str} {st : Stmt} {f : Addr} {fd : FuncData} {N ps : List Str} {k : Nat} {body : SF} (F : Fun K x qual st f fd) (Sc : FnScope N ps (defScope st))
    (hbody : ∀ (cdv : Value) (A : Around) (outer : List Env) (s : Shared) (H : Hp) (Ex : XK), Room k (A.deeper (envOfC qual (defScope st) s.heap.objs.size f cdv)) →
      Ss (cxOf (L2.CX P w) P w K mg base N qual (defScope st) f cdv A outer s H Ex) (fun c d _ H' => Ex c d H') (defBody st) body) : Fn P w K mg base (k + 1) f fd ps (fnR N.length body) := by
  refine F.okX Sc (fun vs H Q E h => h.1) (fun cdv A outer s H vs Q Ex hr h => ?_)
  obtain ⟨hn, Z, ds, m, r, M, h⟩ := h
  refine ⟨_, hbody cdv A outer s H Ex hr, Z, startD N.length ds, m, srep_start r, M, ?_⟩
  unfold fnR at h
  cases e : body (startD N.length ds) m with
  | nx σ1 m1 => rw [e] at h; exact fun H' Z' σ' x M S => h H' Z' .non x M (by simp only [Rep])
  | rt d m1 => rw [e] at h; exact h
  | exc c σ1 m1 => rw [e] at h; exact fun u H' Z' σ' e x M S => h u H' Z' e x M
  | bk σ1 m1 => rw [e] at h; exact h.elim
  | ct σ1 m1 => rw [e] at h; exact h.elim
  | bad => rw [e] at h; exact h.elim
theorem takes_fn {N : List Str} {qual : Str} {sc : Scope} {f : Addr} {cdv : Value} {A : Around} {outer : List Env} {s : Shared} {H : Hp} {Ex : XK} :
    Takes (cxOf (L2.CX P w) P w K mg base N qual sc f cdv A outer s H Ex) (fun c d _ H' => Ex c d H') := takes_of rfl rfl rfl rfl
theorem passes_fn {N : List Str} {qual : Str} {sc : Scope} {f : Addr} {cdv : Value} {A : Around} {outer : List Env} {s : Shared} {H : Hp} {Ex : XK} :
    PassesOwn (model P w) (A.deeper (envOfC qual sc s.heap.objs.size f cdv)) (envOfC qual sc s.heap.objs.size f cdv) (cxOf (L2.CX P w) P w K mg base N qual sc f cdv A outer s H Ex).xe :=
  passes_of (X := cxOf (L2.CX P w) P w K mg base N qual sc f cdv A outer s H Ex) rfl

/-! ### a nicer function: what is made and let go is forgotten -/
mutual
def cl (n : Nat) : D → Bool
  | .tup xs => cls n xs
  | .lst xs => cls n xs
  | .scr xs => cls n xs
  | .ref i => decide (i < n)
  | _ => true
def cls (n : Nat) : List D → Bool
  | [] => true
  | x :: xs => cl n x && cls n xs
end
def clO (n : Nat) : MO → Bool
  | .lst xs => cls n xs
  | .dct kvs => kvs.all fun p => cl n p.2
mutual
theorem rep_cl {H : Hp} {ρ more φ : List Addr} : ∀ (d : D) (v : V), cl ρ.length d = true → Rep H ⟨ρ ++ more, φ⟩ d v → Rep H ⟨ρ, φ⟩ d v
  | .non, v, _, h => by simp only [Rep] at h ⊢; exact h
  | .bl b, v, _, h => by simp only [Rep] at h ⊢; exact h
  | .int i, v, _, h => by simp only [Rep] at h ⊢; exact h
  | .str s, v, _, h => by simp only [Rep] at h ⊢; exact h
  | .tup xs, v, c, h => by
    simp only [Rep] at h ⊢
    obtain ⟨a, vs, e, r, n, rs⟩ := h
    exact ⟨a, vs, e, r, ⟨fun z => n.1 (List.mem_append_left _ z), n.2⟩, reps_cl xs vs (by simpa [cl] using c) rs⟩
  | .lst xs, v, c, h => by
    simp only [Rep] at h ⊢
    obtain ⟨a, vs, e, r, n, rs⟩ := h
    exact ⟨a, vs, e, r, ⟨fun z => n.1 (List.mem_append_left _ z), n.2⟩, reps_cl xs vs (by simpa [cl] using c) rs⟩
  | .adr a, v, _, h => by simp only [Rep] at h ⊢; exact h
  | .scr xs, v, c, h => by
    simp only [Rep] at h ⊢
    obtain ⟨a, vs, e, r, n, rs⟩ := h
    exact ⟨a, vs, e, r, ⟨fun z => n.1 (List.mem_append_left _ z), n.2⟩, reps_cl xs vs (by simpa [cl] using c) rs⟩
  | .ref i, v, c, h => by
    simp only [Rep] at h ⊢
    obtain ⟨a, e, e2⟩ := h
    have hi : i < ρ.length := by simpa [cl] using c
    rw [List.getElem?_append_left hi] at e
    exact ⟨a, e, e2⟩
theorem reps_cl {H : Hp} {ρ more φ : List Addr} : ∀ (ds : List D) (vs : List V), cls ρ.length ds = true → Reps H ⟨ρ ++ more, φ⟩ ds vs → Reps H ⟨ρ, φ⟩ ds vs
  | [], vs, _, h => by simp only [Reps] at h ⊢; exact h
  | d :: ds, vs, c, h => by
    simp only [Reps] at h ⊢
    obtain ⟨v, r, e, h1, h2⟩ := h
    have c' : cl ρ.length d = true ∧ cls ρ.length ds = true := by simpa [cls] using c
    exact ⟨v, r, e, rep_cl d v c'.1 h1, reps_cl ds r c'.2 h2⟩
end
mutual
theorem cl_rep {H : Hp} {Z : Zn} : ∀ (d : D) (v : V), Rep H Z d v → cl Z.ρ.length d = true
  | .non, v, _ => rfl
  | .bl b, v, _ => rfl
  | .int i, v, _ => rfl
  | .str s, v, _ => rfl
  | .tup xs, v, h => by
    simp only [Rep] at h
    obtain ⟨a, vs, e, r, n, rs⟩ := h
    exact cls_rep xs vs rs
  | .lst xs, v, h => by
    simp only [Rep] at h
    obtain ⟨a, vs, e, r, n, rs⟩ := h
    exact cls_rep xs vs rs
  | .adr a, v, _ => rfl
  | .scr xs, v, h => by
    simp only [Rep] at h
    obtain ⟨a, vs, e, r, n, rs⟩ := h
    exact cls_rep xs vs rs
  | .ref i, v, h => by
    simp only [Rep] at h
    obtain ⟨a, e, e2⟩ := h
    exact decide_eq_true (List.getElem?_eq_some_iff.mp e).1
theorem cls_rep {H : Hp} {Z : Zn} : ∀ (ds : List D) (vs : List V), Reps H Z ds vs → cls Z.ρ.length ds = true
  | [], vs, _ => rfl
  | d :: ds, vs, h => by
    simp only [Reps] at h
    obtain ⟨v, r, e, h1, h2⟩ := h
    show (cl Z.ρ.length d && cls Z.ρ.length ds) = true
    rw [cl_rep d v h1, cls_rep ds r h2]; rfl
end
theorem cl_obj {H : Hp} {Z : Zn} {m : Mem} (M : MRep H Z m) {i : Nat} {o : MO} (e : m[i]? = some o) : clO m.length o = true := by
  have hi := (List.getElem?_eq_some_iff.mp e).1
  have hr : i < Z.ρ.length := by rw [← M.len]; exact hi
  have q := M.obj i _ o (List.getElem?_eq_getElem hr) e
  rw [M.len]
  cases o with
  | lst xs =>
    obtain ⟨vs, h1, h2⟩ := q
    exact cls_rep _ _ h2
  | dct kvs =>
    obtain ⟨ks, h1, h2⟩ := q
    show (kvs.all fun p => cl Z.ρ.length p.2) = true
    have go : ∀ (kvs : List (List D × D)) (ks : List (List Key × V)), Paired (fun (p : List D × D) (q : List Key × V) => KRep p.1 q.1 ∧ Rep H Z p.2 q.2) kvs ks → (kvs.all fun p => cl Z.ρ.length p.2) = true := by
      intro kvs ks h
      induction h with
      | nil => rfl
      | cons p _ ih =>
        rw [List.all_cons, cl_rep _ _ p.2, ih]; rfl
    exact go _ _ h2
/-- the value, with a list of its own as the list it is -/
def RefV (m2 : Mem) (n : Nat) (d0 d : D) : Prop := (d0 = d ∧ cl n d = true) ∨ ∃ i xs, d0 = .ref i ∧ n ≤ i ∧ m2[i]? = some (.lst xs) ∧ d = .lst xs ∧ cls n xs = true
def RefR (m : Mem) (r g : Res D) : Prop := match g with
  | .bad => True
  | .exc c m' => ∃ more, r = .exc c (m' ++ more) ∧ m'.length = m.length ∧ ∀ (i : Nat) (o : MO), m'[i]? = some o → m[i]? = some o ∨ clO m.length o = true
  | .ok d m' => r = .ok d m' ∨ ∃ more d0, r = .ok d0 (m' ++ more) ∧ RefV (m' ++ more) m.length d0 d ∧ m'.length = m.length ∧ ∀ (i : Nat) (o : MO), m'[i]? = some o → m[i]? = some o ∨ clO m.length o = true
theorem Ext.cut {Z Z' : Zn} {H H' : Hp} (x : Ext Z H Z' H') : Ext Z H ⟨Z.ρ, Z'.φ⟩ H' := ⟨x.phi1, x.phi2, ⟨[], by simp⟩, fun a o e n => ⟨(x.keep a o e n).1, n⟩, x.more⟩
theorem MRep.cut {H H' : Hp} {Z Z' : Zn} {m m' more : Mem} (M : MRep H Z m) (x : Ext Z H Z' H') (M' : MRep H' Z' (m' ++ more)) (hl : m'.length = m.length) (ho : ∀ (i : Nat) (o : MO), m'[i]? = some o → m[i]? = some o ∨ clO m.length o = true) : MRep H' ⟨Z.ρ, Z'.φ⟩ m' where
  len := by rw [hl, M.len]
  nd := M.nd
  off := fun a ha => M'.off a (by
    obtain ⟨mr, e⟩ := x.pre
    rw [e]; exact List.mem_append_left _ ha)
  asd := M'.asd
  obj := fun i a o e1 e2 => by
    obtain ⟨mr, e⟩ := x.pre
    have hi := (List.getElem?_eq_some_iff.mp e1).1
    have hc : clO Z.ρ.length o = true := by
      rw [← M.len]
      rcases ho i o e2 with h | h
      · exact cl_obj M h
      · exact h
    have q := M'.obj i a o (by rw [e, List.getElem?_append_left hi]; exact e1) (by rw [List.getElem?_append_left (by rw [hl, M.len]; exact hi)]; exact e2)
    have ez : Z' = ⟨Z.ρ ++ mr, Z'.φ⟩ := by cases Z'; cases e; rfl
    cases o with
    | lst xs =>
      obtain ⟨vs, h1, h2⟩ := q
      rw [ez] at h2
      exact ⟨vs, h1, reps_cl _ _ hc h2⟩
    | dct kvs =>
      obtain ⟨ks, h1, h2⟩ := q
      refine ⟨ks, h1, ?_⟩
      change (kvs.all fun p => cl Z.ρ.length p.2) = true at hc
      clear h1 e2
      revert hc
      induction h2 with
      | nil => exact fun _ => .nil
      | cons p _ ih =>
        intro hc
        rw [List.all_cons, Bool.and_eq_true] at hc
        refine .cons ⟨p.1, ?_⟩ (ih hc.2)
        have p2 := p.2
        rw [ez] at p2
        exact rep_cl _ _ hc.1 p2
theorem fn_ref {k : Nat} {f : Addr} {fd : FuncData} {ps : List Str} {F G : List D → Mem → Res D} (Fk : Fn P w K mg base k f fd ps F) (h : ∀ ds m, ds.length = ps.length → RefR m (F ds m) (G ds m)) : Fn P w K mg base k f fd ps G := by
  refine Fk.imp fun vs H Q Ex ⟨hn, Z, ds, m, r, M, q⟩ => ⟨hn, Z, ds, m, r, M, ?_⟩
  have hr := h ds m (by rw [reps_len r]; exact hn)
  cases eg : G ds m with
  | bad => rw [eg] at q; exact q.elim
  | exc c m' =>
    rw [eg] at q hr
    obtain ⟨more, e, hl, ho⟩ := hr
    rw [e]
    exact fun u H' Z' e x M' => q u H' ⟨Z.ρ, Z'.φ⟩ e x.cut (M.cut x M' hl ho)
  | ok d m' =>
    rw [eg] at q hr
    rcases hr with e | ⟨more, d0, e, rv, hl, ho⟩
    · rw [e]; exact q
    · rw [e]
      intro H' Z' v x M' r'
      refine q H' ⟨Z.ρ, Z'.φ⟩ v x.cut (M.cut x M' hl ho) ?_
      obtain ⟨mr, em⟩ := x.pre
      have ez : Z' = ⟨Z.ρ ++ mr, Z'.φ⟩ := by cases Z'; cases em; rfl
      rcases rv with ⟨e0, hc⟩ | ⟨i, xs, e0, hi, em', ed, hc⟩
      · subst e0
        rw [M.len] at hc
        rw [ez] at r'
        exact rep_cl _ _ hc r'
      · subst e0 ed
        simp only [Rep] at r' ⊢
        obtain ⟨a, ea, ev⟩ := r'
        obtain ⟨vs, h1, h2⟩ := M'.obj i a _ ea em'
        refine ⟨a, vs, ev, h1, ⟨fun z => ?_, M'.off a (List.mem_of_getElem? ea)⟩, ?_⟩
        · -- a stands behind the old ones
          rw [em] at ea
          rw [List.getElem?_append_right (by rw [← M.len]; exact hi)] at ea
          have hnd := M'.nd
          rw [em, List.nodup_append] at hnd
          exact hnd.2.2 a z a (List.mem_of_getElem? ea) rfl
        · rw [M.len] at hc
          rw [ez] at h2
          exact reps_cl _ _ hc h2
end
end PD
namespace PD
open PySem PySem.Spec L2
open PyProof.Rows hiding St

/-! ### numbers -/
def mulB (i j : Int) : Bool := decide (i.natAbs.log2 + j.natAbs.log2 < 1000000)
def divB (j : Int) : Bool := decide (0 < j ∧ j.natAbs.log2 < 9000)
def divN (j : Int) : Bool := decide (j ≠ 0 ∧ j.natAbs < 1073741824)
/-- // by a number above 0 (great ones too), by a small one below 0 -/
def fdivD (i j : Int) : Int := if 0 < j then i / j else i.fdiv j
def fmodD (i j : Int) : Int := if 0 < j then i % j else i.fmod j
def opAdd (x y : D) (m : Mem) : Res D := match x, y with
  | .int i, .int j => .ok (.int (i + j)) m
  | .tup xs, .tup ys => newT (xs ++ ys) m
  | .int i, .bl k => .ok (.int (i + b2i k)) m
  | _, _ => .bad
def opSub (x y : D) (m : Mem) : Res D := match x, y with
  | .int i, .int j => .ok (.int (i - j)) m
  | .bl i, .bl j => .ok (.int (b2i i - b2i j)) m
  | _, _ => .bad
def opMul (x y : D) (m : Mem) : Res D := match x, y with
  | .int i, .int j => if mulB i j then .ok (.int (i * j)) m else .bad
  | _, _ => .bad
def opFdiv (x y : D) (m : Mem) : Res D := match x, y with
  | .int i, .int j => if divB j || divN j then .ok (.int (fdivD i j)) m else .bad
  | _, _ => .bad
def opMod (x y : D) (m : Mem) : Res D := match x, y with
  | .int i, .int j => if j ≠ 0 then .ok (.int (fmodD i j)) m else .bad
  | _, _ => .bad
def opPow (x y : D) (m : Mem) : Res D := match x, y with
  | .int i, .int j => if 0 ≤ j ∧ j ≤ 1000000 ∧ i.natAbs < 2 ^ 64 then .ok (.int (i ^ j.toNat)) m else .bad
  | _, _ => .bad
def opNeg (x : D) (m : Mem) : Res D := match x with | .int i => .ok (.int (-i)) m | _ => .bad
section
variable {X : Cx} {H : Hp} {Z : Zn} {m : Mem} {Q : VK} {d : D} {v : V}
theorem rep_int {i : Int} (h : Rep H Z (.int i) v) : v = .int i := by simp only [Rep] at h; exact h
theorem rep_bl {i : Bool} (h : Rep H Z (.bl i) v) : v = .bl i := by simp only [Rep] at h; exact h
theorem rep_intI {i : Int} : Rep H Z (.int i) (.int i) := by simp only [Rep]
theorem rep_blI {i : Bool} : Rep H Z (.bl i) (.bl i) := by simp only [Rep]
theorem rep_nonI : Rep H Z .non .non := by simp only [Rep]
theorem fin_ok (h : FinO H Z (.ok d m) Q) (M : MRep H Z m) (r : Rep H Z d v) : Q v H := h H Z v (.refl _ _) M r
theorem op_add_ok : OpR X (binaryOp .Add) (rdO2 opAdd) := OpR.by fun x y H Q ⟨Z, m, dx, dy, rx, ry, M, h⟩ => by
  unfold opAdd at h
  split at h
  · rename_i i j
    exact ⟨_, op_add, i, j, rep_int rx, rep_int ry, fin_ok h M rep_intI⟩
  · rename_i xs ys
    have rx' := rx
    have ry' := ry
    simp only [Rep] at rx ry
    obtain ⟨a, vs, e1, r1, o1, rs1⟩ := rx
    obtain ⟨b, us, e2, r2, o2, rs2⟩ := ry
    have hf := fin_newT h M (reps_app rs1 rs2)
    have hm : ∀ {zs : List D} {v : V}, Rep H Z (.tup zs) v → xs ++ ys = zs → Q v H := fun r e => by
      subst e
      unfold newT at h
      split at h
      · exact h H Z _ (.refl _ _) M r
      · exact h.elim
    refine ⟨_, op_catA, a, b, vs, us, e1, e2, .inl r1, .inl r2, by rw [← List.length_append]; exact hf.1, fun e => ?_, fun _ e => ?_, fun _ _ p n => hf.2 p n⟩
    · subst e
      rw [e2] at ry'
      have := reps_len rs1
      have e : xs = [] := List.eq_nil_of_length_eq_zero this
      exact hm ry' (by rw [e]; rfl)
    · subst e
      rw [e1] at rx'
      have := reps_len rs2
      have e : ys = [] := List.eq_nil_of_length_eq_zero this
      exact hm rx' (by rw [e, List.append_nil])
  · rename_i i k
    exact ⟨_, op_add_ib, i, k, rep_int rx, rep_bl ry, fin_ok h M rep_intI⟩
  · exact h.elim
theorem op_sub_ok : OpR X (binaryOp .Sub) (rdO2 opSub) := OpR.by fun x y H Q ⟨Z, m, dx, dy, rx, ry, M, h⟩ => by
  unfold opSub at h
  split at h
  · rename_i i j
    exact ⟨_, op_sub, i, j, rep_int rx, rep_int ry, fin_ok h M rep_intI⟩
  · rename_i i j
    refine ⟨fun x y H Q => ∃ i j, x = .bl i ∧ y = .bl j ∧ Q (.int (b2i i - b2i j)) H, ?_, i, j, rep_bl rx, rep_bl ry, fin_ok h M rep_intI⟩
    intro pins s σ H x y v u Q I rx ry h
    obtain ⟨i, j, rfl, rfl, q⟩ := h
    cases (show v = Value.bool i from rx)
    cases (show u = Value.bool j from ry)
    exact sub_bool ⟨.int _, H, I.tok _, ⟨_, rfl⟩, q⟩
  · exact h.elim
theorem op_mul_ok : OpR X (binaryOp .Mult) (rdO2 opMul) := OpR.by fun x y H Q ⟨Z, m, dx, dy, rx, ry, M, h⟩ => by
  unfold opMul at h
  split at h
  · rename_i i j
    split at h
    · rename_i hb
      exact ⟨_, op_mulW, i, j, rep_int rx, rep_int ry, (of_decide_eq_true hb : i.natAbs.log2 + j.natAbs.log2 < 1000000), fin_ok h M rep_intI⟩
    · exact h.elim
  · exact h.elim
theorem op_fdiv_ok : OpR X (binaryOp .FloorDiv) (rdO2 opFdiv) := OpR.by fun x y H Q ⟨Z, m, dx, dy, rx, ry, M, h⟩ => by
  unfold opFdiv at h
  split at h
  · rename_i i j
    split at h
    · rename_i hb
      unfold fdivD at h
      by_cases h0 : 0 < j
      · rw [if_pos h0] at h
        by_cases hw : j.natAbs.log2 < 9000
        · exact ⟨_, op_fdivW, i, j, rep_int rx, rep_int ry, ⟨h0, hw⟩, fin_ok h M rep_intI⟩
        · have hn : j ≠ 0 ∧ j.natAbs < 1073741824 := by
            rw [Bool.or_eq_true] at hb
            rcases hb with hb | hb
            · exact (hw (of_decide_eq_true hb).2).elim
            · exact of_decide_eq_true hb
          exact ⟨_, op_fdiv, i, j, rep_int rx, rep_int ry, ⟨h0, by omega⟩, fin_ok h M rep_intI⟩
      · rw [if_neg h0] at h
        have hn : j ≠ 0 ∧ j.natAbs < 1073741824 := by
          rw [Bool.or_eq_true] at hb
          rcases hb with hb | hb
          · exact (h0 (of_decide_eq_true hb).1).elim
          · exact of_decide_eq_true hb
        exact ⟨_, op_fdivN, i, j, rep_int rx, rep_int ry, hn, fin_ok h M rep_intI⟩
    · exact h.elim
  · exact h.elim
theorem op_mod_ok : OpR X (binaryOp .Mod) (rdO2 opMod) := OpR.by fun x y H Q ⟨Z, m, dx, dy, rx, ry, M, h⟩ => by
  unfold opMod at h
  split at h
  · rename_i i j
    split at h
    · rename_i hb
      unfold fmodD at h
      by_cases h0 : 0 < j
      · rw [if_pos h0] at h
        exact ⟨_, op_mod, i, j, rep_int rx, rep_int ry, h0, fin_ok h M rep_intI⟩
      · rw [if_neg h0] at h
        exact ⟨_, op_modN, i, j, rep_int rx, rep_int ry, hb, fin_ok h M rep_intI⟩
    · exact h.elim
  · exact h.elim
theorem op_pow_ok : OpR X (binaryOp .Pow) (rdO2 opPow) := OpR.by fun x y H Q ⟨Z, m, dx, dy, rx, ry, M, h⟩ => by
  unfold opPow at h
  split at h
  · rename_i i j
    split at h
    · rename_i hb
      exact ⟨_, op_pow, i, j, rep_int rx, rep_int ry, hb, fin_ok h M rep_intI⟩
    · exact h.elim
  · exact h.elim
theorem un_neg_ok : UnR X (unaryOp .USub) (rdO1 opNeg) := UnR.by fun x H Q ⟨Z, m, dx, rx, M, h⟩ => by
  unfold opNeg at h
  split at h
  · rename_i i
    exact ⟨_, un_neg, i, rep_int rx, fin_ok h M rep_intI⟩
  · exact h.elim

/-! ### data at any depth -/
mutual
/-- no place of the memory within, and not too deep -/
def sh : Nat → D → Bool
  | n, .tup xs => (match n with | 0 => false | n + 1 => shs n xs)
  | n, .lst xs => (match n with | 0 => false | n + 1 => shs n xs)
  | _, .ref _ => false
  | _, .scr _ => false
  | _, .adr _ => false
  | _, .str x => (PyData.str x).canLay0
  | _, _ => true
def shs : Nat → List D → Bool
  | _, [] => true
  | n, x :: xs => sh n x && shs n xs
end
mutual
def toPy : D → PyData
  | .non => .none
  | .bl b => .bool b
  | .int i => .int i
  | .str x => .str x
  | .tup xs => .tuple (toPys xs)
  | .lst xs => .list (toPys xs)
  | .ref _ => .none
  | .scr _ => .none
  | .adr _ => .none
def toPys : List D → List PyData
  | [] => []
  | x :: xs => toPy x :: toPys xs
end
theorem toPys_map : ∀ xs : List D, toPys xs = xs.map toPy
  | [] => rfl
  | x :: xs => by show toPy x :: toPys xs = toPy x :: xs.map toPy; rw [toPys_map xs]
mutual
theorem py_dp {K : PySem.W.Frag} : ∀ (n : Nat) (d : D) (v : V), sh n d = true → Rep H Z d v → Dp K H v (toPy d)
  | n, .non, v, _, h => by simp only [Rep] at h; subst h; exact .non
  | n, .bl b, v, _, h => by simp only [Rep] at h; subst h; exact .bl b
  | n, .int i, v, _, h => by simp only [Rep] at h; subst h; exact .int i
  | n, .str x, v, _, h => by simp only [Rep] at h; subst h; exact .str x
  | 0, .tup xs, v, s, _ => by simp [sh] at s
  | n + 1, .tup xs, v, s, h => by
    simp only [Rep] at h
    obtain ⟨a, vs, rfl, r, o, rs⟩ := h
    exact .tup (.inl r) (py_dps n xs vs (by simpa [sh] using s) rs)
  | 0, .lst xs, v, s, _ => by simp [sh] at s
  | n + 1, .lst xs, v, s, h => by
    simp only [Rep] at h
    obtain ⟨a, vs, rfl, r, o, rs⟩ := h
    exact .lst (.inl (.inl r)) (py_dps n xs vs (by simpa [sh] using s) rs)
  | n, .ref i, v, s, _ => by simp [sh] at s
  | n, .scr i, v, s, _ => by simp [sh] at s
  | n, .adr i, v, s, _ => by simp [sh] at s
theorem py_dps {K : PySem.W.Frag} : ∀ (n : Nat) (ds : List D) (vs : List V), shs n ds = true → Reps H Z ds vs → DpAll K H vs (toPys ds)
  | n, [], vs, _, h => by simp only [Reps] at h; subst h; exact .nil
  | n, d :: ds, vs, s, h => by
    simp only [Reps] at h
    obtain ⟨v, r, rfl, h1, h2⟩ := h
    have s' : sh n d = true ∧ shs n ds = true := by simpa [shs] using s
    exact .cons (py_dp n d v s'.1 h1) (py_dps n ds r s'.2 h2)
end
mutual
theorem sh_lay : ∀ (n : Nat) (d : D), sh n d = true → (toPy d).canLay0 = true ∧ (toPy d).depth ≤ n
  | n, .non, _ => ⟨rfl, Nat.zero_le _⟩
  | n, .bl b, _ => ⟨rfl, Nat.zero_le _⟩
  | n, .int i, _ => ⟨rfl, Nat.zero_le _⟩
  | n, .str x, s => ⟨(by simpa [sh] using s : (PyData.str x).canLay0 = true), Nat.zero_le _⟩
  | 0, .tup xs, s => by simp [sh] at s
  | n + 1, .tup xs, s => by
    have h := shs_lay n xs (by simpa [sh] using s)
    refine ⟨h.1, ?_⟩
    have h2 := h.2
    simp only [toPy, PyData.depth]
    omega
  | 0, .lst xs, s => by simp [sh] at s
  | n + 1, .lst xs, s => by
    have h := shs_lay n xs (by simpa [sh] using s)
    refine ⟨h.1, ?_⟩
    have h2 := h.2
    simp only [toPy, PyData.depth]
    omega
  | n, .ref i, s => by simp [sh] at s
  | n, .scr i, s => by simp [sh] at s
  | n, .adr i, s => by simp [sh] at s
theorem shs_lay : ∀ (n : Nat) (ds : List D), shs n ds = true → PyData.canLayAll0 (toPys ds) = true ∧ PyData.depthAll (toPys ds) ≤ n
  | n, [], _ => ⟨rfl, Nat.zero_le _⟩
  | n, d :: ds, s => by
    have s' : sh n d = true ∧ shs n ds = true := by simpa [shs] using s
    have h1 := sh_lay n d s'.1
    have h2 := shs_lay n ds s'.2
    refine ⟨by show (_ && _) = true; rw [h1.1, h2.1]; rfl, ?_⟩
    have a := h1.2
    have b := h2.2
    simp only [toPys, PyData.depthAll]
    omega
end
theorem sh_shaped {d : D} (s : sh 60 d = true) : SeqAt.shaped (toPy d) = true := by
  obtain ⟨h1, h2⟩ := sh_lay 60 d s
  unfold SeqAt.shaped
  rw [h1, decide_eq_true (by omega)]; rfl
def eqD (x y : D) : Bool := PyData.eqv (toPy x) (toPy y)
/-- a list of the memory as the list it is -/
def deref (m : Mem) (d : D) : D := match d with
  | .ref n => (match m[n]? with | some (.lst xs) => .lst xs | _ => .ref n)
  | d => d
theorem dp_deref {K : PySem.W.Frag} {n : Nat} (M : MRep H Z m) (r : Rep H Z d v) (s : sh n (deref m d) = true) : Dp K H v (toPy (deref m d)) := by
  cases d with
  | ref i =>
    simp only [Rep] at r
    obtain ⟨a, ea, rfl⟩ := r
    simp only [deref] at s ⊢
    cases e : m[i]? with
    | none => rw [e] at s; simp [sh] at s
    | some o =>
      rw [e] at s
      cases o with
      | dct kvs => simp [sh] at s
      | lst xs =>
        obtain ⟨vs, h1, h2⟩ := M.obj i a _ ea e
        cases n with
        | zero => simp [sh] at s
        | succ n => exact .lst (.inl (.inl h1)) (py_dps n xs vs (by simpa [sh] using s) h2)
  | _ => exact py_dp n _ v s r
def opEq (x y : D) (m : Mem) : Res D := if sh 60 (deref m x) && sh 60 (deref m y) then .ok (.bl (eqD (deref m x) (deref m y))) m else .bad
def opNe (x y : D) (m : Mem) : Res D := if sh 60 (deref m x) && sh 60 (deref m y) then .ok (.bl (!eqD (deref m x) (deref m y))) m else .bad
theorem op_eq_ok (hu : X.A.units + 64 < cLine) : OpR X (compareOp .Eq) (rdO2 opEq) := OpR.by fun x y H Q ⟨Z, m, dx, dy, rx, ry, M, h⟩ => by
  unfold opEq at h
  split at h
  · rename_i hs
    rw [Bool.and_eq_true] at hs
    exact ⟨_, op_eqD hu, _, _, dp_deref M rx hs.1, dp_deref M ry hs.2, sh_shaped hs.1, sh_shaped hs.2, fin_ok h M rep_blI⟩
  · exact h.elim
theorem op_ne_ok (hu : X.A.units + 64 < cLine) : OpR X (compareOp .NotEq) (rdO2 opNe) := OpR.by fun x y H Q ⟨Z, m, dx, dy, rx, ry, M, h⟩ => by
  unfold opNe at h
  split at h
  · rename_i hs
    rw [Bool.and_eq_true] at hs
    exact ⟨_, op_neD hu, _, _, dp_deref M rx hs.1, dp_deref M ry hs.2, sh_shaped hs.1, sh_shaped hs.2, fin_ok h M rep_blI⟩
  · exact h.elim
/-- in -/
def inItems (d : D) : Option (List D) := match d with | .tup xs => some xs | .lst xs => some xs | _ => none
def opInB (neg : Bool) (x y : D) (m : Mem) : Res D := if sh 60 (deref m x) && sh 60 (deref m y) then
    (match inItems (deref m y) with | some xs => .ok (.bl (neg ^^ xs.any fun z => eqD z (deref m x))) m | none => .bad) else .bad
abbrev opIn := opInB false
abbrev opNin := opInB true
def rIn2 (K : PySem.W.Frag) (neg : Bool) : R2 := fun x y H Q => ∃ d ds, Dp K H x d ∧ (Dp K H y (.list ds) ∨ Dp K H y (.tuple ds)) ∧ SeqAt.shaped d = true ∧ SeqAt.shaped (.list ds) = true ∧ Q (.bl (neg ^^ ds.any fun z => PyData.eqv z d)) H
theorem op_in2 (hu : X.A.units + 65 < cLine) : OpR X (compareOp .In) (rIn2 X.K false) := by
  intro pins s σ H x y v u Q I rx ry h
  obtain ⟨d, ds, hd, he, sd, se, q⟩ := h
  obtain ⟨as, r1⟩ := Dp.reads I d x v hd rx
  rw [Bool.false_xor] at q
  rcases he with he | he
  · obtain ⟨bs, r2⟩ := Dp.reads I (.list ds) y u he ry
    exact SeqAt.in_list_reads r2 r1 (SeqAt.canLay_of_shaped se) (SeqAt.canLay_of_shaped sd) (room_in_shaped sd hu) ⟨.bl _, H, I, rfl, q⟩
  · obtain ⟨bs, r2⟩ := Dp.reads I (.tuple ds) y u he ry
    exact SeqAt.in_tuple_reads r2 r1 (SeqAt.canLay_of_shaped se) (SeqAt.canLay_of_shaped sd) (room_in_shaped sd hu) ⟨.bl _, H, I, rfl, q⟩
theorem op_nin2 (hu : X.A.units + 65 < cLine) : OpR X (compareOp .NotIn) (rIn2 X.K true) := by
  intro pins s σ H x y v u Q I rx ry h
  obtain ⟨d, ds, hd, he, sd, se, q⟩ := h
  obtain ⟨as, r1⟩ := Dp.reads I d x v hd rx
  rw [Bool.true_xor] at q
  rcases he with he | he
  · obtain ⟨bs, r2⟩ := Dp.reads I (.list ds) y u he ry
    exact SeqAt.notIn_list_reads r2 r1 (SeqAt.canLay_of_shaped se) (SeqAt.canLay_of_shaped sd) (room_in_shaped sd hu) ⟨.bl _, H, I, rfl, q⟩
  · obtain ⟨bs, r2⟩ := Dp.reads I (.tuple ds) y u he ry
    exact SeqAt.notIn_tuple_reads r2 r1 (SeqAt.canLay_of_shaped se) (SeqAt.canLay_of_shaped sd) (room_in_shaped sd hu) ⟨.bl _, H, I, rfl, q⟩
theorem in_any {xs : List D} {x : D} : (toPys xs).any (fun z => PyData.eqv z (toPy x)) = xs.any fun z => eqD z x := by
  rw [toPys_map, List.any_map]; rfl
theorem in_items {neg : Bool} {x y : D} {xv yv : V} (rx : Rep H Z x xv) (ry : Rep H Z y yv) (M : MRep H Z m) (h : FinO H Z (opInB neg x y m) Q) : rIn2 X.K neg xv yv H Q := by
  unfold opInB at h
  split at h
  · rename_i hs
    rw [Bool.and_eq_true] at hs
    have h1 := dp_deref (K := X.K) M rx hs.1
    have h2 := dp_deref (K := X.K) M ry hs.2
    have s2 := sh_shaped hs.2
    generalize deref m y = y' at h h2 s2
    cases y' with
    | tup xs => exact ⟨_, toPys xs, h1, .inr h2, sh_shaped hs.1, s2, by rw [in_any]; exact fin_ok h M rep_blI⟩
    | lst xs => exact ⟨_, toPys xs, h1, .inl h2, sh_shaped hs.1, s2, by rw [in_any]; exact fin_ok h M rep_blI⟩
    | _ => exact h.elim
  · exact h.elim
theorem op_in_ok (hu : X.A.units + 65 < cLine) : OpR X (compareOp .In) (rdO2 opIn) := OpR.by fun x y H Q ⟨Z, m, dx, dy, rx, ry, M, h⟩ => ⟨_, op_in2 hu, in_items rx ry M h⟩
theorem op_nin_ok (hu : X.A.units + 65 < cLine) : OpR X (compareOp .NotIn) (rdO2 opNin) := OpR.by fun x y H Q ⟨Z, m, dx, dy, rx, ry, M, h⟩ => ⟨_, op_nin2 hu, in_items rx ry M h⟩
/-- is None, is True -/
def isNon (d : D) : Bool := match d with | .non => true | _ => false
def opIs (neg : Bool) (x y : D) (m : Mem) : Res D := match y with
  | .non => .ok (.bl (neg ^^ isNon x)) m
  | _ => .bad
def opIsB (neg : Bool) (x y : D) (m : Mem) : Res D := match x, y with
  | .bl a, .bl b => .ok (.bl (neg ^^ decide (a = b))) m
  | _, .bl _ => .ok (.bl neg) m
  | _, _ => .bad
theorem non_dec (r : Rep H Z d v) : decide (v = V.non) = isNon d := by
  cases d with
  | non => simp only [Rep] at r; subst r; rfl
  | bl b => simp only [Rep] at r; subst r; rfl
  | int b => simp only [Rep] at r; subst r; rfl
  | str b => simp only [Rep] at r; subst r; rfl
  | tup xs => simp only [Rep] at r; obtain ⟨a, vs, rfl, _⟩ := r; rfl
  | lst xs => simp only [Rep] at r; obtain ⟨a, vs, rfl, _⟩ := r; rfl
  | scr xs => simp only [Rep] at r; obtain ⟨a, vs, rfl, _⟩ := r; rfl
  | adr a => simp only [Rep] at r; subst r; rfl
  | ref i => simp only [Rep] at r; obtain ⟨a, _, rfl⟩ := r; rfl
theorem op_is_ok : OpR X (compareOp .Is) (rdO2 (opIs false)) := OpR.by fun x y H Q ⟨Z, m, dx, dy, rx, ry, M, h⟩ => by
  unfold opIs at h
  split at h
  · simp only [Rep] at ry
    refine ⟨_, op_isN, ry, ?_⟩
    rw [Bool.false_xor, ← non_dec rx] at h
    exact fin_ok h M rep_blI
  · exact h.elim
theorem op_isnot_ok : OpR X (compareOp .IsNot) (rdO2 (opIs true)) := OpR.by fun x y H Q ⟨Z, m, dx, dy, rx, ry, M, h⟩ => by
  unfold opIs at h
  split at h
  · simp only [Rep] at ry
    refine ⟨_, op_notN, ry, ?_⟩
    rw [Bool.true_xor, ← non_dec rx] at h
    exact fin_ok h M rep_blI
  · exact h.elim
theorem value_of {u : Value} (r : RelV v u) (hv : ∀ b, v ≠ .bl b) (b : Bool) : u ≠ .bool b := fun e => by
  subst e
  cases v with
  | non => cases r
  | bl c => exact hv c rfl
  | int i => obtain ⟨t, e⟩ := r; cases e
  | str i => obtain ⟨t, e⟩ := r; cases e
  | byt i => obtain ⟨t, e⟩ := r; cases e
  | flt i => obtain ⟨t, e⟩ := r; cases e
  | ref i => cases r
  | ty i => cases r
theorem plain_bl {u : Value} (r : RelV v u) (b : Bool) : plainIs u (.bool b) = true := by
  cases v with
  | non => cases r; rfl
  | bl c => cases r; rfl
  | int i => obtain ⟨t, rfl⟩ := r; rfl
  | str i => obtain ⟨t, rfl⟩ := r; rfl
  | byt i => obtain ⟨t, rfl⟩ := r; rfl
  | flt i => obtain ⟨t, rfl⟩ := r; rfl
  | ref i => cases r; rfl
  | ty i => cases r; rfl
theorem rep_nbl (r : Rep H Z d v) (hd : ∀ b, d ≠ .bl b) (b : Bool) : v ≠ .bl b := fun e => by
  subst e
  cases d with
  | non => simp [Rep] at r
  | bl c => exact hd c rfl
  | int b => simp [Rep] at r
  | str b => simp [Rep] at r
  | tup xs => simp [Rep] at r
  | lst xs => simp [Rep] at r
  | scr xs => simp [Rep] at r
  | adr a => simp [Rep] at r
  | ref i => simp [Rep] at r
def rIsA (neg : Bool) : R2 := fun x y H Q => ∃ b, y = .bl b ∧ (∀ c, x ≠ .bl c) ∧ Q (.bl neg) H
theorem op_isA : OpR X (compareOp .Is) (rIsA false) := by
  intro pins s σ H x y v u Q I rx ry h
  obtain ⟨b, rfl, hx, q⟩ := h
  cases (show u = Value.bool b from ry)
  exact wpAny_is_other (plain_bl rx b) (value_of rx hx b) ⟨.bl false, H, I, rfl, q⟩
theorem op_isnotA : OpR X (compareOp .IsNot) (rIsA true) := by
  intro pins s σ H x y v u Q I rx ry h
  obtain ⟨b, rfl, hx, q⟩ := h
  cases (show u = Value.bool b from ry)
  exact wpAny_isNot_other (plain_bl rx b) (value_of rx hx b) ⟨.bl true, H, I, rfl, q⟩
theorem op_isB_ok : OpR X (compareOp .Is) (rdO2 (opIsB false)) := OpR.by fun x y H Q ⟨Z, m, dx, dy, rx, ry, M, h⟩ => by
  unfold opIsB at h
  split at h
  · rename_i a b
    rw [Bool.false_xor] at h
    exact ⟨_, op_isBl, a, b, rep_bl rx, rep_bl ry, fin_ok h M rep_blI⟩
  · rename_i b hn
    exact ⟨_, op_isA, b, rep_bl ry, fun c e => (rep_nbl rx (fun b' e' => hn b' e') c e).elim, fin_ok h M rep_blI⟩
  · exact h.elim
theorem op_isnotB_ok : OpR X (compareOp .IsNot) (rdO2 (opIsB true)) := OpR.by fun x y H Q ⟨Z, m, dx, dy, rx, ry, M, h⟩ => by
  unfold opIsB at h
  split at h
  · rename_i a b
    rw [Bool.true_xor] at h
    exact ⟨_, op_notBl, a, b, rep_bl rx, rep_bl ry, fin_ok h M rep_blI⟩
  · rename_i b hn
    exact ⟨_, op_isnotA, b, rep_bl ry, fun c e => (rep_nbl rx (fun b' e' => hn b' e') c e).elim, fin_ok h M rep_blI⟩
  · exact h.elim

/-! ### order -/
def cmpI (o : CmpOp) (i j : Int) : Option Bool := match o with
  | .Lt => some (decide (i < j))
  | .LtE => some (decide (i ≤ j))
  | .Gt => some (decide (j < i))
  | .GtE => some (decide (j ≤ i))
  | _ => none
mutual
def ordD (o : CmpOp) : D → D → Option Bool
  | .int i, .int j => cmpI o i j
  | .tup xs, .tup ys => ordL o xs ys
  | _, _ => none
def ordL (o : CmpOp) : List D → List D → Option Bool
  | [], ys => cmpI o 0 ys.length
  | x :: xs, [] => cmpI o (xs.length + 1) 0
  | x :: xs, y :: ys => match ordL o xs ys with | none => none | some c => if eqD x y then some c else ordD o x y
end
def opOrd (o : CmpOp) (x y : D) (m : Mem) : Res D := match x, y with
  | .int i, .int j => (match cmpI o i j with | some b => .ok (.bl b) m | none => .bad)
  | x, y => if sh 60 x && sh 60 y then (match ordD o x y with | some b => .ok (.bl b) m | none => .bad) else .bad
end
end PD
namespace PD
open PySem PySem.Spec L2
open PyProof.Rows hiding St

section
variable {X : Cx} {H : Hp} {Z : Zn} {m : Mem} {Q : VK} {d : D} {v : V} {pins : List (Addr × Obj)} {σ : St} {s : Shared}
theorem vals_at {xs : List V} {us : List Value} (r : Vals xs us) {j : Nat} (h1 : j < us.toArray.size) : ∃ v, xs[j]? = some v ∧ RelV v us.toArray[j] := by
  have hj : j < us.length := by simpa using h1
  have hj' : j < xs.length := by rw [r.length]; exact hj
  obtain ⟨u, e, ru⟩ := r.get (List.getElem?_eq_getElem hj')
  rw [List.getElem?_eq_getElem hj] at e
  cases e
  exact ⟨_, List.getElem?_eq_getElem hj', by simpa using ru⟩
theorem eq_at (I : Inv X pins σ H s) {x y : D} {xv yv : V} {xu yu : Value} {n : Nat} {A : Around} (sx : sh n x = true) (sy : sh n y = true) (rx : Rep H Z x xv) (ry : Rep H Z y yv) (ux : RelV xv xu) (uy : RelV yv yu) (hu : A.units + n < cLine) : SeqAt.EqAt A s xu yu (eqD x y) := by
  obtain ⟨as, r1⟩ := Dp.reads I _ _ _ (py_dp n x xv sx rx) ux
  obtain ⟨bs, r2⟩ := Dp.reads I _ _ _ (py_dp n y yv sy ry) uy
  obtain ⟨l1, d1⟩ := sh_lay n x sx
  obtain ⟨l2, d2⟩ := sh_lay n y sy
  exact SeqAt.eqAt_reads _ _ A s _ _ _ _ r1 r2 l1 l2 (by omega)
theorem shs_get {n : Nat} : ∀ {xs : List D} {j : Nat} {d : D}, shs n xs = true → xs[j]? = some d → sh n d = true
  | [], _, _, _, e => by simp at e
  | x :: xs, 0, d, s, e => by
    simp at e; subst e
    have s' : sh n x = true ∧ shs n xs = true := by simpa [shs] using s
    exact s'.1
  | x :: xs, j + 1, d, s, e => by
    have s' : sh n x = true ∧ shs n xs = true := by simpa [shs] using s
    exact shs_get s'.2 (by simpa using e)
theorem rc_int {o : CmpOp} {i j : Int} {b : Bool} {A : Around} {t u : Tok} (h : cmpI o i j = some b) : Ob.RcOp o A s (.int i t) (.int j u) b := by
  unfold cmpI at h
  split at h
  · cases h; exact Ob.RcOp.lt_int _ _ _ _
  · cases h; exact Ob.RcOp.le_int _ _ _ _
  · cases h; exact Ob.RcOp.gt_int _ _ _ _
  · cases h; exact Ob.RcOp.ge_int _ _ _ _
  · cases h
theorem rc_tup {o : CmpOp} {A : Around} {l b : Addr} {its its2 : Array Value} {e r : Nat → Bool} {z : Bool} (hl : s.heap.IsTuple l its) (hb : s.heap.IsTuple b its2) (hu : A.units < cLine)
    (he : ∀ j (h1 : j < its.size) (h2 : j < its2.size), SeqAt.EqAt A.in1 s its[j] its2[j] (e j)) (hr : ∀ j (h1 : j < its.size) (h2 : j < its2.size), e j = false → Ob.RcOp o A.in1 s its[j] its2[j] (r j))
    (hz : cmpI o its.size its2.size = some z) : Ob.RcOp o A s (.ref l) (.ref b) (Ob.lexAt e r z 0 (min its.size its2.size)) := by
  unfold cmpI at hz
  split at hz
  · have := Ob.RcOp.tuples_lt hl hb hu he hr
    have e' : z = decide (its.size < its2.size) := by
      have := Option.some.inj hz
      rw [← this]
      by_cases h : its.size < its2.size
      · rw [decide_eq_true h, decide_eq_true (by omega)]
      · rw [decide_eq_false h, decide_eq_false (by omega)]
    rw [e']; exact this
  · have := Ob.RcOp.tuples_le hl hb hu he hr
    have e' : z = decide (its.size ≤ its2.size) := by
      have := Option.some.inj hz
      rw [← this]
      by_cases h : its.size ≤ its2.size
      · rw [decide_eq_true h, decide_eq_true (by omega)]
      · rw [decide_eq_false h, decide_eq_false (by omega)]
    rw [e']; exact this
  · have := Ob.RcOp.tuples_gt hl hb hu he hr
    have e' : z = decide (its.size > its2.size) := by
      have := Option.some.inj hz
      rw [← this]
      by_cases h : its.size > its2.size
      · rw [decide_eq_true h, decide_eq_true (by omega)]
      · rw [decide_eq_false h, decide_eq_false (by omega)]
    rw [e']; exact this
  · have := Ob.RcOp.tuples_ge hl hb hu he hr
    have e' : z = decide (its.size ≥ its2.size) := by
      have := Option.some.inj hz
      rw [← this]
      by_cases h : its.size ≥ its2.size
      · rw [decide_eq_true h, decide_eq_true (by omega)]
      · rw [decide_eq_false h, decide_eq_false (by omega)]
    rw [e']; exact this
  · cases hz
theorem ordL_cons {o : CmpOp} {x y : D} {xs ys : List D} {b : Bool} (h : ordL o (x :: xs) (y :: ys) = some b) : ∃ c, ordL o xs ys = some c ∧ (if eqD x y then some c else ordD o x y) = some b := by
  have h : (match ordL o xs ys with | none => none | some c => if eqD x y then some c else ordD o x y) = some b := h
  cases e : ordL o xs ys with
  | none => rw [e] at h; cases h
  | some c => rw [e] at h; exact ⟨c, rfl, h⟩
theorem ordL_get {o : CmpOp} : ∀ {xs ys : List D} {b : Bool} {j : Nat} {x y : D}, ordL o xs ys = some b → xs[j]? = some x → ys[j]? = some y → eqD x y = false → ∃ c, ordD o x y = some c
  | [], _, _, _, _, _, _, e, _, _ => by simp at e
  | _ :: _, [], _, _, _, _, _, _, e, _ => by simp at e
  | x :: xs, y :: ys, b, 0, a, c, h, e1, e2, hf => by
    simp at e1 e2
    subst e1 e2
    obtain ⟨k, _, h2⟩ := ordL_cons h
    rw [hf] at h2
    exact ⟨b, by simpa using h2⟩
  | x :: xs, y :: ys, b, j + 1, a, c, h, e1, e2, hf => by
    obtain ⟨k, h1, _⟩ := ordL_cons h
    exact ordL_get h1 (by simpa using e1) (by simpa using e2) hf
/-- the first places that differ -/
theorem lex_ord {o : CmpOp} : ∀ (xs ys : List D) (b : Bool) (e r : Nat → Bool) (i : Nat) (z : Bool), ordL o xs ys = some b → cmpI o xs.length ys.length = some z →
    (∀ j x y, xs[j]? = some x → ys[j]? = some y → e (i + j) = eqD x y) → (∀ j x y, xs[j]? = some x → ys[j]? = some y → eqD x y = false → ∀ c, ordD o x y = some c → r (i + j) = c) →
    Ob.lexAt e r z i (min xs.length ys.length) = b
  | [], ys, b, e, r, i, z, h, hz, _, _ => by
    rw [List.length_nil, Nat.zero_min]
    have h : cmpI o 0 ys.length = some b := h
    have hz : cmpI o ((0 : Nat) : Int) ys.length = some z := hz
    have : some b = some z := by rw [← h, ← hz]; rfl
    rw [Ob.lexAt_zero]
    exact (Option.some.inj this).symm
  | x :: xs, [], b, e, r, i, z, h, hz, _, _ => by
    rw [List.length_nil, Nat.min_zero]
    have h : cmpI o (xs.length + 1) 0 = some b := h
    have hz : cmpI o ((xs.length + 1 : Nat) : Int) ((0 : Nat) : Int) = some z := hz
    have : some b = some z := by rw [← h, ← hz]; rfl
    rw [Ob.lexAt_zero]
    exact (Option.some.inj this).symm
  | x :: xs, y :: ys, b, e, r, i, z, h, hz, he, hr => by
    obtain ⟨c, h1, h2⟩ := ordL_cons h
    rw [List.length_cons, List.length_cons, show min (xs.length + 1) (ys.length + 1) = min xs.length ys.length + 1 by omega, Ob.lexAt_succ]
    have e0 := he 0 x y rfl rfl
    rw [Nat.add_zero] at e0
    rw [e0]
    by_cases q : eqD x y = true
    · rw [if_pos q] at h2 ⊢
      cases h2
      refine lex_ord xs ys b e r (i + 1) z h1 ?_ (fun j a c h1 h2 => by rw [Nat.add_assoc, Nat.add_comm 1 j]; exact he (j + 1) a c (by simpa using h1) (by simpa using h2)) fun j a c h1 h2 h3 k h4 => by rw [Nat.add_assoc, Nat.add_comm 1 j]; exact hr (j + 1) a c (by simpa using h1) (by simpa using h2) h3 k h4
      rw [← hz]
      rw [List.length_cons, List.length_cons]
      cases o <;> first | rfl | (simp only [cmpI]; congr 1; exact decide_eq_decide.mpr (by omega))
    · rw [if_neg q] at h2 ⊢
      have := hr 0 x y rfl rfl (by simpa using q) b h2
      rw [Nat.add_zero] at this
      exact this
theorem ordD_run (I : Inv X pins σ H s) {o : CmpOp} (hO : ∀ i j, ∃ z, cmpI o i j = some z) : ∀ (n : Nat) (x y : D) (A : Around) (xv yv : V) (xu yu : Value) (b : Bool), sh n x = true → sh n y = true → Rep H Z x xv → Rep H Z y yv → RelV xv xu → RelV yv yu → A.units + n < cLine → ordD o x y = some b → Ob.RcOp o A s xu yu b
  | n, x, y, A, xv, yv, xu, yu, b, sx, sy, rx, ry, ux, uy, hu, h => by
    unfold ordD at h
    split at h
    · simp only [Rep] at rx ry
      subst rx ry
      obtain ⟨t, rfl⟩ := ux
      obtain ⟨u, rfl⟩ := uy
      exact rc_int h
    · rename_i xs ys
      simp only [Rep] at rx ry
      obtain ⟨a, vs, rfl, r1, o1, rs1⟩ := rx
      obtain ⟨c, us, rfl, r2, o2, rs2⟩ := ry
      cases ux
      cases uy
      cases n with
      | zero => simp [sh] at sx
      | succ n =>
        have sx' : shs n xs = true := by simpa [sh] using sx
        have sy' : shs n ys = true := by simpa [sh] using sy
        obtain ⟨its, q1, p1, _⟩ := I.tuple (show SqT X.K H a vs from .inl r1)
        obtain ⟨its2, q2, p2, _⟩ := I.tuple (show SqT X.K H c us from .inl r2)
        have l1 : its.toArray.size = xs.length := by rw [List.size_toArray, ← q1.length, ← reps_len rs1]
        have l2 : its2.toArray.size = ys.length := by rw [List.size_toArray, ← q2.length, ← reps_len rs2]
        obtain ⟨z, hz⟩ := hO xs.length ys.length
        have hU : A.in1.units = A.units + 1 := rfl
        have key := rc_tup (o := o) (A := A) (s := s) (e := fun j => eqD (xs.getD j .non) (ys.getD j .non)) (r := fun j => (ordD o (xs.getD j .non) (ys.getD j .non)).getD false) p1 p2 (by omega) (fun j h1 h2 => ?_) (fun j h1 h2 he => ?_) (by rw [l1, l2]; exact hz)
        · rw [l1, l2] at key
          rw [lex_ord xs ys b _ _ 0 z h hz (fun j x y e1 e2 => by simp [List.getD, e1, e2]) (fun j x y e1 e2 _ k hk => by simp [List.getD, e1, e2, hk])] at key
          exact key
        · obtain ⟨v1, g1, w1⟩ := vals_at q1 h1
          obtain ⟨v2, g2, w2⟩ := vals_at q2 h2
          obtain ⟨d1, f1, k1⟩ := reps_get' rs1 g1
          obtain ⟨d2, f2, k2⟩ := reps_get' rs2 g2
          simp only [List.getD, f1, f2, Option.getD_some]
          exact eq_at I (shs_get sx' f1) (shs_get sy' f2) k1 k2 w1 w2 (by omega)
        · obtain ⟨v1, g1, w1⟩ := vals_at q1 h1
          obtain ⟨v2, g2, w2⟩ := vals_at q2 h2
          obtain ⟨d1, f1, k1⟩ := reps_get' rs1 g1
          obtain ⟨d2, f2, k2⟩ := reps_get' rs2 g2
          simp only [List.getD, f1, f2, Option.getD_some] at he ⊢
          obtain ⟨k, hk⟩ := ordL_get h f1 f2 he
          rw [hk]
          exact ordD_run I hO n d1 d2 A.in1 v1 v2 _ _ k (shs_get sx' f1) (shs_get sy' f2) k1 k2 w1 w2 (by omega) hk
    · cases h
def rOrd (o : CmpOp) : R2 := fun x y H Q => ∃ Z dx dy b, Rep H Z dx x ∧ Rep H Z dy y ∧ sh 60 dx = true ∧ sh 60 dy = true ∧ ordD o dx dy = some b ∧ Q (.bl b) H
theorem op_ordT {o : CmpOp} (hO : ∀ i j, ∃ z, cmpI o i j = some z) (hc : ∀ x y : Value, compareOp o x y = richCompare o x y) (hu : X.A.units + 64 < cLine) : OpR X (compareOp o) (rOrd o) := by
  intro pins s σ H x y v u Q I rx ry h
  obtain ⟨Z, dx, dy, b, r1, r2, s1, s2, ho, q⟩ := h
  rw [hc]
  exact ordD_run I hO 60 dx dy X.A x y v u b s1 s2 r1 r2 rx ry (by omega) ho X.prog X.w _ _ ⟨.bl b, H, I, rfl, q⟩
theorem op_ord_any {o : CmpOp} (hO : ∀ i j, ∃ z, cmpI o i j = some z) (hc : ∀ x y : Value, compareOp o x y = richCompare o x y) (hu : X.A.units + 64 < cLine) : OpR X (compareOp o) (rdO2 (opOrd o)) := OpR.by fun x y H Q ⟨Z, m, dx, dy, rx, ry, M, h⟩ => by
  refine ⟨_, op_ordT hO hc hu, ?_⟩
  unfold opOrd at h
  split at h
  · rename_i i j
    obtain ⟨z, hz⟩ := hO i j
    rw [hz] at h
    exact ⟨Z, _, _, z, rx, ry, rfl, rfl, hz, fin_ok h M rep_blI⟩
  · split at h
    · rename_i hs
      rw [Bool.and_eq_true] at hs
      cases e : ordD o dx dy with
      | none => rw [e] at h; exact h.elim
      | some b => rw [e] at h; exact ⟨Z, _, _, b, rx, ry, hs.1, hs.2, e, fin_ok h M rep_blI⟩
    · exact h.elim
theorem op_lt_ok (hu : X.A.units + 64 < cLine) : OpR X (compareOp .Lt) (rdO2 (opOrd .Lt)) := op_ord_any (fun _ _ => ⟨_, rfl⟩) (fun _ _ => rfl) hu
theorem op_le_ok (hu : X.A.units + 64 < cLine) : OpR X (compareOp .LtE) (rdO2 (opOrd .LtE)) := op_ord_any (fun _ _ => ⟨_, rfl⟩) (fun _ _ => rfl) hu
theorem op_gt_ok (hu : X.A.units + 64 < cLine) : OpR X (compareOp .Gt) (rdO2 (opOrd .Gt)) := op_ord_any (fun _ _ => ⟨_, rfl⟩) (fun _ _ => rfl) hu
theorem op_ge_ok (hu : X.A.units + 64 < cLine) : OpR X (compareOp .GtE) (rdO2 (opOrd .GtE)) := op_ord_any (fun _ _ => ⟨_, rfl⟩) (fun _ _ => rfl) hu

/-! ### subscripts, slices -/
def ixD (xs : List D) (i : Int) : Option D := atI xs i
def opIx (x y : D) (m : Mem) : Res D := match deref m x, y with
  | .tup xs, .int i => (match atI xs i with | some d => .ok d m | none => .bad)
  | .lst xs, .int i => (match atI xs i with | some d => .ok d m | none => .bad)
  | _, _ => .bad
theorem reps_atI {xs : List D} {vs : List V} {i : Int} {d : D} (r : Reps H Z xs vs) (e : atI xs i = some d) : ∃ v, atI vs i = some v ∧ Rep H Z d v := by
  unfold atI at e ⊢
  rw [← reps_len r]
  cases h : ixN xs.length i with
  | none => rw [h] at e; cases e
  | some j =>
    rw [h] at e
    exact reps_get r e
theorem IxR.by {r : R2} (h : ∀ x y H Q, r x y H Q → ∃ r', IxR X r' ∧ r' x y H Q) : IxR X r := fun value slice pins s σ H x y v u Q I rx ry q hs =>
  let ⟨_, o, q'⟩ := h x y H Q q
  o value slice pins s σ H x y v u Q I rx ry q' hs
theorem ix_ok : IxR X (rdO2 opIx) := IxR.by fun x y H Q ⟨Z, m, dx, dy, rx, ry, M, h⟩ => by
  unfold opIx at h
  cases dx with
  | tup xs =>
    cases dy with
    | int i =>
      simp only [deref] at h
      simp only [Rep] at rx
      obtain ⟨a, vs, e, r, o, rs⟩ := rx
      split at h
      · rename_i d ed
        obtain ⟨v, ev, rv⟩ := reps_atI rs ed
        exact ⟨_, ix_tup, a, vs, i, v, e, rep_int ry, .inl r, ev, fin_ok h M rv⟩
      · exact h.elim
    | _ => exact h.elim
  | lst xs =>
    cases dy with
    | int i =>
      simp only [deref] at h
      simp only [Rep] at rx
      obtain ⟨a, vs, e, r, o, rs⟩ := rx
      split at h
      · rename_i d ed
        obtain ⟨v, ev, rv⟩ := reps_atI rs ed
        exact ⟨_, ix_list, a, vs, i, v, e, rep_int ry, .inl (.inl r), ev, fin_ok h M rv⟩
      · exact h.elim
    | _ => exact h.elim
  | ref n =>
    simp only [Rep] at rx
    obtain ⟨a, ea, e⟩ := rx
    simp only [deref] at h
    cases em : m[n]? with
    | none => rw [em] at h; exact h.elim
    | some o =>
      rw [em] at h
      cases o with
      | dct kvs => exact h.elim
      | lst xs =>
        cases dy with
        | int i =>
          simp only at h
          obtain ⟨vs, hv, rs⟩ := M.obj n a _ ea em
          split at h
          · rename_i d ed
            obtain ⟨v, ev, rv⟩ := reps_atI rs ed
            exact ⟨_, ix_list, a, vs, i, v, e, rep_int ry, .inl (.inl hv), ev, fin_ok h M rv⟩
          · exact h.elim
        | _ => exact h.elim
  | _ => exact h.elim
variable {W : WX} {pos p2 : Pos} {a b : Expr} {fa fb : EF}
def eIx (a b : EF) : EF := eOp opIx a b
theorem e_ix (ha : E X W a fa) (hb : E X W b fb) (hs : PlainIx b := by intro _ _; rfl) : E X W (.Subscript a b pos) (eIx fa fb) := PE.imp (pe_ix ix_ok ha hb hs) fun _ _ _ h => rd_op h
end
end PD
namespace PD
open PySem PySem.Spec L2
open PyProof.Rows hiding St

/-! ### t[::-1] of a tuple -/
section
open HT
variable {prog : Program} {w : World} {A : Around} {E : Value → Shared → Prop} {s : Shared}
theorem pick_rev (xs : Array Value) : ((List.range xs.size).filterMap fun (m : Nat) => xs[(((xs.size : Int) - 1) + (m : Int) * (-1)).toNat]?).toArray = xs.toList.reverse.toArray := by
  congr 1
  apply List.ext_getElem?
  intro i
  have e : (fun (m : Nat) => xs[(((xs.size : Int) - 1) + (m : Int) * (-1)).toNat]?) = fun (m : Nat) => xs.toList[(((xs.size : Int) - 1) + (m : Int) * (-1)).toNat]? := by
    funext m; rw [Array.getElem?_toList]
  rw [e]
  have hl : xs.size = xs.toList.length := by simp
  rw [hl]
  generalize xs.toList = l
  have key : (List.range l.length).filterMap (fun (m : Nat) => l[(((l.length : Int) - 1) + (m : Int) * (-1)).toNat]?) = l.reverse := by
    have h1 : ∀ m ∈ List.range l.length, l[(((l.length : Int) - 1) + (m : Int) * (-1)).toNat]? = some (l.reverse.getD m .none) := by
      intro m hm
      have hm : m < l.length := List.mem_range.mp hm
      have : (((l.length : Int) - 1) + (m : Int) * (-1)).toNat = l.length - 1 - m := by omega
      rw [this]
      rw [List.getD, List.getElem?_reverse hm]
      rw [List.getElem?_eq_getElem (by omega)]
      rfl
    have h2 : ∀ (ms : List Nat), (∀ m ∈ ms, l[(((l.length : Int) - 1) + (m : Int) * (-1)).toNat]? = some (l.reverse.getD m .none)) → ms.filterMap (fun (m : Nat) => l[(((l.length : Int) - 1) + (m : Int) * (-1)).toNat]?) = ms.map fun m => l.reverse.getD m .none := by
      intro ms
      induction ms with
      | nil => intro _; rfl
      | cons m ms ih =>
        intro h
        rw [List.filterMap_cons, h m List.mem_cons_self, List.map_cons, ih fun k hk => h k (List.mem_cons_of_mem _ hk)]
    rw [h2 _ h1]
    apply List.ext_getElem?
    intro j
    by_cases hj : j < l.length
    · rw [List.getElem?_map, List.getElem?_range hj]
      simp [List.getD, hj]
    · rw [List.getElem?_eq_none (by simp; omega), List.getElem?_eq_none (by simp; omega)]
  rw [key]
theorem sliceApplied_rev {sl : Addr} {vs : Value} {n : Nat} {Q : Int × Int × Nat → Shared → Prop} (hs : s.heap.IsSliceOf sl .none .none vs) (ps : IsPart vs (some (-1))) (hq : Q ((n : Int) - 1, -1, n) s) : wpAny (model prog w) A (Builtin.Slice.sliceApplied (.ref sl) (pure (n : Int))) Q E s := by
  obtain ⟨os, hos, hcs, hds⟩ := id hs
  unfold Builtin.Slice.sliceApplied Builtin.Slice.sliceFields
  refine wpAny_bind (wpAny_bind (wpAny_field hos hds (x := .none) rfl (wpAny_bind (wpAny_field hos hds (x := .none) rfl (wpAny_bind (wpAny_field hos hds (x := vs) rfl (wpAny_pure ?_)))))))
  refine wpAny_bind (slicePart_ ps ?_)
  show wpAny _ _ (if ((-1 : Int) == 0) = true then _ else _) _ _ s
  rw [if_neg (by decide)]
  refine wpAny_bind (slicePart_ .none (wpAny_bind (slicePart_ .none (wpAny_bind (wpAny_pure ?_)))))
  show wpAny _ _ (match Builtin.Slice.sliceAdjust none none (-1) (n : Int) with | (lo, hi) => pure (lo, (-1 : Int), Builtin.Slice.slicePlaces lo hi (-1))) _ _ s
  have ea : Builtin.Slice.sliceAdjust none none (-1) (n : Int) = ((n : Int) - 1, -1) := by
    first | rfl | (unfold Builtin.Slice.sliceAdjust; simp)
  rw [ea]
  show wpAny _ _ (pure ((n : Int) - 1, (-1 : Int), Builtin.Slice.slicePlaces ((n : Int) - 1) (-1) (-1))) _ _ s
  have ep : Builtin.Slice.slicePlaces ((n : Int) - 1) (-1) (-1) = n := by
    unfold Builtin.Slice.slicePlaces
    simp
    try omega
  rw [ep]
  exact wpAny_pure hq
theorem getItem_tuple_rev {t sl : Addr} {items : Array Value} {vs : Value} {Q : Value → Shared → Prop} (ht : IsTup s.heap t items) (hs : s.heap.IsSliceOf sl .none .none vs) (ps : IsPart vs (some (-1)))
    (h : Q (.ref s.heap.objs.size) { s with heap := s.heap.push { cls := .type "tuple", data := .seq items.toList.reverse.toArray } })
    (hsz : items.size ≤ sizeLine) : wpAny (model prog w) A (getItem (.ref t) (.ref sl)) Q E s := by
  have htake : sizeOk (.seq items.toList.reverse.toArray) := by
    show items.toList.reverse.toArray.size ≤ sizeLine
    rw [List.size_toArray, List.length_reverse, Array.length_toList]
    exact hsz
  obtain ⟨os, hos, hcs, hds⟩ := id hs
  have hTs : s.TypeIs (.ref sl) "slice" := ⟨os, hos, hcs⟩
  unfold getItem
  try with_reducible refine wpAny_holding ?_
  first | refine wpAny_bind (wpAny_pure ?_) | skip
  refine wpAny_bind (wpAny_sequenceKey ht.typeIs (by decide) ?_)
  refine wpAny_bind (wpAny_callSpecial?_slot (name := Str.ofString "__getitem__") ht.typeIs PyProof.Rows.slot_tuple_getitem
    (wpAny_call_entry PyProof.Rows.slot_tuple_getitem ht.typeIs entry_tuple_getitem ?_ (args_tuple_getitem _ _)))
  show wpAny _ _ (Builtin.Tuple.tupleItemsOf (.ref t) >>= _) _ _ s
  refine wpAny_bind (tupleItemsOf_ ht ?_)
  refine wpAny_bind (wpAny_typeOf hTs ?_)
  rw [if_pos (by decide)]
  refine wpAny_bind (sliceApplied_rev hs ps ?_)
  have hno : ¬ ((((items.size : Int) - 1) == 0 && (-1 : Int) == 1 && items.size == items.size) = true) := by
    intro q
    rw [Bool.and_eq_true, Bool.and_eq_true] at q
    exact absurd q.1.2 (by decide)
  show wpAny _ _ (if (((items.size : Int) - 1) == 0 && (-1 : Int) == 1 && items.size == items.size) = true then _ else _) _ _ s
  rw [if_neg hno, pick_rev]
  first
    | exact wpAny_bind (m := Builtin.Tuple.tupleExact _) (wpAny_newObj_type (wpAny_pure ⟨_, rfl, wpAny_pure h⟩) htake)
    | exact wpAny_bind (m := Builtin.Tuple.tupleExact _) (wpAny_newObj_type (wpAny_bind (wpAny_pure (wpAny_pure ⟨_, rfl, wpAny_pure h⟩))) htake)
    | exact wpAny_bind (wpAny_bind (m := Builtin.Tuple.tupleExact _) (wpAny_newObj_type (wpAny_pure (wpAny_pure ⟨_, rfl, wpAny_pure h⟩)) htake))
    | exact wpAny_bind (wpAny_bind (m := Builtin.Tuple.tupleExact _) (wpAny_newObj_type (wpAny_pure ⟨_, rfl, wpAny_pure h⟩) htake))
end
section
variable {X : Cx}
def tRevT (K : PySem.W.Frag) (te : TE) : TE := fun σ H Q => te σ H fun x H1 => ∃ a xs, x = .ref a ∧ SqT K H1 a xs ∧ ∀ p, H1 p = none → Q (.ref p) (upd H1 p (.tup xs.reverse))
theorem pe_revT {e : Expr} {te : TE} {k : Nat} {p1 p2 p3 pos : Pos} (he : PE X e te) : PE X (.Subscript e (.Slice none none (some (.UnaryOp .USub (.Constant (.int 1) k p1) p2)) p3) pos) (tRevT X.K te) := by
  refine ⟨fun pins s σ H Q I h => ?_⟩
  refine Subscript_ (thn (he.run pins s σ H _ I h) fun v s1 ⟨x, H1, I1, r1, q1⟩ => ?_)
  obtain ⟨a, xs, ex, hx, q⟩ := q1
  subst ex
  cases r1
  have hst : PO X (some (.UnaryOp .USub (.Constant (.int 1) k p1) p2)) (tPart (tUn (rU fun i => .int (-i)) (tC (.int 1)))) := po_some (pe_un un_neg pe_int)
  refine wpAny_Slice (thn (po_none.run pins s1 σ H1 (fun o H2 => o = none ∧ H2 = H1) I1 ⟨rfl, rfl⟩) fun vl s2 ⟨l, H2, I2, pl, el, e2⟩ => ?_)
  subst el e2
  refine thn (po_none.run pins s2 σ H2 (fun o H3 => o = none ∧ H3 = H2) I2 ⟨rfl, rfl⟩) fun vu s3 ⟨u, H3, I3, pu, eu, e3⟩ => ?_
  subst eu e3
  refine thn (hst.run pins s3 σ H3 (fun o H4 => o = some (-1) ∧ H4 = H3) I3 ⟨1, rfl, -1, rfl, rfl, rfl⟩) fun vs s4 ⟨o, H4, I4, ps, eo, e4⟩ => ?_
  subst eo e4
  cases pl
  cases pu
  have I5 : Inv X pins σ H4 { s4 with heap := s4.heap.push { cls := .type "slice", data := .fields #[.none, .none, vs] } } := I4.kept (t' := s4.toks) fun b ob q => Heap.get?_push_of_some _ q
  obtain ⟨its, r, ht, hz⟩ := I5.tuple hx
  have hlen := r.length
  show wpAny (model X.prog X.w) X.A (subscriptTail e (.Slice none none (some (.UnaryOp .USub (.Constant (.int 1) k p1) p2)) p3) (.ref a) (.ref s4.heap.objs.size)) (EP X pins σ Q) X.xe { s4 with heap := s4.heap.push { cls := .type "slice", data := .fields #[.none, .none, vs] } }
  refine tail_any (ops := [.ref a, .ref s4.heap.objs.size]) ht.typeIs (PyProof.Rows.slot_tuple_getitem.lookup) ?_ (by with_unfolding_all rfl)
  refine getItem_tuple_rev ht (Heap.IsSliceOf.new _ .none .none vs) ps ?_ (by rw [List.size_toArray]; omega)
  refine ⟨.ref _, _, I5.laid (t' := s4.toks) (o := .tup xs.reverse) (fun b ob q => Heap.get?_push_of_some _ q) (Nat.le_refl _) ?_, rfl, q _ (I5.hok.fresh (Nat.le_refl _))⟩
  exact ⟨by rw [List.length_reverse]; exact hz, _, r.reverse, IsTup.new _ _⟩
end
end PD
namespace PD
open PySem PySem.Spec L2
open PyProof.Rows hiding St

section
variable {X : Cx} {W : WX} {H : Hp} {Z : Zn} {m : Mem} {Q : VK} {d : D} {v : V} {pos p2 : Pos} {e : Expr} {fe : EF} {lo hi : Option Expr}
/-! ### slices -/
abbrev PF := Sg → Mem → Res (Option Int)
def rdP (X : Cx) (W : WX) (f : PF) : TO := fun σ H Q => ∃ Z σd m, SRep H Z σd σ ∧ MRep H Z m ∧ Fin X W σ H Z (f σd m) fun o _ H' _ => Q o H'
abbrev P1 (X : Cx) (W : WX) (e : Option Expr) (f : PF) : Prop := PO X e (rdP X W f)
theorem PO.imp {e : Option Expr} {t t' : TO} (h : PO X e t) (k : ∀ σ H Q, t' σ H Q → t σ H Q) : PO X e t' := ⟨fun pins s σ H Q I q => h.run pins s σ H Q I (k σ H Q q)⟩
def pNone : PF := fun _ m => .ok none m
def pSome (f : EF) : PF := fun σ m => (f σ m).bind fun d m => match d with | .int i => .ok (some i) m | _ => .bad
theorem p_none : P1 X W none pNone := PO.imp po_none fun σ H Q ⟨Z, σd, m, S, M, h⟩ => h H Z (.refl _ _) M
theorem p_some (h : E X W e fe) : P1 X W (some e) (pSome fe) := PO.imp (po_some h) fun σ H Q ⟨Z, σd, m, S, M, h⟩ => by
  refine ⟨Z, σd, m, S, M, (Fin.bind h).mono fun d m1 H1 Z1 x1 M1 h1 v r => ?_⟩
  cases d with
  | int i => exact ⟨i, rep_int r, h1 H1 Z1 (.refl _ _) M1⟩
  | _ => exact h1.elim
def cutD (xs : List D) (lo hi : Option Int) : List D := (xs.drop (HT.sIx xs.length 0 lo)).take (HT.sIx xs.length xs.length hi - HT.sIx xs.length 0 lo)
theorem reps_cut {xs : List D} {vs : List V} {lo hi : Option Int} (r : Reps H Z xs vs) : Reps H Z (cutD xs lo hi) (cutV vs lo hi) := by
  unfold cutD cutV
  rw [reps_len r]
  exact reps_take _ (reps_drop _ r)
theorem cut_whole {xs : List D} {lo hi : Option Int} (h1 : HT.sIx xs.length 0 lo = 0) (h2 : HT.sIx xs.length xs.length hi = xs.length) : cutD xs lo hi = xs := by
  unfold cutD
  rw [h1, h2]
  simp
def opSl (nw : Bool) (x : D) (lo hi : Option Int) (m : Mem) : Res D := match deref m x with
  | .tup xs => newT (cutD xs lo hi) m
  | .lst xs => newL nw (cutD xs lo hi) m
  | _ => .bad
def rdSl (op : D → Option Int → Option Int → Mem → Res D) : V → Option Int → Option Int → Hp → VK → Prop := fun x lo hi H Q => ∃ Z m dx, Rep H Z dx x ∧ MRep H Z m ∧ FinO H Z (op dx lo hi m) Q
theorem SlR.by {r : V → Option Int → Option Int → Hp → VK → Prop} (h : ∀ x lo hi H Q, r x lo hi H Q → ∃ r', SlR X r' ∧ r' x lo hi H Q) : SlR X r := fun pins s σ H x v vl vu lo hi sl Q I rx hs pl pu q =>
  let ⟨_, o, q'⟩ := h x lo hi H Q q
  o pins s σ H x v vl vu lo hi sl Q I rx hs pl pu q'
theorem sl_ok {nw : Bool} : SlR X (rdSl (opSl nw)) := SlR.by fun x lo hi H Q ⟨Z, m, dx, rx, M, h⟩ => by
  unfold opSl at h
  cases dx with
  | tup xs =>
    simp only [deref] at h
    have rx' := rx
    simp only [Rep] at rx
    obtain ⟨a, vs, e, r, o, rs⟩ := rx
    have hf := fin_newT h M (reps_cut rs)
    refine ⟨_, sl_tupA, a, vs, e, .inl r, fun hw => ?_, fun _ => hf.2⟩
    rw [← reps_len rs] at hw
    rw [cut_whole hw.1 hw.2] at h
    unfold newT at h
    split at h
    · rw [e] at rx'
      exact h H Z _ (.refl _ _) M rx'
    · exact h.elim
  | lst xs =>
    simp only [deref] at h
    simp only [Rep] at rx
    obtain ⟨a, vs, e, r, o, rs⟩ := rx
    exact ⟨_, sl_list, a, vs, e, .inl (.inl r), (fin_newL h M (reps_cut rs)).2⟩
  | ref n =>
    simp only [Rep] at rx
    obtain ⟨a, ea, e⟩ := rx
    simp only [deref] at h
    cases em : m[n]? with
    | none => rw [em] at h; exact h.elim
    | some o =>
      rw [em] at h
      cases o with
      | dct kvs => exact h.elim
      | lst xs =>
        obtain ⟨vs, hv, rs⟩ := M.obj n a _ ea em
        exact ⟨_, sl_list, a, vs, e, .inl (.inl hv), (fin_newL h M (reps_cut rs)).2⟩
  | _ => exact h.elim
def eSl (nw : Bool) (a : EF) (lo hi : PF) : EF := fun σ m => (a σ m).bind fun x m => (lo σ m).bind fun l m => (hi σ m).bind fun u m => noexc (opSl nw x l u m)
theorem e_sl {nw : Bool} {fl fh : PF} (he : E X W e fe) (hl : P1 X W lo fl) (hh : P1 X W hi fh) : E X W (.Subscript e (.Slice lo hi none p2) pos) (eSl nw fe fl fh) := by
  refine PE.imp (pe_slice (sl_ok (nw := nw)) he hl hh) fun σ H Q ⟨Z, σd, m, S, M, h⟩ => ?_
  refine ⟨Z, σd, m, S, M, (Fin.bind h).mono fun x m1 H1 Z1 x1 M1 h1 v r => ?_⟩
  refine ⟨Z1, σd, m1, S.ext x1, M1, (Fin.bind h1).mono fun l m2 H2 Z2 x2 M2 h2 => ?_⟩
  refine ⟨Z2, σd, m2, (S.ext x1).ext x2, M2, (Fin.bind h2).mono fun u m3 H3 Z3 x3 M3 h3 => ?_⟩
  exact ⟨Z3, m3, x, Rep.ext (x2.trans x3) _ _ r, M3, FinO.of h3⟩
/-- x[::-1] -/
def opRev (nw : Bool) (x : D) (m : Mem) : Res D := match deref m x with
  | .tup xs => newT xs.reverse m
  | .lst xs => newL nw xs.reverse m
  | _ => .bad
def eRev (nw : Bool) (a : EF) : EF := fun σ m => (a σ m).bind fun x m => noexc (opRev nw x m)
theorem PE.by {e : Expr} {t : TE} (h : ∀ σ H Q, t σ H Q → ∃ t', PE X e t' ∧ t' σ H Q) : PE X e t := ⟨fun pins s σ H Q I q => let ⟨_, h', q'⟩ := h σ H Q q; h'.run pins s σ H Q I q'⟩
theorem e_rev {nw : Bool} {k : Nat} {p1 p2 p3 pos : Pos} (he : E X W e fe) : E X W (.Subscript e (.Slice none none (some (.UnaryOp .USub (.Constant (.int 1) k p1) p2)) p3) pos) (eRev nw fe) := by
  refine PE.by fun σ H Q ⟨Z, σd, m, S, M, h⟩ => ?_
  have h2 := Fin.bind h
  cases ef : fe σd m with
  | bad => rw [ef] at h2; exact h2.elim
  | exc c m1 => exact ⟨_, pe_revT he, Z, σd, m, S, M, by rw [ef] at h2 ⊢; exact h2⟩
  | ok d m1 =>
    rw [ef] at h2
    cases d with
    | tup xs =>
      refine ⟨_, pe_revT he, Z, σd, m, S, M, ?_⟩
      rw [ef]
      intro H1 Z1 x1 M1 v r
      simp only [Rep] at r
      obtain ⟨a, vs, e, r, o, rs⟩ := r
      exact ⟨a, vs, e, .inl r, (fin_newT (FinO.of (h2 H1 Z1 x1 M1)) M1 (reps_rev rs)).2⟩
    | lst xs =>
      refine ⟨_, pe_revL he, Z, σd, m, S, M, ?_⟩
      rw [ef]
      intro H1 Z1 x1 M1 v r
      simp only [Rep] at r
      obtain ⟨a, vs, e, r, o, rs⟩ := r
      exact ⟨a, vs, e, .inl (.inl r), (fin_newL (FinO.of (h2 H1 Z1 x1 M1)) M1 (reps_rev rs)).2⟩
    | ref n =>
      refine ⟨_, pe_revL he, Z, σd, m, S, M, ?_⟩
      rw [ef]
      intro H1 Z1 x1 M1 v r
      simp only [Rep] at r
      obtain ⟨a, ea, e⟩ := r
      have h3 := FinO.of (h2 H1 Z1 x1 M1)
      simp only [opRev, deref] at h3
      cases em : m1[n]? with
      | none => rw [em] at h3; exact h3.elim
      | some o =>
        rw [em] at h3
        cases o with
        | dct kvs => exact h3.elim
        | lst xs =>
          obtain ⟨vs, hv, rs⟩ := M1.obj n a _ ea em
          exact ⟨a, vs, e, .inl (.inl hv), (fin_newL h3 M1 (reps_rev rs)).2⟩
    | non => exact ⟨_, pe_revT he, Z, σd, m, S, M, by rw [ef]; exact fun H1 Z1 x1 M1 => (h2 H1 Z1 x1 M1).elim⟩
    | bl b => exact ⟨_, pe_revT he, Z, σd, m, S, M, by rw [ef]; exact fun H1 Z1 x1 M1 => (h2 H1 Z1 x1 M1).elim⟩
    | int b => exact ⟨_, pe_revT he, Z, σd, m, S, M, by rw [ef]; exact fun H1 Z1 x1 M1 => (h2 H1 Z1 x1 M1).elim⟩
    | str b => exact ⟨_, pe_revT he, Z, σd, m, S, M, by rw [ef]; exact fun H1 Z1 x1 M1 => (h2 H1 Z1 x1 M1).elim⟩
    | adr b => exact ⟨_, pe_revT he, Z, σd, m, S, M, by rw [ef]; exact fun H1 Z1 x1 M1 => (h2 H1 Z1 x1 M1).elim⟩
    | scr b => exact ⟨_, pe_revT he, Z, σd, m, S, M, by rw [ef]; exact fun H1 Z1 x1 M1 => (h2 H1 Z1 x1 M1).elim⟩

/-! ### list + list, list * int -/
/-- what a list's value is, read -/
theorem lst_of (M : MRep H Z m) {x : D} (r : Rep H Z x v) {xs : List D} (e : deref m x = .lst xs) : ∃ a vs, v = .ref a ∧ H a = some (.lst vs) ∧ Reps H Z xs vs := by
  cases x with
  | lst ys =>
    simp only [deref] at e
    cases e
    simp only [Rep] at r
    obtain ⟨a, vs, e, r, o, rs⟩ := r
    exact ⟨a, vs, e, r, rs⟩
  | ref n =>
    simp only [Rep] at r
    obtain ⟨a, ea, ev⟩ := r
    simp only [deref] at e
    cases em : m[n]? with
    | none => rw [em] at e; cases e
    | some o =>
      rw [em] at e
      cases o with
      | dct kvs => cases e
      | lst ys =>
        cases e
        obtain ⟨vs, hv, rs⟩ := M.obj n a _ ea em
        exact ⟨a, vs, ev, hv, rs⟩
  | _ => simp only [deref] at e; cases e
def opCat (nw : Bool) (x y : D) (m : Mem) : Res D := match deref m x, deref m y with
  | .lst xs, .lst ys => newL nw (xs ++ ys) m
  | _, _ => .bad
theorem op_cat_ok {nw : Bool} : OpR X (binaryOp .Add) (rdO2 (opCat nw)) := OpR.by fun x y H Q ⟨Z, m, dx, dy, rx, ry, M, h⟩ => by
  unfold opCat at h
  split at h
  · rename_i xs ys e1 e2
    obtain ⟨a, vs, ev, hv, rs⟩ := lst_of M rx e1
    obtain ⟨b, us, eu, hu, rs'⟩ := lst_of M ry e2
    have hf := fin_newL h M (reps_app rs rs')
    exact ⟨_, op_cat, a, b, vs, us, ev, eu, hv, hu, by rw [← List.length_append]; exact hf.1, hf.2⟩
  · exact h.elim
def repD (xs : List D) (k : Nat) : List D := (List.replicate k xs).flatten
theorem reps_rep {xs : List D} {vs : List V} (r : Reps H Z xs vs) : ∀ k : Nat, Reps H Z (repD xs k) (List.replicate k vs).flatten
  | 0 => by simp [repD, Reps]
  | k + 1 => by
    show Reps H Z (List.replicate (k + 1) xs).flatten (List.replicate (k + 1) vs).flatten
    rw [List.replicate_succ, List.replicate_succ, List.flatten_cons, List.flatten_cons]
    exact reps_app r (reps_rep r k)
def opRep (nw : Bool) (x y : D) (m : Mem) : Res D := match deref m x, y with
  | .lst xs, .int k => if bnd k then newL nw (repD xs k.toNat) m else .bad
  | .tup xs, .int k => if 2 ≤ k ∧ k ≤ 1000 ∧ xs ≠ [] ∧ xs.length ≤ 1000 then newT (repD xs k.toNat) m else .bad
  | _, _ => .bad
theorem len_rep (xs : List V) (k : Nat) : (List.replicate k xs).flatten.length = xs.length * k := by
  rw [PyProof.Rows.lm_len_rep_flat, Nat.mul_comm]
theorem op_rep_ok {nw : Bool} : OpR X (binaryOp .Mult) (rdO2 (opRep nw)) := OpR.by fun x y H Q ⟨Z, m, dx, dy, rx, ry, M, h⟩ => by
  unfold opRep at h
  split at h
  · rename_i xs k e1
    obtain ⟨a, vs, ev, hv, rs⟩ := lst_of M rx e1
    split at h
    · rename_i hb
      have hb := bnd_iff.mp hb
      have hf := fin_newL h M (reps_rep rs k.toNat)
      rw [len_rep] at hf
      exact ⟨_, op_rep, a, k, vs, ev, rep_int ry, hv, by omega, by omega, hf.1, hf.2⟩
    · exact h.elim
  · rename_i xs k e1
    split at h
    · rename_i hb
      cases dx with
      | tup ys =>
        simp only [deref] at e1
        cases e1
        simp only [Rep] at rx
        obtain ⟨a, vs, e, r, o, rs⟩ := rx
        refine ⟨_, op_repT, a, k, vs, e, rep_int ry, .inl r, fun z => hb.2.2.1 ?_, hb.1, hb.2.1, by rw [← reps_len rs]; exact hb.2.2.2, (fin_newT h M (reps_rep rs k.toNat)).2⟩
        subst z
        exact List.eq_nil_of_length_eq_zero (reps_len rs)
      | ref n =>
        simp only [deref] at e1
        split at e1 <;> cases e1
      | _ => simp only [deref] at e1; cases e1
    · exact h.elim
  · exact h.elim

/-! ### built-ins -/
def bLen (ds : List D) (m : Mem) : Res D := match ds with
  | [.str x] => if lenOk x.length then .ok (.int x.length) m else .bad
  | [x] => (match deref m x with
    | .tup xs => .ok (.int xs.length) m
    | .lst xs => .ok (.int xs.length) m
    | .scr xs => .ok (.int xs.length) m
    | _ => .bad)
  | _ => .bad
theorem tup_of {x : D} (r : Rep H Z x v) {xs : List D} (e : deref m x = .tup xs) : ∃ a vs, v = .ref a ∧ Rd H a (.tup vs) ∧ Reps H Z xs vs := by
  cases x with
  | tup ys =>
    simp only [deref] at e
    cases e
    simp only [Rep] at r
    obtain ⟨a, vs, e, r, o, rs⟩ := r
    exact ⟨a, vs, e, r, rs⟩
  | ref n =>
    simp only [deref] at e
    split at e <;> cases e
  | _ => simp only [deref] at e; cases e
theorem scr_of {x : D} (r : Rep H Z x v) {xs : List D} (e : deref m x = .scr xs) : ∃ a vs, v = .ref a ∧ Rd H a (.lst vs) ∧ Reps H Z xs vs := by
  cases x with
  | scr ys =>
    simp only [deref] at e
    cases e
    simp only [Rep] at r
    obtain ⟨a, vs, e, r, o, rs⟩ := r
    exact ⟨a, vs, e, r, rs⟩
  | ref n =>
    simp only [deref] at e
    split at e <;> cases e
  | _ => simp only [deref] at e; cases e
theorem bLen_ok : CallR X (.builtin "len") (rdC bLen) := CallR.by fun xs H Q ⟨Z, m, ds, rs, M, h⟩ => by
  unfold bLen at h
  split at h
  · rename_i x
    obtain ⟨v, rfl, r⟩ := reps1 rs
    simp only [Rep] at r
    subst r
    split at h
    · rename_i hl
      exact ⟨_, call_len, .str x, x.length, rfl, ⟨lenOk_le hl, rfl⟩, fin_ok h M rep_intI⟩
    · exact h.elim
  · rename_i x hx
    obtain ⟨v, rfl, r⟩ := reps1 rs
    split at h
    · rename_i ys e
      obtain ⟨a, vs, rfl, rd, rs⟩ := tup_of r e
      exact ⟨_, call_len, .ref a, vs.length, rfl, .inr ⟨vs, .inl rd, rfl⟩, by rw [← reps_len rs]; exact fin_ok h M rep_intI⟩
    · rename_i ys e
      obtain ⟨a, vs, rfl, rd, rs⟩ := lst_of M r e
      exact ⟨_, call_len, .ref a, vs.length, rfl, .inl ⟨vs, .inl (.inl rd), rfl⟩, by rw [← reps_len rs]; exact fin_ok h M rep_intI⟩
    · rename_i ys e
      obtain ⟨a, vs, rfl, rd, rs⟩ := scr_of r e
      exact ⟨_, call_len, .ref a, vs.length, rfl, .inl ⟨vs, .inl rd, rfl⟩, by rw [← reps_len rs]; exact fin_ok h M rep_intI⟩
    · exact h.elim
  · exact h.elim
def absI (i : Int) : Int := if i < 0 then -i else i
def bAbs (ds : List D) (m : Mem) : Res D := match ds with | [.int i] => .ok (.int (absI i)) m | _ => .bad
theorem bAbs_ok : CallR X (.builtin "abs") (rdC bAbs) := CallR.by fun xs H Q ⟨Z, m, ds, rs, M, h⟩ => by
  unfold bAbs at h
  split at h
  · rename_i i
    obtain ⟨v, rfl, r⟩ := reps1 rs
    simp only [Rep] at r
    subst r
    exact ⟨_, call_abs, i, rfl, fin_ok h M rep_intI⟩
  · exact h.elim
def bInt (ds : List D) (m : Mem) : Res D := match ds with | [.int i] => .ok (.int i) m | _ => .bad
theorem bInt_ok : CallR X (.type "int") (rdC bInt) := CallR.by fun xs H Q ⟨Z, m, ds, rs, M, h⟩ => by
  unfold bInt at h
  split at h
  · rename_i i
    obtain ⟨v, rfl, r⟩ := reps1 rs
    simp only [Rep] at r
    subst r
    exact ⟨_, call_int1, .inl ⟨i, rfl, fin_ok h M rep_intI⟩⟩
  · exact h.elim
def bools : List D → Option (List Bool)
  | [] => some []
  | .bl b :: r => (bools r).map (b :: ·)
  | _ => none
theorem reps_bools : ∀ {xs : List D} {vs : List V} {bs : List Bool}, Reps H Z xs vs → bools xs = some bs → vs = bs.map V.bl
  | [], vs, bs, r, e => by
    simp only [Reps] at r
    cases e
    exact r
  | x :: xs, vs, bs, r, e => by
    simp only [Reps] at r
    obtain ⟨v, r', rfl, h1, h2⟩ := r
    cases x with
    | bl b =>
      simp only [bools] at e
      cases eb : bools xs with
      | none => rw [eb] at e; cases e
      | some cs =>
        rw [eb] at e
        cases e
        rw [rep_bl h1, reps_bools h2 eb]
        rfl
    | _ => cases e
def bAllB (any : Bool) (ds : List D) (m : Mem) : Res D := match ds with
  | [x] => (match deref m x with
    | .lst xs => (match bools xs with | some bs => .ok (.bl (if any then bs.any id else bs.all id)) m | none => .bad)
    | _ => .bad)
  | _ => .bad
theorem bAll_ok (hc : X.calm = true) : CallR X (.builtin "all") (rdC (bAllB false)) := CallR.by fun xs H Q ⟨Z, m, ds, rs, M, h⟩ => by
  unfold bAllB at h
  split at h
  · rename_i x
    obtain ⟨v, rfl, r⟩ := reps1 rs
    split at h
    · rename_i ys e
      obtain ⟨a, vs, rfl, rd, rs⟩ := lst_of M r e
      split at h
      · rename_i bs eb
        have ev := reps_bools rs eb
        subst ev
        exact ⟨_, cr_all hc, a, bs, rfl, .inl (.inl rd), fin_ok h M rep_blI⟩
      · exact h.elim
    · exact h.elim
  · exact h.elim
theorem bAny_ok (hc : X.calm = true) : CallR X (.builtin "any") (rdC (bAllB true)) := CallR.by fun xs H Q ⟨Z, m, ds, rs, M, h⟩ => by
  unfold bAllB at h
  split at h
  · rename_i x
    obtain ⟨v, rfl, r⟩ := reps1 rs
    split at h
    · rename_i ys e
      obtain ⟨a, vs, rfl, rd, rs⟩ := lst_of M r e
      split at h
      · rename_i bs eb
        have ev := reps_bools rs eb
        subst ev
        exact ⟨_, cr_any hc, a, bs, rfl, .inl (.inl rd), fin_ok h M rep_blI⟩
      · exact h.elim
    · exact h.elim
  · exact h.elim
def intsD : List D → Option (List Int)
  | [] => some []
  | .int b :: r => (intsD r).map (b :: ·)
  | _ => none
theorem reps_ints : ∀ {xs : List D} {vs : List V} {bs : List Int}, Reps H Z xs vs → intsD xs = some bs → vs = bs.map V.int
  | [], vs, bs, r, e => by
    simp only [Reps] at r
    cases e
    exact r
  | x :: xs, vs, bs, r, e => by
    simp only [Reps] at r
    obtain ⟨v, r', rfl, h1, h2⟩ := r
    cases x with
    | int b =>
      simp only [intsD] at e
      cases eb : intsD xs with
      | none => rw [eb] at e; cases e
      | some cs =>
        rw [eb] at e
        cases e
        rw [rep_int h1, reps_ints h2 eb]
        rfl
    | _ => cases e
def bSum (ds : List D) (m : Mem) : Res D := match ds with
  | [x] => (match deref m x with
    | .lst xs => (match intsD xs with | some bs => .ok (.int bs.sum) m | none => .bad)
    | _ => .bad)
  | _ => .bad
theorem bSum_ok (hc : X.calm = true) : CallR X (.builtin "sum") (rdC bSum) := CallR.by fun xs H Q ⟨Z, m, ds, rs, M, h⟩ => by
  unfold bSum at h
  split at h
  · rename_i x
    obtain ⟨v, rfl, r⟩ := reps1 rs
    split at h
    · rename_i ys e
      obtain ⟨a, vs, rfl, rd, rs⟩ := lst_of M r e
      split at h
      · rename_i bs eb
        have ev := reps_ints rs eb
        subst ev
        exact ⟨_, cr_sum hc, a, bs, rfl, .inl (.inl rd), fin_ok h M rep_intI⟩
      · exact h.elim
    · exact h.elim
  · exact h.elim
/-- tuple(xs), list(xs) -/
def bTuple (ds : List D) (m : Mem) : Res D := match ds with
  | [x] => (match deref m x with
    | .lst xs => newT xs m
    | .tup xs => .ok (.tup xs) m
    | _ => .bad)
  | _ => .bad
theorem bTuple_ok : CallR X (.type "tuple") (rdC bTuple) := CallR.by fun xs H Q ⟨Z, m, ds, rs, M, h⟩ => by
  unfold bTuple at h
  split at h
  · rename_i x
    obtain ⟨v, rfl, r⟩ := reps1 rs
    split at h
    · rename_i ys e
      obtain ⟨a, vs, rfl, rd, rs⟩ := lst_of M r e
      exact ⟨_, call_tuple_of, a, vs, rfl, .inl ⟨.inl (.inl rd), (fin_newT h M rs).2⟩⟩
    · rename_i ys e
      cases x with
      | tup zs =>
        simp only [deref] at e
        cases e
        have r' := r
        simp only [Rep] at r
        obtain ⟨a, vs, rfl, rd, o, rs⟩ := r
        exact ⟨_, call_tuple_of, a, vs, rfl, .inr ⟨.inl rd, fin_ok h M r'⟩⟩
      | ref n =>
        simp only [deref] at e
        split at e <;> cases e
      | _ => simp only [deref] at e; cases e
    · exact h.elim
  · exact h.elim
def bList (nw : Bool) (ds : List D) (m : Mem) : Res D := match ds with
  | [x] => (match deref m x with
    | .lst xs => newL nw xs m
    | .tup xs => newL nw xs m
    | _ => .bad)
  | _ => .bad
theorem bList_ok {nw : Bool} : CallR X (.type "list") (rdC (bList nw)) := CallR.by fun xs H Q ⟨Z, m, ds, rs, M, h⟩ => by
  unfold bList at h
  split at h
  · rename_i x
    obtain ⟨v, rfl, r⟩ := reps1 rs
    split at h
    · rename_i ys e
      obtain ⟨a, vs, rfl, rd, rs⟩ := lst_of M r e
      exact ⟨_, call_list_of, a, vs, rfl, .inl (.inl (.inl rd)), (fin_newL h M rs).2⟩
    · rename_i ys e
      obtain ⟨a, vs, rfl, rd, rs⟩ := tup_of r e
      exact ⟨_, call_list_of, a, vs, rfl, .inr (.inl rd), (fin_newL h M rs).2⟩
    · exact h.elim
  · exact h.elim
/-- isinstance(x, T) of a built-in T -/
def tyN (m : Mem) (d : D) : String := match d with
  | .non => "NoneType" | .bl _ => "bool" | .int _ => "int" | .str _ => "str" | .tup _ => "tuple" | .lst _ => "list" | .scr _ => "list" | .adr _ => ""
  | .ref n => (match m[n]? with | some (.lst _) => "list" | some (.dct _) => "dict" | none => "")
def isiB (a b : String) : Option Bool := if ["NoneType", "bool", "int", "str", "tuple", "list", "dict"].contains a && ["int", "bool", "tuple", "str", "list"].contains b then some (a == b || (a == "bool" && b == "int")) else none
theorem kit_tab : (["NoneType", "bool", "int", "str", "tuple", "list", "dict"].all fun a => ["int", "bool", "tuple", "str", "list"].all fun b => kitB a b == some (a == b || (a == "bool" && b == "int"))) = true := by decide +kernel
theorem kit_isi {a b : String} {r : Bool} (h : isiB a b = some r) : kitB a b = some r := by
  unfold isiB at h
  split at h
  · rename_i hc
    rw [Bool.and_eq_true] at hc
    have h1 := List.all_eq_true.mp kit_tab a (by simpa using hc.1)
    have h2 := List.all_eq_true.mp h1 b (by simpa using hc.2)
    rw [← h]
    exact eq_of_beq h2
  · cases h
theorem ty_of {K : PySem.W.Frag} (M : MRep H Z m) (r : Rep H Z d v) (hn : tyN m d ≠ "") : TyX K H v (.type (tyN m d)) := by
  cases d with
  | non => simp only [Rep] at r; subst r; exact .base .non
  | bl b => simp only [Rep] at r; subst r; exact .base (.bl b)
  | int i => simp only [Rep] at r; subst r; exact .base (.int i)
  | str x => simp only [Rep] at r; subst r; exact .base (.str x)
  | tup xs =>
    simp only [Rep] at r
    obtain ⟨a, vs, rfl, rd, o, rs⟩ := r
    rcases rd with rd | ⟨ob, rd⟩
    · exact .base (.tup rd)
    · exact .fTuple rd
  | lst xs =>
    simp only [Rep] at r
    obtain ⟨a, vs, rfl, rd, o, rs⟩ := r
    exact .base (.lst rd)
  | adr a => exact (hn rfl).elim
  | scr xs =>
    simp only [Rep] at r
    obtain ⟨a, vs, rfl, rd, o, rs⟩ := r
    rcases rd with rd | ⟨ob, rd⟩
    · exact .base (.lst rd)
    · exact .base (.frz rd)
  | ref n =>
    simp only [Rep] at r
    obtain ⟨a, ea, rfl⟩ := r
    simp only [tyN] at hn ⊢
    cases em : m[n]? with
    | none => rw [em] at hn; exact (hn rfl).elim
    | some o =>
      cases o with
      | lst xs =>
        obtain ⟨vs, hv, _⟩ := M.obj n a _ ea em
        exact .base (.lst hv)
      | dct kvs =>
        obtain ⟨vs, hv, _⟩ := M.obj n a _ ea em
        exact .base (.dT hv)
def opIsi (T : String) (d : D) (m : Mem) : Res D := match isiB (tyN m d) T with | some b => .ok (.bl b) m | none => .bad
def eIsi (T : String) (f : EF) : EF := fun σ m => (f σ m).bind fun d m => noexc (opIsi T d m)
theorem e_isi {T : String} {TS : Str} {pf pt : Pos} (he : E X W e fe) (hg : Gl X "isinstance") (hm : X.mg "isinstance" = none) (hg2 : Gl X TS) (hm2 : X.mg TS = none) (hv2 : bootBuiltins TS = some (.type T)) (hn2 : TS ≠ "__name__") (hd2 : (TS == ("__debug__" : Str)) = false)
    (he1 : starEach [e, .Name TS pt] X.env = (false, eval e X.env) :: starEach [.Name TS pt] X.env := by rfl) (he2 : starEach [.Name TS pt] X.env = (false, eval (.Name TS pt) X.env) :: starEach [] X.env := by rfl) (hpl : (backTo pos (starEach [.Name TS pt] X.env)).any (·.1) = false := by rfl) :
    E X W (.Call (.Name "isinstance" pf) [e, .Name TS pt] [] pos) (eIsi T fe) := by
  refine PE.imp (pe_callB call_isi hg hm (by decide +kernel) (pa_cons he (pa_cons (pe_bltn (v := .ty T) hg2 hm2 hv2 rfl hn2 hd2) pa_nil he2) he1) (by decide) (by decide) he1 hpl) fun σ H Q ⟨Z, σd, m, S, M, h⟩ => ?_
  refine ⟨Z, σd, m, S, M, (Fin.bind h).mono fun x m1 H1 Z1 x1 M1 h1 v r => ?_⟩
  have h2 := FinO.of h1
  unfold opIsi at h2
  cases ei : isiB (tyN m1 x) T with
  | none => rw [ei] at h2; exact h2.elim
  | some b =>
    rw [ei] at h2
    have hne : tyN m1 x ≠ "" := fun z => by
      rw [z] at ei
      unfold isiB at ei
      rw [if_neg (by simp)] at ei
      cases ei
    exact ⟨v, .ty T, _, _, b, rfl, .ty T, ty_of M1 r hne, kit_ty (kit_isi ei), fin_ok h2 M1 rep_blI⟩

/-! ### methods that change a list of the memory -/
theorem Ext.upd {p : Addr} {o : HO} (hp : p ∈ Z.ρ) : Ext Z H Z (upd H p o) := by
  refine ⟨fun _ h => h, fun _ h => .inl h, ⟨[], by simp⟩, fun a u h na => ⟨?_, na⟩, fun a u h => ?_⟩
  · rw [upd_ne (fun z => na (by rw [z]; exact hp))]; exact h
  · by_cases e : a = p
    · subst e; exact ⟨o, upd_same⟩
    · exact ⟨u, by rw [upd_ne e]; exact h⟩
theorem MRep.set {n : Nat} {p : Addr} {o : HO} {u : MO} (M : MRep H Z m) (e : Z.ρ[n]? = some p) (ho : ORep (L2.upd H p o) Z u p) : MRep (L2.upd H p o) Z (m.set n u) := by
  have hp : p ∈ Z.ρ := List.mem_of_getElem? e
  refine ⟨by rw [List.length_set]; exact M.len, M.nd, M.off, fun a h => ?_, fun i a z e1 e2 => ?_⟩
  · obtain ⟨u, h⟩ := M.asd a h
    by_cases e : a = p
    · subst e; exact ⟨o, upd_same⟩
    · exact ⟨u, by rw [upd_ne e]; exact h⟩
  · by_cases hi : i = n
    · subst hi
      rw [e] at e1; cases e1
      have hl : i < m.length := by rw [M.len]; exact (List.getElem?_eq_some_iff.mp e).1
      rw [List.getElem?_set_self hl] at e2
      cases e2
      exact ho
    · rw [List.getElem?_set_ne (Ne.symm hi)] at e2
      have q := M.obj i a z e1 e2
      have ne : a ≠ p := fun z => hi (by
        subst z
        obtain ⟨h1, g1⟩ := List.getElem?_eq_some_iff.mp e1
        obtain ⟨h2, g2⟩ := List.getElem?_eq_some_iff.mp e
        exact (List.getElem_inj M.nd).mp (g1.trans g2.symm))
      exact q.keep (Ext.upd hp) (upd_ne ne)
end
end PD
namespace PD
open PySem PySem.Spec L2
open PyProof.Rows hiding St

section
variable {X : Cx} {W : WX} {H : Hp} {Z : Zn} {m : Mem} {Q : VK} {d : D} {v : V} {pos p2 apos cpos : Pos} {e : Expr} {fe : EF}
/-! ### methods of a list -/
def isLs (m : Mem) (x : D) : Bool := match deref m x with | .lst _ => true | _ => false
theorem isLs_of {x : D} (h : isLs m x = true) : ∃ xs, deref m x = .lst xs := by
  unfold isLs at h
  split at h
  · exact ⟨_, by assumption⟩
  · cases h
def eM (op : D → List D → Mem → Res D) (o : EF) (a : AF) : EF := fun σ m => (o σ m).bind fun x m => if isLs m x then (a σ m).bind fun ds m => noexc (op x ds m) else .bad
def rdM (op : D → List D → Mem → Res D) : V → List V → Hp → VK → Prop := fun x vs H Q => ∃ Z m dx ds, Rep H Z dx x ∧ Reps H Z ds vs ∧ MRep H Z m ∧ FinO H Z (op dx ds m) Q
theorem MtR.by {id : String} {r : V → List V → Hp → VK → Prop} (h : ∀ x xs H Q, r x xs H Q → ∃ r', MtR X id r' ∧ r' x xs H Q) : MtR X id r := fun pins s σ H x xs v us Q I rx rs q =>
  let ⟨_, o, q'⟩ := h x xs H Q q
  o pins s σ H x xs v us Q I rx rs q'
theorem e_meth {o : Expr} {es : List Expr} {fo : EF} {fa : AF} {op : D → List D → Mem → Res D} {name : Str} {id : String} (slot : Slot "list" name id) (hty : typeOf (.builtin id) = pure (.type "method_descriptor")) (hm : MtR X id (rdM op)) (ho : E X W o fo) (ha : AA X W (e :: es) fa)
    (hbase : attributeBase o name X.env (eval o X.env) = eval o X.env := by rfl)
    (hfew : ((backTo cpos (starEach (e :: es) X.env)).all (fun x => !x.1) && (backToKw cpos (keywordEach [] X.env)).all (fun x => x.1.isSome)
      && decide ((e :: es).length + ([] : List Keyword).length + (if ([] : List Keyword).isEmpty then 0 else 1) < 30)) = true := by rfl)
    (hline : (apos.endLine == cpos.line) = true := by rfl) (hs : starEach (e :: es) X.env = (false, eval e X.env) :: starEach es X.env := by rfl) (hplain : (backTo cpos (starEach es X.env)).any (·.1) = false := by rfl) :
    E X W (.Call (.Attribute o name apos) (e :: es) [] cpos) (eM op fo fa) := by
  refine PE.imp (pe_bm PySem.F.plainAttrs_list slot hty hm ho ha hbase hfew hline hs hplain) fun σ H Q ⟨Z, σd, m, S, M, h⟩ => ?_
  refine ⟨Z, σd, m, S, M, (Fin.bind h).mono fun x m1 H1 Z1 x1 M1 h1 v r => ?_⟩
  split at h1
  · rename_i hl
    obtain ⟨xs, ex⟩ := isLs_of hl
    obtain ⟨a, vs, rfl, hv, rs⟩ := lst_of M1 r ex
    refine ⟨.inl ⟨rfl, vs, .inl (.inl hv)⟩, Z1, σd, m1, S.ext x1, M1, (Fin.bind h1).mono fun ds m2 H2 Z2 x2 M2 h2 us r2 => ?_⟩
    exact ⟨Z2, m2, x, ds, Rep.ext x2 _ _ r, r2, M2, FinO.of h2⟩
  · exact h1.elim
/-- x.append(y), x in the memory -/
def mAppend (x : D) (ds : List D) (m : Mem) : Res D := match x, ds with
  | .ref n, [y] => (match m[n]? with | some (.lst xs) => if lenOk (xs.length + 1) then .ok .non (m.set n (.lst (xs ++ [y]))) else .bad | _ => .bad)
  | _, _ => .bad
theorem ref_lst (M : MRep H Z m) {n : Nat} (r : Rep H Z (.ref n) v) {xs : List D} (e : m[n]? = some (.lst xs)) : ∃ a vs, Z.ρ[n]? = some a ∧ v = .ref a ∧ H a = some (.lst vs) ∧ Reps H Z xs vs := by
  simp only [Rep] at r
  obtain ⟨a, ea, ev⟩ := r
  obtain ⟨vs, hv, rs⟩ := M.obj n a _ ea e
  exact ⟨a, vs, ea, ev, hv, rs⟩
theorem ext_upd {n : Nat} {p : Addr} {o : HO} (e : Z.ρ[n]? = some p) : Ext Z H Z (upd H p o) := Ext.upd (List.mem_of_getElem? e)
/-- a list of the memory written anew -/
theorem fin_set {n : Nat} {p : Addr} {xs : List D} {vs : List V} {dr : D} {vr : V} (h : FinO H Z (.ok dr (m.set n (.lst xs))) Q) (M : MRep H Z m) (e : Z.ρ[n]? = some p) (rs : Reps H Z xs vs) (rr : Rep H Z dr vr) : Q vr (upd H p (.lst vs)) := by
  have x := ext_upd (H := H) (o := HO.lst vs) e
  exact h _ Z vr x (M.set e ⟨vs, upd_same, Reps.ext x _ _ rs⟩) (Rep.ext x _ _ rr)
theorem m_append : MtR X "list.append" (rdM mAppend) := MtR.by fun x xs H Q ⟨Z, m, dx, ds, rx, rs, M, h⟩ => by
  unfold mAppend at h
  split at h
  · rename_i n y
    split at h
    · rename_i ys em
      split at h
      · rename_i hl
        obtain ⟨a, vs, ea, rfl, hv, r⟩ := ref_lst M rx em
        obtain ⟨u, rfl, ru⟩ := reps1 rs
        refine ⟨rAppend, mt_append, a, vs, u, rfl, rfl, hv, ?_, ?_⟩
        · have := lenOk_le hl
          rw [reps_len r] at this
          omega
        · exact fin_set h M ea (reps_app r (reps_one ru)) (by simp only [Rep])
      · exact h.elim
    · exact h.elim
  · exact h.elim
/-- x.extend(ys) -/
def mExtend (x : D) (ds : List D) (m : Mem) : Res D := match x, ds with
  | .ref n, [y] => (match m[n]?, deref m y with | some (.lst xs), .lst ys => if lenOk (xs.length + ys.length) then .ok .non (m.set n (.lst (xs ++ ys))) else .bad | _, _ => .bad)
  | _, _ => .bad
theorem m_extend : MtR X "list.extend" (rdM mExtend) := MtR.by fun x xs H Q ⟨Z, m, dx, ds, rx, rs, M, h⟩ => by
  unfold mExtend at h
  split at h
  · rename_i n y
    split at h
    · rename_i zs ys em ey
      split at h
      · rename_i hl
        obtain ⟨a, vs, ea, rfl, hv, r⟩ := ref_lst M rx em
        obtain ⟨u, rfl, ru⟩ := reps1 rs
        obtain ⟨b, us, rfl, hu, r2⟩ := lst_of M ru ey
        refine ⟨rExtend, mt_extend, a, b, vs, us, rfl, rfl, hv, hu, ?_, ?_⟩
        · have := lenOk_le hl
          rw [reps_len r, reps_len r2] at this
          omega
        · exact fin_set h M ea (reps_app r r2) (by simp only [Rep])
      · exact h.elim
    · exact h.elim
  · exact h.elim
/-- x.insert(i, y), 0 ≤ i -/
def mInsert (x : D) (ds : List D) (m : Mem) : Res D := match x, ds with
  | .ref n, [.int i, y] => (match m[n]? with | some (.lst xs) => if lenOk (xs.length + 1) && decide (0 ≤ i) && bnd i then .ok .non (m.set n (.lst (xs.take i.toNat ++ [y] ++ xs.drop i.toNat))) else .bad | _ => .bad)
  | _, _ => .bad
theorem m_insert : MtR X "list.insert" (rdM mInsert) := MtR.by fun x xs H Q ⟨Z, m, dx, ds, rx, rs, M, h⟩ => by
  unfold mInsert at h
  split at h
  · rename_i n i y
    split at h
    · rename_i ys em
      split at h
      · rename_i hl
        simp only [Bool.and_eq_true, decide_eq_true_eq, bnd_iff] at hl
        obtain ⟨⟨hl, h0⟩, h1⟩ := hl
        obtain ⟨a, vs, ea, rfl, hv, r⟩ := ref_lst M rx em
        obtain ⟨w, u, rfl, rw', ru⟩ := reps2 rs
        simp only [Rep] at rw'
        subst rw'
        refine ⟨_, mt_insert, a, vs, i, u, rfl, rfl, hv, ?_, h0, by omega, ?_⟩
        · have := lenOk_le hl
          rw [reps_len r] at this
          omega
        · exact fin_set h M ea (reps_app (reps_app (reps_take _ r) (reps_one ru)) (reps_drop _ r)) (by simp only [Rep])
      · exact h.elim
    · exact h.elim
  · exact h.elim
theorem reps_erase {xs : List D} {vs : List V} (r : Reps H Z xs vs) (k : Nat) : Reps H Z (xs.eraseIdx k) (vs.eraseIdx k) := by
  rw [List.eraseIdx_eq_take_drop_succ, List.eraseIdx_eq_take_drop_succ]
  exact reps_app (reps_take _ r) (reps_drop _ r)
/-- x.pop(i) -/
def mPop (x : D) (ds : List D) (m : Mem) : Res D := match x, ds with
  | .ref n, [.int i] => (match m[n]? with
    | some (.lst xs) => if bnd i then (match ixN xs.length i with | some k => (match xs[k]? with | some d => .ok d (m.set n (.lst (xs.eraseIdx k))) | none => .bad) | none => .bad) else .bad
    | _ => .bad)
  | _, _ => .bad
theorem m_pop : MtR X "list.pop" (rdM mPop) := MtR.by fun x xs H Q ⟨Z, m, dx, ds, rx, rs, M, h⟩ => by
  unfold mPop at h
  split at h
  · rename_i n i
    split at h
    · rename_i ys em
      split at h
      · rename_i hb
        have hb := bnd_iff.mp hb
        split at h
        · rename_i k ek
          split at h
          · rename_i d ed
            obtain ⟨a, vs, ea, rfl, hv, r⟩ := ref_lst M rx em
            obtain ⟨w, rfl, rw'⟩ := reps1 rs
            simp only [Rep] at rw'
            subst rw'
            obtain ⟨u, eu, ru⟩ := reps_get r ed
            rw [reps_len r] at ek
            exact ⟨rPopAt, mt_popAt, a, vs, i, k, u, rfl, rfl, hv, by omega, by omega, (ixN_seq ek).1, eu, fin_set h M ea (reps_erase r k) ru⟩
          · exact h.elim
        · exact h.elim
      · exact h.elim
    · exact h.elim
  · exact h.elim

/-! ### x[i] = e -/
def setIx (x i d : D) (σ : Sg) (m : Mem) : SRes := match x, i with
  | .ref n, .int k => (match m[n]? with | some (.lst xs) => (match ixN xs.length k with | some j => .nx σ (m.set n (.lst (xs.set j d))) | none => .bad) | _ => .bad)
  | _, _ => .bad
def gIx (o i : EF) : GF := fun d σ m => match o σ m with | .ok x m1 => (match i σ m1 with | .ok y m2 => setIx x y d σ m2 | _ => .bad) | _ => .bad
theorem gok_ix {o i : EF} : GOk (gIx o i) := fun d σ m => by
  unfold gIx
  split
  · split
    · unfold setIx
      split
      · split
        · split
          · exact .inl ⟨_, _, rfl⟩
          · exact .inr rfl
        · exact .inr rfl
      · exact .inr rfl
    · exact .inr rfl
  · exact .inr rfl
theorem setIx_nx {x y d : D} {σ σ1 : Sg} {m m1 : Mem} (h : setIx x y d σ m = .nx σ1 m1) : ∃ n k xs j, x = .ref n ∧ y = .int k ∧ m[n]? = some (.lst xs) ∧ ixN xs.length k = some j ∧ σ1 = σ ∧ m1 = m.set n (.lst (xs.set j d)) := by
  unfold setIx at h
  split at h
  · rename_i n k
    split at h
    · rename_i xs em
      split at h
      · rename_i j ej
        cases h
        exact ⟨n, k, xs, j, rfl, rfl, em, ej, rfl, rfl⟩
      · cases h
    · cases h
  · cases h
theorem g_ix {ws : List Nat} {o i : Expr} {fo fi : EF} (ho : E X W o fo) (hi : E X W i fi)
    (ha : ∀ v, assign (.Subscript o i pos) X.env v = (do
      let ov ← holding [v] (eval o X.env)
      let iv ← holding [v, ov] (eval i X.env)
      standAt pos
      holding [v, ov, iv] (setItem ov iv v)
      release [v, ov, iv] []) := by intro _; rfl) : G X ws (.Subscript o i pos) (gIx fo fi) := by
  refine PG.imp (pg_sub ho hi set_list ha) fun v σ H Q ⟨Z, σd, m, d, S, M, r, σ1, m1, eg, q⟩ => ?_
  unfold gIx at eg
  cases eo : fo σd m with
  | ok x m2 =>
    rw [eo] at eg
    simp only at eg
    refine ⟨Z, σd, m, S, M, ?_⟩
    rw [eo]
    intro H2 Z2 x2 M2 xv rx
    refine ⟨Z2, σd, m2, S.ext x2, M2, ?_⟩
    cases ei : fi σd m2 with
    | ok y m3 =>
      rw [ei] at eg
      intro H3 Z3 x3 M3 yv ry
      obtain ⟨n, k, xs, j, rfl, rfl, em, ej, rfl, rfl⟩ := setIx_nx eg
      obtain ⟨a, vs, ea, rfl, hv, rs⟩ := ref_lst M3 (Rep.ext x3 _ _ rx) em
      simp only [Rep] at ry
      have rd := Rep.ext (x2.trans x3) _ _ r
      have y := ext_upd (H := H3) (o := HO.lst (vs.set j v)) ea
      refine ⟨a, vs, k, j, rfl, ry, hv, by rw [← reps_len rs]; exact ej, ?_⟩
      exact q _ _ _ ((x2.trans x3).trans y) (M3.set ea ⟨_, upd_same, Reps.ext y _ _ (reps_set rd j rs)⟩) (S.ext ((x2.trans x3).trans y)) rfl
    | exc c m3 => rw [ei] at eg; cases eg
    | bad => rw [ei] at eg; cases eg
  | exc c m2 => rw [eo] at eg; cases eg
  | bad => rw [eo] at eg; cases eg

/-! ### x += e, x -= e of ints -/
def sAug (i : Nat) (op : Int → Int → Int) (fe : EF) : SF := fun σ m => match σ[i]? with
  | some (some (.int a)) => (fe σ m).st σ fun d m => (match d with | .int b => .nx (σ.set i (some (.int (op a b)))) m | _ => .bad)
  | _ => .bad
theorem s_aug {i : Nat} {x : Str} {op : Operator} {f : Int → Int → Int} {pos' : Pos} (hN : X.N.Nodup) (hi : X.N[i]? = some x) (hx : Loc X.env.scope x) (he : E X W e fe) (ho : PIp X op (ipI f)) (hf : X.fn x = true ∨ X.env.scope.names.lookup x = some .local := by first | exact .inl rfl | exact .inr rfl | assumption) :
    S1 X W (.AugAssign (.Name x pos') op e pos) (sAug i f fe) := by
  refine PS.imp (ps_aug hN hi hx he ho hf) fun D σ H ⟨Z, σd, m, S, M, h⟩ => ?_
  unfold sAug at h
  split at h
  · rename_i a ea
    obtain ⟨va, e1, r1⟩ := S.val i _ ea
    simp only [Rep] at r1
    subst r1
    refine ⟨_, e1, Z, σd, m, S, M, (Fin.st h S).mono fun d m1 H1 Z1 x1 M1 h1 v r => ?_⟩
    cases d with
    | int b =>
      simp only [Rep] at r
      exact ⟨a, b, rfl, r, h1 H1 Z1 _ (.refl _ _) M1 ((S.ext x1).set i (by simp only [Rep]))⟩
    | _ => exact h1.elim
  · exact h.elim
end
end PD
namespace PD
open PySem PySem.Spec L2
open PyProof.Rows hiding St

section
variable {X : Cx} {W : WX} {H : Hp} {Z : Zn} {m : Mem} {Q : VK} {d : D} {v : V} {pos p2 apos cpos : Pos} {e : Expr} {fe : EF} {pins : List (Addr × Obj)} {σ : St} {s : Shared}
/-! ### sorted -/
def likeD (x y : D) : Bool := PySem.W.alike (toPy x) (toPy y)
def leD (x y : D) : Bool := PySem.W.dataLe false toPy x y
def tupNE : D → Bool | .tup (_ :: _) => true | _ => false
def atomic : D → Bool | .int _ => true | .str _ => true | .bl _ => true | .lst _ => true | _ => false
def canSort (xs : List D) : Bool := shs 60 xs && (xs.all fun x => xs.all fun y => likeD x y) && (xs.all tupNE || xs.all atomic)
def sortD (xs : List D) : List D := xs.mergeSort leD
theorem alike_of {xs : List D} (h : (xs.all fun x => xs.all fun y => likeD x y) = true) : PySem.W.AllAlike (xs.map toPy) := by
  intro d hd d' hd'
  obtain ⟨b, hb, rfl⟩ := List.mem_map.mp hd
  obtain ⟨b', hb', rfl⟩ := List.mem_map.mp hd'
  exact List.all_eq_true.mp (List.all_eq_true.mp h b hb) b' hb'
theorem sortable_of {xs : List D} (h : (xs.all tupNE || xs.all atomic) = true) : PySem.W.Sortable (xs.map toPy) := by
  rw [Bool.or_eq_true] at h
  rcases h with h | h
  · refine .inl fun d hd => ?_
    obtain ⟨b, hb, rfl⟩ := List.mem_map.mp hd
    have q := List.all_eq_true.mp h b hb
    cases b with
    | tup ys =>
      cases ys with
      | nil => cases q
      | cons y ys => exact ⟨toPy y, toPys ys, rfl⟩
    | _ => cases q
  · refine .inr fun d hd => ?_
    obtain ⟨b, hb, rfl⟩ := List.mem_map.mp hd
    have q := List.all_eq_true.mp h b hb
    cases b with
    | int i => exact ⟨by simp [toPy], by simp [toPy]⟩
    | str i => exact ⟨by simp [toPy], by simp [toPy]⟩
    | bl i => exact ⟨by simp [toPy], by simp [toPy]⟩
    | lst i => exact ⟨by simp [toPy], by simp [toPy]⟩
    | _ => cases q
theorem each_of (H : Hp) (Z : Zn) : ∀ {xs : List D} {vs : List V} {us : List Value}, Reps H Z xs vs → Vals vs us → PySem.W.EachIs (fun u d => ∃ v, RelV v u ∧ Rep H Z d v) us xs
  | [], vs, us, r, w => by
    simp only [Reps] at r
    subst r
    cases w
    exact .nil
  | x :: xs, vs, us, r, w => by
    simp only [Reps] at r
    obtain ⟨v, r', rfl, h1, h2⟩ := r
    cases w with
    | cons w ws => exact .cons ⟨v, w, h1⟩ (each_of H Z h2 ws)
theorem of_each : ∀ {xs : List D} {us : List Value}, PySem.W.EachIs (fun u d => ∃ v, RelV v u ∧ Rep H Z d v) us xs → ∃ vs, Vals vs us ∧ Reps H Z xs vs
  | [], _, .nil => ⟨[], .nil, by simp only [Reps]⟩
  | x :: xs, _, .cons ⟨v, w, r⟩ t => by
    obtain ⟨vs, h1, h2⟩ := of_each t
    exact ⟨v :: vs, .cons w h1, by simp only [Reps]; exact ⟨v, vs, rfl, r, h2⟩⟩
theorem each_reads (I : Inv X pins σ H s) : ∀ {xs : List D} {vs : List V} {us : List Value}, shs 60 xs = true → Reps H Z xs vs → Vals vs us → PySem.W.EachIs (fun u d => ∃ as, Reads s.heap u (toPy d) as) us xs
  | [], vs, us, _, r, w => by
    simp only [Reps] at r
    subst r
    cases w
    exact .nil
  | x :: xs, vs, us, hs, r, w => by
    simp only [Reps] at r
    obtain ⟨v, r', rfl, h1, h2⟩ := r
    have s' : sh 60 x = true ∧ shs 60 xs = true := by simpa [shs] using hs
    cases w with
    | cons w ws => exact .cons (Dp.reads I _ _ _ (py_dp 60 x v s'.1 h1) w) (each_reads I s'.2 h2 ws)
theorem shs_mem {n : Nat} : ∀ {xs : List D} {d : D}, shs n xs = true → d ∈ xs → sh n d = true
  | [], _, _, h => by cases h
  | x :: xs, d, s, h => by
    have s' : sh n x = true ∧ shs n xs = true := by simpa [shs] using s
    rcases List.mem_cons.mp h with rfl | h
    · exact s'.1
    · exact shs_mem s'.2 h
def rSortD (K : PySem.W.Frag) : List V → Hp → VK → Prop := fun vs H Q => ∃ (Z : Zn) (a : Addr) (xs : List D) (ys : List V), vs = [V.ref a] ∧ SqL K H a ys ∧ Reps H Z xs ys ∧ canSort xs = true ∧ ∀ zs p, Reps H Z (sortD xs) zs → H p = none → Q (.ref p) (upd H p (.lst zs))
theorem cr_sortD (hu : X.A.units + 64 < cLine) : CallR X (.builtin "sorted") (rSortD X.K) := by
  intro pins s σ H vs us Q I r h
  obtain ⟨Z, a, xs, ys, rfl, hs, rs, hc, q⟩ := h
  simp only [canSort, Bool.and_eq_true] at hc
  obtain ⟨its, rv, hl, hz⟩ := I.list hs
  obtain ⟨u, rfl, ru⟩ := vals1 r
  obtain rfl : u = Value.ref a := ru
  refine PySem.W.sorted_data (bs := xs) (enc := toPy) hl.isList (each_of H Z rs rv) (each_reads I hc.1.1 rs rv) (alike_of hc.1.2) (sortable_of hc.2) (by rw [reps_len rs]; exact hz) (fun b hb => ?_) fun out hlen eo => ?_
  · have := (sh_lay 60 b (shs_mem hc.1.1 hb)).2
    omega
  · obtain ⟨zs, w, rz⟩ := of_each eo
    obtain ⟨e0, he⟩ := sortedAll_at s.heap its out.toArray
    refine ⟨.ref (s.heap.objs.size + 1), upd H (s.heap.objs.size + 1) (.lst zs), I.laid (t' := s.toks) (fun b o e => sortedAll_old e) (Nat.le_succ _) ⟨?_, out, e0, w, he⟩, rfl, q _ _ rz (I.hok.fresh (Nat.le_succ _))⟩
    rw [w.length, hlen, reps_len rs]
    exact hz
def bSorted (nw : Bool) (ds : List D) (m : Mem) : Res D := match ds with
  | [x] => (match deref m x with | .lst xs => if canSort xs then newL nw (sortD xs) m else .bad | _ => .bad)
  | _ => .bad
theorem bSorted_ok {nw : Bool} (hu : X.A.units + 64 < cLine) : CallR X (.builtin "sorted") (rdC (bSorted nw)) := CallR.by fun xs H Q ⟨Z, m, ds, rs, M, h⟩ => by
  unfold bSorted at h
  split at h
  · rename_i x
    obtain ⟨v, rfl, r⟩ := reps1 rs
    split at h
    · rename_i ys e
      split at h
      · rename_i hc
        obtain ⟨a, vs, rfl, rd, rs⟩ := lst_of M r e
        exact ⟨_, cr_sortD hu, Z, a, ys, vs, rfl, .inl (.inl rd), rs, hc, fun zs p rz hp => (fin_newL h M rz).2 p hp⟩
      · exact h.elim
    · exact h.elim
  · exact h.elim
/-! ### min, max of ints -/
def minI : List Int → Int | [] => 0 | x :: xs => xs.foldl min x
def maxI : List Int → Int | [] => 0 | x :: xs => xs.foldl max x
theorem foldl_min : ∀ (xs : List Int) (x : Int), (xs.foldl min x = x ∨ xs.foldl min x ∈ xs) ∧ xs.foldl min x ≤ x ∧ ∀ y ∈ xs, xs.foldl min x ≤ y
  | [], x => ⟨.inl rfl, Int.le_refl _, fun y h => by cases h⟩
  | z :: xs, x => by
    obtain ⟨h1, h2, h3⟩ := foldl_min xs (min x z)
    rw [List.foldl_cons]
    refine ⟨?_, by omega, fun y hy => ?_⟩
    · rcases h1 with h1 | h1
      · rcases (show min x z = x ∨ min x z = z by omega) with e | e
        · exact .inl (by rw [h1, e])
        · exact .inr (by rw [h1, e]; exact List.mem_cons_self)
      · exact .inr (List.mem_cons_of_mem _ h1)
    · rcases List.mem_cons.mp hy with rfl | hy
      · omega
      · exact h3 y hy
theorem foldl_max : ∀ (xs : List Int) (x : Int), (xs.foldl max x = x ∨ xs.foldl max x ∈ xs) ∧ x ≤ xs.foldl max x ∧ ∀ y ∈ xs, y ≤ xs.foldl max x
  | [], x => ⟨.inl rfl, Int.le_refl _, fun y h => by cases h⟩
  | z :: xs, x => by
    obtain ⟨h1, h2, h3⟩ := foldl_max xs (max x z)
    rw [List.foldl_cons]
    refine ⟨?_, by omega, fun y hy => ?_⟩
    · rcases h1 with h1 | h1
      · rcases (show max x z = x ∨ max x z = z by omega) with e | e
        · exact .inl (by rw [h1, e])
        · exact .inr (by rw [h1, e]; exact List.mem_cons_self)
      · exact .inr (List.mem_cons_of_mem _ h1)
    · rcases List.mem_cons.mp hy with rfl | hy
      · omega
      · exact h3 y hy
theorem minI_of {xs : List Int} {k : Int} (h1 : k ∈ xs) (h2 : ∀ y ∈ xs, k ≤ y) : k = minI xs := by
  cases xs with
  | nil => cases h1
  | cons x xs =>
    obtain ⟨a, b, c⟩ := foldl_min xs x
    show k = xs.foldl min x
    have d1 : xs.foldl min x ≤ k := by
      rcases List.mem_cons.mp h1 with rfl | h1
      · exact b
      · exact c k h1
    have d2 : k ≤ xs.foldl min x := by
      rcases a with a | a
      · rw [a]; exact h2 x List.mem_cons_self
      · exact h2 _ (List.mem_cons_of_mem _ a)
    omega
theorem maxI_of {xs : List Int} {k : Int} (h1 : k ∈ xs) (h2 : ∀ y ∈ xs, y ≤ k) : k = maxI xs := by
  cases xs with
  | nil => cases h1
  | cons x xs =>
    obtain ⟨a, b, c⟩ := foldl_max xs x
    show k = xs.foldl max x
    have d1 : k ≤ xs.foldl max x := by
      rcases List.mem_cons.mp h1 with rfl | h1
      · exact b
      · exact c k h1
    have d2 : xs.foldl max x ≤ k := by
      rcases a with a | a
      · rw [a]; exact h2 x List.mem_cons_self
      · exact h2 _ (List.mem_cons_of_mem _ a)
    omega
def bMin (ds : List D) (m : Mem) : Res D := match ds with
  | [.int i, .int j] => .ok (.int (if j < i then j else i)) m
  | [x] => (match deref m x with | .lst xs => (match intsD xs with | some (k :: ks) => .ok (.int (minI (k :: ks))) m | _ => .bad) | _ => .bad)
  | _ => .bad
def bMax (ds : List D) (m : Mem) : Res D := match ds with
  | [.int i, .int j] => .ok (.int (if j > i then j else i)) m
  | [x] => (match deref m x with | .lst xs => (match intsD xs with | some (k :: ks) => .ok (.int (maxI (k :: ks))) m | _ => .bad) | _ => .bad)
  | _ => .bad
theorem bMin_ok (hc : X.calm = true) : CallR X (.builtin "min") (rdC bMin) := CallR.by fun xs H Q ⟨Z, m, ds, rs, M, h⟩ => by
  unfold bMin at h
  split at h
  · rename_i i j
    obtain ⟨v, u, rfl, rv, ru⟩ := reps2 rs
    simp only [Rep] at rv ru
    subst rv ru
    exact ⟨_, call_min2 hc, i, j, rfl, fin_ok h M rep_intI⟩
  · rename_i x _
    obtain ⟨v, rfl, r⟩ := reps1 rs
    split at h
    · rename_i ys e
      obtain ⟨a, vs, rfl, rd, rs⟩ := lst_of M r e
      split at h
      · rename_i k ks eb
        have ev := reps_ints rs eb
        subst ev
        exact ⟨_, cr_min hc, a, k :: ks, rfl, .inl (.inl rd), Nat.succ_pos _, fun j h1 h2 => by rw [minI_of h1 h2]; exact fin_ok h M rep_intI⟩
      · exact h.elim
    · exact h.elim
  · exact h.elim
theorem bMax_ok (hc : X.calm = true) : CallR X (.builtin "max") (rdC bMax) := CallR.by fun xs H Q ⟨Z, m, ds, rs, M, h⟩ => by
  unfold bMax at h
  split at h
  · rename_i i j
    obtain ⟨v, u, rfl, rv, ru⟩ := reps2 rs
    simp only [Rep] at rv ru
    subst rv ru
    exact ⟨_, call_max2 hc, i, j, rfl, fin_ok h M rep_intI⟩
  · rename_i x _
    obtain ⟨v, rfl, r⟩ := reps1 rs
    split at h
    · rename_i ys e
      obtain ⟨a, vs, rfl, rd, rs⟩ := lst_of M r e
      split at h
      · rename_i k ks eb
        have ev := reps_ints rs eb
        subst ev
        exact ⟨_, cr_max hc, a, k :: ks, rfl, .inl (.inl rd), Nat.succ_pos _, fun j h1 h2 => by rw [maxI_of h1 h2]; exact fin_ok h M rep_intI⟩
      · exact h.elim
    · exact h.elim
  · exact h.elim
end
end PD
namespace PD
open PySem PySem.Spec L2
open PyProof.Rows hiding St

/-! ### + and * whatever the sides are -/
def opAddX (nw : Bool) (x y : D) (m : Mem) : Res D := match x, y with
  | .int i, .int j => .ok (.int (i + j)) m
  | x, y => match deref m x, deref m y with
    | .lst xs, .lst ys => newL nw (xs ++ ys) m
    | _, _ => opAdd x y m
def opMulX (nw : Bool) (x y : D) (m : Mem) : Res D := match x, y with
  | .int i, .int j => opMul (.int i) (.int j) m
  | x, y => opRep nw x y m
section
variable {X : Cx} {W : WX} {H : Hp} {Z : Zn} {m : Mem} {Q : VK} {d : D} {v : V} {pos p2 apos cpos : Pos} {e : Expr} {fe : EF}
theorem op_addX_ok {nw : Bool} : OpR X (binaryOp .Add) (rdO2 (opAddX nw)) := OpR.by fun x y H Q ⟨Z, m, dx, dy, rx, ry, M, h⟩ => by
  unfold opAddX at h
  split at h
  · exact ⟨_, op_add_ok, Z, m, _, _, rx, ry, M, h⟩
  · split at h
    · rename_i xs ys e1 e2
      exact ⟨_, op_cat_ok (nw := nw), Z, m, _, _, rx, ry, M, by unfold opCat; rw [e1, e2]; exact h⟩
    · exact ⟨_, op_add_ok, Z, m, _, _, rx, ry, M, h⟩
theorem op_mulX_ok {nw : Bool} : OpR X (binaryOp .Mult) (rdO2 (opMulX nw)) := OpR.by fun x y H Q ⟨Z, m, dx, dy, rx, ry, M, h⟩ => by
  unfold opMulX at h
  split at h
  · exact ⟨_, op_mul_ok, Z, m, _, _, rx, ry, M, h⟩
  · exact ⟨_, op_rep_ok (nw := nw), Z, m, _, _, rx, ry, M, h⟩
/-! ### how many arguments -/
abbrev ArgN (f : AF) (n : Nat) : Prop := ∀ σ m ds m', f σ m = .ok ds m' → ds.length = n
theorem argn_nil : ArgN aNil 0 := fun σ m ds m' h => by cases h; rfl
theorem argn_cons {a : EF} {r : AF} {n : Nat} (hr : ArgN r n) : ArgN (aCons a r) (n + 1) := fun σ m ds m' h => by
  unfold aCons at h
  cases ea : a σ m with
  | ok x m1 =>
    rw [ea] at h
    have h : (r σ m1).bind (fun xs m => .ok (x :: xs) m) = .ok ds m' := h
    cases er : r σ m1 with
    | ok xs m2 =>
      rw [er] at h
      cases h
      rw [List.length_cons, hr _ _ _ _ er]
    | exc c m2 => rw [er] at h; cases h
    | bad => rw [er] at h; cases h
  | exc c m1 => rw [ea] at h; cases h
  | bad => rw [ea] at h; cases h
theorem takesW0 {X : Cx} : Takes X W0 := takes0
/-! ### a def, as the top has written it -/
structure DefT (K : PySem.W.Frag) (mg : Str → Option Value) (x : Str) (ps : List Str) (st : Stmt) where
  a : Addr
  fd : FuncData
  F : Fun K x x st a fd
  g : mg x = some (.ref a)
  ba : ∀ us : List Value, us.length = ps.length → bindArgs fd ⟨us, []⟩ = pure (ps.zip us)
theorem DefT.b {K : PySem.W.Frag} {mg : Str → Option Value} {x : Str} {ps : List Str} {st : Stmt} (T : DefT K mg x ps st) : Binds K T.fd ps [] := Binds.all T.ba
def DefT.of {K : PySem.W.Frag} {mg : Str → Option Value} {h : Heap} {x : Str} {ps : List Str} {st : Stmt} {f : Addr} {od an : Option Addr} {sl : Array (Option Value)} {oc kV dc pm cd ct : Value} (X : K.In h) (G : h.Ns mainGlobals mg) (a1 : PySem.W.nsIn K mainGlobals x = some (some (.ref f)))
    (l1 : K.lookup f = some ⟨oc, od, .func (PySem.W.fnOf x x (defArgs st) (defBody st) (defScope st) .none kV dc pm an cd ct), sl⟩) (c1 : PySem.W.codeIn K cd x = true) (k1 : PySem.W.keepIn K (.ref f) = true)
    (hb : ∀ us : List Value, us.length = ps.length → bindArgs (PySem.W.fnOf x x (defArgs st) (defBody st) (defScope st) .none kV dc pm an cd ct) ⟨us, []⟩ = pure (ps.zip us)) : DefT K mg x ps st :=
  ⟨f, _, fun_mk l1 c1 k1, PySem.W.mg_of X G a1, hb⟩
/-- an own class as the top has written it: the classes behind it are bm -/
abbrev veB : List Value := [.type "ValueError", .type "Exception", .type "BaseException", .type "object"]
def newOk (sl : Array (Option Value)) : Bool := match sl.toList with | [_, _, _, _, some (.builtin n), _] => n == "ValueError.__new__" | _ => false
def strKeys (es : Array DictEntry) : Bool := es.toList.all fun e => match e.key with | .str _ _ => true | _ => false
def ClsK (K : PySem.W.Frag) (C : Addr) (bm : List Value) : Prop := ∃ (dd : Option Addr) (cd : ClassData) (sl : Array (Option Value)), K.lookup C = some ⟨.type "type", dd, .cls cd, sl⟩ ∧ cd.mro = .ref C :: bm ∧ newOk sl = true ∧ cd.hasDel = false ∧ PySem.W.nsOkIn K cd.ns = true ∧ PySem.W.nsIn K cd.ns "__init__" = some none
theorem ClsK.mk' {K : PySem.W.Frag} {C : Addr} {bm : List Value} {dd : Option Addr} {cd : ClassData} {sl sl2 : Array (Option Value)} {oc : Value} {od : Option Addr} {es : Array DictEntry} {n : Nat} (xL : K.lookup C = some ⟨.type "type", dd, .cls cd, sl⟩) (hm : cd.mro = .ref C :: bm) (hs : newOk sl = true) (hd : cd.hasDel = false)
    (nL : K.lookup cd.ns = some ⟨oc, od, .dict es n, sl2⟩) (ho : strKeys es = true) (hi : PySem.W.nsIn K cd.ns "__init__" = some none) : ClsK K C bm :=
  ⟨dd, cd, sl, xL, hm, hs, hd, by unfold PySem.W.nsOkIn; simp only [nL]; rw [← Array.all_toList]; exact ho, hi⟩
theorem ClsK.tail {K : PySem.W.Frag} {C : Addr} {bm : List Value} (c : ClsK K C bm) (t : PySem.W.tailIn K veB bm = true) : PySem.W.tailIn K veB (.ref C :: bm) = true := by
  obtain ⟨dd, cd, sl, xL, hm, hs, hd, ho, hi⟩ := c
  unfold PySem.W.tailIn
  simp only [xL, ho, hi, t, beq_self_eq_true, Bool.and_self, Bool.or_true]
theorem tail_ve {K : PySem.W.Frag} : PySem.W.tailIn K veB veB = true := by
  unfold PySem.W.tailIn
  rw [beq_self_eq_true, Bool.true_or]
theorem ClsK.exc {K : PySem.W.Frag} {C : Addr} {bm : List Value} (c : ClsK K C bm) (t : PySem.W.tailIn K veB bm = true) : PySem.W.excIn K C veB "ValueError.__new__" = true := by
  obtain ⟨dd, cd, sl, xL, hm, hs, hd, ho, hi⟩ := c
  unfold newOk at hs
  unfold PySem.W.excIn
  simp only [xL, hm]
  split at hs
  · rename_i e
    simp only [e, ho, hi, t, hd, hs, beq_self_eq_true, Bool.and_self, Bool.not_false]
  · cases hs
theorem ExM.of {K : PySem.W.Frag} {mg : Str → Option Value} {h : Heap} {c x : Str} {C D : Addr} {b : Bool} (X : K.In h) (G : h.Ns mainGlobals mg) (a1 : PySem.W.nsIn K mainGlobals c = some (some (.ref C))) (a2 : PySem.W.nsIn K mainGlobals x = some (some (.ref D)))
    (h1 : PySem.W.subIn K (.ref D) (.type "BaseException") = some true) (hdct : PySem.W.hasDictIn K D = true) (ht : PySem.W.typeIn K (.ref D) = some (.type "type")) (h4 : PySem.W.subIn K (.ref C) (.ref D) = some b) : ExM K mg c x b :=
  ⟨C, D, PySem.W.mg_of X G a1, PySem.W.mg_of X G a2, PySem.W.exm_ref h1 hdct ht h4⟩
theorem ExcT.of {K : PySem.W.Frag} {mg : Str → Option Value} {h : Heap} {x : Str} {C : Addr} (X : K.In h) (G : h.Ns mainGlobals mg) (a : PySem.W.nsIn K mainGlobals x = some (some (.ref C)))
    (q : PySem.W.excIn K C [.type "ValueError", .type "Exception", .type "BaseException", .type "object"] "ValueError.__new__" = true) (k : PySem.W.keepIn K (.ref C) = true) (b : PySem.W.subIn K (.ref C) (.type "BaseException") = some true) (t : PySem.W.typeIn K (.ref C) = some (.type "type")) : ExcT K mg x C :=
  ⟨PySem.W.mg_of X G a, q, k, b, t⟩
theorem cx_no {P : Program} {w : World} {H : Hp} {s : Shared} {e : Value} {s' : Shared} (h : L2.CX P w [] H s (fun _ _ _ => False) e s') : False := by
  obtain ⟨_, _, _, _, _, _, _, _, _, _, _, _, z⟩ := h
  exact z.elim
theorem e_def {j k : Nat} {x : Str} {ps : List Str} {st : Stmt} {F : List D → Mem → Res D} {es : List Expr} {fr : AF} {p : Pos} (T : DefT X.K X.mg x ps st) (Fk : Fn X.prog X.w X.K X.mg X.base j T.a T.fd ps F) (hr : Room k X.A) (hjk : j ≤ k) (hg : Gl X x) (tk : Takes X W) (ha : AA X W (e :: es) fr) (hn : ArgN fr ps.length)
    (hdb : (x == ("__debug__" : Str)) = false := by decide) (he : starEach (e :: es) X.env = (false, eval e X.env) :: starEach es X.env := by rfl) (hpl : (backTo pos (starEach es X.env)).any (·.1) = false := by rfl) :
    E X W (.Call (.Name x p) (e :: es) [] pos) (eCall F fr) := e_call Fk (hr.mono hjk) hg T.g T.F.kp T.b tk ha hn hdb he hpl
/-! ### the script -/
def KScr (K : PySem.W.Frag) (a : Addr) (ns : List Int) : Prop := ∃ (o : Obj) (its : Array Value) (n : Nat), K.lookup a = some o ∧ o.cls = .type "list" ∧ o.dict = none ∧ o.data = .seq its n ∧ its.size ≤ sizeLine ∧ Vals (ns.map V.int) its.toList
abbrev OScr := Option (Addr × List Int)
def OScr.Ok (o : OScr) (K : PySem.W.Frag) : Prop := match o with | some p => KScr K p.1 p.2 | none => True
def scrOf (o : OScr) (d : D) (m : Mem) : Res Src := match d with
  | .adr a => (match o with | some p => if p.1 = a then .ok (.its (p.2.map D.int)) m else .bad | none => .bad)
  | d => srcOf d m
def iScr (o : OScr) (f : EF) : IF := fun σ m => (f σ m).bind (scrOf o)
theorem reps_intsI {ns : List Int} : Reps H Z (ns.map D.int) (ns.map V.int) := by
  induction ns with
  | nil => simp [Reps]
  | cons n ns ih => exact ⟨.int n, ns.map V.int, rfl, rep_intI, ih⟩
theorem its_listK {K : PySem.W.Frag} {H : Hp} {Z : Zn} {ns : List Int} {a : Addr} (k : KScr K a ns) : Its (Itl K a) H Z (ns.map D.int) where
  go := fun i H1 Z1 m x M hi => by
    obtain ⟨d, e⟩ : ∃ d, (ns.map D.int)[i]? = some d := ⟨_, List.getElem?_eq_getElem hi⟩
    obtain ⟨v, ev, _⟩ := reps_get (H := H1) (Z := Z1) reps_intsI e
    exact ⟨_, v, .inr k, ev⟩
  yld := fun i H1 Z1 m v H' d x M e q => by
    obtain ⟨e1, e2⟩ := q
    subst e1
    obtain ⟨v', ev, rv⟩ := reps_get (H := H') (Z := Z1) reps_intsI e
    have q := e2 _ (.inr k)
    rw [ev] at q; cases q
    exact ⟨.refl _ _, M, rv⟩
  stop := fun i H1 Z1 m x M hi => ⟨_, .inr k, by simpa using hi⟩
theorem i_scr {tg l : Expr} {f : EF} {o : OScr} (ho : o.Ok X.K) (hl : E X W l f) : I X W tg l (iScr o f) := by
  refine PI.by fun σ H R ⟨Z, σd, m, S, M, h⟩ => ?_
  by_cases ha : ∃ a m1, f σd m = .ok (.adr a) m1
  · obtain ⟨a, m1, ef⟩ := ha
    have h2 := Fin.bind h
    refine ⟨_, pi_list hl, Z, σd, m, S, M, ?_⟩
    rw [ef] at h2 ⊢
    intro H1 Z1 x1 M1 v r
    have h3 := h2 H1 Z1 x1 M1
    cases o with
    | none => exact h3.elim
    | some p =>
      obtain ⟨b, ns⟩ := p
      by_cases hb : b = a
      · subst hb
        have h3 : Fin X W σ H1 Z1 (if b = b then Res.ok (Src.its (List.map D.int ns)) m1 else Res.bad) fun s _ H' Z' => ∀ (J : It), SrcOk J H' Z' s → R J H' := h3
        rw [if_pos rfl] at h3
        simp only [Rep] at r
        exact ⟨b, r, ⟨_, .inr ho⟩, h3 H1 Z1 (.refl _ _) M1 _ (its_listK ho)⟩
      · have e3 : scrOf (some (b, ns)) (D.adr a) m1 = .bad := if_neg hb
        rw [e3] at h3
        exact h3.elim
  · refine ⟨_, i_any hl, Z, σd, m, S, M, ?_⟩
    have e : (f σd m).bind (scrOf o) = (f σd m).bind srcOf := by
      cases ef : f σd m with
      | ok d m1 =>
        cases d with
        | adr a => exact (ha ⟨a, m1, ef⟩).elim
        | _ => rfl
      | exc c m1 => rfl
      | bad => rfl
    have h : Fin X W σ H Z ((f σd m).bind (scrOf o)) fun s _ H' Z' => ∀ J, SrcOk J H' Z' s → R J H' := h
    rw [e] at h
    exact h
end
/-! ### the law -/
def spLawD (K : PySem.W.Frag) : Sp := fun vs H Q _ => ∃ (a : Addr) (ns : List Int), vs = [.ref a] ∧ SqL K H a (ns.map V.int) ∧ ns.length ≤ 63 ∧ ∀ H', Q (.bl true) H'
/-- how the law's script comes in -/
inductive ScrIn (ns : List Int) : OScr → D → Prop
  | inH : ScrIn ns none (.scr (ns.map D.int))
  | inK (a : Addr) : ScrIn ns (some (a, ns)) (.adr a)
theorem mrep_nil {H : Hp} : MRep H ⟨[], []⟩ [] := ⟨rfl, List.nodup_nil, fun a h _ => (List.not_mem_nil h).elim, fun a h => (List.not_mem_nil h).elim, fun n a o h _ => by simp at h⟩
theorem law_sp {P : Program} {w : World} {K : PySem.W.Frag} {mg : Str → Option Value} {base : Heap} {k : Nat} {f : Addr} {fd : FuncData} {F : OScr → List D → Mem → Res D} (Fk : ∀ o : OScr, o.Ok K → Fn P w K mg base k f fd ["script"] (F o))
    (h : ∀ (ns : List Int) (o : OScr) (d : D), ScrIn ns o d → ns.length ≤ 63 → ∃ m, F o [d] [] = .ok (.bl true) m) : FnOk P w K mg base (L2.CX P w) k f fd ["script"] (spLawD K) := by
  have key : ∀ vs H Q Ex, spLawD K vs H Q Ex → ∃ o : OScr, o.Ok K ∧ spM mg 1 (F o) vs H Q Ex := by
    rintro vs H Q Ex ⟨a, ns, rfl, hS, hl, q⟩
    have go : ∀ (o : OScr) (d : D), ScrIn ns o d → Rep H ⟨[], []⟩ d (.ref a) → spM mg 1 (F o) [.ref a] H Q Ex := fun o d hi r => by
      obtain ⟨m, e⟩ := h ns o d hi hl
      refine ⟨rfl, ⟨[], []⟩, [d], [], reps_one r, mrep_nil, ?_⟩
      rw [e]
      intro H' Z' v x M r
      rw [rep_bl r]
      exact q H'
    rcases hS with hS | hS
    · exact ⟨none, trivial, go none _ .inH (by simp only [Rep]; exact ⟨a, _, rfl, hS, ⟨fun z => (List.not_mem_nil z).elim, fun z => (List.not_mem_nil z).elim⟩, reps_intsI⟩)⟩
    · exact ⟨some (a, ns), hS, go _ _ (.inK a) (by simp only [Rep])⟩
  refine ⟨fun vs H Q Ex hs => ?_, fun A outer s H args us vs Q Ex hr e hb hv hs => ?_⟩
  · obtain ⟨o, ho, hs⟩ := key vs H Q Ex hs
    exact (Fk o ho).len vs H Q Ex hs
  · obtain ⟨o, ho, hs⟩ := key vs H Q Ex hs
    exact (Fk o ho).run A outer s H args us vs Q Ex hr e hb hv hs
end PD
namespace PD
open PySem L2

/-! ### the words of the layer, applied -/
section
variable {σ : Sg} {m : Mem}
@[simp] theorem eVar_ap (i : Nat) : eVar i σ m = match σ[i]? with | some (some d) => .ok d m | _ => .bad := rfl
@[simp] theorem eC_ap (d : D) : eC d σ m = .ok d m := rfl
@[simp] theorem eOp_ap (op : D → D → Mem → Res D) (a b : EF) : eOp op a b σ m = (a σ m).bind fun x m => (b σ m).bind fun y m => noexc (op x y m) := rfl
@[simp] theorem eUn_ap (op : D → Mem → Res D) (a : EF) : eUn op a σ m = (a σ m).bind fun x m => noexc (op x m) := rfl
@[simp] theorem tE_ap (f : EF) : tE f σ m = (f σ m).bind asB := rfl
@[simp] theorem tCmp_ap (op : D → D → Mem → Res D) (a b : EF) : tCmp op a b σ m = ((a σ m).bind fun x m => (b σ m).bind fun y m => noexc (op x y m)).bind asB := rfl
@[simp] theorem tAnd_ap (a b : TF) : tAndD a b σ m = (a σ m).bind fun c m => if c then b σ m else .ok false m := rfl
@[simp] theorem tOr_ap (a b : TF) : tOrD a b σ m = (a σ m).bind fun c m => if c then .ok true m else b σ m := rfl
@[simp] theorem tNot_ap (a : TF) : tNotD a σ m = (a σ m).bind fun c m => .ok (!c) m := rfl
@[simp] theorem eAnd_ap (a b : EF) : eAnd a b σ m = (a σ m).bind fun x m => (asB x m).bind fun c m => if c then b σ m else .ok (.bl false) m := rfl
@[simp] theorem eOr_ap (a b : EF) : eOr a b σ m = (a σ m).bind fun x m => (asB x m).bind fun c m => if c then .ok (.bl true) m else b σ m := rfl
@[simp] theorem eNot_ap (a : EF) : eNot a σ m = (a σ m).bind fun x m => (asB x m).bind fun c m => .ok (.bl (!c)) m := rfl
@[simp] theorem eIf_ap (c : TF) (a b : EF) : eIf c a b σ m = (c σ m).bind fun k m => if k then a σ m else b σ m := rfl
@[simp] theorem eChain_ap (f g : D → D → Mem → Res D) (a b c : EF) : eChain f g a b c σ m = (a σ m).bind fun x m => (b σ m).bind fun y m => (noexc (f x y m)).bind fun z m => (asB z m).bind fun k m => if k then (c σ m).bind fun w m => noexc (g y w m) else .ok (.bl false) m := rfl
@[simp] theorem aNil_ap : aNil σ m = .ok [] m := rfl
@[simp] theorem aCons_ap (a : EF) (r : AF) : aCons a r σ m = (a σ m).bind fun x m => (r σ m).bind fun xs m => .ok (x :: xs) m := rfl
@[simp] theorem eTup_ap (a : AF) : eTup a σ m = (a σ m).bind fun xs m => noexc (newT xs m) := rfl
@[simp] theorem eLst_ap (nw : Bool) (a : AF) : eLst nw a σ m = (a σ m).bind fun xs m => noexc (newL nw xs m) := rfl
@[simp] theorem eCall_ap (F : List D → Mem → Res D) (a : AF) : eCall F a σ m = (a σ m).bind F := rfl
@[simp] theorem eB_ap (op : List D → Mem → Res D) (a : AF) : eB op a σ m = (a σ m).bind fun ds m => noexc (op ds m) := rfl
@[simp] theorem eM_ap (op : D → List D → Mem → Res D) (o : EF) (a : AF) : eM op o a σ m = (o σ m).bind fun x m => if isLs m x then (a σ m).bind fun ds m => noexc (op x ds m) else .bad := rfl
@[simp] theorem eIx_ap (a b : EF) : eIx a b σ m = (a σ m).bind fun x m => (b σ m).bind fun y m => noexc (opIx x y m) := rfl
@[simp] theorem eSl_ap (nw : Bool) (a : EF) (lo hi : PF) : eSl nw a lo hi σ m = (a σ m).bind fun x m => (lo σ m).bind fun l m => (hi σ m).bind fun u m => noexc (opSl nw x l u m) := rfl
@[simp] theorem pNone_ap : pNone σ m = .ok none m := rfl
@[simp] theorem pSome_ap (f : EF) : pSome f σ m = (f σ m).bind fun d m => match d with | .int i => .ok (some i) m | _ => .bad := rfl
@[simp] theorem eRev_ap (nw : Bool) (a : EF) : eRev nw a σ m = (a σ m).bind fun x m => noexc (opRev nw x m) := rfl
@[simp] theorem eIsi_ap (T : String) (f : EF) : eIsi T f σ m = (f σ m).bind fun d m => noexc (opIsi T d m) := rfl
@[simp] theorem eLc_ap (nw : Bool) (ws : List Nat) (fi : IF) (g : GF) (tt : TF) (te : EF) : eLc nw ws fi g tt te σ m = (fi σ m).bind fun s m1 => (noexc (lcS g tt te (wipeD σ ws) s m1)).bind fun ys m2 => noexc (newL nw ys m2) := rfl
@[simp] theorem tYes_ap : tYesD σ m = .ok true m := rfl
@[simp] theorem iE_ap (f : EF) : iE f σ m = (f σ m).bind srcOf := rfl
@[simp] theorem iA_ap (op : List D → Mem → Res Src) (a : AF) : iA op a σ m = (a σ m).bind op := rfl
@[simp] theorem sNil_ap : sNil σ m = .nx σ m := rfl
@[simp] theorem sSeq_ap (f g : SF) : sSeq f g σ m = (f σ m).then g := rfl
@[simp] theorem sBk_ap : sBk σ m = .bk σ m := rfl
@[simp] theorem sCt_ap : sCt σ m = .ct σ m := rfl
@[simp] theorem sExpr_ap (f : EF) : sExpr f σ m = (f σ m).st σ fun _ m => .nx σ m := rfl
@[simp] theorem sRet_ap (f : EF) : sRet f σ m = (f σ m).st σ fun d m => .rt d m := rfl
@[simp] theorem sRetN_ap : sRetN σ m = .rt .non m := rfl
@[simp] theorem sIf_ap (c : TF) (f g : SF) : sIf c f g σ m = (c σ m).st σ fun b m => if b then f σ m else g σ m := rfl
@[simp] theorem gN_ap (i : Nat) (d : D) : gN i d σ m = .nx (σ.set i (some d)) m := rfl
@[simp] theorem gsNil_ap : gsNil [] σ m = .nx σ m := rfl
@[simp] theorem gsCons_ap (g : GF) (r : GsF) (d : D) (ds : List D) : gsCons g r (d :: ds) σ m = (g d σ m).then (r ds) := rfl
@[simp] theorem gT_ap (n : Nat) (g : GsF) (xs : List D) : gT n g (.tup xs) σ m = if xs.length = n then g xs σ m else .bad := rfl
@[simp] theorem gIx_ap (o i : EF) (d : D) : gIx o i d σ m = match o σ m with | .ok x m1 => (match i σ m1 with | .ok y m2 => setIx x y d σ m2 | _ => .bad) | _ => .bad := rfl
@[simp] theorem sAsg_ap (g : GF) (f : EF) : sAsg g f σ m = (f σ m).st σ fun d m => g d σ m := rfl
@[simp] theorem sSet_ap (i : Nat) (f : EF) : sSet i f σ m = (f σ m).st σ fun d m => .nx (σ.set i (some d)) m := rfl
@[simp] theorem sPar_ap (i j : Nat) (a : AF) : sPar i j a σ m = (a σ m).st σ fun ds m => match ds with | [x, y] => .nx ((σ.set i (some x)).set j (some y)) m | _ => .bad := rfl
@[simp] theorem sPar3_ap (i j l : Nat) (a : AF) : sPar3 i j l a σ m = (a σ m).st σ fun ds m => match ds with | [x, y, z] => .nx (((σ.set i (some x)).set j (some y)).set l (some z)) m | _ => .bad := rfl
@[simp] theorem sAug_ap (i : Nat) (op : Int → Int → Int) (f : EF) : sAug i op f σ m = match σ[i]? with
  | some (some (.int a)) => (f σ m).st σ fun d m => (match d with | .int b => .nx (σ.set i (some (.int (op a b)))) m | _ => .bad)
  | _ => .bad := rfl
@[simp] theorem sFor_ap (i : IF) (g : GF) (b : SF) : sFor i g b σ m = (i σ m).st σ fun s m => forS g b s σ m := rfl
@[simp] theorem sRaise_ap (c : Str) : sRaise c σ m = .exc c σ m := rfl
@[simp] theorem noexc_exc {α : Type} (c : Str) : noexc (.exc c m : Res α) = .bad := rfl
/-! ### operators on what is known -/
@[simp] theorem opAddX_int (nw : Bool) (i j : Int) : opAddX nw (.int i) (.int j) m = .ok (.int (i + j)) m := rfl
@[simp] theorem opSub_int (i j : Int) : opSub (.int i) (.int j) m = .ok (.int (i - j)) m := rfl
@[simp] theorem opMulX_int (nw : Bool) (i j : Int) : opMulX nw (.int i) (.int j) m = if mulB i j then .ok (.int (i * j)) m else .bad := rfl
@[simp] theorem opFdiv_int (i j : Int) : opFdiv (.int i) (.int j) m = if divB j || divN j then .ok (.int (fdivD i j)) m else .bad := rfl
@[simp] theorem opMod_int (i j : Int) : opMod (.int i) (.int j) m = if j ≠ 0 then .ok (.int (fmodD i j)) m else .bad := rfl
@[simp] theorem opPow_int (i j : Int) : opPow (.int i) (.int j) m = if 0 ≤ j ∧ j ≤ 1000000 ∧ i.natAbs < 2 ^ 64 then .ok (.int (i ^ j.toNat)) m else .bad := rfl
@[simp] theorem opNeg_int (i : Int) : opNeg (.int i) m = .ok (.int (-i)) m := rfl
@[simp] theorem opLt_int (i j : Int) : opOrd .Lt (.int i) (.int j) m = .ok (.bl (decide (i < j))) m := rfl
@[simp] theorem opLe_int (i j : Int) : opOrd .LtE (.int i) (.int j) m = .ok (.bl (decide (i ≤ j))) m := rfl
@[simp] theorem opGt_int (i j : Int) : opOrd .Gt (.int i) (.int j) m = .ok (.bl (decide (j < i))) m := rfl
@[simp] theorem opGe_int (i j : Int) : opOrd .GtE (.int i) (.int j) m = .ok (.bl (decide (j ≤ i))) m := rfl
@[simp] theorem bAbs_int (i : Int) : bAbs [.int i] m = .ok (.int (absI i)) m := rfl
@[simp] theorem bInt_int (i : Int) : bInt [.int i] m = .ok (.int i) m := rfl
theorem newT_ok {xs : List D} (h : xs.length ≤ 16777216) : newT xs m = .ok (.tup xs) m := by
  unfold newT lenOk
  rw [decide_eq_true h, if_pos rfl]
@[simp] theorem newT0 : newT [] m = .ok (.tup []) m := rfl
@[simp] theorem newT1 (a : D) : newT [a] m = .ok (.tup [a]) m := rfl
@[simp] theorem newT2 (a b : D) : newT [a, b] m = .ok (.tup [a, b]) m := rfl
@[simp] theorem newT3 (a b c : D) : newT [a, b, c] m = .ok (.tup [a, b, c]) m := rfl
@[simp] theorem newT4 (a b c d : D) : newT [a, b, c, d] m = .ok (.tup [a, b, c, d]) m := rfl
theorem newL_f {xs : List D} (h : xs.length ≤ 16777216) : newL false xs m = .ok (.lst xs) m := by
  unfold newL lenOk
  rw [decide_eq_true h, if_pos rfl, if_neg (by decide)]
theorem newL_t {xs : List D} (h : xs.length ≤ 16777216) : newL true xs m = .ok (.ref m.length) (m ++ [.lst xs]) := by
  unfold newL lenOk
  rw [decide_eq_true h, if_pos rfl, if_pos rfl]
@[simp] theorem deref_int (i : Int) : deref m (.int i) = .int i := rfl
@[simp] theorem deref_non : deref m .non = .non := rfl
@[simp] theorem deref_bl (b : Bool) : deref m (.bl b) = .bl b := rfl
@[simp] theorem deref_str (b : Str) : deref m (.str b) = .str b := rfl
@[simp] theorem deref_tup (b : List D) : deref m (.tup b) = .tup b := rfl
@[simp] theorem deref_lst (b : List D) : deref m (.lst b) = .lst b := rfl
theorem deref_ref {n : Nat} {xs : List D} (h : m[n]? = some (.lst xs)) : deref m (.ref n) = .lst xs := by unfold deref; simp [h]
theorem isLs_ref {n : Nat} {xs : List D} (h : m[n]? = some (.lst xs)) : isLs m (.ref n) = true := by unfold isLs; rw [deref_ref h]
@[simp] theorem opIs_non (neg : Bool) (x : D) : opIs neg x .non m = .ok (.bl (neg ^^ isNon x)) m := rfl
@[simp] theorem asB_ap (b : Bool) : asB (.bl b) m = .ok b m := rfl
end
/-! ### sizes -/
class Sz (i : Int) (n : outParam Nat) : Prop where
  h : i.natAbs < 2 ^ n
theorem two_pow_le {a b : Nat} (h : a ≤ b) : 2 ^ a ≤ 2 ^ b := Nat.pow_le_pow_right (by decide) h
instance Sz.add {i j : Int} {n k : Nat} [a : Sz i n] [b : Sz j k] : Sz (i + j) (n + k + 1) := ⟨by
  have h1 := a.h
  have h2 := b.h
  have h3 : 2 ^ n ≤ 2 ^ (n + k) := two_pow_le (by omega)
  have h4 : 2 ^ k ≤ 2 ^ (n + k) := two_pow_le (by omega)
  have h5 : 2 ^ (n + k + 1) = 2 * 2 ^ (n + k) := by rw [Nat.pow_succ, Nat.mul_comm]
  have := Int.natAbs_add_le i j
  omega⟩
instance Sz.neg {i : Int} {n : Nat} [a : Sz i n] : Sz (-i) n := ⟨by rw [Int.natAbs_neg]; exact a.h⟩
instance Sz.sub {i j : Int} {n k : Nat} [a : Sz i n] [b : Sz j k] : Sz (i - j) (n + k + 1) := ⟨by
  have := (Sz.add (i := i) (j := -j)).h
  rwa [← Int.sub_eq_add_neg] at this⟩
instance Sz.mul {i j : Int} {n k : Nat} [a : Sz i n] [b : Sz j k] : Sz (i * j) (n + k) := ⟨by
  rw [Int.natAbs_mul, Nat.pow_add]
  exact Nat.mul_lt_mul_of_lt_of_lt a.h b.h⟩
instance Sz.num {n : Nat} : Sz (OfNat.ofNat n : Int) (n.log2 + 1) := ⟨by
  show ((n : Int)).natAbs < _
  rw [Int.natAbs_natCast]
  exact Nat.lt_log2_self⟩
instance Sz.zero : Sz (0 : Int) 0 := ⟨by decide⟩
instance Sz.one : Sz (1 : Int) 1 := ⟨by decide⟩
theorem Sz.of {i : Int} {n : Nat} (h : i.natAbs < 2 ^ n) : Sz i n := ⟨h⟩
theorem Sz.le {i : Int} {n k : Nat} (h : Sz i n) (hk : n ≤ k) : Sz i k := ⟨Nat.lt_of_lt_of_le h.h (two_pow_le hk)⟩
theorem log_lt {a n : Nat} (h : a < 2 ^ n) : a.log2 ≤ n := by
  by_cases h0 : a = 0
  · subst h0
    exact Nat.le_trans (by decide : Nat.log2 0 ≤ 0) (Nat.zero_le n)
  · exact Nat.le_of_lt ((Nat.log2_lt h0).mpr h)
theorem mulB_sz {i j : Int} {n k : Nat} [a : Sz i n] [b : Sz j k] (h : n + k < 1000000) : mulB i j = true := by
  unfold mulB
  have h1 := log_lt a.h
  have h2 := log_lt b.h
  exact decide_eq_true (by omega)
theorem divB_sz {j : Int} {n : Nat} (hj : 0 < j) [a : Sz j n] (h : n < 9000) : divB j = true := by
  unfold divB
  have h1 := log_lt a.h
  exact decide_eq_true ⟨hj, by omega⟩
@[simp] theorem fdivD_pos {i j : Int} (h : 0 < j) : fdivD i j = i / j := if_pos h
@[simp] theorem fmodD_pos {i j : Int} (h : 0 < j) : fmodD i j = i % j := if_pos h
/-! ### loops -/
@[simp] theorem forL_nil (g : GF) (b : SF) (σ : Sg) (m : Mem) : forL g b [] σ m = .nx σ m := rfl
theorem forL_step {g : GF} {b : SF} {x : D} {xs : List D} {σ σ1 : Sg} {m m1 : Mem} (h : g x σ m = .nx σ1 m1) : forL g b (x :: xs) σ m = turnK (b σ1 m1) (forL g b xs) := by
  rw [forL_cons, h]; rfl
@[simp] theorem turnK_nx (σ : Sg) (m : Mem) (k : SF) : turnK (.nx σ m) k = k σ m := rfl
@[simp] theorem turnK_ct (σ : Sg) (m : Mem) (k : SF) : turnK (.ct σ m) k = k σ m := rfl
@[simp] theorem turnK_bk (σ : Sg) (m : Mem) (k : SF) : turnK (.bk σ m) k = .nx σ m := rfl
@[simp] theorem turnK_rt (d : D) (m : Mem) (k : SF) : turnK (.rt d m) k = .rt d m := rfl
@[simp] theorem turnK_exc (c : Str) (σ : Sg) (m : Mem) (k : SF) : turnK (.exc c σ m) k = .exc c σ m := rfl
theorem whileN_end {c : TF} {b : SF} {n : Nat} {σ : Sg} {m : Mem} (h : c σ m = .ok false m) : whileN c b (n + 1) σ m = .nx σ m := by
  show (c σ m).st σ _ = _
  rw [h]; rfl
theorem whileN_go {c : TF} {b : SF} {n : Nat} {σ : Sg} {m m1 : Mem} (h : c σ m = .ok true m1) : whileN c b (n + 1) σ m = turnK (b σ m1) (whileN c b n) := by
  show (c σ m).st σ _ = _
  rw [h]; rfl
/-- a comprehension of calls that change nothing -/
theorem lcL_pure {g : GF} {tt : TF} {te : EF} {σw : Sg} {m : Mem} {p : D → Bool} {f : D → D} : ∀ {xs : List D}, (∀ x ∈ xs, ∃ σ1, g x σw m = .nx σ1 m ∧ tt σ1 m = .ok (p x) m ∧ (p x = true → te σ1 m = .ok (f x) m)) → lcL g tt te σw xs m = .ok ((xs.filter p).map f) m
  | [], _ => rfl
  | x :: xs, h => by
    obtain ⟨σ1, h1, h2, h3⟩ := h x List.mem_cons_self
    have ih := lcL_pure (xs := xs) fun y hy => h y (List.mem_cons_of_mem _ hy)
    unfold lcL
    rw [h1]
    simp only [h2, Res.bind_ok]
    by_cases hp : p x = true
    · rw [if_pos hp, h3 hp, List.filter_cons_of_pos hp, List.map_cons]
      simp only [Res.bind_ok, ih]
    · rw [if_neg hp, List.filter_cons_of_neg hp, ih]
/-- .. of typed items, no test -/
theorem lcL_map {α : Type} {g : GF} {te : EF} {σw : Sg} {m : Mem} {enc : α → D} {f : α → D} {xs : List α} (h : ∀ x ∈ xs, ∃ σ1, g (enc x) σw m = .nx σ1 m ∧ te σ1 m = .ok (f x) m) : lcL g tYesD te σw (xs.map enc) m = .ok (xs.map f) m := by
  induction xs with
  | nil => rfl
  | cons x xs ih =>
    obtain ⟨σ1, h1, h2⟩ := h x List.mem_cons_self
    have ih := ih fun y hy => h y (List.mem_cons_of_mem _ hy)
    rw [List.map_cons]
    unfold lcL
    simp only [h1, tYes_ap, Res.bind_ok, if_true, h2, ih, List.map_cons]
theorem lcL_filter {α : Type} {g : GF} {tt : TF} {te : EF} {σw : Sg} {m : Mem} {enc : α → D} {p : α → Bool} {f : α → D} {xs : List α} (h : ∀ x ∈ xs, ∃ σ1, g (enc x) σw m = .nx σ1 m ∧ tt σ1 m = .ok (p x) m ∧ (p x = true → te σ1 m = .ok (f x) m)) : lcL g tt te σw (xs.map enc) m = .ok ((xs.filter p).map f) m := by
  induction xs with
  | nil => rfl
  | cons x xs ih =>
    obtain ⟨σ1, h1, h2, h3⟩ := h x List.mem_cons_self
    have ih := ih fun y hy => h y (List.mem_cons_of_mem _ hy)
    rw [List.map_cons]
    unfold lcL
    simp only [h1, h2, Res.bind_ok]
    by_cases hp : p x = true
    · rw [if_pos hp, h3 hp, List.filter_cons_of_pos hp, List.map_cons]
      simp only [Res.bind_ok, ih]
    · rw [if_neg hp, List.filter_cons_of_neg hp, ih]
theorem RefR.ok {m : Mem} {r : Res D} {d : D} {m' : Mem} (h : r = .ok d m') : RefR m r (.ok d m') := .inl h
/-- .. with what it has made for itself -/
theorem RefR.drop {m : Mem} {r : Res D} {d : D} {more : Mem} (h : r = .ok d (m ++ more)) (hc : cl m.length d = true) : RefR m r (.ok d m) := .inr ⟨more, d, h, .inl ⟨rfl, hc⟩, rfl, fun i o e => .inl e⟩
theorem RefR.exc {m : Mem} {r : Res D} {c : Str} {more : Mem} (h : r = .exc c (m ++ more)) : RefR m r (.exc c m) := ⟨more, h, rfl, fun i o e => .inl e⟩
end PD
namespace PD
open PySem
def isT (t : List (Str × Str)) (c x : Str) : Bool := t.contains (c, x)
end PD
namespace PD
open PySem L2
/-! ### equality, membership, order of data -/
def eqDs (xs ys : List D) : Bool := PyData.eqvAll (toPys xs) (toPys ys)
@[simp] theorem eqD_int (i j : Int) : eqD (.int i) (.int j) = decide (i = j) := by
  show (i == j) = _
  rw [Bool.eq_iff_iff]; simp
@[simp] theorem eqD_bl (i j : Bool) : eqD (.bl i) (.bl j) = decide (i = j) := by
  show (i == j) = _
  rw [Bool.eq_iff_iff]; simp
@[simp] theorem eqD_str (i j : Str) : eqD (.str i) (.str j) = decide (i = j) := by
  show (i == j) = _
  rw [Bool.eq_iff_iff]; simp
@[simp] theorem eqD_tup (xs ys : List D) : eqD (.tup xs) (.tup ys) = eqDs xs ys := rfl
@[simp] theorem eqD_lst (xs ys : List D) : eqD (.lst xs) (.lst ys) = eqDs xs ys := rfl
@[simp] theorem eqD_non : eqD .non .non = true := rfl
@[simp] theorem eqD_non_int (i : Int) : eqD .non (.int i) = false := rfl
@[simp] theorem eqD_non_tup (i : List D) : eqD .non (.tup i) = false := rfl
@[simp] theorem eqD_tup_non (i : List D) : eqD (.tup i) .non = false := rfl
@[simp] theorem eqD_int_non (i : Int) : eqD (.int i) .non = false := rfl
@[simp] theorem eqD_tup_lst (i j : List D) : eqD (.tup i) (.lst j) = false := rfl
@[simp] theorem eqD_lst_tup (i j : List D) : eqD (.lst i) (.tup j) = false := rfl
@[simp] theorem eqD_tup_int (i : List D) (j : Int) : eqD (.tup i) (.int j) = false := rfl
@[simp] theorem eqD_int_tup (i : List D) (j : Int) : eqD (.int j) (.tup i) = false := rfl
@[simp] theorem eqDs_nil : eqDs [] [] = true := rfl
@[simp] theorem eqDs_cons (x y : D) (xs ys : List D) : eqDs (x :: xs) (y :: ys) = (eqD x y && eqDs xs ys) := rfl
@[simp] theorem eqDs_nc (y : D) (ys : List D) : eqDs [] (y :: ys) = false := rfl
@[simp] theorem eqDs_cn (x : D) (xs : List D) : eqDs (x :: xs) [] = false := rfl
@[simp] theorem eqDs_n (xs : List D) : eqDs xs [] = xs.isEmpty := by cases xs <;> rfl
theorem eqDs_map {α : Type} [DecidableEq α] {enc : α → D} (h : ∀ x y, eqD (enc x) (enc y) = decide (x = y)) : ∀ xs ys : List α, eqDs (xs.map enc) (ys.map enc) = decide (xs = ys)
  | [], [] => rfl
  | [], _ :: _ => rfl
  | _ :: _, [] => rfl
  | x :: xs, y :: ys => by
    rw [List.map_cons, List.map_cons, eqDs_cons, h, eqDs_map h xs ys, Bool.eq_iff_iff]
    simp
@[simp] theorem sh_int (n : Nat) (i : Int) : sh n (.int i) = true := by cases n <;> rfl
@[simp] theorem sh_bl (n : Nat) (i : Bool) : sh n (.bl i) = true := by cases n <;> rfl
@[simp] theorem sh_non (n : Nat) : sh n .non = true := by cases n <;> rfl
@[simp] theorem sh_tup (n : Nat) (xs : List D) : sh (n + 1) (.tup xs) = shs n xs := rfl
@[simp] theorem sh_lst (n : Nat) (xs : List D) : sh (n + 1) (.lst xs) = shs n xs := rfl
@[simp] theorem shs_nil (n : Nat) : shs n [] = true := by cases n <;> rfl
@[simp] theorem shs_cons (n : Nat) (x : D) (xs : List D) : shs n (x :: xs) = (sh n x && shs n xs) := by cases n <;> rfl
theorem sh60_tup (xs : List D) : sh 60 (.tup xs) = shs 59 xs := rfl
theorem sh60_lst (xs : List D) : sh 60 (.lst xs) = shs 59 xs := rfl
theorem shs_map {α : Type} {n : Nat} {enc : α → D} : ∀ {xs : List α}, (∀ x ∈ xs, sh n (enc x) = true) → shs n (xs.map enc) = true
  | [], _ => by simp
  | x :: xs, h => by
    rw [List.map_cons, shs_cons, h x List.mem_cons_self, shs_map fun y hy => h y (List.mem_cons_of_mem _ hy)]; rfl
section
variable {m : Mem}
theorem opEq_of {x y : D} (h1 : sh 60 (deref m x) = true) (h2 : sh 60 (deref m y) = true) : opEq x y m = .ok (.bl (eqD (deref m x) (deref m y))) m := by
  unfold opEq; rw [h1, h2]; rfl
theorem opNe_of {x y : D} (h1 : sh 60 (deref m x) = true) (h2 : sh 60 (deref m y) = true) : opNe x y m = .ok (.bl (!eqD (deref m x) (deref m y))) m := by
  unfold opNe; rw [h1, h2]; rfl
@[simp] theorem opEq_int (i j : Int) : opEq (.int i) (.int j) m = .ok (.bl (decide (i = j))) m := by rw [opEq_of rfl rfl]; simp
@[simp] theorem opNe_int (i j : Int) : opNe (.int i) (.int j) m = .ok (.bl (!decide (i = j))) m := by rw [opNe_of rfl rfl]; simp
@[simp] theorem isi_int_int (i : Int) : opIsi "int" (.int i) m = .ok (.bl true) m := rfl
@[simp] theorem isi_bool_int (i : Int) : opIsi "bool" (.int i) m = .ok (.bl false) m := rfl
@[simp] theorem isi_int_bl (i : Bool) : opIsi "int" (.bl i) m = .ok (.bl true) m := rfl
@[simp] theorem isi_bool_bl (i : Bool) : opIsi "bool" (.bl i) m = .ok (.bl true) m := rfl
@[simp] theorem isi_int_non : opIsi "int" .non m = .ok (.bl false) m := rfl
@[simp] theorem isi_int_tup (i : List D) : opIsi "int" (.tup i) m = .ok (.bl false) m := rfl
@[simp] theorem isi_int_lst (i : List D) : opIsi "int" (.lst i) m = .ok (.bl false) m := rfl
@[simp] theorem isi_int_str (i : Str) : opIsi "int" (.str i) m = .ok (.bl false) m := rfl
@[simp] theorem isi_tup_tup (i : List D) : opIsi "tuple" (.tup i) m = .ok (.bl true) m := rfl
@[simp] theorem isi_tup_int (i : Int) : opIsi "tuple" (.int i) m = .ok (.bl false) m := rfl
@[simp] theorem isi_tup_bl (i : Bool) : opIsi "tuple" (.bl i) m = .ok (.bl false) m := rfl
@[simp] theorem isi_tup_lst (i : List D) : opIsi "tuple" (.lst i) m = .ok (.bl false) m := rfl
@[simp] theorem isi_tup_non : opIsi "tuple" .non m = .ok (.bl false) m := rfl
theorem isi_tup_ref {n : Nat} {xs : List D} (h : m[n]? = some (.lst xs)) : opIsi "tuple" (.ref n) m = .ok (.bl false) m := by
  have e : tyN m (.ref n) = "list" := by unfold tyN; simp only [h]
  unfold opIsi; rw [e]; rfl
@[simp] theorem bLen_tup (xs : List D) : bLen [.tup xs] m = .ok (.int xs.length) m := rfl
@[simp] theorem bLen_lst (xs : List D) : bLen [.lst xs] m = .ok (.int xs.length) m := rfl
theorem bLen_ref {n : Nat} {xs : List D} (h : m[n]? = some (.lst xs)) : bLen [.ref n] m = .ok (.int xs.length) m := by
  unfold bLen; simp only [deref_ref h]
theorem ix_tup_nat {xs : List D} {i : Nat} {d : D} (h : xs[i]? = some d) : opIx (.tup xs) (.int i) m = .ok d m := by
  show (match atI xs (i : Int) with | some d => Res.ok d m | none => .bad) = _
  rw [atI_nat h]
theorem ix_lst_nat {xs : List D} {i : Nat} {d : D} (h : xs[i]? = some d) : opIx (.lst xs) (.int i) m = .ok d m := by
  show (match atI xs (i : Int) with | some d => Res.ok d m | none => .bad) = _
  rw [atI_nat h]
theorem ix_ref_nat {n : Nat} {xs : List D} {i : Nat} {d : D} (hm : m[n]? = some (.lst xs)) (h : xs[i]? = some d) : opIx (.ref n) (.int i) m = .ok d m := by
  unfold opIx; simp only [deref_ref hm, atI_nat h]
theorem atI_lastD {xs : List D} {d : D} (h : xs.getLast? = some d) : atI xs (-1) = some d := by
  obtain ⟨ys, rfl⟩ : ∃ ys, xs = ys ++ [d] := by
    rw [List.getLast?_eq_some_iff] at h
    exact h
  exact atI_last ys d
theorem ix_tup_last {xs : List D} {d : D} (h : xs.getLast? = some d) : opIx (.tup xs) (.int (-1)) m = .ok d m := by
  show (match atI xs (-1) with | some d => Res.ok d m | none => .bad) = _
  rw [atI_lastD h]
theorem ix_ref_last {n : Nat} {xs : List D} {d : D} (hm : m[n]? = some (.lst xs)) (h : xs.getLast? = some d) : opIx (.ref n) (.int (-1)) m = .ok d m := by
  unfold opIx; simp only [deref_ref hm, atI_lastD h]
@[simp] theorem ix0 (x : D) (xs : List D) : opIx (.tup (x :: xs)) (.int 0) m = .ok x m := ix_tup_nat (i := 0) rfl
@[simp] theorem ix1 (x y : D) (xs : List D) : opIx (.tup (x :: y :: xs)) (.int 1) m = .ok y m := ix_tup_nat (i := 1) rfl
@[simp] theorem ix2 (x y z : D) (xs : List D) : opIx (.tup (x :: y :: z :: xs)) (.int 2) m = .ok z m := ix_tup_nat (i := 2) rfl
@[simp] theorem ix3 (x y z w : D) (xs : List D) : opIx (.tup (x :: y :: z :: w :: xs)) (.int 3) m = .ok w m := ix_tup_nat (i := 3) rfl
/-- slices of tuples -/
theorem sIx_natD {n d i : Nat} : HT.sIx n d (some (i : Int)) = min i n := HT.sIx_nat n d i
theorem sIx_noneD {n d : Nat} : HT.sIx n d none = d := HT.sIx_none n d
theorem cut_nn (xs : List D) : cutD xs none none = xs := by simp [cutD, sIx_noneD]
theorem cut_from (xs : List D) (i : Nat) : cutD xs (some i) none = xs.drop i := by
  unfold cutD
  rw [sIx_natD, sIx_noneD]
  by_cases h : i ≤ xs.length
  · rw [Nat.min_eq_left h, List.take_of_length_le (by simp)]
  · rw [Nat.min_eq_right (by omega), List.drop_length, List.drop_eq_nil_of_le (by omega)]; simp
theorem cut_range (xs : List D) (i j : Nat) : cutD xs (some i) (some j) = (xs.drop i).take (j - i) := by
  unfold cutD
  rw [sIx_natD, sIx_natD]
  by_cases h : i ≤ xs.length
  · rw [Nat.min_eq_left h]
    by_cases h2 : j ≤ xs.length
    · rw [Nat.min_eq_left h2]
    · rw [Nat.min_eq_right (show xs.length ≤ j by omega), List.take_of_length_le (by simp), List.take_of_length_le (by simp; omega)]
  · have e1 : xs.drop (min i xs.length) = [] := List.drop_eq_nil_of_le (by omega)
    have e2 : xs.drop i = [] := List.drop_eq_nil_of_le (by omega)
    rw [e1, e2]; simp
end
end PD
namespace PD
open PySem L2
theorem bools_map {α : Type} (f : α → Bool) : ∀ xs : List α, bools (xs.map fun x => D.bl (f x)) = some (xs.map f)
  | [] => rfl
  | x :: xs => by
    show (bools (xs.map fun x => D.bl (f x))).map (f x :: ·) = _
    rw [bools_map f xs]; rfl
theorem bAll_map {α : Type} (f : α → Bool) (xs : List α) (m : Mem) : bAllB false [.lst (xs.map fun x => D.bl (f x))] m = .ok (.bl (xs.all f)) m := by
  unfold bAllB
  simp only [deref_lst, bools_map]
  rw [if_neg (by decide), List.all_map]; rfl
theorem bAny_map {α : Type} (f : α → Bool) (xs : List α) (m : Mem) : bAllB true [.lst (xs.map fun x => D.bl (f x))] m = .ok (.bl (xs.any f)) m := by
  unfold bAllB
  simp only [deref_lst, bools_map]
  rw [if_pos trivial, List.any_map]; rfl
theorem opSl_tup {nw : Bool} {xs : List D} {lo hi : Option Int} {m : Mem} (h : xs.length ≤ 16777216) : opSl nw (.tup xs) lo hi m = .ok (.tup (cutD xs lo hi)) m := by
  show newT (cutD xs lo hi) m = _
  refine newT_ok ?_
  unfold cutD
  rw [List.length_take, List.length_drop]
  omega
theorem opSl_lstF {xs : List D} {lo hi : Option Int} {m : Mem} (h : xs.length ≤ 16777216) : opSl false (.lst xs) lo hi m = .ok (.lst (cutD xs lo hi)) m := by
  show newL false (cutD xs lo hi) m = _
  refine newL_f ?_
  unfold cutD
  rw [List.length_take, List.length_drop]
  omega
theorem opRev_tup {nw : Bool} {xs : List D} {m : Mem} (h : xs.length ≤ 16777216) : opRev nw (.tup xs) m = .ok (.tup xs.reverse) m := by
  show newT xs.reverse m = _
  exact newT_ok (by simpa using h)
end PD
namespace PD
open PySem L2
theorem sortD_sorted (xs : List D) : (sortD xs).Pairwise fun a b => leD a b = true := PySem.W.sort_pairwise (le := leD) (PySem.W.sortLe_total (PyProof.Rows.listOrd PyProof.Rows.itemOrd) false fun b => PySem.W.keyToks (toPy b)) xs
theorem sortD_perm (xs : List D) : (sortD xs).Perm xs := List.mergeSort_perm _ _
theorem sortD_map {α : Type} {enc : α → D} (xs : List α) : sortD (xs.map enc) = (xs.mergeSort fun a b => leD (enc a) (enc b)).map enc := by
  unfold sortD
  exact (List.map_mergeSort (r := fun a b => leD (enc a) (enc b)) (s := leD) (f := enc) (l := xs) fun a _ b _ => rfl).symm
theorem leD_eq (a b : D) : leD a b = !PySem.W.dataLt (toPy b) (toPy a) := rfl
/-- a list of the memory written at one place -/
theorem setIx_ok {n j : Nat} {xs : List D} {d : D} {σ : Sg} {m : Mem} (hm : m[n]? = some (.lst xs)) (hj : j < xs.length) : setIx (.ref n) (.int j) d σ m = .nx σ (m.set n (.lst (xs.set j d))) := by
  unfold setIx
  have e : ixN xs.length (j : Int) = some j := by
    unfold ixN
    rw [if_pos (by omega), if_pos (by omega)]
    simp
  simp only [hm, e]
theorem mAppend_ok {n : Nat} {xs : List D} {d : D} {m : Mem} (hm : m[n]? = some (.lst xs)) (hl : xs.length < 16777216) : mAppend (.ref n) [d] m = .ok .non (m.set n (.lst (xs ++ [d]))) := by
  unfold mAppend
  have : lenOk (xs.length + 1) = true := decide_eq_true (by omega)
  simp only [hm, this, if_true]
theorem bTuple_ref {n : Nat} {xs : List D} {m : Mem} (hm : m[n]? = some (.lst xs)) (hl : xs.length ≤ 16777216) : bTuple [.ref n] m = .ok (.tup xs) m := by
  unfold bTuple
  simp only [deref_ref hm]
  exact newT_ok hl
theorem bTuple_lst {xs : List D} {m : Mem} (hl : xs.length ≤ 16777216) : bTuple [.lst xs] m = .ok (.tup xs) m := by
  show newT xs m = _
  exact newT_ok hl
end PD
namespace PD
open PySem L2
theorem bnd_of {i : Int} (h1 : -1000000000 ≤ i) (h2 : i ≤ 1000000000) : bnd i = true := bnd_iff.mpr ⟨h1, h2⟩
theorem range1_ok {j : Int} {m : Mem} (h : bnd j = true) : range1 [.int j] m = .ok (.its (rngL 0 j.toNat)) m := by
  unfold range1; simp only [h, if_true]
theorem range2_ok {i j : Int} {m : Mem} (h1 : bnd i = true) (h2 : bnd j = true) : range2 [.int i, .int j] m = .ok (.its (rngL i (j - i).toNat)) m := by
  unfold range2; simp only [h1, h2, Bool.and_self, if_true]
theorem range3_ok {i j : Int} {m : Mem} (h1 : bnd i = true) (h2 : bnd j = true) : range3 [.int i, .int j, .int (-1)] m = .ok (.its (rngC i (-1) (i - j).toNat)) m := by
  unfold range3; simp only [h1, h2, Bool.and_self, decide_true, if_true]
end PD
namespace K93
open PySem L2 PD
def r_is_number : SF := sRet (eAnd (eIsi "int" (eVar 0)) (eNot (eIsi "bool" (eVar 0))))
def r_common : SF := sSeq (sPar 0 1 (aCons (eB bAbs (aCons (eVar 0) (aNil))) (aCons (eB bAbs (aCons (eVar 1) (aNil))) (aNil)))) (sSeq (whileN (tCmp (opOrd .Gt) (eVar 1) (eC (.int 0))) (sPar 0 1 (aCons (eVar 1) (aCons (eOp opMod (eVar 0) (eVar 1)) (aNil)))) FUEL) (sRet (eVar 0)))
def r_fraction (G_common : List D → Mem → Res D) : SF := sSeq (sIf (tCmp (opOrd .Lt) (eVar 1) (eC (.int 0))) (sPar 0 1 (aCons (eUn opNeg (eVar 0)) (aCons (eUn opNeg (eVar 1)) (aNil)))) (sNil)) (sSeq (sSet 2 (eCall G_common (aCons (eVar 0) (aCons (eVar 1) (aNil))))) (sRet (eTup (aCons (eOp opFdiv (eVar 0) (eVar 2)) (aCons (eOp opFdiv (eVar 1) (eVar 2)) (aNil))))))
def r_is_fraction (G_is_number G_common : List D → Mem → Res D) : SF := sSeq (sIf (tOrD (tNotD (tE (eIsi "tuple" (eVar 0)))) (tOrD (tCmp opNe (eB bLen (aCons (eVar 0) (aNil))) (eC (.int 2))) (tOrD (tNotD (tE (eCall G_is_number (aCons (eIx (eVar 0) (eC (.int 0))) (aNil))))) (tNotD (tE (eCall G_is_number (aCons (eIx (eVar 0) (eC (.int 1))) (aNil)))))))) (sRet (eC (.bl false))) (sNil)) (sRet (eAnd (eOp (opOrd .GtE) (eIx (eVar 0) (eC (.int 1))) (eC (.int 1))) (eOp opEq (eCall G_common (aCons (eIx (eVar 0) (eC (.int 0))) (aCons (eIx (eVar 0) (eC (.int 1))) (aNil)))) (eC (.int 1)))))
def r_check_fraction (G_is_fraction : List D → Mem → Res D) : SF := sIf (tNotD (tE (eCall G_is_fraction (aCons (eVar 0) (aNil))))) (sRaise "BadShape") (sNil)
def r_check_both (G_check_fraction : List D → Mem → Res D) : SF := sSeq (sExpr (eCall G_check_fraction (aCons (eVar 0) (aNil)))) (sExpr (eCall G_check_fraction (aCons (eVar 1) (aNil))))
def r_less (G_check_both : List D → Mem → Res D) : SF := sSeq (sExpr (eCall G_check_both (aCons (eVar 0) (aCons (eVar 1) (aNil))))) (sRet (eOp (opOrd .Lt) (eOp (opMulX false) (eIx (eVar 0) (eC (.int 0))) (eIx (eVar 1) (eC (.int 1)))) (eOp (opMulX false) (eIx (eVar 1) (eC (.int 0))) (eIx (eVar 0) (eC (.int 1))))))
def r_is_point (G_common G_is_number : List D → Mem → Res D) : SF := sSeq (sIf (tOrD (tNotD (tE (eIsi "tuple" (eVar 0)))) (tOrD (tCmp opNe (eB bLen (aCons (eVar 0) (aNil))) (eC (.int 3))) (tNotD (tE (eB (bAllB false) (aCons (eLc false [1] (iE (eVar 0)) (gN 1) (tYesD) (eCall G_is_number (aCons (eVar 1) (aNil)))) (aNil))))))) (sRet (eC (.bl false))) (sNil)) (sRet (eAnd (eOp (opOrd .GtE) (eIx (eVar 0) (eC (.int 2))) (eC (.int 1))) (eOp opEq (eCall G_common (aCons (eCall G_common (aCons (eIx (eVar 0) (eC (.int 0))) (aCons (eIx (eVar 0) (eC (.int 1))) (aNil)))) (aCons (eIx (eVar 0) (eC (.int 2))) (aNil)))) (eC (.int 1)))))
def r_check_point (G_is_point : List D → Mem → Res D) : SF := sIf (tNotD (tE (eCall G_is_point (aCons (eVar 0) (aNil))))) (sRaise "BadShape") (sNil)
def r_check_points (G_check_point : List D → Mem → Res D) : SF := sFor (iE (eVar 0)) (gN 1) (sExpr (eCall G_check_point (aCons (eVar 1) (aNil))))
def r_square (G_fraction : List D → Mem → Res D) : SF := sSeq (sSet 2 (eOp (opMulX false) (eIx (eVar 0) (eC (.int 2))) (eIx (eVar 1) (eC (.int 2))))) (sSeq (sPar 3 4 (aCons (eOp opSub (eOp (opMulX false) (eIx (eVar 0) (eC (.int 0))) (eIx (eVar 1) (eC (.int 2)))) (eOp (opMulX false) (eIx (eVar 1) (eC (.int 0))) (eIx (eVar 0) (eC (.int 2))))) (aCons (eOp opSub (eOp (opMulX false) (eIx (eVar 0) (eC (.int 1))) (eIx (eVar 1) (eC (.int 2)))) (eOp (opMulX false) (eIx (eVar 1) (eC (.int 1))) (eIx (eVar 0) (eC (.int 2))))) (aNil)))) (sRet (eCall G_fraction (aCons (eOp (opAddX false) (eOp (opMulX false) (eVar 3) (eVar 3)) (eOp (opMulX false) (eVar 4) (eVar 4))) (aCons (eOp (opMulX false) (eVar 2) (eVar 2)) (aNil))))))
def r_off (G_fraction G_square : List D → Mem → Res D) : SF := sSeq (sPar 3 4 (aCons (eOp opSub (eOp (opMulX false) (eIx (eVar 1) (eC (.int 0))) (eIx (eVar 0) (eC (.int 2)))) (eOp (opMulX false) (eIx (eVar 0) (eC (.int 0))) (eIx (eVar 1) (eC (.int 2))))) (aCons (eOp opSub (eOp (opMulX false) (eIx (eVar 1) (eC (.int 1))) (eIx (eVar 0) (eC (.int 2)))) (eOp (opMulX false) (eIx (eVar 0) (eC (.int 1))) (eIx (eVar 1) (eC (.int 2))))) (aNil)))) (sSeq (sPar 5 6 (aCons (eOp opSub (eOp (opMulX false) (eIx (eVar 2) (eC (.int 0))) (eIx (eVar 0) (eC (.int 2)))) (eOp (opMulX false) (eIx (eVar 0) (eC (.int 0))) (eIx (eVar 2) (eC (.int 2))))) (aCons (eOp opSub (eOp (opMulX false) (eIx (eVar 2) (eC (.int 1))) (eIx (eVar 0) (eC (.int 2)))) (eOp (opMulX false) (eIx (eVar 0) (eC (.int 1))) (eIx (eVar 2) (eC (.int 2))))) (aNil)))) (sSeq (sPar 7 8 (aCons (eOp (opMulX false) (eOp (opAddX false) (eOp (opMulX false) (eVar 3) (eVar 5)) (eOp (opMulX false) (eVar 4) (eVar 6))) (eIx (eVar 1) (eC (.int 2)))) (aCons (eOp (opMulX false) (eOp (opAddX false) (eOp (opMulX false) (eVar 3) (eVar 3)) (eOp (opMulX false) (eVar 4) (eVar 4))) (eIx (eVar 2) (eC (.int 2)))) (aNil)))) (sSeq (sIf (tCmp (opOrd .LtE) (eVar 7) (eC (.int 0))) (sRet (eCall G_square (aCons (eVar 0) (aCons (eVar 2) (aNil))))) (sNil)) (sSeq (sIf (tCmp (opOrd .GtE) (eVar 7) (eVar 8)) (sRet (eCall G_square (aCons (eVar 1) (aCons (eVar 2) (aNil))))) (sNil)) (sSeq (sSet 9 (eOp opSub (eOp (opMulX false) (eVar 3) (eVar 6)) (eOp (opMulX false) (eVar 4) (eVar 5)))) (sRet (eCall G_fraction (aCons (eOp (opMulX false) (eVar 9) (eVar 9)) (aCons (eOp (opMulX false) (eOp (opMulX false) (eOp (opMulX false) (eOp (opMulX false) (eIx (eVar 0) (eC (.int 2))) (eIx (eVar 0) (eC (.int 2)))) (eIx (eVar 2) (eC (.int 2)))) (eIx (eVar 2) (eC (.int 2)))) (eOp (opAddX false) (eOp (opMulX false) (eVar 3) (eVar 3)) (eOp (opMulX false) (eVar 4) (eVar 4)))) (aNil))))))))))
def r_away (G_check_points G_off : List D → Mem → Res D) : SF := sSeq (sExpr (eCall G_check_points (aCons (eTup (aCons (eVar 0) (aCons (eVar 1) (aCons (eVar 2) (aNil))))) (aNil)))) (sRet (eCall G_off (aCons (eVar 0) (aCons (eVar 1) (aCons (eVar 2) (aNil))))))
def r_check_row (G_is_fraction G_is_point : List D → Mem → Res D) : SF := sSeq (sIf (tOrD (tNotD (tE (eIsi "tuple" (eVar 0)))) (tOrD (tNotD (tE (eChain (opOrd .LtE) (opOrd .LtE) (eC (.int 2)) (eB bLen (aCons (eVar 0) (aNil))) (eC (.int 24))))) (tNotD (tE (eB (bAllB false) (aCons (eLc false [2] (iE (eVar 0)) (gN 2) (tYesD) (eCall G_is_point (aCons (eVar 2) (aNil)))) (aNil))))))) (sRaise "BadShape") (sNil)) (sIf (tOrD (tNotD (tE (eCall G_is_fraction (aCons (eVar 1) (aNil))))) (tOrD (tCmp (opOrd .Lt) (eIx (eVar 1) (eC (.int 0))) (eC (.int 0))) (tCmp opNe (eLc false [3] (iA range2 (aCons (eC (.int 1)) (aCons (eB bLen (aCons (eVar 0) (aNil))) (aNil)))) (gN 3) (tCmp opEq (eIx (eVar 0) (eOp opSub (eVar 3) (eC (.int 1)))) (eIx (eVar 0) (eVar 3))) (eVar 3)) (eLst false (aNil))))) (sRaise "BadShape") (sNil))
def r_is_near (G_less G_off : List D → Mem → Res D) : SF := sRet (eNot (eB (bAllB true) (aCons (eLc false [4] (iE (eSl false (eVar 0) (pSome (eOp (opAddX false) (eVar 2) (eC (.int 1)))) (pSome (eVar 3)))) (gN 4) (tYesD) (eCall G_less (aCons (eVar 1) (aCons (eCall G_off (aCons (eIx (eVar 0) (eVar 2)) (aCons (eIx (eVar 0) (eVar 3)) (aCons (eVar 4) (aNil))))) (aNil))))) (aNil))))
def r_fewer (G_check_row G_is_near : List D → Mem → Res D) : SF := sSeq (sExpr (eCall G_check_row (aCons (eVar 0) (aCons (eVar 1) (aNil))))) (sSeq (sSet 2 (eB bLen (aCons (eVar 0) (aNil)))) (sSeq (sSet 3 (eOp (opMulX true) (eLst false (aCons (eC (.int 0)) (aNil))) (eVar 2))) (sSeq (sSet 4 (eOp (opMulX true) (eLst false (aCons (eC .non) (aNil))) (eVar 2))) (sSeq (sFor (iA range3 (aCons (eOp opSub (eVar 2) (eC (.int 2))) (aCons (eUn opNeg (eC (.int 1))) (aCons (eUn opNeg (eC (.int 1))) (aNil))))) (gN 5) (sFor (iA range2 (aCons (eOp (opAddX false) (eVar 5) (eC (.int 1))) (aCons (eVar 2) (aNil)))) (gN 6) (sIf (tAndD (tOrD (tCmp (opIs false) (eIx (eVar 4) (eVar 5)) (eC .non)) (tCmp (opOrd .Lt) (eOp (opAddX false) (eIx (eVar 3) (eVar 6)) (eC (.int 1))) (eIx (eVar 3) (eVar 5)))) (tE (eCall G_is_near (aCons (eVar 0) (aCons (eVar 1) (aCons (eVar 5) (aCons (eVar 6) (aNil)))))))) (sAsg (gT 2 (gsCons (gIx (eVar 3) (eVar 5)) (gsCons (gIx (eVar 4) (eVar 5)) (gsNil)))) (eTup (aCons (eOp (opAddX false) (eIx (eVar 3) (eVar 6)) (eC (.int 1))) (aCons (eVar 6) (aNil))))) (sNil)))) (sSeq (sSet 7 (eLst true (aCons (eC (.int 0)) (aNil)))) (sSeq (whileN (tCmp opNe (eIx (eVar 7) (eUn opNeg (eC (.int 1)))) (eOp opSub (eVar 2) (eC (.int 1)))) (sExpr (eM mAppend (eVar 7) (aCons (eIx (eVar 4) (eIx (eVar 7) (eUn opNeg (eC (.int 1))))) (aNil)))) FUEL) (sRet (eB bTuple (aCons (eVar 7) (aNil))))))))))
def r_are_fewer (G_check_row G_is_near G_is_number : List D → Mem → Res D) : SF := sSeq (sExpr (eCall G_check_row (aCons (eVar 0) (aCons (eVar 1) (aNil))))) (sSeq (sIf (tOrD (tNotD (tE (eIsi "tuple" (eVar 2)))) (tOrD (tCmp (opOrd .Lt) (eB bLen (aCons (eVar 2) (aNil))) (eC (.int 2))) (tNotD (tE (eB (bAllB false) (aCons (eLc false [5] (iE (eVar 2)) (gN 5) (tYesD) (eCall G_is_number (aCons (eVar 5) (aNil)))) (aNil))))))) (sRet (eC (.bl false))) (sNil)) (sSeq (sIf (tOrD (tCmp opNe (eIx (eVar 2) (eC (.int 0))) (eC (.int 0))) (tCmp opNe (eIx (eVar 2) (eUn opNeg (eC (.int 1)))) (eOp opSub (eB bLen (aCons (eVar 0) (aNil))) (eC (.int 1))))) (sRet (eC (.bl false))) (sNil)) (sSeq (sFor (iA zipD (aCons (eVar 2) (aCons (eSl false (eVar 2) (pSome (eC (.int 1))) pNone) (aNil)))) (gT 2 (gsCons (gN 3) (gsCons (gN 4) (gsNil)))) (sIf (tOrD (tCmp (opOrd .GtE) (eVar 3) (eVar 4)) (tNotD (tE (eCall G_is_near (aCons (eVar 0) (aCons (eVar 1) (aCons (eVar 3) (aCons (eVar 4) (aNil))))))))) (sRet (eC (.bl false))) (sNil))) (sRet (eC (.bl true))))))
def r__law_box (scr : OScr) : SF := sRet (eLst true (aCons (eC (.int 0)) (aCons (eC (.int 0)) (aCons (eC (.int 0)) (aCons (eLc false [1] (iScr scr (eVar 0)) (gN 1) (tYesD) (eB bAbs (aCons (eB bInt (aCons (eVar 1) (aNil))) (aNil)))) (aNil))))))
def r__law_take : SF := sSeq (sIf (tCmp opEq (eIx (eVar 0) (eC (.int 1))) (eC (.int 0))) (sSeq (sSet 2 (eIx (eVar 0) (eC (.int 2)))) (sSeq (sSet 3 (eC (.int 0))) (sSeq (sIf (tCmp (opOrd .Lt) (eVar 2) (eB bLen (aCons (eIx (eVar 0) (eC (.int 3))) (aNil)))) (sSeq (sSet 3 (eIx (eIx (eVar 0) (eC (.int 3))) (eVar 2))) (sAsg (gIx (eVar 0) (eC (.int 1))) (eIf (tCmp (opOrd .GtE) (eVar 3) (eOp opPow (eC (.int 10)) (eC (.int 18)))) (eC (.int 60)) (eUn opNeg (eC (.int 9)))))) (sNil)) (sSeq (sAsg (gIx (eVar 0) (eC (.int 2))) (eOp (opAddX false) (eVar 2) (eC (.int 1)))) (sSeq (sAsg (gIx (eVar 0) (eC (.int 0))) (eVar 3)) (sIf (tCmp opEq (eIx (eVar 0) (eC (.int 1))) (eC (.int 0))) (sRet (eC (.int 0))) (sNil))))))) (sNil)) (sSeq (sIf (tCmp (opOrd .Gt) (eIx (eVar 0) (eC (.int 1))) (eC (.int 0))) (sSeq (sSet 4 (eOp opMod (eB bInt (aCons (eIx (eVar 0) (eC (.int 0))) (aNil))) (eVar 1))) (sSeq (sAsg (gIx (eVar 0) (eC (.int 0))) (eOp opFdiv (eIx (eVar 0) (eC (.int 0))) (eVar 1))) (sSeq (sAsg (gIx (eVar 0) (eC (.int 1))) (eIf (tCmp (opOrd .Gt) (eIx (eVar 0) (eC (.int 0))) (eC (.int 0))) (eOp opSub (eIx (eVar 0) (eC (.int 1))) (eC (.int 1))) (eC (.int 0)))) (sRet (eVar 4))))) (sNil)) (sSeq (sAsg (gIx (eVar 0) (eC (.int 1))) (eOp (opAddX false) (eIx (eVar 0) (eC (.int 1))) (eC (.int 1)))) (sSeq (sAsg (gIx (eVar 0) (eC (.int 0))) (eOp opMod (eB bInt (aCons (eOp (opAddX false) (eOp (opMulX false) (eIx (eVar 0) (eC (.int 0))) (eC (.int 48271))) (eOp (opMulX false) (eC (.int 69621)) (eOp (opAddX false) (eIx (eVar 0) (eC (.int 1))) (eC (.int 20))))) (aNil))) (eC (.int 2147483647)))) (sRet (eOp opMod (eOp opMod (eB bInt (aCons (eOp (opAddX false) (eOp opFdiv (eIx (eVar 0) (eC (.int 0))) (eC (.int 7))) (eIx (eVar 0) (eC (.int 0)))) (aNil))) (eC (.int 1000003))) (eVar 1))))))
def r__law_pick (G__law_take : List D → Mem → Res D) : SF := sRet (eIx (eVar 1) (eCall G__law_take (aCons (eVar 0) (aCons (eB bLen (aCons (eVar 1) (aNil))) (aNil)))))
def r__law_number : SF := sRet (eAnd (eIsi "int" (eVar 0)) (eNot (eIsi "bool" (eVar 0))))
def r__law_shared : SF := sSeq (sSet 1 (eC (.int 0))) (sSeq (sFor (iE (eVar 0)) (gN 2) (sSeq (sSet 2 (eB bAbs (aCons (eVar 2) (aNil)))) (whileN (tCmp (opOrd .Gt) (eVar 2) (eC (.int 0))) (sPar 1 2 (aCons (eVar 2) (aCons (eOp opMod (eVar 1) (eVar 2)) (aNil)))) FUEL))) (sRet (eVar 1)))
def r__law_made (G__law_shared : List D → Mem → Res D) : SF := sSeq (sSet 3 (eIf (tCmp (opOrd .Gt) (eVar 2) (eC (.int 0))) (eCall G__law_shared (aCons (eTup (aCons (eVar 0) (aCons (eVar 1) (aCons (eVar 2) (aNil))))) (aNil))) (eUn opNeg (eCall G__law_shared (aCons (eTup (aCons (eVar 0) (aCons (eVar 1) (aCons (eVar 2) (aNil))))) (aNil)))))) (sRet (eTup (aCons (eOp opFdiv (eVar 0) (eVar 3)) (aCons (eOp opFdiv (eVar 1) (eVar 3)) (aCons (eOp opFdiv (eVar 2) (eVar 3)) (aNil))))))
def r__law_point (G__law_made G__law_take : List D → Mem → Res D) : SF := sSeq (sSet 2 (eOp (opAddX false) (eC (.int 1)) (eOp (opMulX false) (eCall G__law_take (aCons (eVar 0) (aCons (eC (.int 4)) (aNil)))) (eOp opFdiv (eCall G__law_take (aCons (eVar 0) (aCons (eC (.int 3)) (aNil)))) (eC (.int 2)))))) (sRet (eCall G__law_made (aCons (eOp opSub (eCall G__law_take (aCons (eVar 0) (aCons (eOp (opAddX false) (eOp (opMulX false) (eC (.int 2)) (eVar 1)) (eC (.int 1))) (aNil)))) (eVar 1)) (aCons (eOp opSub (eCall G__law_take (aCons (eVar 0) (aCons (eOp (opAddX false) (eOp (opMulX false) (eC (.int 2)) (eVar 1)) (eC (.int 1))) (aNil)))) (eVar 1)) (aCons (eVar 2) (aNil))))))
def r__law_is_fraction (G__law_shared G__law_number : List D → Mem → Res D) : SF := sSeq (sIf (tOrD (tNotD (tE (eIsi "tuple" (eVar 0)))) (tOrD (tCmp opNe (eB bLen (aCons (eVar 0) (aNil))) (eC (.int 2))) (tCmp opNe (eLc false [1] (iE (eVar 0)) (gN 1) (tNotD (tE (eCall G__law_number (aCons (eVar 1) (aNil))))) (eVar 1)) (eLst false (aNil))))) (sRet (eC (.bl false))) (sNil)) (sRet (eAnd (eOp (opOrd .GtE) (eIx (eVar 0) (eC (.int 1))) (eC (.int 1))) (eOp opEq (eCall G__law_shared (aCons (eVar 0) (aNil))) (eC (.int 1)))))
def r__law_square (G__law_shared : List D → Mem → Res D) : SF := sSeq (sPar3 2 3 4 (aCons (eOp opSub (eOp (opMulX false) (eIx (eVar 0) (eC (.int 0))) (eIx (eVar 1) (eC (.int 2)))) (eOp (opMulX false) (eIx (eVar 1) (eC (.int 0))) (eIx (eVar 0) (eC (.int 2))))) (aCons (eOp opSub (eOp (opMulX false) (eIx (eVar 0) (eC (.int 1))) (eIx (eVar 1) (eC (.int 2)))) (eOp (opMulX false) (eIx (eVar 1) (eC (.int 1))) (eIx (eVar 0) (eC (.int 2))))) (aCons (eOp (opMulX false) (eOp (opMulX false) (eOp (opMulX false) (eIx (eVar 0) (eC (.int 2))) (eIx (eVar 0) (eC (.int 2)))) (eIx (eVar 1) (eC (.int 2)))) (eIx (eVar 1) (eC (.int 2)))) (aNil))))) (sSeq (sSet 5 (eCall G__law_shared (aCons (eTup (aCons (eOp (opAddX false) (eOp (opMulX false) (eVar 2) (eVar 2)) (eOp (opMulX false) (eVar 3) (eVar 3))) (aCons (eVar 4) (aNil)))) (aNil)))) (sRet (eTup (aCons (eOp opFdiv (eOp (opAddX false) (eOp (opMulX false) (eVar 2) (eVar 2)) (eOp (opMulX false) (eVar 3) (eVar 3))) (eVar 5)) (aCons (eOp opFdiv (eVar 4) (eVar 5)) (aNil))))))
def r__law_away (G__law_shared G__law_square : List D → Mem → Res D) : SF := sSeq (sPar 3 4 (aCons (eOp opSub (eOp (opMulX false) (eIx (eVar 1) (eC (.int 0))) (eIx (eVar 0) (eC (.int 2)))) (eOp (opMulX false) (eIx (eVar 0) (eC (.int 0))) (eIx (eVar 1) (eC (.int 2))))) (aCons (eOp opSub (eOp (opMulX false) (eIx (eVar 1) (eC (.int 1))) (eIx (eVar 0) (eC (.int 2)))) (eOp (opMulX false) (eIx (eVar 0) (eC (.int 1))) (eIx (eVar 1) (eC (.int 2))))) (aNil)))) (sSeq (sSet 5 (eOp (opAddX false) (eOp (opMulX false) (eVar 3) (eOp opSub (eOp (opMulX false) (eIx (eVar 2) (eC (.int 0))) (eIx (eVar 0) (eC (.int 2)))) (eOp (opMulX false) (eIx (eVar 0) (eC (.int 0))) (eIx (eVar 2) (eC (.int 2)))))) (eOp (opMulX false) (eVar 4) (eOp opSub (eOp (opMulX false) (eIx (eVar 2) (eC (.int 1))) (eIx (eVar 0) (eC (.int 2)))) (eOp (opMulX false) (eIx (eVar 0) (eC (.int 1))) (eIx (eVar 2) (eC (.int 2)))))))) (sSeq (sSet 6 (eOp (opAddX false) (eOp (opMulX false) (eVar 3) (eOp opSub (eOp (opMulX false) (eIx (eVar 2) (eC (.int 0))) (eIx (eVar 1) (eC (.int 2)))) (eOp (opMulX false) (eIx (eVar 1) (eC (.int 0))) (eIx (eVar 2) (eC (.int 2)))))) (eOp (opMulX false) (eVar 4) (eOp opSub (eOp (opMulX false) (eIx (eVar 2) (eC (.int 1))) (eIx (eVar 1) (eC (.int 2)))) (eOp (opMulX false) (eIx (eVar 1) (eC (.int 1))) (eIx (eVar 2) (eC (.int 2)))))))) (sSeq (sIf (tOrD (tCmp opEq (eVar 0) (eVar 1)) (tCmp (opOrd .LtE) (eVar 5) (eC (.int 0)))) (sRet (eCall G__law_square (aCons (eVar 0) (aCons (eVar 2) (aNil))))) (sNil)) (sSeq (sIf (tCmp (opOrd .GtE) (eVar 6) (eC (.int 0))) (sRet (eCall G__law_square (aCons (eVar 1) (aCons (eVar 2) (aNil))))) (sNil)) (sSeq (sPar 7 8 (aCons (eOp opSub (eOp (opMulX false) (eVar 3) (eOp opSub (eOp (opMulX false) (eIx (eVar 2) (eC (.int 1))) (eIx (eVar 0) (eC (.int 2)))) (eOp (opMulX false) (eIx (eVar 0) (eC (.int 1))) (eIx (eVar 2) (eC (.int 2)))))) (eOp (opMulX false) (eVar 4) (eOp opSub (eOp (opMulX false) (eIx (eVar 2) (eC (.int 0))) (eIx (eVar 0) (eC (.int 2)))) (eOp (opMulX false) (eIx (eVar 0) (eC (.int 0))) (eIx (eVar 2) (eC (.int 2))))))) (aCons (eOp (opAddX false) (eOp (opMulX false) (eVar 3) (eVar 3)) (eOp (opMulX false) (eVar 4) (eVar 4))) (aNil)))) (sSeq (sPar 9 8 (aCons (eOp (opMulX false) (eVar 7) (eVar 7)) (aCons (eOp (opMulX false) (eOp (opMulX false) (eOp (opMulX false) (eOp (opMulX false) (eVar 8) (eIx (eVar 0) (eC (.int 2)))) (eIx (eVar 0) (eC (.int 2)))) (eIx (eVar 2) (eC (.int 2)))) (eIx (eVar 2) (eC (.int 2)))) (aNil)))) (sSeq (sSet 10 (eCall G__law_shared (aCons (eTup (aCons (eVar 9) (aCons (eVar 8) (aNil)))) (aNil)))) (sRet (eTup (aCons (eOp opFdiv (eVar 9) (eVar 10)) (aCons (eOp opFdiv (eVar 8) (eVar 10)) (aNil))))))))))))
def r__law_is_near (G__law_away : List D → Mem → Res D) : SF := sSeq (sFor (iE (eSl false (eVar 0) (pSome (eOp (opAddX false) (eVar 2) (eC (.int 1)))) (pSome (eVar 3)))) (gN 4) (sSeq (sSet 5 (eCall G__law_away (aCons (eIx (eVar 0) (eVar 2)) (aCons (eIx (eVar 0) (eVar 3)) (aCons (eVar 4) (aNil)))))) (sIf (tCmp (opOrd .Gt) (eOp (opMulX false) (eIx (eVar 5) (eC (.int 0))) (eIx (eVar 1) (eC (.int 1)))) (eOp (opMulX false) (eIx (eVar 1) (eC (.int 0))) (eIx (eVar 5) (eC (.int 1))))) (sRet (eC (.bl false))) (sNil)))) (sRet (eC (.bl true)))
def r__law_rows : SF := sSeq (sSet 1 (eLst false (aCons (eTup (aCons (eC (.int 0)) (aNil))) (aNil)))) (sSeq (sFor (iA range2 (aCons (eC (.int 1)) (aCons (eOp opSub (eVar 0) (eC (.int 1))) (aNil)))) (gN 2) (sSet 1 (eOp (opAddX false) (eVar 1) (eLc false [3] (iE (eVar 1)) (gN 3) (tYesD) (eOp (opAddX false) (eVar 3) (eTup (aCons (eVar 2) (aNil)))))))) (sRet (eLc false [4, 3] (iE (eB (bSorted false) (aCons (eLc false [3] (iE (eVar 1)) (gN 3) (tYesD) (eTup (aCons (eB bLen (aCons (eVar 3) (aNil))) (aCons (eOp (opAddX false) (eVar 3) (eTup (aCons (eOp opSub (eVar 0) (eC (.int 1))) (aNil)))) (aNil))))) (aNil)))) (gT 2 (gsCons (gN 4) (gsCons (gN 3) (gsNil)))) (tYesD) (eVar 3))))
def r__law_refused (G_fewer : List D → Mem → Res D) : SF := sSeq (sTry ["BadShape"] (PD.isT [("BadShape", "BadShape")]) (sExpr (eCall G_fewer (aCons (eVar 0) (aCons (eVar 1) (aNil))))) (("BadShape", sRet (eC (.bl true))) :: [])) (sRet (eC (.bl false)))
def r_law_0 (G__law_box G__law_pick G__law_point G__law_take G_away G__law_rows G__law_made G_fewer G_are_fewer G__law_away G__law_is_fraction G__law_refused G__law_is_near : List D → Mem → Res D) : SF := sSet 1 (eCall G__law_box (aCons (eVar 0) (aNil)))
def r_law_1 (G__law_box G__law_pick G__law_point G__law_take G_away G__law_rows G__law_made G_fewer G_are_fewer G__law_away G__law_is_fraction G__law_refused G__law_is_near : List D → Mem → Res D) : SF := sSet 2 (eCall G__law_pick (aCons (eVar 1) (aCons (eLst false (aCons (eC (.int 2)) (aCons (eC (.int 5)) (aCons (eC (.int 40)) (aNil))))) (aNil))))
def r_law_2 (G__law_box G__law_pick G__law_point G__law_take G_away G__law_rows G__law_made G_fewer G_are_fewer G__law_away G__law_is_fraction G__law_refused G__law_is_near : List D → Mem → Res D) : SF := sSet 3 (eLst true (aCons (eCall G__law_point (aCons (eVar 1) (aCons (eVar 2) (aNil)))) (aCons (eCall G__law_point (aCons (eVar 1) (aCons (eVar 2) (aNil)))) (aNil))))
def r_law_3a0 (G__law_box G__law_pick G__law_point G__law_take G_away G__law_rows G__law_made G_fewer G_are_fewer G__law_away G__law_is_fraction G__law_refused G__law_is_near : List D → Mem → Res D) : SF := sSet 5 (eIf (tCmp opEq (eCall G__law_take (aCons (eVar 1) (aCons (eC (.int 5)) (aNil)))) (eC (.int 0))) (eCall G__law_pick (aCons (eVar 1) (aCons (eVar 3) (aNil)))) (eCall G__law_point (aCons (eVar 1) (aCons (eVar 2) (aNil)))))
def r_law_3a1 (G__law_box G__law_pick G__law_point G__law_take G_away G__law_rows G__law_made G_fewer G_are_fewer G__law_away G__law_is_fraction G__law_refused G__law_is_near : List D → Mem → Res D) : SF := sExpr (eM mAppend (eVar 3) (aCons (eVar 5) (aNil)))
def r_law_3 (G__law_box G__law_pick G__law_point G__law_take G_away G__law_rows G__law_made G_fewer G_are_fewer G__law_away G__law_is_fraction G__law_refused G__law_is_near : List D → Mem → Res D) : SF := sFor (iA range1 (aCons (eCall G__law_take (aCons (eVar 1) (aCons (eC (.int 8)) (aNil)))) (aNil))) (gN 4) (sSeq (r_law_3a0 G__law_box G__law_pick G__law_point G__law_take G_away G__law_rows G__law_made G_fewer G_are_fewer G__law_away G__law_is_fraction G__law_refused G__law_is_near) (r_law_3a1 G__law_box G__law_pick G__law_point G__law_take G_away G__law_rows G__law_made G_fewer G_are_fewer G__law_away G__law_is_fraction G__law_refused G__law_is_near))
def r_law_4 (G__law_box G__law_pick G__law_point G__law_take G_away G__law_rows G__law_made G_fewer G_are_fewer G__law_away G__law_is_fraction G__law_refused G__law_is_near : List D → Mem → Res D) : SF := sSet 6 (eLst true (aNil))
def r_law_5a0a0 (G__law_box G__law_pick G__law_point G__law_take G_away G__law_rows G__law_made G_fewer G_are_fewer G__law_away G__law_is_fraction G__law_refused G__law_is_near : List D → Mem → Res D) : SF := sExpr (eM mAppend (eVar 6) (aCons (eVar 5) (aNil)))
def r_law_5a0 (G__law_box G__law_pick G__law_point G__law_take G_away G__law_rows G__law_made G_fewer G_are_fewer G__law_away G__law_is_fraction G__law_refused G__law_is_near : List D → Mem → Res D) : SF := sIf (tOrD (tCmp opEq (eVar 6) (eLst false (aNil))) (tCmp opNe (eIx (eVar 6) (eUn opNeg (eC (.int 1)))) (eVar 5))) (r_law_5a0a0 G__law_box G__law_pick G__law_point G__law_take G_away G__law_rows G__law_made G_fewer G_are_fewer G__law_away G__law_is_fraction G__law_refused G__law_is_near) (sNil)
def r_law_5 (G__law_box G__law_pick G__law_point G__law_take G_away G__law_rows G__law_made G_fewer G_are_fewer G__law_away G__law_is_fraction G__law_refused G__law_is_near : List D → Mem → Res D) : SF := sFor (iE (eVar 3)) (gN 5) (r_law_5a0 G__law_box G__law_pick G__law_point G__law_take G_away G__law_rows G__law_made G_fewer G_are_fewer G__law_away G__law_is_fraction G__law_refused G__law_is_near)
def r_law_6a0 (G__law_box G__law_pick G__law_point G__law_take G_away G__law_rows G__law_made G_fewer G_are_fewer G__law_away G__law_is_fraction G__law_refused G__law_is_near : List D → Mem → Res D) : SF := sExpr (eM mAppend (eVar 6) (aCons (eCall G__law_made (aCons (eOp (opAddX false) (eIx (eIx (eVar 6) (eC (.int 0))) (eC (.int 0))) (eIx (eIx (eVar 6) (eC (.int 0))) (eC (.int 2)))) (aCons (eIx (eIx (eVar 6) (eC (.int 0))) (eC (.int 1))) (aCons (eIx (eIx (eVar 6) (eC (.int 0))) (eC (.int 2))) (aNil))))) (aNil)))
def r_law_6 (G__law_box G__law_pick G__law_point G__law_take G_away G__law_rows G__law_made G_fewer G_are_fewer G__law_away G__law_is_fraction G__law_refused G__law_is_near : List D → Mem → Res D) : SF := sIf (tCmp (opOrd .Lt) (eB bLen (aCons (eVar 6) (aNil))) (eC (.int 2))) (r_law_6a0 G__law_box G__law_pick G__law_point G__law_take G_away G__law_rows G__law_made G_fewer G_are_fewer G__law_away G__law_is_fraction G__law_refused G__law_is_near) (sNil)
def r_law_7 (G__law_box G__law_pick G__law_point G__law_take G_away G__law_rows G__law_made G_fewer G_are_fewer G__law_away G__law_is_fraction G__law_refused G__law_is_near : List D → Mem → Res D) : SF := sAsg (gT 2 (gsCons (gN 3) (gsCons (gN 7) (gsNil)))) (eTup (aCons (eB bTuple (aCons (eVar 6) (aNil))) (aCons (eB bLen (aCons (eVar 6) (aNil))) (aNil))))
def r_law_8a0 (G__law_box G__law_pick G__law_point G__law_take G_away G__law_rows G__law_made G_fewer G_are_fewer G__law_away G__law_is_fraction G__law_refused G__law_is_near : List D → Mem → Res D) : SF := sPar3 8 9 5 (aCons (eCall G__law_pick (aCons (eVar 1) (aCons (eVar 3) (aNil)))) (aCons (eCall G__law_pick (aCons (eVar 1) (aCons (eVar 3) (aNil)))) (aCons (eCall G__law_point (aCons (eVar 1) (aCons (eVar 2) (aNil)))) (aNil))))
def r_law_8a1 (G__law_box G__law_pick G__law_point G__law_take G_away G__law_rows G__law_made G_fewer G_are_fewer G__law_away G__law_is_fraction G__law_refused G__law_is_near : List D → Mem → Res D) : SF := sSet 10 (eCall G_away (aCons (eVar 8) (aCons (eVar 9) (aCons (eVar 5) (aNil)))))
def r_law_8a2a0 (G__law_box G__law_pick G__law_point G__law_take G_away G__law_rows G__law_made G_fewer G_are_fewer G__law_away G__law_is_fraction G__law_refused G__law_is_near : List D → Mem → Res D) : SF := sRet (eC (.bl false))
def r_law_8a2 (G__law_box G__law_pick G__law_point G__law_take G_away G__law_rows G__law_made G_fewer G_are_fewer G__law_away G__law_is_fraction G__law_refused G__law_is_near : List D → Mem → Res D) : SF := sIf (tOrD (tCmp opNe (eVar 10) (eCall G__law_away (aCons (eVar 8) (aCons (eVar 9) (aCons (eVar 5) (aNil)))))) (tOrD (tCmp opNe (eCall G_away (aCons (eVar 9) (aCons (eVar 8) (aCons (eVar 5) (aNil))))) (eVar 10)) (tNotD (tE (eCall G__law_is_fraction (aCons (eVar 10) (aNil))))))) (r_law_8a2a0 G__law_box G__law_pick G__law_point G__law_take G_away G__law_rows G__law_made G_fewer G_are_fewer G__law_away G__law_is_fraction G__law_refused G__law_is_near) (sNil)
def r_law_8a3a0 (G__law_box G__law_pick G__law_point G__law_take G_away G__law_rows G__law_made G_fewer G_are_fewer G__law_away G__law_is_fraction G__law_refused G__law_is_near : List D → Mem → Res D) : SF := sSet 10 (eTup (aCons (eCall G__law_take (aCons (eVar 1) (aCons (eOp (opMulX false) (eC (.int 2)) (eVar 2)) (aNil)))) (aCons (eC (.int 1)) (aNil))))
def r_law_8a3 (G__law_box G__law_pick G__law_point G__law_take G_away G__law_rows G__law_made G_fewer G_are_fewer G__law_away G__law_is_fraction G__law_refused G__law_is_near : List D → Mem → Res D) : SF := sIf (tCmp opEq (eVar 4) (eC (.int 0))) (r_law_8a3a0 G__law_box G__law_pick G__law_point G__law_take G_away G__law_rows G__law_made G_fewer G_are_fewer G__law_away G__law_is_fraction G__law_refused G__law_is_near) (sNil)
def r_law_8a4 (G__law_box G__law_pick G__law_point G__law_take G_away G__law_rows G__law_made G_fewer G_are_fewer G__law_away G__law_is_fraction G__law_refused G__law_is_near : List D → Mem → Res D) : SF := sPar 11 12 (aCons (eCall G_fewer (aCons (eVar 3) (aCons (eVar 10) (aNil)))) (aCons (eC .non) (aNil)))
def r_law_8a5a0 (G__law_box G__law_pick G__law_point G__law_take G_away G__law_rows G__law_made G_fewer G_are_fewer G__law_away G__law_is_fraction G__law_refused G__law_is_near : List D → Mem → Res D) : SF := sSet 14 (eOp opEq (eLc false [17] (iA range2 (aCons (eC (.int 1)) (aCons (eB bLen (aCons (eVar 13) (aNil))) (aNil)))) (gN 17) (tNotD (tE (eCall G__law_is_near (aCons (eVar 3) (aCons (eVar 10) (aCons (eIx (eVar 13) (eOp opSub (eVar 17) (eC (.int 1)))) (aCons (eIx (eVar 13) (eVar 17)) (aNil)))))))) (eVar 17)) (eLst false (aNil)))
def r_law_8a5a1a0 (G__law_box G__law_pick G__law_point G__law_take G_away G__law_rows G__law_made G_fewer G_are_fewer G__law_away G__law_is_fraction G__law_refused G__law_is_near : List D → Mem → Res D) : SF := sSet 12 (eVar 13)
def r_law_8a5a1 (G__law_box G__law_pick G__law_point G__law_take G_away G__law_rows G__law_made G_fewer G_are_fewer G__law_away G__law_is_fraction G__law_refused G__law_is_near : List D → Mem → Res D) : SF := sIf (tAndD (tCmp (opIs false) (eVar 12) (eC .non)) (tE (eVar 14))) (r_law_8a5a1a0 G__law_box G__law_pick G__law_point G__law_take G_away G__law_rows G__law_made G_fewer G_are_fewer G__law_away G__law_is_fraction G__law_refused G__law_is_near) (sNil)
def r_law_8a5a2a0 (G__law_box G__law_pick G__law_point G__law_take G_away G__law_rows G__law_made G_fewer G_are_fewer G__law_away G__law_is_fraction G__law_refused G__law_is_near : List D → Mem → Res D) : SF := sRet (eC (.bl false))
def r_law_8a5a2 (G__law_box G__law_pick G__law_point G__law_take G_away G__law_rows G__law_made G_fewer G_are_fewer G__law_away G__law_is_fraction G__law_refused G__law_is_near : List D → Mem → Res D) : SF := sIf (tAndD (tCmp (opOrd .Lt) (eB bLen (aCons (eVar 13) (aNil))) (eC (.int 5))) (tCmp opNe (eCall G_are_fewer (aCons (eVar 3) (aCons (eVar 10) (aCons (eVar 13) (aNil))))) (eVar 14))) (r_law_8a5a2a0 G__law_box G__law_pick G__law_point G__law_take G_away G__law_rows G__law_made G_fewer G_are_fewer G__law_away G__law_is_fraction G__law_refused G__law_is_near) (sNil)
def r_law_8a5 (G__law_box G__law_pick G__law_point G__law_take G_away G__law_rows G__law_made G_fewer G_are_fewer G__law_away G__law_is_fraction G__law_refused G__law_is_near : List D → Mem → Res D) : SF := sFor (iE (eCall G__law_rows (aCons (eVar 7) (aNil)))) (gN 13) (sSeq (r_law_8a5a0 G__law_box G__law_pick G__law_point G__law_take G_away G__law_rows G__law_made G_fewer G_are_fewer G__law_away G__law_is_fraction G__law_refused G__law_is_near) (sSeq (r_law_8a5a1 G__law_box G__law_pick G__law_point G__law_take G_away G__law_rows G__law_made G_fewer G_are_fewer G__law_away G__law_is_fraction G__law_refused G__law_is_near) (r_law_8a5a2 G__law_box G__law_pick G__law_point G__law_take G_away G__law_rows G__law_made G_fewer G_are_fewer G__law_away G__law_is_fraction G__law_refused G__law_is_near)))
def r_law_8a6a0 (G__law_box G__law_pick G__law_point G__law_take G_away G__law_rows G__law_made G_fewer G_are_fewer G__law_away G__law_is_fraction G__law_refused G__law_is_near : List D → Mem → Res D) : SF := sRet (eC (.bl false))
def r_law_8a6 (G__law_box G__law_pick G__law_point G__law_take G_away G__law_rows G__law_made G_fewer G_are_fewer G__law_away G__law_is_fraction G__law_refused G__law_is_near : List D → Mem → Res D) : SF := sIf (tOrD (tNotD (tE (eIsi "tuple" (eVar 11)))) (tOrD (tCmp opNe (eVar 11) (eVar 12)) (tCmp (opIsB true) (eCall G_are_fewer (aCons (eVar 3) (aCons (eVar 10) (aCons (eVar 11) (aNil))))) (eC (.bl true))))) (r_law_8a6a0 G__law_box G__law_pick G__law_point G__law_take G_away G__law_rows G__law_made G_fewer G_are_fewer G__law_away G__law_is_fraction G__law_refused G__law_is_near) (sNil)
def r_law_8a7a0 (G__law_box G__law_pick G__law_point G__law_take G_away G__law_rows G__law_made G_fewer G_are_fewer G__law_away G__law_is_fraction G__law_refused G__law_is_near : List D → Mem → Res D) : SF := sRet (eC (.bl false))
def r_law_8a7 (G__law_box G__law_pick G__law_point G__law_take G_away G__law_rows G__law_made G_fewer G_are_fewer G__law_away G__law_is_fraction G__law_refused G__law_is_near : List D → Mem → Res D) : SF := sIf (tCmp opNe (eB bLen (aCons (eCall G_fewer (aCons (eRev false (eVar 3)) (aCons (eVar 10) (aNil)))) (aNil))) (eB bLen (aCons (eVar 11) (aNil)))) (r_law_8a7a0 G__law_box G__law_pick G__law_point G__law_take G_away G__law_rows G__law_made G_fewer G_are_fewer G__law_away G__law_is_fraction G__law_refused G__law_is_near) (sNil)
def r_law_8a8 (G__law_box G__law_pick G__law_point G__law_take G_away G__law_rows G__law_made G_fewer G_are_fewer G__law_away G__law_is_fraction G__law_refused G__law_is_near : List D → Mem → Res D) : SF := sSet 15 (eCall G__law_pick (aCons (eVar 1) (aCons (eLst false (aCons (eC .non) (aCons (eTup (aNil)) (aCons (eTup (aCons (eC (.int 0)) (aNil))) (aCons (eRev false (eVar 11)) (aCons (eSl false (eVar 11) (pSome (eC (.int 1))) pNone) (aCons (eSl false (eVar 11) pNone (pSome (eUn opNeg (eC (.int 1))))) (aCons (eB (bList false) (aCons (eVar 11) (aNil))) (aCons (eOp (opAddX false) (eTup (aCons (eC (.bl false)) (aNil))) (eSl false (eVar 11) (pSome (eC (.int 1))) pNone)) (aCons (eOp (opAddX false) (eVar 11) (eVar 11)) (aCons (eOp (opAddX false) (eSl false (eVar 11) pNone (pSome (eUn opNeg (eC (.int 1))))) (eTup (aCons (eVar 7) (aNil)))) (aNil)))))))))))) (aNil))))
def r_law_8a9a0 (G__law_box G__law_pick G__law_point G__law_take G_away G__law_rows G__law_made G_fewer G_are_fewer G__law_away G__law_is_fraction G__law_refused G__law_is_near : List D → Mem → Res D) : SF := sRet (eC (.bl false))
def r_law_8a9 (G__law_box G__law_pick G__law_point G__law_take G_away G__law_rows G__law_made G_fewer G_are_fewer G__law_away G__law_is_fraction G__law_refused G__law_is_near : List D → Mem → Res D) : SF := sIf (tCmp (opIsB true) (eCall G_are_fewer (aCons (eVar 3) (aCons (eVar 10) (aCons (eVar 15) (aNil))))) (eC (.bl false))) (r_law_8a9a0 G__law_box G__law_pick G__law_point G__law_take G_away G__law_rows G__law_made G_fewer G_are_fewer G__law_away G__law_is_fraction G__law_refused G__law_is_near) (sNil)
def r_law_8 (G__law_box G__law_pick G__law_point G__law_take G_away G__law_rows G__law_made G_fewer G_are_fewer G__law_away G__law_is_fraction G__law_refused G__law_is_near : List D → Mem → Res D) : SF := sFor (iA range1 (aCons (eC (.int 3)) (aNil))) (gN 4) (sSeq (r_law_8a0 G__law_box G__law_pick G__law_point G__law_take G_away G__law_rows G__law_made G_fewer G_are_fewer G__law_away G__law_is_fraction G__law_refused G__law_is_near) (sSeq (r_law_8a1 G__law_box G__law_pick G__law_point G__law_take G_away G__law_rows G__law_made G_fewer G_are_fewer G__law_away G__law_is_fraction G__law_refused G__law_is_near) (sSeq (r_law_8a2 G__law_box G__law_pick G__law_point G__law_take G_away G__law_rows G__law_made G_fewer G_are_fewer G__law_away G__law_is_fraction G__law_refused G__law_is_near) (sSeq (r_law_8a3 G__law_box G__law_pick G__law_point G__law_take G_away G__law_rows G__law_made G_fewer G_are_fewer G__law_away G__law_is_fraction G__law_refused G__law_is_near) (sSeq (r_law_8a4 G__law_box G__law_pick G__law_point G__law_take G_away G__law_rows G__law_made G_fewer G_are_fewer G__law_away G__law_is_fraction G__law_refused G__law_is_near) (sSeq (r_law_8a5 G__law_box G__law_pick G__law_point G__law_take G_away G__law_rows G__law_made G_fewer G_are_fewer G__law_away G__law_is_fraction G__law_refused G__law_is_near) (sSeq (r_law_8a6 G__law_box G__law_pick G__law_point G__law_take G_away G__law_rows G__law_made G_fewer G_are_fewer G__law_away G__law_is_fraction G__law_refused G__law_is_near) (sSeq (r_law_8a7 G__law_box G__law_pick G__law_point G__law_take G_away G__law_rows G__law_made G_fewer G_are_fewer G__law_away G__law_is_fraction G__law_refused G__law_is_near) (sSeq (r_law_8a8 G__law_box G__law_pick G__law_point G__law_take G_away G__law_rows G__law_made G_fewer G_are_fewer G__law_away G__law_is_fraction G__law_refused G__law_is_near) (r_law_8a9 G__law_box G__law_pick G__law_point G__law_take G_away G__law_rows G__law_made G_fewer G_are_fewer G__law_away G__law_is_fraction G__law_refused G__law_is_near))))))))))
def r_law_9 (G__law_box G__law_pick G__law_point G__law_take G_away G__law_rows G__law_made G_fewer G_are_fewer G__law_away G__law_is_fraction G__law_refused G__law_is_near : List D → Mem → Res D) : SF := sSet 16 (eLst false (aCons (eTup (aCons (eSl false (eVar 3) pNone (pSome (eC (.int 1)))) (aCons (eTup (aCons (eC (.int 1)) (aCons (eC (.int 1)) (aNil)))) (aNil)))) (aCons (eTup (aCons (eOp (opAddX false) (eVar 3) (eSl false (eVar 3) (pSome (eUn opNeg (eC (.int 1)))) pNone)) (aCons (eTup (aCons (eC (.int 1)) (aCons (eC (.int 1)) (aNil)))) (aNil)))) (aCons (eTup (aCons (eVar 3) (aCons (eTup (aCons (eUn opNeg (eC (.int 1))) (aCons (eC (.int 1)) (aNil)))) (aNil)))) (aCons (eTup (aCons (eVar 3) (aCons (eC (.int 1)) (aNil)))) (aCons (eTup (aCons (eVar 3) (aCons (eTup (aCons (eC (.int 2)) (aCons (eC (.int 2)) (aNil)))) (aNil)))) (aCons (eTup (aCons (eB (bList false) (aCons (eVar 3) (aNil))) (aCons (eTup (aCons (eC (.int 1)) (aCons (eC (.int 1)) (aNil)))) (aNil)))) (aNil))))))))
def r_law_10 (G__law_box G__law_pick G__law_point G__law_take G_away G__law_rows G__law_made G_fewer G_are_fewer G__law_away G__law_is_fraction G__law_refused G__law_is_near : List D → Mem → Res D) : SF := sRet (eOp opEq (eLc false [18, 19] (iE (eVar 16)) (gT 2 (gsCons (gN 18) (gsCons (gN 19) (gsNil)))) (tNotD (tE (eCall G__law_refused (aCons (eVar 18) (aCons (eVar 19) (aNil)))))) (eC (.int 1))) (eLst false (aNil)))
def r_law (G__law_box G__law_pick G__law_point G__law_take G_away G__law_rows G__law_made G_fewer G_are_fewer G__law_away G__law_is_fraction G__law_refused G__law_is_near : List D → Mem → Res D) : SF := sSeq (r_law_0 G__law_box G__law_pick G__law_point G__law_take G_away G__law_rows G__law_made G_fewer G_are_fewer G__law_away G__law_is_fraction G__law_refused G__law_is_near) (sSeq (r_law_1 G__law_box G__law_pick G__law_point G__law_take G_away G__law_rows G__law_made G_fewer G_are_fewer G__law_away G__law_is_fraction G__law_refused G__law_is_near) (sSeq (r_law_2 G__law_box G__law_pick G__law_point G__law_take G_away G__law_rows G__law_made G_fewer G_are_fewer G__law_away G__law_is_fraction G__law_refused G__law_is_near) (sSeq (r_law_3 G__law_box G__law_pick G__law_point G__law_take G_away G__law_rows G__law_made G_fewer G_are_fewer G__law_away G__law_is_fraction G__law_refused G__law_is_near) (sSeq (r_law_4 G__law_box G__law_pick G__law_point G__law_take G_away G__law_rows G__law_made G_fewer G_are_fewer G__law_away G__law_is_fraction G__law_refused G__law_is_near) (sSeq (r_law_5 G__law_box G__law_pick G__law_point G__law_take G_away G__law_rows G__law_made G_fewer G_are_fewer G__law_away G__law_is_fraction G__law_refused G__law_is_near) (sSeq (r_law_6 G__law_box G__law_pick G__law_point G__law_take G_away G__law_rows G__law_made G_fewer G_are_fewer G__law_away G__law_is_fraction G__law_refused G__law_is_near) (sSeq (r_law_7 G__law_box G__law_pick G__law_point G__law_take G_away G__law_rows G__law_made G_fewer G_are_fewer G__law_away G__law_is_fraction G__law_refused G__law_is_near) (sSeq (r_law_8 G__law_box G__law_pick G__law_point G__law_take G_away G__law_rows G__law_made G_fewer G_are_fewer G__law_away G__law_is_fraction G__law_refused G__law_is_near) (sSeq (r_law_9 G__law_box G__law_pick G__law_point G__law_take G_away G__law_rows G__law_made G_fewer G_are_fewer G__law_away G__law_is_fraction G__law_refused G__law_is_near) (r_law_10 G__law_box G__law_pick G__law_point G__law_take G_away G__law_rows G__law_made G_fewer G_are_fewer G__law_away G__law_is_fraction G__law_refused G__law_is_near))))))))))
def R_is_number : List D → Mem → Res D := fnR 1 (r_is_number)
def R_common : List D → Mem → Res D := fnR 2 (r_common)
def R_fraction : List D → Mem → Res D := fnR 3 (r_fraction R_common)
def R_is_fraction : List D → Mem → Res D := fnR 1 (r_is_fraction R_is_number R_common)
def R_check_fraction : List D → Mem → Res D := fnR 1 (r_check_fraction R_is_fraction)
def R_check_both : List D → Mem → Res D := fnR 2 (r_check_both R_check_fraction)
def R_less : List D → Mem → Res D := fnR 2 (r_less R_check_both)
def R_is_point : List D → Mem → Res D := fnR 2 (r_is_point R_common R_is_number)
def R_check_point : List D → Mem → Res D := fnR 1 (r_check_point R_is_point)
def R_check_points : List D → Mem → Res D := fnR 2 (r_check_points R_check_point)
def R_square : List D → Mem → Res D := fnR 5 (r_square R_fraction)
def R_off : List D → Mem → Res D := fnR 10 (r_off R_fraction R_square)
def R_away : List D → Mem → Res D := fnR 3 (r_away R_check_points R_off)
def R_check_row : List D → Mem → Res D := fnR 4 (r_check_row R_is_fraction R_is_point)
def R_is_near : List D → Mem → Res D := fnR 5 (r_is_near R_less R_off)
def R_fewer : List D → Mem → Res D := fnR 8 (r_fewer R_check_row R_is_near)
def R_are_fewer : List D → Mem → Res D := fnR 6 (r_are_fewer R_check_row R_is_near R_is_number)
def R__law_box (scr : OScr) : List D → Mem → Res D := fnR 2 (r__law_box scr)
def R__law_take : List D → Mem → Res D := fnR 5 (r__law_take)
def R__law_pick : List D → Mem → Res D := fnR 2 (r__law_pick R__law_take)
def R__law_number : List D → Mem → Res D := fnR 1 (r__law_number)
def R__law_shared : List D → Mem → Res D := fnR 3 (r__law_shared)
def R__law_made : List D → Mem → Res D := fnR 4 (r__law_made R__law_shared)
def R__law_point : List D → Mem → Res D := fnR 3 (r__law_point R__law_made R__law_take)
def R__law_is_fraction : List D → Mem → Res D := fnR 2 (r__law_is_fraction R__law_shared R__law_number)
def R__law_square : List D → Mem → Res D := fnR 6 (r__law_square R__law_shared)
def R__law_away : List D → Mem → Res D := fnR 11 (r__law_away R__law_shared R__law_square)
def R__law_is_near : List D → Mem → Res D := fnR 6 (r__law_is_near R__law_away)
def R__law_rows : List D → Mem → Res D := fnR 5 (r__law_rows)
def R__law_refused : List D → Mem → Res D := fnR 2 (r__law_refused R_fewer)
abbrev C_law_0 (scr : OScr) : SF := r_law_0 (R__law_box scr) R__law_pick R__law_point R__law_take R_away R__law_rows R__law_made R_fewer R_are_fewer R__law_away R__law_is_fraction R__law_refused R__law_is_near
abbrev C_law_1 (scr : OScr) : SF := r_law_1 (R__law_box scr) R__law_pick R__law_point R__law_take R_away R__law_rows R__law_made R_fewer R_are_fewer R__law_away R__law_is_fraction R__law_refused R__law_is_near
abbrev C_law_2 (scr : OScr) : SF := r_law_2 (R__law_box scr) R__law_pick R__law_point R__law_take R_away R__law_rows R__law_made R_fewer R_are_fewer R__law_away R__law_is_fraction R__law_refused R__law_is_near
abbrev C_law_3a0 (scr : OScr) : SF := r_law_3a0 (R__law_box scr) R__law_pick R__law_point R__law_take R_away R__law_rows R__law_made R_fewer R_are_fewer R__law_away R__law_is_fraction R__law_refused R__law_is_near
abbrev C_law_3a1 (scr : OScr) : SF := r_law_3a1 (R__law_box scr) R__law_pick R__law_point R__law_take R_away R__law_rows R__law_made R_fewer R_are_fewer R__law_away R__law_is_fraction R__law_refused R__law_is_near
abbrev C_law_3 (scr : OScr) : SF := r_law_3 (R__law_box scr) R__law_pick R__law_point R__law_take R_away R__law_rows R__law_made R_fewer R_are_fewer R__law_away R__law_is_fraction R__law_refused R__law_is_near
abbrev C_law_4 (scr : OScr) : SF := r_law_4 (R__law_box scr) R__law_pick R__law_point R__law_take R_away R__law_rows R__law_made R_fewer R_are_fewer R__law_away R__law_is_fraction R__law_refused R__law_is_near
abbrev C_law_5a0a0 (scr : OScr) : SF := r_law_5a0a0 (R__law_box scr) R__law_pick R__law_point R__law_take R_away R__law_rows R__law_made R_fewer R_are_fewer R__law_away R__law_is_fraction R__law_refused R__law_is_near
abbrev C_law_5a0 (scr : OScr) : SF := r_law_5a0 (R__law_box scr) R__law_pick R__law_point R__law_take R_away R__law_rows R__law_made R_fewer R_are_fewer R__law_away R__law_is_fraction R__law_refused R__law_is_near
abbrev C_law_5 (scr : OScr) : SF := r_law_5 (R__law_box scr) R__law_pick R__law_point R__law_take R_away R__law_rows R__law_made R_fewer R_are_fewer R__law_away R__law_is_fraction R__law_refused R__law_is_near
abbrev C_law_6a0 (scr : OScr) : SF := r_law_6a0 (R__law_box scr) R__law_pick R__law_point R__law_take R_away R__law_rows R__law_made R_fewer R_are_fewer R__law_away R__law_is_fraction R__law_refused R__law_is_near
abbrev C_law_6 (scr : OScr) : SF := r_law_6 (R__law_box scr) R__law_pick R__law_point R__law_take R_away R__law_rows R__law_made R_fewer R_are_fewer R__law_away R__law_is_fraction R__law_refused R__law_is_near
abbrev C_law_7 (scr : OScr) : SF := r_law_7 (R__law_box scr) R__law_pick R__law_point R__law_take R_away R__law_rows R__law_made R_fewer R_are_fewer R__law_away R__law_is_fraction R__law_refused R__law_is_near
abbrev C_law_8a0 (scr : OScr) : SF := r_law_8a0 (R__law_box scr) R__law_pick R__law_point R__law_take R_away R__law_rows R__law_made R_fewer R_are_fewer R__law_away R__law_is_fraction R__law_refused R__law_is_near
abbrev C_law_8a1 (scr : OScr) : SF := r_law_8a1 (R__law_box scr) R__law_pick R__law_point R__law_take R_away R__law_rows R__law_made R_fewer R_are_fewer R__law_away R__law_is_fraction R__law_refused R__law_is_near
abbrev C_law_8a2a0 (scr : OScr) : SF := r_law_8a2a0 (R__law_box scr) R__law_pick R__law_point R__law_take R_away R__law_rows R__law_made R_fewer R_are_fewer R__law_away R__law_is_fraction R__law_refused R__law_is_near
abbrev C_law_8a2 (scr : OScr) : SF := r_law_8a2 (R__law_box scr) R__law_pick R__law_point R__law_take R_away R__law_rows R__law_made R_fewer R_are_fewer R__law_away R__law_is_fraction R__law_refused R__law_is_near
abbrev C_law_8a3a0 (scr : OScr) : SF := r_law_8a3a0 (R__law_box scr) R__law_pick R__law_point R__law_take R_away R__law_rows R__law_made R_fewer R_are_fewer R__law_away R__law_is_fraction R__law_refused R__law_is_near
abbrev C_law_8a3 (scr : OScr) : SF := r_law_8a3 (R__law_box scr) R__law_pick R__law_point R__law_take R_away R__law_rows R__law_made R_fewer R_are_fewer R__law_away R__law_is_fraction R__law_refused R__law_is_near
abbrev C_law_8a4 (scr : OScr) : SF := r_law_8a4 (R__law_box scr) R__law_pick R__law_point R__law_take R_away R__law_rows R__law_made R_fewer R_are_fewer R__law_away R__law_is_fraction R__law_refused R__law_is_near
abbrev C_law_8a5a0 (scr : OScr) : SF := r_law_8a5a0 (R__law_box scr) R__law_pick R__law_point R__law_take R_away R__law_rows R__law_made R_fewer R_are_fewer R__law_away R__law_is_fraction R__law_refused R__law_is_near
abbrev C_law_8a5a1a0 (scr : OScr) : SF := r_law_8a5a1a0 (R__law_box scr) R__law_pick R__law_point R__law_take R_away R__law_rows R__law_made R_fewer R_are_fewer R__law_away R__law_is_fraction R__law_refused R__law_is_near
abbrev C_law_8a5a1 (scr : OScr) : SF := r_law_8a5a1 (R__law_box scr) R__law_pick R__law_point R__law_take R_away R__law_rows R__law_made R_fewer R_are_fewer R__law_away R__law_is_fraction R__law_refused R__law_is_near
abbrev C_law_8a5a2a0 (scr : OScr) : SF := r_law_8a5a2a0 (R__law_box scr) R__law_pick R__law_point R__law_take R_away R__law_rows R__law_made R_fewer R_are_fewer R__law_away R__law_is_fraction R__law_refused R__law_is_near
abbrev C_law_8a5a2 (scr : OScr) : SF := r_law_8a5a2 (R__law_box scr) R__law_pick R__law_point R__law_take R_away R__law_rows R__law_made R_fewer R_are_fewer R__law_away R__law_is_fraction R__law_refused R__law_is_near
abbrev C_law_8a5 (scr : OScr) : SF := r_law_8a5 (R__law_box scr) R__law_pick R__law_point R__law_take R_away R__law_rows R__law_made R_fewer R_are_fewer R__law_away R__law_is_fraction R__law_refused R__law_is_near
abbrev C_law_8a6a0 (scr : OScr) : SF := r_law_8a6a0 (R__law_box scr) R__law_pick R__law_point R__law_take R_away R__law_rows R__law_made R_fewer R_are_fewer R__law_away R__law_is_fraction R__law_refused R__law_is_near
abbrev C_law_8a6 (scr : OScr) : SF := r_law_8a6 (R__law_box scr) R__law_pick R__law_point R__law_take R_away R__law_rows R__law_made R_fewer R_are_fewer R__law_away R__law_is_fraction R__law_refused R__law_is_near
abbrev C_law_8a7a0 (scr : OScr) : SF := r_law_8a7a0 (R__law_box scr) R__law_pick R__law_point R__law_take R_away R__law_rows R__law_made R_fewer R_are_fewer R__law_away R__law_is_fraction R__law_refused R__law_is_near
abbrev C_law_8a7 (scr : OScr) : SF := r_law_8a7 (R__law_box scr) R__law_pick R__law_point R__law_take R_away R__law_rows R__law_made R_fewer R_are_fewer R__law_away R__law_is_fraction R__law_refused R__law_is_near
abbrev C_law_8a8 (scr : OScr) : SF := r_law_8a8 (R__law_box scr) R__law_pick R__law_point R__law_take R_away R__law_rows R__law_made R_fewer R_are_fewer R__law_away R__law_is_fraction R__law_refused R__law_is_near
abbrev C_law_8a9a0 (scr : OScr) : SF := r_law_8a9a0 (R__law_box scr) R__law_pick R__law_point R__law_take R_away R__law_rows R__law_made R_fewer R_are_fewer R__law_away R__law_is_fraction R__law_refused R__law_is_near
abbrev C_law_8a9 (scr : OScr) : SF := r_law_8a9 (R__law_box scr) R__law_pick R__law_point R__law_take R_away R__law_rows R__law_made R_fewer R_are_fewer R__law_away R__law_is_fraction R__law_refused R__law_is_near
abbrev C_law_8 (scr : OScr) : SF := r_law_8 (R__law_box scr) R__law_pick R__law_point R__law_take R_away R__law_rows R__law_made R_fewer R_are_fewer R__law_away R__law_is_fraction R__law_refused R__law_is_near
abbrev C_law_9 (scr : OScr) : SF := r_law_9 (R__law_box scr) R__law_pick R__law_point R__law_take R_away R__law_rows R__law_made R_fewer R_are_fewer R__law_away R__law_is_fraction R__law_refused R__law_is_near
abbrev C_law_10 (scr : OScr) : SF := r_law_10 (R__law_box scr) R__law_pick R__law_point R__law_take R_away R__law_rows R__law_made R_fewer R_are_fewer R__law_away R__law_is_fraction R__law_refused R__law_is_near
def R_law (scr : OScr) : List D → Mem → Res D := fnR 20 (r_law (R__law_box scr) R__law_pick R__law_point R__law_take R_away R__law_rows R__law_made R_fewer R_are_fewer R__law_away R__law_is_fraction R__law_refused R__law_is_near)
end K93
namespace K93
open PySem L2 PD
/-! ### gcd -/
def gI (a b : Int) : Int := (Int.gcd a b : Nat)
theorem absI_eq (i : Int) : absI i = (i.natAbs : Int) := by unfold absI; split <;> omega
def euc : SF := sPar 0 1 (aCons (eVar 1) (aCons (eOp opMod (eVar 0) (eVar 1)) (aNil)))
def euT : TF := tCmp (opOrd .Gt) (eVar 1) (eC (.int 0))
theorem euc_step {a b : Nat} {m : Mem} (hb : 0 < b) : euc [some (.int a), some (.int b)] m = .nx [some (.int b), some (.int (a % b : Nat))] m := by
  have hb' : (0 : Int) < b := by omega
  simp [euc, fmodD_pos hb', show b ≠ 0 by omega]
theorem euc_go {a b n : Nat} {m : Mem} (hb : 0 < b) : whileN euT euc (n + 1) [some (.int a), some (.int b)] m = whileN euT euc n [some (.int b), some (.int (a % b : Nat))] m := by
  rw [whileN_go (m1 := m) (by simp [euT, hb]), euc_step hb, turnK_nx]
theorem euc_end {a n : Nat} {m : Mem} : whileN euT euc (n + 1) [some (.int a), some (.int 0)] m = .nx [some (.int a), some (.int 0)] m := whileN_end (by simp [euT])
theorem euclid : ∀ (k b a n : Nat) (m : Mem), b < 2 ^ k → 2 * k + 1 ≤ n → whileN euT euc n [some (.int a), some (.int b)] m = .nx [some (.int (Nat.gcd a b)), some (.int 0)] m := by
  intro k
  induction k with
  | zero =>
    intro b a n m hb hn
    obtain ⟨n, rfl⟩ : ∃ k, n = k + 1 := ⟨n - 1, by omega⟩
    have : b = 0 := by simpa using hb
    subst this
    rw [Nat.gcd_zero_right]
    exact euc_end
  | succ k ih =>
    intro b a n m hb hn
    obtain ⟨n, rfl⟩ : ∃ k, n = k + 1 + 1 := ⟨n - 2, by omega⟩
    by_cases h0 : b = 0
    · subst h0
      rw [Nat.gcd_zero_right]
      exact euc_end
    · have hb0 : 0 < b := by omega
      rw [euc_go hb0]
      have hr := Nat.mod_lt a hb0
      have e1 : Nat.gcd a b = Nat.gcd b (a % b) := by rw [Nat.gcd_comm, Nat.gcd_rec, Nat.gcd_comm]
      rw [e1]
      generalize a % b = r at hr
      by_cases h1 : r = 0
      · subst h1
        rw [Nat.gcd_zero_right]
        exact euc_end
      · have hr0 : 0 < r := by omega
        rw [euc_go hr0]
        have e2 : Nat.gcd b r = Nat.gcd r (b % r) := by rw [Nat.gcd_comm, Nat.gcd_rec, Nat.gcd_comm]
        rw [e2]
        refine ih (b % r) r n m ?_ (by omega)
        have h2 := Nat.mod_lt b hr0
        have hp : 2 ^ (k + 1) = 2 * 2 ^ k := by rw [Nat.pow_succ, Nat.mul_comm]
        by_cases h3 : 2 * r ≤ b
        · omega
        · have h4 : b % r = b - r := by rw [Nat.mod_eq_sub_mod (by omega), Nat.mod_eq_of_lt (by omega)]
          omega
theorem R_common_eq {a b : Int} {m : Mem} {k : Nat} [sb : Sz b k] (hk : k < 1000000) : R_common [.int a, .int b] m = .ok (.int (gI a b)) m := by
  have e : r_common (startD 2 [.int a, .int b]) m = .rt (.int (gI a b)) m := by
    have h := euclid k b.natAbs a.natAbs FUEL m sb.h (by unfold FUEL; omega)
    unfold r_common
    rw [sSeq_ap]
    show ((sPar 0 1 _ [some (.int a), some (.int b)] m).then (sSeq (whileN euT euc FUEL) (sRet (eVar 0)))) = _
    simp [absI_eq, h]
    rfl
  unfold R_common fnR
  rw [e]
theorem gI_pos {a b : Int} (h : 0 < b) : 0 < gI a b := by
  unfold gI
  have : 0 < Int.gcd a b := Nat.pos_of_ne_zero fun z => by rw [Int.gcd_eq_zero_iff] at z; omega
  omega
theorem gI_le {a b : Int} (h : 0 < b) : gI a b ≤ b := by
  unfold gI
  have := Int.gcd_le_right (a := a) h
  omega
theorem gI_sz {a b : Int} {k : Nat} (h : 0 < b) (s : Sz b k) : Sz (gI a b) k := ⟨by
  have h1 := gI_pos (a := a) h
  have h2 := gI_le (a := a) h
  have h3 := s.h
  omega⟩
/-! ### fractions -/
abbrev fD (f : Int × Int) : D := .tup [.int f.1, .int f.2]
def frD (n d : Int) : Int × Int := (n / gI n d, d / gI n d)
theorem st3 (a b : D) : startD 3 [a, b] = [some a, some b, none] := rfl
theorem R_fraction_eq {n d : Int} {m : Mem} {k : Nat} (hd : 0 < d) [sd : Sz d k] (hk : k < 9000) : R_fraction [.int n, .int d] m = .ok (fD (frD n d)) m := by
  have hg := gI_pos (a := n) hd
  have hs := gI_sz (a := n) hd sd
  have h1 : divB (gI n d) = true := divB_sz hg (by omega)
  unfold R_fraction fnR
  rw [st3]
  simp [r_fraction, show ¬ d < 0 by omega, R_common_eq (a := n) (b := d) (k := k) (by omega), h1, hg, frD]
end K93
namespace K93
open PySem L2 PD
@[simp] theorem isi_int_int (i : Int) (m : Mem) : opIsi "int" (.int i) m = .ok (.bl true) m := rfl
@[simp] theorem isi_bool_int (i : Int) (m : Mem) : opIsi "bool" (.int i) m = .ok (.bl false) m := rfl
@[simp] theorem isi_int_bl (i : Bool) (m : Mem) : opIsi "int" (.bl i) m = .ok (.bl true) m := rfl
@[simp] theorem isi_bool_bl (i : Bool) (m : Mem) : opIsi "bool" (.bl i) m = .ok (.bl true) m := rfl
@[simp] theorem isi_tup_tup (i : List D) (m : Mem) : opIsi "tuple" (.tup i) m = .ok (.bl true) m := rfl
@[simp] theorem isi_tup_int (i : Int) (m : Mem) : opIsi "tuple" (.int i) m = .ok (.bl false) m := rfl
@[simp] theorem isi_tup_lst (i : List D) (m : Mem) : opIsi "tuple" (.lst i) m = .ok (.bl false) m := rfl
@[simp] theorem isi_tup_non (m : Mem) : opIsi "tuple" .non m = .ok (.bl false) m := rfl
@[simp] theorem bLen_tup (xs : List D) (m : Mem) : bLen [.tup xs] m = .ok (.int xs.length) m := rfl
@[simp] theorem eq_int (i j : Int) (m : Mem) : opEq (.int i) (.int j) m = .ok (.bl (decide (i = j))) m := by
  show Res.ok (D.bl (PyData.eqv (.int i) (.int j))) m = _
  simp [PyData.eqv]
  rw [Bool.eq_iff_iff]; simp
@[simp] theorem ne_int (i j : Int) (m : Mem) : opNe (.int i) (.int j) m = .ok (.bl (!decide (i = j))) m := by
  show Res.ok (D.bl (!PyData.eqv (.int i) (.int j))) m = _
  simp [PyData.eqv]
  rw [Bool.eq_iff_iff]; simp
@[simp] theorem ix0 (x : D) (xs : List D) (m : Mem) : opIx (.tup (x :: xs)) (.int 0) m = .ok x m := by
  simp [opIx, atI, ixN]
@[simp] theorem ix1 (x y : D) (xs : List D) (m : Mem) : opIx (.tup (x :: y :: xs)) (.int 1) m = .ok y m := by
  simp [opIx, atI, ixN]
  rw [if_pos (by omega)]; rfl
@[simp] theorem ix2 (x y z : D) (xs : List D) (m : Mem) : opIx (.tup (x :: y :: z :: xs)) (.int 2) m = .ok z m := by
  simp [opIx, atI, ixN]
  rw [if_pos (by omega)]; rfl
theorem st1 (a : D) : startD 1 [a] = [some a] := rfl
theorem R_num_int {i : Int} {m : Mem} : R_is_number [.int i] m = .ok (.bl true) m := by
  unfold R_is_number fnR
  simp [st1, r_is_number]
theorem R_num_bl {i : Bool} {m : Mem} : R_is_number [.bl i] m = .ok (.bl false) m := by
  unfold R_is_number fnR
  simp [st1, r_is_number]
def isFr (f : Int × Int) : Prop := 1 ≤ f.2 ∧ gI f.1 f.2 = 1
instance (f : Int × Int) : Decidable (isFr f) := by unfold isFr; infer_instance
theorem R_isfr {f : Int × Int} {m : Mem} {k : Nat} [s : Sz f.2 k] (hk : k < 1000000) : R_is_fraction [fD f] m = .ok (.bl (decide (isFr f))) m := by
  unfold R_is_fraction fnR
  simp [st1, r_is_fraction, R_num_int, R_common_eq (a := f.1) (b := f.2) (k := k) hk, isFr]
  by_cases h : 1 ≤ f.2 <;> simp [h]
theorem R_isfr_int {i : Int} {m : Mem} : R_is_fraction [.int i] m = .ok (.bl false) m := by
  unfold R_is_fraction fnR
  simp [st1, r_is_fraction]
theorem R_chkfr {f : Int × Int} {m : Mem} {k : Nat} (s : Sz f.2 k) (hk : k < 1000000) (h : isFr f) : R_check_fraction [fD f] m = .ok .non m := by
  unfold R_check_fraction fnR
  simp [st1, r_check_fraction, R_isfr (f := f) (k := k) hk, h]
theorem st2 (a b : D) : startD 2 [a, b] = [some a, some b] := rfl
theorem R_chkb {f g : Int × Int} {m : Mem} {k l : Nat} (s : Sz f.2 k) (hk : k < 1000000) (h : isFr f) (s2 : Sz g.2 l) (hl : l < 1000000) (h2 : isFr g) : R_check_both [fD f, fD g] m = .ok .non m := by
  unfold R_check_both fnR
  simp [st2, r_check_both, R_chkfr s hk h, R_chkfr s2 hl h2]
theorem R_less_eq {f g : Int × Int} {m : Mem} {k l : Nat} (s1 : Sz f.1 k) (s : Sz f.2 k) (hk : k < 100000) (h : isFr f) (s3 : Sz g.1 l) (s2 : Sz g.2 l) (hl : l < 100000) (h2 : isFr g) : R_less [fD f, fD g] m = .ok (.bl (decide (f.1 * g.2 < g.1 * f.2))) m := by
  unfold R_less fnR
  have m1 : mulB f.1 g.2 = true := mulB_sz (by omega)
  have m2 : mulB g.1 f.2 = true := mulB_sz (by omega)
  simp [st2, r_less, R_chkb s (by omega) h s2 (by omega) h2, m1, m2]
/-! ### points -/
abbrev Pt := Int × Int × Int
abbrev pD (p : Pt) : D := .tup [.int p.1, .int p.2.1, .int p.2.2]
def isPt (p : Pt) : Prop := 1 ≤ p.2.2 ∧ gI (gI p.1 p.2.1) p.2.2 = 1
instance (p : Pt) : Decidable (isPt p) := by unfold isPt; infer_instance
class SzP (p : Pt) (k : outParam Nat) : Prop where
  x : Sz p.1 k
  y : Sz p.2.1 k
  w : Sz p.2.2 k
instance {p : Pt} {k : Nat} [s : SzP p k] : Sz p.1 k := s.x
instance {p : Pt} {k : Nat} [s : SzP p k] : Sz p.2.1 k := s.y
instance {p : Pt} {k : Nat} [s : SzP p k] : Sz p.2.2 k := s.w
theorem st1_1 (a : D) : startD 2 [a] = [some a, none] := rfl
theorem R_ispt {p : Pt} {m : Mem} {k : Nat} [s : SzP p k] (hk : k < 1000000) : R_is_point [pD p] m = .ok (.bl (decide (isPt p))) m := by
  unfold R_is_point fnR
  simp [st1_1, r_is_point, lcL, wipeD, R_num_int, newL_f, bAllB, bools, R_common_eq (a := p.1) (b := p.2.1) (k := k) hk, R_common_eq (a := gI p.1 p.2.1) (b := p.2.2) (k := k) hk, isPt]
  by_cases h : 1 ≤ p.2.2 <;> simp [h]
theorem R_chkpt {p : Pt} {m : Mem} {k : Nat} (s : SzP p k) (hk : k < 1000000) (h : isPt p) : R_check_point [pD p] m = .ok .non m := by
  unfold R_check_point fnR
  simp [st1, r_check_point, R_ispt (p := p) (k := k) hk, h]
theorem R_chkpts {a b p : Pt} {m : Mem} {k : Nat} (sa : SzP a k) (sb : SzP b k) (sp : SzP p k) (hk : k < 1000000) (ha : isPt a) (hb : isPt b) (hp : isPt p) : R_check_points [.tup [pD a, pD b, pD p]] m = .ok .non m := by
  unfold R_check_points fnR
  simp [st1_1, r_check_points, forL, R_chkpt sa hk ha, R_chkpt sb hk hb, R_chkpt sp hk hp]
theorem st5_2 (a b : D) : startD 5 [a, b] = [some a, some b, none, none, none] := rfl
def sqN (a b : Pt) : Int := (a.1 * b.2.2 - b.1 * a.2.2) * (a.1 * b.2.2 - b.1 * a.2.2) + (a.2.1 * b.2.2 - b.2.1 * a.2.2) * (a.2.1 * b.2.2 - b.2.1 * a.2.2)
def sqW (a b : Pt) : Int := a.2.2 * b.2.2 * (a.2.2 * b.2.2)
theorem R_sq {a b : Pt} {m : Mem} {k : Nat} (sa : SzP a k) (sb : SzP b k) (hk : k < 1000) (ha : 0 < a.2.2) (hb : 0 < b.2.2) : R_square [pD a, pD b] m = .ok (fD (frD (sqN a b) (sqW a b))) m := by
  have w0 : 0 < a.2.2 * b.2.2 := Int.mul_pos ha hb
  have w1 : 0 < a.2.2 * b.2.2 * (a.2.2 * b.2.2) := Int.mul_pos w0 w0
  have m1 : mulB a.2.2 b.2.2 = true := mulB_sz (by omega)
  have m2 : mulB a.1 b.2.2 = true := mulB_sz (by omega)
  have m3 : mulB b.1 a.2.2 = true := mulB_sz (by omega)
  have m4 : mulB a.2.1 b.2.2 = true := mulB_sz (by omega)
  have m5 : mulB b.2.1 a.2.2 = true := mulB_sz (by omega)
  have m6 : mulB (a.1 * b.2.2 - b.1 * a.2.2) (a.1 * b.2.2 - b.1 * a.2.2) = true := mulB_sz (by omega)
  have m7 : mulB (a.2.1 * b.2.2 - b.2.1 * a.2.2) (a.2.1 * b.2.2 - b.2.1 * a.2.2) = true := mulB_sz (by omega)
  have m8 : mulB (a.2.2 * b.2.2) (a.2.2 * b.2.2) = true := mulB_sz (by omega)
  have hf := fun n => R_fraction_eq (n := n) (m := m) (d := a.2.2 * b.2.2 * (a.2.2 * b.2.2)) (k := k + k + (k + k)) w1 (by omega)
  unfold R_square fnR
  simp [st5_2, r_square, m1, m2, m3, m4, m5, m6, m7, m8, hf, sqN, sqW]
end K93
namespace K93
open PySem L2 PD
theorem st3_3 (a b c : D) : startD 3 [a, b, c] = [some a, some b, some c] := rfl
theorem st11_3 (a b c : D) : startD 10 [a, b, c] = [some a, some b, some c, none, none, none, none, none, none, none] := rfl
theorem sqn (x : Int) : 0 ≤ x * x := by rw [← Int.natAbs_mul_self]; exact Int.natCast_nonneg _
def cX (a b : Pt) : Int := b.1 * a.2.2 - a.1 * b.2.2
def cY (a b : Pt) : Int := b.2.1 * a.2.2 - a.2.1 * b.2.2
instance {a b : Pt} [SzP a 20] [SzP b 20] : Sz (cX a b) 81 := by unfold cX; exact inferInstance
instance {a b : Pt} [SzP a 20] [SzP b 20] : Sz (cY a b) 81 := by unfold cY; exact inferInstance
/-- along the way from a to b, scaled -/
def alg (a b p : Pt) : Int := (cX a b * cX a p + cY a b * cY a p) * b.2.2
def whl (a b p : Pt) : Int := (cX a b * cX a b + cY a b * cY a b) * p.2.2
def trn (a b p : Pt) : Int := cX a b * cY a p - cY a b * cX a p
def lenD (a b p : Pt) : Int := a.2.2 * a.2.2 * p.2.2 * p.2.2 * (cX a b * cX a b + cY a b * cY a b)
def offV (a b p : Pt) : Int × Int := if alg a b p ≤ 0 then frD (sqN a p) (sqW a p) else if alg a b p ≥ whl a b p then frD (sqN b p) (sqW b p) else frD (trn a b p * trn a b p) (lenD a b p)
theorem lenD_pos {a b p : Pt} (ha : 0 < a.2.2) (hp : 0 < p.2.2) (h1 : ¬ alg a b p ≤ 0) : 0 < lenD a b p := by
  have hxy : 0 < cX a b * cX a b + cY a b * cY a b := by
    by_cases hx : cX a b = 0
    · by_cases hy : cY a b = 0
      · exact (h1 (by unfold alg; rw [hx, hy]; simp)).elim
      · have := sqn (cX a b)
        have : 0 < cY a b * cY a b := by
          rcases Int.lt_or_gt_of_ne hy with h | h
          · exact Int.mul_pos_of_neg_of_neg h h
          · exact Int.mul_pos h h
        omega
    · have := sqn (cY a b)
      have : 0 < cX a b * cX a b := by
        rcases Int.lt_or_gt_of_ne hx with h | h
        · exact Int.mul_pos_of_neg_of_neg h h
        · exact Int.mul_pos h h
      omega
  unfold lenD
  exact Int.mul_pos (Int.mul_pos (Int.mul_pos (Int.mul_pos ha ha) hp) hp) hxy
theorem R_off_eq {a b p : Pt} {m : Mem} [sa : SzP a 20] [sb : SzP b 20] [sp : SzP p 20] (ha : 0 < a.2.2) (hb : 0 < b.2.2) (hp : 0 < p.2.2) : R_off [pD a, pD b, pD p] m = .ok (fD (offV a b p)) m := by
  have e1 := R_sq (m := m) sa sp (by omega) ha hp
  have e2 := R_sq (m := m) sb sp (by omega) hb hp
  unfold R_off fnR
  by_cases h1 : alg a b p ≤ 0
  · have h1' := h1
    unfold alg cX cY at h1'
    simp [st11_3, r_off, mulB_sz, h1', e1, offV, h1]
  · by_cases h2 : whl a b p ≤ alg a b p
    · have h1' := h1
      have h2' := h2
      unfold alg cX cY at h1' h2'
      unfold whl cX cY at h2'
      simp [st11_3, r_off, mulB_sz, h1', h2', e2, offV, h1, h2]
    · have h1' := h1
      have h2' := h2
      unfold alg cX cY at h1' h2'
      unfold whl cX cY at h2'
      have h3 := lenD_pos ha hp h1
      have e3 := fun n => R_fraction_eq (n := n) (m := m) (d := lenD a b p) (k := 20 + 20 + 20 + 20 + (81 + 81 + (81 + 81) + 1)) (sd := by unfold lenD; exact inferInstance) h3 (by omega)
      unfold lenD cX cY at e3
      simp [st11_3, r_off, mulB_sz, h1', h2', offV, h1, h2, e3]
      unfold trn lenD cX cY
      exact ⟨rfl, rfl⟩
theorem R_away_eq {a b p : Pt} {m : Mem} [sa : SzP a 20] [sb : SzP b 20] [sp : SzP p 20] (ha : isPt a) (hb : isPt b) (hp : isPt p) : R_away [pD a, pD b, pD p] m = .ok (fD (offV a b p)) m := by
  have e := R_off_eq (m := m) (a := a) (b := b) (p := p) (Int.lt_of_lt_of_le (by decide) ha.1) (Int.lt_of_lt_of_le (by decide) hb.1) (Int.lt_of_lt_of_le (by decide) hp.1)
  unfold R_away fnR
  simp [st3_3, r_away, R_chkpts sa sb sp (by omega) ha hb hp, e]
/-! ### the law's own numbers -/
def euc2 : SF := sPar 1 2 (aCons (eVar 2) (aCons (eOp opMod (eVar 1) (eVar 2)) (aNil)))
def euT2 : TF := tCmp (opOrd .Gt) (eVar 2) (eC (.int 0))
theorem euc2_go {z : Option D} {a b n : Nat} {m : Mem} (hb : 0 < b) : whileN euT2 euc2 (n + 1) [z, some (.int a), some (.int b)] m = whileN euT2 euc2 n [z, some (.int b), some (.int (a % b : Nat))] m := by
  have hb' : (0 : Int) < b := by omega
  have e : euc2 [z, some (.int a), some (.int b)] m = .nx [z, some (.int b), some (.int (a % b : Nat))] m := by
    simp [euc2, fmodD_pos hb', show b ≠ 0 by omega]
  rw [whileN_go (m1 := m) (by simp [euT2, hb]), e, turnK_nx]
theorem euc2_end {z : Option D} {a n : Nat} {m : Mem} : whileN euT2 euc2 (n + 1) [z, some (.int a), some (.int 0)] m = .nx [z, some (.int a), some (.int 0)] m := whileN_end (by simp [euT2])
theorem euclid2 {z : Option D} : ∀ (k b a n : Nat) (m : Mem), b < 2 ^ k → 2 * k + 1 ≤ n → whileN euT2 euc2 n [z, some (.int a), some (.int b)] m = .nx [z, some (.int (Nat.gcd a b)), some (.int 0)] m := by
  intro k
  induction k with
  | zero =>
    intro b a n m hb hn
    obtain ⟨n, rfl⟩ : ∃ k, n = k + 1 := ⟨n - 1, by omega⟩
    have : b = 0 := by simpa using hb
    subst this
    rw [Nat.gcd_zero_right]
    exact euc2_end
  | succ k ih =>
    intro b a n m hb hn
    obtain ⟨n, rfl⟩ : ∃ k, n = k + 1 + 1 := ⟨n - 2, by omega⟩
    by_cases h0 : b = 0
    · subst h0
      rw [Nat.gcd_zero_right]
      exact euc2_end
    · have hb0 : 0 < b := by omega
      rw [euc2_go hb0]
      have hr := Nat.mod_lt a hb0
      have e1 : Nat.gcd a b = Nat.gcd b (a % b) := by rw [Nat.gcd_comm, Nat.gcd_rec, Nat.gcd_comm]
      rw [e1]
      generalize a % b = r at hr
      by_cases h1 : r = 0
      · subst h1
        rw [Nat.gcd_zero_right]
        exact euc2_end
      · have hr0 : 0 < r := by omega
        rw [euc2_go hr0]
        have e2 : Nat.gcd b r = Nat.gcd r (b % r) := by rw [Nat.gcd_comm, Nat.gcd_rec, Nat.gcd_comm]
        rw [e2]
        refine ih (b % r) r n m ?_ (by omega)
        have h2 := Nat.mod_lt b hr0
        have hp : 2 ^ (k + 1) = 2 * 2 ^ k := by rw [Nat.pow_succ, Nat.mul_comm]
        by_cases h3 : 2 * r ≤ b
        · omega
        · have h4 : b % r = b - r := by rw [Nat.mod_eq_sub_mod (by omega), Nat.mod_eq_of_lt (by omega)]
          omega
def shN (o : Nat) (xs : List Int) : Nat := xs.foldl (fun o x => Nat.gcd o x.natAbs) o
def shB : SF := sSeq (sSet 2 (eB bAbs (aCons (eVar 2) (aNil)))) (whileN euT2 euc2 FUEL)
theorem sh_loop {z : Option D} {m : Mem} : ∀ (xs : List Int) (o : Nat) (c : Option D), (∀ x ∈ xs, x.natAbs < 2 ^ 100000) → ∃ c', forL (gN 2) shB (xs.map D.int) [z, some (.int o), c] m = .nx [z, some (.int (shN o xs)), c'] m
  | [], o, c, _ => ⟨c, rfl⟩
  | x :: xs, o, c, h => by
    obtain ⟨c', ih⟩ := sh_loop (m := m) xs (Nat.gcd o x.natAbs) (some (.int 0)) fun y hy => h y (List.mem_cons_of_mem _ hy)
    refine ⟨c', ?_⟩
    rw [List.map_cons, forL_step (σ1 := [z, some (.int o), some (.int x)]) (m1 := m) rfl]
    have e : shB [z, some (.int o), some (.int x)] m = .nx [z, some (.int (Nat.gcd o x.natAbs)), some (.int 0)] m := by
      have q := euclid2 (z := z) 100000 x.natAbs o FUEL m (h x List.mem_cons_self) (by unfold FUEL; omega)
      simp [shB, absI_eq, q]
    rw [e, turnK_nx, ih]
    rfl
theorem R_shared {xs : List Int} {m : Mem} (h : ∀ x ∈ xs, x.natAbs < 2 ^ 100000) : R__law_shared [.tup (xs.map D.int)] m = .ok (.int (shN 0 xs)) m := by
  obtain ⟨c', e⟩ := sh_loop (z := some (.tup (xs.map D.int))) (m := m) xs 0 none h
  have e' : r__law_shared (startD 3 [.tup (xs.map D.int)]) m = .rt (.int (shN 0 xs)) m := by
    have es : startD 3 [D.tup (xs.map D.int)] = [some (.tup (xs.map D.int)), none, none] := rfl
    rw [es]
    unfold r__law_shared
    have er : (sFor (iE (eVar 0)) (gN 2) (sSeq (sSet 2 (eB bAbs (aCons (eVar 2) (aNil)))) (whileN (tCmp (opOrd .Gt) (eVar 2) (eC (.int 0))) (sPar 1 2 (aCons (eVar 2) (aCons (eOp opMod (eVar 1) (eVar 2)) (aNil)))) FUEL))) = sFor (iE (eVar 0)) (gN 2) shB := rfl
    rw [er]
    have e0 : forL (gN 2) shB (xs.map D.int) [some (.tup (xs.map D.int)), some (.int 0), none] m = .nx [some (.tup (xs.map D.int)), some (.int (shN 0 xs)), c'] m := e
    simp [e0]
  unfold R__law_shared fnR
  rw [e']
end K93
namespace K93
open PySem L2 PD
theorem Sz.big {i : Int} {n : Nat} (h : Sz i n) (hn : n ≤ 100000) : i.natAbs < 2 ^ 100000 := (h.le hn).h
theorem shN2 (a b : Int) : ((shN 0 [a, b] : Nat) : Int) = gI a b := by
  unfold shN gI Int.gcd
  simp
theorem R_shared2 {a b : Int} {m : Mem} {k l : Nat} (sa : Sz a k) (sb : Sz b l) (hk : k ≤ 100000) (hl : l ≤ 100000) : R__law_shared [.tup [.int a, .int b]] m = .ok (.int (gI a b)) m := by
  have h := R_shared (xs := [a, b]) (m := m) fun x hx => by
    simp only [List.mem_cons, List.not_mem_nil, or_false] at hx
    rcases hx with rfl | rfl
    · exact Sz.big sa hk
    · exact Sz.big sb hl
  rw [shN2] at h
  exact h
def g3 (a b c : Int) : Int := gI (gI a b) c
theorem shN3 (a b c : Int) : ((shN 0 [a, b, c] : Nat) : Int) = g3 a b c := by
  unfold shN g3 gI Int.gcd
  simp
theorem R_shared3 {a b c : Int} {m : Mem} {k : Nat} (sa : Sz a k) (sb : Sz b k) (sc : Sz c k) (hk : k ≤ 100000) : R__law_shared [.tup [.int a, .int b, .int c]] m = .ok (.int (g3 a b c)) m := by
  have h := R_shared (xs := [a, b, c]) (m := m) fun x hx => by
    simp only [List.mem_cons, List.not_mem_nil, or_false] at hx
    rcases hx with rfl | rfl | rfl
    · exact Sz.big sa hk
    · exact Sz.big sb hk
    · exact Sz.big sc hk
  rw [shN3] at h
  exact h
/-- a point made of whole numbers -/
def mkP (x y w : Int) : Pt := (x / g3 x y w, y / g3 x y w, w / g3 x y w)
theorem st4_3 (a b c : D) : startD 4 [a, b, c] = [some a, some b, some c, none] := rfl
theorem R_made {x y w : Int} {m : Mem} {k : Nat} [sx : Sz x k] [sy : Sz y k] [sw : Sz w k] (hk : k ≤ 8000) (hw : 0 < w) : R__law_made [.int x, .int y, .int w] m = .ok (pD (mkP x y w)) m := by
  have hg := gI_pos (a := gI x y) hw
  have hs : Sz (g3 x y w) k := gI_sz (a := gI x y) hw sw
  have hg : 0 < g3 x y w := hg
  have h1 : divB (g3 x y w) = true := divB_sz hg (by omega)
  unfold R__law_made fnR
  simp [st4_3, r__law_made, hw, R_shared3 sx sy sw (by omega), h1, hg, mkP]
theorem st2_1 (a : D) : startD 2 [a] = [some a, none] := rfl
theorem R_lnum_int {i : Int} {m : Mem} : R__law_number [.int i] m = .ok (.bl true) m := by
  unfold R__law_number fnR
  simp [st1, r__law_number]
theorem R_lisfr {f : Int × Int} {m : Mem} {k : Nat} (s1 : Sz f.1 k) (s : Sz f.2 k) (hk : k < 100000) : R__law_is_fraction [fD f] m = .ok (.bl (decide (isFr f))) m := by
  unfold R__law_is_fraction fnR
  simp [st2_1, r__law_is_fraction, lcL, wipeD, R_lnum_int, newL_f, R_shared2 s1 s (by omega) (by omega), isFr, opNe_of]
  by_cases h : 1 ≤ f.2 <;> simp [h]
theorem st6_2 (a b : D) : startD 6 [a, b] = [some a, some b, none, none, none, none] := rfl
def sqW' (a b : Pt) : Int := a.2.2 * a.2.2 * b.2.2 * b.2.2
theorem sqW_eq (a b : Pt) : sqW' a b = sqW a b := by
  unfold sqW sqW'
  simp only [Int.mul_assoc, Int.mul_left_comm]
theorem R_lsq {a b : Pt} {m : Mem} [sa : SzP a 20] [sb : SzP b 20] (ha : 0 < a.2.2) (hb : 0 < b.2.2) : R__law_square [pD a, pD b] m = .ok (fD (frD (sqN a b) (sqW a b))) m := by
  have w1 : 0 < sqW' a b := by unfold sqW'; exact Int.mul_pos (Int.mul_pos (Int.mul_pos ha ha) hb) hb
  have hg := gI_pos (a := sqN a b) w1
  have s1 : Sz (sqW' a b) (20 + 20 + 20 + 20) := by unfold sqW'; exact inferInstance
  have s2 : Sz (sqN a b) (20 + 20 + (20 + 20) + 1 + (20 + 20 + (20 + 20) + 1) + (20 + 20 + (20 + 20) + 1 + (20 + 20 + (20 + 20) + 1)) + 1) := by unfold sqN; exact inferInstance
  have hs := gI_sz (a := sqN a b) w1 s1
  have h1 : divB (gI (sqN a b) (sqW' a b)) = true := divB_sz hg (by omega)
  have e := R_shared2 (m := m) s2 s1 (by omega) (by omega)
  rw [← sqW_eq]
  unfold R__law_square fnR frD
  unfold sqN sqW' at h1 hg e ⊢
  simp [st6_2, r__law_square, mulB_sz, e, h1, hg]
end K93
namespace K93
open PySem L2 PD
/-! ### reduced fractions -/
theorem frD_isFr {n d : Int} (hd : 0 < d) : isFr (frD n d) := by
  have hg := gI_pos (a := n) hd
  have h1 : gI n d ∣ d := Int.gcd_dvd_right n d
  refine ⟨?_, ?_⟩
  · have : 0 < d / gI n d := Int.ediv_pos_of_pos_of_dvd hd (Int.le_of_lt hg) h1
    exact this
  · show ((Int.gcd (n / gI n d) (d / gI n d) : Nat) : Int) = 1
    unfold gI
    rw [Int.gcd_ediv_gcd_ediv_gcd_of_ne_zero_right (by omega)]
    rfl
theorem frD_mul {n d : Int} : (frD n d).1 * gI n d = n ∧ (frD n d).2 * gI n d = d :=
  ⟨Int.ediv_mul_cancel (Int.gcd_dvd_left n d), Int.ediv_mul_cancel (Int.gcd_dvd_right n d)⟩
theorem fr_uniq {f g : Int × Int} (hf : isFr f) (hg : isFr g) (h : f.1 * g.2 = g.1 * f.2) : f = g := by
  obtain ⟨n, d⟩ := f
  obtain ⟨n', d'⟩ := g
  obtain ⟨h1, h2⟩ := hf
  obtain ⟨h3, h4⟩ := hg
  simp only at h h1 h2 h3 h4
  have c1 : Nat.Coprime n.natAbs d.natAbs := by
    have : ((Int.gcd n d : Nat) : Int) = 1 := h2
    have : Int.gcd n d = 1 := by omega
    exact this
  have c2 : Nat.Coprime n'.natAbs d'.natAbs := by
    have : ((Int.gcd n' d' : Nat) : Int) = 1 := h4
    have : Int.gcd n' d' = 1 := by omega
    exact this
  have e : n.natAbs * d'.natAbs = n'.natAbs * d.natAbs := by rw [← Int.natAbs_mul, ← Int.natAbs_mul, h]
  have d1 : d.natAbs ∣ d'.natAbs := c1.symm.dvd_of_dvd_mul_left (by rw [e]; exact Nat.dvd_mul_left _ _)
  have d2 : d'.natAbs ∣ d.natAbs := c2.symm.dvd_of_dvd_mul_left (by rw [← e]; exact Nat.dvd_mul_left _ _)
  have e2 := Nat.dvd_antisymm d1 d2
  have e3 : d = d' := by omega
  subst e3
  have e4 : n = n' := Int.eq_of_mul_eq_mul_right (by omega) h
  rw [e4]
theorem frD_eq {n d n' d' : Int} (hd : 0 < d) (hd' : 0 < d') (h : n * d' = n' * d) : frD n d = frD n' d' := by
  refine fr_uniq (frD_isFr hd) (frD_isFr hd') ?_
  obtain ⟨a1, a2⟩ := frD_mul (n := n) (d := d)
  obtain ⟨b1, b2⟩ := frD_mul (n := n') (d := d')
  have g1 := gI_pos (a := n) hd
  have g2 := gI_pos (a := n') hd'
  refine Int.eq_of_mul_eq_mul_right (a := gI n d * gI n' d') (Int.ne_of_gt (Int.mul_pos g1 g2)) ?_
  generalize gI n d = G at a1 a2 ⊢
  generalize gI n' d' = G' at b1 b2 ⊢
  generalize frD n d = f at a1 a2 ⊢
  generalize frD n' d' = f' at b1 b2 ⊢
  subst a1 a2 b1 b2
  grind
theorem frD_sz {n d : Int} {k l : Nat} (hd : 0 < d) (sn : Sz n k) (sd : Sz d l) : Sz (frD n d).1 k ∧ Sz (frD n d).2 l := by
  have hg := gI_pos (a := n) hd
  refine ⟨⟨?_⟩, ⟨?_⟩⟩
  · have h1 : ((frD n d).1).natAbs ≤ n.natAbs := by
      rw [← (frD_mul (n := n) (d := d)).1, Int.natAbs_mul]
      have e : ((frD n d).1 * gI n d) = n := (frD_mul (n := n) (d := d)).1
      rw [e]
      exact Nat.le_mul_of_pos_right _ (by omega)
    exact Nat.lt_of_le_of_lt h1 sn.h
  · have h1 : ((frD n d).2).natAbs ≤ d.natAbs := by
      have e : ((frD n d).2 * gI n d) = d := (frD_mul (n := n) (d := d)).2
      conv => rhs; rw [← e, Int.natAbs_mul]
      exact Nat.le_mul_of_pos_right _ (by omega)
    exact Nat.lt_of_le_of_lt h1 sd.h
/-! ### how far a point lies: the two ways -/
def fst1 (a b p : Pt) : Int := cX a b * cX a p + cY a b * cY a p
def lst1 (a b p : Pt) : Int := cX a b * cX b p + cY a b * cY b p
theorem alg_fst (a b p : Pt) : alg a b p = fst1 a b p * b.2.2 := rfl
theorem alg_whl (a b p : Pt) : alg a b p - whl a b p = lst1 a b p * a.2.2 := by
  unfold alg whl lst1 cX cY
  grind
theorem alg_le {a b p : Pt} (hb : 0 < b.2.2) : alg a b p ≤ 0 ↔ fst1 a b p ≤ 0 := by
  rw [alg_fst]
  constructor
  · intro h
    by_cases q : 0 < fst1 a b p
    · have := Int.mul_pos q hb; omega
    · omega
  · intro h
    exact Int.mul_nonpos_of_nonpos_of_nonneg h (Int.le_of_lt hb)
theorem alg_ge {a b p : Pt} (ha : 0 < a.2.2) : alg a b p ≥ whl a b p ↔ lst1 a b p ≥ 0 := by
  have e := alg_whl a b p
  constructor
  · intro h
    by_cases q : lst1 a b p < 0
    · have := Int.mul_neg_of_neg_of_pos q ha; omega
    · omega
  · intro h
    have := Int.mul_nonneg h (Int.le_of_lt ha)
    omega
def lenD' (a b p : Pt) : Int := (cX a b * cX a b + cY a b * cY a b) * a.2.2 * a.2.2 * p.2.2 * p.2.2
theorem lenD_eq (a b p : Pt) : lenD' a b p = lenD a b p := by unfold lenD' lenD; grind
theorem st11_3' (a b c : D) : startD 11 [a, b, c] = [some a, some b, some c, none, none, none, none, none, none, none, none] := rfl
theorem pD_eq (a b : Pt) : eqD (pD a) (pD b) = decide (a = b) := by
  obtain ⟨x, y, w⟩ := a
  obtain ⟨x', y', w'⟩ := b
  simp [Prod.ext_iff]
theorem pD_sh (n : Nat) (a : Pt) : sh (n + 1) (pD a) = true := by simp
theorem opEq_p (a b : Pt) (m : Mem) : opEq (pD a) (pD b) m = .ok (.bl (decide (a = b))) m := by
  rw [opEq_of (x := pD a) (y := pD b) rfl rfl]
  show Res.ok (D.bl (eqD (pD a) (pD b))) m = _
  rw [pD_eq]
theorem R_laway {a b p : Pt} {m : Mem} [sa : SzP a 20] [sb : SzP b 20] [sp : SzP p 20] (ha : 0 < a.2.2) (hb : 0 < b.2.2) (hp : 0 < p.2.2) : R__law_away [pD a, pD b, pD p] m = .ok (fD (offV a b p)) m := by
  have e1 := R_lsq (m := m) (a := a) (b := p) ha hp
  have e2 := R_lsq (m := m) (a := b) (b := p) hb hp
  have hal := alg_le (a := a) (b := b) (p := p) hb
  have hag := alg_ge (a := a) (b := b) (p := p) ha
  have e0 := opEq_p a b m
  unfold R__law_away fnR
  by_cases h0 : a = b
  · subst h0
    have h1 : alg a a p ≤ 0 := by unfold alg cX cY; simp
    simp [st11_3', r__law_away, mulB_sz, e0, e1, offV, h1]
  · by_cases h1 : fst1 a b p ≤ 0
    · have h2 := hal.mpr h1
      have h1' := h1
      unfold fst1 cX cY at h1'
      simp [st11_3', r__law_away, mulB_sz, e0, h0, h1', e1, offV, h2]
    · by_cases h3 : lst1 a b p ≥ 0
      · have h2 := hag.mpr h3
        have h1' := h1
        have h3' := h3
        have h4 : ¬ alg a b p ≤ 0 := fun z => h1 (hal.mp z)
        unfold fst1 cX cY at h1'
        unfold lst1 cX cY at h3'
        simp [st11_3', r__law_away, mulB_sz, e0, h0, h1', h3', e2, offV, h2, h4]
      · have h1' := h1
        have h3' := h3
        have h4 : ¬ alg a b p ≤ 0 := fun z => h1 (hal.mp z)
        have h5 : ¬ alg a b p ≥ whl a b p := fun z => h3 (hag.mp z)
        have h6 := lenD_pos (a := a) (b := b) (p := p) ha hp h4
        have w1 : 0 < lenD' a b p := by rw [lenD_eq]; exact h6
        have hg := gI_pos (a := trn a b p * trn a b p) w1
        have s0 : Sz (trn a b p) (81 + 81 + (81 + 81) + 1) := by unfold trn; exact inferInstance
        have s1 : Sz (lenD' a b p) (81 + 81 + (81 + 81) + 1 + 20 + 20 + 20 + 20) := by unfold lenD'; exact inferInstance
        have s2 : Sz (trn a b p * trn a b p) (81 + 81 + (81 + 81) + 1 + (81 + 81 + (81 + 81) + 1)) := inferInstance
        have hs := gI_sz (a := trn a b p * trn a b p) w1 s1
        have hB : divB (gI (trn a b p * trn a b p) (lenD' a b p)) = true := divB_sz hg (by omega)
        have e := R_shared2 (m := m) s2 s1 (by omega) (by omega)
        have eo : offV a b p = frD (trn a b p * trn a b p) (lenD' a b p) := by
          unfold offV
          rw [if_neg h4, if_neg h5, lenD_eq]
        rw [eo]
        unfold fst1 cX cY at h1'
        unfold lst1 cX cY at h3'
        unfold frD
        unfold trn lenD' cX cY at hB hg e ⊢
        simp [st11_3', r__law_away, mulB_sz, e0, h0, h1', h3', e, hB, hg]
end K93
namespace K93
open PySem L2 PD
theorem offV_fr {a b p : Pt} (ha : 0 < a.2.2) (hb : 0 < b.2.2) (hp : 0 < p.2.2) [sa : SzP a 20] [sb : SzP b 20] [sp : SzP p 20] : isFr (offV a b p) ∧ Sz (offV a b p).1 1000 ∧ Sz (offV a b p).2 1000 := by
  have w : ∀ a b : Pt, 0 < a.2.2 → 0 < b.2.2 → 0 < sqW a b := fun a b ha hb => Int.mul_pos (Int.mul_pos ha hb) (Int.mul_pos ha hb)
  have sq : ∀ (a b : Pt) (sa : SzP a 20) (sb : SzP b 20), Sz (sqN a b) (20 + 20 + (20 + 20) + 1 + (20 + 20 + (20 + 20) + 1) + (20 + 20 + (20 + 20) + 1 + (20 + 20 + (20 + 20) + 1)) + 1) ∧ Sz (sqW a b) (20 + 20 + (20 + 20)) := fun a b sa sb => by
    constructor
    · unfold sqN; exact inferInstance
    · unfold sqW; exact inferInstance
  unfold offV
  split
  · obtain ⟨s1, s2⟩ := sq a p sa sp
    obtain ⟨t1, t2⟩ := frD_sz (w a p ha hp) s1 s2
    exact ⟨frD_isFr (w a p ha hp), t1.le (by omega), t2.le (by omega)⟩
  · rename_i h1
    split
    · obtain ⟨s1, s2⟩ := sq b p sb sp
      obtain ⟨t1, t2⟩ := frD_sz (w b p hb hp) s1 s2
      exact ⟨frD_isFr (w b p hb hp), t1.le (by omega), t2.le (by omega)⟩
    · have h6 := lenD_pos (a := a) (b := b) (p := p) ha hp h1
      have s0 : Sz (trn a b p) (81 + 81 + (81 + 81) + 1) := by unfold trn; exact inferInstance
      have s1 : Sz (lenD a b p) (20 + 20 + 20 + 20 + (81 + 81 + (81 + 81) + 1)) := by unfold lenD; exact inferInstance
      have s2 : Sz (trn a b p * trn a b p) (81 + 81 + (81 + 81) + 1 + (81 + 81 + (81 + 81) + 1)) := inferInstance
      obtain ⟨t1, t2⟩ := frD_sz h6 s2 s1
      exact ⟨frD_isFr h6, t1.le (by omega), t2.le (by omega)⟩
/-- away(b, a, p) is away(a, b, p) -/
theorem cX_neg (a b : Pt) : cX b a = - cX a b := by unfold cX; grind
theorem cY_neg (a b : Pt) : cY b a = - cY a b := by unfold cY; grind
theorem fst_lst (a b p : Pt) : fst1 b a p = - lst1 a b p := by unfold fst1 lst1; rw [cX_neg, cY_neg]; grind
theorem whl_sym (a b p : Pt) : whl b a p = whl a b p := by unfold whl; rw [cX_neg, cY_neg]; grind
theorem offV_sym {a b p : Pt} (ha : 0 < a.2.2) (hb : 0 < b.2.2) (hp : 0 < p.2.2) (hab : cX a b = 0 → cY a b = 0 → a = b) : offV b a p = offV a b p := by
  have e1 : alg b a p = - (lst1 a b p) * a.2.2 := by rw [alg_fst, fst_lst]
  have e2 := alg_whl a b p
  have e3 := whl_sym a b p
  have hal := alg_le (a := a) (b := b) (p := p) hb
  have hbl := alg_le (a := b) (b := a) (p := p) ha
  have hag := alg_ge (a := a) (b := b) (p := p) ha
  have hbg := alg_ge (a := b) (b := a) (p := p) hb
  have f1 := fst_lst a b p
  have f2 := fst_lst b a p
  have w0 : 0 ≤ whl a b p := by unfold whl; exact Int.mul_nonneg (Int.add_nonneg (sqn _) (sqn _)) (Int.le_of_lt hp)
  by_cases h1 : alg a b p ≤ 0
  · by_cases h2 : alg a b p ≥ whl a b p
    · -- the two ends are one
      have hw : whl a b p = 0 := by omega
      have hz : cX a b * cX a b + cY a b * cY a b = 0 := by
        unfold whl at hw
        rcases Int.mul_eq_zero.mp hw with h | h
        · exact h
        · omega
      have q1 := sqn (cX a b)
      have q2 := sqn (cY a b)
      have z1 : cX a b = 0 := by
        have : cX a b * cX a b = 0 := by omega
        rcases Int.mul_eq_zero.mp this with h | h <;> exact h
      have z2 : cY a b = 0 := by
        have : cY a b * cY a b = 0 := by omega
        rcases Int.mul_eq_zero.mp this with h | h <;> exact h
      rw [hab z1 z2]
    · have h3 : ¬ alg b a p ≤ 0 := fun z => h2 (hag.mpr (by have := hbl.mp z; omega))
      have h4 : alg b a p ≥ whl b a p := hbg.mpr (by have := hal.mp h1; omega)
      unfold offV
      rw [if_pos h1, if_neg h3, if_pos h4]
  · by_cases h2 : alg a b p ≥ whl a b p
    · have h3 : alg b a p ≤ 0 := hbl.mpr (by have := hag.mp h2; omega)
      unfold offV
      rw [if_neg h1, if_pos h2, if_pos h3]
    · have h3 : ¬ alg b a p ≤ 0 := fun z => h2 (hag.mpr (by have := hbl.mp z; omega))
      have h4 : ¬ alg b a p ≥ whl b a p := fun z => h1 (hal.mpr (by have := hbg.mp z; omega))
      have g1 := lenD_pos (a := a) (b := b) (p := p) ha hp h1
      have g2 := lenD_pos (a := b) (b := a) (p := p) hb hp h3
      have e : offV a b p = frD (trn a b p * trn a b p) (lenD a b p) := by unfold offV; rw [if_neg h1, if_neg h2]
      have e' : offV b a p = frD (trn b a p * trn b a p) (lenD b a p) := by unfold offV; rw [if_neg h3, if_neg h4]
      rw [e, e']
      refine frD_eq g2 g1 ?_
      have et : a.2.2 * trn b a p = - (b.2.2 * trn a b p) := by
        unfold trn cX cY
        grind
      have el : lenD b a p * (a.2.2 * a.2.2) = lenD a b p * (b.2.2 * b.2.2) := by
        unfold lenD
        rw [cX_neg, cY_neg]
        grind
      have ep : a.2.2 * a.2.2 ≠ 0 := Int.ne_of_gt (Int.mul_pos ha ha)
      refine Int.eq_of_mul_eq_mul_right ep ?_
      generalize trn b a p = t' at et ⊢
      generalize trn a b p = t at et ⊢
      generalize lenD b a p = L' at el ⊢
      generalize lenD a b p = L at el ⊢
      generalize a.2.2 = A at et el ⊢
      generalize b.2.2 = B at et el ⊢
      have : t' * t' * L * (A * A) = (A * t') * (A * t') * L := by grind
      rw [this, et]
      have : t * t * L' * (A * A) = t * t * (L' * (A * A)) := by grind
      rw [this, el]
      grind
/-- points that are one are one triple -/
theorem pt_uniq {a b : Pt} (ha : isPt a) (hb : isPt b) (hx : cX a b = 0) (hy : cY a b = 0) : a = b := by
  obtain ⟨x, y, w⟩ := a
  obtain ⟨x', y', w'⟩ := b
  obtain ⟨h1, h2⟩ := ha
  obtain ⟨h3, h4⟩ := hb
  unfold cX at hx
  unfold cY at hy
  simp only at h1 h2 h3 h4 hx hy
  have c1 : Nat.gcd (Nat.gcd x.natAbs y.natAbs) w.natAbs = 1 := by
    have : ((Nat.gcd (Nat.gcd x.natAbs y.natAbs) w.natAbs : Nat) : Int) = 1 := h2
    omega
  have c2 : Nat.gcd (Nat.gcd x'.natAbs y'.natAbs) w'.natAbs = 1 := by
    have : ((Nat.gcd (Nat.gcd x'.natAbs y'.natAbs) w'.natAbs : Nat) : Int) = 1 := h4
    omega
  have ex : x'.natAbs * w.natAbs = x.natAbs * w'.natAbs := by rw [← Int.natAbs_mul, ← Int.natAbs_mul, show x' * w = x * w' by omega]
  have ey : y'.natAbs * w.natAbs = y.natAbs * w'.natAbs := by rw [← Int.natAbs_mul, ← Int.natAbs_mul, show y' * w = y * w' by omega]
  have d1 : w.natAbs ∣ w'.natAbs := by
    have k1 : w.natAbs ∣ Nat.gcd (Nat.gcd (x.natAbs * w'.natAbs) (y.natAbs * w'.natAbs)) (w.natAbs * w'.natAbs) :=
      Nat.dvd_gcd (Nat.dvd_gcd (by rw [← ex]; exact Nat.dvd_mul_left _ _) (by rw [← ey]; exact Nat.dvd_mul_left _ _)) (Nat.dvd_mul_right _ _)
    rw [Nat.gcd_mul_right, Nat.gcd_mul_right, c1, Nat.one_mul] at k1
    exact k1
  have d2 : w'.natAbs ∣ w.natAbs := by
    have k1 : w'.natAbs ∣ Nat.gcd (Nat.gcd (x'.natAbs * w.natAbs) (y'.natAbs * w.natAbs)) (w'.natAbs * w.natAbs) :=
      Nat.dvd_gcd (Nat.dvd_gcd (by rw [ex]; exact Nat.dvd_mul_left _ _) (by rw [ey]; exact Nat.dvd_mul_left _ _)) (Nat.dvd_mul_right _ _)
    rw [Nat.gcd_mul_right, Nat.gcd_mul_right, c2, Nat.one_mul] at k1
    exact k1
  have ew : w = w' := by have := Nat.dvd_antisymm d1 d2; omega
  subst ew
  have e1 : x = x' := Int.eq_of_mul_eq_mul_right (a := w) (by omega) (by omega)
  have e2 : y = y' := Int.eq_of_mul_eq_mul_right (a := w) (by omega) (by omega)
  rw [e1, e2]
end K93
namespace K93
open PySem L2 PD
abbrev rowD (ps : List Pt) : D := .tup (ps.map pD)
structure RowOk (ps : List Pt) (far : Int × Int) : Prop where
  n2 : 2 ≤ ps.length
  n24 : ps.length ≤ 24
  pt : ∀ p ∈ ps, isPt p
  sz : ∀ p ∈ ps, SzP p 20
  fr : isFr far
  f0 : 0 ≤ far.1
  s1 : Sz far.1 1000
  s2 : Sz far.2 1000
  adj : ∀ (k : Nat) (p q : Pt), ps[k]? = some p → ps[k + 1]? = some q → p ≠ q
def farB (far : Int × Int) (a b p : Pt) : Bool := decide (far.1 * (offV a b p).2 < (offV a b p).1 * far.2)
def atP (ps : List Pt) (i : Nat) : Pt := ps.getD i (0, 0, 1)
def mid (ps : List Pt) (i j : Nat) : List Pt := (ps.drop (i + 1)).take (j - (i + 1))
def nearB (ps : List Pt) (far : Int × Int) (i j : Nat) : Bool := (mid ps i j).all fun p => !farB far (atP ps i) (atP ps j) p
theorem atP_get {ps : List Pt} {i : Nat} (h : i < ps.length) : ps[i]? = some (atP ps i) := by
  unfold atP
  rw [List.getD_eq_getElem?_getD, List.getElem?_eq_getElem h]; rfl
theorem atP_mem {ps : List Pt} {i : Nat} (h : i < ps.length) : atP ps i ∈ ps := List.mem_of_getElem? (atP_get h)
theorem mid_mem {ps : List Pt} {i j : Nat} {p : Pt} (h : p ∈ mid ps i j) : p ∈ ps := List.mem_of_mem_drop (List.mem_of_mem_take h)
theorem row_get {ps : List Pt} {i : Nat} (h : i < ps.length) : (ps.map pD)[i]? = some (pD (atP ps i)) := by
  rw [List.getElem?_map, atP_get h]; rfl
theorem isPt_pos {p : Pt} (h : isPt p) : 0 < p.2.2 := Int.lt_of_lt_of_le (by decide) h.1
theorem off_at {ps : List Pt} {far : Int × Int} (R : RowOk ps far) {a b p : Pt} (ha : a ∈ ps) (hb : b ∈ ps) (hp : p ∈ ps) (m : Mem) :
    R_off [pD a, pD b, pD p] m = .ok (fD (offV a b p)) m ∧ R__law_away [pD a, pD b, pD p] m = .ok (fD (offV a b p)) m ∧ isFr (offV a b p) ∧ Sz (offV a b p).1 1000 ∧ Sz (offV a b p).2 1000 ∧ R_less [fD far, fD (offV a b p)] m = .ok (.bl (farB far a b p)) m := by
  have sa := R.sz a ha
  have sb := R.sz b hb
  have sp := R.sz p hp
  have pa := isPt_pos (R.pt a ha)
  have pb := isPt_pos (R.pt b hb)
  have pp := isPt_pos (R.pt p hp)
  obtain ⟨f1, f2, f3⟩ := offV_fr pa pb pp
  exact ⟨R_off_eq pa pb pp, R_laway pa pb pp, f1, f2, f3, R_less_eq R.s1 R.s2 (by omega) R.fr f2 f3 (by omega) f1⟩
theorem st5_4 (a b c d : D) : startD 5 [a, b, c, d] = [some a, some b, some c, some d, none] := rfl
theorem cut_mid {ps : List Pt} {i j : Nat} : cutD (ps.map pD) (some ((i : Int) + 1)) (some (j : Int)) = (mid ps i j).map pD := by
  have e : ((i : Int) + 1) = ((i + 1 : Nat) : Int) := by omega
  rw [e, cut_range]
  unfold mid
  rw [List.map_take, List.map_drop]
theorem R_near {ps : List Pt} {far : Int × Int} (R : RowOk ps far) {i j : Nat} (hi : i < ps.length) (hj : j < ps.length) (m : Mem) : R_is_near [rowD ps, fD far, .int i, .int j] m = .ok (.bl (nearB ps far i j)) m := by
  have hsl : opSl false (rowD ps) (some ((i : Int) + 1)) (some (j : Int)) m = .ok (.tup ((mid ps i j).map pD)) m := by
    rw [opSl_tup (by rw [List.length_map]; have := R.n24; omega), cut_mid]
  have i1 : opIx (rowD ps) (.int i) m = .ok (pD (atP ps i)) m := ix_tup_nat (row_get hi)
  have i2 : opIx (rowD ps) (.int j) m = .ok (pD (atP ps j)) m := ix_tup_nat (row_get hj)
  have hl : (mid ps i j).length ≤ 16777216 := by
    unfold mid
    rw [List.length_take, List.length_drop]
    have := R.n24; omega
  have hlc : lcL (gN 4) tYesD (eCall R_less (aCons (eVar 1) (aCons (eCall R_off (aCons (eIx (eVar 0) (eVar 2)) (aCons (eIx (eVar 0) (eVar 3)) (aCons (eVar 4) (aNil))))) (aNil)))) [some (rowD ps), some (fD far), some (.int i), some (.int j), none] ((mid ps i j).map pD) m
      = .ok ((mid ps i j).map fun p => .bl (farB far (atP ps i) (atP ps j) p)) m := by
    refine lcL_map fun p hp => ⟨[some (rowD ps), some (fD far), some (.int i), some (.int j), some (pD p)], rfl, ?_⟩
    obtain ⟨o1, _, _, _, _, o6⟩ := off_at R (atP_mem hi) (atP_mem hj) (mid_mem hp) m
    simp [i1, i2, o1, o6]
  unfold R_is_near fnR
  simp [st5_4, r_is_near, wipeD, hsl, hlc, newL_f, hl, bAny_map, nearB, List.not_any_eq_all_not]
/-- the law's own near -/
theorem R_lnear {ps : List Pt} {far : Int × Int} (R : RowOk ps far) {i j : Nat} (hi : i < ps.length) (hj : j < ps.length) (m : Mem) : R__law_is_near [rowD ps, fD far, .int i, .int j] m = .ok (.bl (nearB ps far i j)) m := by
  have hsl : opSl false (rowD ps) (some ((i : Int) + 1)) (some (j : Int)) m = .ok (.tup ((mid ps i j).map pD)) m := by
    rw [opSl_tup (by rw [List.length_map]; have := R.n24; omega), cut_mid]
  have i1 : opIx (rowD ps) (.int i) m = .ok (pD (atP ps i)) m := ix_tup_nat (row_get hi)
  have i2 : opIx (rowD ps) (.int j) m = .ok (pD (atP ps j)) m := ix_tup_nat (row_get hj)
  have key : ∀ (xs : List Pt) (a b : Option D), (∀ p ∈ xs, p ∈ ps) → ∃ s', forL (gN 4) (sSeq (sSet 5 (eCall R__law_away (aCons (eIx (eVar 0) (eVar 2)) (aCons (eIx (eVar 0) (eVar 3)) (aCons (eVar 4) (aNil)))))) (sIf (tCmp (opOrd .Gt) (eOp (opMulX false) (eIx (eVar 5) (eC (.int 0))) (eIx (eVar 1) (eC (.int 1)))) (eOp (opMulX false) (eIx (eVar 1) (eC (.int 0))) (eIx (eVar 5) (eC (.int 1))))) (sRet (eC (.bl false))) (sNil)))
      (xs.map pD) [some (rowD ps), some (fD far), some (.int i), some (.int j), a, b] m = if xs.all fun p => !farB far (atP ps i) (atP ps j) p then .nx s' m else .rt (.bl false) m := by
    intro xs
    induction xs with
    | nil => exact fun a b _ => ⟨_, rfl⟩
    | cons p xs ih =>
      intro a b h
      obtain ⟨_, o2, o3, o4, o5, _⟩ := off_at R (atP_mem hi) (atP_mem hj) (h p List.mem_cons_self) m
      have t1 := R.s1
      have t2 := R.s2
      have m1 : mulB (offV (atP ps i) (atP ps j) p).1 far.2 = true := mulB_sz (by omega)
      have m2 : mulB far.1 (offV (atP ps i) (atP ps j) p).2 = true := mulB_sz (by omega)
      obtain ⟨s', e'⟩ := ih (some (pD p)) (some (fD (offV (atP ps i) (atP ps j) p))) fun q hq => h q (List.mem_cons_of_mem _ hq)
      refine ⟨s', ?_⟩
      rw [List.map_cons, forL_step (σ1 := [some (rowD ps), some (fD far), some (.int i), some (.int j), some (pD p), b]) (m1 := m) rfl, List.all_cons]
      by_cases hf : farB far (atP ps i) (atP ps j) p = true
      · have hf' := of_decide_eq_true hf
        simp [i1, i2, o2, m1, m2, hf, hf']
      · have hf0 : farB far (atP ps i) (atP ps j) p = false := by simpa using hf
        have hf' := of_decide_eq_false hf0
        simp [i1, i2, o2, m1, m2, hf0, hf', e']
        rw [hf0, Bool.not_false, Bool.true_and]
  obtain ⟨s', e⟩ := key (mid ps i j) none none fun p hp => mid_mem hp
  unfold R__law_is_near fnR
  have es : startD 6 [rowD ps, fD far, .int i, .int j] = [some (rowD ps), some (fD far), some (.int i), some (.int j), none, none] := rfl
  rw [es]
  unfold r__law_is_near
  simp [hsl, e]
  unfold nearB
  by_cases hh : (mid ps i j).all (fun p => !farB far (atP ps i) (atP ps j) p) = true
  · simp only [hh, if_true]; simp
  · simp only [hh, if_false]; simp
end K93
namespace K93
open PySem L2 PD
def eqAdj (ps : List Pt) : List Nat := (List.range (ps.length - 1)).filter fun i => decide (atP ps i = atP ps (i + 1))
theorem adj_lc {ps : List Pt} {far : D} {a : Option D} {m : Mem} : lcL (gN 3) (tCmp opEq (eIx (eVar 0) (eOp opSub (eVar 3) (eC (.int 1)))) (eIx (eVar 0) (eVar 3))) (eVar 3) [some (rowD ps), some far, a, none] (rngL 1 (ps.length - 1)) m
    = .ok ((eqAdj ps).map fun (i : Nat) => D.int (1 + i)) m := by
  unfold rngL eqAdj
  refine lcL_filter fun i hi => ⟨[some (rowD ps), some far, a, some (.int (1 + i))], rfl, ?_, fun _ => rfl⟩
  rw [List.mem_range] at hi
  have e1 : (1 + (i : Int)) - 1 = (i : Int) := by omega
  have e2 : (1 + (i : Int)) = ((i + 1 : Nat) : Int) := by omega
  have i1 : opIx (rowD ps) (.int (i : Int)) m = .ok (pD (atP ps i)) m := ix_tup_nat (row_get (by omega))
  have i2 : opIx (rowD ps) (.int ((i + 1 : Nat) : Int)) m = .ok (pD (atP ps (i + 1))) m := ix_tup_nat (row_get (by omega))
  rw [← e2] at i2
  simp [e1, i1, i2, opEq_p]
theorem R_chkrow {ps : List Pt} {far : Int × Int} (h30 : ps.length ≤ 1000) (hp : ∀ p ∈ ps, isPt p) (hs : ∀ p ∈ ps, SzP p 20) (sf : Sz far.2 1000) (m : Mem) :
    R_check_row [rowD ps, fD far] m = if 2 ≤ ps.length ∧ ps.length ≤ 24 ∧ isFr far ∧ 0 ≤ far.1 ∧ eqAdj ps = [] then .ok .non m else .exc "BadShape" m := by
  have hlc : lcL (gN 2) tYesD (eCall R_is_point (aCons (eVar 2) (aNil))) [some (rowD ps), some (fD far), none, none] (ps.map pD) m = .ok (ps.map fun p => .bl (decide (isPt p))) m :=
    lcL_map fun p h => ⟨[some (rowD ps), some (fD far), some (pD p), none], rfl, by
      have := hs p h
      simp [R_ispt (p := p) (k := 20) (m := m) (by omega)]⟩
  have hall : (ps.all fun p => decide (isPt p)) = true := List.all_eq_true.mpr fun p h => decide_eq_true (hp p h)
  have hnl := newL_f (m := m) (xs := ps.map fun p => D.bl (decide (isPt p))) (by rw [List.length_map]; omega)
  have hfr := R_isfr (f := far) (m := m) (k := 1000) (by omega)
  have hrng : range2 [.int 1, .int ps.length] m = .ok (.its (rngL 1 (ps.length - 1))) m := by
    have hb : (bnd 1 && bnd (ps.length : Int)) = true := by
      rw [Bool.and_eq_true, bnd_iff, bnd_iff]; omega
    show (if (bnd 1 && bnd (ps.length : Int)) = true then _ else _) = _
    rw [if_pos hb]
    have : ((ps.length : Int) - 1).toNat = ps.length - 1 := by omega
    rw [this]
  have hnl2 := newL_f (m := m) (xs := (eqAdj ps).map fun (i : Nat) => D.int (1 + i)) (by
    rw [List.length_map]
    unfold eqAdj
    have := List.length_filter_le (fun i => decide (atP ps i = atP ps (i + 1))) (List.range (ps.length - 1))
    rw [List.length_range] at this
    omega)
  have hne : opNe (.lst ((eqAdj ps).map fun (i : Nat) => D.int (1 + i))) (.lst []) m = .ok (.bl (!(eqAdj ps).isEmpty)) m := by
    rw [opNe_of (by rw [deref_lst, sh60_lst]; exact shs_map fun _ _ => by simp) rfl]
    simp
  unfold R_check_row fnR
  have es : startD 4 [rowD ps, fD far] = [some (rowD ps), some (fD far), none, none] := rfl
  rw [es]
  by_cases h2 : 2 ≤ ps.length
  · by_cases h24 : ps.length ≤ 24
    · have h2' : (2 : Int) ≤ (ps.length : Int) := by omega
      have h24' : (ps.length : Int) ≤ 24 := by omega
      by_cases hf : isFr far
      · by_cases h0 : far.1 < 0
        · simp [r_check_row, h2', h24', wipeD, hlc, hnl, bAll_map, hall, hfr, hf, h0, h2, h24, show ¬ 0 ≤ far.1 by omega]
        · by_cases he : eqAdj ps = []
          · simp [r_check_row, h2', h24', wipeD, hlc, hnl, bAll_map, hall, hfr, hf, h0, h2, h24, show 0 ≤ far.1 by omega, hrng, adj_lc, hnl2, hne, he, newL_f]
            simp [he, newL_f, opNe_of]
          · have : (eqAdj ps).isEmpty = false := by simpa using he
            simp [r_check_row, h2', h24', wipeD, hlc, hnl, bAll_map, hall, hfr, hf, h0, h2, h24, show 0 ≤ far.1 by omega, hrng, adj_lc, hnl2, hne, he, newL_f, this]
      · simp [r_check_row, h2', h24', wipeD, hlc, hnl, bAll_map, hall, hfr, hf, h2, h24]
    · have h2' : (2 : Int) ≤ (ps.length : Int) := by omega
      have h24' : ¬ (ps.length : Int) ≤ 24 := by omega
      simp [r_check_row, h2', h24', h2, h24]
  · have h2' : ¬ (2 : Int) ≤ (ps.length : Int) := by omega
    simp [r_check_row, h2', h2]
theorem adj_nil {ps : List Pt} {far : Int × Int} (R : RowOk ps far) : eqAdj ps = [] := by
  unfold eqAdj
  rw [List.filter_eq_nil_iff]
  intro i hi
  rw [List.mem_range] at hi
  have := R.adj i _ _ (atP_get (by omega)) (atP_get (by omega))
  simpa using this
theorem R_chkrow_ok {ps : List Pt} {far : Int × Int} (R : RowOk ps far) (m : Mem) : R_check_row [rowD ps, fD far] m = .ok .non m := by
  rw [R_chkrow (by have := R.n24; omega) R.pt R.sz R.s2, if_pos ⟨R.n2, R.n24, R.fr, R.f0, adj_nil R⟩]
end K93
namespace K93
open PySem L2 PD
/-! ### the shortest ways, from the end -/
def sD (s : Nat) : D := .int s
def xD (x : Option Nat) : D := match x with | none => .non | some j => .int j
def Mt (m : Mem) (S : List Nat) (X : List (Option Nat)) : Mem := m ++ [MO.lst (S.map sD), MO.lst (X.map xD)]
section
variable {m : Mem} {S : List Nat} {X : List (Option Nat)}
theorem Mt_a : (Mt m S X)[m.length]? = some (.lst (S.map sD)) := by unfold Mt; simp
theorem Mt_b : (Mt m S X)[m.length + 1]? = some (.lst (X.map xD)) := by unfold Mt; simp
theorem Mt_setA {i s : Nat} : (Mt m S X).set m.length (.lst ((S.map sD).set i (.int s))) = Mt m (S.set i s) X := by
  unfold Mt
  rw [List.set_append_right _ _ (Nat.le_refl _), Nat.sub_self, List.map_set]
  rfl
theorem Mt_setB {i j : Nat} : (Mt m S X).set (m.length + 1) (.lst ((X.map xD).set i (.int j))) = Mt m S (X.set i (some j)) := by
  unfold Mt
  rw [List.set_append_right _ _ (by omega), show m.length + 1 - m.length = 1 by omega, List.map_set]
  rfl
/-- one try -/
def upd1 (near : Nat → Nat → Bool) (S : List Nat) (i : Nat) (e : Nat × Option Nat) (j : Nat) : Nat × Option Nat :=
  if (e.2 = none ∨ S.getD j 0 + 1 < e.1) ∧ near i j = true then (S.getD j 0 + 1, some j) else e
def inB : SF := sIf (tAndD (tOrD (tCmp (opIs false) (eIx (eVar 4) (eVar 5)) (eC .non)) (tCmp (opOrd .Lt) (eOp (opAddX false) (eIx (eVar 3) (eVar 6)) (eC (.int 1))) (eIx (eVar 3) (eVar 5)))) (tE (eCall R_is_near (aCons (eVar 0) (aCons (eVar 1) (aCons (eVar 5) (aCons (eVar 6) (aNil)))))))) (sAsg (gT 2 (gsCons (gIx (eVar 3) (eVar 5)) (gsCons (gIx (eVar 4) (eVar 5)) (gsNil)))) (eTup (aCons (eOp (opAddX false) (eIx (eVar 3) (eVar 6)) (eC (.int 1))) (aCons (eVar 6) (aNil))))) (sNil)
theorem in_step {ps : List Pt} {far : Int × Int} (R : RowOk ps far) (hS : S.length = ps.length) (hX : X.length = ps.length) {i j : Nat} (hij : i < j) (hj : j < ps.length) (e : Nat × Option Nat) (o : Option D) :
    inB [some (rowD ps), some (fD far), some (.int ps.length), some (.ref m.length), some (.ref (m.length + 1)), some (.int i), some (.int j), o] (Mt m (S.set i e.1) (X.set i e.2))
      = .nx [some (rowD ps), some (fD far), some (.int ps.length), some (.ref m.length), some (.ref (m.length + 1)), some (.int i), some (.int j), o] (Mt m (S.set i (upd1 (nearB ps far) S i e j).1) (X.set i (upd1 (nearB ps far) S i e j).2)) := by
  have hi : i < ps.length := by omega
  have g1 : opIx (.ref (m.length + 1)) (.int i) (Mt m (S.set i e.1) (X.set i e.2)) = .ok (xD e.2) (Mt m (S.set i e.1) (X.set i e.2)) := by
    refine ix_ref_nat Mt_b ?_
    rw [List.getElem?_map, List.getElem?_set_self (by omega)]; rfl
  have g2 : opIx (.ref m.length) (.int i) (Mt m (S.set i e.1) (X.set i e.2)) = .ok (.int e.1) (Mt m (S.set i e.1) (X.set i e.2)) := by
    refine ix_ref_nat Mt_a ?_
    rw [List.getElem?_map, List.getElem?_set_self (by omega)]; rfl
  have g3 : opIx (.ref m.length) (.int j) (Mt m (S.set i e.1) (X.set i e.2)) = .ok (.int (S.getD j 0 : Nat)) (Mt m (S.set i e.1) (X.set i e.2)) := by
    refine ix_ref_nat Mt_a ?_
    rw [List.getElem?_map, List.getElem?_set_ne (by omega), List.getD_eq_getElem?_getD, List.getElem?_eq_getElem (by omega)]; rfl
  have g4 := R_near R hi hj (Mt m (S.set i e.1) (X.set i e.2))
  have nonx : isNon (xD e.2) = decide (e.2 = none) := by cases e.2 <;> rfl
  have w1 : ∀ (v : Nat) (σ : Sg) (S' : List Nat) (X' : List (Option Nat)), S'.length = ps.length → setIx (.ref m.length) (.int i) (.int v) σ (Mt m S' X') = .nx σ (Mt m (S'.set i v) X') := fun v σ S' X' hl => by
    rw [setIx_ok Mt_a (by rw [List.length_map]; omega), Mt_setA]
  have w2 : ∀ (v : Nat) (σ : Sg) (S' : List Nat) (X' : List (Option Nat)), X'.length = ps.length → setIx (.ref (m.length + 1)) (.int i) (.int v) σ (Mt m S' X') = .nx σ (Mt m S' (X'.set i (some v))) := fun v σ S' X' hl => by
    rw [setIx_ok Mt_b (by rw [List.length_map]; omega), Mt_setB]
  have ec : ((S.getD j 0 : Nat) : Int) + 1 = ((S.getD j 0 + 1 : Nat) : Int) := by omega
  have a1 := w1 (S.getD j 0 + 1) [some (rowD ps), some (fD far), some (.int ps.length), some (.ref m.length), some (.ref (m.length + 1)), some (.int i), some (.int j), o] (S.set i e.1) (X.set i e.2) (by rw [List.length_set]; exact hS)
  have a2 := w2 j [some (rowD ps), some (fD far), some (.int ps.length), some (.ref m.length), some (.ref (m.length + 1)), some (.int i), some (.int j), o] ((S.set i e.1).set i (S.getD j 0 + 1)) (X.set i e.2) (by rw [List.length_set]; exact hX)
  rw [List.set_set] at a1 a2
  rw [List.set_set] at a2
  rw [← ec] at a1
  unfold upd1
  generalize S.getD j 0 = t at g3 ec a1 a2 ⊢
  clear ec w1 w2
  generalize hM : Mt m (S.set i e.1) (X.set i e.2) = M at g1 g2 g3 g4 a1 ⊢
  by_cases h1 : e.2 = none
  · have n1 : isNon (xD e.2) = true := by rw [nonx]; exact decide_eq_true h1
    by_cases h2 : nearB ps far i j = true
    · rw [if_pos ⟨.inl h1, h2⟩]
      simp [inB, g1, g3, g4, n1, h2, a1, a2]
    · have h2' : nearB ps far i j = false := by simpa using h2
      rw [if_neg (by rw [h2']; simp), hM]
      simp [inB, g1, g4, n1, h2']
  · have n1 : isNon (xD e.2) = false := by rw [nonx]; exact decide_eq_false h1
    by_cases h3 : t + 1 < e.1
    · have h3' : (t : Int) + 1 < (e.1 : Int) := by omega
      by_cases h2 : nearB ps far i j = true
      · rw [if_pos ⟨.inr h3, h2⟩]
        simp [inB, g1, g2, g3, g4, n1, h2, h3', a1, a2]
      · have h2' : nearB ps far i j = false := by simpa using h2
        rw [if_neg (by rw [h2']; simp), hM]
        simp [inB, g1, g2, g3, g4, n1, h2', h3']
    · have h3' : ¬ (t : Int) + 1 < (e.1 : Int) := by omega
      rw [if_neg (by simp [h1, h3]), hM]
      simp [inB, g1, g2, g3, n1, h3']
theorem in_loop {ps : List Pt} {far : Int × Int} (R : RowOk ps far) (hS : S.length = ps.length) (hX : X.length = ps.length) {i : Nat} (o : Option D) : ∀ (js : List Nat) (e : Nat × Option Nat) (v : Option D), (∀ j ∈ js, i < j ∧ j < ps.length) →
    ∃ v', forL (gN 6) inB (js.map fun (j : Nat) => D.int j) [some (rowD ps), some (fD far), some (.int ps.length), some (.ref m.length), some (.ref (m.length + 1)), some (.int i), v, o] (Mt m (S.set i e.1) (X.set i e.2))
      = .nx [some (rowD ps), some (fD far), some (.int ps.length), some (.ref m.length), some (.ref (m.length + 1)), some (.int i), v', o] (Mt m (S.set i (js.foldl (upd1 (nearB ps far) S i) e).1) (X.set i (js.foldl (upd1 (nearB ps far) S i) e).2))
  | [], e, v, _ => ⟨v, rfl⟩
  | j :: js, e, v, h => by
    obtain ⟨h1, h2⟩ := h j List.mem_cons_self
    obtain ⟨v', ih⟩ := in_loop R hS hX o js (upd1 (nearB ps far) S i e j) (some (.int j)) fun k hk => h k (List.mem_cons_of_mem _ hk)
    refine ⟨v', ?_⟩
    rw [List.map_cons, forL_step (σ1 := [some (rowD ps), some (fD far), some (.int ps.length), some (.ref m.length), some (.ref (m.length + 1)), some (.int i), some (.int j), o]) (m1 := Mt m (S.set i e.1) (X.set i e.2)) rfl, in_step R hS hX h1 h2, turnK_nx, ih]
    rfl
end
end K93
namespace K93
open PySem L2 PD
/-! ### what the tables say -/
section
variable (near : Nat → Nat → Bool)
def Best (S : List Nat) (i : Nat) (js : List Nat) (e : Nat × Option Nat) : Prop :=
  (e.2 = none ∧ ∀ j ∈ js, near i j = false) ∨
  ∃ k, e.2 = some k ∧ k ∈ js ∧ near i k = true ∧ e.1 = S.getD k 0 + 1 ∧ ∀ j ∈ js, near i j = true → e.1 ≤ S.getD j 0 + 1 ∧ (e.1 = S.getD j 0 + 1 → k ≤ j)
theorem best_fold (S : List Nat) (i : Nat) : ∀ (js pre : List Nat) (e : Nat × Option Nat), Best near S i pre e → (∀ a ∈ pre, ∀ b ∈ js, a < b) → js.Pairwise (· < ·) → Best near S i (pre ++ js) (js.foldl (upd1 near S i) e)
  | [], pre, e, h, _, _ => by simpa using h
  | j :: js, pre, e, h, h1, h2 => by
    have hb : Best near S i (pre ++ [j]) (upd1 near S i e j) := by
      unfold upd1
      by_cases hc : (e.2 = none ∨ S.getD j 0 + 1 < e.1) ∧ near i j = true
      · rw [if_pos hc]
        refine .inr ⟨j, rfl, by simp, hc.2, rfl, fun k hk hn => ?_⟩
        rcases List.mem_append.mp hk with hk | hk
        · rcases h with ⟨_, h⟩ | ⟨q, q1, q2, q3, q4, q5⟩
          · rw [h k hk] at hn; cases hn
          · rcases hc.1 with z | z
            · rw [q1] at z; cases z
            · have := q5 k hk hn
              simp only
              omega
        · rw [List.mem_singleton] at hk
          subst hk
          exact ⟨Nat.le_refl _, fun _ => Nat.le_refl _⟩
      · rw [if_neg hc]
        rcases h with ⟨e0, h⟩ | ⟨q, q1, q2, q3, q4, q5⟩
        · refine .inl ⟨e0, fun k hk => ?_⟩
          rcases List.mem_append.mp hk with hk | hk
          · exact h k hk
          · rw [List.mem_singleton] at hk
            subst hk
            cases hn : near i k with
            | false => rfl
            | true => exact (hc ⟨.inl e0, hn⟩).elim
        · refine .inr ⟨q, q1, List.mem_append_left _ q2, q3, q4, fun k hk hn => ?_⟩
          rcases List.mem_append.mp hk with hk | hk
          · exact q5 k hk hn
          · rw [List.mem_singleton] at hk
            subst hk
            have : ¬ S.getD k 0 + 1 < e.1 := fun z => hc ⟨.inr z, hn⟩
            refine ⟨by omega, fun _ => ?_⟩
            exact Nat.le_of_lt (h1 q q2 k List.mem_cons_self)
    have := best_fold S i js (pre ++ [j]) (upd1 near S i e j) hb (fun a ha b hb' => by
      rcases List.mem_append.mp ha with ha | ha
      · exact h1 a ha b (List.mem_cons_of_mem _ hb')
      · rw [List.mem_singleton] at ha
        subst ha
        exact (List.pairwise_cons.mp h2).1 b hb') (List.pairwise_cons.mp h2).2
    rw [List.append_assoc] at this
    exact this
/-- one turn of the outer loop -/
def jsOf (n i : Nat) : List Nat := (List.range (n - (i + 1))).map fun t => i + 1 + t
theorem jsOf_mem {n i j : Nat} (h : j ∈ jsOf n i) : i < j ∧ j < n := by
  unfold jsOf at h
  obtain ⟨t, ht, rfl⟩ := List.mem_map.mp h
  rw [List.mem_range] at ht
  omega
theorem jsOf_all {n i j : Nat} (h : i < j) (h2 : j < n) : j ∈ jsOf n i := by
  unfold jsOf
  exact List.mem_map.mpr ⟨j - (i + 1), by rw [List.mem_range]; omega, by omega⟩
theorem jsOf_pw (n i : Nat) : (jsOf n i).Pairwise (· < ·) := by
  unfold jsOf
  rw [List.pairwise_map]
  exact List.pairwise_lt_range.imp fun h => by omega
def turn1 (n : Nat) (T : List Nat × List (Option Nat)) (i : Nat) : List Nat × List (Option Nat) :=
  let e := (jsOf n i).foldl (upd1 near T.1 i) (0, none)
  (T.1.set i e.1, T.2.set i e.2)
structure TabI (n t : Nat) (T : List Nat × List (Option Nat)) : Prop where
  l1 : T.1.length = n
  l2 : T.2.length = n
  zero : ∀ i, i + t < n - 1 → T.1.getD i 0 = 0 ∧ T.2.getD i none = none
  last : T.1.getD (n - 1) 0 = 0
  best : ∀ i, n - 1 ≤ i + t → i < n - 1 → ∃ k, T.2.getD i none = some k ∧ i < k ∧ k < n ∧ near i k = true ∧ T.1.getD i 0 = T.1.getD k 0 + 1 ∧ ∀ j, i < j → j < n → near i j = true → T.1.getD i 0 ≤ T.1.getD j 0 + 1 ∧ (T.1.getD i 0 = T.1.getD j 0 + 1 → k ≤ j)
theorem getD_set_ne {α : Type} {l : List α} {i j : Nat} {x d : α} (h : i ≠ j) : (l.set i x).getD j d = l.getD j d := by
  rw [List.getD_eq_getElem?_getD, List.getD_eq_getElem?_getD, List.getElem?_set_ne h]
theorem getD_set_self {α : Type} {l : List α} {i : Nat} {x d : α} (h : i < l.length) : (l.set i x).getD i d = x := by
  rw [List.getD_eq_getElem?_getD, List.getElem?_set_self h]; rfl
theorem tab_start (n : Nat) : TabI near n 0 (List.replicate n 0, List.replicate n none) where
  l1 := by simp
  l2 := by simp
  zero := fun i h => by
    constructor
    · rw [List.getD_eq_getElem?_getD, List.getElem?_replicate]; split <;> rfl
    · rw [List.getD_eq_getElem?_getD, List.getElem?_replicate]; split <;> rfl
  last := by rw [List.getD_eq_getElem?_getD, List.getElem?_replicate]; split <;> rfl
  best := fun i h1 h2 => by omega
theorem tab_step {n t : Nat} {T : List Nat × List (Option Nat)} (h : TabI near n t T) (ht : t < n - 1) (hn1 : ∀ i, i + 1 < n → near i (i + 1) = true) : TabI near n (t + 1) (turn1 near n T (n - 2 - t)) := by
  have hi : n - 2 - t < n := by omega
  have hb := best_fold near T.1 (n - 2 - t) (jsOf n (n - 2 - t)) [] (0, none) (.inl ⟨rfl, fun j hj => by cases hj⟩) (fun a ha => by cases ha) (jsOf_pw _ _)
  rw [List.nil_append] at hb
  unfold turn1
  generalize (jsOf n (n - 2 - t)).foldl (upd1 near T.1 (n - 2 - t)) (0, none) = e at hb
  refine ⟨by simp [h.l1], by simp [h.l2], fun i hi' => ?_, ?_, fun i h1 h2 => ?_⟩
  · simp only
    rw [getD_set_ne (by omega), getD_set_ne (by omega)]
    exact h.zero i (by omega)
  · simp only
    rw [getD_set_ne (by omega)]
    exact h.last
  · simp only
    by_cases hc : i = n - 2 - t
    · subst hc
      rw [getD_set_self (by have := h.l1; have := h.l2; omega), getD_set_self (by have := h.l1; have := h.l2; omega)]
      rcases hb with ⟨_, hb⟩ | ⟨k, k1, k2, k3, k4, k5⟩
      · have := hb (n - 2 - t + 1) (jsOf_all (by omega) (by omega))
        rw [hn1 _ (by omega)] at this
        cases this
      · obtain ⟨m1, m2⟩ := jsOf_mem k2
        refine ⟨k, k1, m1, m2, k3, ?_, fun j j1 j2 j3 => ?_⟩
        · rw [getD_set_ne (by omega)]; exact k4
        · rw [getD_set_ne (by omega)]; exact k5 j (jsOf_all j1 j2) j3
    · rw [getD_set_ne (by omega), getD_set_ne (by omega)]
      obtain ⟨k, k1, k2, k3, k4, k5, k6⟩ := h.best i (by omega) h2
      refine ⟨k, k1, k2, k3, k4, ?_, fun j j1 j2 j3 => ?_⟩
      · rw [getD_set_ne (by omega)]; exact k5
      · rw [getD_set_ne (by omega)]; exact k6 j j1 j2 j3
theorem tab_all {n : Nat} (hn1 : ∀ i, i + 1 < n → near i (i + 1) = true) : ∀ t, t ≤ n - 1 → TabI near n t ((List.range t).foldl (fun T t => turn1 near n T (n - 2 - t)) (List.replicate n 0, List.replicate n none))
  | 0, _ => tab_start near n
  | t + 1, h => by
    rw [List.range_succ, List.foldl_append]
    exact tab_step near (tab_all hn1 t (by omega)) (by omega) hn1
end
end K93
namespace K93
open PySem L2 PD
theorem set_same {α : Type} {l : List α} {i : Nat} {x d : α} (h : l.getD i d = x) (hi : i < l.length) : l.set i x = l := by
  rw [List.getD_eq_getElem?_getD, List.getElem?_eq_getElem hi] at h
  have h : l[i] = x := h
  rw [← h]
  exact List.set_getElem_self hi
def outB : SF := sFor (iA range2 (aCons (eOp (opAddX false) (eVar 5) (eC (.int 1))) (aCons (eVar 2) (aNil)))) (gN 6) inB
theorem js_rng {n i : Nat} (h : i < n) : rngL ((i : Int) + 1) ((n : Int) - ((i : Int) + 1)).toNat = (jsOf n i).map fun (j : Nat) => D.int j := by
  unfold rngL jsOf
  have e : ((n : Int) - ((i : Int) + 1)).toNat = n - (i + 1) := by omega
  rw [e, List.map_map]
  refine List.map_congr_left fun t _ => ?_
  show D.int _ = D.int _
  congr 1
section
variable {m : Mem} {ps : List Pt} {far : Int × Int}
abbrev sg (ps : List Pt) (far : Int × Int) (m : Mem) (a b c : Option D) : Sg := [some (rowD ps), some (fD far), some (.int ps.length), some (.ref m.length), some (.ref (m.length + 1)), a, b, c]
theorem rng_js {n i : Nat} (M : Mem) (hi : i < n) (hn : n ≤ 24) : range2 [.int ((i : Int) + 1), .int n] M = .ok (.its ((jsOf n i).map fun (j : Nat) => D.int j)) M := by
  have b1 : bnd ((i : Int) + 1) = true := bnd_of (by omega) (by omega)
  have b2 : bnd (n : Int) = true := bnd_of (by omega) (by omega)
  rw [range2_ok b1 b2, js_rng hi]
theorem out_step (R : RowOk ps far) {T : List Nat × List (Option Nat)} (h1 : T.1.length = ps.length) (h2 : T.2.length = ps.length) {i : Nat} (hi : i < ps.length) (z1 : T.1.getD i 0 = 0) (z2 : T.2.getD i none = none) (b c : Option D) :
    ∃ b', outB (sg ps far m (some (.int i)) b c) (Mt m T.1 T.2) = .nx (sg ps far m (some (.int i)) b' c) (Mt m (turn1 (nearB ps far) ps.length T i).1 (turn1 (nearB ps far) ps.length T i).2) := by
  have hr := fun M => rng_js (n := ps.length) (i := i) M hi R.n24
  obtain ⟨v', e⟩ := in_loop (m := m) R h1 h2 (i := i) c (jsOf ps.length i) (0, none) b fun j hj => jsOf_mem hj
  have e1 : T.1.set i 0 = T.1 := set_same z1 (by omega)
  have e2 : T.2.set i none = T.2 := set_same z2 (by omega)
  simp only [e1, e2] at e
  refine ⟨v', ?_⟩
  have ei : iA range2 (aCons (eOp (opAddX false) (eVar 5) (eC (.int 1))) (aCons (eVar 2) (aNil))) (sg ps far m (some (.int i)) b c) (Mt m T.1 T.2) = .ok (.its ((jsOf ps.length i).map fun (j : Nat) => D.int j)) (Mt m T.1 T.2) := by
    rw [← hr]
    simp only [iA_ap, aCons_ap, eOp_ap, eVar_ap, eC_ap, List.getElem?_cons_zero, List.getElem?_cons_succ, Res.bind_ok, opAddX_int, noexc_ok, aNil_ap]
  unfold outB
  rw [sFor_ap, ei, Res.st_ok, forS_its, e]
  rfl
theorem out_loop (R : RowOk ps far) (hn1 : ∀ i, i + 1 < ps.length → nearB ps far i (i + 1) = true) : ∀ (k t : Nat) (T : List Nat × List (Option Nat)) (a b c : Option D), TabI (nearB ps far) ps.length t T → t + k = ps.length - 1 →
    ∃ a' b', forL (gN 5) outB ((List.range' t k).map fun (t : Nat) => D.int ((ps.length - 2 - t : Nat) : Int)) (sg ps far m a b c) (Mt m T.1 T.2)
      = .nx (sg ps far m a' b' c) (Mt m ((List.range' t k).foldl (fun T t => turn1 (nearB ps far) ps.length T (ps.length - 2 - t)) T).1 ((List.range' t k).foldl (fun T t => turn1 (nearB ps far) ps.length T (ps.length - 2 - t)) T).2)
  | 0, t, T, a, b, c, _, _ => ⟨a, b, rfl⟩
  | k + 1, t, T, a, b, c, h, ht => by
    have hi : ps.length - 2 - t < ps.length := by omega
    obtain ⟨z1, z2⟩ := h.zero (ps.length - 2 - t) (by omega)
    obtain ⟨b1, e1⟩ := out_step (m := m) R h.l1 h.l2 hi z1 z2 b c
    obtain ⟨a', b', e2⟩ := out_loop R hn1 k (t + 1) _ (some (.int ((ps.length - 2 - t : Nat) : Int))) b1 c (tab_step _ h (by omega) hn1) (by omega)
    refine ⟨a', b', ?_⟩
    rw [List.range'_succ, List.map_cons, forL_step (σ1 := sg ps far m (some (.int ((ps.length - 2 - t : Nat) : Int))) b c) (m1 := Mt m T.1 T.2) rfl, e1, turnK_nx, e2, List.foldl_cons]
/-! ### the way itself -/
def pathF (x : Nat → Nat) (n : Nat) : Nat → Nat → List Nat
  | 0, i => [i]
  | k + 1, i => if i = n - 1 then [i] else i :: pathF x n k (x i)
abbrev wT : TF := tCmp opNe (eIx (eVar 7) (eUn opNeg (eC (.int 1)))) (eOp opSub (eVar 2) (eC (.int 1)))
abbrev wB : SF := sExpr (eM mAppend (eVar 7) (aCons (eIx (eVar 4) (eIx (eVar 7) (eUn opNeg (eC (.int 1))))) (aNil)))
def Mu (m : Mem) (S : List Nat) (X : List (Option Nat)) (out : List Nat) : Mem := m ++ [MO.lst (S.map sD), MO.lst (X.map xD), MO.lst (out.map sD)]
theorem Mu_b {S X out} : (Mu m S X out)[m.length + 1]? = some (.lst (X.map xD)) := by unfold Mu; simp
theorem Mu_c {S X out} : (Mu m S X out)[m.length + 2]? = some (.lst (out.map sD)) := by unfold Mu; simp
theorem Mu_set {S X out} {j : Nat} : (Mu m S X out).set (m.length + 2) (.lst (out.map sD ++ [.int j])) = Mu m S X (out ++ [j]) := by
  unfold Mu
  rw [List.set_append_right _ _ (by omega), show m.length + 2 - m.length = 2 by omega, List.map_append]
  rfl
theorem way_loop (R : RowOk ps far) {S : List Nat} {X : List (Option Nat)} (hX : X.length = ps.length) (x : Nat → Nat) (hx : ∀ i, i < ps.length - 1 → X.getD i none = some (x i) ∧ i < x i ∧ x i < ps.length) (a b : Option D) : ∀ (k i : Nat) (pre : List Nat) (fuel : Nat), i < ps.length → ps.length - 1 - i ≤ k → k < fuel → pre.length + k ≤ 1000 →
    whileN wT wB fuel (sg ps far m a b (some (.ref (m.length + 2)))) (Mu m S X (pre ++ [i])) = .nx (sg ps far m a b (some (.ref (m.length + 2)))) (Mu m S X (pre ++ pathF x ps.length k i)) := by
  intro k
  induction k with
  | zero =>
    intro i pre fuel hi hk hf hp
    obtain ⟨fuel, rfl⟩ : ∃ q, fuel = q + 1 := ⟨fuel - 1, by omega⟩
    have g1 : opIx (.ref (m.length + 2)) (.int (-1)) (Mu m S X (pre ++ [i])) = .ok (.int i) (Mu m S X (pre ++ [i])) := ix_ref_last Mu_c (by simp [sD])
    have hz : (i : Int) = (ps.length : Int) - 1 := by have := R.n2; omega
    rw [whileN_end (by simp [wT, g1, ← hz])]
    rfl
  | succ k ih =>
    intro i pre fuel hi hk hf hp
    obtain ⟨fuel, rfl⟩ : ∃ q, fuel = q + 1 := ⟨fuel - 1, by omega⟩
    have g1 : opIx (.ref (m.length + 2)) (.int (-1)) (Mu m S X (pre ++ [i])) = .ok (.int i) (Mu m S X (pre ++ [i])) := ix_ref_last Mu_c (by simp [sD])
    by_cases he : i = ps.length - 1
    · have hz : (i : Int) = (ps.length : Int) - 1 := by have := R.n2; omega
      rw [whileN_end (by simp [wT, g1, ← hz])]
      unfold pathF
      rw [if_pos he]
    · have hz : ¬ (i : Int) = (ps.length : Int) - 1 := by have := R.n2; omega
      obtain ⟨x1, x2, x3⟩ := hx i (by omega)
      have g2 : opIx (.ref (m.length + 1)) (.int i) (Mu m S X (pre ++ [i])) = .ok (.int (x i : Nat)) (Mu m S X (pre ++ [i])) := by
        refine ix_ref_nat Mu_b ?_
        rw [List.getD_eq_getElem?_getD, List.getElem?_eq_getElem (by omega)] at x1
        rw [List.getElem?_map, List.getElem?_eq_getElem (by omega)]
        have x1 : X[i] = some (x i) := x1
        rw [x1]; rfl
      have g3 : mAppend (.ref (m.length + 2)) [.int (x i : Nat)] (Mu m S X (pre ++ [i])) = .ok .non (Mu m S X (pre ++ [i] ++ [x i])) := by
        rw [mAppend_ok Mu_c (by rw [List.length_map, List.length_append]; simp; omega), Mu_set]
      have g4 : isLs (Mu m S X (pre ++ [i])) (.ref (m.length + 2)) = true := isLs_ref Mu_c
      rw [whileN_go (m1 := Mu m S X (pre ++ [i])) (by simp [wT, g1, hz])]
      have eb : wB (sg ps far m a b (some (.ref (m.length + 2)))) (Mu m S X (pre ++ [i])) = .nx (sg ps far m a b (some (.ref (m.length + 2)))) (Mu m S X (pre ++ [i] ++ [x i])) := by
        simp only [sExpr_ap, eM_ap, eVar_ap, List.getElem?_cons_zero, List.getElem?_cons_succ, Res.bind_ok, g4, if_true, aCons_ap, eIx_ap, eUn_ap, eC_ap, opNeg_int, noexc_ok, g1, g2, aNil_ap, g3, Res.st_ok]
      rw [eb, turnK_nx, ih (x i) (pre ++ [i]) fuel x3 (by omega) (by omega) (by rw [List.length_append, List.length_singleton]; omega)]
      unfold pathF
      rw [if_neg he]
      cases k with
      | zero => simp [pathF]
      | succ k => simp [pathF]
end
end K93
namespace K93
open PySem L2 PD
theorem near_next (ps : List Pt) (far : Int × Int) (i : Nat) : nearB ps far i (i + 1) = true := by
  unfold nearB mid
  simp
def tabT (near : Nat → Nat → Bool) (n : Nat) : List Nat × List (Option Nat) := (List.range (n - 1)).foldl (fun T t => turn1 near n T (n - 2 - t)) (List.replicate n 0, List.replicate n none)
def nx (near : Nat → Nat → Bool) (n i : Nat) : Nat := ((tabT near n).2.getD i none).getD 0
def sx (near : Nat → Nat → Bool) (n i : Nat) : Nat := (tabT near n).1.getD i 0
/-- what is known of the next places and of the numbers of steps -/
structure NxOk (near : Nat → Nat → Bool) (n : Nat) (x s : Nat → Nat) : Prop where
  lt : ∀ i, i < n - 1 → i < x i ∧ x i < n ∧ near i (x i) = true ∧ s i = s (x i) + 1
  best : ∀ i, i < n - 1 → ∀ j, i < j → j < n → near i j = true → s i ≤ s j + 1 ∧ (s i = s j + 1 → x i ≤ j)
  last : s (n - 1) = 0
theorem nx_ok {near : Nat → Nat → Bool} {n : Nat} (hn : ∀ i, i + 1 < n → near i (i + 1) = true) : NxOk near n (nx near n) (sx near n) := by
  have T := tab_all near hn (n - 1) (Nat.le_refl _)
  refine ⟨fun i hi => ?_, fun i hi j j1 j2 j3 => ?_, T.last⟩
  · obtain ⟨k, k1, k2, k3, k4, k5, k6⟩ := T.best i (by omega) hi
    have e : nx near n i = k := by unfold nx tabT; rw [k1]; rfl
    rw [e]
    exact ⟨k2, k3, k4, k5⟩
  · obtain ⟨k, k1, k2, k3, k4, k5, k6⟩ := T.best i (by omega) hi
    have e : nx near n i = k := by unfold nx tabT; rw [k1]; rfl
    rw [e]
    exact k6 j j1 j2 j3
def way (near : Nat → Nat → Bool) (n : Nat) : List Nat := pathF (nx near n) n (n - 1) 0
theorem rep_one {α : Type} (d : D) (k : Nat) : repD [d] k = List.replicate k d := by
  unfold repD
  induction k with
  | zero => rfl
  | succ k ih => rw [List.replicate_succ, List.flatten_cons, ih, List.replicate_succ]; rfl
theorem opMul_rep {d : D} {k : Nat} {m : Mem} (hk : k ≤ 24) : opMulX true (.lst [d]) (.int k) m = .ok (.ref m.length) (m ++ [.lst (List.replicate k d)]) := by
  show opRep true (.lst [d]) (.int k) m = _
  unfold opRep
  have hb : bnd (k : Int) = true := bnd_of (by omega) (by omega)
  simp only [deref_lst, hb, if_true]
  rw [Int.toNat_natCast, rep_one (α := Nat)]
  exact newL_t (by rw [List.length_replicate]; omega)
theorem pathF_len {x : Nat → Nat} {n : Nat} : ∀ (k i : Nat), (pathF x n k i).length ≤ k + 1
  | 0, i => by simp [pathF]
  | k + 1, i => by
    unfold pathF
    split
    · simp
    · have := pathF_len (x := x) (n := n) k (x i)
      simp; omega
theorem R_fewer_eq {ps : List Pt} {far : Int × Int} (R : RowOk ps far) (m : Mem) : ∃ more, R_fewer [rowD ps, fD far] m = .ok (.tup ((way (nearB ps far) ps.length).map sD)) (m ++ more) := by
  have n24 := R.n24
  have n2 := R.n2
  have T := tab_all (nearB ps far) (n := ps.length) (fun i _ => near_next ps far i) (ps.length - 1) (Nat.le_refl _)
  have N := nx_ok (near := nearB ps far) (n := ps.length) fun i _ => near_next ps far i
  obtain ⟨a', b', e1⟩ := out_loop (m := m) R (fun i _ => near_next ps far i) (ps.length - 1) 0 (List.replicate ps.length 0, List.replicate ps.length none) none none none (tab_start _ _) (by omega)
  rw [← List.range_eq_range'] at e1
  have eT : (List.range (ps.length - 1)).foldl (fun T t => turn1 (nearB ps far) ps.length T (ps.length - 2 - t)) (List.replicate ps.length 0, List.replicate ps.length none) = tabT (nearB ps far) ps.length := rfl
  rw [eT] at e1 T
  have e2 := way_loop (m := m) R T.l2 (S := (tabT (nearB ps far) ps.length).1) (nx (nearB ps far) ps.length) (fun i hi => by
    obtain ⟨k, k1, _⟩ := T.best i (by omega) hi
    have ek : nx (nearB ps far) ps.length i = k := by unfold nx; rw [k1]; rfl
    obtain ⟨h1, h2, _⟩ := N.lt i hi
    exact ⟨by rw [ek]; exact k1, h1, h2⟩) a' b' (ps.length - 1) 0 [] FUEL (by omega) (by omega) (by unfold FUEL; omega) (by simp; omega)
  rw [List.nil_append, List.nil_append] at e2
  have em : pathF (nx (nearB ps far) ps.length) ps.length (ps.length - 1) 0 = way (nearB ps far) ps.length := rfl
  rw [em] at e2
  have hlen := pathF_len (x := nx (nearB ps far) ps.length) (n := ps.length) (ps.length - 1) 0
  rw [em] at hlen
  -- range(n - 2, -1, -1)
  have hr : ∀ M : Mem, range3 [.int ((ps.length : Int) - 2), .int (-1), .int (-1)] M = .ok (.its ((List.range (ps.length - 1)).map fun (t : Nat) => D.int ((ps.length - 2 - t : Nat) : Int))) M := fun M => by
    have b1 : bnd ((ps.length : Int) - 2) = true := bnd_of (by omega) (by omega)
    have b2 : bnd (-1) = true := bnd_of (by omega) (by omega)
    rw [range3_ok b1 b2]
    congr 2
    unfold rngC
    have : ((ps.length : Int) - 2 - -1).toNat = ps.length - 1 := by omega
    rw [this]
    refine List.map_congr_left fun t ht => ?_
    rw [List.mem_range] at ht
    show D.int _ = D.int _
    congr 1
    omega
  have st : startD 8 [rowD ps, fD far] = [some (rowD ps), some (fD far), none, none, none, none, none, none] := rfl
  have hc := R_chkrow_ok R m
  have hm1 : ∀ (d : D) (m : Mem), opMulX true (.lst [d]) (.int ps.length) m = .ok (.ref m.length) (m ++ [.lst (List.replicate ps.length d)]) := fun d m => opMul_rep n24
  have hl : bLen [rowD ps] m = .ok (.int ps.length) m := by rw [bLen_tup, List.length_map]
  refine ⟨[MO.lst ((tabT (nearB ps far) ps.length).1.map sD), MO.lst ((tabT (nearB ps far) ps.length).2.map xD), MO.lst ((way (nearB ps far) ps.length).map sD)], ?_⟩
  have eb : r_fewer R_check_row R_is_near (startD 8 [rowD ps, fD far]) m = .rt (.tup ((way (nearB ps far) ps.length).map sD)) (Mu m (tabT (nearB ps far) ps.length).1 (tabT (nearB ps far) ps.length).2 (way (nearB ps far) ps.length)) := by
    rw [st]
    unfold r_fewer
    -- the head
    have h1 : ∀ k : SF, sSeq (sExpr (eCall R_check_row (aCons (eVar 0) (aCons (eVar 1) (aNil))))) k [some (rowD ps), some (fD far), none, none, none, none, none, none] m = k [some (rowD ps), some (fD far), none, none, none, none, none, none] m := fun k => by
      simp [hc]
    rw [h1]
    have h2 : ∀ k : SF, sSeq (sSet 2 (eB bLen (aCons (eVar 0) (aNil)))) k [some (rowD ps), some (fD far), none, none, none, none, none, none] m = k [some (rowD ps), some (fD far), some (.int ps.length), none, none, none, none, none] m := fun k => by
      simp
    rw [h2]
    have h3 : ∀ k : SF, sSeq (sSet 3 (eOp (opMulX true) (eLst false (aCons (eC (.int 0)) (aNil))) (eVar 2))) k [some (rowD ps), some (fD far), some (.int ps.length), none, none, none, none, none] m
        = k [some (rowD ps), some (fD far), some (.int ps.length), some (.ref m.length), none, none, none, none] (m ++ [.lst (List.replicate ps.length (.int 0))]) := fun k => by
      simp [newL_f, hm1]
    rw [h3]
    have h4 : ∀ k : SF, sSeq (sSet 4 (eOp (opMulX true) (eLst false (aCons (eC .non) (aNil))) (eVar 2))) k [some (rowD ps), some (fD far), some (.int ps.length), some (.ref m.length), none, none, none, none] (m ++ [.lst (List.replicate ps.length (.int 0))])
        = k (sg ps far m none none none) (Mt m (List.replicate ps.length 0) (List.replicate ps.length none)) := fun k => by
      simp [newL_f, hm1]
      unfold Mt
      simp [sD, xD]
    rw [h4]
    have h5 : ∀ k : SF, sSeq (sFor (iA range3 (aCons (eOp opSub (eVar 2) (eC (.int 2))) (aCons (eUn opNeg (eC (.int 1))) (aCons (eUn opNeg (eC (.int 1))) (aNil))))) (gN 5) outB) k (sg ps far m none none none) (Mt m (List.replicate ps.length 0) (List.replicate ps.length none))
        = k (sg ps far m a' b' none) (Mt m (tabT (nearB ps far) ps.length).1 (tabT (nearB ps far) ps.length).2) := fun k => by
      rw [sSeq_ap, sFor_ap]
      have ei : iA range3 (aCons (eOp opSub (eVar 2) (eC (.int 2))) (aCons (eUn opNeg (eC (.int 1))) (aCons (eUn opNeg (eC (.int 1))) (aNil)))) (sg ps far m none none none) (Mt m (List.replicate ps.length 0) (List.replicate ps.length none)) = .ok (.its ((List.range (ps.length - 1)).map fun (t : Nat) => D.int ((ps.length - 2 - t : Nat) : Int))) (Mt m (List.replicate ps.length 0) (List.replicate ps.length none)) := by
        rw [← hr]
        simp only [iA_ap, aCons_ap, eOp_ap, eUn_ap, eVar_ap, eC_ap, List.getElem?_cons_zero, List.getElem?_cons_succ, Res.bind_ok, opSub_int, opNeg_int, noexc_ok, aNil_ap]
      rw [ei, Res.st_ok, forS_its, e1]
      rfl
    have h5' := h5
    unfold outB inB at h5'
    rw [h5']
    have h6 : ∀ k : SF, sSeq (sSet 7 (eLst true (aCons (eC (.int 0)) (aNil)))) k (sg ps far m a' b' none) (Mt m (tabT (nearB ps far) ps.length).1 (tabT (nearB ps far) ps.length).2)
        = k (sg ps far m a' b' (some (.ref (m.length + 2)))) (Mu m (tabT (nearB ps far) ps.length).1 (tabT (nearB ps far) ps.length).2 [0]) := fun k => by
      have hn : newL true [.int 0] (Mt m (tabT (nearB ps far) ps.length).1 (tabT (nearB ps far) ps.length).2) = .ok (.ref (m.length + 2)) (Mu m (tabT (nearB ps far) ps.length).1 (tabT (nearB ps far) ps.length).2 [0]) := by
        rw [newL_t (by simp)]
        unfold Mt Mu
        simp [sD]
      simp [hn]
    rw [h6, sSeq_ap, e2]
    have hz := bTuple_ref (m := Mu m (tabT (nearB ps far) ps.length).1 (tabT (nearB ps far) ps.length).2 (way (nearB ps far) ps.length)) Mu_c (by rw [List.length_map]; omega)
    simp [hz]
  unfold R_fewer fnR
  rw [eb]
  rfl
end K93
namespace K93
open PySem L2 PD
/-! ### ways -/
def okW (near : Nat → Nat → Bool) (n : Nat) : Nat → List Nat → Prop
  | i, [] => i = n - 1
  | i, j :: q => i < j ∧ j < n ∧ near i j = true ∧ okW near n j q
def lexN : List Nat → List Nat → Bool
  | [], [] => false
  | [], _ :: _ => true
  | _ :: _, [] => false
  | x :: xs, y :: ys => if x = y then lexN xs ys else decide (x < y)
theorem lexN_cons (x y : Nat) (xs ys : List Nat) : lexN (x :: xs) (y :: ys) = if x = y then lexN xs ys else decide (x < y) := rfl
theorem lexN_irr : ∀ q : List Nat, lexN q q = false
  | [] => rfl
  | x :: q => by unfold lexN; rw [if_pos rfl]; exact lexN_irr q
section
variable {near : Nat → Nat → Bool} {n : Nat} {x s : Nat → Nat}
theorem pathF_ok (N : NxOk near n x s) : ∀ (k i : Nat), i < n → n - 1 - i ≤ k → ∃ r, pathF x n k i = i :: r ∧ okW near n i r ∧ r.length = s i
  | 0, i, hi, hk => ⟨[], rfl, by show i = n - 1; omega, by
      have : i = n - 1 := by omega
      rw [this, N.last]; rfl⟩
  | k + 1, i, hi, hk => by
    unfold pathF
    by_cases he : i = n - 1
    · rw [if_pos he]
      exact ⟨[], rfl, he, by rw [he, N.last]; rfl⟩
    · rw [if_neg he]
      obtain ⟨h1, h2, h3, h4⟩ := N.lt i (by omega)
      obtain ⟨r, e, o, l⟩ := pathF_ok N k (x i) h2 (by omega)
      exact ⟨x i :: r, by rw [e], ⟨h1, h2, h3, o⟩, by rw [List.length_cons, l, h4]⟩
theorem okW_lt : ∀ {q : List Nat} {i : Nat}, i < n → okW near n i q → q ≠ [] → i < n - 1
  | [], _, _, _, h => (h rfl).elim
  | j :: q, i, hi, ⟨h1, h2, _, _⟩, _ => by omega
theorem way_min (N : NxOk near n x s) : ∀ (q : List Nat) (i : Nat), i < n → okW near n i q → s i ≤ q.length
  | [], i, hi, h => by
    have : i = n - 1 := h
    rw [this, N.last]; exact Nat.zero_le _
  | j :: q, i, hi, ⟨h1, h2, h3, h4⟩ => by
    have := way_min N q j h2 h4
    have := (N.best i (by omega) j h1 h2 h3).1
    rw [List.length_cons]; omega
theorem way_lex (N : NxOk near n x s) : ∀ (q : List Nat) (i k : Nat), i < n → n - 1 - i ≤ k → okW near n i q → q.length = s i → pathF x n k i = i :: q ∨ lexN (pathF x n k i) (i :: q) = true
  | [], i, k, hi, hk, h, hl => by
    have : i = n - 1 := h
    left
    cases k with
    | zero => rfl
    | succ k => unfold pathF; rw [if_pos this]
  | j :: q, i, k, hi, hk, ⟨h1, h2, h3, h4⟩, hl => by
    cases k with
    | zero => omega
    | succ k =>
      have he : i ≠ n - 1 := by omega
      unfold pathF
      rw [if_neg he]
      obtain ⟨g1, g2, g3, g4⟩ := N.lt i (by omega)
      have m1 := way_min N q j h2 h4
      obtain ⟨b1, b2⟩ := N.best i (by omega) j h1 h2 h3
      rw [List.length_cons] at hl
      have e1 : s j = q.length := by omega
      have b3 := b2 (by omega)
      by_cases hx : x i = j
      · rw [hx]
        rcases way_lex N q j k h2 (by omega) h4 e1.symm with z | z
        · left; rw [z]
        · right; unfold lexN; rw [if_pos rfl]; exact z
      · right
        obtain ⟨r, er, _⟩ := pathF_ok N k (x i) g2 (by omega)
        rw [er]
        unfold lexN
        rw [if_pos rfl]
        unfold lexN
        rw [if_neg hx]
        exact decide_eq_true (by omega)
/-! ### all rows -/
def incB : Nat → Nat → List Nat → Prop
  | a, k, [] => a ≤ k
  | a, k, b :: t => a < b ∧ incB b k t
def rowsK : Nat → List (List Nat)
  | 0 => [[0]]
  | k + 1 => rowsK k ++ (rowsK k).map fun r => r ++ [k + 1]
theorem incB_le : ∀ {t : List Nat} {a k : Nat}, incB a k t → a ≤ k
  | [], _, _, h => h
  | b :: t, a, k, ⟨h1, h2⟩ => by have := incB_le h2; omega
theorem incB_mono : ∀ {t : List Nat} {a k l : Nat}, k ≤ l → incB a k t → incB a l t
  | [], a, k, l, hk, h => Nat.le_trans h hk
  | b :: t, a, k, l, hk, ⟨h1, h2⟩ => ⟨h1, incB_mono hk h2⟩
theorem incB_snoc : ∀ {t : List Nat} {a k : Nat}, incB a k t → incB a (k + 1) (t ++ [k + 1])
  | [], a, k, h => ⟨Nat.lt_succ_of_le h, Nat.le_refl _⟩
  | b :: t, a, k, ⟨h1, h2⟩ => ⟨h1, incB_snoc h2⟩
theorem incB_split : ∀ {t : List Nat} {a k : Nat}, incB a (k + 1) t → a ≤ k → incB a k t ∨ ∃ t', t = t' ++ [k + 1] ∧ incB a k t'
  | [], a, k, _, h => .inl h
  | b :: t, a, k, ⟨h1, h2⟩, h => by
    by_cases hb : b ≤ k
    · rcases incB_split h2 hb with z | ⟨t', e, z⟩
      · exact .inl ⟨h1, z⟩
      · exact .inr ⟨b :: t', by rw [e]; rfl, h1, z⟩
    · have hk := incB_le h2
      have eb : b = k + 1 := by omega
      subst eb
      cases t with
      | nil => exact .inr ⟨[], rfl, h⟩
      | cons c t =>
        have := incB_le h2.2
        have := h2.1
        omega
theorem rowsK_mem : ∀ {k : Nat} {r : List Nat}, r ∈ rowsK k ↔ ∃ t, r = 0 :: t ∧ incB 0 k t
  | 0, r => by
    constructor
    · intro h
      have : r = [0] := by simpa [rowsK] using h
      exact ⟨[], this, Nat.le_refl _⟩
    · rintro ⟨t, rfl, h⟩
      cases t with
      | nil => simp [rowsK]
      | cons b t =>
        have := incB_le h.2
        have := h.1
        omega
  | k + 1, r => by
    unfold rowsK
    rw [List.mem_append, List.mem_map]
    constructor
    · rintro (h | ⟨r', h, rfl⟩)
      · obtain ⟨t, e, i⟩ := rowsK_mem.mp h
        exact ⟨t, e, incB_mono (Nat.le_succ _) i⟩
      · obtain ⟨t, e, i⟩ := rowsK_mem.mp h
        exact ⟨t ++ [k + 1], by rw [e]; rfl, incB_snoc i⟩
    · rintro ⟨t, rfl, h⟩
      rcases incB_split h (Nat.zero_le _) with z | ⟨t', e, z⟩
      · exact .inl (rowsK_mem.mpr ⟨t, rfl, z⟩)
      · exact .inr ⟨0 :: t', rowsK_mem.mpr ⟨t', rfl, z⟩, by rw [e]; rfl⟩
def rowsA (n : Nat) : List (List Nat) := (rowsK (n - 2)).map fun r => r ++ [n - 1]
theorem okW_incB {near : Nat → Nat → Bool} : ∀ {q : List Nat} {i : Nat}, 2 ≤ n → okW near n i q → i < n - 1 → ∃ t, q = t ++ [n - 1] ∧ incB i (n - 2) t
  | [], i, hn, h, hi => by
    have : i = n - 1 := h
    omega
  | j :: q, i, hn, ⟨h1, h2, h3, h4⟩, hi => by
    by_cases hj : j < n - 1
    · obtain ⟨t, e, z⟩ := okW_incB hn h4 hj
      exact ⟨j :: t, by rw [e]; rfl, h1, z⟩
    · have : j = n - 1 := by omega
      subst this
      cases q with
      | nil => exact ⟨[], rfl, by show i ≤ n - 2; omega⟩
      | cons c q => have := h4.1; have := h4.2.1; omega
def tt : Nat → Nat → Bool := fun _ _ => true
theorem incB_okW : ∀ {t : List Nat} {i : Nat}, 2 ≤ n → incB i (n - 2) t → okW tt n i (t ++ [n - 1])
  | [], i, hn, h => by
    have : i ≤ n - 2 := h
    exact ⟨by omega, by omega, rfl, rfl⟩
  | b :: t, i, hn, ⟨h1, h2⟩ => by
    have := incB_le h2
    exact ⟨h1, by omega, rfl, incB_okW hn h2⟩
theorem rowsA_mem (hn : 2 ≤ n) {r : List Nat} : r ∈ rowsA n ↔ ∃ q, r = 0 :: q ∧ okW tt n 0 q := by
  unfold rowsA
  rw [List.mem_map]
  constructor
  · rintro ⟨r', h, rfl⟩
    obtain ⟨t, rfl, i⟩ := rowsK_mem.mp h
    exact ⟨t ++ [n - 1], rfl, incB_okW hn i⟩
  · rintro ⟨q, rfl, h⟩
    obtain ⟨t, rfl, i⟩ := okW_incB hn h (by omega)
    exact ⟨0 :: t, rowsK_mem.mpr ⟨t, rfl, i⟩, rfl⟩
/-- each step near -/
def goodL (near : Nat → Nat → Bool) : List Nat → Bool
  | a :: b :: r => near a b && goodL near (b :: r)
  | _ => true
theorem okW_good : ∀ {q : List Nat} {i : Nat}, okW near n i q ↔ okW tt n i q ∧ goodL near (i :: q) = true
  | [], i => ⟨fun h => ⟨h, rfl⟩, fun h => h.1⟩
  | j :: q, i => by
    constructor
    · rintro ⟨h1, h2, h3, h4⟩
      obtain ⟨g1, g2⟩ := okW_good.mp h4
      exact ⟨⟨h1, h2, rfl, g1⟩, by unfold goodL; rw [h3, g2]; rfl⟩
    · rintro ⟨⟨h1, h2, _, h4⟩, g⟩
      unfold goodL at g
      rw [Bool.and_eq_true] at g
      exact ⟨h1, h2, g.1, okW_good.mpr ⟨h4, g.2⟩⟩
end
/-! ### the first good row -/
def rD (r : List Nat) : D := .tup (r.map sD)
/-- the length ahead of the last place, the row -/
def encR (r : List Nat) : D := .tup [.int (r.length - 1 : Nat), rD r]
def rowsS (n : Nat) : List (List Nat) := (rowsA n).mergeSort fun a b => leD (encR a) (encR b)
theorem toPys_s (r : List Nat) : toPys (r.map sD) = r.map fun (s : Nat) => PyData.int (s : Int) := by
  induction r with
  | nil => rfl
  | cons x r ih => rw [List.map_cons, List.map_cons]; show toPy (sD x) :: toPys (r.map sD) = _; rw [ih]; rfl
theorem alike_s : ∀ a b : List Nat, PySem.W.alikeAll (a.map fun (s : Nat) => PyData.int (s : Int)) (b.map fun (s : Nat) => PyData.int (s : Int)) = true
  | [], _ => by simp [PySem.W.alikeAll]
  | _ :: _, [] => by simp [PySem.W.alikeAll]
  | x :: xs, y :: ys => by
    rw [List.map_cons, List.map_cons, PySem.W.alikeAll, alike_s xs ys]
    simp [PySem.W.alike]
theorem rowLt_s : ∀ a b : List Nat, PySem.W.rowLt (a.map fun (s : Nat) => PyData.int (s : Int)) (b.map fun (s : Nat) => PyData.int (s : Int)) = lexN a b
  | [], [] => rfl
  | [], y :: ys => by
    have h := PySem.W.dataLt_ints [] ((y :: ys).map fun (s : Nat) => (s : Int))
    rw [List.map_map] at h
    have h' : PySem.W.rowLt [] ((y :: ys).map fun (s : Nat) => PyData.int (s : Int)) = decide (([] : List Int) < (y :: ys).map fun (s : Nat) => (s : Int)) := h
    rw [List.map_nil, h']
    rfl
  | x :: xs, [] => by
    have h := PySem.W.dataLt_ints ((x :: xs).map fun (s : Nat) => (s : Int)) []
    rw [List.map_map] at h
    have h' : PySem.W.rowLt ((x :: xs).map fun (s : Nat) => PyData.int (s : Int)) [] = decide (((x :: xs).map fun (s : Nat) => (s : Int)) < []) := h
    rw [List.map_nil, h']
    rfl
  | x :: xs, y :: ys => by
    have ih := rowLt_s xs ys
    unfold PySem.W.rowLt at ih ⊢
    rw [List.map_cons, List.map_cons, PySem.W.dataLt_cons (by simp [PySem.W.alike]), ih, PySem.W.dataLt_int, lexN_cons]
    by_cases h : x = y
    · subst h; simp [PyData.eqv]
    · have : ¬ (x : Int) = y := by omega
      simp [PyData.eqv, h, this]
theorem leD_encR (a b : List Nat) : leD (encR a) (encR b) = !(if b.length - 1 = a.length - 1 then lexN b a else decide (b.length - 1 < a.length - 1)) := by
  rw [leD_eq]
  have e : ∀ r : List Nat, toPy (encR r) = .tuple [.int ((r.length - 1 : Nat) : Int), .tuple (r.map fun (s : Nat) => PyData.int (s : Int))] := fun r => by
    show PyData.tuple (toPys [_, rD r]) = _
    show PyData.tuple [PyData.int ((r.length - 1 : Nat) : Int), PyData.tuple (toPys (r.map sD))] = _
    rw [toPys_s]
  rw [e, e, PySem.W.dataLt_pair (by simp [PySem.W.alike]) (by simp [PySem.W.alike, alike_s]), PySem.W.dataLt_int]
  have e2 := rowLt_s b a
  have e3 : PySem.W.dataLt (.tuple (b.map fun (s : Nat) => PyData.int (s : Int))) (.tuple (a.map fun (s : Nat) => PyData.int (s : Int))) = lexN b a := by
    rw [PySem.W.dataLt_tuple]; exact e2
  rw [e3]
  congr 1
  by_cases h : b.length - 1 = a.length - 1
  · have h' : ((b.length - 1 : Nat) : Int) = (a.length - 1 : Nat) := by omega
    rw [if_pos h, if_pos (by simp [PyData.eqv, h'])]
    cases hv : PyData.eqv (.tuple (b.map fun (s : Nat) => PyData.int (s : Int))) (.tuple (a.map fun (s : Nat) => PyData.int (s : Int))) with
    | false => rfl
    | true =>
      rw [if_pos rfl]
      have : b = a := by
        have q : eqD (rD b) (rD a) = true := by
          show PyData.eqv (PyData.tuple (toPys (b.map sD))) (PyData.tuple (toPys (a.map sD))) = true
          rw [toPys_s, toPys_s]; exact hv
        unfold rD at q
        rw [eqD_tup, eqDs_map (enc := sD) (fun x y => by
            simp only [sD, eqD_int]
            rw [Bool.eq_iff_iff, decide_eq_true_iff, decide_eq_true_iff]
            omega)] at q
        exact of_decide_eq_true q
      rw [this, lexN_irr]
  · have h' : ¬ ((b.length - 1 : Nat) : Int) = (a.length - 1 : Nat) := by omega
    rw [if_neg h, if_neg (by simp [PyData.eqv, h'])]
    rw [Bool.eq_iff_iff, decide_eq_true_iff, decide_eq_true_iff]
    omega
theorem first_good {near : Nat → Nat → Bool} {n : Nat} (hn : 2 ≤ n) (hn1 : ∀ i, i + 1 < n → near i (i + 1) = true) : (rowsS n).find? (goodL near) = some (way near n) := by
  have N := nx_ok hn1
  obtain ⟨r, er, ok, hl⟩ := pathF_ok N (n - 1) 0 (by omega) (by omega)
  have ew : way near n = 0 :: r := er
  have hp : (rowsS n).Perm (rowsA n) := List.mergeSort_perm _ _
  obtain ⟨ok1, g1⟩ := okW_good.mp ok
  have hm : way near n ∈ rowsS n := hp.mem_iff.mpr ((rowsA_mem hn).mpr ⟨r, ew, ok1⟩)
  have hg : goodL near (way near n) = true := by rw [ew]; exact g1
  obtain ⟨q, hq⟩ : ∃ q, (rowsS n).find? (goodL near) = some q := by
    cases h : (rowsS n).find? (goodL near) with
    | some q => exact ⟨q, rfl⟩
    | none =>
      have := List.find?_eq_none.mp h _ hm
      exact (this hg).elim
  rw [hq]
  obtain ⟨as, bs, e, hb⟩ := (List.find?_eq_some_iff_append.mp hq).2
  have gq : goodL near q = true := (List.find?_eq_some_iff_append.mp hq).1
  have hs : (rowsS n).Pairwise fun a b => leD (encR a) (encR b) = true := by
    have h := sortD_sorted ((rowsA n).map encR)
    rw [sortD_map, List.pairwise_map] at h
    exact h
  have hq0 : q ∈ rowsA n := hp.mem_iff.mp (by rw [e]; simp)
  obtain ⟨q', eq', oq⟩ := (rowsA_mem hn).mp hq0
  have okq : okW near n 0 q' := okW_good.mpr ⟨oq, by rw [← eq']; exact gq⟩
  have m1 := way_min N q' 0 (by omega) okq
  by_cases hne : q = way near n
  · rw [hne]
  · exfalso
    -- the way stands behind q
    have hle : leD (encR q) (encR (way near n)) = true := by
      rw [e] at hm hs
      rcases List.mem_append.mp hm with z | z
      · have := hb _ z
        rw [hg] at this
        cases this
      · rcases List.mem_cons.mp z with z | z
        · exact (hne z.symm).elim
        · exact (List.pairwise_cons.mp (List.pairwise_append.mp hs).2.1).1 _ z
    rw [leD_encR] at hle
    have lw : (way near n).length = r.length + 1 := by rw [ew]; rfl
    have lq : q.length = q'.length + 1 := by rw [eq']; rfl
    by_cases hlen : (way near n).length - 1 = q.length - 1
    · rw [if_pos hlen] at hle
      have e1 : q'.length = sx near n 0 := by omega
      rcases way_lex N q' 0 (n - 1) (by omega) (by omega) okq e1 with z | z
      · exact hne (by rw [eq']; exact z.symm)
      · have z' : lexN (way near n) q = true := by rw [eq']; exact z
        rw [z'] at hle; cases hle
    · rw [if_neg hlen, decide_eq_true (by omega)] at hle
      cases hle
end K93
namespace K93
open PySem L2 PD
theorem opAdd_tup {nw : Bool} {xs ys : List D} {m : Mem} (h : xs.length + ys.length ≤ 16777216) : opAddX nw (.tup xs) (.tup ys) m = .ok (.tup (xs ++ ys)) m := by
  show newT (xs ++ ys) m = _
  exact newT_ok (by rw [List.length_append]; exact h)
theorem opAdd_lst {xs ys : List D} {m : Mem} (h : xs.length + ys.length ≤ 16777216) : opAddX false (.lst xs) (.lst ys) m = .ok (.lst (xs ++ ys)) m := by
  show newL false (xs ++ ys) m = _
  exact newL_f (by rw [List.length_append]; exact h)
theorem rowsK_len : ∀ k, (rowsK k).length = 2 ^ k
  | 0 => rfl
  | k + 1 => by
    unfold rowsK
    rw [List.length_append, List.length_map, rowsK_len k, Nat.pow_succ]; omega
theorem incB_len : ∀ {t : List Nat} {a k : Nat}, incB a k t → a + t.length ≤ k
  | [], _, _, h => h
  | b :: t, a, k, ⟨h1, h2⟩ => by have := incB_len h2; rw [List.length_cons]; omega
theorem rowsK_each {k : Nat} {r : List Nat} (h : r ∈ rowsK k) : 1 ≤ r.length ∧ r.length ≤ k + 1 := by
  obtain ⟨t, rfl, i⟩ := rowsK_mem.mp h
  have := incB_len i
  rw [List.length_cons]; omega
def rowB : SF := sSet 1 (eOp (opAddX false) (eVar 1) (eLc false [3] (iE (eVar 1)) (gN 3) (tYesD) (eOp (opAddX false) (eVar 3) (eTup (aCons (eVar 2) (aNil))))))
theorem rowB_step {n : Option D} {k : Nat} {m : Mem} (hk : k ≤ 21) : rowB [n, some (.lst ((rowsK k).map rD)), some (.int ((k + 1 : Nat) : Int)), none, none] m = .nx [n, some (.lst ((rowsK (k + 1)).map rD)), some (.int ((k + 1 : Nat) : Int)), none, none] m := by
  have hp : 2 ^ k ≤ 2 ^ 21 := Nat.pow_le_pow_right (by decide) hk
  have hlc : lcL (gN 3) tYesD (eOp (opAddX false) (eVar 3) (eTup (aCons (eVar 2) (aNil)))) [n, some (.lst ((rowsK k).map rD)), some (.int ((k + 1 : Nat) : Int)), none, none] ((rowsK k).map rD) m
      = .ok ((rowsK k).map fun r => rD (r ++ [k + 1])) m := by
    refine lcL_map fun r hr => ⟨[n, some (.lst ((rowsK k).map rD)), some (.int ((k + 1 : Nat) : Int)), some (rD r), none], rfl, ?_⟩
    have hl := (rowsK_each hr).2
    have ha : opAddX false (rD r) (.tup [.int ((k + 1 : Nat) : Int)]) m = .ok (rD (r ++ [k + 1])) m := by
      unfold rD
      rw [opAdd_tup (by rw [List.length_map]; simp; omega), List.map_append]; rfl
    simp only [eOp_ap, eVar_ap, List.getElem?_cons_zero, List.getElem?_cons_succ, Res.bind_ok, eTup_ap, aCons_ap, aNil_ap, newT1, noexc_ok, ha]
  have e1 : newL false ((rowsK k).map fun r => rD (r ++ [k + 1])) m = .ok (.lst ((rowsK k).map fun r => rD (r ++ [k + 1]))) m := newL_f (by rw [List.length_map, rowsK_len]; omega)
  have e2 : opAddX false (.lst ((rowsK k).map rD)) (.lst ((rowsK k).map fun r => rD (r ++ [k + 1]))) m = .ok (.lst ((rowsK (k + 1)).map rD)) m := by
    rw [opAdd_lst (by rw [List.length_map, List.length_map, rowsK_len]; omega)]
    show _ = Res.ok (D.lst ((rowsK k ++ (rowsK k).map fun r => r ++ [k + 1]).map rD)) m
    rw [List.map_append, List.map_map]; rfl
  unfold rowB
  simp only [sSet_ap, eOp_ap, eVar_ap, List.getElem?_cons_zero, List.getElem?_cons_succ, Res.bind_ok, eLc_ap, iE_ap, srcOf_lst, wipeD, List.set_cons_zero, List.set_cons_succ, lcS_its, hlc, noexc_ok, e1, e2, Res.st_ok]
theorem row_loop {n : Option D} {m : Mem} : ∀ (k t : Nat) (a : Option D), t + k ≤ 22 → ∃ a', forL (gN 2) rowB ((List.range' t k).map fun (t : Nat) => D.int (1 + (t : Int))) [n, some (.lst ((rowsK t).map rD)), a, none, none] m = .nx [n, some (.lst ((rowsK (t + k)).map rD)), a', none, none] m
  | 0, t, a, _ => ⟨a, rfl⟩
  | k + 1, t, a, h => by
    obtain ⟨a', e⟩ := row_loop (n := n) (m := m) k (t + 1) (some (.int ((t + 1 : Nat) : Int))) (by omega)
    refine ⟨a', ?_⟩
    have et : (1 + (t : Int)) = ((t + 1 : Nat) : Int) := by omega
    rw [List.range'_succ, List.map_cons, et, forL_step (σ1 := [n, some (.lst ((rowsK t).map rD)), some (.int ((t + 1 : Nat) : Int)), none, none]) (m1 := m) rfl, rowB_step (by omega), turnK_nx, e, show t + 1 + k = t + (k + 1) by omega]
theorem sh_rD (n : Nat) (r : List Nat) : sh (n + 1) (rD r) = true := by
  unfold rD
  rw [sh_tup]
  exact shs_map fun _ _ => by simp [sD]
theorem canSort_rows {l : List (List Nat)} : canSort (l.map encR) = true := by
  unfold canSort
  rw [Bool.and_eq_true, Bool.and_eq_true]
  refine ⟨⟨shs_map fun r _ => ?_, ?_⟩, ?_⟩
  · show shs 59 [.int (r.length - 1 : Nat), rD r] = true
    rw [shs_cons, shs_cons, sh_rD 58]; simp
  · rw [List.all_eq_true]
    intro a ha
    rw [List.all_eq_true]
    intro b hb
    obtain ⟨r, _, rfl⟩ := List.mem_map.mp ha
    obtain ⟨q, _, rfl⟩ := List.mem_map.mp hb
    have e : ∀ r : List Nat, toPy (encR r) = .tuple [.int ((r.length - 1 : Nat) : Int), .tuple (r.map fun (s : Nat) => PyData.int (s : Int))] := fun r => by
      show PyData.tuple [PyData.int ((r.length - 1 : Nat) : Int), PyData.tuple (toPys (r.map sD))] = _
      rw [toPys_s]
    unfold likeD
    rw [e, e]
    simp [PySem.W.alike, PySem.W.alikeAll, alike_s]
  · rw [Bool.or_eq_true]
    left
    rw [List.all_eq_true]
    intro a ha
    obtain ⟨r, _, rfl⟩ := List.mem_map.mp ha
    rfl
theorem R_rows {n : Nat} (h2 : 2 ≤ n) (h24 : n ≤ 24) (m : Mem) : R__law_rows [.int n] m = .ok (.lst ((rowsS n).map rD)) m := by
  obtain ⟨a', e⟩ := row_loop (n := some (.int n)) (m := m) (n - 2) 0 none (by omega)
  rw [Nat.zero_add] at e
  have hp : 2 ^ (n - 2) ≤ 2 ^ 22 := Nat.pow_le_pow_right (by decide) (by omega)
  have hr : range2 [.int 1, .int ((n : Int) - 1)] m = .ok (.its ((List.range' 0 (n - 2)).map fun (t : Nat) => D.int (1 + (t : Int)))) m := by
    have b1 : bnd 1 = true := bnd_of (by omega) (by omega)
    have b2 : bnd ((n : Int) - 1) = true := bnd_of (by omega) (by omega)
    rw [range2_ok b1 b2]
    unfold rngL
    rw [List.range_eq_range', show ((n : Int) - 1 - 1).toNat = n - 2 by omega]
  have hA : (rowsA n).length = 2 ^ (n - 2) := by unfold rowsA; rw [List.length_map, rowsK_len]
  -- the pairs
  have hlc : lcL (gN 3) tYesD (eTup (aCons (eB bLen (aCons (eVar 3) (aNil))) (aCons (eOp (opAddX false) (eVar 3) (eTup (aCons (eOp opSub (eVar 0) (eC (.int 1))) (aNil)))) (aNil)))) [some (.int n), some (.lst ((rowsK (n - 2)).map rD)), a', none, none] ((rowsK (n - 2)).map rD) m
      = .ok ((rowsK (n - 2)).map fun r => encR (r ++ [n - 1])) m := by
    refine lcL_map fun r hr => ⟨[some (.int n), some (.lst ((rowsK (n - 2)).map rD)), a', some (rD r), none], rfl, ?_⟩
    have hl := rowsK_each hr
    have en : ((n : Int) - 1) = ((n - 1 : Nat) : Int) := by omega
    have ha : opAddX false (rD r) (.tup [.int ((n - 1 : Nat) : Int)]) m = .ok (rD (r ++ [n - 1])) m := by
      unfold rD
      rw [opAdd_tup (by rw [List.length_map]; simp; omega), List.map_append]; rfl
    have hb : bLen [rD r] m = .ok (.int r.length) m := by unfold rD; rw [bLen_tup, List.length_map]
    have hc : (r ++ [n - 1]).length - 1 = r.length := by simp
    simp only [eTup_ap, aCons_ap, eB_ap, eOp_ap, eVar_ap, eC_ap, List.getElem?_cons_zero, List.getElem?_cons_succ, Res.bind_ok, aNil_ap, opSub_int, en, newT1, newT2, noexc_ok, ha, hb, encR, hc]
  have eA : ((rowsK (n - 2)).map fun r => encR (r ++ [n - 1])) = (rowsA n).map encR := by unfold rowsA; rw [List.map_map]; rfl
  rw [eA] at hlc
  have e1 : newL false ((rowsA n).map encR) m = .ok (.lst ((rowsA n).map encR)) m := newL_f (by rw [List.length_map, hA]; omega)
  have e2 : bSorted false [.lst ((rowsA n).map encR)] m = .ok (.lst ((rowsS n).map encR)) m := by
    show (if canSort ((rowsA n).map encR) then newL false (sortD ((rowsA n).map encR)) m else .bad) = _
    rw [canSort_rows, if_pos rfl, sortD_map]
    refine newL_f ?_
    rw [List.length_map, List.length_mergeSort, hA]; omega
  have hlc2 : ∀ (b c : Option D), lcL (gT 2 (gsCons (gN 4) (gsCons (gN 3) (gsNil)))) tYesD (eVar 3) [some (.int n), some (.lst ((rowsK (n - 2)).map rD)), a', b, c] ((rowsS n).map encR) m = .ok ((rowsS n).map rD) m := fun b c =>
    lcL_map fun r hr => ⟨[some (.int n), some (.lst ((rowsK (n - 2)).map rD)), a', some (rD r), some (.int (r.length - 1 : Nat))], by simp [encR], by simp⟩
  have hS : (rowsS n).length = 2 ^ (n - 2) := by unfold rowsS; rw [List.length_mergeSort, hA]
  have e3 : newL false ((rowsS n).map rD) m = .ok (.lst ((rowsS n).map rD)) m := newL_f (by rw [List.length_map, hS]; omega)
  have st : startD 5 [D.int n] = [some (.int n), none, none, none, none] := rfl
  have eb : r__law_rows (startD 5 [.int n]) m = .rt (.lst ((rowsS n).map rD)) m := by
    rw [st]
    unfold r__law_rows
    have h1 : ∀ k : SF, sSeq (sSet 1 (eLst false (aCons (eTup (aCons (eC (.int 0)) (aNil))) (aNil)))) k [some (.int n), none, none, none, none] m = k [some (.int n), some (.lst ((rowsK 0).map rD)), none, none, none] m := fun k => by
      simp [newL_f, rowsK, rD, sD]
    rw [h1]
    have h2 : ∀ k : SF, sSeq (sFor (iA range2 (aCons (eC (.int 1)) (aCons (eOp opSub (eVar 0) (eC (.int 1))) (aNil)))) (gN 2) rowB) k [some (.int n), some (.lst ((rowsK 0).map rD)), none, none, none] m = k [some (.int n), some (.lst ((rowsK (n - 2)).map rD)), a', none, none] m := fun k => by
      rw [sSeq_ap, sFor_ap]
      have ei : iA range2 (aCons (eC (.int 1)) (aCons (eOp opSub (eVar 0) (eC (.int 1))) (aNil))) [some (.int n), some (.lst ((rowsK 0).map rD)), none, none, none] m = .ok (.its ((List.range' 0 (n - 2)).map fun (t : Nat) => D.int (1 + (t : Int)))) m := by
        rw [← hr]
        simp only [iA_ap, aCons_ap, eOp_ap, eVar_ap, eC_ap, List.getElem?_cons_zero, Res.bind_ok, opSub_int, noexc_ok, aNil_ap]
      rw [ei, Res.st_ok, forS_its, e]
      rfl
    have h2' := h2
    unfold rowB at h2'
    rw [h2']
    simp only [sRet_ap, eLc_ap, iE_ap, eB_ap, aCons_ap, eVar_ap, List.getElem?_cons_zero, List.getElem?_cons_succ, Res.bind_ok, srcOf_lst, wipeD, List.set_cons_zero, List.set_cons_succ, lcS_its, hlc, noexc_ok, e1, aNil_ap, e2, hlc2, e3, Res.st_ok]
  unfold R__law_rows fnR
  rw [eb]
end K93
namespace K93
open PySem L2 PD
def chB (near : Nat → Nat → Bool) : List Nat → Bool
  | a :: b :: r => (decide (a < b) && near a b) && chB near (b :: r)
  | _ => true
abbrev afB : SF := sIf (tOrD (tCmp (opOrd .GtE) (eVar 3) (eVar 4)) (tNotD (tE (eCall R_is_near (aCons (eVar 0) (aCons (eVar 1) (aCons (eVar 3) (aCons (eVar 4) (aNil))))))))) (sRet (eC (.bl false))) (sNil)
abbrev afG : GF := gT 2 (gsCons (gN 3) (gsCons (gN 4) (gsNil)))
def prs (q : List Nat) : List D := ((q.map sD).zip ((q.map sD).drop 1)).map fun p => D.tup [p.1, p.2]
theorem prs_cons (a b : Nat) (r : List Nat) : prs (a :: b :: r) = D.tup [.int a, .int b] :: prs (b :: r) := rfl
section
variable {ps : List Pt} {far : Int × Int}
theorem af_loop (R : RowOk ps far) {m : Mem} {pl : Option D} {z : Option D} : ∀ (q : List Nat) (a b : Option D), (∀ i ∈ q, i < ps.length) → ∃ s', forL afG afB (prs q) [some (rowD ps), some (fD far), pl, a, b, z] m = if chB (nearB ps far) q = true then .nx s' m else .rt (.bl false) m
  | [], a, b, _ => ⟨_, rfl⟩
  | [x], a, b, _ => ⟨_, rfl⟩
  | x :: y :: r, a, b, h => by
    obtain ⟨s', e⟩ := af_loop R (m := m) (pl := pl) (z := z) (y :: r) (some (.int x)) (some (.int y)) fun i hi => h i (List.mem_cons_of_mem _ hi)
    refine ⟨s', ?_⟩
    have g := R_near R (h x List.mem_cons_self) (h y (List.mem_cons_of_mem _ List.mem_cons_self)) m
    rw [prs_cons, forL_step (σ1 := [some (rowD ps), some (fD far), pl, some (.int x), some (.int y), z]) (m1 := m) (by simp)]
    unfold chB
    by_cases h1 : x < y
    · have h1' : ¬ (y : Int) ≤ (x : Int) := by omega
      by_cases h2 : nearB ps far x y = true
      · have eb : afB [some (rowD ps), some (fD far), pl, some (.int x), some (.int y), z] m = .nx [some (rowD ps), some (fD far), pl, some (.int x), some (.int y), z] m := by
          simp [g, h1', h2]
        rw [eb, turnK_nx, e]
        simp [h1, h2]
      · have h2' : nearB ps far x y = false := by simpa using h2
        have eb : afB [some (rowD ps), some (fD far), pl, some (.int x), some (.int y), z] m = .rt (.bl false) m := by
          simp [g, h1', h2']
        rw [eb]
        simp [h1, h2']
    · have h1' : (y : Int) ≤ (x : Int) := by omega
      have eb : afB [some (rowD ps), some (fD far), pl, some (.int x), some (.int y), z] m = .rt (.bl false) m := by
        simp [h1']
      rw [eb]
      simp [h1]
theorem st6_3 (a b c : D) : startD 6 [a, b, c] = [some a, some b, some c, none, none, none] := rfl
theorem num_lc {m : Mem} {a b c d e : Option D} (q : List Nat) : lcL (gN 5) tYesD (eCall R_is_number (aCons (eVar 5) (aNil))) [a, b, c, d, e, none] (q.map sD) m = .ok (q.map fun _ => .bl true) m :=
  lcL_map fun i _ => ⟨[a, b, c, d, e, some (.int i)], rfl, by simp [R_num_int]⟩
/-- what is no tuple -/
theorem R_are_non (R : RowOk ps far) (m : Mem) : R_are_fewer [rowD ps, fD far, .non] m = .ok (.bl false) m := by
  unfold R_are_fewer fnR
  simp [st6_3, r_are_fewer, R_chkrow_ok R]
theorem R_are_lst (R : RowOk ps far) (xs : List D) (m : Mem) : R_are_fewer [rowD ps, fD far, .lst xs] m = .ok (.bl false) m := by
  unfold R_are_fewer fnR
  simp [st6_3, r_are_fewer, R_chkrow_ok R]
theorem R_are_short (R : RowOk ps far) {xs : List D} (h : xs.length < 2) (m : Mem) : R_are_fewer [rowD ps, fD far, .tup xs] m = .ok (.bl false) m := by
  have h' : (xs.length : Int) < 2 := by omega
  unfold R_are_fewer fnR
  simp [st6_3, r_are_fewer, R_chkrow_ok R, h']
/-- False ahead -/
theorem R_are_false (R : RowOk ps far) {q : List Nat} (hq : q.length ≤ 1000) (m : Mem) : R_are_fewer [rowD ps, fD far, .tup (.bl false :: q.map sD)] m = .ok (.bl false) m := by
  by_cases h : 1 ≤ q.length
  · have h' : ¬ ((q.length : Int) + 1 < 2) := by omega
    have hlc : lcL (gN 5) tYesD (eCall R_is_number (aCons (eVar 5) (aNil))) [some (rowD ps), some (fD far), some (.tup (.bl false :: q.map sD)), none, none, none] (.bl false :: q.map sD) m = .ok (.bl false :: q.map fun _ => .bl true) m := by
      unfold lcL
      have e := num_lc (m := m) (a := some (rowD ps)) (b := some (fD far)) (c := some (.tup (.bl false :: q.map sD))) (d := none) (e := none) q
      simp [R_num_bl, e]
    have hnl := newL_f (m := m) (xs := D.bl false :: q.map fun _ => D.bl true) (by rw [List.length_cons, List.length_map]; omega)
    have hall : bAllB false [.lst (.bl false :: q.map fun _ => .bl true)] m = .ok (.bl false) m := by
      have := bAll_map (fun o : Option Nat => o.isSome) (none :: q.map some) m
      rw [List.map_cons, List.map_map] at this
      have e : ((fun x : Option Nat => D.bl x.isSome) ∘ some) = fun _ => D.bl true := rfl
      rw [e] at this
      simpa using this
    unfold R_are_fewer fnR
    simp [st6_3, r_are_fewer, R_chkrow_ok R, h', wipeD, hlc, hnl, hall]
  · exact R_are_short R (by rw [List.length_cons, List.length_map]; omega) m
theorem R_are_row (R : RowOk ps far) {q : List Nat} (hq : q.length ≤ 1000) (h2 : 2 ≤ q.length) (m : Mem) (hb : q.head? = some 0 → q.getLast? = some (ps.length - 1) → ∀ i ∈ q, i < ps.length) :
    R_are_fewer [rowD ps, fD far, rD q] m = .ok (.bl (decide (q.head? = some 0) && decide (q.getLast? = some (ps.length - 1)) && chB (nearB ps far) q)) m := by
  have n2 := R.n2
  have h' : ¬ (q.length : Int) < 2 := by omega
  have hlc := num_lc (m := m) (a := some (rowD ps)) (b := some (fD far)) (c := some (rD q)) (d := none) (e := none) q
  have hnl := newL_f (m := m) (xs := q.map fun _ => D.bl true) (by rw [List.length_map]; omega)
  have hall : bAllB false [.lst (q.map fun _ => .bl true)] m = .ok (.bl true) m := by
    have := bAll_map (fun _ : Nat => true) q m
    rw [this]; simp
  obtain ⟨a, t, rfl⟩ : ∃ a t, q = a :: t := by
    cases q with
    | nil => simp at h2
    | cons a t => exact ⟨a, t, rfl⟩
  obtain ⟨pre, z, ez⟩ : ∃ pre z, a :: t = pre ++ [z] := by
    refine ⟨(a :: t).dropLast, (a :: t).getLast (by simp), ?_⟩
    rw [List.dropLast_concat_getLast]
  have hz : (a :: t).getLast? = some z := by rw [ez]; simp
  have i0 : opIx (rD (a :: t)) (.int 0) m = .ok (.int a) m := by unfold rD; rw [List.map_cons]; exact ix_tup_nat (i := 0) rfl
  have i1 : opIx (rD (a :: t)) (.int (-1)) m = .ok (.int z) m := by
    unfold rD
    refine ix_tup_last ?_
    rw [ez, List.map_append]; simp [sD]
  have hs : opSl false (rD (a :: t)) (some 1) none m = .ok (.tup (((a :: t).map sD).drop 1)) m := by
    unfold rD
    rw [opSl_tup (by rw [List.length_map]; omega)]
    have := cut_from ((a :: t).map sD) 1
    rw [show ((1 : Nat) : Int) = 1 from rfl] at this
    rw [this]
  have hzip : zipD [rD (a :: t), .tup (((a :: t).map sD).drop 1)] m = .ok (.its (prs (a :: t))) m := rfl
  have hbl : bLen [rD (a :: t)] m = .ok (.int (a :: t).length) m := by unfold rD; rw [bLen_tup, List.length_map]
  have hsrc : srcOf (rD (a :: t)) m = .ok (.its ((a :: t).map sD)) m := rfl
  have hisi : opIsi "tuple" (rD (a :: t)) m = .ok (.bl true) m := rfl
  rw [hz, List.head?_cons]
  have eb : r_are_fewer R_check_row R_is_near R_is_number [some (rowD ps), some (fD far), some (rD (a :: t)), none, none, none] m = .rt (.bl (decide (some a = some 0) && decide (some z = some (ps.length - 1)) && chB (nearB ps far) (a :: t))) m := by
    generalize hP : rD (a :: t) = P at *
    unfold r_are_fewer
    have s1 : ∀ k : SF, sSeq (sExpr (eCall R_check_row (aCons (eVar 0) (aCons (eVar 1) (aNil))))) k [some (rowD ps), some (fD far), some P, none, none, none] m = k [some (rowD ps), some (fD far), some P, none, none, none] m := fun k => by
      simp [R_chkrow_ok R]
    rw [s1]
    have s2 : ∀ k : SF, sSeq (sIf (tOrD (tNotD (tE (eIsi "tuple" (eVar 2)))) (tOrD (tCmp (opOrd .Lt) (eB bLen (aCons (eVar 2) (aNil))) (eC (.int 2))) (tNotD (tE (eB (bAllB false) (aCons (eLc false [5] (iE (eVar 2)) (gN 5) (tYesD) (eCall R_is_number (aCons (eVar 5) (aNil)))) (aNil))))))) (sRet (eC (.bl false))) (sNil)) k [some (rowD ps), some (fD far), some P, none, none, none] m = k [some (rowD ps), some (fD far), some P, none, none, none] m := fun k => by
      simp only [sSeq_ap, sIf_ap, tOr_ap, tNot_ap, tE_ap, eIsi_ap, eVar_ap, List.getElem?_cons_zero, List.getElem?_cons_succ, Res.bind_ok, hisi, noexc_ok, asB_ap, Bool.not_true, tCmp_ap, eB_ap, aCons_ap, aNil_ap, hbl, eC_ap, opLt_int, decide_eq_false h', eLc_ap, iE_ap, hsrc, wipeD, List.set_cons_zero, List.set_cons_succ, lcS_its, hlc, hnl, hall, Res.st_ok, sNil_ap, SRes.then_nx, Bool.false_eq_true, if_false]
    rw [s2]
    have s3 : ∀ k : SF, sSeq (sIf (tOrD (tCmp opNe (eIx (eVar 2) (eC (.int 0))) (eC (.int 0))) (tCmp opNe (eIx (eVar 2) (eUn opNeg (eC (.int 1)))) (eOp opSub (eB bLen (aCons (eVar 0) (aNil))) (eC (.int 1))))) (sRet (eC (.bl false))) (sNil)) k [some (rowD ps), some (fD far), some P, none, none, none] m
        = if a = 0 ∧ z = ps.length - 1 then k [some (rowD ps), some (fD far), some P, none, none, none] m else .rt (.bl false) m := fun k => by
      by_cases ha : a = 0
      · by_cases hz' : z = ps.length - 1
        · have : (z : Int) = (ps.length : Int) - 1 := by omega
          simp [i0, i1, ha, ← this, hz']
        · have : ¬ (z : Int) = (ps.length : Int) - 1 := by omega
          simp [i0, i1, ha, this, hz']
      · have : ¬ (a : Int) = 0 := by omega
        simp [i0, ha, this]
    rw [s3]
    by_cases hc : a = 0 ∧ z = ps.length - 1
    · rw [if_pos hc]
      obtain ⟨s', e⟩ := af_loop R (m := m) (pl := some P) (z := none) (a :: t) none none (hb (by rw [List.head?_cons, hc.1]) (by rw [hz, hc.2]))
      have ei : iA zipD (aCons (eVar 2) (aCons (eSl false (eVar 2) (pSome (eC (.int 1))) pNone) (aNil))) [some (rowD ps), some (fD far), some P, none, none, none] m = .ok (.its (prs (a :: t))) m := by
        simp only [iA_ap, aCons_ap, eVar_ap, List.getElem?_cons_zero, List.getElem?_cons_succ, Res.bind_ok, eSl_ap, pSome_ap, eC_ap, pNone_ap, hs, noexc_ok, aNil_ap, hzip]
      rw [sSeq_ap, sFor_ap, ei, Res.st_ok, forS_its, e, hc.1, hc.2]
      by_cases hch : chB (nearB ps far) (0 :: t) = true
      · simp [hch, hc.1]
      · have : chB (nearB ps far) (0 :: t) = false := by simpa using hch
        simp [this, hc.1]
    · rw [if_neg hc]
      congr 2
      symm
      rw [Bool.and_eq_false_iff, Bool.and_eq_false_iff]
      left
      by_cases ha : a = 0
      · right; exact decide_eq_false fun q => hc ⟨ha, Option.some.inj q⟩
      · left; exact decide_eq_false fun q => ha (Option.some.inj q)
  unfold R_are_fewer fnR
  rw [st6_3, eb]
end
end K93
namespace PD
open PySem L2
/-! ### the box of drawn numbers, the same in every law -/
def boxD (xs : List Int) (a b c : Int) : MO := .lst [.int a, .int b, .int c, .lst (xs.map D.int)]
def Mb (M : Mem) (n : Nat) (xs : List Int) (a b c : Int) : Mem := M.set n (boxD xs a b c)
structure BoxAt (M : Mem) (n : Nat) (xs : List Int) : Prop where
  lt : n < M.length
  nn : ∀ x ∈ xs, 0 ≤ x
  len : xs.length ≤ 1000
  at' : ∃ a b c : Int, M[n]? = some (boxD xs a b c) ∧ 0 ≤ a ∧ -9 ≤ b ∧ b ≤ 60 ∧ 0 ≤ c ∧ (b < 0 → a < 1000000000000000000)
section
variable {M : Mem} {n : Nat} {xs : List Int} {a b c : Int}
theorem Mb_get (h : n < M.length) : (Mb M n xs a b c)[n]? = some (boxD xs a b c) := by
  unfold Mb
  rw [List.getElem?_set_self h]
theorem Mb_self (e : M[n]? = some (boxD xs a b c)) : M = Mb M n xs a b c := by
  unfold Mb
  obtain ⟨h, e⟩ := List.getElem?_eq_some_iff.mp e
  rw [← e]
  exact (List.set_getElem_self h).symm
theorem ixb0 (h : n < M.length) : opIx (.ref n) (.int 0) (Mb M n xs a b c) = .ok (.int a) (Mb M n xs a b c) := ix_ref_nat (i := 0) (Mb_get h) rfl
theorem ixb1 (h : n < M.length) : opIx (.ref n) (.int 1) (Mb M n xs a b c) = .ok (.int b) (Mb M n xs a b c) := ix_ref_nat (i := 1) (Mb_get h) rfl
theorem ixb2 (h : n < M.length) : opIx (.ref n) (.int 2) (Mb M n xs a b c) = .ok (.int c) (Mb M n xs a b c) := ix_ref_nat (i := 2) (Mb_get h) rfl
theorem ixb3 (h : n < M.length) : opIx (.ref n) (.int 3) (Mb M n xs a b c) = .ok (.lst (xs.map D.int)) (Mb M n xs a b c) := ix_ref_nat (i := 3) (Mb_get h) rfl
theorem stb0 (h : n < M.length) (v : Int) (σ : Sg) : setIx (.ref n) (.int 0) (.int v) σ (Mb M n xs a b c) = .nx σ (Mb M n xs v b c) := by
  have := setIx_ok (j := 0) (d := .int v) (σ := σ) (Mb_get (xs := xs) (a := a) (b := b) (c := c) h) (by simp)
  rw [show ((0 : Nat) : Int) = 0 from rfl] at this
  rw [this]
  unfold Mb boxD
  rw [List.set_set]; rfl
theorem stb1 (h : n < M.length) (v : Int) (σ : Sg) : setIx (.ref n) (.int 1) (.int v) σ (Mb M n xs a b c) = .nx σ (Mb M n xs a v c) := by
  have := setIx_ok (j := 1) (d := .int v) (σ := σ) (Mb_get (xs := xs) (a := a) (b := b) (c := c) h) (by simp)
  rw [show ((1 : Nat) : Int) = 1 from rfl] at this
  rw [this]
  unfold Mb boxD
  rw [List.set_set]; rfl
theorem stb2 (h : n < M.length) (v : Int) (σ : Sg) : setIx (.ref n) (.int 2) (.int v) σ (Mb M n xs a b c) = .nx σ (Mb M n xs a b v) := by
  have := setIx_ok (j := 2) (d := .int v) (σ := σ) (Mb_get (xs := xs) (a := a) (b := b) (c := c) h) (by simp)
  rw [show ((2 : Nat) : Int) = 2 from rfl] at this
  rw [this]
  unfold Mb boxD
  rw [List.set_set]; rfl
def takeA : SF := sSeq (sSet 2 (eIx (eVar 0) (eC (.int 2)))) (sSeq (sSet 3 (eC (.int 0))) (sSeq (sIf (tCmp (opOrd .Lt) (eVar 2) (eB bLen (aCons (eIx (eVar 0) (eC (.int 3))) (aNil)))) (sSeq (sSet 3 (eIx (eIx (eVar 0) (eC (.int 3))) (eVar 2))) (sAsg (gIx (eVar 0) (eC (.int 1))) (eIf (tCmp (opOrd .GtE) (eVar 3) (eOp opPow (eC (.int 10)) (eC (.int 18)))) (eC (.int 60)) (eUn opNeg (eC (.int 9)))))) (sNil)) (sSeq (sAsg (gIx (eVar 0) (eC (.int 2))) (eOp (opAddX false) (eVar 2) (eC (.int 1)))) (sSeq (sAsg (gIx (eVar 0) (eC (.int 0))) (eVar 3)) (sIf (tCmp opEq (eIx (eVar 0) (eC (.int 1))) (eC (.int 0))) (sRet (eC (.int 0))) (sNil))))))
def takeB : SF := sSeq (sIf (tCmp (opOrd .Gt) (eIx (eVar 0) (eC (.int 1))) (eC (.int 0))) (sSeq (sSet 4 (eOp opMod (eB bInt (aCons (eIx (eVar 0) (eC (.int 0))) (aNil))) (eVar 1))) (sSeq (sAsg (gIx (eVar 0) (eC (.int 0))) (eOp opFdiv (eIx (eVar 0) (eC (.int 0))) (eVar 1))) (sSeq (sAsg (gIx (eVar 0) (eC (.int 1))) (eIf (tCmp (opOrd .Gt) (eIx (eVar 0) (eC (.int 0))) (eC (.int 0))) (eOp opSub (eIx (eVar 0) (eC (.int 1))) (eC (.int 1))) (eC (.int 0)))) (sRet (eVar 4))))) (sNil)) (sSeq (sAsg (gIx (eVar 0) (eC (.int 1))) (eOp (opAddX false) (eIx (eVar 0) (eC (.int 1))) (eC (.int 1)))) (sSeq (sAsg (gIx (eVar 0) (eC (.int 0))) (eOp opMod (eB bInt (aCons (eOp (opAddX false) (eOp (opMulX false) (eIx (eVar 0) (eC (.int 0))) (eC (.int 48271))) (eOp (opMulX false) (eC (.int 69621)) (eOp (opAddX false) (eIx (eVar 0) (eC (.int 1))) (eC (.int 20))))) (aNil))) (eC (.int 2147483647)))) (sRet (eOp opMod (eOp opMod (eB bInt (aCons (eOp (opAddX false) (eOp opFdiv (eIx (eVar 0) (eC (.int 0))) (eC (.int 7))) (eIx (eVar 0) (eC (.int 0)))) (aNil))) (eC (.int 1000003))) (eVar 1)))))
def takeSF : SF := sSeq (sIf (tCmp opEq (eIx (eVar 0) (eC (.int 1))) (eC (.int 0))) takeA (sNil)) takeB
def BOk (a b c : Int) : Prop := 0 ≤ a ∧ -9 ≤ b ∧ b ≤ 60 ∧ 0 ≤ c ∧ (b < 0 → a < 1000000000000000000)
theorem take_b (h : n < M.length) {k : Int} (hk : 0 < k) (hk2 : k.natAbs < 2 ^ 8000) (ok : BOk a b c) (hb : b ≠ 0) (s2 s3 : Option D) : ∃ r a' b' s4, takeB [some (.ref n), some (.int k), s2, s3, none] (Mb M n xs a b c) = .rt (.int r) (Mb M n xs a' b' c) ∧ 0 ≤ r ∧ r < k ∧ BOk a' b' c ∧ s4 = (0 : Int) := by
  obtain ⟨h1, h2, h3, h4, h5⟩ := ok
  have hd : divB k = true := @divB_sz k 8000 hk ⟨hk2⟩ (by omega)
  have hk0 : k ≠ 0 := by omega
  by_cases hp : 0 < b
  · have q0 : 0 ≤ a / k := Int.ediv_nonneg h1 (by omega)
    by_cases hq : 0 < a / k
    · refine ⟨a % k, a / k, b - 1, 0, ?_, Int.emod_nonneg _ hk0, Int.emod_lt_of_pos _ hk, ⟨q0, by omega, by omega, h4, fun z => by omega⟩, rfl⟩
      simp [takeB, ixb0 h, ixb1 h, hp, hk0, hd, hk, stb0 h, stb1 h, hq]
    · refine ⟨a % k, a / k, 0, 0, ?_, Int.emod_nonneg _ hk0, Int.emod_lt_of_pos _ hk, ⟨q0, by omega, by omega, h4, fun z => by omega⟩, rfl⟩
      simp [takeB, ixb0 h, ixb1 h, hp, hk0, hd, hk, stb0 h, stb1 h, hq]
  · have hn : b < 0 := by omega
    have ha := h5 hn
    have z1 : Sz a 60 := ⟨by
      have : (2 : Nat) ^ 60 = 1152921504606846976 := by decide
      omega⟩
    have z2 : Sz (b + 1 + 20) 10 := ⟨by
      have : (2 : Nat) ^ 10 = 1024 := by decide
      omega⟩
    have z3 : Sz (48271 : Int) 16 := ⟨by decide⟩
    have z4 : Sz (69621 : Int) 17 := ⟨by decide⟩
    have m1 : mulB a 48271 = true := @mulB_sz _ _ _ _ z1 z3 (by decide)
    have m2 : mulB 69621 (b + 1 + 20) = true := @mulB_sz _ _ _ _ z4 z2 (by decide)
    have hd7 : (divB 7 || divN 7) = true := by decide
    generalize hA : (a * 48271 + 69621 * (b + 1 + 20)) % 2147483647 = A
    have hA0 : 0 ≤ A := by rw [← hA]; exact Int.emod_nonneg _ (by decide)
    have hA1 : A < 2147483647 := by rw [← hA]; exact Int.emod_lt_of_pos _ (by decide)
    refine ⟨(A / 7 + A) % 1000003 % k, A, b + 1, 0, ?_, Int.emod_nonneg _ hk0, Int.emod_lt_of_pos _ hk, ⟨hA0, by omega, by omega, h4, fun z => by omega⟩, rfl⟩
    have f1 : ∀ i : Int, fmodD i 2147483647 = i % 2147483647 := fun i => fmodD_pos (by decide)
    have f2 : ∀ i : Int, fmodD i 1000003 = i % 1000003 := fun i => fmodD_pos (by decide)
    have f3 : ∀ i : Int, fdivD i 7 = i / 7 := fun i => fdivD_pos (by decide)
    simp [takeB, ixb0 h, ixb1 h, hp, hk0, hk, stb0 h, stb1 h, m1, m2, f1, f2, f3, hA, hd7]
theorem take_ok (B : BoxAt M n xs) {k : Int} (hk : 0 < k) (hk2 : k.natAbs < 2 ^ 8000) : ∃ r o, fnR 5 takeSF [.ref n, .int k] M = .ok (.int r) (M.set n o) ∧ 0 ≤ r ∧ r < k ∧ BoxAt (M.set n o) n xs := by
  obtain ⟨h, nn, hlen, a, b, c, e, ok⟩ := B
  have done : ∀ {r a' b' c' : Int}, takeSF [some (.ref n), some (.int k), none, none, none] (Mb M n xs a b c) = .rt (.int r) (Mb M n xs a' b' c') → 0 ≤ r → r < k → BOk a' b' c' →
      ∃ r o, fnR 5 takeSF [.ref n, .int k] M = .ok (.int r) (M.set n o) ∧ 0 ≤ r ∧ r < k ∧ BoxAt (M.set n o) n xs := fun {r a' b' c'} et r0 rk ok' => by
    refine ⟨r, boxD xs a' b' c', ?_, r0, rk, ⟨by rw [List.length_set]; exact h, nn, hlen, a', b', c', by rw [List.getElem?_set_self h], ok'⟩⟩
    unfold fnR
    have es : startD 5 [D.ref n, D.int k] = [some (.ref n), some (.int k), none, none, none] := rfl
    rw [es]
    conv => lhs; rw [Mb_self e]
    rw [et]
    rfl
  by_cases hb : b = 0
  · subst hb
    obtain ⟨h1, h2, h3, h4, h5⟩ := ok
    obtain ⟨j, rfl⟩ : ∃ j : Nat, c = j := ⟨c.toNat, by omega⟩
    have p10 : (10 : Int) ^ (18 : Int).toNat = 1000000000000000000 := by decide
    by_cases hc : j < xs.length
    · have hc' : (j : Int) < (xs.length : Int) := by omega
      have hx0 : 0 ≤ xs[j] := nn _ (List.getElem_mem hc)
      have ix : ∀ m : Mem, opIx (.lst (xs.map D.int)) (.int j) m = .ok (.int xs[j]) m := fun m => ix_lst_nat (by rw [List.getElem?_map, List.getElem?_eq_getElem hc]; rfl)
      by_cases hbig : 1000000000000000000 ≤ xs[j]
      · obtain ⟨r, a', b', _, et, r0, rk, ok', _⟩ := take_b (M := M) (xs := xs) (a := xs[j]) (b := 60) (c := (j : Int) + 1) h hk hk2 ⟨hx0, by decide, by decide, by omega, fun z => by omega⟩ (by decide) (some (.int j)) (some (.int xs[j]))
        refine done (r := r) (a' := a') (b' := b') (c' := (j : Int) + 1) ?_ r0 rk ok'
        rw [← et]
        simp [takeSF, takeA, ixb0 h, ixb1 h, ixb2 h, ixb3 h, hc', ix, p10, hbig, stb0 h, stb1 h, stb2 h]
      · obtain ⟨r, a', b', _, et, r0, rk, ok', _⟩ := take_b (M := M) (xs := xs) (a := xs[j]) (b := -9) (c := (j : Int) + 1) h hk hk2 ⟨hx0, by decide, by decide, by omega, fun z => by omega⟩ (by decide) (some (.int j)) (some (.int xs[j]))
        refine done (r := r) (a' := a') (b' := b') (c' := (j : Int) + 1) ?_ r0 rk ok'
        rw [← et]
        simp [takeSF, takeA, ixb0 h, ixb1 h, ixb2 h, ixb3 h, hc', ix, p10, hbig, stb0 h, stb1 h, stb2 h]
    · have hc' : ¬ (j : Int) < (xs.length : Int) := by omega
      refine done (r := 0) (a' := 0) (b' := 0) (c' := (j : Int) + 1) ?_ (by decide) hk ⟨by decide, by decide, by decide, by omega, fun z => by omega⟩
      simp [takeSF, takeA, ixb0 h, ixb1 h, ixb2 h, ixb3 h, hc', stb0 h, stb1 h, stb2 h]
  · obtain ⟨r, a', b', _, et, r0, rk, ok', _⟩ := take_b (M := M) (xs := xs) (a := a) (b := b) (c := c) h hk hk2 ok hb none none
    refine done (r := r) (a' := a') (b' := b') (c' := c) ?_ r0 rk ok'
    rw [← et]
    simp [takeSF, ixb1 h, hb]
end
end PD
namespace PD
open PySem L2
def pickSF (F : List D → Mem → Res D) : SF := sRet (eIx (eVar 1) (eCall F (aCons (eVar 0) (aCons (eB bLen (aCons (eVar 1) (aNil))) (aNil)))))
def boxSF (scr : OScr) : SF := sRet (eLst true (aCons (eC (.int 0)) (aCons (eC (.int 0)) (aCons (eC (.int 0)) (aCons (eLc false [1] (iScr scr (eVar 0)) (gN 1) (tYesD) (eB bAbs (aCons (eB bInt (aCons (eVar 1) (aNil))) (aNil)))) (aNil))))))
theorem natL_sz {k : Nat} (h : k ≤ 16777216) : ((k : Int)).natAbs < 2 ^ 8000 := by
  rw [Int.natAbs_natCast]
  refine Nat.lt_of_le_of_lt h ?_
  exact Nat.lt_of_lt_of_le (by decide : 16777216 < 2 ^ 25) (Nat.pow_le_pow_right (by decide) (by decide))
theorem intS_sz {k : Int} (h0 : 0 ≤ k) (h : k ≤ 16777216) : k.natAbs < 2 ^ 8000 := by
  obtain ⟨n, rfl⟩ : ∃ n : Nat, k = n := ⟨k.toNat, by omega⟩
  exact natL_sz (by omega)
theorem pick_ev {F : List D → Mem → Res D} {menu y : D} {n : Nat} {L r : Int} {M M' : Mem} (hl : bLen [menu] M = .ok (.int L) M) (hF : F [.ref n, .int L] M = .ok (.int r) M') (ix : opIx menu (.int r) M' = .ok y M') : fnR 2 (pickSF F) [.ref n, menu] M = .ok y M' := by
  unfold fnR
  have es : startD 2 [D.ref n, menu] = [some (.ref n), some menu] := rfl
  rw [es]
  simp only [pickSF, sRet_ap, eIx_ap, eVar_ap, List.getElem?_cons_zero, List.getElem?_cons_succ, Res.bind_ok, eCall_ap, aCons_ap, eB_ap, aNil_ap, hl, noexc_ok, hF, ix, Res.st_ok]
/-- a draw from a list's value -/
theorem pick_lst {M : Mem} {n : Nat} {xs : List Int} (B : BoxAt M n xs) {ys : List D} (h : 0 < ys.length) (hl : ys.length ≤ 16777216) : ∃ y ∈ ys, ∃ o, fnR 2 (pickSF (fnR 5 takeSF)) [.ref n, .lst ys] M = .ok y (M.set n o) ∧ BoxAt (M.set n o) n xs := by
  obtain ⟨r, o, e, r0, r1, B'⟩ := take_ok B (k := (ys.length : Int)) (by omega) (natL_sz hl)
  obtain ⟨j, rfl⟩ : ∃ j : Nat, r = j := ⟨r.toNat, by omega⟩
  have hj : j < ys.length := by omega
  refine ⟨ys[j], List.getElem_mem hj, o, ?_, B'⟩
  exact pick_ev (bLen_lst ys) e (ix_lst_nat (List.getElem?_eq_getElem hj))
theorem pick_tup {M : Mem} {n : Nat} {xs : List Int} (B : BoxAt M n xs) {ys : List D} (h : 0 < ys.length) (hl : ys.length ≤ 16777216) : ∃ y ∈ ys, ∃ o, fnR 2 (pickSF (fnR 5 takeSF)) [.ref n, .tup ys] M = .ok y (M.set n o) ∧ BoxAt (M.set n o) n xs := by
  obtain ⟨r, o, e, r0, r1, B'⟩ := take_ok B (k := (ys.length : Int)) (by omega) (natL_sz hl)
  obtain ⟨j, rfl⟩ : ∃ j : Nat, r = j := ⟨r.toNat, by omega⟩
  have hj : j < ys.length := by omega
  refine ⟨ys[j], List.getElem_mem hj, o, ?_, B'⟩
  exact pick_ev (bLen_tup ys) e (ix_tup_nat (List.getElem?_eq_getElem hj))
/-- .. from a list of the memory -/
theorem pick_ref {M : Mem} {n p : Nat} {xs : List Int} (B : BoxAt M n xs) (hp : p ≠ n) {ys : List D} (e0 : M[p]? = some (.lst ys)) (h : 0 < ys.length) (hl : ys.length ≤ 16777216) : ∃ y ∈ ys, ∃ o, fnR 2 (pickSF (fnR 5 takeSF)) [.ref n, .ref p] M = .ok y (M.set n o) ∧ BoxAt (M.set n o) n xs := by
  obtain ⟨r, o, e, r0, r1, B'⟩ := take_ok B (k := (ys.length : Int)) (by omega) (natL_sz hl)
  obtain ⟨j, rfl⟩ : ∃ j : Nat, r = j := ⟨r.toNat, by omega⟩
  have hj : j < ys.length := by omega
  refine ⟨ys[j], List.getElem_mem hj, o, ?_, B'⟩
  exact pick_ev (bLen_ref e0) e (ix_ref_nat (by rw [List.getElem?_set_ne (Ne.symm hp)]; exact e0) (List.getElem?_eq_getElem hj))
/-- the box is made -/
theorem box_ok {ns : List Int} {o : OScr} {d : D} (hi : ScrIn ns o d) (hl : ns.length ≤ 63) (m : Mem) : ∃ xs, fnR 2 (boxSF o) [d] m = .ok (.ref m.length) (m ++ [boxD xs 0 0 0]) ∧ BoxAt (m ++ [boxD xs 0 0 0]) m.length xs := by
  have hs : scrOf o d m = .ok (.its (ns.map D.int)) m := by
    cases hi with
    | inH => rfl
    | inK a => exact if_pos rfl
  have hlc : lcL (gN 1) tYesD (eB bAbs (aCons (eB bInt (aCons (eVar 1) (aNil))) (aNil))) [some d, none] (ns.map D.int) m = .ok (ns.map fun x => .int (absI x)) m :=
    lcL_map fun x _ => ⟨[some d, some (.int x)], rfl, by simp⟩
  have hn := newL_f (m := m) (xs := ns.map fun x => D.int (absI x)) (by rw [List.length_map]; omega)
  refine ⟨ns.map absI, ?_, ⟨by simp, fun x hx => ?_, by rw [List.length_map]; omega, 0, 0, 0, by simp, by decide, by decide, by decide, by decide, fun z => by omega⟩⟩
  · unfold fnR
    have es : startD 2 [d] = [some d, none] := rfl
    rw [es]
    have hi' : iScr o (eVar 0) [some d, none] m = .ok (.its (ns.map D.int)) m := hs
    simp [boxSF, hi', wipeD, hlc, hn]
    rw [newL_t (by simp)]
    simp [boxD, List.map_map]
  · obtain ⟨y, _, rfl⟩ := List.mem_map.mp hx
    unfold absI
    split <;> omega
end PD
namespace K93
open PySem L2 PD
theorem R_take_eq : R__law_take = fnR 5 takeSF := rfl
theorem R_pick_eq : R__law_pick = fnR 2 (pickSF (fnR 5 takeSF)) := rfl
theorem R_box_eq (o : OScr) : R__law_box o = fnR 2 (boxSF o) := rfl
/-- a drawn point -/
structure PtOk (p : Pt) : Prop where
  pt : isPt p
  x : p.1.natAbs ≤ 100
  y : p.2.1.natAbs ≤ 100
  w : p.2.2.natAbs ≤ 100
theorem PtOk.sz {p : Pt} (h : PtOk p) : SzP p 20 := by
  have e : (2 : Nat) ^ 20 = 1048576 := by decide
  have := h.x; have := h.y; have := h.w
  exact ⟨⟨by omega⟩, ⟨by omega⟩, ⟨by omega⟩⟩
theorem natAbs_ediv_le {a g : Int} (hg : 0 < g) (h : g ∣ a) : (a / g).natAbs ≤ a.natAbs := by
  rw [Int.natAbs_ediv_of_dvd h]
  exact Nat.div_le_self _ _
theorem g3_dvd (x y w : Int) : g3 x y w ∣ x ∧ g3 x y w ∣ y ∧ g3 x y w ∣ w := by
  unfold g3
  have h1 : gI (gI x y) w ∣ gI x y := Int.gcd_dvd_left _ _
  exact ⟨Int.dvd_trans h1 (Int.gcd_dvd_left _ _), Int.dvd_trans h1 (Int.gcd_dvd_right _ _), Int.gcd_dvd_right _ _⟩
theorem mkP_isPt {x y w : Int} (hw : 0 < w) : isPt (mkP x y w) := by
  have hg : 0 < g3 x y w := gI_pos (a := gI x y) hw
  obtain ⟨d1, d2, d3⟩ := g3_dvd x y w
  refine ⟨?_, ?_⟩
  · have : 0 < w / g3 x y w := Int.ediv_pos_of_pos_of_dvd hw (Int.le_of_lt hg) d3
    exact this
  · show gI (gI (x / g3 x y w) (y / g3 x y w)) (w / g3 x y w) = 1
    have e1 : gI (x / g3 x y w) (y / g3 x y w) = gI x y / g3 x y w := by
      unfold gI
      rw [Int.gcd_ediv d1 d2]
      rw [Int.natCast_ediv, Int.natAbs_of_nonneg (Int.le_of_lt hg)]
    have d4 : g3 x y w ∣ gI x y := Int.gcd_dvd_left _ _
    rw [e1]
    have e2 : gI (gI x y / g3 x y w) (w / g3 x y w) = gI (gI x y) w / g3 x y w := by
      show ((Int.gcd (gI x y / g3 x y w) (w / g3 x y w) : Nat) : Int) = _
      rw [Int.gcd_ediv d4 d3, Int.natCast_ediv, Int.natAbs_of_nonneg (Int.le_of_lt hg)]
      rfl
    rw [e2]
    exact Int.ediv_self (Int.ne_of_gt hg)
theorem mkP_ok {x y w : Int} (hw : 0 < w) (h1 : x.natAbs ≤ 100) (h2 : y.natAbs ≤ 100) (h3 : w.natAbs ≤ 100) : PtOk (mkP x y w) := by
  have hg : 0 < g3 x y w := gI_pos (a := gI x y) hw
  obtain ⟨d1, d2, d3⟩ := g3_dvd x y w
  exact ⟨mkP_isPt hw, Nat.le_trans (natAbs_ediv_le hg d1) h1, Nat.le_trans (natAbs_ediv_le hg d2) h2, Nat.le_trans (natAbs_ediv_le hg d3) h3⟩
theorem R_made_ok {x y w : Int} (hw : 0 < w) (h1 : x.natAbs ≤ 100) (h2 : y.natAbs ≤ 100) (h3 : w.natAbs ≤ 100) (m : Mem) : R__law_made [.int x, .int y, .int w] m = .ok (pD (mkP x y w)) m := by
  have e : (2 : Nat) ^ 20 = 1048576 := by decide
  exact @R_made x y w m 20 ⟨by omega⟩ ⟨by omega⟩ ⟨by omega⟩ (by omega) hw
theorem R_point_ok {M : Mem} {xs : List Int} (B : BoxAt M 0 xs) {wide : Int} (h1 : 1 ≤ wide) (h2 : wide ≤ 40) : ∃ p o, R__law_point [.ref 0, .int wide] M = .ok (pD p) (M.set 0 o) ∧ PtOk p ∧ BoxAt (M.set 0 o) 0 xs := by
  obtain ⟨r1, o1, e1, a1, b1, B1⟩ := take_ok B (k := 4) (by decide) (intS_sz (by decide) (by decide))
  obtain ⟨r2, o2, e2, a2, b2, B2⟩ := take_ok B1 (k := 3) (by decide) (intS_sz (by decide) (by decide))
  obtain ⟨r3, o3, e3, a3, b3, B3⟩ := take_ok B2 (k := 2 * wide + 1) (by omega) (intS_sz (by omega) (by omega))
  obtain ⟨r4, o4, e4, a4, b4, B4⟩ := take_ok B3 (k := 2 * wide + 1) (by omega) (intS_sz (by omega) (by omega))
  rw [← R_take_eq] at e1 e2 e3 e4
  simp only [List.set_set] at e2 e3 e4 B2 B3 B4
  have z1 : Sz wide 10 := ⟨by
    have e : (2 : Nat) ^ 10 = 1024 := by decide
    omega⟩
  have z2 : Sz r1 10 := ⟨by
    have e : (2 : Nat) ^ 10 = 1024 := by decide
    omega⟩
  have hd : 0 ≤ r2 / 2 ∧ r2 / 2 ≤ 1 := by omega
  have z3 : Sz (r2 / 2) 10 := ⟨by
    have e : (2 : Nat) ^ 10 = 1024 := by decide
    omega⟩
  have m1 : mulB 2 wide = true := @mulB_sz 2 wide 2 10 ⟨by decide⟩ z1 (by decide)
  have m2 : mulB r1 (r2 / 2) = true := mulB_sz (by omega)
  have hB : (divB 2 || divN 2) = true := by decide
  have f1 : ∀ i : Int, fdivD i 2 = i / 2 := fun i => fdivD_pos (by decide)
  have hw0 : 0 ≤ r1 * (r2 / 2) := Int.mul_nonneg a1 hd.1
  have hw1 : r1 * (r2 / 2) ≤ 3 := by
    rcases (show r2 / 2 = 0 ∨ r2 / 2 = 1 by omega) with h | h <;> rw [h] <;> omega
  generalize hW : r1 * (r2 / 2) = W at *
  have em := R_made_ok (x := r3 - wide) (y := r4 - wide) (w := 1 + W) (by omega) (by omega) (by omega) (by omega) (M.set 0 o4)
  refine ⟨mkP (r3 - wide) (r4 - wide) (1 + W), o4, ?_, mkP_ok (by omega) (by omega) (by omega) (by omega), B4⟩
  have st : startD 3 [D.ref 0, D.int wide] = [some (.ref 0), some (.int wide), none] := rfl
  unfold R__law_point fnR
  rw [st]
  simp [r__law_point, e1, e2, e3, e4, m1, m2, hB, f1, hW, em]
end K93
namespace K93
open PySem L2 PD
theorem _root_.PD.BoxAt.other {M : Mem} {xs : List Int} {i : Nat} {o : MO} (B : BoxAt M 0 xs) (hi : i ≠ 0) : BoxAt (M.set i o) 0 xs := by
  obtain ⟨h, nn, hl, a, b, c, e, ok⟩ := B
  exact ⟨by rw [List.length_set]; exact h, nn, hl, a, b, c, by rw [List.getElem?_set_ne hi]; exact e, ok⟩
theorem _root_.PD.BoxAt.more {M : Mem} {xs : List Int} {more : Mem} (B : BoxAt M 0 xs) : BoxAt (M ++ more) 0 xs := by
  obtain ⟨h, nn, hl, a, b, c, e, ok⟩ := B
  exact ⟨by rw [List.length_append]; omega, nn, hl, a, b, c, by rw [List.getElem?_append_left h]; exact e, ok⟩
/-! ### the points are drawn -/
structure PtsI (M : Mem) (xs : List Int) (pts : List Pt) : Prop where
  box : BoxAt M 0 xs
  len : M.length = 2
  at1 : M[1]? = some (.lst (pts.map pD))
  ok : ∀ p ∈ pts, PtOk p
  n2 : 2 ≤ pts.length
theorem PtsI.set {M : Mem} {xs : List Int} {pts : List Pt} {o : MO} (I : PtsI M xs pts) (B : BoxAt (M.set 0 o) 0 xs) : PtsI (M.set 0 o) xs pts :=
  ⟨B, by rw [List.length_set]; exact I.len, by rw [List.getElem?_set_ne (by decide)]; exact I.at1, I.ok, I.n2⟩
theorem pts_step {scr : OScr} {M : Mem} {xs : List Int} {pts : List Pt} (I : PtsI M xs pts) (hl : pts.length ≤ 1000) {wide : Int} (h1 : 1 ≤ wide) (h2 : wide ≤ 40) (d0 t4 t5 : Option D) (rest : Sg) :
    ∃ p M', sSeq (C_law_3a0 scr) (C_law_3a1 scr) (d0 :: some (.ref 0) :: some (.int wide) :: some (.ref 1) :: t4 :: t5 :: rest) M = .nx (d0 :: some (.ref 0) :: some (.int wide) :: some (.ref 1) :: t4 :: some (pD p) :: rest) M' ∧ PtsI M' xs (pts ++ [p]) := by
  obtain ⟨r, o, e, r0, r1, B⟩ := take_ok I.box (k := 5) (by decide) (intS_sz (by decide) (by decide))
  rw [← R_take_eq] at e
  have I1 := I.set B
  have app : ∀ (M : Mem) (p : Pt), PtsI M xs pts → PtOk p → ∃ M', mAppend (.ref 1) [pD p] M = .ok .non M' ∧ isLs M (.ref 1) = true ∧ PtsI M' xs (pts ++ [p]) := fun M p J ok => by
    refine ⟨M.set 1 (.lst (pts.map pD ++ [pD p])), mAppend_ok J.at1 (by rw [List.length_map]; omega), isLs_ref J.at1, J.box.other (by decide), by rw [List.length_set]; exact J.len, ?_, fun q hq => ?_, by have := J.n2; simp; omega⟩
    · rw [List.getElem?_set_self (by have := J.len; omega), List.map_append]; rfl
    · rcases List.mem_append.mp hq with hq | hq
      · exact J.ok q hq
      · rw [List.mem_singleton] at hq; subst hq; exact ok
  by_cases hr : r = 0
  · obtain ⟨y, hy, o2, e2, B2⟩ := pick_ref I1.box (p := 1) (by decide) I1.at1 (by rw [List.length_map]; have := I.n2; omega) (by rw [List.length_map]; omega)
    rw [← R_pick_eq] at e2
    obtain ⟨p, hp, rfl⟩ := List.mem_map.mp hy
    obtain ⟨M', e3, e4, J⟩ := app _ p (I1.set B2) (I.ok p hp)
    refine ⟨p, M', ?_, J⟩
    simp only [List.set_set] at e2 e3 e4
    simp [r_law_3a0, r_law_3a1, e, hr, e2, e3, e4]
  · obtain ⟨p, o2, e2, ok, B2⟩ := R_point_ok I1.box h1 h2
    obtain ⟨M', e3, e4, J⟩ := app _ p (I1.set B2) ok
    refine ⟨p, M', ?_, J⟩
    simp only [List.set_set] at e2 e3 e4
    simp [r_law_3a0, r_law_3a1, e, hr, e2, e3, e4]
theorem pts_loop {scr : OScr} {xs : List Int} {wide : Int} (h1 : 1 ≤ wide) (h2 : wide ≤ 40) (d0 : Option D) (rest : Sg) : ∀ (l : List Int) (M : Mem) (pts : List Pt) (t4 t5 : Option D), PtsI M xs pts → pts.length + l.length ≤ 1000 →
    ∃ t4' t5' M' pts', forL (gN 4) (sSeq (C_law_3a0 scr) (C_law_3a1 scr)) (l.map D.int) (d0 :: some (.ref 0) :: some (.int wide) :: some (.ref 1) :: t4 :: t5 :: rest) M = .nx (d0 :: some (.ref 0) :: some (.int wide) :: some (.ref 1) :: t4' :: t5' :: rest) M' ∧ PtsI M' xs pts' ∧ pts'.length = pts.length + l.length
  | [], M, pts, t4, t5, I, _ => ⟨t4, t5, M, pts, rfl, I, rfl⟩
  | x :: l, M, pts, t4, t5, I, hl => by
    rw [List.length_cons] at hl
    obtain ⟨p, M1, e1, I1⟩ := pts_step (scr := scr) I (by omega) h1 h2 d0 (some (.int x)) t5 rest
    obtain ⟨t4', t5', M', pts', e2, I2, hn⟩ := pts_loop (scr := scr) h1 h2 d0 rest l M1 (pts ++ [p]) (some (.int x)) (some (pD p)) I1 (by rw [List.length_append, List.length_singleton]; omega)
    refine ⟨t4', t5', M', pts', ?_, I2, by rw [hn, List.length_append, List.length_singleton, List.length_cons]; omega⟩
    rw [List.map_cons, forL_step (σ1 := d0 :: some (.ref 0) :: some (.int wide) :: some (.ref 1) :: some (.int x) :: t5 :: rest) (m1 := M) rfl, e1, turnK_nx, e2]
/-! ### neighbours that are one are put together -/
def addP (row : List Pt) (p : Pt) : List Pt := if row.getLast? = some p then row else row ++ [p]
structure RowI (M : Mem) (xs : List Int) (pts row : List Pt) : Prop where
  box : BoxAt M 0 xs
  len : M.length = 3
  at1 : M[1]? = some (.lst (pts.map pD))
  at2 : M[2]? = some (.lst (row.map pD))
  ok : ∀ p ∈ row, PtOk p
  adj : ∀ (k : Nat) (p q : Pt), row[k]? = some p → row[k + 1]? = some q → p ≠ q
theorem adj_snoc {row : List Pt} {p : Pt} (h : ∀ (k : Nat) (p q : Pt), row[k]? = some p → row[k + 1]? = some q → p ≠ q) (hp : row.getLast? ≠ some p) : ∀ (k : Nat) (a b : Pt), (row ++ [p])[k]? = some a → (row ++ [p])[k + 1]? = some b → a ≠ b := by
  intro k a b ha hb
  have hk : k + 1 < (row ++ [p]).length := (List.getElem?_eq_some_iff.mp hb).1
  rw [List.length_append, List.length_singleton] at hk
  by_cases hk2 : k + 1 < row.length
  · rw [List.getElem?_append_left (by omega)] at ha
    rw [List.getElem?_append_left hk2] at hb
    exact h k a b ha hb
  · have e : k + 1 = row.length := by omega
    rw [List.getElem?_append_left (by omega)] at ha
    rw [e, List.getElem?_append_right (Nat.le_refl _), Nat.sub_self] at hb
    cases hb
    rintro rfl
    apply hp
    rw [List.getLast?_eq_getElem?, ← e, Nat.add_sub_cancel]
    exact ha
theorem RowI.add {M : Mem} {xs : List Int} {pts row : List Pt} {p : Pt} (I : RowI M xs pts row) (ok : PtOk p) (hp : row.getLast? ≠ some p) : RowI (M.set 2 (.lst ((row ++ [p]).map pD))) xs pts (row ++ [p]) where
  box := I.box.other (by decide)
  len := by rw [List.length_set]; exact I.len
  at1 := by rw [List.getElem?_set_ne (by decide)]; exact I.at1
  at2 := by rw [List.getElem?_set_self (by have := I.len; omega)]
  ok := fun q hq => by
    rcases List.mem_append.mp hq with hq | hq
    · exact I.ok q hq
    · rw [List.mem_singleton] at hq; subst hq; exact ok
  adj := adj_snoc I.adj hp
theorem row_step {scr : OScr} {M : Mem} {xs : List Int} {pts row : List Pt} {p : Pt} (I : RowI M xs pts row) (ok : PtOk p) (hl : row.length ≤ 1000) (d0 d1 d2 d3 d4 : Option D) (rest : Sg) :
    ∃ M', C_law_5a0 scr (d0 :: d1 :: d2 :: d3 :: d4 :: some (pD p) :: some (.ref 2) :: rest) M = .nx (d0 :: d1 :: d2 :: d3 :: d4 :: some (pD p) :: some (.ref 2) :: rest) M' ∧ RowI M' xs pts (addP row p) := by
  have hsh : sh 60 (.lst (row.map pD)) = true := by rw [sh60_lst]; exact shs_map fun q _ => pD_sh 58 q
  have q1 : opEq (.ref 2) (.lst []) M = .ok (.bl row.isEmpty) M := by
    rw [opEq_of (by rw [deref_ref I.at2]; exact hsh) rfl, deref_ref I.at2, deref_lst, eqD_lst, eqDs_n]
    simp
  have ap : mAppend (.ref 2) [pD p] M = .ok .non (M.set 2 (.lst ((row ++ [p]).map pD))) := by
    rw [mAppend_ok I.at2 (by rw [List.length_map]; omega), List.map_append]; rfl
  have il : isLs M (.ref 2) = true := isLs_ref I.at2
  unfold addP
  by_cases he : row = []
  · subst he
    refine ⟨_, ?_, I.add ok (by simp)⟩
    simp at q1
    simp [r_law_5a0, r_law_5a0a0, newL_f, q1, ap, il]
  · have hE : row.isEmpty = false := by simpa using he
    obtain ⟨z, hz⟩ : ∃ z, row.getLast? = some z := ⟨row.getLast he, List.getLast?_eq_some_getLast he⟩
    have ix : opIx (.ref 2) (.int (-1)) M = .ok (pD z) M := ix_ref_last I.at2 (by rw [List.getLast?_map, hz]; rfl)
    have ne : opNe (pD z) (pD p) M = .ok (.bl (!decide (z = p))) M := by
      rw [opNe_of (x := pD z) (y := pD p) rfl rfl]
      show Res.ok (D.bl (!eqD (pD z) (pD p))) M = _
      rw [pD_eq]
    rw [hz]
    by_cases hzp : z = p
    · subst hzp
      rw [if_pos rfl]
      refine ⟨M, ?_, I⟩
      simp [r_law_5a0, newL_f, q1, hE, ix, ne]
    · rw [if_neg (fun q => hzp (Option.some.inj q))]
      refine ⟨_, ?_, I.add ok (by rw [hz]; exact fun q => hzp (Option.some.inj q))⟩
      simp [r_law_5a0, r_law_5a0a0, newL_f, q1, hE, ix, ne, hzp, ap, il]
theorem row_loop' {scr : OScr} {xs : List Int} {pts : List Pt} (hok : ∀ p ∈ pts, PtOk p) (d0 d1 d2 d3 d4 : Option D) (rest : Sg) : ∀ (k i : Nat) (M : Mem) (row : List Pt) (t5 : Option D) (f : Nat), RowI M xs pts row → i + k = pts.length → k < f → row.length + k ≤ 1000 →
    ∃ t5' M' row', forR 1 (gN 5) (C_law_5a0 scr) f i (d0 :: d1 :: d2 :: d3 :: d4 :: t5 :: some (.ref 2) :: rest) M = .nx (d0 :: d1 :: d2 :: d3 :: d4 :: t5' :: some (.ref 2) :: rest) M' ∧ RowI M' xs pts row' ∧ row'.length ≤ row.length + k ∧ (row ≠ [] ∨ k ≠ 0 → row' ≠ [])
  | 0, i, M, row, t5, f, I, hi, hf, _ => by
    obtain ⟨f, rfl⟩ : ∃ q, f = q + 1 := ⟨f - 1, by omega⟩
    refine ⟨t5, M, row, ?_, I, Nat.le_refl _, fun h => by simpa using h⟩
    unfold forR
    have : (pts.map pD)[i]? = none := List.getElem?_eq_none (by rw [List.length_map]; omega)
    simp only [I.at1, this]
  | k + 1, i, M, row, t5, f, I, hi, hf, hl => by
    obtain ⟨f, rfl⟩ : ∃ q, f = q + 1 := ⟨f - 1, by omega⟩
    have hlt : i < pts.length := by omega
    obtain ⟨M1, e1, I1⟩ := row_step (scr := scr) I (hok _ (atP_mem hlt)) (by omega) d0 d1 d2 d3 d4 rest
    have hadd : (addP row (atP pts i)).length ≤ row.length + 1 ∧ addP row (atP pts i) ≠ [] := by
      unfold addP
      split
      · rename_i h
        exact ⟨by omega, fun z => by rw [z] at h; simp at h⟩
      · exact ⟨by simp, by simp⟩
    obtain ⟨t5', M', row', e2, I2, l2, n2⟩ := row_loop' (scr := scr) hok d0 d1 d2 d3 d4 rest k (i + 1) M1 _ (some (pD (atP pts i))) f I1 (by omega) (by omega) (by omega)
    refine ⟨t5', M', row', ?_, I2, by omega, fun _ => n2 (.inl hadd.2)⟩
    unfold forR
    simp only [I.at1, row_get hlt, gN_ap, SRes.then_nx, List.set_cons_succ, List.set_cons_zero, e1]
    exact e2
end K93
namespace K93
open PySem L2 PD
abbrev S20 (d d1 d2 d3 d4 d5 d6 d7 d8 d9 d10 d11 d12 d13 d14 d15 d16 : Option D) : Sg := [d, d1, d2, d3, d4, d5, d6, d7, d8, d9, d10, d11, d12, d13, d14, d15, d16, none, none, none]
structure PtL (p : Pt) : Prop where
  pt : isPt p
  x : p.1.natAbs ≤ 1000
  y : p.2.1.natAbs ≤ 1000
  w : p.2.2.natAbs ≤ 1000
theorem PtL.sz {p : Pt} (h : PtL p) : SzP p 20 := by
  have e : (2 : Nat) ^ 20 = 1048576 := by decide
  have := h.x; have := h.y; have := h.w
  exact ⟨⟨by omega⟩, ⟨by omega⟩, ⟨by omega⟩⟩
theorem PtL.of {p : Pt} (h : PtOk p) : PtL p := ⟨h.pt, Nat.le_trans h.x (by decide), Nat.le_trans h.y (by decide), Nat.le_trans h.w (by decide)⟩
/-- a point's neighbour -/
theorem next_ok {z : Pt} (h : PtOk z) : PtL (mkP (z.1 + z.2.2) z.2.1 z.2.2) ∧ z ≠ mkP (z.1 + z.2.2) z.2.1 z.2.2 := by
  have hw := h.pt.1
  have bx := h.x; have by' := h.y; have bw := h.w
  have hg : 0 < g3 (z.1 + z.2.2) z.2.1 z.2.2 := gI_pos (a := gI (z.1 + z.2.2) z.2.1) (by omega)
  obtain ⟨d1, d2, d3⟩ := g3_dvd (z.1 + z.2.2) z.2.1 z.2.2
  refine ⟨⟨mkP_isPt (by omega), ?_, ?_, ?_⟩, fun e => ?_⟩
  · exact Nat.le_trans (natAbs_ediv_le hg d1) (by omega)
  · exact Nat.le_trans (natAbs_ediv_le hg d2) (by omega)
  · exact Nat.le_trans (natAbs_ediv_le hg d3) (by omega)
  · have e1 : z.1 = (z.1 + z.2.2) / g3 (z.1 + z.2.2) z.2.1 z.2.2 := congrArg (fun p : Pt => p.1) e
    have e3 : z.2.2 = z.2.2 / g3 (z.1 + z.2.2) z.2.1 z.2.2 := congrArg (fun p : Pt => p.2.2) e
    have h3 := Int.ediv_mul_cancel d3
    have h1 := Int.ediv_mul_cancel d1
    rw [← e3] at h3
    rw [← e1] at h1
    generalize g3 (z.1 + z.2.2) z.2.1 z.2.2 = g at h1 h3 hg
    have hg1 : g = 1 := by
      have : z.2.2 * g = z.2.2 * 1 := by omega
      exact Int.eq_of_mul_eq_mul_left (by omega) this
    rw [hg1] at h1
    omega
/-- what the row of points is -/
structure RowP (ps : List Pt) : Prop where
  n2 : 2 ≤ ps.length
  n24 : ps.length ≤ 20
  ok : ∀ p ∈ ps, PtL p
  adj : ∀ (k : Nat) (p q : Pt), ps[k]? = some p → ps[k + 1]? = some q → p ≠ q
theorem phaseA {ns : List Int} {o : OScr} {d : D} (hi : ScrIn ns o d) (hl : ns.length ≤ 63) (k : SF) : ∃ (wide : Int) (xs : List Int) (ps : List Pt) (M : Mem) (t4 t5 t6 : Option D), 1 ≤ wide ∧ wide ≤ 40 ∧ BoxAt M 0 xs ∧ RowP ps ∧
    sSeq (C_law_0 o) (sSeq (C_law_1 o) (sSeq (C_law_2 o) (sSeq (C_law_3 o) (sSeq (C_law_4 o) (sSeq (C_law_5 o) (sSeq (C_law_6 o) (sSeq (C_law_7 o) k))))))) (startD 20 [d]) [] = k (S20 (some d) (some (.ref 0)) (some (.int wide)) (some (rowD ps)) t4 t5 t6 (some (.int ps.length)) none none none none none none none none none) M := by
  obtain ⟨xs, e0, B0⟩ := box_ok hi hl []
  rw [← R_box_eq] at e0
  rw [List.nil_append] at e0 B0
  have e0 : R__law_box o [d] [] = .ok (.ref 0) [boxD xs 0 0 0] := e0
  have B0 : BoxAt [boxD xs 0 0 0] 0 xs := B0
  have st : startD 20 [d] = S20 (some d) none none none none none none none none none none none none none none none none := rfl
  -- the width
  obtain ⟨y, hy, o1, e1, B1⟩ := pick_lst (n := 0) B0 (ys := [.int 2, .int 5, .int 40]) (by decide) (by decide)
  rw [← R_pick_eq] at e1
  obtain ⟨wide, hw1, hw2, rfl⟩ : ∃ wide : Int, 1 ≤ wide ∧ wide ≤ 40 ∧ y = .int wide := by
    simp only [List.mem_cons, List.not_mem_nil, or_false] at hy
    rcases hy with rfl | rfl | rfl
    · exact ⟨2, by decide, by decide, rfl⟩
    · exact ⟨5, by decide, by decide, rfl⟩
    · exact ⟨40, by decide, by decide, rfl⟩
  -- two points
  obtain ⟨p, o2, e2, ok2, B2⟩ := R_point_ok B1 hw1 hw2
  obtain ⟨q, o3, e3, ok3, B3⟩ := R_point_ok B2 hw1 hw2
  have e1 : R__law_pick [.ref 0, .lst [.int 2, .int 5, .int 40]] [boxD xs 0 0 0] = .ok (.int wide) [o1] := e1
  have e2 : R__law_point [.ref 0, .int wide] [o1] = .ok (pD p) [o2] := e2
  have e3 : R__law_point [.ref 0, .int wide] [o2] = .ok (pD q) [o3] := e3
  have B3 : BoxAt [o3] 0 xs := B3
  have I0 : PtsI ([o3] ++ [.lst [pD p, pD q]]) xs [p, q] := ⟨B3.more, rfl, rfl, fun z hz => by
    simp only [List.mem_cons, List.not_mem_nil, or_false] at hz
    rcases hz with rfl | rfl
    · exact ok2
    · exact ok3, by simp⟩
  -- the others
  obtain ⟨r, o4, e4, r0, r1, B4⟩ := take_ok I0.box (k := 8) (by decide) (intS_sz (by decide) (by decide))
  rw [← R_take_eq] at e4
  have I1 := I0.set B4
  obtain ⟨j, rfl⟩ : ∃ j : Nat, r = j := ⟨r.toNat, by omega⟩
  obtain ⟨t4, t5, M5, pts, e5, I5, hn5⟩ := pts_loop (scr := o) hw1 hw2 (some d) [none, none, none, none, none, none, none, none, none, none, none, none, none, none] ((List.range j).map fun (i : Nat) => (0 : Int) + i) _ [p, q] none none I1 (by simp; omega)
  have hr1 : ∀ M : Mem, range1 [.int (j : Int)] M = .ok (.its (((List.range j).map fun (i : Nat) => (0 : Int) + i).map D.int)) M := fun M => by
    rw [range1_ok (bnd_of (by omega) (by omega)), List.map_map]
    rfl
  -- the row
  have I6 : RowI (M5 ++ [.lst []]) xs pts [] := ⟨I5.box.more, by rw [List.length_append, I5.len]; rfl, by rw [List.getElem?_append_left (by rw [I5.len]; decide)]; exact I5.at1, by rw [List.getElem?_append_right (by rw [I5.len]; exact Nat.le_refl _), I5.len]; rfl, fun z hz => (List.not_mem_nil hz).elim, fun k a b h => by simp at h⟩
  have hnp : pts.length = 2 + j := by rw [hn5]; simp
  obtain ⟨t5', M7, row, e7, I7, l7, n7⟩ := row_loop' (scr := o) I5.ok (some d) (some (.ref 0)) (some (.int wide)) (some (.ref 1)) t4 [none, none, none, none, none, none, none, none, none, none, none, none, none] pts.length 0 _ [] t5 FUEL I6 (by omega) (by unfold FUEL; omega) (by simp; omega)
  have hrow : row ≠ [] := n7 (.inr (by omega))
  have hnl : newL true [] M5 = .ok (.ref 2) (M5 ++ [.lst []]) := by rw [newL_t (by simp), I5.len]
  have hsrc : srcOf (.ref 1) (M5 ++ [.lst []]) = .ok (.mem 1) (M5 ++ [.lst []]) := by
    unfold srcOf; simp only [I6.at1]
  have hM2 : newL true [pD p, pD q] [o3] = .ok (.ref 1) ([o3] ++ [.lst [pD p, pD q]]) := newL_t (by simp)
  have s0 : ∀ k : SF, sSeq (C_law_0 o) k (startD 20 [d]) [] = k (S20 (some d) (some (.ref 0)) none none none none none none none none none none none none none none none) [boxD xs 0 0 0] := fun k => by
    rw [st]
    simp only [r_law_0, sSeq_ap, sSet_ap, eCall_ap, aCons_ap, eVar_ap, aNil_ap, List.getElem?_cons_zero, Res.bind_ok, e0, Res.st_ok, SRes.then_nx, List.set_cons_zero, List.set_cons_succ]
  have s1 : ∀ k : SF, sSeq (C_law_1 o) k (S20 (some d) (some (.ref 0)) none none none none none none none none none none none none none none none) [boxD xs 0 0 0] = k (S20 (some d) (some (.ref 0)) (some (.int wide)) none none none none none none none none none none none none none none) [o1] := fun k => by
    simp only [r_law_1, sSeq_ap, sSet_ap, eCall_ap, aCons_ap, eVar_ap, eC_ap, eLst_ap, aNil_ap, List.getElem?_cons_zero, List.getElem?_cons_succ, Res.bind_ok, newL_f (m := [boxD xs 0 0 0]) (xs := [D.int 2, D.int 5, D.int 40]) (by simp), noexc_ok, e1, Res.st_ok, SRes.then_nx, List.set_cons_zero, List.set_cons_succ]
  have s2 : ∀ k : SF, sSeq (C_law_2 o) k (S20 (some d) (some (.ref 0)) (some (.int wide)) none none none none none none none none none none none none none none) [o1] = k (S20 (some d) (some (.ref 0)) (some (.int wide)) (some (.ref 1)) none none none none none none none none none none none none none) ([o3] ++ [.lst [pD p, pD q]]) := fun k => by
    simp only [r_law_2, sSeq_ap, sSet_ap, eCall_ap, aCons_ap, eVar_ap, eC_ap, eLst_ap, aNil_ap, List.getElem?_cons_zero, List.getElem?_cons_succ, Res.bind_ok, noexc_ok, e2, e3, hM2, Res.st_ok, SRes.then_nx, List.set_cons_zero, List.set_cons_succ]
  have s3 : ∀ k : SF, sSeq (C_law_3 o) k (S20 (some d) (some (.ref 0)) (some (.int wide)) (some (.ref 1)) none none none none none none none none none none none none none) ([o3] ++ [.lst [pD p, pD q]]) = k (S20 (some d) (some (.ref 0)) (some (.int wide)) (some (.ref 1)) t4 t5 none none none none none none none none none none none) M5 := fun k => by
    have ei : iA range1 (aCons (eCall R__law_take (aCons (eVar 1) (aCons (eC (.int 8)) (aNil)))) (aNil)) (S20 (some d) (some (.ref 0)) (some (.int wide)) (some (.ref 1)) none none none none none none none none none none none none none) ([o3] ++ [MO.lst [pD p, pD q]]) = .ok (.its (((List.range j).map fun (i : Nat) => (0 : Int) + i).map D.int)) (([o3] ++ [MO.lst [pD p, pD q]]).set 0 o4) := by
      rw [← hr1]
      simp only [iA_ap, eCall_ap, aCons_ap, eVar_ap, eC_ap, aNil_ap, List.getElem?_cons_zero, List.getElem?_cons_succ, Res.bind_ok, e4]
    show sSeq (sFor _ _ (sSeq (C_law_3a0 o) (C_law_3a1 o))) k _ _ = _
    rw [sSeq_ap, sFor_ap, ei, Res.st_ok, forS_its, e5]
    rfl
  have s4 : ∀ k : SF, sSeq (C_law_4 o) k (S20 (some d) (some (.ref 0)) (some (.int wide)) (some (.ref 1)) t4 t5 none none none none none none none none none none none) M5 = k (S20 (some d) (some (.ref 0)) (some (.int wide)) (some (.ref 1)) t4 t5 (some (.ref 2)) none none none none none none none none none none) (M5 ++ [.lst []]) := fun k => by
    simp only [r_law_4, sSeq_ap, sSet_ap, eLst_ap, aNil_ap, Res.bind_ok, noexc_ok, hnl, Res.st_ok, SRes.then_nx, List.set_cons_zero, List.set_cons_succ]
  have s5 : ∀ k : SF, sSeq (C_law_5 o) k (S20 (some d) (some (.ref 0)) (some (.int wide)) (some (.ref 1)) t4 t5 (some (.ref 2)) none none none none none none none none none none) (M5 ++ [.lst []]) = k (S20 (some d) (some (.ref 0)) (some (.int wide)) (some (.ref 1)) t4 t5' (some (.ref 2)) none none none none none none none none none none) M7 := fun k => by
    show sSeq (sFor _ _ (C_law_5a0 o)) k _ _ = _
    rw [sSeq_ap, sFor_ap]
    simp only [iE_ap, eVar_ap, List.getElem?_cons_zero, List.getElem?_cons_succ, Res.bind_ok, hsrc, Res.st_ok]
    show (forR 1 (gN 5) (C_law_5a0 o) FUEL 0 _ _).then k = _
    rw [e7]
    rfl
  -- at least two
  obtain ⟨ps, M8, e8, I8, hps, hps2⟩ : ∃ (ps : List Pt) (M8 : Mem), (∀ k : SF, sSeq (C_law_6 o) k (S20 (some d) (some (.ref 0)) (some (.int wide)) (some (.ref 1)) t4 t5' (some (.ref 2)) none none none none none none none none none none) M7 = k (S20 (some d) (some (.ref 0)) (some (.int wide)) (some (.ref 1)) t4 t5' (some (.ref 2)) none none none none none none none none none none) M8) ∧ (BoxAt M8 0 xs ∧ M8[2]? = some (.lst (ps.map pD)) ∧ (∀ p ∈ ps, PtL p) ∧ ∀ (k : Nat) (p q : Pt), ps[k]? = some p → ps[k + 1]? = some q → p ≠ q) ∧ 2 ≤ ps.length ∧ ps.length ≤ 20 := by
    have hb : bLen [.ref 2] M7 = .ok (.int row.length) M7 := by rw [bLen_ref I7.at2, List.length_map]
    by_cases h2 : 2 ≤ row.length
    · refine ⟨row, M7, fun k => ?_, ⟨I7.box, I7.at2, fun p hp => PtL.of (I7.ok p hp), I7.adj⟩, h2, by simp at l7; omega⟩
      have : ¬ (row.length : Int) < 2 := by omega
      simp [r_law_6, hb, this]
    · obtain ⟨z, hz⟩ : ∃ z, row = [z] := by
        cases row with
        | nil => exact (hrow rfl).elim
        | cons z t =>
          cases t with
          | nil => exact ⟨z, rfl⟩
          | cons y t => simp at h2
      subst hz
      have okz := I7.ok z List.mem_cons_self
      have hw := okz.pt.1
      have ix : opIx (.ref 2) (.int 0) M7 = .ok (pD z) M7 := ix_ref_nat (i := 0) I7.at2 rfl
      -- bounds: one step to the right
      have e2' : (2 : Nat) ^ 20 = 1048576 := by decide
      have bx := okz.x; have by' := okz.y; have bw := okz.w
      have em : R__law_made [.int (z.1 + z.2.2), .int z.2.1, .int z.2.2] M7 = .ok (pD (mkP (z.1 + z.2.2) z.2.1 z.2.2)) M7 := @R_made _ _ _ M7 20 ⟨by omega⟩ ⟨by omega⟩ ⟨by omega⟩ (by omega) (by omega)
      have okN := next_ok okz
      have adj := adj_snoc I7.adj (p := mkP (z.1 + z.2.2) z.2.1 z.2.2) (by rw [List.getLast?_singleton]; exact fun q => okN.2 (Option.some.inj q))
      have ap : mAppend (.ref 2) [pD (mkP (z.1 + z.2.2) z.2.1 z.2.2)] M7 = .ok .non (M7.set 2 (.lst (([z] ++ [mkP (z.1 + z.2.2) z.2.1 z.2.2]).map pD))) := by
        rw [mAppend_ok I7.at2 (by simp), List.map_append]; rfl
      have il : isLs M7 (.ref 2) = true := isLs_ref I7.at2
      refine ⟨[z] ++ [mkP (z.1 + z.2.2) z.2.1 z.2.2], _, fun k => ?_, ⟨I7.box.other (i := 2) (o := .lst (([z] ++ [mkP (z.1 + z.2.2) z.2.1 z.2.2]).map pD)) (by decide), by rw [List.getElem?_set_self (by have := I7.len; omega)], fun p hp => ?_, adj⟩, by simp, by simp⟩
      rotate_left
      · simp only [List.cons_append, List.nil_append, List.mem_cons, List.not_mem_nil, or_false] at hp
        rcases hp with rfl | rfl
        · exact PtL.of okz
        · exact okN.1
      simp at hb
      simp [r_law_6, r_law_6a0, hb, ix, em, ap, il]
  refine ⟨wide, xs, ps, M8, t4, t5', some (.ref 2), hw1, hw2, I8.1, ⟨hps, hps2, I8.2.2.1, I8.2.2.2⟩, ?_⟩
  rw [s0, s1, s2, s3, s4, s5, e8]
  have hb8 : bLen [.ref 2] M8 = .ok (.int ps.length) M8 := by rw [bLen_ref I8.2.1, List.length_map]
  have hb9 : bTuple [.ref 2] M8 = .ok (rowD ps) M8 := bTuple_ref I8.2.1 (by rw [List.length_map]; omega)
  simp [r_law_7, hb8, hb9]
end K93
namespace K93
open PySem L2 PD
/-! ### a row and its turning -/
theorem atP_rev {ps : List Pt} {i : Nat} (h : i < ps.length) : atP ps.reverse i = atP ps (ps.length - 1 - i) := by
  unfold atP
  rw [List.getD_eq_getElem?_getD, List.getD_eq_getElem?_getD, List.getElem?_reverse h]
theorem mid_rev {ps : List Pt} {i j : Nat} (hij : i < j) (hj : j < ps.length) : mid ps.reverse i j = (mid ps (ps.length - 1 - j) (ps.length - 1 - i)).reverse := by
  unfold mid
  apply List.ext_getElem?
  intro k
  by_cases hk : k < j - (i + 1)
  · rw [List.getElem?_take_of_lt hk, List.getElem?_drop, List.getElem?_reverse (by omega)]
    rw [List.getElem?_reverse (by rw [List.length_take, List.length_drop]; omega)]
    rw [List.length_take, List.length_drop, List.getElem?_take_of_lt (by omega), List.getElem?_drop]
    congr 1
    omega
  · rw [List.getElem?_eq_none (by rw [List.length_take]; omega), List.getElem?_eq_none (by rw [List.length_reverse, List.length_take]; omega)]
theorem near_rev {ps : List Pt} {far : Int × Int} (R : RowOk ps far) {i j : Nat} (hij : i < j) (hj : j < ps.length) : nearB ps.reverse far i j = nearB ps far (ps.length - 1 - j) (ps.length - 1 - i) := by
  unfold nearB
  rw [mid_rev hij hj, List.all_reverse, atP_rev (by omega), atP_rev hj]
  rw [Bool.eq_iff_iff, List.all_eq_true, List.all_eq_true]
  have key : ∀ p ∈ mid ps (ps.length - 1 - j) (ps.length - 1 - i), farB far (atP ps (ps.length - 1 - i)) (atP ps (ps.length - 1 - j)) p = farB far (atP ps (ps.length - 1 - j)) (atP ps (ps.length - 1 - i)) p := fun p hp => by
    have ha := R.pt _ (atP_mem (ps := ps) (i := ps.length - 1 - j) (by omega))
    have hb := R.pt _ (atP_mem (ps := ps) (i := ps.length - 1 - i) (by omega))
    have hc := R.pt p (mid_mem hp)
    unfold farB
    rw [offV_sym (isPt_pos ha) (isPt_pos hb) (isPt_pos hc) fun x y => pt_uniq ha hb x y]
  constructor
  · intro h p hp; rw [← key p hp]; exact h p hp
  · intro h p hp; rw [key p hp]; exact h p hp
theorem way_rev {near near' : Nat → Nat → Bool} {n : Nat} (h : ∀ i j, i < j → j < n → near' (n - 1 - j) (n - 1 - i) = near i j) : ∀ (q : List Nat) (i : Nat) (r : List Nat), i < n → okW near n i q → okW near' n (n - 1 - i) r → ∃ r', okW near' n 0 r' ∧ r'.length = q.length + r.length
  | [], i, r, hi, hq, hr => by
    have : i = n - 1 := hq
    rw [this, Nat.sub_self] at hr
    exact ⟨r, hr, by simp⟩
  | j :: q, i, r, hi, ⟨h1, h2, h3, h4⟩, hr => by
    obtain ⟨r', o, l⟩ := way_rev h q j ((n - 1 - i) :: r) h2 h4 ⟨by omega, by omega, by rw [h i j h1 h2]; exact h3, hr⟩
    exact ⟨r', o, by rw [l, List.length_cons, List.length_cons]; omega⟩
theorem rev_ok {ps : List Pt} {far : Int × Int} (R : RowOk ps far) : RowOk ps.reverse far where
  n2 := by rw [List.length_reverse]; exact R.n2
  n24 := by rw [List.length_reverse]; exact R.n24
  pt := fun p hp => R.pt p (List.mem_reverse.mp hp)
  sz := fun p hp => R.sz p (List.mem_reverse.mp hp)
  fr := R.fr
  f0 := R.f0
  s1 := R.s1
  s2 := R.s2
  adj := fun k p q hp hq => by
    have hk := (List.getElem?_eq_some_iff.mp hq).1
    rw [List.length_reverse] at hk
    rw [List.getElem?_reverse (by omega)] at hp
    rw [List.getElem?_reverse (by omega)] at hq
    have e : ps.length - 1 - k = (ps.length - 1 - (k + 1)) + 1 := by omega
    rw [e] at hp
    exact (R.adj _ q p hq hp).symm
theorem way_len {near : Nat → Nat → Bool} {n : Nat} (hn : 2 ≤ n) (hn1 : ∀ i, i + 1 < n → near i (i + 1) = true) : ∃ q, way near n = 0 :: q ∧ okW near n 0 q ∧ q.length = sx near n 0 :=
  pathF_ok (nx_ok hn1) (n - 1) 0 (by omega) (by omega)
theorem rev_len {ps : List Pt} {far : Int × Int} (R : RowOk ps far) : (way (nearB ps.reverse far) ps.reverse.length).length = (way (nearB ps far) ps.length).length := by
  have n2 := R.n2
  rw [List.length_reverse]
  obtain ⟨q, e, o, l⟩ := way_len (near := nearB ps far) n2 fun i _ => near_next ps far i
  obtain ⟨q', e', o', l'⟩ := way_len (near := nearB ps.reverse far) (n := ps.length) n2 fun i _ => near_next ps.reverse far i
  have h1 : ∀ i j, i < j → j < ps.length → nearB ps.reverse far (ps.length - 1 - j) (ps.length - 1 - i) = nearB ps far i j := fun i j hij hj => by
    rw [near_rev R (by omega) (by omega)]
    congr 1 <;> omega
  have h2 : ∀ i j, i < j → j < ps.length → nearB ps far (ps.length - 1 - j) (ps.length - 1 - i) = nearB ps.reverse far i j := fun i j hij hj => (near_rev R hij hj).symm
  obtain ⟨r, ro, rl⟩ := way_rev h1 q 0 [] (by omega) o (by show ps.length - 1 - 0 = ps.length - 1; omega)
  obtain ⟨r', ro', rl'⟩ := way_rev h2 q' 0 [] (by omega) o' (by show ps.length - 1 - 0 = ps.length - 1; omega)
  have a := way_min (nx_ok (near := nearB ps.reverse far) (n := ps.length) fun i _ => near_next ps.reverse far i) r 0 (by omega) ro
  have b := way_min (nx_ok (near := nearB ps far) (n := ps.length) fun i _ => near_next ps far i) r' 0 (by omega) ro'
  rw [e, e', List.length_cons, List.length_cons]
  simp at rl rl'
  omega
/-! ### a row of places and what are_fewer says of it -/
theorem okW_facts {near : Nat → Nat → Bool} {n : Nat} : ∀ {q : List Nat} {i : Nat}, i < n → okW near n i q → (∀ j ∈ i :: q, j < n) ∧ (i :: q).getLast? = some (n - 1) ∧ q.length + i ≤ n - 1 ∧ (∀ near', chB near' (i :: q) = goodL near' (i :: q))
  | [], i, hi, h => by
    have : i = n - 1 := h
    subst this
    exact ⟨fun j hj => by rw [List.mem_singleton] at hj; omega, rfl, by simp, fun near' => rfl⟩
  | j :: q, i, hi, ⟨h1, h2, _, h4⟩ => by
    obtain ⟨a, b, c, d⟩ := okW_facts h2 h4
    refine ⟨fun k hk => ?_, by rw [List.getLast?_cons_cons]; exact b, by rw [List.length_cons]; omega, fun near' => ?_⟩
    · rcases List.mem_cons.mp hk with rfl | hk
      · exact hi
      · exact a k hk
    · unfold chB goodL
      rw [d near', decide_eq_true h1, Bool.true_and]
theorem are_of_row {ps : List Pt} {far : Int × Int} (R : RowOk ps far) {q : List Nat} (h : okW tt ps.length 0 q) (m : Mem) : R_are_fewer [rowD ps, fD far, rD (0 :: q)] m = .ok (.bl (goodL (nearB ps far) (0 :: q))) m := by
  have n2 := R.n2
  have n24 := R.n24
  obtain ⟨a, b, c, d⟩ := okW_facts (by omega) h
  have hq : q ≠ [] := fun z => by
    subst z
    have : 0 = ps.length - 1 := h
    omega
  have hl : 1 ≤ q.length := by
    cases q with
    | nil => exact (hq rfl).elim
    | cons => simp
  rw [R_are_row R (by rw [List.length_cons]; omega) (by rw [List.length_cons]; omega) m fun _ _ => a, b, d]
  simp
theorem goodL_range (near : Nat → Nat → Bool) : ∀ q : List Nat, ((List.range (q.length - 1)).filter fun i => !near (q.getD i 0) (q.getD (i + 1) 0)) = [] ↔ goodL near q = true
  | [] => by simp [goodL]
  | [a] => by simp [goodL]
  | a :: b :: r => by
    have ih := goodL_range near (b :: r)
    rw [List.filter_eq_nil_iff] at ih ⊢
    unfold goodL
    rw [Bool.and_eq_true, ← ih]
    have hl : (a :: b :: r).length - 1 = (b :: r).length - 1 + 1 := by simp
    constructor
    · intro h
      refine ⟨?_, fun i hi => ?_⟩
      · have := h 0 (by rw [List.mem_range, hl]; omega)
        simpa using this
      · rw [List.mem_range] at hi
        have := h (i + 1) (by rw [List.mem_range, hl]; omega)
        simpa using this
    · rintro ⟨h1, h2⟩ i hi
      rw [List.mem_range, hl] at hi
      cases i with
      | zero => simpa using h1
      | succ i =>
        have := h2 i (by rw [List.mem_range]; omega)
        simpa using this
end K93
namespace K93
open PySem L2 PD
/-! ### the turns of the law -/
def dueD (o : Option (List Nat)) : D := match o with | none => .non | some r => rD r
theorem rD_eq (a b : List Nat) : eqD (rD a) (rD b) = decide (a = b) := by
  unfold rD
  rw [eqD_tup]
  exact eqDs_map (fun x y => by
    simp only [sD, eqD_int]
    rw [Bool.eq_iff_iff, decide_eq_true_iff, decide_eq_true_iff]
    omega) a b
theorem fD_eq (a b : Int × Int) : eqD (fD a) (fD b) = decide (a = b) := by
  obtain ⟨x, y⟩ := a
  obtain ⟨x', y'⟩ := b
  simp [Prod.ext_iff]
theorem opNe_f (a b : Int × Int) (m : Mem) : opNe (fD a) (fD b) m = .ok (.bl (!decide (a = b))) m := by
  rw [opNe_of (x := fD a) (y := fD b) rfl rfl]
  show Res.ok (D.bl (!eqD (fD a) (fD b))) m = _
  rw [fD_eq]
theorem opNe_r (a b : List Nat) (m : Mem) : opNe (rD a) (rD b) m = .ok (.bl (!decide (a = b))) m := by
  rw [opNe_of (x := rD a) (y := rD b) (sh_rD 59 a) (sh_rD 59 b)]
  show Res.ok (D.bl (!eqD (rD a) (rD b))) m = _
  rw [rD_eq]
@[simp] theorem opNe_bl (a b : Bool) (m : Mem) : opNe (.bl a) (.bl b) m = .ok (.bl (!decide (a = b))) m := by rw [opNe_of rfl rfl]; simp
@[simp] theorem opIsB_bl (neg a b : Bool) (m : Mem) : opIsB neg (.bl a) (.bl b) m = .ok (.bl (neg ^^ decide (a = b))) m := rfl
theorem sD_get (q : List Nat) {i : Nat} (h : i < q.length) : (q.map sD)[i]? = some (.int (q.getD i 0 : Nat)) := by
  rw [List.getElem?_map, List.getD_eq_getElem?_getD, List.getElem?_eq_getElem h]; rfl
section
variable {scr : OScr} {ps : List Pt} {far : Int × Int} {d d1 d2 t4 t5 t6 s8 s9 s11 s12 s13 s14 s15 s16 : Option D}
abbrev SL (ps : List Pt) (far : Int × Int) (d d1 d2 t4 t5 t6 s8 s9 s11 s12 s13 s14 s15 s16 : Option D) : Sg := S20 d d1 d2 (some (rowD ps)) t4 t5 t6 (some (.int ps.length)) s8 s9 (some (fD far)) s11 s12 s13 s14 s15 s16
theorem good_lc (R : RowOk ps far) {q : List Nat} (hq : ∀ i ∈ q, i < ps.length) (hl : q.length ≤ 1000) (m : Mem) :
    C_law_8a5a0 scr (SL ps far d d1 d2 t4 t5 t6 s8 s9 s11 s12 (some (rD q)) s14 s15 s16) m = .nx (SL ps far d d1 d2 t4 t5 t6 s8 s9 s11 s12 (some (rD q)) (some (.bl (goodL (nearB ps far) q))) s15 s16) m := by
  have hbl : bLen [rD q] m = .ok (.int q.length) m := by unfold rD; rw [bLen_tup, List.length_map]
  have hr : range2 [.int 1, .int q.length] m = .ok (.its (rngL 1 (q.length - 1))) m := by
    rw [range2_ok (bnd_of (by omega) (by omega)) (bnd_of (by omega) (by omega)), show ((q.length : Int) - 1).toNat = q.length - 1 by omega]
  have hlc : lcL (gN 17) (tNotD (tE (eCall R__law_is_near (aCons (eVar 3) (aCons (eVar 10) (aCons (eIx (eVar 13) (eOp opSub (eVar 17) (eC (.int 1)))) (aCons (eIx (eVar 13) (eVar 17)) (aNil)))))))) (eVar 17) (SL ps far d d1 d2 t4 t5 t6 s8 s9 s11 s12 (some (rD q)) s14 s15 s16) (rngL 1 (q.length - 1)) m
      = .ok (((List.range (q.length - 1)).filter fun i => !nearB ps far (q.getD i 0) (q.getD (i + 1) 0)).map fun (i : Nat) => D.int (1 + (i : Int))) m := by
    unfold rngL
    refine lcL_filter fun i hi => ⟨[d, d1, d2, some (rowD ps), t4, t5, t6, some (.int ps.length), s8, s9, some (fD far), s11, s12, some (rD q), s14, s15, s16, some (.int (1 + (i : Int))), none, none], rfl, ?_, fun _ => rfl⟩
    rw [List.mem_range] at hi
    have e1 : (1 + (i : Int)) - 1 = (i : Int) := by omega
    have e2 : (1 + (i : Int)) = ((i + 1 : Nat) : Int) := by omega
    have i1 : opIx (rD q) (.int (i : Int)) m = .ok (.int (q.getD i 0 : Nat)) m := ix_tup_nat (sD_get q (by omega))
    have i2 : opIx (rD q) (.int ((i + 1 : Nat) : Int)) m = .ok (.int (q.getD (i + 1) 0 : Nat)) m := ix_tup_nat (sD_get q (by omega))
    rw [← e2] at i2
    have mem : ∀ k, k < q.length → q.getD k 0 < ps.length := fun k hk => hq _ (by
      rw [List.getD_eq_getElem?_getD, List.getElem?_eq_getElem hk]
      exact List.getElem_mem hk)
    have g := R_lnear R (mem i (by omega)) (mem (i + 1) (by omega)) m
    simp only [tNot_ap, tE_ap, eCall_ap, aCons_ap, eIx_ap, eOp_ap, eVar_ap, eC_ap, aNil_ap, List.getElem?_cons_zero, List.getElem?_cons_succ, Res.bind_ok, opSub_int, e1, noexc_ok, i1, i2, g, asB_ap]
  have hnl := newL_f (m := m) (xs := ((List.range (q.length - 1)).filter fun i => !nearB ps far (q.getD i 0) (q.getD (i + 1) 0)).map fun (i : Nat) => D.int (1 + (i : Int))) (by
    rw [List.length_map]
    have := List.length_filter_le (fun i => !nearB ps far (q.getD i 0) (q.getD (i + 1) 0)) (List.range (q.length - 1))
    rw [List.length_range] at this
    omega)
  have heq : opEq (.lst (((List.range (q.length - 1)).filter fun i => !nearB ps far (q.getD i 0) (q.getD (i + 1) 0)).map fun (i : Nat) => D.int (1 + (i : Int)))) (.lst []) m = .ok (.bl (goodL (nearB ps far) q)) m := by
    rw [opEq_of (by rw [deref_lst, sh60_lst]; exact shs_map fun _ _ => by simp) rfl]
    congr 2
    rw [deref_lst, deref_lst, eqD_lst, eqDs_n, Bool.eq_iff_iff, ← goodL_range, List.isEmpty_iff, List.map_eq_nil_iff]
  have hnl0 : newL false [] m = .ok (.lst []) m := newL_f (by simp)
  unfold C_law_8a5a0 r_law_8a5a0
  simp only [sSet_ap, eOp_ap, eLc_ap, iA_ap, aCons_ap, eC_ap, eB_ap, eVar_ap, aNil_ap, List.getElem?_cons_zero, List.getElem?_cons_succ, Res.bind_ok, hbl, noexc_ok, hr, wipeD, List.set_cons_zero, List.set_cons_succ, lcS_its]
  rw [hlc]
  simp only [noexc_ok, Res.bind_ok, hnl, eLst_ap, aNil_ap, hnl0, heq, Res.st_ok]
theorem one_step (R : RowOk ps far) {q : List Nat} (h : okW tt ps.length 0 q) (acc : Option (List Nat)) (m : Mem) :
    sSeq (C_law_8a5a0 scr) (sSeq (C_law_8a5a1 scr) (C_law_8a5a2 scr)) (SL ps far d d1 d2 t4 t5 t6 s8 s9 s11 (some (dueD acc)) (some (rD (0 :: q))) s14 s15 s16) m
      = .nx (SL ps far d d1 d2 t4 t5 t6 s8 s9 s11 (some (dueD (acc.or (if goodL (nearB ps far) (0 :: q) then some (0 :: q) else none)))) (some (rD (0 :: q))) (some (.bl (goodL (nearB ps far) (0 :: q)))) s15 s16) m := by
  have n24 := R.n24
  obtain ⟨a, b, c, _⟩ := okW_facts (n := ps.length) (by have := R.n2; omega) h
  have g := good_lc (scr := scr) (d := d) (d1 := d1) (d2 := d2) (t4 := t4) (t5 := t5) (t6 := t6) (s8 := s8) (s9 := s9) (s11 := s11) (s12 := some (dueD acc)) (s14 := s14) (s15 := s15) (s16 := s16) R a (by rw [List.length_cons]; omega) m
  rw [sSeq_ap, g, SRes.then_nx]
  have ar := are_of_row R h m
  generalize goodL (nearB ps far) (0 :: q) = G at ar ⊢
  have hbl : bLen [rD (0 :: q)] m = .ok (.int (0 :: q).length) m := by unfold rD; rw [bLen_tup, List.length_map]
  generalize (0 :: q) = one at ar hbl ⊢
  have last : ∀ x12 : Option D, C_law_8a5a2 scr (SL ps far d d1 d2 t4 t5 t6 s8 s9 s11 x12 (some (rD one)) (some (.bl G)) s15 s16) m = .nx (SL ps far d d1 d2 t4 t5 t6 s8 s9 s11 x12 (some (rD one)) (some (.bl G)) s15 s16) m := fun x12 => by
    unfold C_law_8a5a2 r_law_8a5a2
    by_cases h5 : (one.length : Int) < 5
    · simp only [sIf_ap, tAnd_ap, tCmp_ap, eB_ap, eCall_ap, aCons_ap, eVar_ap, eC_ap, aNil_ap, List.getElem?_cons_zero, List.getElem?_cons_succ, Res.bind_ok, hbl, noexc_ok, opLt_int, h5, decide_true, asB_ap, if_true, ar, opNe_bl, Bool.not_true, Res.st_ok, sNil_ap, Bool.false_eq_true, if_false]
    · simp only [sIf_ap, tAnd_ap, tCmp_ap, eB_ap, aCons_ap, eVar_ap, eC_ap, aNil_ap, List.getElem?_cons_zero, List.getElem?_cons_succ, Res.bind_ok, hbl, noexc_ok, opLt_int, h5, decide_false, asB_ap, Res.st_ok, sNil_ap, Bool.false_eq_true, if_false]
  have mid : C_law_8a5a1 scr (SL ps far d d1 d2 t4 t5 t6 s8 s9 s11 (some (dueD acc)) (some (rD one)) (some (.bl G)) s15 s16) m = .nx (SL ps far d d1 d2 t4 t5 t6 s8 s9 s11 (some (dueD (acc.or (if G then some one else none)))) (some (rD one)) (some (.bl G)) s15 s16) m := by
    unfold C_law_8a5a1 r_law_8a5a1
    cases acc with
    | none =>
      cases G with
      | true => simp [dueD, PD.isNon, r_law_8a5a1a0]
      | false => simp [dueD, PD.isNon]
    | some r => simp [dueD, PD.isNon, rD]
  rw [sSeq_ap, mid, SRes.then_nx, last]
theorem one_loop (R : RowOk ps far) {m : Mem} : ∀ (l : List (List Nat)) (acc : Option (List Nat)) (x13 x14 : Option D), (∀ r ∈ l, ∃ q, r = 0 :: q ∧ okW tt ps.length 0 q) →
    ∃ y13 y14, forL (gN 13) (sSeq (C_law_8a5a0 scr) (sSeq (C_law_8a5a1 scr) (C_law_8a5a2 scr))) (l.map rD) (SL ps far d d1 d2 t4 t5 t6 s8 s9 s11 (some (dueD acc)) x13 x14 s15 s16) m
      = .nx (SL ps far d d1 d2 t4 t5 t6 s8 s9 s11 (some (dueD (acc.or (l.find? (goodL (nearB ps far)))))) y13 y14 s15 s16) m
  | [], acc, x13, x14, _ => ⟨x13, x14, by simp⟩
  | r :: l, acc, x13, x14, h => by
    obtain ⟨q, rfl, hq⟩ := h r List.mem_cons_self
    obtain ⟨y13, y14, e⟩ := one_loop R (m := m) l (acc.or (if goodL (nearB ps far) (0 :: q) then some (0 :: q) else none)) (some (rD (0 :: q))) (some (.bl (goodL (nearB ps far) (0 :: q)))) fun r hr => h r (List.mem_cons_of_mem _ hr)
    refine ⟨y13, y14, ?_⟩
    rw [List.map_cons, forL_step (σ1 := SL ps far d d1 d2 t4 t5 t6 s8 s9 s11 (some (dueD acc)) (some (rD (0 :: q))) x14 s15 s16) (m1 := m) rfl, one_step R hq, turnK_nx, e]
    congr 4
    rw [Option.or_assoc]
    congr 1
    rw [List.find?_cons]
    cases goodL (nearB ps far) (0 :: q) with
    | true => rfl
    | false => rfl
end
end K93
namespace K93
open PySem L2 PD
theorem rowOk_of {ps : List Pt} {far : Int × Int} (P : RowP ps) (fr : isFr far) (f0 : 0 ≤ far.1) (s1 : Sz far.1 1000) (s2 : Sz far.2 1000) : RowOk ps far :=
  ⟨P.n2, by have := P.n24; omega, fun p hp => (P.ok p hp).pt, fun p hp => (P.ok p hp).sz, fr, f0, s1, s2, P.adj⟩
theorem frD_nonneg {n d : Int} (hn : 0 ≤ n) (hd : 0 < d) : 0 ≤ (frD n d).1 := Int.ediv_nonneg hn (Int.le_of_lt (gI_pos hd))
theorem offV_nonneg {a b p : Pt} (ha : 0 < a.2.2) (hb : 0 < b.2.2) (hp : 0 < p.2.2) : 0 ≤ (offV a b p).1 := by
  have w : ∀ a b : Pt, 0 < a.2.2 → 0 < b.2.2 → 0 < sqW a b := fun a b ha hb => Int.mul_pos (Int.mul_pos ha hb) (Int.mul_pos ha hb)
  have sq : ∀ a b : Pt, 0 ≤ sqN a b := fun a b => Int.add_nonneg (sqn _) (sqn _)
  unfold offV
  split
  · exact frD_nonneg (sq _ _) (w _ _ ha hp)
  · rename_i h1
    split
    · exact frD_nonneg (sq _ _) (w _ _ hb hp)
    · exact frD_nonneg (sqn _) (lenD_pos ha hp h1)
theorem fr_one (t : Int) : isFr (t, 1) := by
  refine ⟨Int.le_refl 1, ?_⟩
  show ((Int.gcd t 1 : Nat) : Int) = 1
  rw [Int.gcd_one]; rfl
section
variable {scr : OScr} {ps : List Pt} {far : Int × Int} {xs : List Int} {wide : Int} {d t4 t5 t6 s8 s9 s10 s11 s12 s13 s14 s15 s16 : Option D} {M : Mem}
abbrev SB (ps : List Pt) (wide : Int) (d t4 t5 t6 s8 s9 s10 s11 s12 s13 s14 s15 s16 : Option D) : Sg := S20 d (some (.ref 0)) (some (.int wide)) (some (rowD ps)) t4 t5 t6 (some (.int ps.length)) s8 s9 s10 s11 s12 s13 s14 s15 s16
/-- the draws of a turn -/
theorem turn_draw (P : RowP ps) (B : BoxAt M 0 xs) (h1 : 1 ≤ wide) (h2 : wide ≤ 40) : ∃ a b p M', a ∈ ps ∧ b ∈ ps ∧ PtL p ∧ BoxAt M' 0 xs ∧
    C_law_8a0 scr (SB ps wide d t4 t5 t6 s8 s9 s10 s11 s12 s13 s14 s15 s16) M = .nx (SB ps wide d t4 (some (pD p)) t6 (some (pD a)) (some (pD b)) s10 s11 s12 s13 s14 s15 s16) M' := by
  have n2 := P.n2
  have n24 := P.n24
  obtain ⟨ya, ha, o1, e1, B1⟩ := pick_tup B (ys := ps.map pD) (by rw [List.length_map]; omega) (by rw [List.length_map]; omega)
  obtain ⟨yb, hb, o2, e2, B2⟩ := pick_tup B1 (ys := ps.map pD) (by rw [List.length_map]; omega) (by rw [List.length_map]; omega)
  obtain ⟨p, o3, e3, ok, B3⟩ := R_point_ok B2 h1 h2
  rw [← R_pick_eq] at e1 e2
  obtain ⟨a, ha', rfl⟩ := List.mem_map.mp ha
  obtain ⟨b, hb', rfl⟩ := List.mem_map.mp hb
  refine ⟨a, b, p, _, ha', hb', PtL.of ok, B3, ?_⟩
  unfold C_law_8a0 r_law_8a0
  simp only [sPar3_ap, aCons_ap, eCall_ap, eVar_ap, aNil_ap, List.getElem?_cons_zero, List.getElem?_cons_succ, Res.bind_ok, e1, e2, e3, Res.st_ok, List.set_cons_zero, List.set_cons_succ]
/-- away, told and reckoned -/
theorem turn_away {a b p : Pt} (ha : PtL a) (hb : PtL b) (hp : PtL p) (k : SF) :
    sSeq (C_law_8a1 scr) (sSeq (C_law_8a2 scr) k) (SB ps wide d t4 (some (pD p)) t6 (some (pD a)) (some (pD b)) s10 s11 s12 s13 s14 s15 s16) M
      = k (SB ps wide d t4 (some (pD p)) t6 (some (pD a)) (some (pD b)) (some (fD (offV a b p))) s11 s12 s13 s14 s15 s16) M := by
  have sa := ha.sz; have sb := hb.sz; have sp := hp.sz
  have pa := isPt_pos ha.pt; have pb := isPt_pos hb.pt; have pp := isPt_pos hp.pt
  have e1 := R_away_eq (m := M) ha.pt hb.pt hp.pt
  have e2 := R_away_eq (m := M) hb.pt ha.pt hp.pt
  have e3 := R_laway (m := M) pa pb pp
  rw [offV_sym pa pb pp fun x y => pt_uniq ha.pt hb.pt x y] at e2
  obtain ⟨f1, f2, f3⟩ := offV_fr pa pb pp
  have e4 := R_lisfr (m := M) f2 f3 (by omega)
  generalize offV a b p = F at *
  have ne := opNe_f F F M
  unfold C_law_8a1 r_law_8a1 C_law_8a2 r_law_8a2
  simp only [sSeq_ap, sSet_ap, eCall_ap, aCons_ap, eVar_ap, aNil_ap, List.getElem?_cons_zero, List.getElem?_cons_succ, Res.bind_ok, e1, Res.st_ok, SRes.then_nx, List.set_cons_zero, List.set_cons_succ, sIf_ap, tOr_ap, tCmp_ap, e3, ne, decide_true, Bool.not_true, noexc_ok, asB_ap, e2, tNot_ap, tE_ap, e4, f1, sNil_ap, Bool.false_eq_true, if_false]
/-- far of the first turn -/
theorem turn_far (B : BoxAt M 0 xs) (h1 : 1 ≤ wide) (h2 : wide ≤ 40) {i : Nat} {F : Int × Int} (f1 : isFr F) (f0 : 0 ≤ F.1) (f2 : Sz F.1 1000) (f3 : Sz F.2 1000) : ∃ far M', isFr far ∧ 0 ≤ far.1 ∧ Sz far.1 1000 ∧ Sz far.2 1000 ∧ BoxAt M' 0 xs ∧
    C_law_8a3 scr (SB ps wide d (some (.int i)) t5 t6 s8 s9 (some (fD F)) s11 s12 s13 s14 s15 s16) M = .nx (SB ps wide d (some (.int i)) t5 t6 s8 s9 (some (fD far)) s11 s12 s13 s14 s15 s16) M' := by
  by_cases hi : (i : Int) = 0
  · obtain ⟨r, o, e, r0, r1, B1⟩ := take_ok B (k := 2 * wide) (by omega) (intS_sz (by omega) (by omega))
    rw [← R_take_eq] at e
    have z1 : Sz wide 10 := ⟨by
      have e : (2 : Nat) ^ 10 = 1024 := by decide
      omega⟩
    have z2 : Sz r 10 := ⟨by
      have e : (2 : Nat) ^ 10 = 1024 := by decide
      omega⟩
    have m1 : mulB 2 wide = true := @mulB_sz 2 wide 2 10 ⟨by decide⟩ z1 (by decide)
    refine ⟨(r, 1), M.set 0 o, fr_one r, r0, z2.le (by omega), Sz.one.le (by omega), B1, ?_⟩
    unfold C_law_8a3 r_law_8a3 r_law_8a3a0
    simp only [sIf_ap, tCmp_ap, eVar_ap, eC_ap, List.getElem?_cons_zero, List.getElem?_cons_succ, Res.bind_ok, opEq_int, hi, decide_true, noexc_ok, asB_ap, Res.st_ok, if_true, sSet_ap, eTup_ap, aCons_ap, eCall_ap, eOp_ap, opMulX_int, m1, aNil_ap, e, newT2, List.set_cons_zero, List.set_cons_succ]
  · refine ⟨F, M, f1, f0, f2, f3, B, ?_⟩
    unfold C_law_8a3 r_law_8a3
    simp only [sIf_ap, tCmp_ap, eVar_ap, eC_ap, List.getElem?_cons_zero, List.getElem?_cons_succ, Res.bind_ok, opEq_int, hi, decide_false, noexc_ok, asB_ap, Res.st_ok, Bool.false_eq_true, if_false, sNil_ap]
end
end K93
namespace K93
open PySem L2 PD
theorem BoxAt.drop {M : Mem} {xs : List Int} {more : Mem} (B : BoxAt M 0 xs) : BoxAt (M ++ more) 0 xs := B.more
section
variable {scr : OScr} {ps : List Pt} {far : Int × Int} {xs : List Int} {wide : Int} {d t4 t5 t6 s8 s9 s11 s12 s13 s14 s15 s16 : Option D} {M : Mem}
abbrev SC (ps : List Pt) (far : Int × Int) (wide : Int) (d t4 t5 t6 s8 s9 s11 s12 s13 s14 s15 s16 : Option D) : Sg := SB ps wide d t4 t5 t6 s8 s9 (some (fD far)) s11 s12 s13 s14 s15 s16
abbrev wy (ps : List Pt) (far : Int × Int) : List Nat := way (nearB ps far) ps.length
theorem wy_ok (R : RowOk ps far) : ∃ q, wy ps far = 0 :: q ∧ okW tt ps.length 0 q ∧ goodL (nearB ps far) (wy ps far) = true := by
  obtain ⟨q, e, o, l⟩ := way_len (near := nearB ps far) R.n2 fun i _ => near_next ps far i
  obtain ⟨a, b⟩ := okW_good.mp o
  exact ⟨q, e, a, by rw [show wy ps far = 0 :: q from e]; exact b⟩
theorem turn_told (R : RowOk ps far) (B : BoxAt M 0 xs) : ∃ M', BoxAt M' 0 xs ∧ C_law_8a4 scr (SC ps far wide d t4 t5 t6 s8 s9 s11 s12 s13 s14 s15 s16) M = .nx (SC ps far wide d t4 t5 t6 s8 s9 (some (rD (wy ps far))) (some .non) s13 s14 s15 s16) M' := by
  obtain ⟨more, e⟩ := R_fewer_eq R M
  refine ⟨M ++ more, B.more, ?_⟩
  have e' : R_fewer [rowD ps, fD far] M = .ok (rD (wy ps far)) (M ++ more) := e
  unfold C_law_8a4 r_law_8a4
  simp only [sPar_ap, aCons_ap, eCall_ap, eVar_ap, eC_ap, aNil_ap, List.getElem?_cons_zero, List.getElem?_cons_succ, Res.bind_ok, e', Res.st_ok, List.set_cons_zero, List.set_cons_succ]
theorem turn_rows (R : RowOk ps far) : ∃ y13 y14, C_law_8a5 scr (SC ps far wide d t4 t5 t6 s8 s9 s11 (some .non) s13 s14 s15 s16) M = .nx (SC ps far wide d t4 t5 t6 s8 s9 s11 (some (rD (wy ps far))) y13 y14 s15 s16) M := by
  have e := R_rows R.n2 R.n24 M
  have hm : ∀ r ∈ rowsS ps.length, ∃ q, r = 0 :: q ∧ okW tt ps.length 0 q := fun r hr => (rowsA_mem R.n2).mp ((List.mergeSort_perm _ _).mem_iff.mp hr)
  obtain ⟨y13, y14, l⟩ := one_loop (scr := scr) (d := d) (d1 := some (.ref 0)) (d2 := some (.int wide)) (t4 := t4) (t5 := t5) (t6 := t6) (s8 := s8) (s9 := s9) (s11 := s11) (s15 := s15) (s16 := s16) R (m := M) (rowsS ps.length) none s13 s14 hm
  refine ⟨y13, y14, ?_⟩
  rw [first_good R.n2 fun i _ => near_next ps far i] at l
  show sFor (iE (eCall R__law_rows (aCons (eVar 7) (aNil)))) (gN 13) (sSeq (C_law_8a5a0 scr) (sSeq (C_law_8a5a1 scr) (C_law_8a5a2 scr))) _ _ = _
  rw [sFor_ap]
  have ei : iE (eCall R__law_rows (aCons (eVar 7) (aNil))) (SC ps far wide d t4 t5 t6 s8 s9 s11 (some .non) s13 s14 s15 s16) M = .ok (.its ((rowsS ps.length).map rD)) M := by
    simp only [iE_ap, eCall_ap, aCons_ap, eVar_ap, aNil_ap, List.getElem?_cons_zero, List.getElem?_cons_succ, Res.bind_ok, e, srcOf_lst]
  rw [ei, Res.st_ok, forS_its]
  exact l
theorem turn_same (R : RowOk ps far) : C_law_8a6 scr (SC ps far wide d t4 t5 t6 s8 s9 (some (rD (wy ps far))) (some (rD (wy ps far))) s13 s14 s15 s16) M = .nx (SC ps far wide d t4 t5 t6 s8 s9 (some (rD (wy ps far))) (some (rD (wy ps far))) s13 s14 s15 s16) M := by
  obtain ⟨q, e, o, g⟩ := wy_ok R
  have ar := are_of_row R o M
  rw [← e, g] at ar
  have ne := opNe_r (wy ps far) (wy ps far) M
  have hisi : opIsi "tuple" (rD (wy ps far)) M = .ok (.bl true) M := rfl
  unfold C_law_8a6 r_law_8a6
  simp only [sIf_ap, tOr_ap, tNot_ap, tE_ap, eIsi_ap, eVar_ap, List.getElem?_cons_zero, List.getElem?_cons_succ, Res.bind_ok, hisi, noexc_ok, asB_ap, Bool.not_true, tCmp_ap, ne, decide_true, eCall_ap, aCons_ap, aNil_ap, ar, eC_ap, opIsB_bl, Bool.true_xor, Res.st_ok, sNil_ap, Bool.false_eq_true, if_false]
theorem turn_rev (R : RowOk ps far) (B : BoxAt M 0 xs) : ∃ M', BoxAt M' 0 xs ∧ C_law_8a7 scr (SC ps far wide d t4 t5 t6 s8 s9 (some (rD (wy ps far))) s12 s13 s14 s15 s16) M = .nx (SC ps far wide d t4 t5 t6 s8 s9 (some (rD (wy ps far))) s12 s13 s14 s15 s16) M' := by
  obtain ⟨more, e⟩ := R_fewer_eq (rev_ok R) M
  have hl := rev_len R
  have er : opRev false (rowD ps) M = .ok (rowD ps.reverse) M := by
    rw [opRev_tup (by rw [List.length_map]; have := R.n24; omega), ← List.map_reverse]
  have e' : R_fewer [rowD ps.reverse, fD far] M = .ok (rD (wy ps.reverse far)) (M ++ more) := e
  have b1 : bLen [rD (wy ps.reverse far)] (M ++ more) = .ok (.int (wy ps far).length) (M ++ more) := by unfold rD; rw [bLen_tup, List.length_map, hl]
  have b2 : bLen [rD (wy ps far)] (M ++ more) = .ok (.int (wy ps far).length) (M ++ more) := by unfold rD; rw [bLen_tup, List.length_map]
  refine ⟨M ++ more, B.more, ?_⟩
  unfold C_law_8a7 r_law_8a7
  simp only [sIf_ap, tCmp_ap, eB_ap, aCons_ap, eCall_ap, eRev_ap, eVar_ap, aNil_ap, List.getElem?_cons_zero, List.getElem?_cons_succ, Res.bind_ok, er, noexc_ok, e', b1, b2, opNe_int, decide_true, Bool.not_true, asB_ap, Res.st_ok, sNil_ap, Bool.false_eq_true, if_false]
/-- no odd value is taken -/
theorem bad_row (R : RowOk ps far) {q : List Nat} (hl : q.length ≤ 1000) (hb : q.head? ≠ some 0 ∨ q.getLast? ≠ some (ps.length - 1) ∨ (chB (nearB ps far) q = false ∧ ∀ i ∈ q, i < ps.length)) (m : Mem) : R_are_fewer [rowD ps, fD far, rD q] m = .ok (.bl false) m := by
  by_cases h2 : 2 ≤ q.length
  · rw [R_are_row R hl h2 m fun h1 h2 i hi => by
      rcases hb with z | z | z
      · exact (z h1).elim
      · exact (z h2).elim
      · exact z.2 i hi]
    congr 2
    rw [Bool.and_eq_false_iff, Bool.and_eq_false_iff]
    rcases hb with z | z | z
    · exact .inl (.inl (decide_eq_false z))
    · exact .inl (.inr (decide_eq_false z))
    · exact .inr z.1
  · exact R_are_short R (by rw [List.length_map]; omega) m
theorem chB_app (near : Nat → Nat → Bool) : ∀ (a : List Nat) (x y : Nat) (b : List Nat), ¬ x < y → chB near (a ++ x :: y :: b) = false
  | [], x, y, b, h => by
    show ((decide (x < y) && near x y) && _) = false
    rw [decide_eq_false h, Bool.false_and, Bool.false_and]
  | [c], x, y, b, h => by
    show ((decide (c < x) && near c x) && chB near ([] ++ x :: y :: b)) = false
    rw [chB_app near [] x y b h, Bool.and_false]
  | c :: e :: a, x, y, b, h => by
    show ((decide (c < e) && near c e) && chB near ((e :: a) ++ x :: y :: b)) = false
    rw [chB_app near (e :: a) x y b h, Bool.and_false]
end
end K93
namespace K93
open PySem L2 PD
section
variable {scr : OScr} {ps : List Pt} {far : Int × Int} {xs : List Int} {wide : Int} {d t4 t5 t6 s8 s9 s11 s12 s13 s14 s15 s16 : Option D} {M : Mem}
theorem cut_but (xs : List D) (h : 1 ≤ xs.length) : cutD xs none (some (-1)) = xs.dropLast := by
  unfold cutD
  rw [sIx_noneD, Nat.sub_zero, List.drop_zero]
  have : HT.sIx xs.length xs.length (some (-1)) = xs.length - 1 := by
    unfold HT.sIx
    simp
    omega
  rw [this, List.dropLast_eq_take]
theorem drop_lt {near : Nat → Nat → Bool} {n : Nat} : ∀ {q : List Nat} {i : Nat}, i < n → okW near n i q → ∀ k ∈ (i :: q).dropLast, k < n - 1
  | [], i, _, _, k, hk => by simp at hk
  | j :: q, i, hi, ⟨h1, h2, _, h4⟩, k, hk => by
    rw [List.dropLast_cons_of_ne_nil (by simp)] at hk
    rcases List.mem_cons.mp hk with rfl | hk
    · omega
    · exact drop_lt h2 h4 k hk
theorem turn_odd (R : RowOk ps far) (B : BoxAt M 0 xs) : ∃ y M', BoxAt M' 0 xs ∧ (∀ m, R_are_fewer [rowD ps, fD far, y] m = .ok (.bl false) m) ∧
    C_law_8a8 scr (SC ps far wide d t4 t5 t6 s8 s9 (some (rD (wy ps far))) s12 s13 s14 s15 s16) M = .nx (SC ps far wide d t4 t5 t6 s8 s9 (some (rD (wy ps far))) s12 s13 s14 (some y) s16) M' := by
  have n2 := R.n2
  have n24 := R.n24
  obtain ⟨q, e, o, g⟩ := wy_ok R
  obtain ⟨fa, fb, fc, fd⟩ := okW_facts (n := ps.length) (by omega) o
  have hq : q ≠ [] := fun z => by
    subst z
    have : 0 = ps.length - 1 := o
    omega
  generalize hW : wy ps far = W at *
  have hWl : W.length ≤ 25 := by rw [e, List.length_cons]; omega
  have hW2 : 2 ≤ W.length := by
    rw [e, List.length_cons]
    cases q with
    | nil => exact (hq rfl).elim
    | cons => simp
  -- its parts
  have p1 : opRev false (rD W) M = .ok (rD W.reverse) M := by unfold rD; rw [opRev_tup (by rw [List.length_map]; omega), ← List.map_reverse]
  have p2 : opSl false (rD W) (some 1) none M = .ok (rD (W.drop 1)) M := by
    unfold rD
    rw [opSl_tup (by rw [List.length_map]; omega)]
    have := cut_from (W.map sD) 1
    rw [show ((1 : Nat) : Int) = 1 from rfl] at this
    rw [this, ← List.map_drop]
  have p3 : opSl false (rD W) none (some (-1)) M = .ok (rD W.dropLast) M := by
    unfold rD
    rw [opSl_tup (by rw [List.length_map]; omega), cut_but _ (by rw [List.length_map]; omega), List.map_dropLast]
  have p4 : bList false [rD W] M = .ok (.lst (W.map sD)) M := by
    show newL false (W.map sD) M = _
    exact newL_f (by rw [List.length_map]; omega)
  have p5 : opAddX false (.tup [.bl false]) (rD (W.drop 1)) M = .ok (.tup (.bl false :: (W.drop 1).map sD)) M := by
    unfold rD
    rw [opAdd_tup (by rw [List.length_map, List.length_drop]; simp; omega)]; rfl
  have p6 : opAddX false (rD W) (rD W) M = .ok (rD (W ++ W)) M := by
    unfold rD
    rw [opAdd_tup (by rw [List.length_map]; omega), List.map_append]
  have p7 : opAddX false (rD W.dropLast) (.tup [.int ps.length]) M = .ok (rD (W.dropLast ++ [ps.length])) M := by
    unfold rD
    rw [opAdd_tup (by rw [List.length_map, List.length_dropLast]; simp; omega), List.map_append]; rfl
  have hnl : ∀ l : List D, l.length ≤ 100 → newL false l M = .ok (.lst l) M := fun l h => newL_f (by omega)
  obtain ⟨y, hy, o1, e1, B1⟩ := pick_lst B (ys := [.non, .tup [], .tup [.int 0], rD W.reverse, rD (W.drop 1), rD W.dropLast, .lst (W.map sD), .tup (.bl false :: (W.drop 1).map sD), rD (W ++ W), rD (W.dropLast ++ [ps.length])]) (by simp) (by simp)
  rw [← R_pick_eq] at e1
  refine ⟨y, _, B1, fun m => ?_, ?_⟩
  · have hlast : ∀ i ∈ W, i < ps.length := by rw [e]; exact fa
    have hgl : W.getLast? = some (ps.length - 1) := by rw [e]; exact fb
    simp only [List.mem_cons, List.not_mem_nil, or_false] at hy
    rcases hy with rfl | rfl | rfl | rfl | rfl | rfl | rfl | rfl | rfl | rfl
    · exact R_are_non R m
    · exact R_are_short R (by simp) m
    · exact R_are_short R (by simp) m
    · refine bad_row R (by rw [List.length_reverse]; omega) (.inl ?_) m
      rw [List.head?_reverse, hgl]
      intro z
      have := Option.some.inj z
      omega
    · refine bad_row R (by rw [List.length_drop]; omega) (.inl ?_) m
      rw [e, List.drop_succ_cons, List.drop_zero]
      intro z
      cases q with
      | nil => cases z
      | cons j q =>
        have : j = 0 := Option.some.inj z
        have := o.1
        omega
    · by_cases hl : W.dropLast.length < 2
      · exact R_are_short R (by rw [List.length_map]; exact hl) m
      · refine bad_row R (by rw [List.length_dropLast]; omega) (.inr (.inl ?_)) m
        intro z
        have hm : ps.length - 1 ∈ W.dropLast := List.mem_of_getLast? z
        rw [e] at hm
        have := drop_lt (by omega) o _ hm
        omega
    · exact R_are_lst R _ m
    · exact R_are_false R (by rw [List.length_drop]; omega) m
    · refine bad_row R (by rw [List.length_append]; omega) (.inr (.inr ⟨?_, fun i hi => ?_⟩)) m
      · obtain ⟨pre, ep⟩ : ∃ pre, W = pre ++ [ps.length - 1] := by
          obtain ⟨pre, ep⟩ := List.getLast?_eq_some_iff.mp hgl
          exact ⟨pre, ep⟩
        have : W ++ W = pre ++ (ps.length - 1) :: 0 :: q := by
          conv => lhs; arg 1; rw [ep]
          rw [e, List.append_assoc]; rfl
        rw [this]
        exact chB_app _ _ _ _ _ (by omega)
      · rcases List.mem_append.mp hi with h | h <;> exact hlast i h
    · refine bad_row R (by rw [List.length_append, List.length_dropLast]; simp; omega) (.inr (.inl ?_)) m
      rw [List.getLast?_concat]
      intro z
      have := Option.some.inj z
      omega
  · have hbig : newL false [.non, .tup [], .tup [.int 0], rD W.reverse, rD (W.drop 1), rD W.dropLast, .lst (W.map sD), .tup (.bl false :: (W.drop 1).map sD), rD (W ++ W), rD (W.dropLast ++ [ps.length])] M = .ok (.lst [.non, .tup [], .tup [.int 0], rD W.reverse, rD (W.drop 1), rD W.dropLast, .lst (W.map sD), .tup (.bl false :: (W.drop 1).map sD), rD (W ++ W), rD (W.dropLast ++ [ps.length])]) M := hnl _ (by simp)
    unfold C_law_8a8 r_law_8a8
    simp only [sSet_ap, eCall_ap, aCons_ap, eVar_ap, eC_ap, eLst_ap, eTup_ap, eRev_ap, eSl_ap, pSome_ap, pNone_ap, eUn_ap, opNeg_int, eB_ap, eOp_ap, aNil_ap, List.getElem?_cons_zero, List.getElem?_cons_succ, Res.bind_ok, newT0, newT1, noexc_ok, p1, p2, p3, p4, p5, p6, p7, hbig, e1, Res.st_ok, List.set_cons_zero, List.set_cons_succ]
end
end K93
namespace K93
open PySem L2 PD
section
variable {scr : OScr} {ps : List Pt} {xs : List Int} {wide : Int} {d : Option D}
abbrev turnSF (scr : OScr) : SF := sSeq (C_law_8a0 scr) (sSeq (C_law_8a1 scr) (sSeq (C_law_8a2 scr) (sSeq (C_law_8a3 scr) (sSeq (C_law_8a4 scr) (sSeq (C_law_8a5 scr) (sSeq (C_law_8a6 scr) (sSeq (C_law_8a7 scr) (sSeq (C_law_8a8 scr) (C_law_8a9 scr)))))))))
theorem turn_all (P : RowP ps) (h1 : 1 ≤ wide) (h2 : wide ≤ 40) {M : Mem} (B : BoxAt M 0 xs) (i : Nat) (t5 t6 s8 s9 s10 s11 s12 s13 s14 s15 s16 : Option D) : ∃ M' u5 u8 u9 u10 u11 u12 u13 u14 u15, BoxAt M' 0 xs ∧
    turnSF scr (SB ps wide d (some (.int i)) t5 t6 s8 s9 s10 s11 s12 s13 s14 s15 s16) M = .nx (SB ps wide d (some (.int i)) u5 t6 u8 u9 u10 u11 u12 u13 u14 u15 s16) M' := by
  obtain ⟨a, b, p, M1, ha, hb, hp, B1, e0⟩ := turn_draw (scr := scr) (d := d) (t4 := some (.int i)) (t5 := t5) (t6 := t6) (s8 := s8) (s9 := s9) (s10 := s10) (s11 := s11) (s12 := s12) (s13 := s13) (s14 := s14) (s15 := s15) (s16 := s16) P B h1 h2
  have la := P.ok a ha
  have lb := P.ok b hb
  have sa := la.sz; have sb := lb.sz; have sp := hp.sz
  obtain ⟨f1, f2, f3⟩ := offV_fr (isPt_pos la.pt) (isPt_pos lb.pt) (isPt_pos hp.pt)
  obtain ⟨far, M2, g1, g2, g3, g4, B2, e3⟩ := turn_far (scr := scr) (ps := ps) (d := d) (t5 := some (pD p)) (t6 := t6) (s8 := some (pD a)) (s9 := some (pD b)) (s11 := s11) (s12 := s12) (s13 := s13) (s14 := s14) (s15 := s15) (s16 := s16) B1 h1 h2 (i := i) f1 (offV_nonneg (isPt_pos la.pt) (isPt_pos lb.pt) (isPt_pos hp.pt)) f2 f3
  have R := rowOk_of P g1 g2 g3 g4
  obtain ⟨M3, B3, e4⟩ := turn_told (scr := scr) (wide := wide) (d := d) (t4 := some (.int i)) (t5 := some (pD p)) (t6 := t6) (s8 := some (pD a)) (s9 := some (pD b)) (s11 := s11) (s12 := s12) (s13 := s13) (s14 := s14) (s15 := s15) (s16 := s16) R B2
  obtain ⟨y13, y14, e5⟩ := turn_rows (scr := scr) (wide := wide) (d := d) (t4 := some (.int i)) (t5 := some (pD p)) (t6 := t6) (s8 := some (pD a)) (s9 := some (pD b)) (s11 := some (rD (wy ps far))) (s13 := s13) (s14 := s14) (s15 := s15) (s16 := s16) (M := M3) R
  have e6 := turn_same (scr := scr) (wide := wide) (d := d) (t4 := some (.int i)) (t5 := some (pD p)) (t6 := t6) (s8 := some (pD a)) (s9 := some (pD b)) (s13 := y13) (s14 := y14) (s15 := s15) (s16 := s16) (M := M3) R
  obtain ⟨M4, B4, e7⟩ := turn_rev (scr := scr) (wide := wide) (d := d) (t4 := some (.int i)) (t5 := some (pD p)) (t6 := t6) (s8 := some (pD a)) (s9 := some (pD b)) (s12 := some (rD (wy ps far))) (s13 := y13) (s14 := y14) (s15 := s15) (s16 := s16) R B3
  obtain ⟨y, M5, B5, hy, e8⟩ := turn_odd (scr := scr) (wide := wide) (d := d) (t4 := some (.int i)) (t5 := some (pD p)) (t6 := t6) (s8 := some (pD a)) (s9 := some (pD b)) (s12 := some (rD (wy ps far))) (s13 := y13) (s14 := y14) (s15 := s15) (s16 := s16) R B4
  refine ⟨M5, some (pD p), some (pD a), some (pD b), some (fD far), some (rD (wy ps far)), some (rD (wy ps far)), y13, y14, some y, B5, ?_⟩
  have e9 : C_law_8a9 scr (SC ps far wide d (some (.int i)) (some (pD p)) t6 (some (pD a)) (some (pD b)) (some (rD (wy ps far))) (some (rD (wy ps far))) y13 y14 (some y) s16) M5 = .nx (SC ps far wide d (some (.int i)) (some (pD p)) t6 (some (pD a)) (some (pD b)) (some (rD (wy ps far))) (some (rD (wy ps far))) y13 y14 (some y) s16) M5 := by
    have hb9 := hy M5
    unfold C_law_8a9 r_law_8a9
    simp only [sIf_ap, tCmp_ap, eCall_ap, aCons_ap, eVar_ap, eC_ap, aNil_ap, List.getElem?_cons_zero, List.getElem?_cons_succ, Res.bind_ok, hb9, opIsB_bl, noexc_ok, asB_ap, decide_true, Bool.true_xor, Bool.not_true, Res.st_ok, Bool.false_eq_true, if_false, sNil_ap]
  unfold turnSF
  rw [sSeq_ap, e0, SRes.then_nx, turn_away la lb hp, sSeq_ap, e3, SRes.then_nx, sSeq_ap, e4, SRes.then_nx, sSeq_ap, e5, SRes.then_nx, sSeq_ap, e6, SRes.then_nx, sSeq_ap, e7, SRes.then_nx, sSeq_ap, e8, SRes.then_nx, e9]
theorem turns (P : RowP ps) (h1 : 1 ≤ wide) (h2 : wide ≤ 40) : ∀ (l : List Nat) (M : Mem) (t4 t5 t6 s8 s9 s10 s11 s12 s13 s14 s15 s16 : Option D), BoxAt M 0 xs → ∃ M' u4 u5 u8 u9 u10 u11 u12 u13 u14 u15,
    forL (gN 4) (turnSF scr) (l.map fun (i : Nat) => D.int i) (SB ps wide d t4 t5 t6 s8 s9 s10 s11 s12 s13 s14 s15 s16) M = .nx (SB ps wide d u4 u5 t6 u8 u9 u10 u11 u12 u13 u14 u15 s16) M'
  | [], M, t4, t5, t6, s8, s9, s10, s11, s12, s13, s14, s15, s16, B => ⟨M, t4, t5, s8, s9, s10, s11, s12, s13, s14, s15, rfl⟩
  | i :: l, M, t4, t5, t6, s8, s9, s10, s11, s12, s13, s14, s15, s16, B => by
    obtain ⟨M1, u5, u8, u9, u10, u11, u12, u13, u14, u15, B1, e1⟩ := turn_all (scr := scr) (d := d) P h1 h2 B i t5 t6 s8 s9 s10 s11 s12 s13 s14 s15 s16
    obtain ⟨M', v4, v5, v8, v9, v10, v11, v12, v13, v14, v15, e2⟩ := turns P h1 h2 l M1 (some (.int i)) u5 t6 u8 u9 u10 u11 u12 u13 u14 u15 s16 B1
    refine ⟨M', v4, v5, v8, v9, v10, v11, v12, v13, v14, v15, ?_⟩
    rw [List.map_cons, forL_step (σ1 := SB ps wide d (some (.int i)) t5 t6 s8 s9 s10 s11 s12 s13 s14 s15 s16) (m1 := M) rfl, e1, turnK_nx, e2]
end
end K93
namespace K93
open PySem L2 PD
theorem fewer_exc {x y : D} {m : Mem} (h : R_check_row [x, y] m = .exc "BadShape" m) : R_fewer [x, y] m = .exc "BadShape" m := by
  have st : startD 8 [x, y] = [some x, some y, none, none, none, none, none, none] := rfl
  unfold R_fewer fnR
  rw [st]
  unfold r_fewer
  simp only [sSeq_ap, sExpr_ap, eCall_ap, aCons_ap, eVar_ap, aNil_ap, List.getElem?_cons_zero, List.getElem?_cons_succ, Res.bind_ok, h, Res.st_exc, SRes.then_exc]
theorem refused_of {x y : D} {m : Mem} (h : R_check_row [x, y] m = .exc "BadShape" m) : R__law_refused [x, y] m = .ok (.bl true) m := by
  have st : startD 2 [x, y] = [some x, some y] := rfl
  have hf := fewer_exc h
  have hT : sTry ["BadShape"] (PD.isT [("BadShape", "BadShape")]) (sExpr (eCall R_fewer (aCons (eVar 0) (aCons (eVar 1) (aNil))))) [("BadShape", sRet (eC (.bl true)))] [some x, some y] m = .rt (.bl true) m := by
    unfold sTry
    have e : sExpr (eCall R_fewer (aCons (eVar 0) (aCons (eVar 1) (aNil)))) [some x, some y] m = .exc "BadShape" [some x, some y] m := by
      simp only [sExpr_ap, eCall_ap, aCons_ap, eVar_ap, aNil_ap, List.getElem?_cons_zero, List.getElem?_cons_succ, Res.bind_ok, hf, Res.st_exc]
    rw [e]
    have hc : catch1 [("BadShape", sRet (eC (.bl true)))] (PD.isT [("BadShape", "BadShape")]) "BadShape" = some (sRet (eC (.bl true))) := by
      unfold catch1
      rw [if_pos (by decide)]
    simp only [List.mem_singleton, if_true, hc, sRet_ap, eC_ap, Res.st_ok]
  unfold R__law_refused fnR
  rw [st]
  unfold r__law_refused
  rw [sSeq_ap, hT, SRes.then_rt]
theorem chk_int {ps : List Pt} (P : RowP ps) (i : Int) (m : Mem) : R_check_row [rowD ps, .int i] m = .exc "BadShape" m := by
  have n2 := P.n2
  have n24 := P.n24
  have hlc : lcL (gN 2) tYesD (eCall R_is_point (aCons (eVar 2) (aNil))) [some (rowD ps), some (.int i), none, none] (ps.map pD) m = .ok (ps.map fun p => .bl (decide (isPt p))) m :=
    lcL_map fun p h => ⟨[some (rowD ps), some (.int i), some (pD p), none], rfl, by
      have := (P.ok p h).sz
      simp [R_ispt (p := p) (k := 20) (m := m) (by omega)]⟩
  have hall : (ps.all fun p => decide (isPt p)) = true := List.all_eq_true.mpr fun p h => decide_eq_true (P.ok p h).pt
  have hnl := newL_f (m := m) (xs := ps.map fun p => D.bl (decide (isPt p))) (by rw [List.length_map]; omega)
  have h2' : (2 : Int) ≤ (ps.length : Int) := by omega
  have h24' : (ps.length : Int) ≤ 24 := by omega
  unfold R_check_row fnR
  have es : startD 4 [rowD ps, .int i] = [some (rowD ps), some (.int i), none, none] := rfl
  rw [es]
  simp [r_check_row, h2', h24', wipeD, hlc, hnl, bAll_map, hall, R_isfr_int]
theorem chk_lst (xs : List D) (y : D) (m : Mem) : R_check_row [.lst xs, y] m = .exc "BadShape" m := by
  have es : startD 4 [.lst xs, y] = [some (.lst xs), some y, none, none] := rfl
  unfold R_check_row fnR
  rw [es]
  simp [r_check_row]
theorem plain : ∀ (ns : List Int) (o : OScr) (d : D), ScrIn ns o d → ns.length ≤ 63 → ∃ m, R_law o [d] [] = .ok (.bl true) m := by
  intro ns o d hi hl
  obtain ⟨wide, xs, ps, M, t4, t5, t6, h1, h2, B, P, eA⟩ := phaseA hi hl (sSeq (C_law_8 o) (sSeq (C_law_9 o) (C_law_10 o)))
  have n2 := P.n2
  have n24 := P.n24
  obtain ⟨M', u4, u5, u8, u9, u10, u11, u12, u13, u14, u15, eB⟩ := turns (scr := o) (d := some d) P h1 h2 [0, 1, 2] M t4 t5 t6 none none none none none none none none none B
  have e8 : C_law_8 o (SB ps wide (some d) t4 t5 t6 none none none none none none none none none) M = .nx (SB ps wide (some d) u4 u5 t6 u8 u9 u10 u11 u12 u13 u14 u15 none) M' := by
    show sFor (iA range1 (aCons (eC (.int 3)) (aNil))) (gN 4) (turnSF o) _ _ = _
    have ei : iA range1 (aCons (eC (.int 3)) (aNil)) (SB ps wide (some d) t4 t5 t6 none none none none none none none none none) M = .ok (.its ([0, 1, 2].map fun (i : Nat) => D.int i)) M := rfl
    rw [sFor_ap, ei, Res.st_ok, forS_its, eB]
  -- the list of wrong ones
  obtain ⟨pre, z, ez⟩ : ∃ pre z, ps = pre ++ [z] := ⟨ps.dropLast, ps.getLast (fun h => by rw [h] at n2; simp at n2), (List.dropLast_concat_getLast _).symm⟩
  have q1 : opSl false (rowD ps) none (some 1) M' = .ok (rowD (ps.take 1)) M' := by
    rw [opSl_tup (by rw [List.length_map]; omega)]
    have e : cutD (ps.map pD) none (some 1) = (ps.map pD).take 1 := by
      unfold cutD
      have e1 : HT.sIx (ps.map pD).length (ps.map pD).length (some 1) = min 1 (ps.map pD).length := HT.sIx_nat (ps.map pD).length (ps.map pD).length 1
      rw [e1, sIx_noneD, Nat.sub_zero, List.drop_zero, Nat.min_eq_left (by rw [List.length_map]; omega)]
    rw [e, ← List.map_take]
  have q2 : opSl false (rowD ps) (some (-1)) none M' = .ok (rowD [z]) M' := by
    rw [opSl_tup (by rw [List.length_map]; omega)]
    congr 2
    unfold cutD
    have e : HT.sIx (ps.map pD).length 0 (some (-1)) = (ps.map pD).length - 1 := by
      unfold HT.sIx
      simp
      omega
    rw [e, sIx_noneD, ez]
    simp
  have q3 : opAddX false (rowD ps) (rowD [z]) M' = .ok (rowD (ps ++ [z])) M' := by
    rw [opAdd_tup (by rw [List.length_map]; simp; omega), ← List.map_append]
  have q4 : bList false [rowD ps] M' = .ok (.lst (ps.map pD)) M' := by
    show newL false (ps.map pD) M' = _
    exact newL_f (by rw [List.length_map]; omega)
  have hz : z ∈ ps := by rw [ez]; simp
  let bad : List (D × D) := [(rowD (ps.take 1), fD (1, 1)), (rowD (ps ++ [z]), fD (1, 1)), (rowD ps, fD (-1, 1)), (rowD ps, .int 1), (rowD ps, fD (2, 2)), (.lst (ps.map pD), fD (1, 1))]
  have hbad : ∀ b ∈ bad, R_check_row [b.1, b.2] M' = .exc "BadShape" M' := by
    intro b hb
    have sz1 : Sz ((1 : Int)) 1000 := Sz.one.le (by omega)
    have pp : ∀ p ∈ ps, isPt p := fun p hp => (P.ok p hp).pt
    have ss : ∀ p ∈ ps, SzP p 20 := fun p hp => (P.ok p hp).sz
    simp only [bad, List.mem_cons, List.not_mem_nil, or_false] at hb
    rcases hb with rfl | rfl | rfl | rfl | rfl | rfl
    · rw [R_chkrow (by rw [List.length_take]; omega) (fun p hp => pp p (List.mem_of_mem_take hp)) (fun p hp => ss p (List.mem_of_mem_take hp)) sz1, if_neg (by rw [List.length_take]; omega)]
    · rw [R_chkrow (by rw [List.length_append]; simp; omega) (fun p hp => by
        rcases List.mem_append.mp hp with h | h
        · exact pp p h
        · rw [List.mem_singleton] at h; rw [h]; exact pp z hz) (fun p hp => by
        rcases List.mem_append.mp hp with h | h
        · exact ss p h
        · rw [List.mem_singleton] at h; rw [h]; exact ss z hz) sz1, if_neg]
      rintro ⟨_, _, _, _, h⟩
      unfold eqAdj at h
      rw [List.filter_eq_nil_iff] at h
      have := h (ps.length - 1) (by rw [List.mem_range, List.length_append]; simp; omega)
      apply this
      have a1 : atP (ps ++ [z]) (ps.length - 1) = z := by
        unfold atP
        rw [List.getD_eq_getElem?_getD, List.getElem?_append_left (by omega), ez]
        simp
      have a2 : atP (ps ++ [z]) (ps.length - 1 + 1) = z := by
        unfold atP
        rw [List.getD_eq_getElem?_getD, show ps.length - 1 + 1 = ps.length by omega]
        simp
      rw [a1, a2]
      simp
    · rw [R_chkrow (by omega) pp ss sz1, if_neg]
      rintro ⟨_, _, _, h, _⟩
      exact absurd h (by decide)
    · exact chk_int P 1 M'
    · rw [R_chkrow (by omega) pp ss (⟨by exact Nat.lt_of_lt_of_le (by decide : 2 < 2 ^ 2) (two_pow_le (by omega))⟩ : Sz (2 : Int) 1000), if_neg]
      rintro ⟨_, _, h, _, _⟩
      exact absurd h.2 (by decide)
    · exact chk_lst _ _ _
  have e9 : C_law_9 o (SB ps wide (some d) u4 u5 t6 u8 u9 u10 u11 u12 u13 u14 u15 none) M' = .nx (SB ps wide (some d) u4 u5 t6 u8 u9 u10 u11 u12 u13 u14 u15 (some (.lst (bad.map fun b => D.tup [b.1, b.2])))) M' := by
    have hnl := newL_f (m := M') (xs := bad.map fun b => D.tup [b.1, b.2]) (by simp [bad])
    unfold C_law_9 r_law_9
    simp only [sSet_ap, eLst_ap, aCons_ap, eTup_ap, eSl_ap, pSome_ap, pNone_ap, eVar_ap, eC_ap, eUn_ap, opNeg_int, eOp_ap, eB_ap, aNil_ap, List.getElem?_cons_zero, List.getElem?_cons_succ, Res.bind_ok, q1, q2, q3, q4, noexc_ok, newT2]
    have hb : bad.map (fun b => D.tup [b.1, b.2]) = [D.tup [rowD (ps.take 1), D.tup [.int 1, .int 1]], D.tup [rowD (ps ++ [z]), D.tup [.int 1, .int 1]], D.tup [rowD ps, D.tup [.int (-1), .int 1]], D.tup [rowD ps, .int 1], D.tup [rowD ps, D.tup [.int 2, .int 2]], D.tup [.lst (ps.map pD), D.tup [.int 1, .int 1]]] := rfl
    rw [hb] at hnl ⊢
    rw [hnl]
    rfl
  have e10 : C_law_10 o (SB ps wide (some d) u4 u5 t6 u8 u9 u10 u11 u12 u13 u14 u15 (some (.lst (bad.map fun b => D.tup [b.1, b.2])))) M' = .rt (.bl true) M' := by
    have hlc : lcL (gT 2 (gsCons (gN 18) (gsCons (gN 19) (gsNil)))) (tNotD (tE (eCall R__law_refused (aCons (eVar 18) (aCons (eVar 19) (aNil)))))) (eC (.int 1)) (SB ps wide (some d) u4 u5 t6 u8 u9 u10 u11 u12 u13 u14 u15 (some (.lst (bad.map fun b => D.tup [b.1, b.2])))) (bad.map fun b => D.tup [b.1, b.2]) M' = .ok ((bad.filter fun _ => false).map fun _ => .int 1) M' := by
      refine lcL_filter fun b hb => ⟨[some d, some (.ref 0), some (.int wide), some (rowD ps), u4, u5, t6, some (.int ps.length), u8, u9, u10, u11, u12, u13, u14, u15, some (.lst (bad.map fun b => D.tup [b.1, b.2])), none, some b.1, some b.2], rfl, ?_, fun h => by cases h⟩
      have hr := refused_of (hbad b hb)
      simp only [tNot_ap, tE_ap, eCall_ap, aCons_ap, eVar_ap, aNil_ap, List.getElem?_cons_zero, List.getElem?_cons_succ, Res.bind_ok, hr, asB_ap, Bool.not_true]
    have hf : (bad.filter fun _ => false) = [] := by simp
    rw [hf, List.map_nil] at hlc
    have hnl0 : newL false [] M' = .ok (.lst []) M' := newL_f (by simp)
    have heq : opEq (.lst []) (.lst []) M' = .ok (.bl true) M' := by rw [opEq_of rfl rfl]; rfl
    unfold C_law_10 r_law_10
    simp only [sRet_ap, eOp_ap, eLc_ap, iE_ap, eVar_ap, List.getElem?_cons_zero, List.getElem?_cons_succ, Res.bind_ok, srcOf_lst, wipeD, List.set_cons_zero, List.set_cons_succ, lcS_its, hlc, noexc_ok, hnl0, eLst_ap, aNil_ap, heq, Res.st_ok]
  refine ⟨M', ?_⟩
  have eL : r_law (R__law_box o) R__law_pick R__law_point R__law_take R_away R__law_rows R__law_made R_fewer R_are_fewer R__law_away R__law_is_fraction R__law_refused R__law_is_near (startD 20 [d]) [] = .rt (.bl true) M' := by
    refine Eq.trans eA ?_
    rw [sSeq_ap, e8, SRes.then_nx, sSeq_ap, e9, SRes.then_nx, e10]
  unfold R_law fnR
  rw [eL]
end K93
namespace K93
open PySem PySem.Spec L2 PD
open PyProof.Rows hiding St
def topS (i : Nat) : Stmt := PySem.Challenge.pw_straightedge_k93_rows_with_fewer_corners.main.body.getD i (.Pass ⟨0, 0, 0, 0⟩)
theorem hv_of {k : Nat} {A : Around} (hr : Room k A) : A.units + 65 < cLine := by have := hr.un; omega
abbrev st_is_number : Stmt := topS 4
abbrev st_common : Stmt := topS 5
abbrev st_fraction : Stmt := topS 6
abbrev st_is_fraction : Stmt := topS 7
abbrev st_check_fraction : Stmt := topS 8
abbrev st_check_both : Stmt := topS 9
abbrev st_less : Stmt := topS 10
abbrev st_is_point : Stmt := topS 12
abbrev st_check_point : Stmt := topS 13
abbrev st_check_points : Stmt := topS 14
abbrev st_square : Stmt := topS 15
abbrev st_off : Stmt := topS 18
abbrev st_away : Stmt := topS 19
abbrev st_check_row : Stmt := topS 20
abbrev st_is_near : Stmt := topS 21
abbrev st_fewer : Stmt := topS 22
abbrev st_are_fewer : Stmt := topS 23
abbrev st__law_box : Stmt := topS 25
abbrev st__law_take : Stmt := topS 26
abbrev st__law_pick : Stmt := topS 27
abbrev st__law_number : Stmt := topS 28
abbrev st__law_shared : Stmt := topS 29
abbrev st__law_made : Stmt := topS 30
abbrev st__law_point : Stmt := topS 31
abbrev st__law_is_fraction : Stmt := topS 32
abbrev st__law_square : Stmt := topS 33
abbrev st__law_away : Stmt := topS 34
abbrev st__law_is_near : Stmt := topS 35
abbrev st__law_rows : Stmt := topS 36
abbrev st__law_refused : Stmt := topS 37
abbrev st_law : Stmt := topS 38

theorem sc_is_number : FnScope ["x"] ["x"] (defScope st_is_number) := ⟨rfl, rfl, rfl, by decide +kernel, rfl, by decide +kernel, by decide +kernel⟩
theorem sc_common : FnScope ["a", "b"] ["a", "b"] (defScope st_common) := ⟨rfl, rfl, rfl, by decide +kernel, rfl, by decide +kernel, by decide +kernel⟩
theorem sc_fraction : FnScope ["n", "d", "by"] ["n", "d"] (defScope st_fraction) := ⟨rfl, rfl, rfl, by decide +kernel, rfl, by decide +kernel, by decide +kernel⟩
theorem sc_is_fraction : FnScope ["x"] ["x"] (defScope st_is_fraction) := ⟨rfl, rfl, rfl, by decide +kernel, rfl, by decide +kernel, by decide +kernel⟩
theorem sc_check_fraction : FnScope ["x"] ["x"] (defScope st_check_fraction) := ⟨rfl, rfl, rfl, by decide +kernel, rfl, by decide +kernel, by decide +kernel⟩
theorem sc_check_both : FnScope ["a", "b"] ["a", "b"] (defScope st_check_both) := ⟨rfl, rfl, rfl, by decide +kernel, rfl, by decide +kernel, by decide +kernel⟩
theorem sc_less : FnScope ["a", "b"] ["a", "b"] (defScope st_less) := ⟨rfl, rfl, rfl, by decide +kernel, rfl, by decide +kernel, by decide +kernel⟩
theorem sc_is_point : FnScope ["x", "one"] ["x"] (defScope st_is_point) := ⟨rfl, rfl, rfl, by decide +kernel, rfl, by decide +kernel, by decide +kernel⟩
theorem sc_check_point : FnScope ["x"] ["x"] (defScope st_check_point) := ⟨rfl, rfl, rfl, by decide +kernel, rfl, by decide +kernel, by decide +kernel⟩
theorem sc_check_points : FnScope ["points", "p"] ["points"] (defScope st_check_points) := ⟨rfl, rfl, rfl, by decide +kernel, rfl, by decide +kernel, by decide +kernel⟩
theorem sc_square : FnScope ["a", "b", "w", "x", "y"] ["a", "b"] (defScope st_square) := ⟨rfl, rfl, rfl, by decide +kernel, rfl, by decide +kernel, by decide +kernel⟩
theorem sc_off : FnScope ["a", "b", "p", "x", "y", "u", "v", "along", "whole", "turned"] ["a", "b", "p"] (defScope st_off) := ⟨rfl, rfl, rfl, by decide +kernel, rfl, by decide +kernel, by decide +kernel⟩
theorem sc_away : FnScope ["a", "b", "p"] ["a", "b", "p"] (defScope st_away) := ⟨rfl, rfl, rfl, by decide +kernel, rfl, by decide +kernel, by decide +kernel⟩
theorem sc_check_row : FnScope ["points", "far", "p", "k"] ["points", "far"] (defScope st_check_row) := ⟨rfl, rfl, rfl, by decide +kernel, rfl, by decide +kernel, by decide +kernel⟩
theorem sc_is_near : FnScope ["points", "far", "i", "j", "p"] ["points", "far", "i", "j"] (defScope st_is_near) := ⟨rfl, rfl, rfl, by decide +kernel, rfl, by decide +kernel, by decide +kernel⟩
theorem sc_fewer : FnScope ["points", "far", "n", "steps", "nexts", "i", "j", "out"] ["points", "far"] (defScope st_fewer) := ⟨rfl, rfl, rfl, by decide +kernel, rfl, by decide +kernel, by decide +kernel⟩
theorem sc_are_fewer : FnScope ["points", "far", "places", "i", "j", "k"] ["points", "far", "places"] (defScope st_are_fewer) := ⟨rfl, rfl, rfl, by decide +kernel, rfl, by decide +kernel, by decide +kernel⟩
theorem sc__law_box : FnScope ["script", "x"] ["script"] (defScope st__law_box) := ⟨rfl, rfl, rfl, by decide +kernel, rfl, by decide +kernel, by decide +kernel⟩
theorem sc__law_take : FnScope ["box", "m", "at", "cell", "told"] ["box", "m"] (defScope st__law_take) := ⟨rfl, rfl, rfl, by decide +kernel, rfl, by decide +kernel, by decide +kernel⟩
theorem sc__law_pick : FnScope ["box", "menu"] ["box", "menu"] (defScope st__law_pick) := ⟨rfl, rfl, rfl, by decide +kernel, rfl, by decide +kernel, by decide +kernel⟩
theorem sc__law_number : FnScope ["x"] ["x"] (defScope st__law_number) := ⟨rfl, rfl, rfl, by decide +kernel, rfl, by decide +kernel, by decide +kernel⟩
theorem sc__law_shared : FnScope ["numbers", "out", "x"] ["numbers"] (defScope st__law_shared) := ⟨rfl, rfl, rfl, by decide +kernel, rfl, by decide +kernel, by decide +kernel⟩
theorem sc__law_made : FnScope ["x", "y", "w", "most"] ["x", "y", "w"] (defScope st__law_made) := ⟨rfl, rfl, rfl, by decide +kernel, rfl, by decide +kernel, by decide +kernel⟩
theorem sc__law_point : FnScope ["box", "wide", "w"] ["box", "wide"] (defScope st__law_point) := ⟨rfl, rfl, rfl, by decide +kernel, rfl, by decide +kernel, by decide +kernel⟩
theorem sc__law_is_fraction : FnScope ["x", "one"] ["x"] (defScope st__law_is_fraction) := ⟨rfl, rfl, rfl, by decide +kernel, rfl, by decide +kernel, by decide +kernel⟩
theorem sc__law_square : FnScope ["p", "q", "x", "y", "d", "most"] ["p", "q"] (defScope st__law_square) := ⟨rfl, rfl, rfl, by decide +kernel, rfl, by decide +kernel, by decide +kernel⟩
theorem sc__law_away : FnScope ["a", "b", "p", "x", "y", "first", "last", "turned", "d", "n", "most"] ["a", "b", "p"] (defScope st__law_away) := ⟨rfl, rfl, rfl, by decide +kernel, rfl, by decide +kernel, by decide +kernel⟩
theorem sc__law_is_near : FnScope ["points", "far", "i", "j", "p", "here"] ["points", "far", "i", "j"] (defScope st__law_is_near) := ⟨rfl, rfl, rfl, by decide +kernel, rfl, by decide +kernel, by decide +kernel⟩
theorem sc__law_rows : FnScope ["n", "rows", "k", "row", "size"] ["n"] (defScope st__law_rows) := ⟨rfl, rfl, rfl, by decide +kernel, rfl, by decide +kernel, by decide +kernel⟩
theorem sc__law_refused : FnScope ["points", "far"] ["points", "far"] (defScope st__law_refused) := ⟨rfl, rfl, rfl, by decide +kernel, rfl, by decide +kernel, by decide +kernel⟩
theorem sc_law : FnScope ["script", "box", "wide", "points", "turn", "p", "row", "n", "a", "b", "far", "told", "due", "one", "good", "odd", "bad", "k", "x", "y"] ["script"] (defScope st_law) := ⟨rfl, rfl, rfl, by decide +kernel, rfl, by decide +kernel, by decide +kernel⟩
theorem bt_abs : bootBuiltins "abs" = some (.builtin "abs") := by decide +kernel
theorem bt_all : bootBuiltins "all" = some (.builtin "all") := by decide +kernel
theorem bt_any : bootBuiltins "any" = some (.builtin "any") := by decide +kernel
theorem bt_bool : bootBuiltins "bool" = some (.type "bool") := by decide +kernel
theorem bt_int : bootBuiltins "int" = some (.type "int") := by decide +kernel
theorem bt_isinstance : bootBuiltins "isinstance" = some (.builtin "isinstance") := by decide +kernel
theorem bt_len : bootBuiltins "len" = some (.builtin "len") := by decide +kernel
theorem bt_list : bootBuiltins "list" = some (.type "list") := by decide +kernel
theorem bt_range : bootBuiltins "range" = some (.type "range") := by decide +kernel
theorem bt_sorted : bootBuiltins "sorted" = some (.builtin "sorted") := by decide +kernel
theorem bt_tuple : bootBuiltins "tuple" = some (.type "tuple") := by decide +kernel
theorem bt_zip : bootBuiltins "zip" = some (.type "zip") := by decide +kernel
structure Tx (K : PySem.W.Frag) (mg : Str → Option Value) where
  d_is_number : DefT K mg "is_number" ["x"] st_is_number
  d_common : DefT K mg "common" ["a", "b"] st_common
  d_fraction : DefT K mg "fraction" ["n", "d"] st_fraction
  d_is_fraction : DefT K mg "is_fraction" ["x"] st_is_fraction
  d_check_fraction : DefT K mg "check_fraction" ["x"] st_check_fraction
  d_check_both : DefT K mg "check_both" ["a", "b"] st_check_both
  d_less : DefT K mg "less" ["a", "b"] st_less
  d_is_point : DefT K mg "is_point" ["x"] st_is_point
  d_check_point : DefT K mg "check_point" ["x"] st_check_point
  d_check_points : DefT K mg "check_points" ["points"] st_check_points
  d_square : DefT K mg "square" ["a", "b"] st_square
  d_off : DefT K mg "off" ["a", "b", "p"] st_off
  d_away : DefT K mg "away" ["a", "b", "p"] st_away
  d_check_row : DefT K mg "check_row" ["points", "far"] st_check_row
  d_is_near : DefT K mg "is_near" ["points", "far", "i", "j"] st_is_near
  d_fewer : DefT K mg "fewer" ["points", "far"] st_fewer
  d_are_fewer : DefT K mg "are_fewer" ["points", "far", "places"] st_are_fewer
  d__law_box : DefT K mg "_law_box" ["script"] st__law_box
  d__law_take : DefT K mg "_law_take" ["box", "m"] st__law_take
  d__law_pick : DefT K mg "_law_pick" ["box", "menu"] st__law_pick
  d__law_number : DefT K mg "_law_number" ["x"] st__law_number
  d__law_shared : DefT K mg "_law_shared" ["numbers"] st__law_shared
  d__law_made : DefT K mg "_law_made" ["x", "y", "w"] st__law_made
  d__law_point : DefT K mg "_law_point" ["box", "wide"] st__law_point
  d__law_is_fraction : DefT K mg "_law_is_fraction" ["x"] st__law_is_fraction
  d__law_square : DefT K mg "_law_square" ["p", "q"] st__law_square
  d__law_away : DefT K mg "_law_away" ["a", "b", "p"] st__law_away
  d__law_is_near : DefT K mg "_law_is_near" ["points", "far", "i", "j"] st__law_is_near
  d__law_rows : DefT K mg "_law_rows" ["n"] st__law_rows
  d__law_refused : DefT K mg "_law_refused" ["points", "far"] st__law_refused
  d_law : DefT K mg "law" ["script"] st_law
  m_abs : mg "abs" = none
  m_all : mg "all" = none
  m_any : mg "any" = none
  m_bool : mg "bool" = none
  m_int : mg "int" = none
  m_isinstance : mg "isinstance" = none
  m_len : mg "len" = none
  m_list : mg "list" = none
  m_range : mg "range" = none
  m_sorted : mg "sorted" = none
  m_tuple : mg "tuple" = none
  m_zip : mg "zip" = none
  gi_MOST : ∃ t : Tok, mg "MOST" = some (.int 24 t)
  c_BadShape : Addr
  x_BadShape : ExcT K mg "BadShape" c_BadShape
  e_BadShape_BadShape : ExM K mg "BadShape" "BadShape" true

section
variable {P : Program} {w : World} {K : PySem.W.Frag} {mg : Str → Option Value} {base : Heap} (Tg : Tx K mg)
include Tg
theorem w_is_number : Fn P w K mg base 1 Tg.d_is_number.a Tg.d_is_number.fd ["x"] (fnR 1 (r_is_number)) := fn_ok Tg.d_is_number.F sc_is_number fun cdv A outer s H Ex hr =>
  ss_one (s_ret (e_and (e_isi (T := "int") (TS := "int") (e_var 0) rfl Tg.m_isinstance rfl Tg.m_int bt_int (by decide) (by decide)) (e_one (e_not (e_isi (T := "bool") (TS := "bool") (e_var 0) rfl Tg.m_isinstance rfl Tg.m_bool bt_bool (by decide) (by decide))))))
theorem w_common : Fn P w K mg base 1 Tg.d_common.a Tg.d_common.fd ["a", "b"] (fnR 2 (r_common)) := fn_ok Tg.d_common.F sc_common fun cdv A outer s H Ex hr =>
  ss_cons (s_par (i := 0) (j := 1) rfl sc_common.nd rfl rfl (by decide) rfl rfl (a_cons (e_bi (op := bAbs) bAbs_ok rfl Tg.m_abs bt_abs (a_cons (e_var 0) (a_nil))) (a_cons (e_bi (op := bAbs) bAbs_ok rfl Tg.m_abs bt_abs (a_cons (e_var 1) (a_nil))) (a_nil)))) (ss_cons (s_while passes_fn (t_cmp (op_gt_ok hr.units) (e_var 1) (e_int)) (ss_one (s_par (i := 0) (j := 1) rfl sc_common.nd rfl rfl (by decide) rfl rfl (a_cons (e_var 1) (a_cons (e_op op_mod_ok (e_var 0) (e_var 1)) (a_nil)))))) (ss_one (s_ret (e_var 0))))
theorem w_fraction {G_common : List D → Mem → Res D} (h_common : Fn P w K mg base 1 Tg.d_common.a Tg.d_common.fd ["a", "b"] G_common) : Fn P w K mg base 2 Tg.d_fraction.a Tg.d_fraction.fd ["n", "d"] (fnR 3 (r_fraction G_common)) := fn_ok Tg.d_fraction.F sc_fraction fun cdv A outer s H Ex hr =>
  ss_cons (s_if (t_cmp (op_lt_ok hr.units) (e_var 1) (e_int)) (ss_one (s_par (i := 0) (j := 1) rfl sc_fraction.nd rfl rfl (by decide) rfl rfl (a_cons (e_un un_neg_ok (e_var 0)) (a_cons (e_un un_neg_ok (e_var 1)) (a_nil))))) (ss_nil)) (ss_cons (s_set (i := 2) sc_fraction.nd rfl (by first | exact .inl rfl | exact .inr rfl) (e_def Tg.d_common h_common hr (by decide) rfl takes_fn (a_cons (e_var 0) (a_cons (e_var 1) (a_nil))) (argn_cons (argn_cons argn_nil)))) (ss_one (s_ret (e_tup (a_cons (e_op op_fdiv_ok (e_var 0) (e_var 2)) (a_cons (e_op op_fdiv_ok (e_var 1) (e_var 2)) (a_nil)))))))
theorem w_is_fraction {G_is_number : List D → Mem → Res D} (h_is_number : Fn P w K mg base 1 Tg.d_is_number.a Tg.d_is_number.fd ["x"] G_is_number) {G_common : List D → Mem → Res D} (h_common : Fn P w K mg base 1 Tg.d_common.a Tg.d_common.fd ["a", "b"] G_common) : Fn P w K mg base 2 Tg.d_is_fraction.a Tg.d_is_fraction.fd ["x"] (fnR 1 (r_is_fraction G_is_number G_common)) := fn_ok Tg.d_is_fraction.F sc_is_fraction fun cdv A outer s H Ex hr =>
  ss_cons (s_if (PW.pt (t_or (t_not (t_val (e_isi (T := "tuple") (TS := "tuple") (e_var 0) rfl Tg.m_isinstance rfl Tg.m_tuple bt_tuple (by decide) (by decide)))) (t_or (t_cmp (op_ne_ok hr.units) (e_bi (op := bLen) bLen_ok rfl Tg.m_len bt_len (a_cons (e_var 0) (a_nil))) (e_int)) (t_or (t_not (t_val (e_def Tg.d_is_number h_is_number hr (by decide) rfl takes_fn (a_cons (e_ix (e_var 0) (e_int)) (a_nil)) (argn_cons argn_nil)))) (t_or1 (t_not (t_val (e_def Tg.d_is_number h_is_number hr (by decide) rfl takes_fn (a_cons (e_ix (e_var 0) (e_int)) (a_nil)) (argn_cons argn_nil))))))))) (ss_one (s_ret (e_bl))) (ss_nil)) (ss_one (s_ret (e_and (e_cmp (op_ge_ok hr.units) (e_ix (e_var 0) (e_int)) (e_int)) (e_one (e_cmp (op_eq_ok hr.units) (e_def Tg.d_common h_common hr (by decide) rfl takes_fn (a_cons (e_ix (e_var 0) (e_int)) (a_cons (e_ix (e_var 0) (e_int)) (a_nil))) (argn_cons (argn_cons argn_nil))) (e_int))))))
theorem w_check_fraction {G_is_fraction : List D → Mem → Res D} (h_is_fraction : Fn P w K mg base 2 Tg.d_is_fraction.a Tg.d_is_fraction.fd ["x"] G_is_fraction) : Fn P w K mg base 3 Tg.d_check_fraction.a Tg.d_check_fraction.fd ["x"] (fnR 1 (r_check_fraction G_is_fraction)) := fn_ok Tg.d_check_fraction.F sc_check_fraction fun cdv A outer s H Ex hr =>
  ss_one (s_if (t_not (t_val (e_def Tg.d_is_fraction h_is_fraction hr (by decide) rfl takes_fn (a_cons (e_var 0) (a_nil)) (argn_cons argn_nil)))) (ss_one (s_raiseT rfl takes_fn Tg.x_BadShape rfl)) (ss_nil))
theorem w_check_both {G_check_fraction : List D → Mem → Res D} (h_check_fraction : Fn P w K mg base 3 Tg.d_check_fraction.a Tg.d_check_fraction.fd ["x"] G_check_fraction) : Fn P w K mg base 4 Tg.d_check_both.a Tg.d_check_both.fd ["a", "b"] (fnR 2 (r_check_both G_check_fraction)) := fn_ok Tg.d_check_both.F sc_check_both fun cdv A outer s H Ex hr =>
  ss_cons (s_expr (e_def Tg.d_check_fraction h_check_fraction hr (by decide) rfl takes_fn (a_cons (e_var 0) (a_nil)) (argn_cons argn_nil))) (ss_one (s_expr (e_def Tg.d_check_fraction h_check_fraction hr (by decide) rfl takes_fn (a_cons (e_var 1) (a_nil)) (argn_cons argn_nil))))
theorem w_less {G_check_both : List D → Mem → Res D} (h_check_both : Fn P w K mg base 4 Tg.d_check_both.a Tg.d_check_both.fd ["a", "b"] G_check_both) : Fn P w K mg base 5 Tg.d_less.a Tg.d_less.fd ["a", "b"] (fnR 2 (r_less G_check_both)) := fn_ok Tg.d_less.F sc_less fun cdv A outer s H Ex hr =>
  ss_cons (s_expr (e_def Tg.d_check_both h_check_both hr (by decide) rfl takes_fn (a_cons (e_var 0) (a_cons (e_var 1) (a_nil))) (argn_cons (argn_cons argn_nil)))) (ss_one (s_ret (e_cmp (op_lt_ok hr.units) (e_op op_mulX_ok (e_ix (e_var 0) (e_int)) (e_ix (e_var 1) (e_int))) (e_op op_mulX_ok (e_ix (e_var 1) (e_int)) (e_ix (e_var 0) (e_int))))))
theorem w_is_point {G_common : List D → Mem → Res D} (h_common : Fn P w K mg base 1 Tg.d_common.a Tg.d_common.fd ["a", "b"] G_common) {G_is_number : List D → Mem → Res D} (h_is_number : Fn P w K mg base 1 Tg.d_is_number.a Tg.d_is_number.fd ["x"] G_is_number) : Fn P w K mg base 2 Tg.d_is_point.a Tg.d_is_point.fd ["x"] (fnR 2 (r_is_point G_common G_is_number)) := fn_ok Tg.d_is_point.F sc_is_point fun cdv A outer s H Ex hr =>
  ss_cons (s_if (PW.pt (t_or (t_not (t_val (e_isi (T := "tuple") (TS := "tuple") (e_var 0) rfl Tg.m_isinstance rfl Tg.m_tuple bt_tuple (by decide) (by decide)))) (t_or (t_cmp (op_ne_ok hr.units) (e_bi (op := bLen) bLen_ok rfl Tg.m_len bt_len (a_cons (e_var 0) (a_nil))) (e_int)) (t_or1 (t_not (t_val (e_bi (op := (bAllB false)) (bAll_ok rfl) rfl Tg.m_all bt_all (a_cons (e_lc (nw := false) (own := [("one", 1)]) rfl sc_is_point.nd (i_any (e_var 0)) (blkOk_by (own := [("one", 1)]) (by rfl)) (gok_name) (fun _ _ _ _ _ => g_name (i := 1) sc_is_point.nd rfl (by first | exact .inl rfl | exact .inr rfl)) (fun _ _ _ _ _ => pts_nilD) (fun _ _ _ _ _ => e_def Tg.d_is_number h_is_number hr (by decide) rfl takesW0 (a_cons (e_var 1) (a_nil)) (argn_cons argn_nil))) (a_nil))))))))) (ss_one (s_ret (e_bl))) (ss_nil)) (ss_one (s_ret (e_and (e_cmp (op_ge_ok hr.units) (e_ix (e_var 0) (e_int)) (e_int)) (e_one (e_cmp (op_eq_ok hr.units) (e_def Tg.d_common h_common hr (by decide) rfl takes_fn (a_cons (e_def Tg.d_common h_common hr (by decide) rfl takes_fn (a_cons (e_ix (e_var 0) (e_int)) (a_cons (e_ix (e_var 0) (e_int)) (a_nil))) (argn_cons (argn_cons argn_nil))) (a_cons (e_ix (e_var 0) (e_int)) (a_nil))) (argn_cons (argn_cons argn_nil))) (e_int))))))
theorem w_check_point {G_is_point : List D → Mem → Res D} (h_is_point : Fn P w K mg base 2 Tg.d_is_point.a Tg.d_is_point.fd ["x"] G_is_point) : Fn P w K mg base 3 Tg.d_check_point.a Tg.d_check_point.fd ["x"] (fnR 1 (r_check_point G_is_point)) := fn_ok Tg.d_check_point.F sc_check_point fun cdv A outer s H Ex hr =>
  ss_one (s_if (t_not (t_val (e_def Tg.d_is_point h_is_point hr (by decide) rfl takes_fn (a_cons (e_var 0) (a_nil)) (argn_cons argn_nil)))) (ss_one (s_raiseT rfl takes_fn Tg.x_BadShape rfl)) (ss_nil))
theorem w_check_points {G_check_point : List D → Mem → Res D} (h_check_point : Fn P w K mg base 3 Tg.d_check_point.a Tg.d_check_point.fd ["x"] G_check_point) : Fn P w K mg base 4 Tg.d_check_points.a Tg.d_check_points.fd ["points"] (fnR 2 (r_check_points G_check_point)) := fn_ok Tg.d_check_points.F sc_check_points fun cdv A outer s H Ex hr =>
  ss_one (s_for passes_fn rfl (i_any (e_var 0)) (ws := [1]) (g_name (i := 1) sc_check_points.nd rfl (by first | exact .inl rfl | exact .inr rfl)) (gok_name) (ss_one (s_expr (e_def Tg.d_check_point h_check_point hr (by decide) rfl takes_fn (a_cons (e_var 1) (a_nil)) (argn_cons argn_nil)))))
theorem w_square {G_fraction : List D → Mem → Res D} (h_fraction : Fn P w K mg base 2 Tg.d_fraction.a Tg.d_fraction.fd ["n", "d"] G_fraction) : Fn P w K mg base 3 Tg.d_square.a Tg.d_square.fd ["a", "b"] (fnR 5 (r_square G_fraction)) := fn_ok Tg.d_square.F sc_square fun cdv A outer s H Ex hr =>
  ss_cons (s_set (i := 2) sc_square.nd rfl (by first | exact .inl rfl | exact .inr rfl) (e_op op_mulX_ok (e_ix (e_var 0) (e_int)) (e_ix (e_var 1) (e_int)))) (ss_cons (s_par (i := 3) (j := 4) rfl sc_square.nd rfl rfl (by decide) rfl rfl (a_cons (e_op op_sub_ok (e_op op_mulX_ok (e_ix (e_var 0) (e_int)) (e_ix (e_var 1) (e_int))) (e_op op_mulX_ok (e_ix (e_var 1) (e_int)) (e_ix (e_var 0) (e_int)))) (a_cons (e_op op_sub_ok (e_op op_mulX_ok (e_ix (e_var 0) (e_int)) (e_ix (e_var 1) (e_int))) (e_op op_mulX_ok (e_ix (e_var 1) (e_int)) (e_ix (e_var 0) (e_int)))) (a_nil)))) (ss_one (s_ret (e_def Tg.d_fraction h_fraction hr (by decide) rfl takes_fn (a_cons (e_op op_addX_ok (e_op op_mulX_ok (e_var 3) (e_var 3)) (e_op op_mulX_ok (e_var 4) (e_var 4))) (a_cons (e_op op_mulX_ok (e_var 2) (e_var 2)) (a_nil))) (argn_cons (argn_cons argn_nil))))))
theorem w_off {G_fraction : List D → Mem → Res D} (h_fraction : Fn P w K mg base 2 Tg.d_fraction.a Tg.d_fraction.fd ["n", "d"] G_fraction) {G_square : List D → Mem → Res D} (h_square : Fn P w K mg base 3 Tg.d_square.a Tg.d_square.fd ["a", "b"] G_square) : Fn P w K mg base 4 Tg.d_off.a Tg.d_off.fd ["a", "b", "p"] (fnR 10 (r_off G_fraction G_square)) := fn_ok Tg.d_off.F sc_off fun cdv A outer s H Ex hr =>
  ss_cons (s_par (i := 3) (j := 4) rfl sc_off.nd rfl rfl (by decide) rfl rfl (a_cons (e_op op_sub_ok (e_op op_mulX_ok (e_ix (e_var 1) (e_int)) (e_ix (e_var 0) (e_int))) (e_op op_mulX_ok (e_ix (e_var 0) (e_int)) (e_ix (e_var 1) (e_int)))) (a_cons (e_op op_sub_ok (e_op op_mulX_ok (e_ix (e_var 1) (e_int)) (e_ix (e_var 0) (e_int))) (e_op op_mulX_ok (e_ix (e_var 0) (e_int)) (e_ix (e_var 1) (e_int)))) (a_nil)))) (ss_cons (s_par (i := 5) (j := 6) rfl sc_off.nd rfl rfl (by decide) rfl rfl (a_cons (e_op op_sub_ok (e_op op_mulX_ok (e_ix (e_var 2) (e_int)) (e_ix (e_var 0) (e_int))) (e_op op_mulX_ok (e_ix (e_var 0) (e_int)) (e_ix (e_var 2) (e_int)))) (a_cons (e_op op_sub_ok (e_op op_mulX_ok (e_ix (e_var 2) (e_int)) (e_ix (e_var 0) (e_int))) (e_op op_mulX_ok (e_ix (e_var 0) (e_int)) (e_ix (e_var 2) (e_int)))) (a_nil)))) (ss_cons (s_par (i := 7) (j := 8) rfl sc_off.nd rfl rfl (by decide) rfl rfl (a_cons (e_op op_mulX_ok (e_op op_addX_ok (e_op op_mulX_ok (e_var 3) (e_var 5)) (e_op op_mulX_ok (e_var 4) (e_var 6))) (e_ix (e_var 1) (e_int))) (a_cons (e_op op_mulX_ok (e_op op_addX_ok (e_op op_mulX_ok (e_var 3) (e_var 3)) (e_op op_mulX_ok (e_var 4) (e_var 4))) (e_ix (e_var 2) (e_int))) (a_nil)))) (ss_cons (s_if (t_cmp (op_le_ok hr.units) (e_var 7) (e_int)) (ss_one (s_ret (e_def Tg.d_square h_square hr (by decide) rfl takes_fn (a_cons (e_var 0) (a_cons (e_var 2) (a_nil))) (argn_cons (argn_cons argn_nil))))) (ss_nil)) (ss_cons (s_if (t_cmp (op_ge_ok hr.units) (e_var 7) (e_var 8)) (ss_one (s_ret (e_def Tg.d_square h_square hr (by decide) rfl takes_fn (a_cons (e_var 1) (a_cons (e_var 2) (a_nil))) (argn_cons (argn_cons argn_nil))))) (ss_nil)) (ss_cons (s_set (i := 9) sc_off.nd rfl (by first | exact .inl rfl | exact .inr rfl) (e_op op_sub_ok (e_op op_mulX_ok (e_var 3) (e_var 6)) (e_op op_mulX_ok (e_var 4) (e_var 5)))) (ss_one (s_ret (e_def Tg.d_fraction h_fraction hr (by decide) rfl takes_fn (a_cons (e_op op_mulX_ok (e_var 9) (e_var 9)) (a_cons (e_op op_mulX_ok (e_op op_mulX_ok (e_op op_mulX_ok (e_op op_mulX_ok (e_ix (e_var 0) (e_int)) (e_ix (e_var 0) (e_int))) (e_ix (e_var 2) (e_int))) (e_ix (e_var 2) (e_int))) (e_op op_addX_ok (e_op op_mulX_ok (e_var 3) (e_var 3)) (e_op op_mulX_ok (e_var 4) (e_var 4)))) (a_nil))) (argn_cons (argn_cons argn_nil))))))))))
theorem w_away {G_check_points : List D → Mem → Res D} (h_check_points : Fn P w K mg base 4 Tg.d_check_points.a Tg.d_check_points.fd ["points"] G_check_points) {G_off : List D → Mem → Res D} (h_off : Fn P w K mg base 4 Tg.d_off.a Tg.d_off.fd ["a", "b", "p"] G_off) : Fn P w K mg base 5 Tg.d_away.a Tg.d_away.fd ["a", "b", "p"] (fnR 3 (r_away G_check_points G_off)) := fn_ok Tg.d_away.F sc_away fun cdv A outer s H Ex hr =>
  ss_cons (s_expr (e_def Tg.d_check_points h_check_points hr (by decide) rfl takes_fn (a_cons (e_tup (a_cons (e_var 0) (a_cons (e_var 1) (a_cons (e_var 2) (a_nil))))) (a_nil)) (argn_cons argn_nil))) (ss_one (s_ret (e_def Tg.d_off h_off hr (by decide) rfl takes_fn (a_cons (e_var 0) (a_cons (e_var 1) (a_cons (e_var 2) (a_nil)))) (argn_cons (argn_cons (argn_cons argn_nil))))))
theorem w_check_row {G_is_fraction : List D → Mem → Res D} (h_is_fraction : Fn P w K mg base 2 Tg.d_is_fraction.a Tg.d_is_fraction.fd ["x"] G_is_fraction) {G_is_point : List D → Mem → Res D} (h_is_point : Fn P w K mg base 2 Tg.d_is_point.a Tg.d_is_point.fd ["x"] G_is_point) : Fn P w K mg base 3 Tg.d_check_row.a Tg.d_check_row.fd ["points", "far"] (fnR 4 (r_check_row G_is_fraction G_is_point)) := fn_ok Tg.d_check_row.F sc_check_row fun cdv A outer s H Ex hr =>
  ss_cons (s_if (PW.pt (t_or (t_not (t_val (e_isi (T := "tuple") (TS := "tuple") (e_var 0) rfl Tg.m_isinstance rfl Tg.m_tuple bt_tuple (by decide) (by decide)))) (t_or (t_not (t_chain (op_le_ok hr.units) (op_le_ok hr.units) (e_int) (e_bi (op := bLen) bLen_ok rfl Tg.m_len bt_len (a_cons (e_var 0) (a_nil))) (e_glob rfl (Tg.gi_MOST).choose_spec))) (t_or1 (t_not (t_val (e_bi (op := (bAllB false)) (bAll_ok rfl) rfl Tg.m_all bt_all (a_cons (e_lc (nw := false) (own := [("p", 2)]) rfl sc_check_row.nd (i_any (e_var 0)) (blkOk_by (own := [("p", 2)]) (by rfl)) (gok_name) (fun _ _ _ _ _ => g_name (i := 2) sc_check_row.nd rfl (by first | exact .inl rfl | exact .inr rfl)) (fun _ _ _ _ _ => pts_nilD) (fun _ _ _ _ _ => e_def Tg.d_is_point h_is_point hr (by decide) rfl takesW0 (a_cons (e_var 2) (a_nil)) (argn_cons argn_nil))) (a_nil))))))))) (ss_one (s_raiseT rfl takes_fn Tg.x_BadShape rfl)) (ss_nil)) (ss_one (s_if (PW.pt (t_or (t_not (t_val (e_def Tg.d_is_fraction h_is_fraction hr (by decide) rfl takes_fn (a_cons (e_var 1) (a_nil)) (argn_cons argn_nil)))) (t_or (t_cmp (op_lt_ok hr.units) (e_ix (e_var 1) (e_int)) (e_int)) (t_or1 (t_cmp (op_ne_ok hr.units) (e_lc (nw := false) (own := [("k", 3)]) rfl sc_check_row.nd (i_range2 rfl Tg.m_range (a_cons (e_int) (a_cons (e_bi (op := bLen) bLen_ok rfl Tg.m_len bt_len (a_cons (e_var 0) (a_nil))) (a_nil)))) (blkOk_by (own := [("k", 3)]) (by rfl)) (gok_name) (fun _ _ _ _ _ => g_name (i := 3) sc_check_row.nd rfl (by first | exact .inl rfl | exact .inr rfl)) (fun _ _ _ _ _ => pts_oneD (t_cmp (op_eq_ok hr.units) (e_ix (e_var 0) (e_op op_sub_ok (e_var 3) (e_int))) (e_ix (e_var 0) (e_var 3)))) (fun _ _ _ _ _ => e_var 3)) (e_lst (nw := false) (a_nil))))))) (ss_one (s_raiseT rfl takes_fn Tg.x_BadShape rfl)) (ss_nil)))
theorem w_is_near {G_less : List D → Mem → Res D} (h_less : Fn P w K mg base 5 Tg.d_less.a Tg.d_less.fd ["a", "b"] G_less) {G_off : List D → Mem → Res D} (h_off : Fn P w K mg base 4 Tg.d_off.a Tg.d_off.fd ["a", "b", "p"] G_off) : Fn P w K mg base 6 Tg.d_is_near.a Tg.d_is_near.fd ["points", "far", "i", "j"] (fnR 5 (r_is_near G_less G_off)) := fn_ok Tg.d_is_near.F sc_is_near fun cdv A outer s H Ex hr =>
  ss_one (s_ret (e_not (e_bi (op := (bAllB true)) (bAny_ok rfl) rfl Tg.m_any bt_any (a_cons (e_lc (nw := false) (own := [("p", 4)]) rfl sc_is_near.nd (i_any (e_sl (nw := false) (e_var 0) (p_some (e_op op_addX_ok (e_var 2) (e_int))) (p_some (e_var 3)))) (blkOk_by (own := [("p", 4)]) (by rfl)) (gok_name) (fun _ _ _ _ _ => g_name (i := 4) sc_is_near.nd rfl (by first | exact .inl rfl | exact .inr rfl)) (fun _ _ _ _ _ => pts_nilD) (fun _ _ _ _ _ => e_def Tg.d_less h_less hr (by decide) rfl takesW0 (a_cons (e_var 1) (a_cons (e_def Tg.d_off h_off hr (by decide) rfl takesW0 (a_cons (e_ix (e_var 0) (e_var 2)) (a_cons (e_ix (e_var 0) (e_var 3)) (a_cons (e_var 4) (a_nil)))) (argn_cons (argn_cons (argn_cons argn_nil)))) (a_nil))) (argn_cons (argn_cons argn_nil)))) (a_nil)))))
theorem w_fewer {G_check_row : List D → Mem → Res D} (h_check_row : Fn P w K mg base 3 Tg.d_check_row.a Tg.d_check_row.fd ["points", "far"] G_check_row) {G_is_near : List D → Mem → Res D} (h_is_near : Fn P w K mg base 6 Tg.d_is_near.a Tg.d_is_near.fd ["points", "far", "i", "j"] G_is_near) : Fn P w K mg base 7 Tg.d_fewer.a Tg.d_fewer.fd ["points", "far"] (fnR 8 (r_fewer G_check_row G_is_near)) := fn_ok Tg.d_fewer.F sc_fewer fun cdv A outer s H Ex hr =>
  ss_cons (s_expr (e_def Tg.d_check_row h_check_row hr (by decide) rfl takes_fn (a_cons (e_var 0) (a_cons (e_var 1) (a_nil))) (argn_cons (argn_cons argn_nil)))) (ss_cons (s_set (i := 2) sc_fewer.nd rfl (by first | exact .inl rfl | exact .inr rfl) (e_bi (op := bLen) bLen_ok rfl Tg.m_len bt_len (a_cons (e_var 0) (a_nil)))) (ss_cons (s_set (i := 3) sc_fewer.nd rfl (by first | exact .inl rfl | exact .inr rfl) (e_op op_mulX_ok (e_lst (nw := false) (a_cons (e_int) (a_nil))) (e_var 2))) (ss_cons (s_set (i := 4) sc_fewer.nd rfl (by first | exact .inl rfl | exact .inr rfl) (e_op op_mulX_ok (e_lst (nw := false) (a_cons (e_non) (a_nil))) (e_var 2))) (ss_cons (s_for passes_fn rfl (i_range3 rfl Tg.m_range (a_cons (e_op op_sub_ok (e_var 2) (e_int)) (a_cons (e_un un_neg_ok (e_int)) (a_cons (e_un un_neg_ok (e_int)) (a_nil))))) (ws := [5]) (g_name (i := 5) sc_fewer.nd rfl (by first | exact .inl rfl | exact .inr rfl)) (gok_name) (ss_one (s_for passes_fn rfl (i_range2 rfl Tg.m_range (a_cons (e_op op_addX_ok (e_var 5) (e_int)) (a_cons (e_var 2) (a_nil)))) (ws := [6]) (g_name (i := 6) sc_fewer.nd rfl (by first | exact .inl rfl | exact .inr rfl)) (gok_name) (ss_one (s_if (PW.pt (t_and (PW.pt (t_or (t_cmp op_is_ok (e_ix (e_var 4) (e_var 5)) (e_non)) (t_or1 (t_cmp (op_lt_ok hr.units) (e_op op_addX_ok (e_ix (e_var 3) (e_var 6)) (e_int)) (e_ix (e_var 3) (e_var 5)))))) (t_and1 (t_val (e_def Tg.d_is_near h_is_near hr (by decide) rfl takes_fn (a_cons (e_var 0) (a_cons (e_var 1) (a_cons (e_var 5) (a_cons (e_var 6) (a_nil))))) (argn_cons (argn_cons (argn_cons (argn_cons argn_nil))))))))) (ss_one (s_asg (ws := []) (e_tup (a_cons (e_op op_addX_ok (e_ix (e_var 3) (e_var 6)) (e_int)) (a_cons (e_var 6) (a_nil)))) (g_tup rfl (gs_cons (g_ix (W := W0) (e_var 3) (e_var 5)) (gs_cons (g_ix (W := W0) (e_var 4) (e_var 5)) (gs_nil)))) (gok_tup (gsok_cons (gok_ix) (gsok_cons (gok_ix) (gsok_nil)))))) (ss_nil)))))) (ss_cons (s_set (i := 7) sc_fewer.nd rfl (by first | exact .inl rfl | exact .inr rfl) (e_lst (nw := true) (a_cons (e_int) (a_nil)))) (ss_cons (s_while passes_fn (t_cmp (op_ne_ok hr.units) (e_ix (e_var 7) (e_un un_neg_ok (e_int))) (e_op op_sub_ok (e_var 2) (e_int))) (ss_one (s_expr (e_meth PySem.F.slot_list_append PySem.F.type_list_append m_append (e_var 7) (a_cons (e_ix (e_var 4) (e_ix (e_var 7) (e_un un_neg_ok (e_int)))) (a_nil)))))) (ss_one (s_ret (e_ty (op := bTuple) bTuple_ok rfl Tg.m_tuple bt_tuple (a_cons (e_var 7) (a_nil)))))))))))
theorem w_are_fewer {G_check_row : List D → Mem → Res D} (h_check_row : Fn P w K mg base 3 Tg.d_check_row.a Tg.d_check_row.fd ["points", "far"] G_check_row) {G_is_near : List D → Mem → Res D} (h_is_near : Fn P w K mg base 6 Tg.d_is_near.a Tg.d_is_near.fd ["points", "far", "i", "j"] G_is_near) {G_is_number : List D → Mem → Res D} (h_is_number : Fn P w K mg base 1 Tg.d_is_number.a Tg.d_is_number.fd ["x"] G_is_number) : Fn P w K mg base 7 Tg.d_are_fewer.a Tg.d_are_fewer.fd ["points", "far", "places"] (fnR 6 (r_are_fewer G_check_row G_is_near G_is_number)) := fn_ok Tg.d_are_fewer.F sc_are_fewer fun cdv A outer s H Ex hr =>
  ss_cons (s_expr (e_def Tg.d_check_row h_check_row hr (by decide) rfl takes_fn (a_cons (e_var 0) (a_cons (e_var 1) (a_nil))) (argn_cons (argn_cons argn_nil)))) (ss_cons (s_if (PW.pt (t_or (t_not (t_val (e_isi (T := "tuple") (TS := "tuple") (e_var 2) rfl Tg.m_isinstance rfl Tg.m_tuple bt_tuple (by decide) (by decide)))) (t_or (t_cmp (op_lt_ok hr.units) (e_bi (op := bLen) bLen_ok rfl Tg.m_len bt_len (a_cons (e_var 2) (a_nil))) (e_int)) (t_or1 (t_not (t_val (e_bi (op := (bAllB false)) (bAll_ok rfl) rfl Tg.m_all bt_all (a_cons (e_lc (nw := false) (own := [("k", 5)]) rfl sc_are_fewer.nd (i_any (e_var 2)) (blkOk_by (own := [("k", 5)]) (by rfl)) (gok_name) (fun _ _ _ _ _ => g_name (i := 5) sc_are_fewer.nd rfl (by first | exact .inl rfl | exact .inr rfl)) (fun _ _ _ _ _ => pts_nilD) (fun _ _ _ _ _ => e_def Tg.d_is_number h_is_number hr (by decide) rfl takesW0 (a_cons (e_var 5) (a_nil)) (argn_cons argn_nil))) (a_nil))))))))) (ss_one (s_ret (e_bl))) (ss_nil)) (ss_cons (s_if (PW.pt (t_or (t_cmp (op_ne_ok hr.units) (e_ix (e_var 2) (e_int)) (e_int)) (t_or1 (t_cmp (op_ne_ok hr.units) (e_ix (e_var 2) (e_un un_neg_ok (e_int))) (e_op op_sub_ok (e_bi (op := bLen) bLen_ok rfl Tg.m_len bt_len (a_cons (e_var 0) (a_nil))) (e_int)))))) (ss_one (s_ret (e_bl))) (ss_nil)) (ss_cons (s_for passes_fn rfl (i_zip rfl Tg.m_zip (a_cons (e_var 2) (a_cons (e_sl (nw := false) (e_var 2) (p_some (e_int)) p_none) (a_nil)))) (ws := [3, 4]) (g_tup rfl (gs_cons (g_name (i := 3) sc_are_fewer.nd rfl (by first | exact .inl rfl | exact .inr rfl)) (gs_cons (g_name (i := 4) sc_are_fewer.nd rfl (by first | exact .inl rfl | exact .inr rfl)) (gs_nil)))) (gok_tup (gsok_cons (gok_name) (gsok_cons (gok_name) (gsok_nil)))) (ss_one (s_if (PW.pt (t_or (t_cmp (op_ge_ok hr.units) (e_var 3) (e_var 4)) (t_or1 (t_not (t_val (e_def Tg.d_is_near h_is_near hr (by decide) rfl takes_fn (a_cons (e_var 0) (a_cons (e_var 1) (a_cons (e_var 3) (a_cons (e_var 4) (a_nil))))) (argn_cons (argn_cons (argn_cons (argn_cons argn_nil)))))))))) (ss_one (s_ret (e_bl))) (ss_nil)))) (ss_one (s_ret (e_bl))))))
theorem w__law_box {scr : OScr} (ho : scr.Ok K) : Fn P w K mg base 1 Tg.d__law_box.a Tg.d__law_box.fd ["script"] (fnR 2 (r__law_box scr)) := fn_ok Tg.d__law_box.F sc__law_box fun cdv A outer s H Ex hr =>
  ss_one (s_ret (e_lst (nw := true) (a_cons (e_int) (a_cons (e_int) (a_cons (e_int) (a_cons (e_lc (nw := false) (own := [("x", 1)]) rfl sc__law_box.nd (i_scr ho (e_var 0)) (blkOk_by (own := [("x", 1)]) (by rfl)) (gok_name) (fun _ _ _ _ _ => g_name (i := 1) sc__law_box.nd rfl (by first | exact .inl rfl | exact .inr rfl)) (fun _ _ _ _ _ => pts_nilD) (fun _ _ _ _ _ => e_bi (op := bAbs) bAbs_ok rfl Tg.m_abs bt_abs (a_cons (e_ty (op := bInt) bInt_ok rfl Tg.m_int bt_int (a_cons (e_var 1) (a_nil))) (a_nil)))) (a_nil)))))))
theorem w__law_take : Fn P w K mg base 1 Tg.d__law_take.a Tg.d__law_take.fd ["box", "m"] (fnR 5 (r__law_take)) := fn_ok Tg.d__law_take.F sc__law_take fun cdv A outer s H Ex hr =>
  ss_cons (s_if (t_cmp (op_eq_ok hr.units) (e_ix (e_var 0) (e_int)) (e_int)) (ss_cons (s_set (i := 2) sc__law_take.nd rfl (by first | exact .inl rfl | exact .inr rfl) (e_ix (e_var 0) (e_int))) (ss_cons (s_set (i := 3) sc__law_take.nd rfl (by first | exact .inl rfl | exact .inr rfl) (e_int)) (ss_cons (s_if (t_cmp (op_lt_ok hr.units) (e_var 2) (e_bi (op := bLen) bLen_ok rfl Tg.m_len bt_len (a_cons (e_ix (e_var 0) (e_int)) (a_nil)))) (ss_cons (s_set (i := 3) sc__law_take.nd rfl (by first | exact .inl rfl | exact .inr rfl) (e_ix (e_ix (e_var 0) (e_int)) (e_var 2))) (ss_one (s_asg (ws := []) (e_if (t_cmp (op_ge_ok hr.units) (e_var 3) (e_op op_pow_ok (e_int) (e_int))) (e_int) (e_un un_neg_ok (e_int))) (g_ix (W := W0) (e_var 0) (e_int)) (gok_ix)))) (ss_nil)) (ss_cons (s_asg (ws := []) (e_op op_addX_ok (e_var 2) (e_int)) (g_ix (W := W0) (e_var 0) (e_int)) (gok_ix)) (ss_cons (s_asg (ws := []) (e_var 3) (g_ix (W := W0) (e_var 0) (e_int)) (gok_ix)) (ss_one (s_if (t_cmp (op_eq_ok hr.units) (e_ix (e_var 0) (e_int)) (e_int)) (ss_one (s_ret (e_int))) (ss_nil)))))))) (ss_nil)) (ss_cons (s_if (t_cmp (op_gt_ok hr.units) (e_ix (e_var 0) (e_int)) (e_int)) (ss_cons (s_set (i := 4) sc__law_take.nd rfl (by first | exact .inl rfl | exact .inr rfl) (e_op op_mod_ok (e_ty (op := bInt) bInt_ok rfl Tg.m_int bt_int (a_cons (e_ix (e_var 0) (e_int)) (a_nil))) (e_var 1))) (ss_cons (s_asg (ws := []) (e_op op_fdiv_ok (e_ix (e_var 0) (e_int)) (e_var 1)) (g_ix (W := W0) (e_var 0) (e_int)) (gok_ix)) (ss_cons (s_asg (ws := []) (e_if (t_cmp (op_gt_ok hr.units) (e_ix (e_var 0) (e_int)) (e_int)) (e_op op_sub_ok (e_ix (e_var 0) (e_int)) (e_int)) (e_int)) (g_ix (W := W0) (e_var 0) (e_int)) (gok_ix)) (ss_one (s_ret (e_var 4)))))) (ss_nil)) (ss_cons (s_asg (ws := []) (e_op op_addX_ok (e_ix (e_var 0) (e_int)) (e_int)) (g_ix (W := W0) (e_var 0) (e_int)) (gok_ix)) (ss_cons (s_asg (ws := []) (e_op op_mod_ok (e_ty (op := bInt) bInt_ok rfl Tg.m_int bt_int (a_cons (e_op op_addX_ok (e_op op_mulX_ok (e_ix (e_var 0) (e_int)) (e_int)) (e_op op_mulX_ok (e_int) (e_op op_addX_ok (e_ix (e_var 0) (e_int)) (e_int)))) (a_nil))) (e_int)) (g_ix (W := W0) (e_var 0) (e_int)) (gok_ix)) (ss_one (s_ret (e_op op_mod_ok (e_op op_mod_ok (e_ty (op := bInt) bInt_ok rfl Tg.m_int bt_int (a_cons (e_op op_addX_ok (e_op op_fdiv_ok (e_ix (e_var 0) (e_int)) (e_int)) (e_ix (e_var 0) (e_int))) (a_nil))) (e_int)) (e_var 1)))))))
theorem w__law_pick {G__law_take : List D → Mem → Res D} (h__law_take : Fn P w K mg base 1 Tg.d__law_take.a Tg.d__law_take.fd ["box", "m"] G__law_take) : Fn P w K mg base 2 Tg.d__law_pick.a Tg.d__law_pick.fd ["box", "menu"] (fnR 2 (r__law_pick G__law_take)) := fn_ok Tg.d__law_pick.F sc__law_pick fun cdv A outer s H Ex hr =>
  ss_one (s_ret (e_ix (e_var 1) (e_def Tg.d__law_take h__law_take hr (by decide) rfl takes_fn (a_cons (e_var 0) (a_cons (e_bi (op := bLen) bLen_ok rfl Tg.m_len bt_len (a_cons (e_var 1) (a_nil))) (a_nil))) (argn_cons (argn_cons argn_nil)))))
theorem w__law_number : Fn P w K mg base 1 Tg.d__law_number.a Tg.d__law_number.fd ["x"] (fnR 1 (r__law_number)) := fn_ok Tg.d__law_number.F sc__law_number fun cdv A outer s H Ex hr =>
  ss_one (s_ret (e_and (e_isi (T := "int") (TS := "int") (e_var 0) rfl Tg.m_isinstance rfl Tg.m_int bt_int (by decide) (by decide)) (e_one (e_not (e_isi (T := "bool") (TS := "bool") (e_var 0) rfl Tg.m_isinstance rfl Tg.m_bool bt_bool (by decide) (by decide))))))
theorem w__law_shared : Fn P w K mg base 1 Tg.d__law_shared.a Tg.d__law_shared.fd ["numbers"] (fnR 3 (r__law_shared)) := fn_ok Tg.d__law_shared.F sc__law_shared fun cdv A outer s H Ex hr =>
  ss_cons (s_set (i := 1) sc__law_shared.nd rfl (by first | exact .inl rfl | exact .inr rfl) (e_int)) (ss_cons (s_for passes_fn rfl (i_any (e_var 0)) (ws := [2]) (g_name (i := 2) sc__law_shared.nd rfl (by first | exact .inl rfl | exact .inr rfl)) (gok_name) (ss_cons (s_set (i := 2) sc__law_shared.nd rfl (by first | exact .inl rfl | exact .inr rfl) (e_bi (op := bAbs) bAbs_ok rfl Tg.m_abs bt_abs (a_cons (e_var 2) (a_nil)))) (ss_one (s_while passes_fn (t_cmp (op_gt_ok hr.units) (e_var 2) (e_int)) (ss_one (s_par (i := 1) (j := 2) rfl sc__law_shared.nd rfl rfl (by decide) rfl rfl (a_cons (e_var 2) (a_cons (e_op op_mod_ok (e_var 1) (e_var 2)) (a_nil))))))))) (ss_one (s_ret (e_var 1))))
theorem w__law_made {G__law_shared : List D → Mem → Res D} (h__law_shared : Fn P w K mg base 1 Tg.d__law_shared.a Tg.d__law_shared.fd ["numbers"] G__law_shared) : Fn P w K mg base 2 Tg.d__law_made.a Tg.d__law_made.fd ["x", "y", "w"] (fnR 4 (r__law_made G__law_shared)) := fn_ok Tg.d__law_made.F sc__law_made fun cdv A outer s H Ex hr =>
  ss_cons (s_set (i := 3) sc__law_made.nd rfl (by first | exact .inl rfl | exact .inr rfl) (e_if (t_cmp (op_gt_ok hr.units) (e_var 2) (e_int)) (e_def Tg.d__law_shared h__law_shared hr (by decide) rfl takes_fn (a_cons (e_tup (a_cons (e_var 0) (a_cons (e_var 1) (a_cons (e_var 2) (a_nil))))) (a_nil)) (argn_cons argn_nil)) (e_un un_neg_ok (e_def Tg.d__law_shared h__law_shared hr (by decide) rfl takes_fn (a_cons (e_tup (a_cons (e_var 0) (a_cons (e_var 1) (a_cons (e_var 2) (a_nil))))) (a_nil)) (argn_cons argn_nil))))) (ss_one (s_ret (e_tup (a_cons (e_op op_fdiv_ok (e_var 0) (e_var 3)) (a_cons (e_op op_fdiv_ok (e_var 1) (e_var 3)) (a_cons (e_op op_fdiv_ok (e_var 2) (e_var 3)) (a_nil)))))))
theorem w__law_point {G__law_made : List D → Mem → Res D} (h__law_made : Fn P w K mg base 2 Tg.d__law_made.a Tg.d__law_made.fd ["x", "y", "w"] G__law_made) {G__law_take : List D → Mem → Res D} (h__law_take : Fn P w K mg base 1 Tg.d__law_take.a Tg.d__law_take.fd ["box", "m"] G__law_take) : Fn P w K mg base 3 Tg.d__law_point.a Tg.d__law_point.fd ["box", "wide"] (fnR 3 (r__law_point G__law_made G__law_take)) := fn_ok Tg.d__law_point.F sc__law_point fun cdv A outer s H Ex hr =>
  ss_cons (s_set (i := 2) sc__law_point.nd rfl (by first | exact .inl rfl | exact .inr rfl) (e_op op_addX_ok (e_int) (e_op op_mulX_ok (e_def Tg.d__law_take h__law_take hr (by decide) rfl takes_fn (a_cons (e_var 0) (a_cons (e_int) (a_nil))) (argn_cons (argn_cons argn_nil))) (e_op op_fdiv_ok (e_def Tg.d__law_take h__law_take hr (by decide) rfl takes_fn (a_cons (e_var 0) (a_cons (e_int) (a_nil))) (argn_cons (argn_cons argn_nil))) (e_int))))) (ss_one (s_ret (e_def Tg.d__law_made h__law_made hr (by decide) rfl takes_fn (a_cons (e_op op_sub_ok (e_def Tg.d__law_take h__law_take hr (by decide) rfl takes_fn (a_cons (e_var 0) (a_cons (e_op op_addX_ok (e_op op_mulX_ok (e_int) (e_var 1)) (e_int)) (a_nil))) (argn_cons (argn_cons argn_nil))) (e_var 1)) (a_cons (e_op op_sub_ok (e_def Tg.d__law_take h__law_take hr (by decide) rfl takes_fn (a_cons (e_var 0) (a_cons (e_op op_addX_ok (e_op op_mulX_ok (e_int) (e_var 1)) (e_int)) (a_nil))) (argn_cons (argn_cons argn_nil))) (e_var 1)) (a_cons (e_var 2) (a_nil)))) (argn_cons (argn_cons (argn_cons argn_nil))))))
theorem w__law_is_fraction {G__law_shared : List D → Mem → Res D} (h__law_shared : Fn P w K mg base 1 Tg.d__law_shared.a Tg.d__law_shared.fd ["numbers"] G__law_shared) {G__law_number : List D → Mem → Res D} (h__law_number : Fn P w K mg base 1 Tg.d__law_number.a Tg.d__law_number.fd ["x"] G__law_number) : Fn P w K mg base 2 Tg.d__law_is_fraction.a Tg.d__law_is_fraction.fd ["x"] (fnR 2 (r__law_is_fraction G__law_shared G__law_number)) := fn_ok Tg.d__law_is_fraction.F sc__law_is_fraction fun cdv A outer s H Ex hr =>
  ss_cons (s_if (PW.pt (t_or (t_not (t_val (e_isi (T := "tuple") (TS := "tuple") (e_var 0) rfl Tg.m_isinstance rfl Tg.m_tuple bt_tuple (by decide) (by decide)))) (t_or (t_cmp (op_ne_ok hr.units) (e_bi (op := bLen) bLen_ok rfl Tg.m_len bt_len (a_cons (e_var 0) (a_nil))) (e_int)) (t_or1 (t_cmp (op_ne_ok hr.units) (e_lc (nw := false) (own := [("one", 1)]) rfl sc__law_is_fraction.nd (i_any (e_var 0)) (blkOk_by (own := [("one", 1)]) (by rfl)) (gok_name) (fun _ _ _ _ _ => g_name (i := 1) sc__law_is_fraction.nd rfl (by first | exact .inl rfl | exact .inr rfl)) (fun _ _ _ _ _ => pts_oneD (t_not (t_val (e_def Tg.d__law_number h__law_number hr (by decide) rfl takesW0 (a_cons (e_var 1) (a_nil)) (argn_cons argn_nil))))) (fun _ _ _ _ _ => e_var 1)) (e_lst (nw := false) (a_nil))))))) (ss_one (s_ret (e_bl))) (ss_nil)) (ss_one (s_ret (e_and (e_cmp (op_ge_ok hr.units) (e_ix (e_var 0) (e_int)) (e_int)) (e_one (e_cmp (op_eq_ok hr.units) (e_def Tg.d__law_shared h__law_shared hr (by decide) rfl takes_fn (a_cons (e_var 0) (a_nil)) (argn_cons argn_nil)) (e_int))))))
theorem w__law_square {G__law_shared : List D → Mem → Res D} (h__law_shared : Fn P w K mg base 1 Tg.d__law_shared.a Tg.d__law_shared.fd ["numbers"] G__law_shared) : Fn P w K mg base 2 Tg.d__law_square.a Tg.d__law_square.fd ["p", "q"] (fnR 6 (r__law_square G__law_shared)) := fn_ok Tg.d__law_square.F sc__law_square fun cdv A outer s H Ex hr =>
  ss_cons (s_par3 (i := 2) (j := 3) (l := 4) rfl sc__law_square.nd rfl rfl rfl (by decide) (by decide) (by decide) rfl rfl rfl (a_cons (e_op op_sub_ok (e_op op_mulX_ok (e_ix (e_var 0) (e_int)) (e_ix (e_var 1) (e_int))) (e_op op_mulX_ok (e_ix (e_var 1) (e_int)) (e_ix (e_var 0) (e_int)))) (a_cons (e_op op_sub_ok (e_op op_mulX_ok (e_ix (e_var 0) (e_int)) (e_ix (e_var 1) (e_int))) (e_op op_mulX_ok (e_ix (e_var 1) (e_int)) (e_ix (e_var 0) (e_int)))) (a_cons (e_op op_mulX_ok (e_op op_mulX_ok (e_op op_mulX_ok (e_ix (e_var 0) (e_int)) (e_ix (e_var 0) (e_int))) (e_ix (e_var 1) (e_int))) (e_ix (e_var 1) (e_int))) (a_nil))))) (ss_cons (s_set (i := 5) sc__law_square.nd rfl (by first | exact .inl rfl | exact .inr rfl) (e_def Tg.d__law_shared h__law_shared hr (by decide) rfl takes_fn (a_cons (e_tup (a_cons (e_op op_addX_ok (e_op op_mulX_ok (e_var 2) (e_var 2)) (e_op op_mulX_ok (e_var 3) (e_var 3))) (a_cons (e_var 4) (a_nil)))) (a_nil)) (argn_cons argn_nil))) (ss_one (s_ret (e_tup (a_cons (e_op op_fdiv_ok (e_op op_addX_ok (e_op op_mulX_ok (e_var 2) (e_var 2)) (e_op op_mulX_ok (e_var 3) (e_var 3))) (e_var 5)) (a_cons (e_op op_fdiv_ok (e_var 4) (e_var 5)) (a_nil)))))))
theorem w__law_away {G__law_shared : List D → Mem → Res D} (h__law_shared : Fn P w K mg base 1 Tg.d__law_shared.a Tg.d__law_shared.fd ["numbers"] G__law_shared) {G__law_square : List D → Mem → Res D} (h__law_square : Fn P w K mg base 2 Tg.d__law_square.a Tg.d__law_square.fd ["p", "q"] G__law_square) : Fn P w K mg base 3 Tg.d__law_away.a Tg.d__law_away.fd ["a", "b", "p"] (fnR 11 (r__law_away G__law_shared G__law_square)) := fn_ok Tg.d__law_away.F sc__law_away fun cdv A outer s H Ex hr =>
  ss_cons (s_par (i := 3) (j := 4) rfl sc__law_away.nd rfl rfl (by decide) rfl rfl (a_cons (e_op op_sub_ok (e_op op_mulX_ok (e_ix (e_var 1) (e_int)) (e_ix (e_var 0) (e_int))) (e_op op_mulX_ok (e_ix (e_var 0) (e_int)) (e_ix (e_var 1) (e_int)))) (a_cons (e_op op_sub_ok (e_op op_mulX_ok (e_ix (e_var 1) (e_int)) (e_ix (e_var 0) (e_int))) (e_op op_mulX_ok (e_ix (e_var 0) (e_int)) (e_ix (e_var 1) (e_int)))) (a_nil)))) (ss_cons (s_set (i := 5) sc__law_away.nd rfl (by first | exact .inl rfl | exact .inr rfl) (e_op op_addX_ok (e_op op_mulX_ok (e_var 3) (e_op op_sub_ok (e_op op_mulX_ok (e_ix (e_var 2) (e_int)) (e_ix (e_var 0) (e_int))) (e_op op_mulX_ok (e_ix (e_var 0) (e_int)) (e_ix (e_var 2) (e_int))))) (e_op op_mulX_ok (e_var 4) (e_op op_sub_ok (e_op op_mulX_ok (e_ix (e_var 2) (e_int)) (e_ix (e_var 0) (e_int))) (e_op op_mulX_ok (e_ix (e_var 0) (e_int)) (e_ix (e_var 2) (e_int))))))) (ss_cons (s_set (i := 6) sc__law_away.nd rfl (by first | exact .inl rfl | exact .inr rfl) (e_op op_addX_ok (e_op op_mulX_ok (e_var 3) (e_op op_sub_ok (e_op op_mulX_ok (e_ix (e_var 2) (e_int)) (e_ix (e_var 1) (e_int))) (e_op op_mulX_ok (e_ix (e_var 1) (e_int)) (e_ix (e_var 2) (e_int))))) (e_op op_mulX_ok (e_var 4) (e_op op_sub_ok (e_op op_mulX_ok (e_ix (e_var 2) (e_int)) (e_ix (e_var 1) (e_int))) (e_op op_mulX_ok (e_ix (e_var 1) (e_int)) (e_ix (e_var 2) (e_int))))))) (ss_cons (s_if (PW.pt (t_or (t_cmp (op_eq_ok hr.units) (e_var 0) (e_var 1)) (t_or1 (t_cmp (op_le_ok hr.units) (e_var 5) (e_int))))) (ss_one (s_ret (e_def Tg.d__law_square h__law_square hr (by decide) rfl takes_fn (a_cons (e_var 0) (a_cons (e_var 2) (a_nil))) (argn_cons (argn_cons argn_nil))))) (ss_nil)) (ss_cons (s_if (t_cmp (op_ge_ok hr.units) (e_var 6) (e_int)) (ss_one (s_ret (e_def Tg.d__law_square h__law_square hr (by decide) rfl takes_fn (a_cons (e_var 1) (a_cons (e_var 2) (a_nil))) (argn_cons (argn_cons argn_nil))))) (ss_nil)) (ss_cons (s_par (i := 7) (j := 8) rfl sc__law_away.nd rfl rfl (by decide) rfl rfl (a_cons (e_op op_sub_ok (e_op op_mulX_ok (e_var 3) (e_op op_sub_ok (e_op op_mulX_ok (e_ix (e_var 2) (e_int)) (e_ix (e_var 0) (e_int))) (e_op op_mulX_ok (e_ix (e_var 0) (e_int)) (e_ix (e_var 2) (e_int))))) (e_op op_mulX_ok (e_var 4) (e_op op_sub_ok (e_op op_mulX_ok (e_ix (e_var 2) (e_int)) (e_ix (e_var 0) (e_int))) (e_op op_mulX_ok (e_ix (e_var 0) (e_int)) (e_ix (e_var 2) (e_int)))))) (a_cons (e_op op_addX_ok (e_op op_mulX_ok (e_var 3) (e_var 3)) (e_op op_mulX_ok (e_var 4) (e_var 4))) (a_nil)))) (ss_cons (s_par (i := 9) (j := 8) rfl sc__law_away.nd rfl rfl (by decide) rfl rfl (a_cons (e_op op_mulX_ok (e_var 7) (e_var 7)) (a_cons (e_op op_mulX_ok (e_op op_mulX_ok (e_op op_mulX_ok (e_op op_mulX_ok (e_var 8) (e_ix (e_var 0) (e_int))) (e_ix (e_var 0) (e_int))) (e_ix (e_var 2) (e_int))) (e_ix (e_var 2) (e_int))) (a_nil)))) (ss_cons (s_set (i := 10) sc__law_away.nd rfl (by first | exact .inl rfl | exact .inr rfl) (e_def Tg.d__law_shared h__law_shared hr (by decide) rfl takes_fn (a_cons (e_tup (a_cons (e_var 9) (a_cons (e_var 8) (a_nil)))) (a_nil)) (argn_cons argn_nil))) (ss_one (s_ret (e_tup (a_cons (e_op op_fdiv_ok (e_var 9) (e_var 10)) (a_cons (e_op op_fdiv_ok (e_var 8) (e_var 10)) (a_nil)))))))))))))
theorem w__law_is_near {G__law_away : List D → Mem → Res D} (h__law_away : Fn P w K mg base 3 Tg.d__law_away.a Tg.d__law_away.fd ["a", "b", "p"] G__law_away) : Fn P w K mg base 4 Tg.d__law_is_near.a Tg.d__law_is_near.fd ["points", "far", "i", "j"] (fnR 6 (r__law_is_near G__law_away)) := fn_ok Tg.d__law_is_near.F sc__law_is_near fun cdv A outer s H Ex hr =>
  ss_cons (s_for passes_fn rfl (i_any (e_sl (nw := false) (e_var 0) (p_some (e_op op_addX_ok (e_var 2) (e_int))) (p_some (e_var 3)))) (ws := [4]) (g_name (i := 4) sc__law_is_near.nd rfl (by first | exact .inl rfl | exact .inr rfl)) (gok_name) (ss_cons (s_set (i := 5) sc__law_is_near.nd rfl (by first | exact .inl rfl | exact .inr rfl) (e_def Tg.d__law_away h__law_away hr (by decide) rfl takes_fn (a_cons (e_ix (e_var 0) (e_var 2)) (a_cons (e_ix (e_var 0) (e_var 3)) (a_cons (e_var 4) (a_nil)))) (argn_cons (argn_cons (argn_cons argn_nil))))) (ss_one (s_if (t_cmp (op_gt_ok hr.units) (e_op op_mulX_ok (e_ix (e_var 5) (e_int)) (e_ix (e_var 1) (e_int))) (e_op op_mulX_ok (e_ix (e_var 1) (e_int)) (e_ix (e_var 5) (e_int)))) (ss_one (s_ret (e_bl))) (ss_nil))))) (ss_one (s_ret (e_bl)))
theorem w__law_rows : Fn P w K mg base 1 Tg.d__law_rows.a Tg.d__law_rows.fd ["n"] (fnR 5 (r__law_rows)) := fn_ok Tg.d__law_rows.F sc__law_rows fun cdv A outer s H Ex hr =>
  ss_cons (s_set (i := 1) sc__law_rows.nd rfl (by first | exact .inl rfl | exact .inr rfl) (e_lst (nw := false) (a_cons (e_tup (a_cons (e_int) (a_nil))) (a_nil)))) (ss_cons (s_for passes_fn rfl (i_range2 rfl Tg.m_range (a_cons (e_int) (a_cons (e_op op_sub_ok (e_var 0) (e_int)) (a_nil)))) (ws := [2]) (g_name (i := 2) sc__law_rows.nd rfl (by first | exact .inl rfl | exact .inr rfl)) (gok_name) (ss_one (s_set (i := 1) sc__law_rows.nd rfl (by first | exact .inl rfl | exact .inr rfl) (e_op op_addX_ok (e_var 1) (e_lc (nw := false) (own := [("row", 3)]) rfl sc__law_rows.nd (i_any (e_var 1)) (blkOk_by (own := [("row", 3)]) (by rfl)) (gok_name) (fun _ _ _ _ _ => g_name (i := 3) sc__law_rows.nd rfl (by first | exact .inl rfl | exact .inr rfl)) (fun _ _ _ _ _ => pts_nilD) (fun _ _ _ _ _ => e_op op_addX_ok (e_var 3) (e_tup (a_cons (e_var 2) (a_nil))))))))) (ss_one (s_ret (e_lc (nw := false) (own := [("size", 4), ("row", 3)]) rfl sc__law_rows.nd (i_any (e_bi (op := (bSorted false)) (bSorted_ok hr.units) rfl Tg.m_sorted bt_sorted (a_cons (e_lc (nw := false) (own := [("row", 3)]) rfl sc__law_rows.nd (i_any (e_var 1)) (blkOk_by (own := [("row", 3)]) (by rfl)) (gok_name) (fun _ _ _ _ _ => g_name (i := 3) sc__law_rows.nd rfl (by first | exact .inl rfl | exact .inr rfl)) (fun _ _ _ _ _ => pts_nilD) (fun _ _ _ _ _ => e_tup (a_cons (e_bi (op := bLen) bLen_ok rfl Tg.m_len bt_len (a_cons (e_var 3) (a_nil))) (a_cons (e_op op_addX_ok (e_var 3) (e_tup (a_cons (e_op op_sub_ok (e_var 0) (e_int)) (a_nil)))) (a_nil))))) (a_nil)))) (blkOk_by (own := [("size", 4), ("row", 3)]) (by rfl)) (gok_tup (gsok_cons (gok_name) (gsok_cons (gok_name) (gsok_nil)))) (fun _ _ _ _ _ => g_tup rfl (gs_cons (g_name (i := 4) sc__law_rows.nd rfl (by first | exact .inl rfl | exact .inr rfl)) (gs_cons (g_name (i := 3) sc__law_rows.nd rfl (by first | exact .inl rfl | exact .inr rfl)) (gs_nil)))) (fun _ _ _ _ _ => pts_nilD) (fun _ _ _ _ _ => e_var 3)))))
theorem w__law_refused {G_fewer : List D → Mem → Res D} (h_fewer : Fn P w K mg base 7 Tg.d_fewer.a Tg.d_fewer.fd ["points", "far"] G_fewer) : Fn P w K mg base 8 Tg.d__law_refused.a Tg.d__law_refused.fd ["points", "far"] (fnR 2 (r__law_refused G_fewer)) := fn_ok Tg.d__law_refused.F sc__law_refused fun cdv A outer s H Ex hr =>
  ss_cons (s_try (ns := ["BadShape"]) (is := PD.isT [("BadShape", "BadShape")]) rfl rfl takes_fn (fun W' pn xe tk' po => ss_one (s_expr (e_def Tg.d_fewer h_fewer hr (by decide) rfl tk' (a_cons (e_var 0) (a_cons (e_var 1) (a_nil))) (argn_cons (argn_cons argn_nil))))) (.cons ⟨rfl, by decide, .inl Tg.x_BadShape.g⟩ Tg.x_BadShape.g (fun _ _ => ss_one (s_ret (e_bl))) (.nil)) (allC (allC Tg.e_BadShape_BadShape.at allN) allN)) (ss_one (s_ret (e_bl)))
theorem w_law {G__law_box : List D → Mem → Res D} (h__law_box : Fn P w K mg base 1 Tg.d__law_box.a Tg.d__law_box.fd ["script"] G__law_box) {G__law_pick : List D → Mem → Res D} (h__law_pick : Fn P w K mg base 2 Tg.d__law_pick.a Tg.d__law_pick.fd ["box", "menu"] G__law_pick) {G__law_point : List D → Mem → Res D} (h__law_point : Fn P w K mg base 3 Tg.d__law_point.a Tg.d__law_point.fd ["box", "wide"] G__law_point) {G__law_take : List D → Mem → Res D} (h__law_take : Fn P w K mg base 1 Tg.d__law_take.a Tg.d__law_take.fd ["box", "m"] G__law_take) {G_away : List D → Mem → Res D} (h_away : Fn P w K mg base 5 Tg.d_away.a Tg.d_away.fd ["a", "b", "p"] G_away) {G__law_rows : List D → Mem → Res D} (h__law_rows : Fn P w K mg base 1 Tg.d__law_rows.a Tg.d__law_rows.fd ["n"] G__law_rows) {G__law_made : List D → Mem → Res D} (h__law_made : Fn P w K mg base 2 Tg.d__law_made.a Tg.d__law_made.fd ["x", "y", "w"] G__law_made) {G_fewer : List D → Mem → Res D} (h_fewer : Fn P w K mg base 7 Tg.d_fewer.a Tg.d_fewer.fd ["points", "far"] G_fewer) {G_are_fewer : List D → Mem → Res D} (h_are_fewer : Fn P w K mg base 7 Tg.d_are_fewer.a Tg.d_are_fewer.fd ["points", "far", "places"] G_are_fewer) {G__law_away : List D → Mem → Res D} (h__law_away : Fn P w K mg base 3 Tg.d__law_away.a Tg.d__law_away.fd ["a", "b", "p"] G__law_away) {G__law_is_fraction : List D → Mem → Res D} (h__law_is_fraction : Fn P w K mg base 2 Tg.d__law_is_fraction.a Tg.d__law_is_fraction.fd ["x"] G__law_is_fraction) {G__law_refused : List D → Mem → Res D} (h__law_refused : Fn P w K mg base 8 Tg.d__law_refused.a Tg.d__law_refused.fd ["points", "far"] G__law_refused) {G__law_is_near : List D → Mem → Res D} (h__law_is_near : Fn P w K mg base 4 Tg.d__law_is_near.a Tg.d__law_is_near.fd ["points", "far", "i", "j"] G__law_is_near) : Fn P w K mg base 9 Tg.d_law.a Tg.d_law.fd ["script"] (fnR 20 (r_law G__law_box G__law_pick G__law_point G__law_take G_away G__law_rows G__law_made G_fewer G_are_fewer G__law_away G__law_is_fraction G__law_refused G__law_is_near)) := fn_ok Tg.d_law.F sc_law fun cdv A outer s H Ex hr =>
  ss_cons (s_set (i := 1) sc_law.nd rfl (by first | exact .inl rfl | exact .inr rfl) (e_def Tg.d__law_box h__law_box hr (by decide) rfl takes_fn (a_cons (e_var 0) (a_nil)) (argn_cons argn_nil))) (ss_cons (s_set (i := 2) sc_law.nd rfl (by first | exact .inl rfl | exact .inr rfl) (e_def Tg.d__law_pick h__law_pick hr (by decide) rfl takes_fn (a_cons (e_var 1) (a_cons (e_lst (nw := false) (a_cons (e_int) (a_cons (e_int) (a_cons (e_int) (a_nil))))) (a_nil))) (argn_cons (argn_cons argn_nil)))) (ss_cons (s_set (i := 3) sc_law.nd rfl (by first | exact .inl rfl | exact .inr rfl) (e_lst (nw := true) (a_cons (e_def Tg.d__law_point h__law_point hr (by decide) rfl takes_fn (a_cons (e_var 1) (a_cons (e_var 2) (a_nil))) (argn_cons (argn_cons argn_nil))) (a_cons (e_def Tg.d__law_point h__law_point hr (by decide) rfl takes_fn (a_cons (e_var 1) (a_cons (e_var 2) (a_nil))) (argn_cons (argn_cons argn_nil))) (a_nil))))) (ss_cons (s_for passes_fn rfl (i_range1 rfl Tg.m_range (a_cons (e_def Tg.d__law_take h__law_take hr (by decide) rfl takes_fn (a_cons (e_var 1) (a_cons (e_int) (a_nil))) (argn_cons (argn_cons argn_nil))) (a_nil))) (ws := [4]) (g_name (i := 4) sc_law.nd rfl (by first | exact .inl rfl | exact .inr rfl)) (gok_name) (ss_cons (s_set (i := 5) sc_law.nd rfl (by first | exact .inl rfl | exact .inr rfl) (e_if (t_cmp (op_eq_ok hr.units) (e_def Tg.d__law_take h__law_take hr (by decide) rfl takes_fn (a_cons (e_var 1) (a_cons (e_int) (a_nil))) (argn_cons (argn_cons argn_nil))) (e_int)) (e_def Tg.d__law_pick h__law_pick hr (by decide) rfl takes_fn (a_cons (e_var 1) (a_cons (e_var 3) (a_nil))) (argn_cons (argn_cons argn_nil))) (e_def Tg.d__law_point h__law_point hr (by decide) rfl takes_fn (a_cons (e_var 1) (a_cons (e_var 2) (a_nil))) (argn_cons (argn_cons argn_nil))))) (ss_one (s_expr (e_meth PySem.F.slot_list_append PySem.F.type_list_append m_append (e_var 3) (a_cons (e_var 5) (a_nil))))))) (ss_cons (s_set (i := 6) sc_law.nd rfl (by first | exact .inl rfl | exact .inr rfl) (e_lst (nw := true) (a_nil))) (ss_cons (s_for passes_fn rfl (i_any (e_var 3)) (ws := [5]) (g_name (i := 5) sc_law.nd rfl (by first | exact .inl rfl | exact .inr rfl)) (gok_name) (ss_one (s_if (PW.pt (t_or (t_cmp (op_eq_ok hr.units) (e_var 6) (e_lst (nw := false) (a_nil))) (t_or1 (t_cmp (op_ne_ok hr.units) (e_ix (e_var 6) (e_un un_neg_ok (e_int))) (e_var 5))))) (ss_one (s_expr (e_meth PySem.F.slot_list_append PySem.F.type_list_append m_append (e_var 6) (a_cons (e_var 5) (a_nil))))) (ss_nil)))) (ss_cons (s_if (t_cmp (op_lt_ok hr.units) (e_bi (op := bLen) bLen_ok rfl Tg.m_len bt_len (a_cons (e_var 6) (a_nil))) (e_int)) (ss_one (s_expr (e_meth PySem.F.slot_list_append PySem.F.type_list_append m_append (e_var 6) (a_cons (e_def Tg.d__law_made h__law_made hr (by decide) rfl takes_fn (a_cons (e_op op_addX_ok (e_ix (e_ix (e_var 6) (e_int)) (e_int)) (e_ix (e_ix (e_var 6) (e_int)) (e_int))) (a_cons (e_ix (e_ix (e_var 6) (e_int)) (e_int)) (a_cons (e_ix (e_ix (e_var 6) (e_int)) (e_int)) (a_nil)))) (argn_cons (argn_cons (argn_cons argn_nil)))) (a_nil))))) (ss_nil)) (ss_cons (s_asg (ws := [3, 7]) (e_tup (a_cons (e_ty (op := bTuple) bTuple_ok rfl Tg.m_tuple bt_tuple (a_cons (e_var 6) (a_nil))) (a_cons (e_bi (op := bLen) bLen_ok rfl Tg.m_len bt_len (a_cons (e_var 6) (a_nil))) (a_nil)))) (g_tup rfl (gs_cons (g_name (i := 3) sc_law.nd rfl (by first | exact .inl rfl | exact .inr rfl)) (gs_cons (g_name (i := 7) sc_law.nd rfl (by first | exact .inl rfl | exact .inr rfl)) (gs_nil)))) (gok_tup (gsok_cons (gok_name) (gsok_cons (gok_name) (gsok_nil))))) (ss_cons (s_for passes_fn rfl (i_range1 rfl Tg.m_range (a_cons (e_int) (a_nil))) (ws := [4]) (g_name (i := 4) sc_law.nd rfl (by first | exact .inl rfl | exact .inr rfl)) (gok_name) (ss_cons (s_par3 (i := 8) (j := 9) (l := 5) rfl sc_law.nd rfl rfl rfl (by decide) (by decide) (by decide) rfl rfl rfl (a_cons (e_def Tg.d__law_pick h__law_pick hr (by decide) rfl takes_fn (a_cons (e_var 1) (a_cons (e_var 3) (a_nil))) (argn_cons (argn_cons argn_nil))) (a_cons (e_def Tg.d__law_pick h__law_pick hr (by decide) rfl takes_fn (a_cons (e_var 1) (a_cons (e_var 3) (a_nil))) (argn_cons (argn_cons argn_nil))) (a_cons (e_def Tg.d__law_point h__law_point hr (by decide) rfl takes_fn (a_cons (e_var 1) (a_cons (e_var 2) (a_nil))) (argn_cons (argn_cons argn_nil))) (a_nil))))) (ss_cons (s_set (i := 10) sc_law.nd rfl (by first | exact .inl rfl | exact .inr rfl) (e_def Tg.d_away h_away hr (by decide) rfl takes_fn (a_cons (e_var 8) (a_cons (e_var 9) (a_cons (e_var 5) (a_nil)))) (argn_cons (argn_cons (argn_cons argn_nil))))) (ss_cons (s_if (PW.pt (t_or (t_cmp (op_ne_ok hr.units) (e_var 10) (e_def Tg.d__law_away h__law_away hr (by decide) rfl takes_fn (a_cons (e_var 8) (a_cons (e_var 9) (a_cons (e_var 5) (a_nil)))) (argn_cons (argn_cons (argn_cons argn_nil))))) (t_or (t_cmp (op_ne_ok hr.units) (e_def Tg.d_away h_away hr (by decide) rfl takes_fn (a_cons (e_var 9) (a_cons (e_var 8) (a_cons (e_var 5) (a_nil)))) (argn_cons (argn_cons (argn_cons argn_nil)))) (e_var 10)) (t_or1 (t_not (t_val (e_def Tg.d__law_is_fraction h__law_is_fraction hr (by decide) rfl takes_fn (a_cons (e_var 10) (a_nil)) (argn_cons argn_nil)))))))) (ss_one (s_ret (e_bl))) (ss_nil)) (ss_cons (s_if (t_cmp (op_eq_ok hr.units) (e_var 4) (e_int)) (ss_one (s_set (i := 10) sc_law.nd rfl (by first | exact .inl rfl | exact .inr rfl) (e_tup (a_cons (e_def Tg.d__law_take h__law_take hr (by decide) rfl takes_fn (a_cons (e_var 1) (a_cons (e_op op_mulX_ok (e_int) (e_var 2)) (a_nil))) (argn_cons (argn_cons argn_nil))) (a_cons (e_int) (a_nil)))))) (ss_nil)) (ss_cons (s_par (i := 11) (j := 12) rfl sc_law.nd rfl rfl (by decide) rfl rfl (a_cons (e_def Tg.d_fewer h_fewer hr (by decide) rfl takes_fn (a_cons (e_var 3) (a_cons (e_var 10) (a_nil))) (argn_cons (argn_cons argn_nil))) (a_cons (e_non) (a_nil)))) (ss_cons (s_for passes_fn rfl (i_any (e_def Tg.d__law_rows h__law_rows hr (by decide) rfl takes_fn (a_cons (e_var 7) (a_nil)) (argn_cons argn_nil))) (ws := [13]) (g_name (i := 13) sc_law.nd rfl (by first | exact .inl rfl | exact .inr rfl)) (gok_name) (ss_cons (s_set (i := 14) sc_law.nd rfl (by first | exact .inl rfl | exact .inr rfl) (e_cmp (op_eq_ok hr.units) (e_lc (nw := false) (own := [("k", 17)]) rfl sc_law.nd (i_range2 rfl Tg.m_range (a_cons (e_int) (a_cons (e_bi (op := bLen) bLen_ok rfl Tg.m_len bt_len (a_cons (e_var 13) (a_nil))) (a_nil)))) (blkOk_by (own := [("k", 17)]) (by rfl)) (gok_name) (fun _ _ _ _ _ => g_name (i := 17) sc_law.nd rfl (by first | exact .inl rfl | exact .inr rfl)) (fun _ _ _ _ _ => pts_oneD (t_not (t_val (e_def Tg.d__law_is_near h__law_is_near hr (by decide) rfl takesW0 (a_cons (e_var 3) (a_cons (e_var 10) (a_cons (e_ix (e_var 13) (e_op op_sub_ok (e_var 17) (e_int))) (a_cons (e_ix (e_var 13) (e_var 17)) (a_nil))))) (argn_cons (argn_cons (argn_cons (argn_cons argn_nil)))))))) (fun _ _ _ _ _ => e_var 17)) (e_lst (nw := false) (a_nil)))) (ss_cons (s_if (PW.pt (t_and (t_cmp op_is_ok (e_var 12) (e_non)) (t_and1 (t_val (e_var 14))))) (ss_one (s_set (i := 12) sc_law.nd rfl (by first | exact .inl rfl | exact .inr rfl) (e_var 13))) (ss_nil)) (ss_one (s_if (PW.pt (t_and (t_cmp (op_lt_ok hr.units) (e_bi (op := bLen) bLen_ok rfl Tg.m_len bt_len (a_cons (e_var 13) (a_nil))) (e_int)) (t_and1 (t_cmp (op_ne_ok hr.units) (e_def Tg.d_are_fewer h_are_fewer hr (by decide) rfl takes_fn (a_cons (e_var 3) (a_cons (e_var 10) (a_cons (e_var 13) (a_nil)))) (argn_cons (argn_cons (argn_cons argn_nil)))) (e_var 14))))) (ss_one (s_ret (e_bl))) (ss_nil)))))) (ss_cons (s_if (PW.pt (t_or (t_not (t_val (e_isi (T := "tuple") (TS := "tuple") (e_var 11) rfl Tg.m_isinstance rfl Tg.m_tuple bt_tuple (by decide) (by decide)))) (t_or (t_cmp (op_ne_ok hr.units) (e_var 11) (e_var 12)) (t_or1 (t_cmp op_isnotB_ok (e_def Tg.d_are_fewer h_are_fewer hr (by decide) rfl takes_fn (a_cons (e_var 3) (a_cons (e_var 10) (a_cons (e_var 11) (a_nil)))) (argn_cons (argn_cons (argn_cons argn_nil)))) (e_bl)))))) (ss_one (s_ret (e_bl))) (ss_nil)) (ss_cons (s_if (t_cmp (op_ne_ok hr.units) (e_bi (op := bLen) bLen_ok rfl Tg.m_len bt_len (a_cons (e_def Tg.d_fewer h_fewer hr (by decide) rfl takes_fn (a_cons (e_rev (nw := false) (e_var 3)) (a_cons (e_var 10) (a_nil))) (argn_cons (argn_cons argn_nil))) (a_nil))) (e_bi (op := bLen) bLen_ok rfl Tg.m_len bt_len (a_cons (e_var 11) (a_nil)))) (ss_one (s_ret (e_bl))) (ss_nil)) (ss_cons (s_set (i := 15) sc_law.nd rfl (by first | exact .inl rfl | exact .inr rfl) (e_def Tg.d__law_pick h__law_pick hr (by decide) rfl takes_fn (a_cons (e_var 1) (a_cons (e_lst (nw := false) (a_cons (e_non) (a_cons (e_tup (a_nil)) (a_cons (e_tup (a_cons (e_int) (a_nil))) (a_cons (e_rev (nw := false) (e_var 11)) (a_cons (e_sl (nw := false) (e_var 11) (p_some (e_int)) p_none) (a_cons (e_sl (nw := false) (e_var 11) p_none (p_some (e_un un_neg_ok (e_int)))) (a_cons (e_ty (op := (bList false)) bList_ok rfl Tg.m_list bt_list (a_cons (e_var 11) (a_nil))) (a_cons (e_op op_addX_ok (e_tup (a_cons (e_bl) (a_nil))) (e_sl (nw := false) (e_var 11) (p_some (e_int)) p_none)) (a_cons (e_op op_addX_ok (e_var 11) (e_var 11)) (a_cons (e_op op_addX_ok (e_sl (nw := false) (e_var 11) p_none (p_some (e_un un_neg_ok (e_int)))) (e_tup (a_cons (e_var 7) (a_nil)))) (a_nil)))))))))))) (a_nil))) (argn_cons (argn_cons argn_nil)))) (ss_one (s_if (t_cmp op_isnotB_ok (e_def Tg.d_are_fewer h_are_fewer hr (by decide) rfl takes_fn (a_cons (e_var 3) (a_cons (e_var 10) (a_cons (e_var 15) (a_nil)))) (argn_cons (argn_cons (argn_cons argn_nil)))) (e_bl)) (ss_one (s_ret (e_bl))) (ss_nil))))))))))))) (ss_cons (s_set (i := 16) sc_law.nd rfl (by first | exact .inl rfl | exact .inr rfl) (e_lst (nw := false) (a_cons (e_tup (a_cons (e_sl (nw := false) (e_var 3) p_none (p_some (e_int))) (a_cons (e_tup (a_cons (e_int) (a_cons (e_int) (a_nil)))) (a_nil)))) (a_cons (e_tup (a_cons (e_op op_addX_ok (e_var 3) (e_sl (nw := false) (e_var 3) (p_some (e_un un_neg_ok (e_int))) p_none)) (a_cons (e_tup (a_cons (e_int) (a_cons (e_int) (a_nil)))) (a_nil)))) (a_cons (e_tup (a_cons (e_var 3) (a_cons (e_tup (a_cons (e_un un_neg_ok (e_int)) (a_cons (e_int) (a_nil)))) (a_nil)))) (a_cons (e_tup (a_cons (e_var 3) (a_cons (e_int) (a_nil)))) (a_cons (e_tup (a_cons (e_var 3) (a_cons (e_tup (a_cons (e_int) (a_cons (e_int) (a_nil)))) (a_nil)))) (a_cons (e_tup (a_cons (e_ty (op := (bList false)) bList_ok rfl Tg.m_list bt_list (a_cons (e_var 3) (a_nil))) (a_cons (e_tup (a_cons (e_int) (a_cons (e_int) (a_nil)))) (a_nil)))) (a_nil))))))))) (ss_one (s_ret (e_cmp (op_eq_ok hr.units) (e_lc (nw := false) (own := [("x", 18), ("y", 19)]) rfl sc_law.nd (i_any (e_var 16)) (blkOk_by (own := [("x", 18), ("y", 19)]) (by rfl)) (gok_tup (gsok_cons (gok_name) (gsok_cons (gok_name) (gsok_nil)))) (fun _ _ _ _ _ => g_tup rfl (gs_cons (g_name (i := 18) sc_law.nd rfl (by first | exact .inl rfl | exact .inr rfl)) (gs_cons (g_name (i := 19) sc_law.nd rfl (by first | exact .inl rfl | exact .inr rfl)) (gs_nil)))) (fun _ _ _ _ _ => pts_oneD (t_not (t_val (e_def Tg.d__law_refused h__law_refused hr (by decide) rfl takesW0 (a_cons (e_var 18) (a_cons (e_var 19) (a_nil))) (argn_cons (argn_cons argn_nil)))))) (fun _ _ _ _ _ => e_int)) (e_lst (nw := false) (a_nil))))))))))))))
theorem ok_is_number : Fn P w K mg base 1 Tg.d_is_number.a Tg.d_is_number.fd ["x"] R_is_number := w_is_number Tg
theorem ok_common : Fn P w K mg base 1 Tg.d_common.a Tg.d_common.fd ["a", "b"] R_common := w_common Tg
theorem ok_fraction : Fn P w K mg base 2 Tg.d_fraction.a Tg.d_fraction.fd ["n", "d"] R_fraction := w_fraction Tg (ok_common Tg)
theorem ok_is_fraction : Fn P w K mg base 2 Tg.d_is_fraction.a Tg.d_is_fraction.fd ["x"] R_is_fraction := w_is_fraction Tg (ok_is_number Tg) (ok_common Tg)
theorem ok_check_fraction : Fn P w K mg base 3 Tg.d_check_fraction.a Tg.d_check_fraction.fd ["x"] R_check_fraction := w_check_fraction Tg (ok_is_fraction Tg)
theorem ok_check_both : Fn P w K mg base 4 Tg.d_check_both.a Tg.d_check_both.fd ["a", "b"] R_check_both := w_check_both Tg (ok_check_fraction Tg)
theorem ok_less : Fn P w K mg base 5 Tg.d_less.a Tg.d_less.fd ["a", "b"] R_less := w_less Tg (ok_check_both Tg)
theorem ok_is_point : Fn P w K mg base 2 Tg.d_is_point.a Tg.d_is_point.fd ["x"] R_is_point := w_is_point Tg (ok_common Tg) (ok_is_number Tg)
theorem ok_check_point : Fn P w K mg base 3 Tg.d_check_point.a Tg.d_check_point.fd ["x"] R_check_point := w_check_point Tg (ok_is_point Tg)
theorem ok_check_points : Fn P w K mg base 4 Tg.d_check_points.a Tg.d_check_points.fd ["points"] R_check_points := w_check_points Tg (ok_check_point Tg)
theorem ok_square : Fn P w K mg base 3 Tg.d_square.a Tg.d_square.fd ["a", "b"] R_square := w_square Tg (ok_fraction Tg)
theorem ok_off : Fn P w K mg base 4 Tg.d_off.a Tg.d_off.fd ["a", "b", "p"] R_off := w_off Tg (ok_fraction Tg) (ok_square Tg)
theorem ok_away : Fn P w K mg base 5 Tg.d_away.a Tg.d_away.fd ["a", "b", "p"] R_away := w_away Tg (ok_check_points Tg) (ok_off Tg)
theorem ok_check_row : Fn P w K mg base 3 Tg.d_check_row.a Tg.d_check_row.fd ["points", "far"] R_check_row := w_check_row Tg (ok_is_fraction Tg) (ok_is_point Tg)
theorem ok_is_near : Fn P w K mg base 6 Tg.d_is_near.a Tg.d_is_near.fd ["points", "far", "i", "j"] R_is_near := w_is_near Tg (ok_less Tg) (ok_off Tg)
theorem ok_fewer : Fn P w K mg base 7 Tg.d_fewer.a Tg.d_fewer.fd ["points", "far"] R_fewer := w_fewer Tg (ok_check_row Tg) (ok_is_near Tg)
theorem ok_are_fewer : Fn P w K mg base 7 Tg.d_are_fewer.a Tg.d_are_fewer.fd ["points", "far", "places"] R_are_fewer := w_are_fewer Tg (ok_check_row Tg) (ok_is_near Tg) (ok_is_number Tg)
theorem ok__law_box {scr : OScr} (ho : scr.Ok K) : Fn P w K mg base 1 Tg.d__law_box.a Tg.d__law_box.fd ["script"] (R__law_box scr) := w__law_box Tg ho
theorem ok__law_take : Fn P w K mg base 1 Tg.d__law_take.a Tg.d__law_take.fd ["box", "m"] R__law_take := w__law_take Tg
theorem ok__law_pick : Fn P w K mg base 2 Tg.d__law_pick.a Tg.d__law_pick.fd ["box", "menu"] R__law_pick := w__law_pick Tg (ok__law_take Tg)
theorem ok__law_number : Fn P w K mg base 1 Tg.d__law_number.a Tg.d__law_number.fd ["x"] R__law_number := w__law_number Tg
theorem ok__law_shared : Fn P w K mg base 1 Tg.d__law_shared.a Tg.d__law_shared.fd ["numbers"] R__law_shared := w__law_shared Tg
theorem ok__law_made : Fn P w K mg base 2 Tg.d__law_made.a Tg.d__law_made.fd ["x", "y", "w"] R__law_made := w__law_made Tg (ok__law_shared Tg)
theorem ok__law_point : Fn P w K mg base 3 Tg.d__law_point.a Tg.d__law_point.fd ["box", "wide"] R__law_point := w__law_point Tg (ok__law_made Tg) (ok__law_take Tg)
theorem ok__law_is_fraction : Fn P w K mg base 2 Tg.d__law_is_fraction.a Tg.d__law_is_fraction.fd ["x"] R__law_is_fraction := w__law_is_fraction Tg (ok__law_shared Tg) (ok__law_number Tg)
theorem ok__law_square : Fn P w K mg base 2 Tg.d__law_square.a Tg.d__law_square.fd ["p", "q"] R__law_square := w__law_square Tg (ok__law_shared Tg)
theorem ok__law_away : Fn P w K mg base 3 Tg.d__law_away.a Tg.d__law_away.fd ["a", "b", "p"] R__law_away := w__law_away Tg (ok__law_shared Tg) (ok__law_square Tg)
theorem ok__law_is_near : Fn P w K mg base 4 Tg.d__law_is_near.a Tg.d__law_is_near.fd ["points", "far", "i", "j"] R__law_is_near := w__law_is_near Tg (ok__law_away Tg)
theorem ok__law_rows : Fn P w K mg base 1 Tg.d__law_rows.a Tg.d__law_rows.fd ["n"] R__law_rows := w__law_rows Tg
theorem ok__law_refused : Fn P w K mg base 8 Tg.d__law_refused.a Tg.d__law_refused.fd ["points", "far"] R__law_refused := w__law_refused Tg (ok_fewer Tg)
theorem ok_law {scr : OScr} (ho : scr.Ok K) : Fn P w K mg base 9 Tg.d_law.a Tg.d_law.fd ["script"] (R_law scr) := w_law Tg (ok__law_box Tg ho) (ok__law_pick Tg) (ok__law_point Tg) (ok__law_take Tg) (ok_away Tg) (ok__law_rows Tg) (ok__law_made Tg) (ok_fewer Tg) (ok_are_fewer Tg) (ok__law_away Tg) (ok__law_is_fraction Tg) (ok__law_refused Tg) (ok__law_is_near Tg)
end
def Tx.of {K : PySem.W.Frag} {mg : Str → Option Value} {h : Heap} (X : K.In h) (G : h.Ns mainGlobals mg)
    {f0 : Addr} {od0 an0 : Option Addr} {sl0 : Array (Option Value)} {oc0 kV0 dc0 pm0 cd0 ct0 : Value}
    {f1 : Addr} {od1 an1 : Option Addr} {sl1 : Array (Option Value)} {oc1 kV1 dc1 pm1 cd1 ct1 : Value}
    {f2 : Addr} {od2 an2 : Option Addr} {sl2 : Array (Option Value)} {oc2 kV2 dc2 pm2 cd2 ct2 : Value}
    {f3 : Addr} {od3 an3 : Option Addr} {sl3 : Array (Option Value)} {oc3 kV3 dc3 pm3 cd3 ct3 : Value}
    {f4 : Addr} {od4 an4 : Option Addr} {sl4 : Array (Option Value)} {oc4 kV4 dc4 pm4 cd4 ct4 : Value}
    {f5 : Addr} {od5 an5 : Option Addr} {sl5 : Array (Option Value)} {oc5 kV5 dc5 pm5 cd5 ct5 : Value}
    {f6 : Addr} {od6 an6 : Option Addr} {sl6 : Array (Option Value)} {oc6 kV6 dc6 pm6 cd6 ct6 : Value}
    {f7 : Addr} {od7 an7 : Option Addr} {sl7 : Array (Option Value)} {oc7 kV7 dc7 pm7 cd7 ct7 : Value}
    {f8 : Addr} {od8 an8 : Option Addr} {sl8 : Array (Option Value)} {oc8 kV8 dc8 pm8 cd8 ct8 : Value}
    {f9 : Addr} {od9 an9 : Option Addr} {sl9 : Array (Option Value)} {oc9 kV9 dc9 pm9 cd9 ct9 : Value}
    {f10 : Addr} {od10 an10 : Option Addr} {sl10 : Array (Option Value)} {oc10 kV10 dc10 pm10 cd10 ct10 : Value}
    {f11 : Addr} {od11 an11 : Option Addr} {sl11 : Array (Option Value)} {oc11 kV11 dc11 pm11 cd11 ct11 : Value}
    {f12 : Addr} {od12 an12 : Option Addr} {sl12 : Array (Option Value)} {oc12 kV12 dc12 pm12 cd12 ct12 : Value}
    {f13 : Addr} {od13 an13 : Option Addr} {sl13 : Array (Option Value)} {oc13 kV13 dc13 pm13 cd13 ct13 : Value}
    {f14 : Addr} {od14 an14 : Option Addr} {sl14 : Array (Option Value)} {oc14 kV14 dc14 pm14 cd14 ct14 : Value}
    {f15 : Addr} {od15 an15 : Option Addr} {sl15 : Array (Option Value)} {oc15 kV15 dc15 pm15 cd15 ct15 : Value}
    {f16 : Addr} {od16 an16 : Option Addr} {sl16 : Array (Option Value)} {oc16 kV16 dc16 pm16 cd16 ct16 : Value}
    {f17 : Addr} {od17 an17 : Option Addr} {sl17 : Array (Option Value)} {oc17 kV17 dc17 pm17 cd17 ct17 : Value}
    {f18 : Addr} {od18 an18 : Option Addr} {sl18 : Array (Option Value)} {oc18 kV18 dc18 pm18 cd18 ct18 : Value}
    {f19 : Addr} {od19 an19 : Option Addr} {sl19 : Array (Option Value)} {oc19 kV19 dc19 pm19 cd19 ct19 : Value}
    {f20 : Addr} {od20 an20 : Option Addr} {sl20 : Array (Option Value)} {oc20 kV20 dc20 pm20 cd20 ct20 : Value}
    {f21 : Addr} {od21 an21 : Option Addr} {sl21 : Array (Option Value)} {oc21 kV21 dc21 pm21 cd21 ct21 : Value}
    {f22 : Addr} {od22 an22 : Option Addr} {sl22 : Array (Option Value)} {oc22 kV22 dc22 pm22 cd22 ct22 : Value}
    {f23 : Addr} {od23 an23 : Option Addr} {sl23 : Array (Option Value)} {oc23 kV23 dc23 pm23 cd23 ct23 : Value}
    {f24 : Addr} {od24 an24 : Option Addr} {sl24 : Array (Option Value)} {oc24 kV24 dc24 pm24 cd24 ct24 : Value}
    {f25 : Addr} {od25 an25 : Option Addr} {sl25 : Array (Option Value)} {oc25 kV25 dc25 pm25 cd25 ct25 : Value}
    {f26 : Addr} {od26 an26 : Option Addr} {sl26 : Array (Option Value)} {oc26 kV26 dc26 pm26 cd26 ct26 : Value}
    {f27 : Addr} {od27 an27 : Option Addr} {sl27 : Array (Option Value)} {oc27 kV27 dc27 pm27 cd27 ct27 : Value}
    {f28 : Addr} {od28 an28 : Option Addr} {sl28 : Array (Option Value)} {oc28 kV28 dc28 pm28 cd28 ct28 : Value}
    {f29 : Addr} {od29 an29 : Option Addr} {sl29 : Array (Option Value)} {oc29 kV29 dc29 pm29 cd29 ct29 : Value}
    {f30 : Addr} {od30 an30 : Option Addr} {sl30 : Array (Option Value)} {oc30 kV30 dc30 pm30 cd30 ct30 : Value}
    {t_MOST : Tok}
    {C_BadShape : Addr}
    {C_EdgeError : Addr}
    (a0 : PySem.W.nsIn K mainGlobals "is_number" = some (some (.ref f0))) (l0 : K.lookup f0 = some ⟨oc0, od0, .func (PySem.W.fnOf "is_number" "is_number" (defArgs st_is_number) (defBody st_is_number) (defScope st_is_number) .none kV0 dc0 pm0 an0 cd0 ct0), sl0⟩) (c0 : PySem.W.codeIn K cd0 "is_number" = true) (k0 : PySem.W.keepIn K (.ref f0) = true)
    (a1 : PySem.W.nsIn K mainGlobals "common" = some (some (.ref f1))) (l1 : K.lookup f1 = some ⟨oc1, od1, .func (PySem.W.fnOf "common" "common" (defArgs st_common) (defBody st_common) (defScope st_common) .none kV1 dc1 pm1 an1 cd1 ct1), sl1⟩) (c1 : PySem.W.codeIn K cd1 "common" = true) (k1 : PySem.W.keepIn K (.ref f1) = true)
    (a2 : PySem.W.nsIn K mainGlobals "fraction" = some (some (.ref f2))) (l2 : K.lookup f2 = some ⟨oc2, od2, .func (PySem.W.fnOf "fraction" "fraction" (defArgs st_fraction) (defBody st_fraction) (defScope st_fraction) .none kV2 dc2 pm2 an2 cd2 ct2), sl2⟩) (c2 : PySem.W.codeIn K cd2 "fraction" = true) (k2 : PySem.W.keepIn K (.ref f2) = true)
    (a3 : PySem.W.nsIn K mainGlobals "is_fraction" = some (some (.ref f3))) (l3 : K.lookup f3 = some ⟨oc3, od3, .func (PySem.W.fnOf "is_fraction" "is_fraction" (defArgs st_is_fraction) (defBody st_is_fraction) (defScope st_is_fraction) .none kV3 dc3 pm3 an3 cd3 ct3), sl3⟩) (c3 : PySem.W.codeIn K cd3 "is_fraction" = true) (k3 : PySem.W.keepIn K (.ref f3) = true)
    (a4 : PySem.W.nsIn K mainGlobals "check_fraction" = some (some (.ref f4))) (l4 : K.lookup f4 = some ⟨oc4, od4, .func (PySem.W.fnOf "check_fraction" "check_fraction" (defArgs st_check_fraction) (defBody st_check_fraction) (defScope st_check_fraction) .none kV4 dc4 pm4 an4 cd4 ct4), sl4⟩) (c4 : PySem.W.codeIn K cd4 "check_fraction" = true) (k4 : PySem.W.keepIn K (.ref f4) = true)
    (a5 : PySem.W.nsIn K mainGlobals "check_both" = some (some (.ref f5))) (l5 : K.lookup f5 = some ⟨oc5, od5, .func (PySem.W.fnOf "check_both" "check_both" (defArgs st_check_both) (defBody st_check_both) (defScope st_check_both) .none kV5 dc5 pm5 an5 cd5 ct5), sl5⟩) (c5 : PySem.W.codeIn K cd5 "check_both" = true) (k5 : PySem.W.keepIn K (.ref f5) = true)
    (a6 : PySem.W.nsIn K mainGlobals "less" = some (some (.ref f6))) (l6 : K.lookup f6 = some ⟨oc6, od6, .func (PySem.W.fnOf "less" "less" (defArgs st_less) (defBody st_less) (defScope st_less) .none kV6 dc6 pm6 an6 cd6 ct6), sl6⟩) (c6 : PySem.W.codeIn K cd6 "less" = true) (k6 : PySem.W.keepIn K (.ref f6) = true)
    (a7 : PySem.W.nsIn K mainGlobals "is_point" = some (some (.ref f7))) (l7 : K.lookup f7 = some ⟨oc7, od7, .func (PySem.W.fnOf "is_point" "is_point" (defArgs st_is_point) (defBody st_is_point) (defScope st_is_point) .none kV7 dc7 pm7 an7 cd7 ct7), sl7⟩) (c7 : PySem.W.codeIn K cd7 "is_point" = true) (k7 : PySem.W.keepIn K (.ref f7) = true)
    (a8 : PySem.W.nsIn K mainGlobals "check_point" = some (some (.ref f8))) (l8 : K.lookup f8 = some ⟨oc8, od8, .func (PySem.W.fnOf "check_point" "check_point" (defArgs st_check_point) (defBody st_check_point) (defScope st_check_point) .none kV8 dc8 pm8 an8 cd8 ct8), sl8⟩) (c8 : PySem.W.codeIn K cd8 "check_point" = true) (k8 : PySem.W.keepIn K (.ref f8) = true)
    (a9 : PySem.W.nsIn K mainGlobals "check_points" = some (some (.ref f9))) (l9 : K.lookup f9 = some ⟨oc9, od9, .func (PySem.W.fnOf "check_points" "check_points" (defArgs st_check_points) (defBody st_check_points) (defScope st_check_points) .none kV9 dc9 pm9 an9 cd9 ct9), sl9⟩) (c9 : PySem.W.codeIn K cd9 "check_points" = true) (k9 : PySem.W.keepIn K (.ref f9) = true)
    (a10 : PySem.W.nsIn K mainGlobals "square" = some (some (.ref f10))) (l10 : K.lookup f10 = some ⟨oc10, od10, .func (PySem.W.fnOf "square" "square" (defArgs st_square) (defBody st_square) (defScope st_square) .none kV10 dc10 pm10 an10 cd10 ct10), sl10⟩) (c10 : PySem.W.codeIn K cd10 "square" = true) (k10 : PySem.W.keepIn K (.ref f10) = true)
    (a11 : PySem.W.nsIn K mainGlobals "off" = some (some (.ref f11))) (l11 : K.lookup f11 = some ⟨oc11, od11, .func (PySem.W.fnOf "off" "off" (defArgs st_off) (defBody st_off) (defScope st_off) .none kV11 dc11 pm11 an11 cd11 ct11), sl11⟩) (c11 : PySem.W.codeIn K cd11 "off" = true) (k11 : PySem.W.keepIn K (.ref f11) = true)
    (a12 : PySem.W.nsIn K mainGlobals "away" = some (some (.ref f12))) (l12 : K.lookup f12 = some ⟨oc12, od12, .func (PySem.W.fnOf "away" "away" (defArgs st_away) (defBody st_away) (defScope st_away) .none kV12 dc12 pm12 an12 cd12 ct12), sl12⟩) (c12 : PySem.W.codeIn K cd12 "away" = true) (k12 : PySem.W.keepIn K (.ref f12) = true)
    (a13 : PySem.W.nsIn K mainGlobals "check_row" = some (some (.ref f13))) (l13 : K.lookup f13 = some ⟨oc13, od13, .func (PySem.W.fnOf "check_row" "check_row" (defArgs st_check_row) (defBody st_check_row) (defScope st_check_row) .none kV13 dc13 pm13 an13 cd13 ct13), sl13⟩) (c13 : PySem.W.codeIn K cd13 "check_row" = true) (k13 : PySem.W.keepIn K (.ref f13) = true)
    (a14 : PySem.W.nsIn K mainGlobals "is_near" = some (some (.ref f14))) (l14 : K.lookup f14 = some ⟨oc14, od14, .func (PySem.W.fnOf "is_near" "is_near" (defArgs st_is_near) (defBody st_is_near) (defScope st_is_near) .none kV14 dc14 pm14 an14 cd14 ct14), sl14⟩) (c14 : PySem.W.codeIn K cd14 "is_near" = true) (k14 : PySem.W.keepIn K (.ref f14) = true)
    (a15 : PySem.W.nsIn K mainGlobals "fewer" = some (some (.ref f15))) (l15 : K.lookup f15 = some ⟨oc15, od15, .func (PySem.W.fnOf "fewer" "fewer" (defArgs st_fewer) (defBody st_fewer) (defScope st_fewer) .none kV15 dc15 pm15 an15 cd15 ct15), sl15⟩) (c15 : PySem.W.codeIn K cd15 "fewer" = true) (k15 : PySem.W.keepIn K (.ref f15) = true)
    (a16 : PySem.W.nsIn K mainGlobals "are_fewer" = some (some (.ref f16))) (l16 : K.lookup f16 = some ⟨oc16, od16, .func (PySem.W.fnOf "are_fewer" "are_fewer" (defArgs st_are_fewer) (defBody st_are_fewer) (defScope st_are_fewer) .none kV16 dc16 pm16 an16 cd16 ct16), sl16⟩) (c16 : PySem.W.codeIn K cd16 "are_fewer" = true) (k16 : PySem.W.keepIn K (.ref f16) = true)
    (a17 : PySem.W.nsIn K mainGlobals "_law_box" = some (some (.ref f17))) (l17 : K.lookup f17 = some ⟨oc17, od17, .func (PySem.W.fnOf "_law_box" "_law_box" (defArgs st__law_box) (defBody st__law_box) (defScope st__law_box) .none kV17 dc17 pm17 an17 cd17 ct17), sl17⟩) (c17 : PySem.W.codeIn K cd17 "_law_box" = true) (k17 : PySem.W.keepIn K (.ref f17) = true)
    (a18 : PySem.W.nsIn K mainGlobals "_law_take" = some (some (.ref f18))) (l18 : K.lookup f18 = some ⟨oc18, od18, .func (PySem.W.fnOf "_law_take" "_law_take" (defArgs st__law_take) (defBody st__law_take) (defScope st__law_take) .none kV18 dc18 pm18 an18 cd18 ct18), sl18⟩) (c18 : PySem.W.codeIn K cd18 "_law_take" = true) (k18 : PySem.W.keepIn K (.ref f18) = true)
    (a19 : PySem.W.nsIn K mainGlobals "_law_pick" = some (some (.ref f19))) (l19 : K.lookup f19 = some ⟨oc19, od19, .func (PySem.W.fnOf "_law_pick" "_law_pick" (defArgs st__law_pick) (defBody st__law_pick) (defScope st__law_pick) .none kV19 dc19 pm19 an19 cd19 ct19), sl19⟩) (c19 : PySem.W.codeIn K cd19 "_law_pick" = true) (k19 : PySem.W.keepIn K (.ref f19) = true)
    (a20 : PySem.W.nsIn K mainGlobals "_law_number" = some (some (.ref f20))) (l20 : K.lookup f20 = some ⟨oc20, od20, .func (PySem.W.fnOf "_law_number" "_law_number" (defArgs st__law_number) (defBody st__law_number) (defScope st__law_number) .none kV20 dc20 pm20 an20 cd20 ct20), sl20⟩) (c20 : PySem.W.codeIn K cd20 "_law_number" = true) (k20 : PySem.W.keepIn K (.ref f20) = true)
    (a21 : PySem.W.nsIn K mainGlobals "_law_shared" = some (some (.ref f21))) (l21 : K.lookup f21 = some ⟨oc21, od21, .func (PySem.W.fnOf "_law_shared" "_law_shared" (defArgs st__law_shared) (defBody st__law_shared) (defScope st__law_shared) .none kV21 dc21 pm21 an21 cd21 ct21), sl21⟩) (c21 : PySem.W.codeIn K cd21 "_law_shared" = true) (k21 : PySem.W.keepIn K (.ref f21) = true)
    (a22 : PySem.W.nsIn K mainGlobals "_law_made" = some (some (.ref f22))) (l22 : K.lookup f22 = some ⟨oc22, od22, .func (PySem.W.fnOf "_law_made" "_law_made" (defArgs st__law_made) (defBody st__law_made) (defScope st__law_made) .none kV22 dc22 pm22 an22 cd22 ct22), sl22⟩) (c22 : PySem.W.codeIn K cd22 "_law_made" = true) (k22 : PySem.W.keepIn K (.ref f22) = true)
    (a23 : PySem.W.nsIn K mainGlobals "_law_point" = some (some (.ref f23))) (l23 : K.lookup f23 = some ⟨oc23, od23, .func (PySem.W.fnOf "_law_point" "_law_point" (defArgs st__law_point) (defBody st__law_point) (defScope st__law_point) .none kV23 dc23 pm23 an23 cd23 ct23), sl23⟩) (c23 : PySem.W.codeIn K cd23 "_law_point" = true) (k23 : PySem.W.keepIn K (.ref f23) = true)
    (a24 : PySem.W.nsIn K mainGlobals "_law_is_fraction" = some (some (.ref f24))) (l24 : K.lookup f24 = some ⟨oc24, od24, .func (PySem.W.fnOf "_law_is_fraction" "_law_is_fraction" (defArgs st__law_is_fraction) (defBody st__law_is_fraction) (defScope st__law_is_fraction) .none kV24 dc24 pm24 an24 cd24 ct24), sl24⟩) (c24 : PySem.W.codeIn K cd24 "_law_is_fraction" = true) (k24 : PySem.W.keepIn K (.ref f24) = true)
    (a25 : PySem.W.nsIn K mainGlobals "_law_square" = some (some (.ref f25))) (l25 : K.lookup f25 = some ⟨oc25, od25, .func (PySem.W.fnOf "_law_square" "_law_square" (defArgs st__law_square) (defBody st__law_square) (defScope st__law_square) .none kV25 dc25 pm25 an25 cd25 ct25), sl25⟩) (c25 : PySem.W.codeIn K cd25 "_law_square" = true) (k25 : PySem.W.keepIn K (.ref f25) = true)
    (a26 : PySem.W.nsIn K mainGlobals "_law_away" = some (some (.ref f26))) (l26 : K.lookup f26 = some ⟨oc26, od26, .func (PySem.W.fnOf "_law_away" "_law_away" (defArgs st__law_away) (defBody st__law_away) (defScope st__law_away) .none kV26 dc26 pm26 an26 cd26 ct26), sl26⟩) (c26 : PySem.W.codeIn K cd26 "_law_away" = true) (k26 : PySem.W.keepIn K (.ref f26) = true)
    (a27 : PySem.W.nsIn K mainGlobals "_law_is_near" = some (some (.ref f27))) (l27 : K.lookup f27 = some ⟨oc27, od27, .func (PySem.W.fnOf "_law_is_near" "_law_is_near" (defArgs st__law_is_near) (defBody st__law_is_near) (defScope st__law_is_near) .none kV27 dc27 pm27 an27 cd27 ct27), sl27⟩) (c27 : PySem.W.codeIn K cd27 "_law_is_near" = true) (k27 : PySem.W.keepIn K (.ref f27) = true)
    (a28 : PySem.W.nsIn K mainGlobals "_law_rows" = some (some (.ref f28))) (l28 : K.lookup f28 = some ⟨oc28, od28, .func (PySem.W.fnOf "_law_rows" "_law_rows" (defArgs st__law_rows) (defBody st__law_rows) (defScope st__law_rows) .none kV28 dc28 pm28 an28 cd28 ct28), sl28⟩) (c28 : PySem.W.codeIn K cd28 "_law_rows" = true) (k28 : PySem.W.keepIn K (.ref f28) = true)
    (a29 : PySem.W.nsIn K mainGlobals "_law_refused" = some (some (.ref f29))) (l29 : K.lookup f29 = some ⟨oc29, od29, .func (PySem.W.fnOf "_law_refused" "_law_refused" (defArgs st__law_refused) (defBody st__law_refused) (defScope st__law_refused) .none kV29 dc29 pm29 an29 cd29 ct29), sl29⟩) (c29 : PySem.W.codeIn K cd29 "_law_refused" = true) (k29 : PySem.W.keepIn K (.ref f29) = true)
    (a30 : PySem.W.nsIn K mainGlobals "law" = some (some (.ref f30))) (l30 : K.lookup f30 = some ⟨oc30, od30, .func (PySem.W.fnOf "law" "law" (defArgs st_law) (defBody st_law) (defScope st_law) .none kV30 dc30 pm30 an30 cd30 ct30), sl30⟩) (c30 : PySem.W.codeIn K cd30 "law" = true) (k30 : PySem.W.keepIn K (.ref f30) = true)
    (z_abs : PySem.W.nsIn K mainGlobals "abs" = some none)
    (z_all : PySem.W.nsIn K mainGlobals "all" = some none)
    (z_any : PySem.W.nsIn K mainGlobals "any" = some none)
    (z_bool : PySem.W.nsIn K mainGlobals "bool" = some none)
    (z_int : PySem.W.nsIn K mainGlobals "int" = some none)
    (z_isinstance : PySem.W.nsIn K mainGlobals "isinstance" = some none)
    (z_len : PySem.W.nsIn K mainGlobals "len" = some none)
    (z_list : PySem.W.nsIn K mainGlobals "list" = some none)
    (z_range : PySem.W.nsIn K mainGlobals "range" = some none)
    (z_sorted : PySem.W.nsIn K mainGlobals "sorted" = some none)
    (z_tuple : PySem.W.nsIn K mainGlobals "tuple" = some none)
    (z_zip : PySem.W.nsIn K mainGlobals "zip" = some none)
    (g_MOST : PySem.W.nsIn K mainGlobals "MOST" = some (some (.int 24 t_MOST)))
    (xa_BadShape : PySem.W.nsIn K mainGlobals "BadShape" = some (some (.ref C_BadShape)))
    (xa_EdgeError : PySem.W.nsIn K mainGlobals "EdgeError" = some (some (.ref C_EdgeError)))
    (xy_BadShape : ClsK K C_BadShape (.ref C_EdgeError :: veB))
    (xy_EdgeError : ClsK K C_EdgeError (veB))
    (xk_BadShape : PySem.W.keepIn K (.ref C_BadShape) = true) (xb_BadShape : PySem.W.subIn K (.ref C_BadShape) (.type "BaseException") = some true) (xt_BadShape : PySem.W.typeIn K (.ref C_BadShape) = some (.type "type")) (xd_BadShape : PySem.W.hasDictIn K C_BadShape = true)
    (e_BadShape_BadShape : PySem.W.subIn K (.ref C_BadShape) (.ref C_BadShape) = some true) : Tx K mg where
  d_is_number := DefT.of X G a0 l0 c0 k0 (fun us hl => match us, hl with | [_], _ => rfl)
  d_common := DefT.of X G a1 l1 c1 k1 (fun us hl => match us, hl with | [_, _], _ => rfl)
  d_fraction := DefT.of X G a2 l2 c2 k2 (fun us hl => match us, hl with | [_, _], _ => rfl)
  d_is_fraction := DefT.of X G a3 l3 c3 k3 (fun us hl => match us, hl with | [_], _ => rfl)
  d_check_fraction := DefT.of X G a4 l4 c4 k4 (fun us hl => match us, hl with | [_], _ => rfl)
  d_check_both := DefT.of X G a5 l5 c5 k5 (fun us hl => match us, hl with | [_, _], _ => rfl)
  d_less := DefT.of X G a6 l6 c6 k6 (fun us hl => match us, hl with | [_, _], _ => rfl)
  d_is_point := DefT.of X G a7 l7 c7 k7 (fun us hl => match us, hl with | [_], _ => rfl)
  d_check_point := DefT.of X G a8 l8 c8 k8 (fun us hl => match us, hl with | [_], _ => rfl)
  d_check_points := DefT.of X G a9 l9 c9 k9 (fun us hl => match us, hl with | [_], _ => rfl)
  d_square := DefT.of X G a10 l10 c10 k10 (fun us hl => match us, hl with | [_, _], _ => rfl)
  d_off := DefT.of X G a11 l11 c11 k11 (fun us hl => match us, hl with | [_, _, _], _ => rfl)
  d_away := DefT.of X G a12 l12 c12 k12 (fun us hl => match us, hl with | [_, _, _], _ => rfl)
  d_check_row := DefT.of X G a13 l13 c13 k13 (fun us hl => match us, hl with | [_, _], _ => rfl)
  d_is_near := DefT.of X G a14 l14 c14 k14 (fun us hl => match us, hl with | [_, _, _, _], _ => rfl)
  d_fewer := DefT.of X G a15 l15 c15 k15 (fun us hl => match us, hl with | [_, _], _ => rfl)
  d_are_fewer := DefT.of X G a16 l16 c16 k16 (fun us hl => match us, hl with | [_, _, _], _ => rfl)
  d__law_box := DefT.of X G a17 l17 c17 k17 (fun us hl => match us, hl with | [_], _ => rfl)
  d__law_take := DefT.of X G a18 l18 c18 k18 (fun us hl => match us, hl with | [_, _], _ => rfl)
  d__law_pick := DefT.of X G a19 l19 c19 k19 (fun us hl => match us, hl with | [_, _], _ => rfl)
  d__law_number := DefT.of X G a20 l20 c20 k20 (fun us hl => match us, hl with | [_], _ => rfl)
  d__law_shared := DefT.of X G a21 l21 c21 k21 (fun us hl => match us, hl with | [_], _ => rfl)
  d__law_made := DefT.of X G a22 l22 c22 k22 (fun us hl => match us, hl with | [_, _, _], _ => rfl)
  d__law_point := DefT.of X G a23 l23 c23 k23 (fun us hl => match us, hl with | [_, _], _ => rfl)
  d__law_is_fraction := DefT.of X G a24 l24 c24 k24 (fun us hl => match us, hl with | [_], _ => rfl)
  d__law_square := DefT.of X G a25 l25 c25 k25 (fun us hl => match us, hl with | [_, _], _ => rfl)
  d__law_away := DefT.of X G a26 l26 c26 k26 (fun us hl => match us, hl with | [_, _, _], _ => rfl)
  d__law_is_near := DefT.of X G a27 l27 c27 k27 (fun us hl => match us, hl with | [_, _, _, _], _ => rfl)
  d__law_rows := DefT.of X G a28 l28 c28 k28 (fun us hl => match us, hl with | [_], _ => rfl)
  d__law_refused := DefT.of X G a29 l29 c29 k29 (fun us hl => match us, hl with | [_, _], _ => rfl)
  d_law := DefT.of X G a30 l30 c30 k30 (fun us hl => match us, hl with | [_], _ => rfl)
  m_abs := PySem.W.mg_none_of X G z_abs
  m_all := PySem.W.mg_none_of X G z_all
  m_any := PySem.W.mg_none_of X G z_any
  m_bool := PySem.W.mg_none_of X G z_bool
  m_int := PySem.W.mg_none_of X G z_int
  m_isinstance := PySem.W.mg_none_of X G z_isinstance
  m_len := PySem.W.mg_none_of X G z_len
  m_list := PySem.W.mg_none_of X G z_list
  m_range := PySem.W.mg_none_of X G z_range
  m_sorted := PySem.W.mg_none_of X G z_sorted
  m_tuple := PySem.W.mg_none_of X G z_tuple
  m_zip := PySem.W.mg_none_of X G z_zip
  gi_MOST := ⟨_, PySem.W.mg_of X G g_MOST⟩
  c_BadShape := C_BadShape
  x_BadShape := ExcT.of X G xa_BadShape (xy_BadShape.exc (xy_EdgeError.tail tail_ve)) xk_BadShape xb_BadShape xt_BadShape
  e_BadShape_BadShape := ExM.of X G xa_BadShape xa_BadShape xb_BadShape xd_BadShape xt_BadShape e_BadShape_BadShape
theorem fin {P : Program} {w : World} {K : PySem.W.Frag} {mg : Str → Option Value} {fa : Addr} (plain : ∀ (ns : List Int) (o : OScr) (d : D), ScrIn ns o d → ns.length ≤ 63 → ∃ m, R_law o [d] [] = .ok (.bl true) m) (hmg : mg "law" = some (.ref fa)) (T : Tx K mg) : ∃ fd : FuncData, (∀ (s : Shared) (v : Value), BindsTo s fd ⟨[v], []⟩ [("script", v)]) ∧ ∀ base : Heap, K.In base → base.Ns mainGlobals mg → FnOk P w K mg base (L2.CX P w) 9 fa fd ["script"] (spLawD K) := by
  have ef := Option.some.inj (hmg.symm.trans T.d_law.g)
  cases ef
  exact ⟨T.d_law.fd, fun s v => .of_eq (T.d_law.ba [v] rfl), fun base _ _ => law_sp (fun o ho => ok_law T ho) plain⟩
end K93
open PySem PySem.W PyProof.Rows
set_option maxHeartbeats 0 in
theorem PySem.Challenge.cw_straightedge_k93_rows_with_fewer_corners_holds : PySem.Challenge.rw_straightedge_k93_rows_with_fewer_corners.Holds := by
  w_on; o_law; k_head; (case hw => w_witness2)
  k_fill
  refine L2.walk_of (l := PySem.Challenge.rw_straightedge_k93_rows_with_fewer_corners) (n := 63) (k := 9) (x := "script") (CX := fun w => L2.CX PySem.Challenge.rw_straightedge_k93_rows_with_fewer_corners.prog w) (sp := fun w => PD.spLawD _) rfl (by decide) rfl ⟨rfl, by decide, by decide⟩ (fun w h Y => PySem.W.kIn_of Y) ?F (fun _ _ a ns hl _ hS => ⟨a, ns, rfl, hS, hl, fun _ => rfl⟩) (fun _ _ _ _ _ h => PD.cx_no h)
  case F =>
    intro w mg fa h KX G hmg
    refine' K93.fin K93.plain hmg (K93.Tx.of KX G ?a0 ?l0 ?c0 ?k0 ?a1 ?l1 ?c1 ?k1 ?a2 ?l2 ?c2 ?k2 ?a3 ?l3 ?c3 ?k3 ?a4 ?l4 ?c4 ?k4 ?a5 ?l5 ?c5 ?k5 ?a6 ?l6 ?c6 ?k6 ?a7 ?l7 ?c7 ?k7 ?a8 ?l8 ?c8 ?k8 ?a9 ?l9 ?c9 ?k9 ?a10 ?l10 ?c10 ?k10 ?a11 ?l11 ?c11 ?k11 ?a12 ?l12 ?c12 ?k12 ?a13 ?l13 ?c13 ?k13 ?a14 ?l14 ?c14 ?k14 ?a15 ?l15 ?c15 ?k15 ?a16 ?l16 ?c16 ?k16 ?a17 ?l17 ?c17 ?k17 ?a18 ?l18 ?c18 ?k18 ?a19 ?l19 ?c19 ?k19 ?a20 ?l20 ?c20 ?k20 ?a21 ?l21 ?c21 ?k21 ?a22 ?l22 ?c22 ?k22 ?a23 ?l23 ?c23 ?k23 ?a24 ?l24 ?c24 ?k24 ?a25 ?l25 ?c25 ?k25 ?a26 ?l26 ?c26 ?k26 ?a27 ?l27 ?c27 ?k27 ?a28 ?l28 ?c28 ?k28 ?a29 ?l29 ?c29 ?k29 ?a30 ?l30 ?c30 ?k30 ?z_abs ?z_all ?z_any ?z_bool ?z_int ?z_isinstance ?z_len ?z_list ?z_range ?z_sorted ?z_tuple ?z_zip ?g_MOST ?xa_BadShape ?xa_EdgeError ?xy_BadShape ?xy_EdgeError ?xk_BadShape ?xb_BadShape ?xt_BadShape ?xd_BadShape ?e_BadShape_BadShape)
    (case a0 => k_is); (case l0 => k_is); (case c0 => k_is); (case k0 => k_is); (case a1 => k_is); (case l1 => k_is); (case c1 => k_is); (case k1 => k_is); (case a2 => k_is); (case l2 => k_is); (case c2 => k_is); (case k2 => k_is); (case a3 => k_is); (case l3 => k_is); (case c3 => k_is); (case k3 => k_is); (case a4 => k_is); (case l4 => k_is); (case c4 => k_is); (case k4 => k_is); (case a5 => k_is); (case l5 => k_is); (case c5 => k_is); (case k5 => k_is); (case a6 => k_is); (case l6 => k_is); (case c6 => k_is); (case k6 => k_is); (case a7 => k_is); (case l7 => k_is); (case c7 => k_is); (case k7 => k_is); (case a8 => k_is); (case l8 => k_is); (case c8 => k_is); (case k8 => k_is); (case a9 => k_is); (case l9 => k_is); (case c9 => k_is); (case k9 => k_is); (case a10 => k_is); (case l10 => k_is); (case c10 => k_is); (case k10 => k_is); (case a11 => k_is); (case l11 => k_is); (case c11 => k_is); (case k11 => k_is); (case a12 => k_is); (case l12 => k_is); (case c12 => k_is); (case k12 => k_is); (case a13 => k_is); (case l13 => k_is); (case c13 => k_is); (case k13 => k_is); (case a14 => k_is); (case l14 => k_is); (case c14 => k_is); (case k14 => k_is); (case a15 => k_is); (case l15 => k_is); (case c15 => k_is); (case k15 => k_is); (case a16 => k_is); (case l16 => k_is); (case c16 => k_is); (case k16 => k_is); (case a17 => k_is); (case l17 => k_is); (case c17 => k_is); (case k17 => k_is); (case a18 => k_is); (case l18 => k_is); (case c18 => k_is); (case k18 => k_is); (case a19 => k_is); (case l19 => k_is); (case c19 => k_is); (case k19 => k_is); (case a20 => k_is); (case l20 => k_is); (case c20 => k_is); (case k20 => k_is); (case a21 => k_is); (case l21 => k_is); (case c21 => k_is); (case k21 => k_is); (case a22 => k_is); (case l22 => k_is); (case c22 => k_is); (case k22 => k_is); (case a23 => k_is); (case l23 => k_is); (case c23 => k_is); (case k23 => k_is); (case a24 => k_is); (case l24 => k_is); (case c24 => k_is); (case k24 => k_is); (case a25 => k_is); (case l25 => k_is); (case c25 => k_is); (case k25 => k_is); (case a26 => k_is); (case l26 => k_is); (case c26 => k_is); (case k26 => k_is); (case a27 => k_is); (case l27 => k_is); (case c27 => k_is); (case k27 => k_is); (case a28 => k_is); (case l28 => k_is); (case c28 => k_is); (case k28 => k_is); (case a29 => k_is); (case l29 => k_is); (case c29 => k_is); (case k29 => k_is); (case a30 => k_is); (case l30 => k_is); (case c30 => k_is); (case k30 => k_is); (case z_abs => k_is); (case z_all => k_is); (case z_any => k_is); (case z_bool => k_is); (case z_int => k_is); (case z_isinstance => k_is); (case z_len => k_is); (case z_list => k_is); (case z_range => k_is); (case z_sorted => k_is); (case z_tuple => k_is); (case z_zip => k_is); (case g_MOST => k_is); (case xa_BadShape => k_is); (case xa_EdgeError => k_is); (case xy_BadShape => (refine' PD.ClsK.mk' ?qx ?qm ?qs ?qd ?qn ?qo ?qi; (case qx => k_is); (case qm => rfl); (case qs => rfl); (case qd => rfl); (case qn => k_is); (case qo => rfl); (case qi => k_is))); (case xy_EdgeError => (refine' PD.ClsK.mk' ?qx ?qm ?qs ?qd ?qn ?qo ?qi; (case qx => k_is); (case qm => rfl); (case qs => rfl); (case qd => rfl); (case qn => k_is); (case qo => rfl); (case qi => k_is))); (case xk_BadShape => k_is); (case xb_BadShape => k_is); (case xt_BadShape => k_is); (case xd_BadShape => k_is); (case e_BadShape_BadShape => k_is)
