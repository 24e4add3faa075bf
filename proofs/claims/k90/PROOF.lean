import PyProof.Rows.All
import Wide.All
import OpenK.AllK
import Wide.FinOn
import HandS.ForMost
import HandS.TupAny
import HandS.Wide
import HandS.Deep
import HandS.TupLe
import HandS.IsInst
import HandS.FStr
import HandS.SortInts
import HandS.Codes
import HandS.IntHex
import HandS.Zip
import HandS.NoneIn
import HandS.Style
import HandS.More
import PySem.Challenge.RW_wholecircuits_k90_texts_shown
set_option Elab.async false
set_option linter.all false
set_option maxRecDepth 100000
namespace WC
open PySem PySem.Spec PyProof.Rows L2

inductive D where
  | non | bl (b : Bool) | int (i : Int) | str (s : List Nat) | tup (xs : List D) | lst (xs : List D) | dct (kvs : List (D × D)) | ref (n : Nat) | scr (xs : List D)
  deriving Inhabited
inductive Sl where
  | no | val (d : D) | own (xs : List D) | ownd (kvs : List (D × D)) | lent (xs : List D)
  deriving Inhabited
inductive Ob where
  | lst (xs : List D) | dct (kvs : List (D × D)) | ins (c : Nat) (fs : List (Str × Sl))
  deriving Inhabited
abbrev Sv := List (Option V)
abbrev Sg := List Sl
abbrev Hs := List Ob

inductive R (α : Type) where
  | ok (a : α) (h : Hs)
  | bad
def R.bind {α β : Type} (r : R α) (f : α → Hs → R β) : R β := match r with
  | .ok a h => f a h
  | .bad => .bad
@[simp] theorem R.bind_ok {α β : Type} (a : α) (h : Hs) (f : α → Hs → R β) : (R.ok a h).bind f = f a h := rfl
@[simp] theorem R.bind_bad {α β : Type} (f : α → Hs → R β) : (R.bad : R α).bind f = .bad := rfl
abbrev EM := Sg → Hs → R D
abbrev AM := Sg → Hs → R (List D)
inductive RS where
  | nx (σ : Sg) (h : Hs) | rt (d : D) (h : Hs) | bk (σ : Sg) (h : Hs) | ct (σ : Sg) (h : Hs) | bad
abbrev SM := Sg → Hs → RS

structure Lay where
  F : Hp
  ob : List (Addr × List Addr)
def Lay.M (L : Lay) (p : Addr) : Prop := ∃ q ∈ L.ob, p = q.1 ∨ p ∈ q.2
def Lay.at (L : Lay) (n : Nat) : Option Addr := (L.ob[n]?).map (·.1)

def keyD : Key → D
  | .inl i => .int i
  | .inr s => .str s.cps.toList
def keyOk : Key → Prop
  | .inl _ => True
  | .inr s => ∀ c ∈ s.cps.toList, c < 0x110000
def DG (F : Hp) (a : Addr) (ks : List D) (vs : List V) : Prop :=
  (∃ kvs : List (Key × V), Rd F a (.dK kvs) ∧ ks = kvs.map (fun p => keyD p.1) ∧ vs = kvs.map (·.2) ∧ ∀ p ∈ kvs, keyOk p.1) ∨
  (∃ kvs : List (List Key × V), F a = some (.dT kvs) ∧ ks = kvs.map (fun p => .tup (p.1.map keyD)) ∧ vs = kvs.map (·.2) ∧ ∀ p ∈ kvs, ∀ k ∈ p.1, keyOk k)

mutual
inductive Rep (K : PySem.W.Frag) (L : Lay) : V → D → Prop where
  | non : Rep K L .non .non
  | bl (b : Bool) : Rep K L (.bl b) (.bl b)
  | int (i : Int) : Rep K L (.int i) (.int i)
  | str (s : Str) (h : ∀ c ∈ s.cps.toList, c < 0x110000) : Rep K L (.str s) (.str s.cps.toList)
  | tup {a : Addr} {vs : List V} {xs : List D} : SqT K L.F a vs → Reps K L vs xs → Rep K L (.ref a) (.tup xs)
  | lst {a : Addr} {vs : List V} {xs : List D} : L.F a = some (.lst vs) → Reps K L vs xs → Rep K L (.ref a) (.lst xs)
  | scr {a : Addr} {vs : List V} {xs : List D} : SqL K L.F a vs → Reps K L vs xs → Rep K L (.ref a) (.scr xs)
  | dct {a : Addr} {ks : List D} {vs : List V} {xs : List D} : DG L.F a ks vs → Reps K L vs xs → Rep K L (.ref a) (.dct (ks.zip xs))
  | ref {a : Addr} {n : Nat} : L.at n = some a → Rep K L (.ref a) (.ref n)
inductive Reps (K : PySem.W.Frag) (L : Lay) : List V → List D → Prop where
  | nil : Reps K L [] []
  | cons {v : V} {d : D} {vs : List V} {ds : List D} : Rep K L v d → Reps K L vs ds → Reps K L (v :: vs) (d :: ds)
end

structure Le (O : Addr → Prop) (L : Lay) (H : Hp) (L' : Lay) (H' : Hp) : Prop where
  F : ∀ p o, L.F p = some o → L'.F p = some o
  Fn : ∀ p, L'.F p ≠ none → L.F p ≠ none ∨ H p = none ∨ O p
  ob : ∀ n a, L.at n = some a → L'.at n = some a
  M : ∀ p, L'.M p → L.M p ∨ H p = none ∨ O p
  fr : ∀ p o, H p = some o → ¬ L.M p → ¬ O p → H' p = some o
  th : ∀ p, H p ≠ none → H' p ≠ none
abbrev Le0 := Le fun _ => False

section
variable {O O' : Addr → Prop} {L L' L1 L2 : Lay} {H H' H1 H2 : Hp} {K : PySem.W.Frag}
theorem Le.refl : Le O L H L H := ⟨fun _ _ h => h, fun _ h => .inl h, fun _ _ h => h, fun _ h => .inl h, fun _ _ h _ _ => h, fun _ h => h⟩
theorem Le.trans (a : Le O L H L1 H1) (b : Le O' L1 H1 L2 H2) (hO : ∀ p, O' p → O p ∨ H p = none) : Le O L H L2 H2 where
  F p o h := b.F p o (a.F p o h)
  Fn p h := by
    rcases b.Fn p h with q | q | q
    · exact a.Fn p q
    · exact .inr (.inl (Classical.byContradiction fun z => a.th p z q))
    · rcases hO p q with r | r
      · exact .inr (.inr r)
      · exact .inr (.inl r)
  ob n x h := b.ob n x (a.ob n x h)
  M p h := by
    rcases b.M p h with q | q | q
    · exact a.M p q
    · exact .inr (.inl (Classical.byContradiction fun z => a.th p z q))
    · rcases hO p q with r | r
      · exact .inr (.inr r)
      · exact .inr (.inl r)
  fr p o h n m := by
    have e := a.fr p o h n m
    refine b.fr p o e (fun z => ?_) (fun z => ?_)
    · rcases a.M p z with q | q | q
      · exact n q
      · rw [h] at q; cases q
      · exact m q
    · rcases hO p z with q | q
      · exact m q
      · rw [h] at q; cases q
  th p h := b.th p (a.th p h)
theorem Le.trans0 (a : Le O L H L1 H1) (b : Le0 L1 H1 L2 H2) : Le O L H L2 H2 := a.trans b fun _ z => z.elim
theorem Le.up (a : Le O L H L1 H1) (h : ∀ p, O p → O' p) : Le O' L H L1 H1 :=
  ⟨a.F, fun p q => (a.Fn p q).imp_right (Or.imp_right (h p)), a.ob, fun p q => (a.M p q).imp_right (Or.imp_right (h p)), fun p o e n m => a.fr p o e n fun z => m (h p z), a.th⟩
theorem Le0.any (a : Le0 L H L1 H1) : Le O L H L1 H1 := a.up fun _ z => z.elim

theorem rd_mono {F F' : Hp} {a : Addr} {u : HO} (h : ∀ p o, F p = some o → F' p = some o) (r : Rd F a u) : Rd F' a u := by
  rcases r with r | ⟨o, r⟩
  · exact .inl (h _ _ r)
  · exact .inr ⟨o, h _ _ r⟩
theorem sqT_mono {F F' : Hp} {a : Addr} {vs : List V} (h : ∀ p o, F p = some o → F' p = some o) (r : SqT K F a vs) : SqT K F' a vs := r.imp_left (rd_mono h)
theorem sqL_mono {F F' : Hp} {a : Addr} {vs : List V} (h : ∀ p o, F p = some o → F' p = some o) (r : SqL K F a vs) : SqL K F' a vs := r.imp_left (rd_mono h)
theorem dg_mono {F F' : Hp} {a : Addr} {ks : List D} {vs : List V} (h : ∀ p o, F p = some o → F' p = some o) (r : DG F a ks vs) : DG F' a ks vs := by
  rcases r with ⟨kvs, r, e⟩ | ⟨kvs, r, e⟩
  · exact .inl ⟨kvs, rd_mono h r, e⟩
  · exact .inr ⟨kvs, h _ _ r, e⟩
mutual
theorem Rep.mono (hF : ∀ p o, L.F p = some o → L'.F p = some o) (ho : ∀ n a, L.at n = some a → L'.at n = some a) : ∀ {v : V} {d : D}, Rep K L v d → Rep K L' v d
  | _, _, .non => .non
  | _, _, .bl b => .bl b
  | _, _, .int i => .int i
  | _, _, .str s h => .str s h
  | _, _, .tup h r => .tup (sqT_mono hF h) (Reps.mono hF ho r)
  | _, _, .lst h r => .lst (hF _ _ h) (Reps.mono hF ho r)
  | _, _, .scr h r => .scr (sqL_mono hF h) (Reps.mono hF ho r)
  | _, _, .dct h r => .dct (dg_mono hF h) (Reps.mono hF ho r)
  | _, _, .ref h => .ref (ho _ _ h)
theorem Reps.mono (hF : ∀ p o, L.F p = some o → L'.F p = some o) (ho : ∀ n a, L.at n = some a → L'.at n = some a) : ∀ {vs : List V} {ds : List D}, Reps K L vs ds → Reps K L' vs ds
  | _, _, .nil => .nil
  | _, _, .cons r t => .cons (Rep.mono hF ho r) (Reps.mono hF ho t)
end
theorem Rep.le {v : V} {d : D} (r : Rep K L v d) (l : Le O L H L' H') : Rep K L' v d := r.mono l.F l.ob
theorem Reps.le {v : List V} {d : List D} (r : Reps K L v d) (l : Le O L H L' H') : Reps K L' v d := r.mono l.F l.ob
theorem Reps.length {vs : List V} {ds : List D} (r : Reps K L vs ds) : vs.length = ds.length := by
  induction ds generalizing vs with
  | nil => cases r; rfl
  | cons d ds ih => cases r with | cons a b => simp [ih b]
theorem Reps.get {vs : List V} {ds : List D} (r : Reps K L vs ds) {i : Nat} {d : D} (h : ds[i]? = some d) : ∃ v, vs[i]? = some v ∧ Rep K L v d := by
  induction ds generalizing vs i with
  | nil => simp at h
  | cons e ds ih =>
    cases r with
    | cons a b =>
      cases i with
      | zero => simp at h; subst h; exact ⟨_, rfl, a⟩
      | succ i => simpa using ih b (by simpa using h)
theorem Reps.getV {vs : List V} {ds : List D} (r : Reps K L vs ds) {i : Nat} {v : V} (h : vs[i]? = some v) : ∃ d, ds[i]? = some d ∧ Rep K L v d := by
  have hl := r.length
  have hi : i < ds.length := by rw [← hl]; exact (List.getElem?_eq_some_iff.mp h).1
  obtain ⟨w, e, q⟩ := r.get (List.getElem?_eq_getElem hi)
  rw [h] at e; cases e
  exact ⟨_, List.getElem?_eq_getElem hi, q⟩
theorem Reps.of {vs : List V} {ds : List D} (hl : vs.length = ds.length) (h : ∀ (i : Nat) (v : V) (d : D), vs[i]? = some v → ds[i]? = some d → Rep K L v d) : Reps K L vs ds := by
  induction ds generalizing vs with
  | nil => cases vs with
    | nil => exact .nil
    | cons _ _ => simp at hl
  | cons d ds ih => cases vs with
    | nil => simp at hl
    | cons v vs => exact .cons (h 0 v d rfl rfl) (ih (by simpa using hl) fun i v d a b => h (i + 1) v d (by simpa using a) (by simpa using b))
theorem Reps.append {vs ws : List V} {ds es : List D} (a : Reps K L vs ds) (b : Reps K L ws es) : Reps K L (vs ++ ws) (ds ++ es) := by
  induction ds generalizing vs with
  | nil => cases a; exact b
  | cons d ds ih => cases a with | cons p q => exact .cons p (ih q)
theorem Reps.set {vs : List V} {ds : List D} {v : V} {d : D} (r : Reps K L vs ds) (q : Rep K L v d) (i : Nat) : Reps K L (vs.set i v) (ds.set i d) := by
  induction ds generalizing vs i with
  | nil => cases r; exact .nil
  | cons e ds ih => cases r with
    | cons a b => cases i with
      | zero => exact .cons q b
      | succ i => exact .cons a (ih b i)
theorem Reps.drop {vs : List V} {ds : List D} (r : Reps K L vs ds) (n : Nat) : Reps K L (vs.drop n) (ds.drop n) := by
  induction n generalizing vs ds with
  | zero => exact r
  | succ n ih => cases r with
    | nil => exact .nil
    | cons a b => exact ih b
theorem Reps.take {vs : List V} {ds : List D} (r : Reps K L vs ds) (n : Nat) : Reps K L (vs.take n) (ds.take n) := by
  induction n generalizing vs ds with
  | zero => exact .nil
  | succ n ih => cases r with
    | nil => exact .nil
    | cons a b => exact .cons a (ih b)
end

def RepOb (K : PySem.W.Frag) (L : Lay) (H : Hp) (a : Addr) (as : List Addr) : Ob → Prop
  | .lst xs => as = [] ∧ ∃ vs, H a = some (.lst vs) ∧ Reps K L vs xs
  | .dct _ => False
  | .ins _ _ => False
structure HRel (K : PySem.W.Frag) (L : Lay) (H : Hp) (h : Hs) : Prop where
  sub : ∀ p o, L.F p = some o → H p = some o
  nm : ∀ p, L.M p → L.F p = none
  mt : ∀ p, L.M p → H p ≠ none
  nd : (L.ob.flatMap fun (q : Addr × List Addr) => q.1 :: q.2).Nodup
  len : L.ob.length = h.length
  ob : ∀ (n : Nat) (q : Addr × List Addr) (o : Ob), L.ob[n]? = some q → h[n]? = some o → RepOb K L H q.1 q.2 o
def RepSl (K : PySem.W.Frag) (L : Lay) (H : Hp) (x : Option V) : Sl → Prop
  | .no => True
  | .val d => ∃ v, x = some v ∧ Rep K L v d
  | .own xs => ∃ p vs, x = some (.ref p) ∧ H p = some (.lst vs) ∧ L.F p = none ∧ ¬ L.M p ∧ Reps K L vs xs
  | .lent xs => ∃ p vs, x = some (.ref p) ∧ H p = some (.lst vs) ∧ L.F p = none ∧ ¬ L.M p ∧ Reps K L vs xs
  | .ownd kvs => ∃ p ks vs, x = some (.ref p) ∧ (∃ o, H p = some o ∧ Mut (some o)) ∧ DG H p ks vs ∧ L.F p = none ∧ ¬ L.M p ∧ ∃ ds, Reps K L vs ds ∧ kvs = ks.zip ds
def Sl.owned : Sl → Bool
  | .own _ => true
  | .ownd _ => true
  | .lent _ => true
  | _ => false
def Sl.free : Sl → Bool
  | .own _ => true
  | .ownd _ => true
  | _ => false
def Own (σV : Sv) (σ : Sg) (p : Addr) : Prop := ∃ (i : Nat) (s : Sl), σ[i]? = some s ∧ s.free = true ∧ σV[i]? = some (some (.ref p))
structure SRel (K : PySem.W.Frag) (L : Lay) (H : Hp) (σV : Sv) (σ : Sg) : Prop where
  len : σV.length = σ.length
  sl : ∀ (i : Nat) (s : Sl), σ[i]? = some s → ∃ x, σV[i]? = some x ∧ RepSl K L H x s
  ap : ∀ (i j : Nat) (s t : Sl) (p : Addr), σ[i]? = some s → σ[j]? = some t → s.owned = true → t.owned = true → σV[i]? = some (some (.ref p)) → σV[j]? = some (some (.ref p)) → i = j
section
variable {O O' : Addr → Prop} {L L' L1 L2 : Lay} {H H' H1 H2 : Hp} {K : PySem.W.Frag} {h h' : Hs} {σV : Sv} {σ : Sg}
theorem RepSl.le {x : Option V} {s : Sl} (l : Le O L H L' H') (r : RepSl K L H x s) (hO : ∀ p, s.owned = true → x = some (.ref p) → ¬ O p) : RepSl K L' H' x s := by
  cases s with
  | no => trivial
  | val d =>
    obtain ⟨v, e, r⟩ := r
    exact ⟨v, e, r.le l⟩
  | own xs =>
    obtain ⟨p, vs, rfl, e, f, m, r⟩ := r
    have no := hO p rfl rfl
    refine ⟨p, vs, rfl, l.fr p _ e m no, ?_, fun z => ?_, r.le l⟩
    · refine Classical.byContradiction fun z => ?_
      rcases l.Fn p z with q | q | q
      · exact q f
      · rw [e] at q; cases q
      · exact no q
    · rcases l.M p z with q | q | q
      · exact m q
      · rw [e] at q; cases q
      · exact no q
  | lent xs =>
    obtain ⟨p, vs, rfl, e, f, m, r⟩ := r
    have no := hO p rfl rfl
    refine ⟨p, vs, rfl, l.fr p _ e m no, ?_, fun z => ?_, r.le l⟩
    · refine Classical.byContradiction fun z => ?_
      rcases l.Fn p z with q | q | q
      · exact q f
      · rw [e] at q; cases q
      · exact no q
    · rcases l.M p z with q | q | q
      · exact m q
      · rw [e] at q; cases q
      · exact no q
  | ownd kvs =>
    obtain ⟨p, ks, vs, rfl, ⟨o, e, mu⟩, dg, f, m, ds, r, ek⟩ := r
    have no := hO p rfl rfl
    have e' := l.fr p _ e m no
    refine ⟨p, ks, vs, rfl, ⟨o, e', mu⟩, ?_, ?_, fun z => ?_, ds, r.le l, ek⟩
    · rcases dg with ⟨kv, r, q⟩ | ⟨kv, r, q⟩
      · refine .inl ⟨kv, ?_, q⟩
        rcases r with r | ⟨o', r⟩
        · rw [e] at r; cases r; exact .inl e'
        · rw [e] at r; cases r; exact .inr ⟨o', e'⟩
      · refine .inr ⟨kv, ?_, q⟩
        rw [e] at r; cases r; exact e'
    · refine Classical.byContradiction fun z => ?_
      rcases l.Fn p z with q | q | q
      · exact q f
      · rw [e] at q; cases q
      · exact no q
    · rcases l.M p z with q | q | q
      · exact m q
      · rw [e] at q; cases q
      · exact no q
theorem SRel.le (s : SRel K L H σV σ) (l : Le0 L H L' H') : SRel K L' H' σV σ :=
  ⟨s.len, fun i t e => let ⟨x, ex, r⟩ := s.sl i t e; ⟨x, ex, r.le l fun _ _ _ z => z⟩, s.ap⟩
def Lay.put (L : Lay) (p : Addr) (o : HO) : Lay := { L with F := upd L.F p o }
theorem Lay.put_M {p q : Addr} {o : HO} : (L.put p o).M q ↔ L.M q := Iff.rfl
theorem le_put {p : Addr} {o : HO} (s : HRel K L H h) (hp : H p = none) : Le0 L H (L.put p o) (upd H p o) := by
  have hF : L.F p = none := by
    cases e : L.F p with
    | none => rfl
    | some u => rw [s.sub p u e] at hp; cases hp
  refine ⟨fun q u e => ?_, fun q e => ?_, fun _ _ e => e, fun q e => .inl e, fun q u e _ _ => ?_, fun q e => ?_⟩
  · show upd L.F p o q = some u
    rw [upd_ne (ne_of_none e hF)]; exact e
  · by_cases z : q = p
    · subst z; exact .inr (.inl hp)
    · refine .inl ?_
      have e' : upd L.F p o q ≠ none := e
      rw [upd_ne z] at e'; exact e'
  · rw [upd_ne (ne_of_none e hp)]; exact e
  · by_cases z : q = p
    · subst z; rw [upd_same]; intro w; cases w
    · rw [upd_ne z]; exact e
theorem RepOb.le {a : Addr} {as : List Addr} {o : Ob} (r : RepOb K L H a as o) (hF : ∀ p o, L.F p = some o → L'.F p = some o) (ho : ∀ n a, L.at n = some a → L'.at n = some a)
    (hH : ∀ p u, (p = a ∨ p ∈ as) → H p = some u → H' p = some u) : RepOb K L' H' a as o := by
  cases o with
  | lst xs =>
    obtain ⟨e, vs, e2, r⟩ := r
    exact ⟨e, vs, hH _ _ (.inl rfl) e2, r.mono hF ho⟩
  | dct _ => exact r
  | ins _ _ => exact r
theorem HRel.put {p : Addr} {o : HO} (s : HRel K L H h) (hp : H p = none) : HRel K (L.put p o) (upd H p o) h := by
  have l := le_put (o := o) s hp
  refine ⟨fun q u e => ?_, fun q m => ?_, fun q m => l.th q (s.mt q m), s.nd, s.len, fun n q ob e1 e2 => ?_⟩
  · have e' : upd L.F p o q = some u := e
    by_cases z : q = p
    · subst z; rw [upd_same] at e' ⊢; exact e'
    · rw [upd_ne z] at e' ⊢; exact s.sub q u e'
  · show upd L.F p o q = none
    have m' : L.M q := m
    have z : q ≠ p := fun z => by subst z; exact s.mt q m' hp
    rw [upd_ne z]; exact s.nm q m'
  · refine (s.ob n q ob e1 e2).le l.F l.ob fun b u _ e => ?_
    rw [upd_ne (ne_of_none e hp)]; exact e
theorem put_sqL {p : Addr} {vs : List V} : SqL K (L.put p (.lst vs)).F p vs := .inl (.inl upd_same)
theorem put_sqT {p : Addr} {vs : List V} : SqT K (L.put p (.tup vs)).F p vs := .inl (.inl upd_same)
theorem HRel.sqL {a : Addr} {vs : List V} (s : HRel K L H h) (r : SqL K L.F a vs) : SqL K H a vs := sqL_mono s.sub r
theorem HRel.sqT {a : Addr} {vs : List V} (s : HRel K L H h) (r : SqT K L.F a vs) : SqT K H a vs := sqT_mono s.sub r
end
end WC
set_option Elab.async false
set_option linter.all false
set_option maxRecDepth 100000
namespace WC
open PySem PySem.Spec PyProof.Rows L2

theorem weakE {X : Cx} {e : Expr} {t t' : TE} (h : PE X e t) (w : ∀ σ H Q, t' σ H Q → t σ H Q) : PE X e t' := ⟨fun pins s σ H Q I q => h.run pins s σ H Q I (w _ _ _ q)⟩
theorem weakT {X : Cx} {e : Expr} {t t' : TT} (h : PT X e t) (w : ∀ σ H Q, t' σ H Q → t σ H Q) : PT X e t' := ⟨fun pins s σ H Q I q => h.run pins s σ H Q I (w _ _ _ q)⟩
theorem weakW {X : Cx} {e : Expr} {t t' : TT} (h : PW X e t) (w : ∀ σ H Q, t' σ H Q → t σ H Q) : PW X e t' := ⟨fun wh pins s σ H Q I q => h.run wh pins s σ H Q I (w _ _ _ q)⟩
theorem weakA {X : Cx} {e : List Expr} {t t' : TA} (h : PA X e t) (w : ∀ σ H Q, t' σ H Q → t σ H Q) : PA X e t' := ⟨fun p pins s σ H Q I q => h.run p pins s σ H Q I (w _ _ _ q)⟩
theorem weakK {X : Cx} {e : List Keyword} {t t' : TA} (h : PK X e t) (w : ∀ σ H Q, t' σ H Q → t σ H Q) : PK X e t' := ⟨fun p pins s σ H Q I q => h.run p pins s σ H Q I (w _ _ _ q)⟩
theorem weakO {X : Cx} {e : Option Expr} {t t' : TO} (h : PO X e t) (w : ∀ σ H Q, t' σ H Q → t σ H Q) : PO X e t' := ⟨fun pins s σ H Q I q => h.run pins s σ H Q I (w _ _ _ q)⟩
theorem weakS {X : Cx} {e : Stmt} {t t' : TS} (h : PS X e t) (w : ∀ D σ H, t' D σ H → t D σ H) : PS X e t' := ⟨fun pins s σ H D I q => h.run pins s σ H D I (w _ _ _ q)⟩
theorem weakB {X : Cx} {e : List Stmt} {t t' : TS} (h : PSs X e t) (w : ∀ D σ H, t' D σ H → t D σ H) : PSs X e t' := ⟨fun pins s σ H D I q => h.run pins s σ H D I (w _ _ _ q)⟩

def RepO (K : PySem.W.Frag) (L : Lay) (H : Hp) (v : V) (d : D) : Prop :=
  Rep K L v d ∨ (∃ xs, d = .lst xs ∧ RepSl K L H (some v) (.own xs)) ∨ (∃ kvs, d = .dct kvs ∧ RepSl K L H (some v) (.ownd kvs))
def RepOs (K : PySem.W.Frag) (L : Lay) (H : Hp) : List V → List D → Prop := Paired (RepO K L H)
section
variable {K : PySem.W.Frag} {L L' : Lay} {H H' : Hp} {h : Hs} {v : V} {d : D} {σV : Sv} {σ : Sg}
theorem RepO.le (r : RepO K L H v d) (l : Le0 L H L' H') : RepO K L' H' v d := by
  rcases r with r | ⟨xs, e, r⟩ | ⟨xs, e, r⟩
  · exact .inl (r.le l)
  · exact .inr (.inl ⟨xs, e, r.le l fun _ _ _ z => z⟩)
  · exact .inr (.inr ⟨xs, e, r.le l fun _ _ _ z => z⟩)
theorem RepOs.le {vs : List V} {ds : List D} (r : RepOs K L H vs ds) (l : Le0 L H L' H') : RepOs K L' H' vs ds := Paired.mapP r fun _ _ q => q.le l
theorem Reps.os {vs : List V} {ds : List D} (r : Reps K L vs ds) : RepOs K L H vs ds := by
  induction ds generalizing vs with
  | nil => cases r; exact .nil
  | cons d ds ih => cases r with | cons a b => exact .cons (.inl a) (ih b)
theorem RepOs.length {vs : List V} {ds : List D} (r : RepOs K L H vs ds) : vs.length = ds.length := Paired.length r

def asL (h : Hs) : D → Option (List D)
  | .lst xs => some xs
  | .ref n => match h[n]? with
    | some (.lst xs) => some xs
    | _ => none
  | _ => none
theorem asL_ok {xs : List D} (s : HRel K L H h) (r : RepO K L H v d) (e : asL h d = some xs) : ∃ p vs, v = .ref p ∧ H p = some (.lst vs) ∧ Reps K L vs xs := by
  cases d with
  | lst ys =>
    cases e
    rcases r with r | ⟨zs, e, r⟩ | ⟨zs, e, r⟩
    · cases r with | lst q r => exact ⟨_, _, rfl, s.sub _ _ q, r⟩
    · cases e
      obtain ⟨p, vs, e1, e2, _, _, r⟩ := r
      cases e1
      exact ⟨p, vs, rfl, e2, r⟩
    · cases e
  | ref n =>
    rcases r with r | ⟨zs, e', r⟩ | ⟨zs, e', r⟩
    · cases r with
      | ref q =>
        unfold asL at e
        obtain ⟨q', e1, e2⟩ := Option.map_eq_some_iff.mp q
        cases e3 : h[n]? with
        | none => simp [e3] at e
        | some o =>
          cases o with
          | lst ys =>
            simp [e3] at e
            subst e
            obtain ⟨_, vs, e4, r⟩ := s.ob n q' _ e1 e3
            subst e2
            exact ⟨_, vs, rfl, e4, r⟩
          | dct _ => simp [e3] at e
          | ins _ _ => simp [e3] at e
    · cases e'
    · cases e'
  | _ => simp [asL] at e
theorem RepO.tup {xs : List D} (s : HRel K L H h) (r : RepO K L H v (.tup xs)) : ∃ p vs, v = .ref p ∧ SqT K L.F p vs ∧ SqT K H p vs ∧ Reps K L vs xs := by
  rcases r with r | ⟨_, e, _⟩ | ⟨_, e, _⟩
  · cases r with | tup q r => exact ⟨_, _, rfl, q, s.sqT q, r⟩
  · cases e
  · cases e
theorem RepO.int {i : Int} (r : RepO K L H v (.int i)) : v = .int i := by
  rcases r with r | ⟨_, e, _⟩ | ⟨_, e, _⟩
  · cases r; rfl
  · cases e
  · cases e
theorem RepO.bl {b : Bool} (r : RepO K L H v (.bl b)) : v = .bl b := by
  rcases r with r | ⟨_, e, _⟩ | ⟨_, e, _⟩
  · cases r; rfl
  · cases e
  · cases e
theorem RepO.non (r : RepO K L H v .non) : v = .non := by
  rcases r with r | ⟨_, e, _⟩ | ⟨_, e, _⟩
  · cases r; rfl
  · cases e
  · cases e
theorem RepO.str {l : List Nat} (r : RepO K L H v (.str l)) : ∃ s : Str, v = .str s ∧ s.cps.toList = l ∧ s.length = l.length ∧ ∀ c ∈ l, c < 0x110000 := by
  rcases r with r | ⟨_, e, _⟩ | ⟨_, e, _⟩
  · cases r with | str s h => exact ⟨s, rfl, rfl, by simp [Str.length], h⟩
  · cases e
  · cases e
theorem Rep.str' {s : Str} {l : List Nat} (e : s.cps.toList = l) (h : ∀ c ∈ l, c < 0x110000) : Rep K L (.str s) (.str l) := by subst e; exact .str s h
end

def RdE (K : PySem.W.Frag) (m : EM) : TE := fun σV H Q => ∃ (L : Lay) (σ : Sg) (h : Hs) (d : D) (h' : Hs), HRel K L H h ∧ SRel K L H σV σ ∧ m σ h = .ok d h' ∧
  ∀ L' H' v, Le0 L H L' H' → HRel K L' H' h' → Rep K L' v d → Q v H'
def RdO (K : PySem.W.Frag) (m : EM) : TE := fun σV H Q => ∃ (L : Lay) (σ : Sg) (h : Hs) (d : D) (h' : Hs), HRel K L H h ∧ SRel K L H σV σ ∧ m σ h = .ok d h' ∧
  ∀ L' H' v, Le0 L H L' H' → HRel K L' H' h' → RepO K L' H' v d → Q v H'
def RdA (K : PySem.W.Frag) (m : AM) : TA := fun σV H Q => ∃ (L : Lay) (σ : Sg) (h : Hs) (d : List D) (h' : Hs), HRel K L H h ∧ SRel K L H σV σ ∧ m σ h = .ok d h' ∧
  ∀ L' H' v, Le0 L H L' H' → HRel K L' H' h' → Reps K L' v d → Q v H'
def RdAO (K : PySem.W.Frag) (m : AM) : TA := fun σV H Q => ∃ (L : Lay) (σ : Sg) (h : Hs) (d : List D) (h' : Hs), HRel K L H h ∧ SRel K L H σV σ ∧ m σ h = .ok d h' ∧
  ∀ L' H' v, Le0 L H L' H' → HRel K L' H' h' → RepOs K L' H' v d → Q v H'
abbrev TM := Sg → Hs → R Bool
def RdT (K : PySem.W.Frag) (m : TM) : TT := fun σV H Q => ∃ (L : Lay) (σ : Sg) (h : Hs) (d : Bool) (h' : Hs), HRel K L H h ∧ SRel K L H σV σ ∧ m σ h = .ok d h' ∧
  ∀ L' H', Le0 L H L' H' → HRel K L' H' h' → Q d H'
def SndE (X : Cx) (e : Expr) (m : EM) : Prop := PE X e (RdE X.K m)
def SndO (X : Cx) (e : Expr) (m : EM) : Prop := PE X e (RdO X.K m)
def SndA (X : Cx) (e : List Expr) (m : AM) : Prop := PA X e (RdA X.K m)
def SndAO (X : Cx) (e : List Expr) (m : AM) : Prop := PA X e (RdAO X.K m)
def SndT (X : Cx) (e : Expr) (m : TM) : Prop := PT X e (RdT X.K m)
def SndW (X : Cx) (e : Expr) (m : TM) : Prop := PW X e (RdT X.K m)

def eBad : EM := fun _ _ => .bad
def aBad : AM := fun _ _ => .bad
def tBad : TM := fun _ _ => .bad

section
variable {X : Cx} {e a b c : Expr} {es : List Expr} {pos : Pos}
theorem snd_bad : SndE X e eBad := ⟨fun _ _ _ _ _ _ ⟨_, _, _, _, _, _, _, e, _⟩ => by cases e⟩
theorem sndO_bad : SndO X e eBad := ⟨fun _ _ _ _ _ _ ⟨_, _, _, _, _, _, _, e, _⟩ => by cases e⟩
theorem sndA_bad : SndA X es aBad := ⟨fun _ _ _ _ _ _ _ ⟨_, _, _, _, _, _, _, e, _⟩ => by cases e⟩
theorem sndAO_bad : SndAO X es aBad := ⟨fun _ _ _ _ _ _ _ ⟨_, _, _, _, _, _, _, e, _⟩ => by cases e⟩
theorem sndT_bad : SndT X e tBad := ⟨fun _ _ _ _ _ _ ⟨_, _, _, _, _, _, _, e, _⟩ => by cases e⟩
theorem sndW_bad : SndW X e tBad := ⟨fun _ _ _ _ _ _ _ ⟨_, _, _, _, _, _, _, e, _⟩ => by cases e⟩
theorem SndE.o {m : EM} (h : SndE X e m) : SndO X e m := weakE h fun σ H Q ⟨L, σ', hs, d, h', hr, sr, em, k⟩ => ⟨L, σ', hs, d, h', hr, sr, em, fun L' H' v l r q => k L' H' v l r (.inl q)⟩

def eC (d : D) : EM := fun _ h => .ok d h
theorem rdC {d : D} {v : V} {H : Hp} {Q : VK} {σV : Sv} (hd : ∀ L, Rep X.K L v d) (q : RdE X.K (eC d) σV H Q) : Q v H := by
  obtain ⟨L, σ, h, d', h', hr, sr, em, k⟩ := q
  cases em
  exact k L H v Le.refl hr (hd L)
theorem snd_int {i : Int} {k : Nat} : SndE X (.Constant (.int i) k pos) (eC (.int i)) := weakE pe_int fun _ _ _ q => rdC (fun _ => .int i) q
theorem snd_bl {b : Bool} {k : Nat} : SndE X (.Constant (.bool b) k pos) (eC (.bl b)) := weakE pe_bl fun _ _ _ q => rdC (fun _ => .bl b) q
theorem snd_non {k : Nat} : SndE X (.Constant .none k pos) (eC .non) := weakE pe_non fun _ _ _ q => rdC (fun _ => .non) q
theorem snd_str {s : Str} {k : Nat} {l : List Nat} (e : s.cps.toList = l) (h : ∀ c ∈ l, c < 0x110000) : SndE X (.Constant (.str s) k pos) (eC (.str l)) := weakE pe_str fun _ _ _ q => rdC (fun _ => .str' e h) q
def eVar (i : Nat) : EM := fun σ h => match σ[i]? with
  | some (.val d) => .ok d h
  | _ => .bad
def oVar (i : Nat) : EM := fun σ h => match σ[i]? with
  | some (.val d) => .ok d h
  | some (.own xs) => .ok (.lst xs) h
  | some (.ownd kvs) => .ok (.dct kvs) h
  | some (.lent xs) => .ok (.lst xs) h
  | _ => .bad
theorem snd_var {i : Nat} {x : Str} (hN : X.N[i]? = some x) (hv : Vis X.env.scope x) (hd : (x == ("__debug__" : Str)) = false) (hcd : (x == ("__classdict__" : Str)) = false) : SndE X (.Name x pos) (eVar i) := by
  refine weakE (pe_var hN hv hd hcd) fun σV H Q ⟨L, σ, h, d, h', hr, sr, em, k⟩ => ?_
  unfold eVar at em
  cases e : σ[i]? with
  | none => simp [e] at em
  | some s =>
    cases s with
    | val d' =>
      simp [e] at em
      obtain ⟨rfl, rfl⟩ := em
      obtain ⟨x, ex, v, rfl, r⟩ := sr.sl i _ e
      exact ⟨v, ex, k L H v Le.refl hr r⟩
    | no => simp [e] at em
    | own _ => simp [e] at em
    | ownd _ => simp [e] at em
    | lent _ => simp [e] at em
theorem sndO_var {i : Nat} {x : Str} (hN : X.N[i]? = some x) (hv : Vis X.env.scope x) (hd : (x == ("__debug__" : Str)) = false) (hcd : (x == ("__classdict__" : Str)) = false) : SndO X (.Name x pos) (oVar i) := by
  refine weakE (pe_var hN hv hd hcd) fun σV H Q ⟨L, σ, h, d, h', hr, sr, em, k⟩ => ?_
  unfold oVar at em
  cases e : σ[i]? with
  | none => simp [e] at em
  | some s =>
    obtain ⟨x, ex, r⟩ := sr.sl i _ e
    cases s with
    | val d' =>
      simp [e] at em
      obtain ⟨rfl, rfl⟩ := em
      obtain ⟨v, rfl, r⟩ := r
      exact ⟨v, ex, k L H v Le.refl hr (.inl r)⟩
    | no => simp [e] at em
    | own xs =>
      simp [e] at em
      obtain ⟨rfl, rfl⟩ := em
      have r0 := r
      obtain ⟨p, vs, rfl, r⟩ := r
      exact ⟨_, ex, k L H _ Le.refl hr (.inr (.inl ⟨xs, rfl, r0⟩))⟩
    | ownd kvs =>
      simp [e] at em
      obtain ⟨rfl, rfl⟩ := em
      have r0 := r
      obtain ⟨p, vs, ks, rfl, r⟩ := r
      exact ⟨_, ex, k L H _ Le.refl hr (.inr (.inr ⟨kvs, rfl, r0⟩))⟩
    | lent xs =>
      simp [e] at em
      obtain ⟨rfl, rfl⟩ := em
      have r0 := r
      obtain ⟨p, vs, rfl, r⟩ := r
      exact ⟨_, ex, k L H _ Le.refl hr (.inr (.inl ⟨xs, rfl, r0⟩))⟩
theorem snd_glob {x : Str} {v : V} {u : Value} {d : D} (hg : Gl X x) (hm : X.mg x = some u) (r : RelV v u) (hd : (x == ("__debug__" : Str)) = false) (hr : ∀ L, Rep X.K L v d) : SndE X (.Name x pos) (eC d) :=
  weakE (pe_glob hg hm r hd) fun _ _ _ q => rdC hr q

def aNil : AM := fun _ h => .ok [] h
def aCons (m : EM) (ms : AM) : AM := fun σ h => (m σ h).bind fun x h1 => (ms σ h1).bind fun xs h2 => .ok (x :: xs) h2
theorem bind_some {α β : Type} {r : R α} {f : α → Hs → R β} {y : β} {h : Hs} (e : r.bind f = .ok y h) : ∃ x h1, r = .ok x h1 ∧ f x h1 = .ok y h := by
  cases r with
  | ok x h1 => exact ⟨x, h1, rfl, e⟩
  | bad => cases e
theorem sndA_nil : SndA X [] aNil := weakA pa_nil fun σV H Q ⟨L, σ, h, d, h', hr, sr, em, k⟩ => by cases em; exact k L H [] Le.refl hr .nil
theorem sndAO_nil : SndAO X [] aNil := weakA pa_nil fun σV H Q ⟨L, σ, h, d, h', hr, sr, em, k⟩ => by cases em; exact k L H [] Le.refl hr .nil
theorem sndA_cons {m : EM} {ms : AM} (he : SndE X e m) (hes : SndA X es ms) (hs : starEach (e :: es) X.env = (false, eval e X.env) :: starEach es X.env) : SndA X (e :: es) (aCons m ms) := by
  refine weakA (pa_cons he hes hs) fun σV H Q ⟨L, σ, h, d, h', hr, sr, em, k⟩ => ?_
  obtain ⟨x, h1, e1, em⟩ := bind_some em
  obtain ⟨xs, h2, e2, em⟩ := bind_some em
  cases em
  refine ⟨L, σ, h, x, h1, hr, sr, e1, fun L1 H1 v1 l1 r1 q1 => ⟨L1, σ, h1, xs, h', r1, sr.le l1, e2, fun L2 H2 vs l2 r2 q2 => ?_⟩⟩
  exact k L2 H2 (v1 :: vs) (l1.trans0 l2) r2 (.cons (q1.le l2) q2)
theorem sndAO_cons {m : EM} {ms : AM} (he : SndO X e m) (hes : SndAO X es ms) (hs : starEach (e :: es) X.env = (false, eval e X.env) :: starEach es X.env) : SndAO X (e :: es) (aCons m ms) := by
  refine weakA (pa_cons he hes hs) fun σV H Q ⟨L, σ, h, d, h', hr, sr, em, k⟩ => ?_
  obtain ⟨x, h1, e1, em⟩ := bind_some em
  obtain ⟨xs, h2, e2, em⟩ := bind_some em
  cases em
  refine ⟨L, σ, h, x, h1, hr, sr, e1, fun L1 H1 v1 l1 r1 q1 => ⟨L1, σ, h1, xs, h', r1, sr.le l1, e2, fun L2 H2 vs l2 r2 q2 => ?_⟩⟩
  exact k L2 H2 (v1 :: vs) (l1.trans0 l2) r2 (.cons (q1.le l2) q2)
def eTup (ms : AM) : EM := fun σ h => (ms σ h).bind fun xs h1 => if xs.length ≤ sizeLine then .ok (.tup xs) h1 else .bad
def eLst (ms : AM) : EM := fun σ h => (ms σ h).bind fun xs h1 => if xs.length ≤ sizeLine then .ok (.lst xs) h1 else .bad
theorem ite_ok {α : Type} {p : Prop} [Decidable p] {x y : α} {h h' : Hs} (e : (if p then R.ok x h else .bad) = .ok y h') : p ∧ x = y ∧ h = h' := by
  by_cases hp : p
  · rw [if_pos hp] at e; cases e; exact ⟨hp, rfl, rfl⟩
  · rw [if_neg hp] at e; cases e
theorem snd_tup {ms : AM} {k : Nat} (h : SndA X es ms) : SndE X (.Tuple es k pos) (eTup ms) := by
  refine weakE (pe_tup h) fun σV H Q ⟨L, σ, h, d, h', hr, sr, em, k⟩ => ?_
  obtain ⟨xs, h1, e1, em⟩ := bind_some em
  obtain ⟨hz, e, e'⟩ := ite_ok em
  subst e; subst e'
  refine ⟨L, σ, h, xs, h1, hr, sr, e1, fun L1 H1 vs l1 r1 q1 => ⟨by rw [q1.length]; exact hz, fun p hp => ?_⟩⟩
  exact k _ _ _ (l1.trans0 (le_put r1 hp)) (r1.put hp) (.tup put_sqT (q1.le (le_put r1 hp)))
theorem snd_lst {ms : AM} (h : SndA X es ms) : SndE X (.List es pos) (eLst ms) := by
  refine weakE (pe_lst h) fun σV H Q ⟨L, σ, h, d, h', hr, sr, em, k⟩ => ?_
  obtain ⟨xs, h1, e1, em⟩ := bind_some em
  obtain ⟨hz, e, e'⟩ := ite_ok em
  subst e; subst e'
  refine ⟨L, σ, h, xs, h1, hr, sr, e1, fun L1 H1 vs l1 r1 q1 => ⟨by rw [q1.length]; exact hz, fun p hp => ?_⟩⟩
  exact k _ _ _ (l1.trans0 (le_put r1 hp)) (r1.put hp) (.lst upd_same (q1.le (le_put r1 hp)))

abbrev G2 := Hs → D → D → Option D
def OpS (X : Cx) (f : Value → Value → Sem Value) (g : G2) : Prop :=
  ∃ r : R2, OpR X f r ∧ ∀ (L : Lay) (H : Hp) (h : Hs) (x y : D) (v u : V) (d : D) (Q : VK), HRel X.K L H h → RepO X.K L H v x → RepO X.K L H u y → g h x y = some d →
    (∀ L' H' w, Le0 L H L' H' → HRel X.K L' H' h → Rep X.K L' w d → Q w H') → r v u H Q
def optR {α : Type} (o : Option α) (h : Hs) : R α := match o with
  | some d => .ok d h
  | none => .bad
theorem optR_ok {α : Type} {o : Option α} {h h' : Hs} {d : α} (e : optR o h = .ok d h') : o = some d ∧ h = h' := by
  cases o with
  | none => cases e
  | some x => cases e; exact ⟨rfl, rfl⟩
def eOp (g : G2) (ma mb : EM) : EM := fun σ h => (ma σ h).bind fun x h1 => (mb σ h1).bind fun y h2 => optR (g h2 x y) h2
theorem OpS.rd {f : Value → Value → Sem Value} {g : G2} {ma mb : EM} (ho : OpS X f g) : ∃ r : R2, OpR X f r ∧ ∀ σV H Q, RdE X.K (eOp g ma mb) σV H Q → tOp r (RdO X.K ma) (RdO X.K mb) σV H Q := by
  obtain ⟨r, hr, hs⟩ := ho
  refine ⟨r, hr, fun σV H Q ⟨L, σ, h, d, h', hr, sr, em, k⟩ => ?_⟩
  obtain ⟨x, h1, e1, em⟩ := bind_some em
  obtain ⟨y, h2, e2, em⟩ := bind_some em
  obtain ⟨em2, eh⟩ := optR_ok em
  subst eh
  refine ⟨L, σ, h, x, h1, hr, sr, e1, fun L1 H1 v1 l1 r1 q1 => ⟨L1, σ, h1, y, h2, r1, sr.le l1, e2, fun L2 H2 v2 l2 r2 q2 => ?_⟩⟩
  exact hs L2 H2 h2 x y v1 v2 d Q r2 (q1.le l2) q2 em2 fun L3 H3 w l3 r3 q3 => k L3 H3 w ((l1.trans0 l2).trans0 l3) r3 q3
theorem snd_op {op : Operator} {g : G2} {ma mb : EM} (ho : OpS X (binaryOp op) g) (ha : SndO X a ma) (hb : SndO X b mb) : SndE X (.BinOp a op b pos) (eOp g ma mb) := by
  obtain ⟨r, hr, w⟩ := ho.rd (ma := ma) (mb := mb)
  exact weakE (pe_op hr ha hb) w
theorem OpS.or {f : Value → Value → Sem Value} {g g' : G2} (h : OpS X f g) (h' : OpS X f g') : OpS X f (fun s x y => (g s x y).or (g' s x y)) := by
  obtain ⟨r, hr, w⟩ := h
  obtain ⟨r', hr', w'⟩ := h'
  refine ⟨_, hr.or hr', fun L H h x y v u d Q s p q e k => ?_⟩
  have e : (g h x y).or (g' h x y) = some d := e
  cases e1 : g h x y with
  | some z => rw [e1] at e; cases e; exact .inl (w L H h x y v u _ Q s p q e1 k)
  | none => rw [e1] at e; exact .inr (w' L H h x y v u _ Q s p q e k)
def gI (c : Int → Int → Bool) (f : Int → Int → D) : G2 := fun _ x y => match x, y with
  | .int i, .int j => if c i j then some (f i j) else none
  | _, _ => none
theorem gI_some {c : Int → Int → Bool} {f : Int → Int → D} {h : Hs} {x y d : D} (e : gI c f h x y = some d) : ∃ i j, x = .int i ∧ y = .int j ∧ c i j = true ∧ d = f i j := by
  unfold gI at e
  split at e
  · split at e
    · cases e; exact ⟨_, _, rfl, rfl, by assumption, rfl⟩
    · cases e
  · cases e
theorem opsI {f : Value → Value → Sem Value} {C : Int → Int → Prop} {g : Int → Int → V} {c : Int → Int → Bool} {g' : Int → Int → D} (ho : OpR X f (rI C g)) (hc : ∀ i j, c i j = true → C i j) (hg : ∀ i j L, c i j = true → Rep X.K L (g i j) (g' i j)) : OpS X f (gI c g') := by
  refine ⟨_, ho, fun L H h x y v u d Q s p q e k => ?_⟩
  obtain ⟨i, j, rfl, rfl, cc, rfl⟩ := gI_some e
  exact ⟨i, j, p.int, q.int, hc i j cc, k L H _ Le.refl s (hg i j L cc)⟩
theorem rI_of0 {f : Value → Value → Sem Value} {g : Int → Int → V} (h : OpR X f (rI0 g)) : OpR X f (rI (fun _ _ => True) g) := by
  intro pins s σ H x y v u Q I rx ry q
  obtain ⟨i, j, e1, e2, _, q⟩ := q
  exact h pins s σ H x y v u Q I rx ry ⟨i, j, e1, e2, q⟩
def cT : Int → Int → Bool := fun _ _ => true
def gAddI : G2 := gI cT fun i j => .int (i + j)
def gSub : G2 := gI cT fun i j => .int (i - j)
def cMul (i j : Int) : Bool := decide (i.natAbs < 2 ^ 64) || decide (j.natAbs < 2 ^ 64) || (decide (i.natAbs < 2 ^ 100000) && decide (j.natAbs < 2 ^ 100000))
def gMulI : G2 := gI cMul fun i j => .int (i * j)
def gFdiv : G2 := gI (fun _ j => decide (0 < j) && decide (j.natAbs.log2 < 9000)) fun i j => .int (i / j)
def gMod : G2 := gI (fun _ j => decide (0 < j)) fun i j => .int (i % j)
def cPow (i j : Int) : Bool := decide (0 ≤ j) && decide (j ≤ 1000000) && decide (i.natAbs < 2 ^ 64)
def gPow : G2 := gI cPow fun i j => .int (i ^ j.toNat)
def gShl : G2 := gI cPow fun i j => .int (i * 2 ^ j.toNat)
def gShr : G2 := gI (fun _ j => decide (0 ≤ j)) fun i j => .int (i / 2 ^ j.toNat)
def gAnd : G2 := gI cT fun i j => .int (Builtin.bitAnd i j)
def gOr : G2 := gI cT fun i j => .int (Builtin.bitOr i j)
def gXor : G2 := gI cT fun i j => .int (Builtin.bitXor i j)
theorem ops_addI : OpS X (binaryOp .Add) gAddI := opsI (rI_of0 op_add) (fun _ _ _ => trivial) fun _ _ _ _ => .int _
theorem ops_sub : OpS X (binaryOp .Sub) gSub := opsI (rI_of0 op_sub) (fun _ _ _ => trivial) fun _ _ _ _ => .int _
theorem ops_fdiv : OpS X (binaryOp .FloorDiv) gFdiv := opsI op_fdivW (fun i j c => by
  rw [Bool.and_eq_true, decide_eq_true_eq, decide_eq_true_eq] at c; exact ⟨c.1, c.2⟩) fun _ _ _ _ => .int _
theorem ops_mod : OpS X (binaryOp .Mod) gMod := opsI op_mod (fun i j c => of_decide_eq_true c) fun _ _ _ _ => .int _
theorem cPow_ok {i j : Int} (c : cPow i j = true) : CPow i j := by
  unfold cPow at c
  rw [Bool.and_eq_true, Bool.and_eq_true, decide_eq_true_eq, decide_eq_true_eq, decide_eq_true_eq] at c
  exact ⟨c.1.1, c.1.2, c.2⟩
theorem ops_pow : OpS X (binaryOp .Pow) gPow := opsI op_pow (fun _ _ c => cPow_ok c) fun _ _ _ _ => .int _
theorem ops_shl : OpS X (binaryOp .LShift) gShl := opsI op_shl (fun _ _ c => cPow_ok c) fun _ _ _ _ => .int _
theorem ops_shr : OpS X (binaryOp .RShift) gShr := opsI op_shr (fun i j c => of_decide_eq_true c) fun _ _ _ _ => .int _
theorem ops_and : OpS X (binaryOp .BitAnd) gAnd := opsI (rI_of0 op_and) (fun _ _ _ => trivial) fun _ _ _ _ => .int _
theorem ops_or : OpS X (binaryOp .BitOr) gOr := opsI (rI_of0 op_or) (fun _ _ _ => trivial) fun _ _ _ _ => .int _
theorem ops_xor : OpS X (binaryOp .BitXor) gXor := opsI (rI_of0 op_xor) (fun _ _ _ => trivial) fun _ _ _ _ => .int _
theorem ops_mulI : OpS X (binaryOp .Mult) gMulI := by
  refine ⟨_, op_mul.or op_mulW, fun L H h x y v u d Q s p q e k => ?_⟩
  obtain ⟨i, j, rfl, rfl, c, rfl⟩ := gI_some e
  unfold cMul at c
  simp only [Bool.or_eq_true, Bool.and_eq_true, decide_eq_true_eq] at c
  have fin : Q (.int (i * j)) H := k L H _ Le.refl s (.int _)
  rcases c with (c | c) | c
  · exact .inl ⟨i, j, p.int, q.int, .inl ⟨by omega, by omega⟩, fin⟩
  · exact .inl ⟨i, j, p.int, q.int, .inr ⟨by omega, by omega⟩, fin⟩
  · exact .inr ⟨i, j, p.int, q.int, wide_mul (a := 100000) (b := 100000) c.1 c.2 (by decide) (by decide) (by decide), fin⟩
def gCat : G2 := fun h x y => match x, y with
  | .str a, .str b => if a.length + b.length ≤ sizeLine then some (.str (a ++ b)) else none
  | .tup a, .tup b => if a.length + b.length ≤ sizeLine then some (.tup (a ++ b)) else none
  | x, y => match asL h x, asL h y with
    | some a, some b => if a.length + b.length ≤ sizeLine then some (.lst (a ++ b)) else none
    | _, _ => none
theorem ops_cat : OpS X (binaryOp .Add) gCat := by
  refine ⟨_, op_add_str.or (op_catA.or op_cat), fun L H h x y v u d Q s p q e k => ?_⟩
  unfold gCat at e
  split at e
  · rename_i a b
    split at e
    · cases e
      obtain ⟨s1, rfl, e1, n1, o1⟩ := p.str
      obtain ⟨s2, rfl, e2, n2, o2⟩ := q.str
      refine .inl ⟨s1, s2, rfl, rfl, by rw [n1, n2]; assumption, k L H _ Le.refl s (.str' ?_ ?_)⟩
      · show (s1.cps ++ s2.cps).toList = a ++ b
        rw [Array.toList_append, e1, e2]
      · intro c hc
        rcases List.mem_append.mp hc with hc | hc
        · exact o1 c hc
        · exact o2 c hc
    · cases e
  · rename_i a b
    split at e
    · cases e
      obtain ⟨p1, v1, rfl, f1, t1, r1⟩ := p.tup s
      obtain ⟨p2, v2, rfl, f2, t2, r2⟩ := q.tup s
      refine .inr (.inl ⟨p1, p2, v1, v2, rfl, rfl, t1, t2, by rw [r1.length, r2.length]; assumption, fun z => ?_, fun _ z => ?_, fun _ _ pp hp => ?_⟩)
      · subst z
        cases r1
        exact k L H _ Le.refl s (.tup f2 r2)
      · subst z
        cases r2
        exact k L H _ Le.refl s (by rw [List.append_nil]; exact .tup f1 r1)
      · exact k _ _ _ (le_put s hp) (s.put hp) (.tup put_sqT ((r1.append r2).le (le_put s hp)))
    · cases e
  · split at e
    · rename_i a b ea eb
      split at e
      · cases e
        obtain ⟨p1, v1, rfl, t1, r1⟩ := asL_ok s p ea
        obtain ⟨p2, v2, rfl, t2, r2⟩ := asL_ok s q eb
        refine .inr (.inr ⟨p1, p2, v1, v2, rfl, rfl, t1, t2, by rw [r1.length, r2.length]; assumption, fun pp hp => ?_⟩)
        exact k _ _ _ (le_put s hp) (s.put hp) (.lst upd_same ((r1.append r2).le (le_put s hp)))
      · cases e
    · cases e
def gAdd : G2 := fun s x y => (gAddI s x y).or (gCat s x y)
theorem ops_add : OpS X (binaryOp .Add) gAdd := ops_addI.or ops_cat
def gRep : G2 := fun h x y => match asL h x, y with
  | some xs, .int k => if k < 2 ^ 63 ∧ -(2 ^ 63) ≤ k ∧ xs.length * k.toNat ≤ sizeLine then some (.lst (List.replicate k.toNat xs).flatten) else none
  | _, _ => none
theorem Reps.rep {K : PySem.W.Frag} {L : Lay} {vs : List V} {ds : List D} (r : Reps K L vs ds) : ∀ n : Nat, Reps K L (List.replicate n vs).flatten (List.replicate n ds).flatten
  | 0 => .nil
  | n + 1 => by
    rw [List.replicate_succ, List.replicate_succ, List.flatten_cons, List.flatten_cons]
    exact r.append (Reps.rep r n)
theorem ops_rep : OpS X (binaryOp .Mult) gRep := by
  refine ⟨_, op_rep, fun L H h x y v u d Q s p q e k => ?_⟩
  unfold gRep at e
  split at e
  · rename_i xs kk ex
    split at e
    · rename_i hk
      cases e
      obtain ⟨p1, v1, rfl, t1, r1⟩ := asL_ok s p ex
      exact ⟨p1, kk, v1, rfl, q.int, t1, hk.2.1, hk.1, by rw [r1.length]; exact hk.2.2, fun pp hp => k _ _ _ (le_put s hp) (s.put hp) (.lst upd_same ((r1.rep _).le (le_put s hp)))⟩
    · cases e
  · cases e
def gMul : G2 := fun s x y => (gMulI s x y).or (gRep s x y)
theorem ops_mul : OpS X (binaryOp .Mult) gMul := ops_mulI.or ops_rep
end
end WC
set_option Elab.async false
set_option linter.all false
set_option maxRecDepth 100000
namespace WC
open PySem PySem.Spec PyProof.Rows L2

mutual
def pyEq : D → D → Bool
  | .non, .non => true
  | .bl a, .bl b => a == b
  | .bl a, .int j => (if a then 1 else 0) == j
  | .int i, .bl b => i == (if b then 1 else 0)
  | .int i, .int j => i == j
  | .str x, .str y => x == y
  | .lst xs, .lst ys => pyEqs xs ys
  | .tup xs, .tup ys => pyEqs xs ys
  | _, _ => false
def pyEqs : List D → List D → Bool
  | [], [] => true
  | x :: xs, y :: ys => pyEq x y && pyEqs xs ys
  | _, _ => false
end
mutual
def depD : D → Option Nat
  | .non => some 0
  | .bl _ => some 0
  | .int _ => some 0
  | .str _ => some 0
  | .lst xs => (depDs xs).map (· + 1)
  | .tup xs => (depDs xs).map (· + 1)
  | _ => none
def depDs : List D → Option Nat
  | [] => some 0
  | x :: xs => match depD x, depDs xs with
    | some a, some b => some (max a b)
    | _, _ => none
end
def eqOk (d : D) : Bool := match depD d with
  | some n => decide (n ≤ 60)
  | none => false
mutual
def toP : D → PyData
  | .non => .none
  | .bl b => .bool b
  | .int i => .int i
  | .str l => .str ⟨l.toArray⟩
  | .lst xs => .list (toPs xs)
  | .tup xs => .tuple (toPs xs)
  | _ => .none
def toPs : List D → List PyData
  | [] => []
  | x :: xs => toP x :: toPs xs
end
mutual
theorem eqv_toP : ∀ (x y : D) (m n : Nat), depD x = some m → depD y = some n → PyData.eqv (toP x) (toP y) = pyEq x y
  | .non, y, _, _, _, h => by cases y <;> simp_all [depD, toP, pyEq, PyData.eqv]
  | .bl _, y, _, _, _, h => by cases y <;> simp_all [depD, toP, pyEq, PyData.eqv]
  | .int _, y, _, _, _, h => by cases y <;> simp_all [depD, toP, pyEq, PyData.eqv]
  | .str a, y, _, _, _, h => by
    cases y with
    | str b =>
      simp only [toP, pyEq, PyData.eqv]
      by_cases e : a = b
      · subst e; simp
      · have : ¬ (Str.mk a.toArray = Str.mk b.toArray) := fun z => e (by simpa using z)
        rw [beq_eq_false_iff_ne.mpr this, beq_eq_false_iff_ne.mpr e]
    | _ => simp_all [depD, toP, pyEq, PyData.eqv]
  | .lst xs, y, m, n, h1, h => by
    cases y with
    | lst ys =>
      simp only [depD, Option.map_eq_some_iff] at h1 h
      obtain ⟨a, h1, _⟩ := h1
      obtain ⟨b, h, _⟩ := h
      simp only [toP, pyEq, PyData.eqv]
      exact eqvs_toP xs ys a b h1 h
    | _ => simp_all [depD, toP, pyEq, PyData.eqv]
  | .tup xs, y, m, n, h1, h => by
    cases y with
    | tup ys =>
      simp only [depD, Option.map_eq_some_iff] at h1 h
      obtain ⟨a, h1, _⟩ := h1
      obtain ⟨b, h, _⟩ := h
      simp only [toP, pyEq, PyData.eqv]
      exact eqvs_toP xs ys a b h1 h
    | _ => simp_all [depD, toP, pyEq, PyData.eqv]
  | .dct _, _, _, _, h, _ => by simp [depD] at h
  | .ref _, _, _, _, h, _ => by simp [depD] at h
  | .scr _, _, _, _, h, _ => by simp [depD] at h
theorem eqvs_toP : ∀ (xs ys : List D) (m n : Nat), depDs xs = some m → depDs ys = some n → PyData.eqvAll (toPs xs) (toPs ys) = pyEqs xs ys
  | [], ys, _, _, _, h => by cases ys <;> simp [toPs, pyEqs, PyData.eqvAll]
  | x :: xs, [], _, _, _, h => by simp [toPs, pyEqs, PyData.eqvAll]
  | x :: xs, y :: ys, m, n, h1, h2 => by
    unfold depDs at h1 h2
    split at h1
    · rename_i a1 b1 e1 e2
      split at h2
      · rename_i a2 b2 e3 e4
        simp only [toPs, pyEqs, PyData.eqvAll, eqv_toP x y _ _ e1 e3, eqvs_toP xs ys _ _ e2 e4]
      · cases h2
    · cases h1
end
mutual
theorem depth_toP : ∀ (x : D) (m : Nat), depD x = some m → (toP x).depth = m
  | .non, m, h => by simp [depD] at h; simp [toP, PyData.depth, ← h]
  | .bl _, m, h => by simp [depD] at h; simp [toP, PyData.depth, ← h]
  | .int _, m, h => by simp [depD] at h; simp [toP, PyData.depth, ← h]
  | .str _, m, h => by simp [depD] at h; simp [toP, PyData.depth, ← h]
  | .lst xs, m, h => by
    simp only [depD, Option.map_eq_some_iff] at h
    obtain ⟨a, h1, rfl⟩ := h
    simp only [toP, PyData.depth, depths_toP xs a h1] <;> omega
  | .tup xs, m, h => by
    simp only [depD, Option.map_eq_some_iff] at h
    obtain ⟨a, h1, rfl⟩ := h
    simp only [toP, PyData.depth, depths_toP xs a h1] <;> omega
  | .dct _, m, h => by simp [depD] at h
  | .ref _, m, h => by simp [depD] at h
  | .scr _, m, h => by simp [depD] at h
theorem depths_toP : ∀ (xs : List D) (m : Nat), depDs xs = some m → PyData.depthAll (toPs xs) = m
  | [], m, h => by simp [depDs] at h; simp [toPs, PyData.depthAll, ← h]
  | x :: xs, m, h => by
    unfold depDs at h
    split at h
    · rename_i a b e1 e2
      cases h
      simp only [toPs, PyData.depthAll, depth_toP x a e1, depths_toP xs b e2]
    · cases h
end
section
variable {K : PySem.W.Frag} {L : Lay} {H : Hp} {h : Hs}
mutual
theorem rep_dp (s : HRel K L H h) : ∀ (d : D) (v : V) (m : Nat), Rep K L v d → depD d = some m → Dp K H v (toP d) ∧ (toP d).canLay0 = true
  | .non, v, m, r, e => by cases r; exact ⟨.non, rfl⟩
  | .bl b, v, m, r, e => by cases r; exact ⟨.bl b, rfl⟩
  | .int i, v, m, r, e => by cases r; exact ⟨.int i, rfl⟩
  | .str l, v, m, r, e => by
    cases r with
    | str s ok =>
      refine ⟨by simpa [toP] using Dp.str s, ?_⟩
      simp only [toP, PyData.canLay0, PyData.strOk]
      have ok' : ∀ (i : Nat) (hi : i < s.cps.size), s.cps[i] < 0x110000 := fun i hi => ok _ (by simp)
      simpa using ok'
  | .lst xs, v, m, r, e => by
    simp only [depD, Option.map_eq_some_iff] at e
    obtain ⟨a, e, _⟩ := e
    cases r with
    | lst f r =>
      obtain ⟨q1, q2⟩ := reps_dp s xs _ a r e
      exact ⟨.lst (.of (s.sub _ _ f)) q1, by simpa only [toP, PyData.canLay0] using q2⟩
  | .tup xs, v, m, r, e => by
    simp only [depD, Option.map_eq_some_iff] at e
    obtain ⟨a, e, _⟩ := e
    cases r with
    | tup f r =>
      obtain ⟨q1, q2⟩ := reps_dp s xs _ a r e
      exact ⟨.tup (s.sqT f) q1, by simpa only [toP, PyData.canLay0] using q2⟩
  | .dct _, _, _, _, e => by simp [depD] at e
  | .ref _, _, _, _, e => by simp [depD] at e
  | .scr _, _, _, _, e => by simp [depD] at e
theorem reps_dp (s : HRel K L H h) : ∀ (ds : List D) (vs : List V) (m : Nat), Reps K L vs ds → depDs ds = some m → DpAll K H vs (toPs ds) ∧ PyData.canLayAll0 (toPs ds) = true
  | [], v, m, r, e => by cases r; exact ⟨.nil, rfl⟩
  | d :: ds, v, m, r, e => by
    unfold depDs at e
    split at e
    · rename_i a b e1 e2
      cases r with
      | cons p q =>
        obtain ⟨x1, x2⟩ := rep_dp s d _ a p e1
        obtain ⟨y1, y2⟩ := reps_dp s ds _ b q e2
        exact ⟨.cons x1 y1, by simp [toPs, PyData.canLayAll0, x2, y2]⟩
    · cases e
end
def asV (h : Hs) (d : D) : D := match asL h d with
  | some xs => .lst xs
  | none => d
theorem repO_dp (s : HRel K L H h) {d : D} {v : V} (r : RepO K L H v d) (e : eqOk (asV h d) = true) : Dp K H v (toP (asV h d)) ∧ SeqAt.shaped (toP (asV h d)) = true ∧ ∃ m, depD (asV h d) = some m := by
  unfold eqOk at e
  split at e
  · rename_i n en
    have hn : n ≤ 60 := of_decide_eq_true e
    have key : Dp K H v (toP (asV h d)) ∧ (toP (asV h d)).canLay0 = true := by
      unfold asV at en ⊢
      cases ea : asL h d with
      | some xs =>
        rw [ea] at en
        simp only at en
        obtain ⟨p, vs, rfl, t, r1⟩ := asL_ok s r ea
        simp only [depD, Option.map_eq_some_iff] at en
        obtain ⟨a, en, _⟩ := en
        obtain ⟨q1, q2⟩ := reps_dp s xs _ a r1 en
        exact ⟨.lst (.of t) q1, by simpa only [toP, PyData.canLay0] using q2⟩
      | none =>
        rw [ea] at en
        simp only at en
        rcases r with r | ⟨xs, rfl, r⟩ | ⟨kvs, rfl, r⟩
        · exact rep_dp s d v n r en
        · simp [asL] at ea
        · simp [depD] at en
    refine ⟨key.1, ?_, n, en⟩
    unfold SeqAt.shaped
    rw [key.2, depth_toP _ n en, Bool.true_and]
    exact decide_eq_true (by omega)
  · cases e
end

section
variable {X : Cx} {a b c : Expr} {pos : Pos}
def gEq : G2 := fun h x y => if eqOk (asV h x) && eqOk (asV h y) then some (.bl (pyEq (asV h x) (asV h y))) else none
def gNe : G2 := fun h x y => if eqOk (asV h x) && eqOk (asV h y) then some (.bl (!pyEq (asV h x) (asV h y))) else none
theorem ops_eq (hu : X.A.units + 64 < cLine) : OpS X (compareOp .Eq) gEq := by
  refine ⟨_, op_eqD hu, fun L H h x y v u d Q s p q e k => ?_⟩
  unfold gEq at e
  split at e
  · rename_i hh
    rw [Bool.and_eq_true] at hh
    obtain ⟨p1, p2, m, p3⟩ := repO_dp s p hh.1
    obtain ⟨q1, q2, n, q3⟩ := repO_dp s q hh.2
    cases e
    refine ⟨_, _, p1, q1, p2, q2, ?_⟩
    rw [eqv_toP _ _ _ _ p3 q3]
    exact k L H _ Le.refl s (.bl _)
  · cases e
theorem ops_ne (hu : X.A.units + 64 < cLine) : OpS X (compareOp .NotEq) gNe := by
  refine ⟨_, op_neD hu, fun L H h x y v u d Q s p q e k => ?_⟩
  unfold gNe at e
  split at e
  · rename_i hh
    rw [Bool.and_eq_true] at hh
    obtain ⟨p1, p2, m, p3⟩ := repO_dp s p hh.1
    obtain ⟨q1, q2, n, q3⟩ := repO_dp s q hh.2
    cases e
    refine ⟨_, _, p1, q1, p2, q2, ?_⟩
    rw [eqv_toP _ _ _ _ p3 q3]
    exact k L H _ Le.refl s (.bl _)
  · cases e
def toInts : List D → Option (List Int)
  | [] => some []
  | .int i :: r => (toInts r).map (i :: ·)
  | _ :: _ => none
theorem toInts_ok {K : PySem.W.Frag} {L : Lay} : ∀ {ds : List D} {vs : List V} {ns : List Int}, Reps K L vs ds → toInts ds = some ns → vs = ns.map V.int
  | [], _, _, r, e => by cases r; cases e; rfl
  | d :: ds, _, ns, r, e => by
    cases r with
    | cons p q =>
      cases d with
      | int i =>
        simp only [toInts, Option.map_eq_some_iff] at e
        obtain ⟨ms, e, rfl⟩ := e
        cases p
        rw [toInts_ok q e]
        rfl
      | _ => simp [toInts] at e
def gLtI : G2 := gI cT fun i j => .bl (decide (i < j))
def gLeI : G2 := gI cT fun i j => .bl (decide (i ≤ j))
def gGt : G2 := gI cT fun i j => .bl (decide (j < i))
def gGe : G2 := gI cT fun i j => .bl (decide (j ≤ i))
theorem ops_ltI : OpS X (compareOp .Lt) gLtI := opsI (rI_of0 op_lt) (fun _ _ _ => trivial) fun _ _ _ _ => .bl _
theorem ops_leI : OpS X (compareOp .LtE) gLeI := opsI (rI_of0 op_le) (fun _ _ _ => trivial) fun _ _ _ _ => .bl _
theorem ops_gt : OpS X (compareOp .Gt) gGt := opsI (rI_of0 op_gt) (fun _ _ _ => trivial) fun _ _ _ _ => .bl _
theorem ops_ge : OpS X (compareOp .GtE) gGe := opsI (rI_of0 op_ge) (fun _ _ _ => trivial) fun _ _ _ _ => .bl _
def gLtS : G2 := fun _ x y => match x, y with
  | .str a, .str b => some (.bl (decide (a < b)))
  | .tup a, .tup b => match toInts a, toInts b with
    | some ns, some ms => some (.bl (HT.lexLt ns ms))
    | _, _ => none
  | _, _ => none
theorem ops_ltS (hu : X.A.units < cLine) : OpS X (compareOp .Lt) gLtS := by
  refine ⟨_, op_lt_str.or (op_ltT hu), fun L H h x y v u d Q s p q e k => ?_⟩
  unfold gLtS at e
  split at e
  · cases e
    obtain ⟨s1, rfl, e1, n1, o1⟩ := p.str
    obtain ⟨s2, rfl, e2, n2, o2⟩ := q.str
    subst e1; subst e2
    exact .inl ⟨s1, s2, rfl, rfl, k L H _ Le.refl s (.bl _)⟩
  · split at e
    · rename_i ns ms en em
      cases e
      obtain ⟨p1, v1, rfl, f1, t1, r1⟩ := p.tup s
      obtain ⟨p2, v2, rfl, f2, t2, r2⟩ := q.tup s
      have e1 := toInts_ok r1 en
      have e2 := toInts_ok r2 em
      subst e1; subst e2
      exact .inr ⟨p1, p2, ns, ms, rfl, rfl, t1, t2, k L H _ Le.refl s (.bl _)⟩
    · cases e
  · cases e
def gLt : G2 := fun s x y => (gLtI s x y).or (gLtS s x y)
theorem ops_lt (hu : X.A.units < cLine) : OpS X (compareOp .Lt) gLt := ops_ltI.or (ops_ltS hu)
def isN : D → Bool
  | .non => true
  | _ => false
def gIsN : G2 := fun _ x y => match y with
  | .non => some (.bl (isN x))
  | _ => none
def gNotN : G2 := fun _ x y => match y with
  | .non => some (.bl (!isN x))
  | _ => none
theorem isN_ok {K : PySem.W.Frag} {L : Lay} {H : Hp} {v : V} {x : D} (r : RepO K L H v x) : decide (v = .non) = isN x := by
  rcases r with r | ⟨xs, rfl, r⟩ | ⟨xs, rfl, r⟩
  · cases r <;> rfl
  · obtain ⟨p, vs, e, _⟩ := r
    cases e; rfl
  · obtain ⟨p, vs, _, e, _⟩ := r
    cases e; rfl
theorem ops_is : OpS X (compareOp .Is) gIsN := by
  refine ⟨_, op_isN, fun L H h x y v u d Q s p q e k => ?_⟩
  unfold gIsN at e
  split at e
  · cases e
    refine ⟨q.non, ?_⟩
    rw [isN_ok p]
    exact k L H _ Le.refl s (.bl _)
  · cases e
theorem ops_isnot : OpS X (compareOp .IsNot) gNotN := by
  refine ⟨_, op_notN, fun L H h x y v u d Q s p q e k => ?_⟩
  unfold gNotN at e
  split at e
  · cases e
    refine ⟨q.non, ?_⟩
    rw [isN_ok p]
    exact k L H _ Le.refl s (.bl _)
  · cases e
def rInU (K : PySem.W.Frag) : R2 := fun x y H Q => ∃ d ds, Dp K H x d ∧ Dp K H y (.tuple ds) ∧ SeqAt.shaped d = true ∧ SeqAt.shaped (.tuple ds) = true ∧ Q (.bl (ds.any fun z => PyData.eqv z d)) H
def rNotInU (K : PySem.W.Frag) : R2 := fun x y H Q => ∃ d ds, Dp K H x d ∧ Dp K H y (.tuple ds) ∧ SeqAt.shaped d = true ∧ SeqAt.shaped (.tuple ds) = true ∧ Q (.bl (!ds.any fun z => PyData.eqv z d)) H
theorem op_inU (hu : X.A.units + 65 < cLine) : OpR X (compareOp .In) (rInU X.K) := by
  intro pins s σ H x y v u Q I rx ry h
  obtain ⟨d, ds, hd, he, sd, se, q⟩ := h
  obtain ⟨as, r1⟩ := Dp.reads I d x v hd rx
  obtain ⟨bs, r2⟩ := Dp.reads I (.tuple ds) y u he ry
  exact SeqAt.in_tuple_reads r2 r1 (SeqAt.canLay_of_shaped se) (SeqAt.canLay_of_shaped sd) (room_in_shaped sd hu) ⟨.bl _, H, I, rfl, q⟩
theorem op_notInU (hu : X.A.units + 65 < cLine) : OpR X (compareOp .NotIn) (rNotInU X.K) := by
  intro pins s σ H x y v u Q I rx ry h
  obtain ⟨d, ds, hd, he, sd, se, q⟩ := h
  obtain ⟨as, r1⟩ := Dp.reads I d x v hd rx
  obtain ⟨bs, r2⟩ := Dp.reads I (.tuple ds) y u he ry
  exact SeqAt.notIn_tuple_reads r2 r1 (SeqAt.canLay_of_shaped se) (SeqAt.canLay_of_shaped sd) (room_in_shaped sd hu) ⟨.bl _, H, I, rfl, q⟩
def inS (x : D) (xs : List D) : Bool := xs.any fun z => pyEq z x
theorem any_toP : ∀ {xs : List D} {x : D} {m n : Nat}, depDs xs = some m → depD x = some n → ((toPs xs).any fun z => PyData.eqv z (toP x)) = inS x xs
  | [], _, _, _, _, _ => rfl
  | z :: xs, x, m, n, h, e => by
    unfold depDs at h
    split at h
    · rename_i a b e1 e2
      show (PyData.eqv (toP z) (toP x) || (toPs xs).any fun z => PyData.eqv z (toP x)) = _
      rw [eqv_toP _ _ _ _ e1 e, any_toP e2 e]
      rfl
    · cases h
def inD (h : Hs) (x y : D) : Option Bool := match asV h y with
  | .lst xs => if eqOk x && eqOk (.lst xs) then some (inS x xs) else none
  | .tup xs => if eqOk x && eqOk (.tup xs) then some (inS x xs) else none
  | .str l => match x with
    | .str [c] => some (decide (c ∈ l))
    | _ => none
  | _ => none
def gIn : G2 := fun h x y => (inD h x y).map .bl
def gNotIn : G2 := fun h x y => (inD h x y).map fun b => .bl (!b)
theorem eqOk_dep {d : D} (e : eqOk d = true) : ∃ m, depD d = some m := by
  unfold eqOk at e
  split at e
  · exact ⟨_, by assumption⟩
  · cases e
theorem asV_of {h : Hs} {d : D} {m : Nat} (e : depD d = some m) : asV h d = d := by
  cases d <;> first | rfl | simp [depD] at e
theorem asV_tup {h : Hs} {y : D} {xs : List D} (e : asV h y = .tup xs) : y = .tup xs := by
  unfold asV at e
  split at e
  · cases e
  · exact e
theorem asV_str {h : Hs} {y : D} {xs : List Nat} (e : asV h y = .str xs) : y = .str xs := by
  unfold asV at e
  split at e
  · cases e
  · exact e
theorem one_str {s : Str} {c : Nat} (e : s.cps.toList = [c]) : s = ⟨#[c]⟩ := by
  cases s with
  | mk cps =>
    have e' : cps.toList = [c] := e
    congr 1
    rw [← Array.toArray_toList (xs := cps), e']
theorem inD_case {K : PySem.W.Frag} {L : Lay} {H : Hp} {h : Hs} {x y : D} {v u : V} {w : Bool} (s : HRel K L H h) (p : RepO K L H v x) (q : RepO K L H u y) (e : inD h x y = some w) :
    (∃ d ds, Dp K H v d ∧ Dp K H u (.list ds) ∧ SeqAt.shaped d = true ∧ SeqAt.shaped (.list ds) = true ∧ (ds.any fun z => PyData.eqv z d) = w) ∨
    (∃ d ds, Dp K H v d ∧ Dp K H u (.tuple ds) ∧ SeqAt.shaped d = true ∧ SeqAt.shaped (.tuple ds) = true ∧ (ds.any fun z => PyData.eqv z d) = w) ∨
    (∃ (c : Nat) (z : Str), v = .str ⟨#[c]⟩ ∧ u = .str z ∧ decide (c ∈ z.cps.toList) = w) := by
  unfold inD at e
  split at e
  · rename_i xs ex
    split at e
    · rename_i hh
      rw [Bool.and_eq_true] at hh
      cases e
      obtain ⟨m, em⟩ := eqOk_dep hh.1
      have p' := repO_dp s p (by rw [asV_of em]; exact hh.1)
      rw [asV_of em] at p'
      have q' := repO_dp s q (by rw [ex]; exact hh.2)
      rw [ex] at q'
      obtain ⟨n, en⟩ := eqOk_dep hh.2
      simp only [depD, Option.map_eq_some_iff] at en
      obtain ⟨n', en, _⟩ := en
      simp only [toP] at q'
      exact .inl ⟨_, _, p'.1, q'.1, p'.2.1, q'.2.1, any_toP en em⟩
    · cases e
  · rename_i xs ex
    split at e
    · rename_i hh
      rw [Bool.and_eq_true] at hh
      cases e
      obtain ⟨m, em⟩ := eqOk_dep hh.1
      have p' := repO_dp s p (by rw [asV_of em]; exact hh.1)
      rw [asV_of em] at p'
      have q' := repO_dp s q (by rw [ex]; exact hh.2)
      rw [ex] at q'
      obtain ⟨n, en⟩ := eqOk_dep hh.2
      simp only [depD, Option.map_eq_some_iff] at en
      obtain ⟨n', en, _⟩ := en
      simp only [toP] at q'
      exact .inr (.inl ⟨_, _, p'.1, q'.1, p'.2.1, q'.2.1, any_toP en em⟩)
    · cases e
  · rename_i l ex
    split at e
    · rename_i c
      cases e
      have ey := asV_str ex
      subst ey
      obtain ⟨s1, rfl, e1, _, _⟩ := p.str
      obtain ⟨s2, rfl, e2, _, _⟩ := q.str
      refine .inr (.inr ⟨c, s2, by rw [one_str e1], rfl, by rw [e2]⟩)
    · cases e
  · cases e
theorem ops_in (hu : X.A.units + 65 < cLine) : OpS X (compareOp .In) gIn := by
  refine ⟨_, (op_inD hu).or ((op_inU hu).or op_in_sign), fun L H h x y v u d Q s p q e k => ?_⟩
  obtain ⟨w, e2, rfl⟩ := Option.map_eq_some_iff.mp e
  have fin := k L H _ Le.refl s (.bl w)
  rcases inD_case s p q e2 with ⟨d, ds, h1, h2, h3, h4, h5⟩ | ⟨d, ds, h1, h2, h3, h4, h5⟩ | ⟨c, z, h1, h2, h3⟩
  · exact .inl ⟨d, ds, h1, h2, h3, h4, by rw [h5]; exact fin⟩
  · exact .inr (.inl ⟨d, ds, h1, h2, h3, h4, by rw [h5]; exact fin⟩)
  · exact .inr (.inr ⟨c, z, h1, h2, by rw [h3]; exact fin⟩)
theorem ops_notin (hu : X.A.units + 65 < cLine) : OpS X (compareOp .NotIn) gNotIn := by
  refine ⟨_, (op_notInD hu).or ((op_notInU hu).or op_notIn_sign), fun L H h x y v u d Q s p q e k => ?_⟩
  obtain ⟨w, e2, rfl⟩ := Option.map_eq_some_iff.mp e
  have fin := k L H _ Le.refl s (.bl (!w))
  rcases inD_case s p q e2 with ⟨d, ds, h1, h2, h3, h4, h5⟩ | ⟨d, ds, h1, h2, h3, h4, h5⟩ | ⟨c, z, h1, h2, h3⟩
  · exact .inl ⟨d, ds, h1, h2, h3, h4, by rw [h5]; exact fin⟩
  · exact .inr (.inl ⟨d, ds, h1, h2, h3, h4, by rw [h5]; exact fin⟩)
  · exact .inr (.inr ⟨c, z, h1, h2, by rw [h3]; exact fin⟩)

theorem snd_cmp {op : CmpOp} {g : G2} {ma mb : EM} (ho : OpS X (compareOp op) g) (ha : SndO X a ma) (hb : SndO X b mb) (hm : behindInMarks op b = false) : SndE X (.Compare a [op] [b] pos) (eOp g ma mb) := by
  obtain ⟨r, hr, w⟩ := ho.rd (ma := ma) (mb := mb)
  exact weakE (pe_cmpR hr ha hb hm) w
def tB (m : EM) : TM := fun σ h => (m σ h).bind fun d h1 => match d with
  | .bl b => .ok b h1
  | _ => .bad
theorem tB_ok {m : EM} {σ : Sg} {h h' : Hs} {b : Bool} (e : tB m σ h = .ok b h') : m σ h = .ok (.bl b) h' := by
  obtain ⟨d, h1, e1, e2⟩ := bind_some e
  cases d with
  | bl c => cases e2; exact e1
  | _ => cases e2
theorem rdT_of {K : PySem.W.Frag} {m : EM} {σV : Sv} {H : Hp} {Q : Bool → Hp → Prop} (q : RdT K (tB m) σV H Q) : RdE K m σV H fun x H' => ∃ k, x = .bl k ∧ Q k H' := by
  obtain ⟨L, σ, h, d, h', hr, sr, em, k⟩ := q
  exact ⟨L, σ, h, _, h', hr, sr, tB_ok em, fun L' H' v l r q => by cases q; exact ⟨d, rfl, k L' H' l r⟩⟩
theorem sndT_cmp {op : CmpOp} {g : G2} {ma mb : EM} (ho : OpS X (compareOp op) g) (ha : SndO X a ma) (hb : SndO X b mb) (hm : behindInMarks op b = false) : SndT X (.Compare a [op] [b] pos) (tB (eOp g ma mb)) := by
  obtain ⟨r, hr, w⟩ := ho.rd (ma := ma) (mb := mb)
  exact weakT (pt_cmpR hr ha hb hm) fun σV H Q q => w _ _ _ (rdT_of q)
theorem sndT_val {e : Expr} {m : EM} (h : SndE X e m) (he : ∀ whole, isTrue e X.env whole = (do let v ← whole; standAt e.pos; holding [v] (truthy v))) : SndT X e (tB m) := weakT (pt_val h he) fun σV H Q q => rdT_of q
def eChain (g g' : G2) (ma mb mc : EM) : EM := fun σ h => (ma σ h).bind fun x h1 => (mb σ h1).bind fun y h2 => (optR (g h2 x y) h2).bind fun z h3 => match z with
  | .bl true => (mc σ h3).bind fun w h4 => optR (g' h4 y w) h4
  | .bl false => .ok (.bl false) h3
  | _ => .bad
theorem chain_rd {op op' : CmpOp} {g g' : G2} {ma mb mc : EM} (ho : OpS X (compareOp op) g) (ho' : OpS X (compareOp op') g') : ∃ r r' : R2, OpR X (compareOp op) r ∧ OpR X (compareOp op') r' ∧
    ∀ σV H Q, RdE X.K (eChain g g' ma mb mc) σV H Q → tChain r r' (RdO X.K ma) (RdO X.K mb) (RdO X.K mc) σV H Q := by
  obtain ⟨r, hr, hs⟩ := ho
  obtain ⟨r', hr', hs'⟩ := ho'
  refine ⟨r, r', hr, hr', fun σV H Q ⟨L, σ, h, d, h', hr, sr, em, k⟩ => ?_⟩
  obtain ⟨x, h1, e1, em⟩ := bind_some em
  obtain ⟨y, h2, e2, em⟩ := bind_some em
  obtain ⟨z, h3, e3, em⟩ := bind_some em
  obtain ⟨e3, eh⟩ := optR_ok e3
  refine ⟨L, σ, h, x, h1, hr, sr, e1, fun L1 H1 v1 l1 r1 q1 => ⟨L1, σ, h1, y, h2, r1, sr.le l1, e2, fun L2 H2 v2 l2 r2 q2 => ?_⟩⟩
  refine hs L2 H2 h2 x y v1 v2 z _ r2 (q1.le l2) q2 e3 fun L3 H3 w l3 r3 q3 => ?_
  cases z with
  | bl bb =>
    cases q3
    refine ⟨bb, rfl, ?_⟩
    subst eh
    cases bb with
    | false =>
      cases em
      exact k L3 H3 _ ((l1.trans0 l2).trans0 l3) r3 (.bl false)
    | true =>
      obtain ⟨w, h4, e4, em⟩ := bind_some em
      refine ⟨L3, σ, h2, w, h4, r3, ((sr.le l1).le l2).le l3, e4, fun L4 H4 v4 l4 r4 q4 => ?_⟩
      obtain ⟨em2, eh⟩ := optR_ok em
      subst eh
      exact hs' L4 H4 h4 _ _ v2 v4 d Q r4 ((q2.le l3).le l4) q4 em2 fun L5 H5 w l5 r5 q5 => k L5 H5 w ((((l1.trans0 l2).trans0 l3).trans0 l4).trans0 l5) r5 q5
  | _ => cases em
theorem snd_chain {op op' : CmpOp} {g g' : G2} {ma mb mc : EM} (ho : OpS X (compareOp op) g) (ho' : OpS X (compareOp op') g') (ha : SndO X a ma) (hb : SndO X b mb) (hc : SndO X c mc) (hm : lastMarks [op, op'] [b, c] = false) :
    SndE X (.Compare a [op, op'] [b, c] pos) (eChain g g' ma mb mc) := by
  obtain ⟨r, r', hr, hr', w⟩ := chain_rd (X := X) (ma := ma) (mb := mb) (mc := mc) ho ho'
  exact weakE (pe_chain hr hr' ha hb hc hm) w
theorem sndT_chain {op op' : CmpOp} {g g' : G2} {ma mb mc : EM} (ho : OpS X (compareOp op) g) (ho' : OpS X (compareOp op') g') (ha : SndO X a ma) (hb : SndO X b mb) (hc : SndO X c mc) (hm : lastMarks [op, op'] [b, c] = false) :
    SndT X (.Compare a [op, op'] [b, c] pos) (tB (eChain g g' ma mb mc)) := by
  obtain ⟨r, r', hr, hr', w⟩ := chain_rd (X := X) (ma := ma) (mb := mb) (mc := mc) ho ho'
  exact weakT (pt_chain hr hr' ha hb hc hm) fun σV H Q q => w _ _ _ (rdT_of q)

variable {rest : List Expr}
def tAnd (t u : TM) : TM := fun σ h => (t σ h).bind fun b h1 => match b with
  | true => u σ h1
  | false => .ok false h1
def tOr (t u : TM) : TM := fun σ h => (t σ h).bind fun b h1 => match b with
  | true => .ok true h1
  | false => u σ h1
def tNot (t : TM) : TM := fun σ h => (t σ h).bind fun b h1 => .ok (!b) h1
theorem sndW_and1 {t : TM} (ha : SndT X a t) : SndW X (.BoolOp .And [a] pos) t := pw_and1 ha
theorem sndW_or1 {t : TM} (ha : SndT X a t) : SndW X (.BoolOp .Or [a] pos) t := pw_or1 ha
theorem sndW_and {t u : TM} (ha : SndT X a t) (hb : SndW X (.BoolOp .And (b :: rest) pos) u) : SndW X (.BoolOp .And (a :: b :: rest) pos) (tAnd t u) := by
  refine weakW (pw_and ha hb) fun σV H Q ⟨L, σ, h, d, h', hr, sr, em, k⟩ => ?_
  obtain ⟨x, h1, e1, em⟩ := bind_some em
  refine ⟨L, σ, h, x, h1, hr, sr, e1, fun L1 H1 l1 r1 => ?_⟩
  cases x with
  | true => exact ⟨L1, σ, h1, d, h', r1, sr.le l1, em, fun L2 H2 l2 r2 => k L2 H2 (l1.trans0 l2) r2⟩
  | false => cases em; exact k L1 H1 l1 r1
theorem sndW_or {t u : TM} (ha : SndT X a t) (hb : SndW X (.BoolOp .Or (b :: rest) pos) u) : SndW X (.BoolOp .Or (a :: b :: rest) pos) (tOr t u) := by
  refine weakW (pw_or ha hb) fun σV H Q ⟨L, σ, h, d, h', hr, sr, em, k⟩ => ?_
  obtain ⟨x, h1, e1, em⟩ := bind_some em
  refine ⟨L, σ, h, x, h1, hr, sr, e1, fun L1 H1 l1 r1 => ?_⟩
  cases x with
  | false => exact ⟨L1, σ, h1, d, h', r1, sr.le l1, em, fun L2 H2 l2 r2 => k L2 H2 (l1.trans0 l2) r2⟩
  | true => cases em; exact k L1 H1 l1 r1
theorem SndW.t {e : Expr} {t : TM} (h : SndW X e t) : SndT X e t := PW.pt h
theorem sndT_not {t : TM} (ha : SndT X a t) : SndT X (.UnaryOp .Not a pos) (tNot t) := by
  refine weakT (pt_not ha) fun σV H Q ⟨L, σ, h, d, h', hr, sr, em, k⟩ => ?_
  obtain ⟨x, h1, e1, em⟩ := bind_some em
  cases em
  exact ⟨L, σ, h, x, _, hr, sr, e1, fun L1 H1 l1 r1 => k L1 H1 l1 r1⟩
def eAnd (m n : EM) : EM := fun σ h => (m σ h).bind fun d h1 => match d with
  | .bl true => n σ h1
  | .bl false => .ok (.bl false) h1
  | _ => .bad
def eOr (m n : EM) : EM := fun σ h => (m σ h).bind fun d h1 => match d with
  | .bl false => n σ h1
  | .bl true => .ok (.bl true) h1
  | _ => .bad
def eNot (m : EM) : EM := fun σ h => (m σ h).bind fun d h1 => match d with
  | .bl b => .ok (.bl (!b)) h1
  | _ => .bad
theorem snd_one {op : BoolOp} {m : EM} (h : SndE X a m) : SndE X (.BoolOp op [a] pos) m := pe_one h
theorem snd_and {m n : EM} (ha : SndE X a m) (hb : SndE X (.BoolOp .And (b :: rest) pos) n) : SndE X (.BoolOp .And (a :: b :: rest) pos) (eAnd m n) := by
  refine weakE (pe_and ha hb) fun σV H Q ⟨L, σ, h, d, h', hr, sr, em, k⟩ => ?_
  obtain ⟨x, h1, e1, em⟩ := bind_some em
  refine ⟨L, σ, h, x, h1, hr, sr, e1, fun L1 H1 v1 l1 r1 q1 => ?_⟩
  cases x with
  | bl c =>
    cases q1
    refine ⟨c, rfl, ?_⟩
    cases c with
    | true => exact ⟨L1, σ, h1, d, h', r1, sr.le l1, em, fun L2 H2 v2 l2 r2 q2 => k L2 H2 v2 (l1.trans0 l2) r2 q2⟩
    | false => cases em; exact k L1 H1 _ l1 r1 (.bl false)
  | _ => cases em
theorem snd_or {m n : EM} (ha : SndE X a m) (hb : SndE X (.BoolOp .Or (b :: rest) pos) n) : SndE X (.BoolOp .Or (a :: b :: rest) pos) (eOr m n) := by
  refine weakE (pe_or ha hb) fun σV H Q ⟨L, σ, h, d, h', hr, sr, em, k⟩ => ?_
  obtain ⟨x, h1, e1, em⟩ := bind_some em
  refine ⟨L, σ, h, x, h1, hr, sr, e1, fun L1 H1 v1 l1 r1 q1 => ?_⟩
  cases x with
  | bl c =>
    cases q1
    refine ⟨c, rfl, ?_⟩
    cases c with
    | false => exact ⟨L1, σ, h1, d, h', r1, sr.le l1, em, fun L2 H2 v2 l2 r2 q2 => k L2 H2 v2 (l1.trans0 l2) r2 q2⟩
    | true => cases em; exact k L1 H1 _ l1 r1 (.bl true)
  | _ => cases em
theorem snd_not {m : EM} (ha : SndE X a m) : SndE X (.UnaryOp .Not a pos) (eNot m) := by
  refine weakE (pe_not ha) fun σV H Q ⟨L, σ, h, d, h', hr, sr, em, k⟩ => ?_
  obtain ⟨x, h1, e1, em⟩ := bind_some em
  refine ⟨L, σ, h, x, h1, hr, sr, e1, fun L1 H1 v1 l1 r1 q1 => ?_⟩
  cases x with
  | bl c => cases q1; cases em; exact ⟨c, rfl, k L1 H1 _ l1 r1 (.bl _)⟩
  | _ => cases em
def eIf (t : TM) (m n : EM) : EM := fun σ h => (t σ h).bind fun b h1 => match b with
  | true => m σ h1
  | false => n σ h1
theorem snd_if {t : TM} {m n : EM} (hc : SndT X c t) (ha : SndE X a m) (hb : SndE X b n) : SndE X (.IfExp c a b pos) (eIf t m n) := by
  refine weakE (pe_ifExp hc ha hb) fun σV H Q ⟨L, σ, h, d, h', hr, sr, em, k⟩ => ?_
  obtain ⟨x, h1, e1, em⟩ := bind_some em
  refine ⟨L, σ, h, x, h1, hr, sr, e1, fun L1 H1 l1 r1 => ?_⟩
  cases x with
  | true => exact ⟨L1, σ, h1, d, h', r1, sr.le l1, em, fun L2 H2 v2 l2 r2 q2 => k L2 H2 v2 (l1.trans0 l2) r2 q2⟩
  | false => exact ⟨L1, σ, h1, d, h', r1, sr.le l1, em, fun L2 H2 v2 l2 r2 q2 => k L2 H2 v2 (l1.trans0 l2) r2 q2⟩
def eNeg (m : EM) : EM := fun σ h => (m σ h).bind fun d h1 => match d with
  | .int i => .ok (.int (-i)) h1
  | _ => .bad
theorem snd_neg {m : EM} (ha : SndE X a m) : SndE X (.UnaryOp .USub a pos) (eNeg m) := by
  refine weakE (pe_un un_neg ha) fun σV H Q ⟨L, σ, h, d, h', hr, sr, em, k⟩ => ?_
  obtain ⟨x, h1, e1, em⟩ := bind_some em
  refine ⟨L, σ, h, x, h1, hr, sr, e1, fun L1 H1 v1 l1 r1 q1 => ?_⟩
  cases x with
  | int c => cases q1; cases em; exact ⟨c, rfl, k L1 H1 _ l1 r1 (.int _)⟩
  | _ => cases em
end
end WC
set_option Elab.async false
set_option linter.all false
set_option maxRecDepth 100000
namespace WC
open PySem PySem.Spec PyProof.Rows L2

abbrev GL := Hs → List D → Option D
section
variable {X : Cx} {e o a b : Expr} {es : List Expr} {pos : Pos}
def CallS (X : Cx) (f : Value) (g : GL) : Prop :=
  ∃ r : List V → Hp → VK → Prop, CallR X f r ∧ ∀ (L : Lay) (H : Hp) (h : Hs) (xs : List D) (vs : List V) (d : D) (Q : VK), HRel X.K L H h → RepOs X.K L H vs xs → g h xs = some d →
    (∀ L' H' w, Le0 L H L' H' → HRel X.K L' H' h → Rep X.K L' w d → Q w H') → r vs H Q
theorem CallS.or {f : Value} {g g' : GL} (h : CallS X f g) (h' : CallS X f g') : CallS X f (fun s x => (g s x).or (g' s x)) := by
  obtain ⟨r, hr, w⟩ := h
  obtain ⟨r', hr', w'⟩ := h'
  refine ⟨fun xs H Q => r xs H Q ∨ r' xs H Q, fun pins s σ H xs us Q I rv q => ?_, fun L H h x v d Q s p e k => ?_⟩
  · rcases q with q | q
    · exact hr pins s σ H xs us Q I rv q
    · exact hr' pins s σ H xs us Q I rv q
  · have e : (g h x).or (g' h x) = some d := e
    cases e1 : g h x with
    | some z => rw [e1] at e; cases e; exact .inl (w L H h x v _ Q s p e1 k)
    | none => rw [e1] at e; exact .inr (w' L H h x v d Q s p e k)
def eCall (g : GL) (ms : AM) : EM := fun σ h => (ms σ h).bind fun xs h1 => optR (g h1 xs) h1
theorem CallS.rd {f : Value} {g : GL} {ms : AM} (ho : CallS X f g) : ∃ r, CallR X f r ∧ ∀ σV H Q, RdE X.K (eCall g ms) σV H Q → tCB r (RdAO X.K ms) σV H Q := by
  obtain ⟨r, hr, hs⟩ := ho
  refine ⟨r, hr, fun σV H Q ⟨L, σ, h, d, h', hr, sr, em, k⟩ => ?_⟩
  obtain ⟨x, h1, e1, em⟩ := bind_some em
  obtain ⟨em2, eh⟩ := optR_ok em
  subst eh
  exact ⟨L, σ, h, x, h1, hr, sr, e1, fun L1 H1 v1 l1 r1 q1 => hs L1 H1 h1 x v1 d Q r1 q1 em2 fun L3 H3 w l3 r3 q3 => k L3 H3 w (l1.trans0 l3) r3 q3⟩
theorem snd_callB {id : String} {x : Str} {p : Pos} {g : GL} {ms : AM} (hc : CallS X (.builtin id) g) (hg : Gl X x) (hm : X.mg x = none) (hv : bootBuiltins x = some (.builtin id)) (ha : SndAO X (e :: es) ms) (hn : x ≠ "__name__") (hdb : (x == ("__debug__" : Str)) = false)
    (he : starEach (e :: es) X.env = (false, eval e X.env) :: starEach es X.env) (hpl : (backTo pos (starEach es X.env)).any (·.1) = false) : SndE X (.Call (.Name x p) (e :: es) [] pos) (eCall g ms) := by
  obtain ⟨r, hr, w⟩ := hc.rd (ms := ms)
  exact weakE (pe_callB hr hg hm hv ha hn hdb he hpl) w
theorem snd_callTy {T : String} {x : Str} {p : Pos} {g : GL} {ms : AM} (hc : CallS X (.type T) g) (hg : Gl X x) (hm : X.mg x = none) (hv : bootBuiltins x = some (.type T)) (ha : SndAO X (e :: es) ms) (hn : x ≠ "__name__") (hdb : (x == ("__debug__" : Str)) = false)
    (he : starEach (e :: es) X.env = (false, eval e X.env) :: starEach es X.env) (hpl : (backTo pos (starEach es X.env)).any (·.1) = false) : SndE X (.Call (.Name x p) (e :: es) [] pos) (eCall g ms) := by
  obtain ⟨r, hr, w⟩ := hc.rd (ms := ms)
  exact weakE (pe_callTy hr hg hm hv ha hn hdb he hpl) w
theorem ro1 {K : PySem.W.Frag} {L : Lay} {H : Hp} {vs : List V} {x : D} (r : RepOs K L H vs [x]) : ∃ v, vs = [v] ∧ RepO K L H v x := by
  cases r with | cons a b => cases b; exact ⟨_, rfl, a⟩
theorem ro2 {K : PySem.W.Frag} {L : Lay} {H : Hp} {vs : List V} {x y : D} (r : RepOs K L H vs [x, y]) : ∃ v u, vs = [v, u] ∧ RepO K L H v x ∧ RepO K L H u y := by
  cases r with | cons a b => cases b with | cons b c => cases c; exact ⟨_, _, rfl, a, b⟩

def asT : D → Option (List D)
  | .tup xs => some xs
  | _ => none
def asS (h : Hs) (d : D) : Option (List D) := match asT d with
  | some xs => some xs
  | none => asL h d
theorem asS_ok {K : PySem.W.Frag} {L : Lay} {H : Hp} {h : Hs} {v : V} {d : D} {xs : List D} (s : HRel K L H h) (r : RepO K L H v d) (e : asS h d = some xs) :
    ∃ p vs, v = .ref p ∧ ((d = .tup xs ∧ SqT K L.F p vs ∧ SqT K H p vs) ∨ (SqL K H p vs ∧ H p = some (.lst vs))) ∧ Reps K L vs xs := by
  unfold asS at e
  split at e
  · rename_i ys ey
    cases e
    cases d with
    | tup zs =>
      cases ey
      obtain ⟨p, vs, e1, f, t, rr⟩ := r.tup s
      exact ⟨p, vs, e1, .inl ⟨rfl, f, t⟩, rr⟩
    | _ => cases ey
  · obtain ⟨p, vs, e1, t, rr⟩ := asL_ok s r e
    exact ⟨p, vs, e1, .inr ⟨.of t, t⟩, rr⟩
def gLen : GL := fun h xs => match xs with
  | [.str l] => if l.length ≤ sizeLine then some (.int l.length) else none
  | [x] => (asS h x).map fun ys => .int ys.length
  | _ => none
theorem calls_len : CallS X (.builtin "len") gLen := by
  refine ⟨_, call_len, fun L H h xs vs d Q s p e k => ?_⟩
  unfold gLen at e
  split at e
  · split at e
    · cases e
      obtain ⟨v, rfl, r⟩ := ro1 p
      obtain ⟨z, rfl, e1, n1, _⟩ := r.str
      refine ⟨_, z.length, rfl, ⟨by rw [n1]; assumption, rfl⟩, ?_⟩
      rw [n1]
      exact k L H _ Le.refl s (.int _)
    · cases e
  · obtain ⟨ys, e9, e8⟩ := Option.map_eq_some_iff.mp e; subst e8; clear e; have e := e9
    obtain ⟨v, rfl, r⟩ := ro1 p
    obtain ⟨q, vs, rfl, h1, rr⟩ := asS_ok s r e
    refine ⟨_, ys.length, rfl, ?_, k L H _ Le.refl s (.int _)⟩
    rcases h1 with ⟨_, _, h1⟩ | ⟨h1, _⟩
    · exact .inr ⟨vs, h1, rr.length.symm⟩
    · exact .inl ⟨vs, h1, rr.length.symm⟩
  · cases e
def gInt : GL := fun _ xs => match xs with
  | [.int i] => some (.int i)
  | [.bl b] => some (.int (if b then 1 else 0))
  | _ => none
theorem calls_intI : CallS X (.type "int") gInt := by
  refine ⟨_, call_int1, fun L H h xs vs d Q s p e k => ?_⟩
  unfold gInt at e
  split at e
  · cases e
    obtain ⟨v, rfl, r⟩ := ro1 p
    exact .inl ⟨_, by rw [r.int], k L H _ Le.refl s (.int _)⟩
  · cases e
    obtain ⟨v, rfl, r⟩ := ro1 p
    exact .inr ⟨_, by rw [r.bl], k L H _ Le.refl s (.int _)⟩
  · cases e
def gIntS : GL := fun _ xs => match xs with
  | [.str l] => if l.length ≤ 640 then (PySem.intText? ⟨l.toArray⟩).map .int else none
  | _ => none
theorem calls_intS : CallS X (.type "int") gIntS := by
  refine ⟨_, call_int_str, fun L H h xs vs d Q s p e k => ?_⟩
  unfold gIntS at e
  split at e
  · split at e
    · obtain ⟨n, e9, e8⟩ := Option.map_eq_some_iff.mp e; subst e8; clear e; have e := e9
      obtain ⟨v, rfl, r⟩ := ro1 p
      obtain ⟨z, rfl, e1, n1, _⟩ := r.str
      refine ⟨z, n, rfl, ?_, by rw [n1]; assumption, k L H _ Le.refl s (.int _)⟩
      rw [← e1] at e
      simpa using e
    · cases e
  · cases e
def strI (i : Int) : List Nat := (toString i).toList.map Char.toNat
def gStrI : GL := fun _ xs => match xs with
  | [.int i] => if i.natAbs.log2 < 1920 then some (.str (strI i)) else none
  | _ => none
theorem cps_str (z : String) : (Str.ofString z).cps.toList = z.toList.map Char.toNat := by rw [Str.ofString_eq_toList]
theorem char_ok (z : String) : ∀ c ∈ z.toList.map Char.toNat, c < 0x110000 := by
  intro c hc
  obtain ⟨ch, _, rfl⟩ := List.mem_map.mp hc
  have := ch.valid
  have h2 : ch.toNat = ch.val.toNat := rfl
  rcases this with h | h
  · have : ch.val.toNat < 55296 := h
    omega
  · have : ch.val.toNat < 1114112 := h.2
    omega
theorem calls_strI : CallS X (.type "str") gStrI := by
  refine ⟨_, call_str_int, fun L H h xs vs d Q s p e k => ?_⟩
  unfold gStrI at e
  split at e
  · split at e
    · cases e
      obtain ⟨v, rfl, r⟩ := ro1 p
      exact ⟨_, by rw [r.int], by assumption, k L H _ Le.refl s (.str' (cps_str _) (char_ok _))⟩
    · cases e
  · cases e
def gMin2 : GL := fun _ xs => match xs with
  | [.int i, .int j] => some (.int (if j < i then j else i))
  | _ => none
def gMax2 : GL := fun _ xs => match xs with
  | [.int i, .int j] => some (.int (if j > i then j else i))
  | _ => none
theorem calls_min2 (hc : X.calm = true) : CallS X (.builtin "min") gMin2 := by
  refine ⟨_, call_min2 hc, fun L H h xs vs d Q s p e k => ?_⟩
  unfold gMin2 at e
  split at e
  · cases e
    obtain ⟨v, u, rfl, r, r'⟩ := ro2 p
    exact ⟨_, _, by rw [r.int, r'.int], k L H _ Le.refl s (.int _)⟩
  · cases e
theorem calls_max2 (hc : X.calm = true) : CallS X (.builtin "max") gMax2 := by
  refine ⟨_, call_max2 hc, fun L H h xs vs d Q s p e k => ?_⟩
  unfold gMax2 at e
  split at e
  · cases e
    obtain ⟨v, u, rfl, r, r'⟩ := ro2 p
    exact ⟨_, _, by rw [r.int, r'.int], k L H _ Le.refl s (.int _)⟩
  · cases e
def gSum : GL := fun h xs => match xs with
  | [x] => ((asL h x).bind toInts).map fun ns => .int ns.sum
  | _ => none
theorem asInts_ok {K : PySem.W.Frag} {L : Lay} {H : Hp} {h : Hs} {v : V} {d : D} {ns : List Int} (s : HRel K L H h) (r : RepO K L H v d) (e : (asL h d).bind toInts = some ns) : ∃ p, v = .ref p ∧ SqL K H p (ns.map V.int) := by
  cases e1 : asL h d with
  | none => rw [e1] at e; cases e
  | some ys =>
    rw [e1] at e
    obtain ⟨p, vs, rfl, t, rr⟩ := asL_ok s r e1
    have := toInts_ok rr e
    subst this
    exact ⟨p, rfl, .of t⟩
theorem calls_sum (hc : X.calm = true) : CallS X (.builtin "sum") gSum := by
  refine ⟨_, cr_sum hc, fun L H h xs vs d Q s p e k => ?_⟩
  unfold gSum at e
  split at e
  · obtain ⟨ns, e9, e8⟩ := Option.map_eq_some_iff.mp e; subst e8; clear e; have e := e9
    obtain ⟨v, rfl, r⟩ := ro1 p
    obtain ⟨q, rfl, t⟩ := asInts_ok s r e
    exact ⟨q, ns, rfl, t, k L H _ Le.refl s (.int _)⟩
  · cases e
def toBls : List D → Option (List Bool)
  | [] => some []
  | .bl i :: r => (toBls r).map (i :: ·)
  | _ :: _ => none
theorem toBls_ok {K : PySem.W.Frag} {L : Lay} : ∀ {ds : List D} {vs : List V} {ns : List Bool}, Reps K L vs ds → toBls ds = some ns → vs = ns.map V.bl
  | [], _, _, r, e => by cases r; cases e; rfl
  | d :: ds, _, ns, r, e => by
    cases r with
    | cons p q =>
      cases d with
      | bl i =>
        simp only [toBls, Option.map_eq_some_iff] at e
        obtain ⟨ms, e, rfl⟩ := e
        cases p
        rw [toBls_ok q e]
        rfl
      | _ => simp [toBls] at e
theorem asBls_ok {K : PySem.W.Frag} {L : Lay} {H : Hp} {h : Hs} {v : V} {d : D} {ns : List Bool} (s : HRel K L H h) (r : RepO K L H v d) (e : (asL h d).bind toBls = some ns) : ∃ p, v = .ref p ∧ SqL K H p (ns.map V.bl) := by
  cases e1 : asL h d with
  | none => rw [e1] at e; cases e
  | some ys =>
    rw [e1] at e
    obtain ⟨p, vs, rfl, t, rr⟩ := asL_ok s r e1
    have := toBls_ok rr e
    subst this
    exact ⟨p, rfl, .of t⟩
def gAll : GL := fun h xs => match xs with
  | [x] => ((asL h x).bind toBls).map fun ns => .bl (ns.all id)
  | _ => none
def gAny : GL := fun h xs => match xs with
  | [x] => ((asL h x).bind toBls).map fun ns => .bl (ns.any id)
  | _ => none
theorem calls_all (hc : X.calm = true) : CallS X (.builtin "all") gAll := by
  refine ⟨_, cr_all hc, fun L H h xs vs d Q s p e k => ?_⟩
  unfold gAll at e
  split at e
  · obtain ⟨ns, e9, e8⟩ := Option.map_eq_some_iff.mp e; subst e8; clear e; have e := e9
    obtain ⟨v, rfl, r⟩ := ro1 p
    obtain ⟨q, rfl, t⟩ := asBls_ok s r e
    exact ⟨q, ns, rfl, t, k L H _ Le.refl s (.bl _)⟩
  · cases e
theorem calls_any (hc : X.calm = true) : CallS X (.builtin "any") gAny := by
  refine ⟨_, cr_any hc, fun L H h xs vs d Q s p e k => ?_⟩
  unfold gAny at e
  split at e
  · obtain ⟨ns, e9, e8⟩ := Option.map_eq_some_iff.mp e; subst e8; clear e; have e := e9
    obtain ⟨v, rfl, r⟩ := ro1 p
    obtain ⟨q, rfl, t⟩ := asBls_ok s r e
    exact ⟨q, ns, rfl, t, k L H _ Le.refl s (.bl _)⟩
  · cases e
def gTuple : GL := fun h xs => match xs with
  | [x] => (asS h x).map .tup
  | _ => none
theorem calls_tuple : CallS X (.type "tuple") gTuple := by
  refine ⟨_, call_tuple_of, fun L H h xs vs d Q s p e k => ?_⟩
  unfold gTuple at e
  split at e
  · obtain ⟨ys, e9, e8⟩ := Option.map_eq_some_iff.mp e; subst e8; clear e; have e := e9
    obtain ⟨v, rfl, r⟩ := ro1 p
    obtain ⟨q, vs, rfl, h1, rr⟩ := asS_ok s r e
    refine ⟨q, vs, rfl, ?_⟩
    rcases h1 with ⟨rfl, h0, h1⟩ | ⟨h1, _⟩
    · exact .inr ⟨h1, k L H _ Le.refl s (.tup h0 rr)⟩
    · exact .inl ⟨h1, fun l hl => k _ _ _ (le_put s hl) (s.put hl) (.tup put_sqT (rr.le (le_put s hl)))⟩
  · cases e
def gList : GL := fun h xs => match xs with
  | [.scr ys] => some (.lst ys)
  | [x] => (asS h x).map .lst
  | _ => none
theorem calls_list : CallS X (.type "list") gList := by
  refine ⟨_, call_list_of, fun L H h xs vs d Q s p e k => ?_⟩
  unfold gList at e
  split at e
  · cases e
    obtain ⟨v, rfl, r⟩ := ro1 p
    rcases r with r | ⟨_, e, _⟩ | ⟨_, e, _⟩
    · cases r with
      | scr f r => exact ⟨_, _, rfl, .inl (s.sqL f), fun l hl => k _ _ _ (le_put s hl) (s.put hl) (.lst upd_same (r.le (le_put s hl)))⟩
    · cases e
    · cases e
  · obtain ⟨ys, e9, e8⟩ := Option.map_eq_some_iff.mp e; subst e8; clear e; have e := e9
    obtain ⟨v, rfl, r⟩ := ro1 p
    obtain ⟨q, vs, rfl, h1, rr⟩ := asS_ok s r e
    refine ⟨q, vs, rfl, ?_, fun l hl => k _ _ _ (le_put s hl) (s.put hl) (.lst upd_same (rr.le (le_put s hl)))⟩
    rcases h1 with ⟨_, _, h1⟩ | ⟨h1, _⟩
    · exact .inr h1
    · exact .inl h1
  · cases e

def atD (h : Hs) (x y : D) : Option D := match y with
  | .int i => match x with
    | .str l => if l.length ≤ sizeLine then (atI l i).map fun c => .str [c] else none
    | x => (asS h x).bind fun xs => atI xs i
  | _ => none
def IxS (X : Cx) (g : G2) : Prop :=
  ∃ r : R2, IxR X r ∧ ∀ (L : Lay) (H : Hp) (h : Hs) (x y : D) (v u : V) (d : D) (Q : VK), HRel X.K L H h → RepO X.K L H v x → RepO X.K L H u y → g h x y = some d →
    (∀ L' H' w, Le0 L H L' H' → HRel X.K L' H' h → Rep X.K L' w d → Q w H') → r v u H Q
theorem atI_reps {K : PySem.W.Frag} {L : Lay} {vs : List V} {ds : List D} {d : D} {i : Int} (r : Reps K L vs ds) (e : atI ds i = some d) : ∃ v, atI vs i = some v ∧ Rep K L v d := by
  unfold atI at e ⊢
  rw [r.length]
  cases e1 : ixN ds.length i with
  | none => rw [e1] at e; cases e
  | some j =>
    rw [e1] at e
    obtain ⟨v, e2, q⟩ := r.get (show ds[j]? = some d from e)
    exact ⟨v, e2, q⟩
theorem atI_mem {α : Type} {xs : List α} {i : Int} {v : α} (h : atI xs i = some v) : v ∈ xs := by
  obtain ⟨j, _, e, _⟩ := atI_get h
  exact List.mem_of_getElem? e
theorem ixs_seq : IxS X atD := by
  refine ⟨_, ix_seq, fun L H h x y v u d Q s p q e k => ?_⟩
  unfold atD at e
  split at e
  · rename_i i
    split at e
    · rename_i l
      split at e
      · obtain ⟨c, e9, e8⟩ := Option.map_eq_some_iff.mp e; subst e8; clear e; have e := e9
        obtain ⟨z, rfl, e1, n1, o1⟩ := p.str
        refine .inr (.inr ⟨z, i, c, rfl, q.int, by rw [n1]; assumption, by rw [e1]; exact e, k L H _ Le.refl s (.str' rfl ?_)⟩)
        intro c' hc
        have : c' = c := by simpa using hc
        subst this
        exact o1 _ (atI_mem e)
      · cases e
    · cases e1 : asS h x with
      | none => rw [e1] at e; cases e
      | some xs =>
        rw [e1] at e
        obtain ⟨q', vs, rfl, h1, rr⟩ := asS_ok s p e1
        obtain ⟨w, e2, r2⟩ := atI_reps rr e
        have fin := k L H w Le.refl s r2
        rcases h1 with ⟨_, _, h1⟩ | ⟨h1, _⟩
        · exact .inr (.inl ⟨q', vs, i, w, rfl, q.int, h1, e2, fin⟩)
        · exact .inl ⟨q', vs, i, w, rfl, q.int, h1, e2, fin⟩
  · cases e
theorem snd_ix {g : G2} {ma mb : EM} (ho : IxS X g) (ha : SndO X a ma) (hb : SndO X b mb) (hp : PlainIx b) : SndE X (.Subscript a b pos) (eOp g ma mb) := by
  obtain ⟨r, hr, hs⟩ := ho
  refine weakE (pe_ix hr ha hb hp) fun σV H Q ⟨L, σ, h, d, h', hr, sr, em, k⟩ => ?_
  obtain ⟨x, h1, e1, em⟩ := bind_some em
  obtain ⟨y, h2, e2, em⟩ := bind_some em
  obtain ⟨em2, eh⟩ := optR_ok em
  subst eh
  refine ⟨L, σ, h, x, h1, hr, sr, e1, fun L1 H1 v1 l1 r1 q1 => ⟨L1, σ, h1, y, h2, r1, sr.le l1, e2, fun L2 H2 v2 l2 r2 q2 => ?_⟩⟩
  exact hs L2 H2 h2 x y v1 v2 d Q r2 (q1.le l2) q2 em2 fun L3 H3 w l3 r3 q3 => k L3 H3 w ((l1.trans0 l2).trans0 l3) r3 q3

def cutL {α : Type} (xs : List α) (lo hi : Option Int) : List α := (xs.drop (HT.sIx xs.length 0 lo)).take (HT.sIx xs.length xs.length hi - HT.sIx xs.length 0 lo)
abbrev OM := Sg → Hs → R (Option Int)
def oNone : OM := fun _ h => .ok none h
def oSome (m : EM) : OM := fun σ h => (m σ h).bind fun d h1 => match d with
  | .int i => .ok (some i) h1
  | _ => .bad
def RdP (K : PySem.W.Frag) (m : OM) : TO := fun σV H Q => ∃ (L : Lay) (σ : Sg) (h : Hs) (d : Option Int) (h' : Hs), HRel K L H h ∧ SRel K L H σV σ ∧ m σ h = .ok d h' ∧
  ∀ L' H', Le0 L H L' H' → HRel K L' H' h' → Q d H'
def SndP (X : Cx) (e : Option Expr) (m : OM) : Prop := PO X e (RdP X.K m)
theorem sndP_none : SndP X none oNone := weakO po_none fun σV H Q ⟨L, σ, h, d, h', hr, sr, em, k⟩ => by cases em; exact k L H Le.refl hr
theorem sndP_some {m : EM} (h : SndE X e m) : SndP X (some e) (oSome m) := by
  refine weakO (po_some h) fun σV H Q ⟨L, σ, h, d, h', hr, sr, em, k⟩ => ?_
  obtain ⟨x, h1, e1, em⟩ := bind_some em
  refine ⟨L, σ, h, x, h1, hr, sr, e1, fun L1 H1 v1 l1 r1 q1 => ?_⟩
  cases x with
  | int i => cases q1; cases em; exact ⟨i, rfl, k L1 H1 l1 r1⟩
  | _ => cases em
def sliceD (h : Hs) (x : D) (lo hi : Option Int) : Option D := match x with
  | .str l => if l.length ≤ sizeLine then some (.str (cutL l lo hi)) else none
  | .tup xs => some (.tup (cutL xs lo hi))
  | x => (asL h x).map fun xs => .lst (cutL xs lo hi)
def eSlice (m : EM) (lo hi : OM) : EM := fun σ h => (m σ h).bind fun x h1 => (lo σ h1).bind fun l h2 => (hi σ h2).bind fun u h3 => optR (sliceD h3 x l u) h3
theorem cut_reps {K : PySem.W.Frag} {L : Lay} {vs : List V} {ds : List D} (r : Reps K L vs ds) (lo hi : Option Int) : Reps K L (cutV vs lo hi) (cutL ds lo hi) := by
  unfold cutV cutL
  rw [r.length]
  exact (r.drop _).take _
theorem cut_whole {α : Type} {xs : List α} {lo hi : Option Int} (h : HT.sIx xs.length 0 lo = 0 ∧ HT.sIx xs.length xs.length hi = xs.length) : cutL xs lo hi = xs := by
  unfold cutL
  rw [h.1, h.2]
  simp
theorem cutS_list (z : Str) (lo hi : Option Int) : (cutS z lo hi).cps.toList = cutL z.cps.toList lo hi := by
  unfold cutS cutL
  simp [Str.length]
theorem snd_slice {lo hi : Option Expr} {m : EM} {ml mh : OM} {p2 : Pos} (he : SndO X e m) (hl : SndP X lo ml) (hu : SndP X hi mh) : SndE X (.Subscript e (.Slice lo hi none p2) pos) (eSlice m ml mh) := by
  refine weakE (pe_slice (sl_list.or (sl_tupA.or sl_str)) he hl hu) fun σV H Q ⟨L, σ, h, d, h', hr, sr, em, k⟩ => ?_
  obtain ⟨x, h1, e1, em⟩ := bind_some em
  obtain ⟨l, h2, e2, em⟩ := bind_some em
  obtain ⟨u, h3, e3, em⟩ := bind_some em
  obtain ⟨em2, eh⟩ := optR_ok em
  subst eh
  refine ⟨L, σ, h, x, h1, hr, sr, e1, fun L1 H1 v1 l1 r1 q1 => ⟨L1, σ, h1, l, h2, r1, sr.le l1, e2, fun L2 H2 l2 r2 => ⟨L2, σ, h2, u, h3, r2, (sr.le l1).le l2, e3, fun L3 H3 l3 r3 => ?_⟩⟩⟩
  have q3 := (q1.le l2).le l3
  have ll := (l1.trans0 l2).trans0 l3
  unfold sliceD at em2
  split at em2
  · split at em2
    · cases em2
      obtain ⟨z, rfl, e1, n1, o1⟩ := q3.str
      refine .inr (.inr ⟨z, rfl, by rw [n1]; assumption, k L3 H3 _ ll r3 (.str' (by rw [cutS_list, e1]) fun c hc => o1 c ?_)⟩)
      exact List.mem_of_mem_drop (List.mem_of_mem_take hc)
    · cases em2
  · cases em2
    obtain ⟨p, vs, rfl, f, t, rr⟩ := q3.tup r3
    refine .inr (.inl ⟨p, vs, rfl, t, fun w => ?_, fun _ pp hp => ?_⟩)
    · rw [rr.length] at w
      exact k L3 H3 _ ll r3 (by rw [cut_whole w]; exact .tup f rr)
    · exact k _ _ _ (ll.trans0 (le_put r3 hp)) (r3.put hp) (.tup put_sqT ((cut_reps rr _ _).le (le_put r3 hp)))
  · obtain ⟨xs, ex, e8⟩ := Option.map_eq_some_iff.mp em2; subst e8
    obtain ⟨p, vs, rfl, t, rr⟩ := asL_ok r3 q3 ex
    exact .inl ⟨p, vs, rfl, .of t, fun pp hp => k _ _ _ (ll.trans0 (le_put r3 hp)) (r3.put hp) (.lst upd_same ((cut_reps rr _ _).le (le_put r3 hp)))⟩

inductive Ty where
  | int | bool | str | tuple | list
  deriving DecidableEq
def Ty.name : Ty → String
  | .int => "int"
  | .bool => "bool"
  | .str => "str"
  | .tuple => "tuple"
  | .list => "list"
def isTy : Ty → D → Bool
  | .int, .int _ => true
  | .int, .bl _ => true
  | .bool, .bl _ => true
  | .str, .str _ => true
  | .tuple, .tup _ => true
  | .list, .lst _ => true
  | _, _ => false
def tyOk : D → Bool
  | .ref _ => false
  | .scr _ => false
  | _ => true
def tyN : D → String
  | .non => "NoneType"
  | .bl _ => "bool"
  | .int _ => "int"
  | .str _ => "str"
  | .tup _ => "tuple"
  | .lst _ => "list"
  | .dct _ => "dict"
  | _ => ""
theorem kit_tbl : ∀ (T : Ty), kitB "NoneType" T.name = some false ∧ kitB "bool" T.name = some (T == .int || T == .bool) ∧ kitB "int" T.name = some (T == .int) ∧ kitB "str" T.name = some (T == .str) ∧
    kitB "tuple" T.name = some (T == .tuple) ∧ kitB "list" T.name = some (T == .list) ∧ kitB "dict" T.name = some false := by
  intro T
  cases T <;> decide +kernel
theorem kit_is {d : D} (T : Ty) (h : tyOk d = true) : kitB (tyN d) T.name = some (isTy T d) := by
  obtain ⟨h1, h2, h3, h4, h5, h6, h7⟩ := kit_tbl T
  cases d <;> first | (simp [tyOk] at h; done) | skip
  · rw [show tyN .non = "NoneType" from rfl, h1]; cases T <;> rfl
  · rw [show tyN (.bl _) = "bool" from rfl, h2]; cases T <;> rfl
  · rw [show tyN (.int _) = "int" from rfl, h3]; cases T <;> rfl
  · rw [show tyN (.str _) = "str" from rfl, h4]; cases T <;> rfl
  · rw [show tyN (.tup _) = "tuple" from rfl, h5]; cases T <;> rfl
  · rw [show tyN (.lst _) = "list" from rfl, h6]; cases T <;> rfl
  · rw [show tyN (.dct _) = "dict" from rfl, h7]; cases T <;> rfl
theorem rd_ty {K : PySem.W.Frag} {L : Lay} {H : Hp} {h : Hs} {v : V} {d : D} (s : HRel K L H h) (r : RepO K L H v d) (e : tyOk d = true) : TyX K H v (.type (tyN d)) := by
  rcases r with r | ⟨xs, rfl, r⟩ | ⟨kvs, rfl, r⟩
  · cases r with
    | non => exact .base .non
    | bl b => exact .base (.bl b)
    | int i => exact .base (.int i)
    | str s _ => exact .base (.str s)
    | tup f r =>
      rcases s.sqT f with (f | ⟨o, f⟩) | ⟨o, _, _, hk, hc, _⟩
      · exact .base (.tup f)
      · exact .fTuple f
      · exact .kTuple hk hc
    | lst f r => exact .base (.lst (s.sub _ _ f))
    | dct f r =>
      rcases f with ⟨kvs, f | ⟨o, f⟩, _⟩ | ⟨kvs, f, _⟩
      · exact .base (.dK (s.sub _ _ f))
      · exact .fDict (s.sub _ _ f)
      · exact .base (.dT (s.sub _ _ f))
    | ref _ => cases e
    | scr _ _ => cases e
  · obtain ⟨p, vs, e1, f, _⟩ := r
    cases e1
    exact .base (.lst f)
  · obtain ⟨p, ks, vs, e1, ⟨o, e2, mu⟩, f, _⟩ := r
    cases e1
    rcases f with ⟨kvs, f | ⟨o', f⟩, _⟩ | ⟨kvs, f, _⟩
    · exact .base (.dK f)
    · exact .fDict f
    · exact .base (.dT f)
end
end WC
set_option Elab.async false
set_option linter.all false
set_option maxRecDepth 100000
namespace WC
open PySem PySem.Spec PyProof.Rows L2
section
variable {X : Cx} {e o a b : Expr} {es : List Expr} {pos : Pos}

def eIsI (Ts : List Ty) (m : EM) : EM := fun σ h => (m σ h).bind fun d h1 => if tyOk d then .ok (.bl (Ts.any fun T => isTy T d)) h1 else .bad
theorem rd_isi {Ts : List Ty} {m : EM} {σV : Sv} {H : Hp} {Q : VK} (q : RdE X.K (eIsI Ts m) σV H Q) : RdO X.K m σV H fun v H1 => ∃ d, tyOk d = true ∧ ∀ H2, (H2 = H1 ∨ ∃ p o, H1 p = none ∧ H2 = upd H1 p o) → TyX X.K H2 v (.type (tyN d)) ∧ Q (.bl (Ts.any fun T => isTy T d)) H2 := by
  obtain ⟨L, σ, h, d, h', hr, sr, em, k⟩ := q
  obtain ⟨x, h1, e1, em⟩ := bind_some em
  obtain ⟨ht, e2, e3⟩ := ite_ok em
  subst e2; subst e3
  refine ⟨L, σ, h, x, h1, hr, sr, e1, fun L1 H1 v1 l1 r1 q1 => ⟨x, ht, fun H2 hh => ?_⟩⟩
  rcases hh with rfl | ⟨p, ob, hp, rfl⟩
  · exact ⟨rd_ty r1 q1 ht, k L1 H2 _ l1 r1 (.bl _)⟩
  · exact ⟨rd_ty (r1.put hp) (q1.le (le_put r1 hp)) ht, k _ _ _ (l1.trans0 (le_put r1 hp)) (r1.put hp) (.bl _)⟩
theorem snd_isi1 {T : Ty} {m : EM} {x y : Str} {p p2 : Pos} (he : SndO X e m) (hg : Gl X x) (hm : X.mg x = none) (hx : x = ("isinstance" : Str)) (hg2 : Gl X y) (hm2 : X.mg y = none) (hy : bootBuiltins y = some (.type T.name)) (hn : y ≠ "__name__") (hd : (y == ("__debug__" : Str)) = false)
    (hs : starEach [e, .Name y p2] X.env = [(false, eval e X.env), (false, eval (.Name y p2) X.env)]) : SndE X (.Call (.Name x p) [e, .Name y p2] [] pos) (eIsI [T] m) := by
  subst hx
  have hs2 : starEach [Expr.Name y p2] X.env = [(false, eval (.Name y p2) X.env)] := rfl
  refine weakE (pe_callB call_isi hg hm (by decide +kernel) (pa_cons he (pa_cons (pe_bltn hg2 hm2 hy (v := .ty T.name) rfl hn hd) pa_nil) (by rw [hs, hs2])) (by decide) (by decide) (by rw [hs, hs2]) (by rw [hs2]; rfl)) fun σV H Q q => ?_
  obtain ⟨L, σ, h, d, h', hr, sr, em, k⟩ := rd_isi q
  refine ⟨L, σ, h, d, h', hr, sr, em, fun L1 H1 v1 l1 r1 q1 => ?_⟩
  obtain ⟨d1, ok, fin⟩ := k L1 H1 v1 l1 r1 q1
  obtain ⟨ty, fin⟩ := fin H1 (.inl rfl)
  refine ⟨v1, .ty T.name, _, .type T.name, isTy T d1, rfl, .ty _, ty, kit_ty (kit_is T ok), ?_⟩
  simpa using fin
theorem snd_isi2 {T T' : Ty} {m : EM} {x y z : Str} {p p2 p3 pt : Pos} {k : Nat} (he : SndO X e m) (hg : Gl X x) (hm : X.mg x = none) (hx : x = ("isinstance" : Str)) (hg2 : Gl X y) (hm2 : X.mg y = none) (hy : bootBuiltins y = some (.type T.name)) (hn : y ≠ "__name__") (hd : (y == ("__debug__" : Str)) = false)
    (hg3 : Gl X z) (hm3 : X.mg z = none) (hz : bootBuiltins z = some (.type T'.name)) (hn3 : z ≠ "__name__") (hd3 : (z == ("__debug__" : Str)) = false)
    (hs : starEach [e, .Tuple [.Name y p2, .Name z p3] k pt] X.env = [(false, eval e X.env), (false, eval (.Tuple [.Name y p2, .Name z p3] k pt) X.env)]) : SndE X (.Call (.Name x p) [e, .Tuple [.Name y p2, .Name z p3] k pt] [] pos) (eIsI [T, T'] m) := by
  subst hx
  have hs2 : starEach [Expr.Tuple [.Name y p2, .Name z p3] k pt] X.env = [(false, eval (.Tuple [.Name y p2, .Name z p3] k pt) X.env)] := rfl
  refine weakE (pe_callB call_isiT hg hm (by decide +kernel) (pa_cons he (pa_cons (pe_tup (pa_cons (pe_bltn hg2 hm2 hy (v := .ty T.name) rfl hn hd) (pa_cons (pe_bltn hg3 hm3 hz (v := .ty T'.name) rfl hn3 hd3) pa_nil))) pa_nil) (by rw [hs, hs2])) (by decide) (by decide) (by rw [hs, hs2]) (by rw [hs2]; rfl)) fun σV H Q q => ?_
  obtain ⟨L, σ, h, d, h', hr, sr, em, k⟩ := rd_isi q
  refine ⟨L, σ, h, d, h', hr, sr, em, fun L1 H1 v1 l1 r1 q1 => ?_⟩
  obtain ⟨d1, ok, fin⟩ := k L1 H1 v1 l1 r1 q1
  refine ⟨by show 2 ≤ sizeLine; decide, fun pp hp => ?_⟩
  obtain ⟨ty', fin⟩ := fin (upd H1 pp (.tup [.ty T.name, .ty T'.name])) (.inr ⟨pp, _, hp, rfl⟩)
  refine ⟨v1, pp, _, _, [.type T.name, .type T'.name], isTy T d1 || isTy T' d1, rfl, upd_same, .cons (.ty _) (.cons (.ty _) .nil), ty', kitAny_cons (kit_ty (kit_is T ok)) (fun e => ?_) (fun e => by rw [e]; rfl), ?_⟩
  · rw [e, Bool.false_or]
    exact kitAny_cons (kit_ty (kit_is T' ok)) (fun e => by rw [e]; exact kitAny_nil) (fun e => e)
  · simpa using fin

def fmtD : D → Option (List Nat)
  | .int i => if i.natAbs.log2 < 1920 then some (strI i) else none
  | .str l => if l.length ≤ sizeLine then some l else none
  | _ => none
def eFmt (m : EM) : EM := fun σ h => (m σ h).bind fun d h1 => optR ((fmtD d).map .str) h1
theorem snd_fmt {m : EM} (h : SndE X e m) : SndE X (.FormattedValue e (-1) none pos) (eFmt m) := by
  refine weakE (pe_fmt h) fun σV H Q ⟨L, σ, h, d, h', hr, sr, em, k⟩ => ?_
  obtain ⟨x, h1, e1, em⟩ := bind_some em
  obtain ⟨em2, eh⟩ := optR_ok em
  subst eh
  refine ⟨L, σ, h, x, h1, hr, sr, e1, fun L1 H1 v1 l1 r1 q1 => ?_⟩
  obtain ⟨l, e9, e8⟩ := Option.map_eq_some_iff.mp em2
  subst e8
  cases x with
  | int i =>
    simp only [fmtD] at e9
    split at e9
    · cases e9; cases q1
      exact .inr ⟨i, rfl, by assumption, k L1 H1 _ l1 r1 (.str' (cps_str _) (char_ok _))⟩
    · cases e9
  | str z =>
    simp only [fmtD] at e9
    split at e9
    · rename_i hz
      cases e9
      cases q1 with
      | str s ok => exact .inl ⟨s, rfl, by simpa [Str.length] using hz, k L1 H1 _ l1 r1 (.str s ok)⟩
    · cases e9
  | _ => simp [fmtD] at e9
def eParts : List EM → List Nat → Sg → Hs → R (List Nat)
  | [], acc, _, h => .ok acc h
  | m :: ms, acc, σ, h => (m σ h).bind fun d h1 => match d with
    | .str l => if acc.length + l.length ≤ sizeLine then eParts ms (acc ++ l) σ h1 else .bad
    | _ => .bad
inductive SndJ (X : Cx) : List Expr → List EM → Prop where
  | nil : SndJ X [] []
  | cons {e : Expr} {m : EM} {es : List Expr} {ms : List EM} (h : SndE X e m) (r : SndJ X es ms) : SndJ X (e :: es) (m :: ms)
theorem SndJ.pj {ms : List EM} (h : SndJ X es ms) : PJ X es (ms.map (RdE X.K)) := by
  induction h with
  | nil => exact .nil
  | cons h r ih => exact .cons h ih
theorem parts_rd : ∀ (ms : List EM) (acc : Str) (L : Lay) (σV : Sv) (σ : Sg) (H : Hp) (h h' : Hs) (out : List Nat) (Q : Str → Hp → Prop), HRel X.K L H h → SRel X.K L H σV σ → (∀ c ∈ acc.cps.toList, c < 0x110000) → eParts ms acc.cps.toList σ h = .ok out h' →
    (∀ L' H' z, Le0 L H L' H' → HRel X.K L' H' h' → z.cps.toList = out → (∀ c ∈ out, c < 0x110000) → Q z H') → tJs (ms.map (RdE X.K)) acc σV H Q
  | [], acc, L, σV, σ, H, h, h', out, Q, hr, sr, ok, em, k => by
    cases em
    exact k L H acc Le.refl hr rfl ok
  | m :: ms, acc, L, σV, σ, H, h, h', out, Q, hr, sr, ok, em, k => by
    obtain ⟨x, h1, e1, em⟩ := bind_some em
    refine ⟨L, σ, h, x, h1, hr, sr, e1, fun L1 H1 v1 l1 r1 q1 => ?_⟩
    cases x with
    | str l =>
      have em : (if acc.cps.toList.length + l.length ≤ sizeLine then eParts ms (acc.cps.toList ++ l) σ h1 else R.bad) = .ok out h' := em
      by_cases hz : acc.cps.toList.length + l.length ≤ sizeLine
      · rw [if_pos hz] at em
        cases q1 with
        | str s ok2 =>
          have ea : (acc ++ s).cps.toList = acc.cps.toList ++ s.cps.toList := by show (acc.cps ++ s.cps).toList = _; simp
          refine ⟨s, rfl, by rw [show (acc ++ s).length = (acc ++ s).cps.toList.length by simp [Str.length], ea, List.length_append]; exact hz, ?_⟩
          refine parts_rd ms (acc ++ s) L1 σV σ H1 h1 h' out Q r1 (sr.le l1) (fun c hc => ?_) (by rw [ea]; exact em) fun L' H' z l' r' e' o' => k L' H' z (l1.trans0 l') r' e' o'
          rw [ea] at hc
          rcases List.mem_append.mp hc with hc | hc
          · exact ok c hc
          · exact ok2 c hc
      · rw [if_neg hz] at em; cases em
    | _ => cases em
def eJoined (ms : List EM) : EM := fun σ h => (eParts ms [] σ h).bind fun l h1 => .ok (.str l) h1
theorem snd_joined {v1 v2 : Expr} {rest : List Expr} {ms : List EM} (h : SndJ X (v1 :: v2 :: rest) ms) : SndE X (.JoinedStr (v1 :: v2 :: rest) pos) (eJoined ms) := by
  refine weakE (pe_joined h.pj) fun σV H Q ⟨L, σ, h, d, h', hr, sr, em, k⟩ => ?_
  obtain ⟨l, h1, e1, em⟩ := bind_some em
  cases em
  exact parts_rd ms Str.empty L σV σ H h h' l _ hr sr (by simp [Str.empty]) (by simpa [Str.empty] using e1) fun L' H' z l' r' e' o' => k L' H' _ l' r' (.str' e' o')
theorem snd_joined1 {m : EM} (h : SndE X e m) : SndE X (.JoinedStr [e] pos) m := pe_joined1 h

abbrev GM := Hs → D → List D → Option D
inductive MT where
  | str | int | list | dict
def MT.name : MT → String
  | .str => "str"
  | .int => "int"
  | .list => "list"
  | .dict => "dict"
def tyM (T : MT) (h : Hs) (x : D) : Bool := match T with
  | .str => (match x with | .str _ => true | _ => false)
  | .int => (match x with | .int _ => true | _ => false)
  | .list => (asL h x).isSome
  | .dict => false
theorem tyM_ok {K : PySem.W.Frag} {L : Lay} {H : Hp} {h : Hs} {v : V} {x : D} {T : MT} (s : HRel K L H h) (r : RepO K L H v x) (e : tyM T h x = true) : tyV K T.name v H := by
  cases T with
  | str =>
    cases x <;> first | (simp [tyM] at e; done) | skip
    obtain ⟨z, rfl, _⟩ := r.str
    rfl
  | int =>
    cases x <;> first | (simp [tyM] at e; done) | skip
    rw [r.int]
    rfl
  | list =>
    obtain ⟨xs, e⟩ := Option.isSome_iff_exists.mp (show (asL h x).isSome = true from e)
    obtain ⟨p, vs, rfl, t, _⟩ := asL_ok s r e
    exact .inl ⟨rfl, vs, .of t⟩
  | dict => simp [tyM] at e
def MtS (X : Cx) (id : String) (g : GM) : Prop :=
  ∃ r : V → List V → Hp → VK → Prop, MtR X id r ∧ ∀ (L : Lay) (H : Hp) (h : Hs) (x : D) (v : V) (xs : List D) (d : D) (vs : List V) (Q : VK), HRel X.K L H h → RepO X.K L H v x → RepOs X.K L H vs xs → g h x xs = some d →
    (∀ L' H' w, Le0 L H L' H' → HRel X.K L' H' h → Rep X.K L' w d → Q w H') → r v vs H Q
def eMeth (T : MT) (g : GM) (mo : EM) (ms : AM) : EM := fun σ h => (mo σ h).bind fun x h1 => if tyM T h1 x then (ms σ h1).bind fun xs h2 => optR (g h2 x xs) h2 else .bad
theorem eMeth_rd {T : MT} {g : GM} {mo : EM} {ms : AM} {id : String} (hm : MtS X id g) : ∃ r, MtR X id r ∧ ∀ σV H Q, RdE X.K (eMeth T g mo ms) σV H Q → tBM X.K T.name r (RdO X.K mo) (RdAO X.K ms) σV H Q := by
  obtain ⟨r, hr, hs⟩ := hm
  refine ⟨r, hr, fun σV H Q ⟨L, σ, h, d, h', hr, sr, em, k⟩ => ?_⟩
  obtain ⟨x, h1, e1, em⟩ := bind_some em
  by_cases hT : tyM T h1 x = true
  · rw [if_pos hT] at em
    obtain ⟨xs, h2, e2, em⟩ := bind_some em
    obtain ⟨em2, eh⟩ := optR_ok em
    subst eh
    refine ⟨L, σ, h, x, h1, hr, sr, e1, fun L1 H1 v1 l1 r1 q1 => ⟨tyM_ok r1 q1 hT, L1, σ, h1, xs, h2, r1, sr.le l1, e2, fun L2 H2 vs l2 r2 q2 => ?_⟩⟩
    exact hs L2 H2 h2 x v1 xs d vs Q r2 (q1.le l2) q2 em2 fun L3 H3 w l3 r3 q3 => k L3 H3 w ((l1.trans0 l2).trans0 l3) r3 q3
  · rw [if_neg hT] at em; cases em
theorem snd_meth {T : MT} {id : String} {name : Str} {apos cpos : Pos} {g : GM} {mo : EM} {ms : AM} (pa : PlainAttrs T.name) (slot : Slot T.name name id) (hty : typeOf (.builtin id) = pure (.type "method_descriptor")) (hm : MtS X id g) (ho : SndO X o mo) (ha : SndAO X (e :: es) ms)
    (hbase : attributeBase o name X.env (eval o X.env) = eval o X.env)
    (hfew : ((backTo cpos (starEach (e :: es) X.env)).all (fun x => !x.1) && (backToKw cpos (keywordEach [] X.env)).all (fun x => x.1.isSome)
      && decide ((e :: es).length + ([] : List Keyword).length + (if ([] : List Keyword).isEmpty then 0 else 1) < 30)) = true)
    (hline : (apos.endLine == cpos.line) = true) (hs : starEach (e :: es) X.env = (false, eval e X.env) :: starEach es X.env) (hplain : (backTo cpos (starEach es X.env)).any (·.1) = false) :
    SndE X (.Call (.Attribute o name apos) (e :: es) [] cpos) (eMeth T g mo ms) := by
  obtain ⟨r, hr, w⟩ := eMeth_rd (T := T) (mo := mo) (ms := ms) hm
  exact weakE (pe_bm pa slot hty hr ho ha hbase hfew hline hs hplain) w
def eMeth0 (T : MT) (g : GM) (mo : EM) : EM := fun σ h => (mo σ h).bind fun x h1 => if tyM T h1 x then optR (g h1 x []) h1 else .bad
theorem snd_meth0 {T : MT} {id : String} {name : Str} {apos cpos : Pos} {g : GM} {mo : EM} (pa : PlainAttrs T.name) (slot : Slot T.name name id) (hty : typeOf (.builtin id) = pure (.type "method_descriptor")) (hm : MtS X id g) (ho : SndO X o mo)
    (hbase : attributeBase o name X.env (eval o X.env) = eval o X.env) (hline : (apos.endLine == cpos.line) = true) : SndE X (.Call (.Attribute o name apos) [] [] cpos) (eMeth0 T g mo) := by
  obtain ⟨r, hr, hs⟩ := hm
  refine weakE (pe_bm0 pa slot hty hr ho hbase hline) fun σV H Q ⟨L, σ, h, d, h', hr, sr, em, k⟩ => ?_
  obtain ⟨x, h1, e1, em⟩ := bind_some em
  by_cases hT : tyM T h1 x = true
  · rw [if_pos hT] at em
    obtain ⟨em2, eh⟩ := optR_ok em
    subst eh
    exact ⟨L, σ, h, x, h1, hr, sr, e1, fun L1 H1 v1 l1 r1 q1 => ⟨tyM_ok r1 q1 hT, hs L1 H1 h1 x v1 [] d [] Q r1 q1 .nil em2 fun L3 H3 w l3 r3 q3 => k L3 H3 w (l1.trans0 l3) r3 q3⟩⟩
  · rw [if_neg hT] at em; cases em
def joinD (S : List Nat) : List (List Nat) → List Nat
  | [] => []
  | [p] => p
  | p :: q :: r => p ++ (S ++ joinD S (q :: r))
theorem joinD_eq (S : List Nat) : ∀ ps, TL.joinL S ps = joinD S ps
  | [] => rfl
  | [_] => rfl
  | p :: q :: r => by
    show p ++ (S ++ TL.joinL S (q :: r)) = p ++ (S ++ joinD S (q :: r))
    rw [joinD_eq S (q :: r)]
def toStrs : List D → Option (List (List Nat))
  | [] => some []
  | .str i :: r => (toStrs r).map (i :: ·)
  | _ :: _ => none
theorem toStrs_ok {K : PySem.W.Frag} {L : Lay} : ∀ {ds : List D} {vs : List V} {ns : List (List Nat)}, Reps K L vs ds → toStrs ds = some ns → vs = (ns.map SX.S).map V.str ∧ ∀ l ∈ ns, ∀ c ∈ l, c < 0x110000
  | [], _, _, r, e => by cases r; cases e; exact ⟨rfl, by simp⟩
  | d :: ds, _, ns, r, e => by
    cases r with
    | cons p q =>
      cases d with
      | str i =>
        simp only [toStrs, Option.map_eq_some_iff] at e
        obtain ⟨ms, e, rfl⟩ := e
        obtain ⟨e1, e2⟩ := toStrs_ok q e
        cases p with
        | str s ok =>
          refine ⟨by rw [e1]; simp [SX.S], fun l hl => ?_⟩
          rcases List.mem_cons.mp hl with rfl | hl
          · exact ok
          · exact e2 l hl
      | _ => simp [toStrs] at e
def gJoin : GM := fun h x xs => match x, xs with
  | .str a, [y] => ((asS h y).bind toStrs).bind fun ps => if (ps.map (·.length)).sum + ps.length * a.length ≤ 16777216 then some (.str (joinD a ps)) else none
  | _, _ => none
theorem joinD_mem {S : List Nat} {c : Nat} : ∀ {ps : List (List Nat)}, c ∈ joinD S ps → c ∈ S ∨ ∃ p ∈ ps, c ∈ p
  | [], h => by simp [joinD] at h
  | [p], h => .inr ⟨p, by simp, h⟩
  | p :: q :: r, h => by
    have h : c ∈ p ++ (S ++ joinD S (q :: r)) := h
    rcases List.mem_append.mp h with h | h
    · exact .inr ⟨p, by simp, h⟩
    · rcases List.mem_append.mp h with h | h
      · exact .inl h
      · rcases joinD_mem h with h | ⟨z, hz, hc⟩
        · exact .inl h
        · exact .inr ⟨z, List.mem_cons_of_mem _ hz, hc⟩
theorem mts_join : MtS X "str.join" gJoin := by
  refine ⟨_, mt_join, fun L H h x v xs d vs Q s p q e k => ?_⟩
  unfold gJoin at e
  split at e
  · rename_i a y
    obtain ⟨ps, e1, e⟩ := Option.bind_eq_some_iff.mp e
    obtain ⟨ys, e0, e1⟩ := Option.bind_eq_some_iff.mp e1
    split at e
    · rename_i hz
      cases e
      obtain ⟨z, rfl, ez, nz, oz⟩ := p.str
      obtain ⟨w, rfl, rw'⟩ := ro1 q
      obtain ⟨pp, us, rfl, t, rr⟩ := asS_ok s rw' e0
      obtain ⟨eu, ou⟩ := toStrs_ok rr e1
      subst eu
      have ez' : z = SX.S a := by
        rw [← ez]
      subst ez'
      refine ⟨SX.S a, pp, ps.map SX.S, rfl, rfl, ?_, ?_, ?_⟩
      · rcases t with ⟨_, _, t⟩ | ⟨t, _⟩
        · exact .inr t
        · exact .inl t
      · rw [List.length_map, SX.S_len, List.map_map]
        have : ((fun z : Str => z.length) ∘ SX.S) = fun l : List Nat => l.length := by funext l; exact SX.S_len l
        rw [this]
        exact hz
      · rw [SX.join_S, joinD_eq]
        refine k L H _ Le.refl s (.str' (by simp [SX.S]) fun c hc => ?_)
        rcases joinD_mem hc with hc | ⟨l, hl, hc⟩
        · exact oz c hc
        · exact ou l hl c hc
    · cases e
  · cases e
end
end WC
set_option Elab.async false
set_option linter.all false
set_option maxRecDepth 100000
namespace WC
open PySem PySem.Spec PyProof.Rows L2
namespace Bn
open PySem.NumText PySem.Calls
def Is2 (c : Nat) : Prop := c = 48 ∨ c = 49
instance (c : Nat) : Decidable (Is2 c) := by unfold Is2; infer_instance
theorem Is2.hex {c : Nat} (b : Is2 c) : Hx.IsHex c := by unfold Is2 at b; unfold Hx.IsHex; omega
theorem Is2.rng {c : Nat} (b : Is2 c) : 48 ≤ c ∧ c ≤ 49 := by unfold Is2 at b; omega
def num2 (l : List Nat) : Nat := l.foldl (fun a c => a * 2 + (c - 48)) 0
theorem step2 {ds : Array Nat} {y : Bool} {c : Nat} (b : Is2 c) : PySem.NumText.step 2 (ds, y) c = some (ds.push (c - 48), true) := by
  have := b.rng
  have e : Hx.hv c = c - 48 := if_pos (by omega)
  unfold PySem.NumText.step
  rw [if_neg (by rw [beq_iff_eq]; omega), Hx.digit_hex b.hex, e]
  exact if_pos (by omega)
theorem fold2 : ∀ (l : List Nat) (ds : Array Nat), (∀ c ∈ l, Is2 c) → l.foldlM (PySem.NumText.step 2) (ds, true) = some (l.foldl (fun a c => a.push (c - 48)) ds, true)
  | [], _, _ => rfl
  | c :: l, ds, b => by
    rw [List.foldlM_cons, step2 (b c (List.mem_cons_self ..))]
    exact fold2 l (ds.push (c - 48)) fun d m => b d (List.mem_cons_of_mem _ m)
theorem digits2 {l : List Nat} (b : ∀ c ∈ l, Is2 c) (n0 : l ≠ []) : digits? 2 l = some (l.foldl (fun a c => a.push (c - 48)) #[]) := by
  cases l with
  | nil => exact absurd rfl n0
  | cons c l =>
    unfold digits?
    rw [List.foldlM_cons, step2 (b c (List.mem_cons_self ..))]
    show (l.foldlM (PySem.NumText.step 2) ((#[] : Array Nat).push (c - 48), true)).bind _ = _
    rw [fold2 l _ fun d m => b d (List.mem_cons_of_mem _ m)]
    rfl
theorem push2 : ∀ (l : List Nat) (ds : Array Nat), (l.foldl (fun a c => a.push (c - 48)) ds).foldl (fun a d => a * 2 + d) 0 = l.foldl (fun a c => a * 2 + (c - 48)) (ds.foldl (fun a d => a * 2 + d) 0)
  | [], _ => rfl
  | c :: l, ds => by
    rw [List.foldl_cons, push2 l (ds.push (c - 48)), List.foldl_cons]
    congr 1
    simp
theorem based2 {l : List Nat} (b : ∀ c ∈ l, Is2 c) : based 2 l = (2, false, l) := by
  match l, b with
  | [], _ => rfl
  | [a], b =>
    rcases b a (List.mem_cons_self ..) with e | e <;> subst e <;> rfl
  | a :: c :: r, b =>
    rcases b a (List.mem_cons_self ..) with e | e <;> subst e <;> rcases b c (List.mem_cons_of_mem _ (List.mem_cons_self ..)) with e | e <;> subst e <;> rfl
theorem read2 {l : List Nat} (b : ∀ c ∈ l, Is2 c) (n0 : l ≠ []) : (int_private% "readNumeral") 0 2 l = (int_private% "Numeral.value") ((num2 l : Nat) : Int) := by
  have bx : ∀ c ∈ l, Hx.IsHex c := fun c m => (b c m).hex
  have br : ∀ c ∈ l.reverse, Hx.IsHex c := fun c m => bx c (List.mem_reverse.mp m)
  have eb := based2 b
  refine (readNumeral_eq 0 2 l).trans ?_
  rw [Hx.dropB bx, Hx.signH bx]
  show judge 0 false (based 2 l).1 (based 2 l).2.1 (digits? (based 2 l).1 (((based 2 l).2.2.reverse.dropWhile blank).reverse)) = _
  rw [eb]
  show judge 0 false 2 false (digits? 2 ((l.reverse.dropWhile blank).reverse)) = _
  rw [Hx.dropB br, List.reverse_reverse, digits2 b n0]
  show (int_private% "Numeral.value") (((l.foldl (fun a c => a.push (c - 48)) (#[] : Array Nat)).foldl (fun a d => a * 2 + d) 0 : Nat) : Int) = _
  rw [push2]
  rfl
set_option maxHeartbeats 4000000 in
theorem gives2 {x : PySem.Str} {u t : Tok} (hl : x.length ≤ 640) (b : ∀ c ∈ x.cps.toList, Is2 c) (n0 : x.cps.toList ≠ []) : Gives (Builtin.«int.__new__» ⟨[.type "int", .str x u, .int 2 t], []⟩) (.int ((num2 x.cps.toList : Nat) : Int)) :=
  .of_wp fun M A E s Q hQ => by
    obtain ⟨h1, g1, d1, k1, o1⟩ := s
    have q1 := F.conv_sub_int
    have q2 := F.madeHere_int
    have q3 : typeOf (.str x u) = pure (.type "str") := rfl
    obtain ⟨e1, e2⟩ := Hx.seen_hex (x := x) fun c m => (b c m).hex
    have s1 : (numSeenOf x).length ≤ 640 := by
      rw [e2]
      rw [Array.length_toList]; exact hl
    have s2 : (int_private% "readNumeral") 0 2 (numSeenOf x) = (int_private% "Numeral.value") ((num2 x.cps.toList : Nat) : Int) := by
      rw [e2]
      exact read2 b n0
    have s3 : ((numSeenOf x).length == (numTextOf x).length) = true := by
      rw [e1, e2]
      simp
    have kk := Hx.Hid.mk (And.intro s1 (And.intro s2 s3))
    clear s1 s2 s3 e1 e2 hl n0 b
    repeat (any_goals (first
      | assumption
      | ((with_reducible show wpAny _ _ ((int_private% "intFromText") _ _ _) _ _ _); refine Hx.wp_textB kk.out.1 kk.out.2.1 kk.out.2.2 ?_)
      | wp_step))
    all_goals first | exact ⟨_, rfl, hQ⟩ | skip
theorem call2 {prog : Program} {w : World} {A : Around} {E : Value → Shared → Prop} {s : Shared} {Q : Value → Shared → Prop} {x : PySem.Str} {u t : Tok} (hl : x.length ≤ 640) (b : ∀ c ∈ x.cps.toList, Is2 c) (n0 : x.cps.toList ≠ [])
    (q : Q (.int ((num2 x.cps.toList : Nat) : Int) s.toks) { s with toks := s.toks + 1 }) : wpAny (model prog w) A (call (.type "int") [.str x u, .int 2 t]) Q E s :=
  callType_new F.called_int F.newNe_int (Hx.typeCall_int_2 _ _) (Hx.newCall_int_2 _ _) (fun obj => F.initArgs_range_2 obj _ _) F.entry_int_new (gives2 hl b n0).meets (show (Made.int ((num2 x.cps.toList : Nat) : Int)).post _ s from ⟨rfl, q⟩)
end Bn
def gInt2 : GL := fun _ xs => match xs with
  | [.str l, .int 2] => if l.length ≤ 640 ∧ l ≠ [] ∧ (∀ c ∈ l, Bn.Is2 c) then some (.int (Bn.num2 l)) else none
  | _ => none
def rInt2 : List V → Hp → VK → Prop := fun xs H Q => ∃ z : Str, xs = [.str z, .int 2] ∧ z.length ≤ 640 ∧ z.cps.toList ≠ [] ∧ (∀ c ∈ z.cps.toList, Bn.Is2 c) ∧ Q (.int ((Bn.num2 z.cps.toList : Nat) : Int)) H
theorem call_int2 {X : Cx} : CallR X (.type "int") rInt2 := by
  intro pins s σ H xs us Q I r h
  obtain ⟨z, rfl, hl, n0, b, q⟩ := h
  obtain ⟨u1, u2, rfl, p1, p2⟩ := vals2 r
  obtain ⟨t1, rfl⟩ := p1
  obtain ⟨t2, rfl⟩ := p2
  exact Bn.call2 hl b n0 ⟨.int ((Bn.num2 z.cps.toList : Nat) : Int), H, I.tok _, ⟨_, rfl⟩, q⟩
theorem calls_int2 {X : Cx} : CallS X (.type "int") gInt2 := by
  refine ⟨_, call_int2, fun L H h xs vs d Q s p e k => ?_⟩
  unfold gInt2 at e
  split at e
  · rename_i l
    split at e
    · rename_i hc
      cases e
      obtain ⟨v1, v2, rfl, r1, r2⟩ := ro2 p
      obtain ⟨z, rfl, e1, n1, _⟩ := r1.str
      have := r2.int
      subst this
      subst e1
      exact ⟨z, rfl, by rw [n1]; exact hc.1, hc.2.1, hc.2.2, k L H _ Le.refl s (.int _)⟩
    · cases e
  · cases e
end WC
set_option Elab.async false
set_option linter.all false
set_option maxRecDepth 100000
namespace WC
open PySem PySem.Spec PyProof.Rows L2

abbrev IM := Sg → Hs → R (List D)
def Walks (K : PySem.W.Frag) (O : Addr → Prop) (L : Lay) (H : Hp) (J : It) (xs : List D) : Prop :=
  ∀ (L' : Lay) (H' : Hp) (h : Hs), Le O L H L' H' → HRel K L' H' h → ∀ i : Nat,
    (∀ d, xs[i]? = some d → J.go i H' ∧ ∀ v H'', J.yld i H' v H'' → ∃ L'', Le0 L' H' L'' H'' ∧ HRel K L'' H'' h ∧ Rep K L'' v d) ∧ (xs.length ≤ i → J.stop i H')
def Lend (σV : Sv) (σ : Sg) (bs : List Nat) (O : Addr → Prop) : Prop := ∀ i ∈ bs, ∀ (s : Sl) (q : Addr), σ[i]? = some s → s.owned = true → σV[i]? = some (some (.ref q)) → ¬ O q
def RdI (K : PySem.W.Frag) (bs : List Nat) (m : IM) : TI := fun σV H Rr => ∃ (L : Lay) (σ : Sg) (h : Hs) (xs : List D) (h' : Hs), HRel K L H h ∧ SRel K L H σV σ ∧ m σ h = .ok xs h' ∧
  ∀ L' H' J, Le0 L H L' H' → HRel K L' H' h' → (∀ O, Lend σV σ bs O → Walks K O L' H' J xs) → Rr J H'
def SndI (X : Cx) (tg e : Expr) (bs : List Nat) (m : IM) : Prop := PI X tg e (RdI X.K bs m)
theorem weakI {X : Cx} {tg e : Expr} {t t' : TI} (h : PI X tg e t) (w : ∀ σ H R, t' σ H R → t σ H R) : PI X tg e t' := ⟨fun pins s σ H Rr I q => h.run pins s σ H Rr I (w _ _ _ q)⟩
theorem orI {X : Cx} {tg e : Expr} {t t' : TI} (h : PI X tg e t) (h' : PI X tg e t') : PI X tg e (fun σ H Rr => t σ H Rr ∨ t' σ H Rr) := ⟨fun pins s σ H Rr I q => by
  rcases q with q | q
  · exact h.run pins s σ H Rr I q
  · exact h'.run pins s σ H Rr I q⟩
def itemsD : D → Option (List D)
  | .lst xs => some xs
  | .tup xs => some xs
  | .str l => some (l.map fun c => .str [c])
  | _ => none
section
variable {K : PySem.W.Frag} {L : Lay} {H : Hp} {h : Hs} {O : Addr → Prop}
theorem walks_list {a : Addr} {vs : List V} {xs : List D} (e : H a = some (.lst vs)) (r : Reps K L vs xs) (st : ∀ L' H' h', Le O L H L' H' → HRel K L' H' h' → H' a = some (.lst vs)) : Walks K O L H (Itl K a) xs := by
  intro L' H' h' l hr i
  have e' := st L' H' h' l hr
  have rr := r.le l
  refine ⟨fun d hd => ?_, fun hi => ⟨vs, .of e', by rw [rr.length]; exact hi⟩⟩
  obtain ⟨v, hv, q⟩ := rr.get hd
  refine ⟨⟨vs, v, .of e', hv⟩, fun v' H'' y => ?_⟩
  obtain ⟨rfl, y⟩ := y
  have := y vs (.of e')
  rw [hv] at this; cases this
  exact ⟨L', Le.refl, hr, q⟩
theorem walks_tup {a : Addr} {vs : List V} {xs : List D} (f : SqT K L.F a vs) (r : Reps K L vs xs) : Walks K O L H (Itt K a) xs := by
  intro L' H' h' l hr i
  have e' : SqT K H' a vs := hr.sqT (sqT_mono l.F f)
  have rr := r.le l
  refine ⟨fun d hd => ?_, fun hi => ⟨vs, e', by rw [rr.length]; exact hi⟩⟩
  obtain ⟨v, hv, q⟩ := rr.get hd
  refine ⟨⟨vs, v, e', hv⟩, fun v' H'' y => ?_⟩
  obtain ⟨rfl, y⟩ := y
  have := y vs e'
  rw [hv] at this; cases this
  exact ⟨L', Le.refl, hr, q⟩
theorem walks_str {s : Str} {l : List Nat} (e : s.cps.toList = l) (o : ∀ c ∈ l, c < 0x110000) : Walks K O L H (Its s) (l.map fun c => .str [c]) := by
  intro L' H' h' _ hr i
  have hl : s.cps.size = l.length := by rw [← e]; simp
  refine ⟨fun d hd => ?_, fun hi => by rw [List.length_map] at hi; show s.cps.size ≤ i; omega⟩
  rw [List.getElem?_map, Option.map_eq_some_iff] at hd
  obtain ⟨c, hc, rfl⟩ := hd
  have hi : i < l.length := (List.getElem?_eq_some_iff.mp hc).1
  refine ⟨by show i < s.cps.size; omega, fun v H'' y => ?_⟩
  obtain ⟨rfl, c', hc', rfl⟩ := y
  have e2 : s.cps[i]? = some c := by rw [← hc, ← e]; simp
  rw [hc'] at e2; cases e2
  refine ⟨L', Le.refl, hr, .str' (by simp) fun x hx => ?_⟩
  have : x = c := by simpa using hx
  subst this
  exact o _ (List.mem_of_getElem? hc)
theorem walks_range {lo : Int} {n : Nat} : Walks K O L H (Itr lo n) ((List.range n).map fun (i : Nat) => .int (lo + i)) := by
  intro L' H' h' _ hr i
  refine ⟨fun d hd => ?_, fun hi => by show n ≤ i; simpa using hi⟩
  rw [List.getElem?_map, Option.map_eq_some_iff] at hd
  obtain ⟨c, hc, rfl⟩ := hd
  obtain ⟨hi, e⟩ := List.getElem?_eq_some_iff.mp hc
  rw [List.length_range] at hi
  rw [List.getElem_range] at e
  subst e
  refine ⟨hi, fun v H'' y => ?_⟩
  obtain ⟨rfl, rfl⟩ := y
  exact ⟨L', Le.refl, hr, .int _⟩
end
section
variable {X : Cx} {tg e a b : Expr} {pos : Pos}
def iVal (m : EM) : IM := fun σ h => (m σ h).bind fun d h1 => optR (itemsD d) h1
theorem sndI_val {m : EM} (he : SndE X e m) : SndI X tg e [] (iVal m) := by
  refine weakI (orI (pi_list he) (orI (pi_tup he) (pi_str he))) fun σV H Rr ⟨L, σ, h, xs, h', hr, sr, em, k⟩ => ?_
  obtain ⟨d, h1, e1, em⟩ := bind_some em
  obtain ⟨em2, eh⟩ := optR_ok em
  subst eh
  cases d <;> first | (simp [itemsD] at em2; done) | skip
  · refine .inr (.inr ⟨L, σ, h, _, h1, hr, sr, e1, fun L1 H1 v1 l1 r1 q1 => ?_⟩)
    cases em2
    cases q1 with
    | str s o => exact ⟨s, rfl, k L1 H1 _ l1 r1 fun O _ => walks_str rfl o⟩
  · refine .inr (.inl ⟨L, σ, h, _, h1, hr, sr, e1, fun L1 H1 v1 l1 r1 q1 => ?_⟩)
    cases em2
    cases q1 with
    | tup f r => exact ⟨_, rfl, ⟨_, r1.sqT f⟩, k L1 H1 _ l1 r1 fun O _ => walks_tup f r⟩
  · refine .inl ⟨L, σ, h, _, h1, hr, sr, e1, fun L1 H1 v1 l1 r1 q1 => ?_⟩
    cases em2
    cases q1 with
    | lst f r => exact ⟨_, rfl, ⟨_, .of (r1.sub _ _ f)⟩, k L1 H1 _ l1 r1 fun O _ => walks_list (r1.sub _ _ f) r fun L' H' h' l r' => r'.sub _ _ (l.F _ _ f)⟩
theorem sndI_var {i : Nat} {x : Str} (hN : X.N[i]? = some x) (hv : Vis X.env.scope x) (hd : (x == ("__debug__" : Str)) = false) (hcd : (x == ("__classdict__" : Str)) = false) : SndI X tg (.Name x pos) [i] (iVal (oVar i)) := by
  refine weakI (orI (pi_list (pe_var hN hv hd hcd)) (orI (pi_tup (pe_var hN hv hd hcd)) (pi_str (pe_var hN hv hd hcd)))) fun σV H Rr ⟨L, σ, h, xs, h', hr, sr, em, k⟩ => ?_
  obtain ⟨d, h1, e1, em⟩ := bind_some em
  obtain ⟨em2, eh⟩ := optR_ok em
  subst eh
  unfold oVar at e1
  cases e : σ[i]? with
  | none => simp [e] at e1
  | some s =>
    obtain ⟨x, ex, r⟩ := sr.sl i _ e
    cases s with
    | no => simp [e] at e1
    | val d' =>
      simp [e] at e1
      obtain ⟨rfl, rfl⟩ := e1
      obtain ⟨v, rfl, r⟩ := r
      cases d' <;> first | (simp [itemsD] at em2; done) | skip
      · cases em2
        cases r with
        | str s o => exact .inr (.inr ⟨_, ex, s, rfl, k L H _ Le.refl hr fun O _ => walks_str rfl o⟩)
      · cases em2
        cases r with
        | tup f r => exact .inr (.inl ⟨_, ex, _, rfl, ⟨_, hr.sqT f⟩, k L H _ Le.refl hr fun O _ => walks_tup f r⟩)
      · cases em2
        cases r with
        | lst f r => exact .inl ⟨_, ex, _, rfl, ⟨_, .of (hr.sub _ _ f)⟩, k L H _ Le.refl hr fun O _ => walks_list (hr.sub _ _ f) r fun L' H' h' l r' => r'.sub _ _ (l.F _ _ f)⟩
    | own ys =>
      simp [e] at e1
      obtain ⟨rfl, rfl⟩ := e1
      cases em2
      obtain ⟨p, vs, rfl, e2, f, m, r⟩ := r
      exact .inl ⟨_, ex, _, rfl, ⟨_, .of e2⟩, k L H _ Le.refl hr fun O ln => walks_list e2 r fun L' H' h' l r' => l.fr _ _ e2 m (ln i (by simp) _ p e rfl ex)⟩
    | lent ys =>
      simp [e] at e1
      obtain ⟨rfl, rfl⟩ := e1
      cases em2
      obtain ⟨p, vs, rfl, e2, f, m, r⟩ := r
      exact .inl ⟨_, ex, _, rfl, ⟨_, .of e2⟩, k L H _ Le.refl hr fun O ln => walks_list e2 r fun L' H' h' l r' => l.fr _ _ e2 m (ln i (by simp) _ p e rfl ex)⟩
    | ownd kvs =>
      simp [e] at e1
      obtain ⟨rfl, rfl⟩ := e1
      cases em2
def rangeD (lo : Int) (n : Nat) : List D := (List.range n).map fun (i : Nat) => .int (lo + i)
def iRange1 (ms : AM) : IM := fun σ h => (ms σ h).bind fun xs h1 => match xs with
  | [.int j] => if -(2 ^ 62) ≤ j ∧ j < 2 ^ 62 then .ok (rangeD 0 j.toNat) h1 else .bad
  | _ => .bad
def iRange2 (ms : AM) : IM := fun σ h => (ms σ h).bind fun xs h1 => match xs with
  | [.int i, .int j] => if -(2 ^ 62) ≤ i ∧ i < 2 ^ 62 ∧ -(2 ^ 62) ≤ j ∧ j < 2 ^ 62 then .ok (rangeD i (j - i).toNat) h1 else .bad
  | _ => .bad
theorem ra1 {K : PySem.W.Frag} {L : Lay} {vs : List V} {x : D} (r : Reps K L vs [x]) : ∃ v, vs = [v] ∧ Rep K L v x := by
  cases r with | cons a b => cases b; exact ⟨_, rfl, a⟩
theorem ra2 {K : PySem.W.Frag} {L : Lay} {vs : List V} {x y : D} (r : Reps K L vs [x, y]) : ∃ v u, vs = [v, u] ∧ Rep K L v x ∧ Rep K L u y := by
  cases r with | cons a b => cases b with | cons b c => cases c; exact ⟨_, _, rfl, a, b⟩
theorem ra3 {K : PySem.W.Frag} {L : Lay} {vs : List V} {x y z : D} (r : Reps K L vs [x, y, z]) : ∃ v u w, vs = [v, u, w] ∧ Rep K L v x ∧ Rep K L u y ∧ Rep K L w z := by
  cases r with | cons a b => cases b with | cons b c => cases c with | cons c d => cases d; exact ⟨_, _, _, rfl, a, b, c⟩
theorem sndI_range1 {ms : AM} {p : Pos} {x : Str} (hx : x = ("range" : Str)) (hg : Gl X x) (hm : X.mg x = none) (ha : SndA X [a] ms) (hs : starEach [a] X.env = [(false, eval a X.env)]) : SndI X tg (.Call (.Name x p) [a] [] pos) [] (iRange1 ms) := by
  subst hx
  refine weakI (pi_range1 hg hm ha hs) fun σV H Rr ⟨L, σ, h, xs, h', hr, sr, em, k⟩ => ?_
  obtain ⟨ds, h1, e1, em⟩ := bind_some em
  refine ⟨L, σ, h, ds, h1, hr, sr, e1, fun L1 H1 vs l1 r1 q1 => ?_⟩
  split at em
  · rename_i j
    obtain ⟨hb, e2, e3⟩ := ite_ok em
    subst e2; subst e3
    obtain ⟨v, rfl, q⟩ := ra1 q1
    cases q
    exact ⟨j, rfl, hb.1, hb.2, k L1 H1 _ l1 r1 fun O _ => walks_range⟩
  · cases em
theorem sndI_range2 {ms : AM} {p : Pos} {x : Str} (hx : x = ("range" : Str)) (hg : Gl X x) (hm : X.mg x = none) (ha : SndA X [a, b] ms) (hs : starEach [a, b] X.env = [(false, eval a X.env), (false, eval b X.env)]) (hs2 : starEach [b] X.env = [(false, eval b X.env)]) : SndI X tg (.Call (.Name x p) [a, b] [] pos) [] (iRange2 ms) := by
  subst hx
  refine weakI (pi_range2 hg hm ha hs hs2) fun σV H Rr ⟨L, σ, h, xs, h', hr, sr, em, k⟩ => ?_
  obtain ⟨ds, h1, e1, em⟩ := bind_some em
  refine ⟨L, σ, h, ds, h1, hr, sr, e1, fun L1 H1 vs l1 r1 q1 => ?_⟩
  split at em
  · rename_i i j
    obtain ⟨hb, e2, e3⟩ := ite_ok em
    subst e2; subst e3
    obtain ⟨v, u, rfl, q, q'⟩ := ra2 q1
    cases q; cases q'
    exact ⟨i, j, rfl, hb, k L1 H1 _ l1 r1 fun O _ => walks_range⟩
  · cases em
def enumD (xs : List D) : List D := (List.range xs.length).zipWith (fun (i : Nat) x => .tup [.int i, x]) xs
theorem enumD_get {xs : List D} {i : Nat} : (enumD xs)[i]? = (xs[i]?).map fun x => .tup [.int (i : Nat), x] := by
  unfold enumD
  rw [List.getElem?_zipWith]
  cases e : xs[i]? with
  | none => cases (List.range xs.length)[i]? <;> rfl
  | some x =>
    have hi : i < xs.length := (List.getElem?_eq_some_iff.mp e).1
    rw [List.getElem?_range hi]
    rfl
theorem enumD_length (xs : List D) : (enumD xs).length = xs.length := by simp [enumD]
theorem put_pair {K : PySem.W.Frag} {L : Lay} {H : Hp} {h : Hs} {T : Addr} {x y : V} {c d : D} (hr : HRel K L H h) (hT : H T = none) (q : Rep K L x c) (q' : Rep K L y d) :
    ∃ L'', Le0 L H L'' (upd H T (.tup [x, y])) ∧ HRel K L'' (upd H T (.tup [x, y])) h ∧ Rep K L'' (.ref T) (.tup [c, d]) :=
  ⟨_, le_put hr hT, hr.put hT, .tup put_sqT (.cons (q.le (le_put hr hT)) (.cons (q'.le (le_put hr hT)) .nil))⟩
def iEnumL (ms : AM) : IM := fun σ h => (ms σ h).bind fun xs h1 => match xs with
  | [.lst ys] => .ok (enumD ys) h1
  | _ => .bad
theorem sndI_enumL {ms : AM} {p tpos : Pos} {elts : List Expr} {kk : Nat} {x : Str} (hx : x = ("enumerate" : Str)) (hg : Gl X x) (hm : X.mg x = none) (ha : SndA X [a] ms) (hs : starEach [a] X.env = [(false, eval a X.env)]) : SndI X (.Tuple elts kk tpos) (.Call (.Name x p) [a] [] pos) [] (iEnumL ms) := by
  subst hx
  refine weakI (pi_enum hg hm ha hs) fun σV H Rr ⟨L, σ, h, xs, h', hr, sr, em, k⟩ => ?_
  obtain ⟨ds, h1, e1, em⟩ := bind_some em
  refine ⟨L, σ, h, ds, h1, hr, sr, e1, fun L1 H1 vs l1 r1 q1 => ?_⟩
  split at em
  · rename_i ys
    cases em
    obtain ⟨v, rfl, q⟩ := ra1 q1
    cases q with
    | lst f r =>
      rename_i p vs
      refine ⟨p, vs, rfl, .of (r1.sub _ _ f), k L1 H1 _ l1 r1 fun O _ => ?_⟩
      intro L' H' h' l hr' i
      have e' := hr'.sub _ _ (l.F _ _ f)
      have rr := r.le l
      refine ⟨fun d hd => ?_, fun hi => ⟨vs, .of e', by rw [rr.length, ← enumD_length]; exact hi⟩⟩
      rw [enumD_get, Option.map_eq_some_iff] at hd
      obtain ⟨x, hx, rfl⟩ := hd
      obtain ⟨v, hv, qv⟩ := rr.get hx
      refine ⟨⟨vs, v, .of e', hv⟩, fun v' H'' y => ?_⟩
      obtain ⟨T, x', rfl, hT, rfl, y⟩ := y
      have := y vs (.of e')
      rw [hv] at this; cases this
      exact put_pair hr' hT (.int _) qv
  · cases em
def zipD (xs ys : List D) : List D := xs.zipWith (fun x y => .tup [x, y]) ys
def iZipD (ms : AM) : IM := fun σ h => (ms σ h).bind fun xs h1 => match xs with
  | [.lst ys, .lst zs] => .ok (zipD ys zs) h1
  | [.tup ys, .tup zs] => .ok (zipD ys zs) h1
  | _ => .bad
theorem zip_get {xs ys : List D} {i : Nat} {d : D} (h : (zipD xs ys)[i]? = some d) : ∃ x y, xs[i]? = some x ∧ ys[i]? = some y ∧ d = .tup [x, y] := by
  unfold zipD at h
  rw [List.getElem?_zipWith] at h
  cases e : xs[i]? with
  | none => rw [e] at h; cases h
  | some x => cases e2 : ys[i]? with
    | none => rw [e, e2] at h; cases h
    | some y => rw [e, e2] at h; cases h; exact ⟨x, y, rfl, rfl, rfl⟩
theorem zip_stop {xs ys : List D} {i : Nat} (h : (zipD xs ys).length ≤ i) : xs.length ≤ i ∨ ys.length ≤ i := by
  unfold zipD at h
  rw [List.length_zipWith] at h
  omega
theorem sndI_zip {ms : AM} {p tpos : Pos} {elts : List Expr} {kk : Nat} {x : Str} (hx : x = ("zip" : Str)) (hg : Gl X x) (hm : X.mg x = none) (ha : SndA X [a, b] ms) (hs : starEach [a, b] X.env = (false, eval a X.env) :: starEach [b] X.env) (hpl : (backTo pos (starEach [b] X.env)).any (·.1) = false) :
    SndI X (.Tuple elts kk tpos) (.Call (.Name x p) [a, b] [] pos) [] (iZipD ms) := by
  subst hx
  refine weakI (RZ.pi_zipA hg hm ha hs hpl) fun σV H Rr ⟨L, σ, h, xs, h', hr, sr, em, k⟩ => ?_
  obtain ⟨ds, h1, e1, em⟩ := bind_some em
  refine ⟨L, σ, h, ds, h1, hr, sr, e1, fun L1 H1 vs l1 r1 q1 => ?_⟩
  split at em
  · rename_i ys zs
    cases em
    obtain ⟨v, u, rfl, q, q'⟩ := ra2 q1
    cases q with
    | lst f r =>
      cases q' with
      | lst f' r' =>
        refine ⟨_, _, _, _, rfl, .inl ⟨.of (r1.sub _ _ f), .of (r1.sub _ _ f'), k L1 H1 _ l1 r1 fun O _ => ?_⟩⟩
        intro L' H' h' l hr' i
        have e := hr'.sub _ _ (l.F _ _ f)
        have e' := hr'.sub _ _ (l.F _ _ f')
        have rr := r.le l
        have rr' := r'.le l
        refine ⟨fun d hd => ?_, fun hi => ⟨_, _, .of e, .of e', by rw [rr.length, rr'.length]; exact zip_stop hi⟩⟩
        obtain ⟨x, y, hx, hy, rfl⟩ := zip_get hd
        obtain ⟨v, hv, qv⟩ := rr.get hx
        obtain ⟨u, hu, qu⟩ := rr'.get hy
        refine ⟨⟨_, _, v, u, .of e, .of e', hv, hu⟩, fun v' H'' y => ?_⟩
        obtain ⟨T, x1, x2, rfl, hT, rfl, y1, y2⟩ := y
        have z1 := y1 _ (.of e)
        have z2 := y2 _ (.of e')
        rw [hv] at z1; rw [hu] at z2; cases z1; cases z2
        exact put_pair hr' hT qv qu
  · rename_i ys zs
    cases em
    obtain ⟨v, u, rfl, q, q'⟩ := ra2 q1
    cases q with
    | tup f r =>
      cases q' with
      | tup f' r' =>
        refine ⟨_, _, _, _, rfl, .inr ⟨r1.sqT f, r1.sqT f', k L1 H1 _ l1 r1 fun O _ => ?_⟩⟩
        intro L' H' h' l hr' i
        have e := hr'.sqT (sqT_mono l.F f)
        have e' := hr'.sqT (sqT_mono l.F f')
        have rr := r.le l
        have rr' := r'.le l
        refine ⟨fun d hd => ?_, fun hi => ⟨_, _, e, e', by rw [rr.length, rr'.length]; exact zip_stop hi⟩⟩
        obtain ⟨x, y, hx, hy, rfl⟩ := zip_get hd
        obtain ⟨v, hv, qv⟩ := rr.get hx
        obtain ⟨u, hu, qu⟩ := rr'.get hy
        refine ⟨⟨_, _, v, u, e, e', hv, hu⟩, fun v' H'' y => ?_⟩
        obtain ⟨T, x1, x2, rfl, hT, rfl, y1, y2⟩ := y
        have z1 := y1 _ e
        have z2 := y2 _ e'
        rw [hv] at z1; rw [hu] at z2; cases z1; cases z2
        exact put_pair hr' hT qv qu
  · cases em

abbrev GT := D → Sg → Option Sg
def setS (σ : Sg) (i : Nat) (s : Sl) : Option Sg := match σ[i]? with
  | some (.lent _) => none
  | some _ => some (σ.set i s)
  | none => none
def tgName (i : Nat) : GT := fun d σ => setS σ i (.val d)
def tgs : List GT → List D → Sg → Option Sg
  | [], [], σ => some σ
  | t :: ts, d :: ds, σ => (t d σ).bind fun σ' => tgs ts ds σ'
  | _, _, _ => none
def tgTup (ts : List GT) : GT := fun d σ => match d with
  | .tup ds => tgs ts ds σ
  | .lst ds => tgs ts ds σ
  | _ => none
structure TgR (vs : List Nat) (σV : Sv) (σ : Sg) (σV' : Sv) (σ' : Sg) : Prop where
  len : σV'.length = σV.length
  len' : σ'.length = σ.length
  out : ∀ i, i ∉ vs → σV'[i]? = σV[i]?
  own : ∀ p, Own σV' σ' p → Own σV σ p
  kp : ∀ (i : Nat) (xs : List D), σ[i]? = some (.lent xs) → σ'[i]? = some (.lent xs) ∧ σV'[i]? = σV[i]?
theorem TgR.refl {vs : List Nat} {σV : Sv} {σ : Sg} : TgR vs σV σ σV σ := ⟨rfl, rfl, fun _ _ => rfl, fun _ h => h, fun _ _ h => ⟨h, rfl⟩⟩
theorem TgR.trans {vs : List Nat} {σV σ1 σ2 : Sv} {σ τ1 τ2 : Sg} (a : TgR vs σV σ σ1 τ1) (b : TgR vs σ1 τ1 σ2 τ2) : TgR vs σV σ σ2 τ2 :=
  ⟨b.len.trans a.len, b.len'.trans a.len', fun i h => (b.out i h).trans (a.out i h), fun p h => a.own p (b.own p h), fun i xs h => let ⟨h1, h2⟩ := a.kp i xs h; let ⟨h3, h4⟩ := b.kp i xs h1; ⟨h3, h4.trans h2⟩⟩
def RdG (K : PySem.W.Frag) (vs : List Nat) (t : GT) : TG := fun v σV H Q => ∃ (L : Lay) (σ : Sg) (d : D) (σ' : Sg), SRel K L H σV σ ∧ Rep K L v d ∧ (∀ p o, L.F p = some o → H p = some o) ∧ t d σ = some σ' ∧
  ∀ σV', SRel K L H σV' σ' → TgR vs σV σ σV' σ' → Q σV' H
def SndG (X : Cx) (e : Expr) (vs : List Nat) (t : GT) : Prop := PG X e (RdG X.K vs t)
theorem weakG {X : Cx} {e : Expr} {t t' : TG} (h : PG X e t) (w : ∀ v σ H Q, t' v σ H Q → t v σ H Q) : PG X e t' := ⟨fun pins s σ H v u Q I r q => h.run pins s σ H v u Q I r (w _ _ _ _ q)⟩
section
variable {K : PySem.W.Frag} {L : Lay} {H : Hp} {σV : Sv} {σ σ' : Sg} {i : Nat}
theorem setS_ok {s : Sl} (e : setS σ i s = some σ') : σ' = σ.set i s ∧ i < σ.length ∧ ∀ xs, σ[i]? ≠ some (.lent xs) := by
  unfold setS at e
  cases e1 : σ[i]? with
  | none => rw [e1] at e; cases e
  | some t =>
    have hi := (List.getElem?_eq_some_iff.mp e1).1
    cases t <;> rw [e1] at e <;> first | (cases e; done) | (cases e; exact ⟨rfl, hi, fun xs z => by cases z⟩)
theorem SRel.set {v : V} {s : Sl} (sr : SRel K L H σV σ) (hi : i < σ.length) (r : RepSl K L H (some v) s) (ap : ∀ p, s.owned = true → v = .ref p → ∀ (j : Nat) (t : Sl), j ≠ i → σ[j]? = some t → t.owned = true → σV[j]? ≠ some (some (.ref p))) : SRel K L H (σV.set i (some v)) (σ.set i s) := by
  refine ⟨by simp [sr.len], fun j t e => ?_, fun j k t u p e1 e2 o1 o2 z1 z2 => ?_⟩
  · by_cases hj : i = j
    · subst hj
      rw [List.getElem?_set_self hi] at e; cases e
      exact ⟨_, List.getElem?_set_self (by rw [sr.len]; exact hi), r⟩
    · rw [List.getElem?_set_ne hj] at e
      obtain ⟨x, ex, rr⟩ := sr.sl j t e
      exact ⟨x, by rw [List.getElem?_set_ne hj]; exact ex, rr⟩
  · by_cases hj : i = j
    · subst hj
      rw [List.getElem?_set_self hi] at e1; cases e1
      rw [List.getElem?_set_self (by rw [sr.len]; exact hi)] at z1
      by_cases hk : i = k
      · exact hk
      · rw [List.getElem?_set_ne hk] at e2 z2
        exact absurd z2 (ap p o1 (by simpa using z1) k u (Ne.symm hk) e2 o2)
    · rw [List.getElem?_set_ne hj] at e1 z1
      by_cases hk : i = k
      · subst hk
        rw [List.getElem?_set_self hi] at e2; cases e2
        rw [List.getElem?_set_self (by rw [sr.len]; exact hi)] at z2
        exact absurd z1 (ap p o2 (by simpa using z2) j t (Ne.symm hj) e1 o1)
      · rw [List.getElem?_set_ne hk] at e2 z2
        exact sr.ap j k t u p e1 e2 o1 o2 z1 z2
theorem SRel.val {v : V} {d : D} (sr : SRel K L H σV σ) (hi : i < σ.length) (r : Rep K L v d) : SRel K L H (σV.set i (some v)) (σ.set i (.val d)) :=
  sr.set hi ⟨v, rfl, r⟩ fun _ z => by cases z
theorem tgR_val {v : V} {d : D} {vs : List Nat} (sr : SRel K L H σV σ) (e : setS σ i (.val d) = some σ') (hv : i ∈ vs) : TgR vs σV σ (σV.set i (some v)) σ' := by
  obtain ⟨rfl, hi, nl⟩ := setS_ok e
  refine ⟨by simp, by simp, fun j hj => ?_, fun p ⟨j, s, e1, f, e2⟩ => ?_, fun j xs hj => ?_⟩
  · have : i ≠ j := fun z => hj (z ▸ hv)
    rw [List.getElem?_set_ne this]
  · by_cases z : i = j
    · subst z
      rw [List.getElem?_set_self hi] at e1; cases e1; cases f
    · rw [List.getElem?_set_ne z] at e1 e2
      exact ⟨j, s, e1, f, e2⟩
  · have z : i ≠ j := fun z => by subst z; exact nl xs hj
    rw [List.getElem?_set_ne z, List.getElem?_set_ne z]
    exact ⟨hj, rfl⟩
end
theorem sndG_name {i : Nat} {x : Str} {vs : List Nat} (hN : X.N.Nodup) (hi : X.N[i]? = some x) (hx : Loc X.env.scope x) (hf : X.fn x = true ∨ X.env.scope.names.lookup x = some .local) (hv : i ∈ vs) : SndG X (.Name x pos) vs (tgName i) := by
  refine weakG (pg_name hN hi hx hf) fun v σV H Q ⟨L, σ, d, σ', sr, r, sub, e, k⟩ => ?_
  obtain ⟨e1, hl, _⟩ := setS_ok e
  refine k _ ?_ (tgR_val sr e hv)
  rw [e1]
  exact sr.val hl r
def RdGs (K : PySem.W.Frag) (vs : List Nat) (ts : List GT) : TGs := fun v σV H Q => ∃ (L : Lay) (σ : Sg) (ds : List D) (σ' : Sg), SRel K L H σV σ ∧ Reps K L v ds ∧ (∀ p o, L.F p = some o → H p = some o) ∧ tgs ts ds σ = some σ' ∧
  ∀ σV', SRel K L H σV' σ' → TgR vs σV σ σV' σ' → Q σV' H
def SndGs (X : Cx) (es : List Expr) (vs : List Nat) (ts : List GT) : Prop := PGs X es (RdGs X.K vs ts)
theorem weakGs {X : Cx} {e : List Expr} {t t' : TGs} (h : PGs X e t) (w : ∀ v σ H Q, t' v σ H Q → t v σ H Q) : PGs X e t' := ⟨fun pins s σ H v u Q I r q => h.run pins s σ H v u Q I r (w _ _ _ _ q)⟩
theorem sndGs_nil {vs : List Nat} : SndGs X [] vs [] := by
  refine weakGs pgs_nil fun v σV H Q ⟨L, σ, ds, σ', sr, r, sub, e, k⟩ => ?_
  cases ds with
  | nil => cases r; cases e; exact ⟨rfl, k σV sr TgR.refl⟩
  | cons _ _ => cases e
theorem sndGs_cons {es : List Expr} {t : GT} {ts : List GT} {vs : List Nat} (h1 : SndG X e vs t) (h2 : SndGs X es vs ts) (hs : (assignEach (e :: es) X.env).map (·.2) = assign e X.env :: (assignEach es X.env).map (·.2)) : SndGs X (e :: es) vs (t :: ts) := by
  refine weakGs (pgs_cons h1 h2 hs) fun v σV H Q ⟨L, σ, ds, σ', sr, r, sub, e, k⟩ => ?_
  cases ds with
  | nil => cases e
  | cons d ds =>
    obtain ⟨σ1, e1, e2⟩ := Option.bind_eq_some_iff.mp e
    cases r with
    | cons r rr =>
      exact ⟨_, _, rfl, L, σ, d, σ1, sr, r, sub, e1, fun σV1 sr1 t1 => ⟨L, σ1, ds, σ', sr1, rr, sub, e2, fun σV2 sr2 t2 => k σV2 sr2 (t1.trans t2)⟩⟩
theorem orG {X : Cx} {e : Expr} {t t' : TG} (h : PG X e t) (h' : PG X e t') : PG X e (fun v σ H Q => t v σ H Q ∨ t' v σ H Q) := ⟨fun pins s σ H v u Q I r q => q.elim (h.run pins s σ H v u Q I r) (h'.run pins s σ H v u Q I r)⟩
theorem sndG_tup {es : List Expr} {ts : List GT} {vs : List Nat} {kk : Nat} (hc : X.calm = true) (h : SndGs X es vs ts) (hn : (assignEach es X.env).length = ts.length) (hst : (assignEach es X.env).findIdx? (·.1) = none) : SndG X (.Tuple es kk pos) vs (tgTup ts) := by
  refine weakG (orG (pg_tup hc h hn hst) (pg_unl hc h hn hst)) fun v σV H Q ⟨L, σ, d, σ', sr, r, sub, e, k⟩ => ?_
  unfold tgTup at e
  split at e
  · rename_i ds
    cases r with
    | tup f r =>
      refine .inl ⟨_, _, rfl, sqT_mono sub f, ?_, L, σ, ds, σ', sr, r, sub, e, k⟩
      rw [r.length]
      exact tgs_len e
  · rename_i ds
    cases r with
    | lst f r =>
      refine .inr ⟨_, _, rfl, .inl (.inl (sub _ _ f)), ?_, L, σ, ds, σ', sr, r, sub, e, k⟩
      rw [r.length]
      exact tgs_len e
  · cases e
where tgs_len : ∀ {ts : List GT} {ds : List D} {σ σ' : Sg}, tgs ts ds σ = some σ' → ds.length = ts.length
  | [], [], _, _, _ => rfl
  | [], _ :: _, _, _, e => by cases e
  | _ :: _, [], _, _, e => by cases e
  | t :: ts, d :: ds, σ, σ', e => by
    obtain ⟨σ1, e1, e2⟩ := Option.bind_eq_some_iff.mp e
    simp [tgs_len e2]
end
end WC
set_option Elab.async false
set_option linter.all false
set_option maxRecDepth 100000
namespace WC
open PySem PySem.Spec PyProof.Rows L2

def wipeS (σ : Sg) : List Nat → Sg
  | [] => σ
  | v :: vs => (wipeS σ vs).set v .no
theorem wipeS_len (σ : Sg) : ∀ vs : List Nat, (wipeS σ vs).length = σ.length
  | [] => rfl
  | v :: vs => by unfold wipeS; rw [List.length_set, wipeS_len σ vs]
theorem wipe_eq {σ σ' : Sv} (hl : σ'.length = σ.length) : ∀ {vs : List Nat}, (∀ i, i ∉ vs → σ'[i]? = σ[i]?) → wipe σ' vs = wipe σ vs
  | [], h => List.ext_getElem? fun i => h i (by simp)
  | v :: vs, h => by
    have key : ∀ i, (wipe σ' (v :: vs))[i]? = (wipe σ (v :: vs))[i]? := fun i => by
      by_cases hi : i ∈ v :: vs
      · have a1 : ∀ (τ : Sv), τ.length = σ.length → ∀ us : List Nat, i ∈ us → (wipe τ us)[i]? = if i < σ.length then some none else none := fun τ ht us => by
          induction us with
          | nil => intro h; simp at h
          | cons u us ih =>
            intro hu
            unfold wipe
            by_cases z : u = i
            · subst z
              by_cases hl2 : u < σ.length
              · rw [List.getElem?_set_self (by rw [wipe_length, ht]; exact hl2), if_pos hl2]
              · rw [List.getElem?_eq_none (by rw [List.length_set, wipe_length, ht]; omega), if_neg hl2]
            · rw [List.getElem?_set_ne z]
              exact ih (by rcases List.mem_cons.mp hu with q | q; exact absurd q.symm z; exact q)
        rw [a1 σ' hl _ hi, a1 σ rfl _ hi]
      · rw [wipe_out hi, wipe_out hi]
        exact h i hi
    exact List.ext_getElem? key
section
variable {K : PySem.W.Frag} {L : Lay} {H : Hp} {σV : Sv} {σ : Sg}
theorem SRel.no (sr : SRel K L H σV σ) {i : Nat} (x : Option V) : SRel K L H (σV.set i x) (σ.set i .no) := by
  by_cases hi : i < σ.length
  · refine ⟨by simp [sr.len], fun j t e => ?_, fun j k t u p e1 e2 o1 o2 z1 z2 => ?_⟩
    · by_cases hj : i = j
      · subst hj
        rw [List.getElem?_set_self hi] at e; cases e
        exact ⟨_, List.getElem?_set_self (by rw [sr.len]; exact hi), trivial⟩
      · rw [List.getElem?_set_ne hj] at e
        obtain ⟨y, ex, rr⟩ := sr.sl j t e
        exact ⟨y, by rw [List.getElem?_set_ne hj]; exact ex, rr⟩
    · have n1 : i ≠ j := fun z => by subst z; rw [List.getElem?_set_self hi] at e1; cases e1; cases o1
      have n2 : i ≠ k := fun z => by subst z; rw [List.getElem?_set_self hi] at e2; cases e2; cases o2
      rw [List.getElem?_set_ne n1] at e1 z1
      rw [List.getElem?_set_ne n2] at e2 z2
      exact sr.ap j k t u p e1 e2 o1 o2 z1 z2
  · have hl := sr.len
    rw [List.set_eq_of_length_le (show σ.length ≤ i by omega), List.set_eq_of_length_le (show σV.length ≤ i by omega)]
    exact sr
theorem SRel.wiped (sr : SRel K L H σV σ) : ∀ vs : List Nat, SRel K L H (wipe σV vs) (wipeS σ vs)
  | [] => sr
  | v :: vs => (SRel.wiped sr vs).no none
end
def lcGo (t : GT) (tt : TM) (te : EM) (σ : Sg) : List D → Hs → R (List D)
  | [], h => .ok [] h
  | x :: xs, h => match t x σ with
    | none => .bad
    | some σ2 => (tt σ2 h).bind fun b h1 => match b with
      | true => (te σ2 h1).bind fun y h2 => (lcGo t tt te σ xs h2).bind fun ys h3 => .ok (y :: ys) h3
      | false => lcGo t tt te σ xs h1
def lcL (m : IM) (t : GT) (tt : TM) (te : EM) (vs : List Nat) : Sg → Hs → R (List D) := fun σ h => (m σ h).bind fun xs h1 => if xs.length ≤ sizeLine then lcGo t tt te (wipeS σ vs) xs h1 else .bad
def tYesM : TM := fun _ h => .ok true h
def SndTs (X : Cx) (e : List Expr) (m : TM) : Prop := PTs X e (RdT X.K m)
theorem sndTs_nil {X : Cx} : SndTs X [] tYesM := ⟨fun pins s σ H Q I ⟨L, σ', h, d, h', hr, sr, em, k⟩ => by cases em; exact pts_nil.run pins s σ H Q I (k L H Le.refl hr)⟩
theorem sndTs_one {X : Cx} {c : Expr} {m : TM} (h : SndT X c m) : SndTs X [c] m := pts_one h

section
variable {O : Addr → Prop} {K : PySem.W.Frag} {L L1 : Lay} {H H1 : Hp} {h : Hs} {p : Addr} {o u : HO}
theorem HRel.upd (s : HRel K L H h) (f : L.F p = none) (m : ¬ L.M p) : HRel K L (L2.upd H p o) h := by
  have ne : ∀ q, L.M q → q ≠ p := fun q hq z => m (z ▸ hq)
  refine ⟨fun q w e => ?_, s.nm, fun q hq => ?_, s.nd, s.len, fun n q ob e1 e2 => ?_⟩
  · rw [upd_ne (ne_of_none e f)]; exact s.sub q w e
  · rw [upd_ne (ne q hq)]; exact s.mt q hq
  · refine (s.ob n q ob e1 e2).le (fun _ _ e => e) (fun _ _ e => e) fun b w hb e => ?_
    have : L.M b := ⟨q, List.mem_of_getElem? e1, by rcases hb with hb | hb; exact .inl hb; exact .inr hb⟩
    rw [upd_ne (ne b this)]; exact e
theorem Le.upd (l : Le O L1 H1 L H) (hp : H1 p = none) : Le O L1 H1 L (L2.upd H p o) := by
  refine ⟨l.F, l.Fn, l.ob, l.M, fun q w e n m => ?_, fun q e => ?_⟩
  · rw [upd_ne (ne_of_none e hp)]; exact l.fr q w e n m
  · by_cases z : q = p
    · subst z; rw [upd_same]; intro w; cases w
    · rw [upd_ne z]; exact l.th q e
theorem HRel.freeze (s : HRel K L H h) (e : H p = some o) (f : L.F p = none) (m : ¬ L.M p) : HRel K (L.put p o) H h := by
  refine ⟨fun q w e' => ?_, fun q hq => ?_, s.mt, s.nd, s.len, fun n q ob e1 e2 => ?_⟩
  · have e' : L2.upd L.F p o q = some w := e'
    by_cases z : q = p
    · subst z; rw [upd_same] at e'; cases e'; exact e
    · rw [upd_ne z] at e'; exact s.sub q w e'
  · have hq : L.M q := hq
    show L2.upd L.F p o q = none
    rw [upd_ne (fun z => by subst z; exact m hq)]; exact s.nm q hq
  · refine (s.ob n q ob e1 e2).le (fun q w e => ?_) (fun _ _ e => e) fun b w hb e => e
    show L2.upd L.F p o q = some w
    rw [upd_ne (ne_of_none e f)]; exact e
theorem Le.freeze (l : Le O L1 H1 L H) (f : L.F p = none) (hp : H1 p = none ∨ O p) : Le O L1 H1 (L.put p o) H := by
  refine ⟨fun q w e => ?_, fun q e => ?_, l.ob, l.M, l.fr, l.th⟩
  · show L2.upd L.F p o q = some w
    have := l.F q w e
    rw [upd_ne (ne_of_none this f)]; exact this
  · have e : L2.upd L.F p o q ≠ none := e
    by_cases z : q = p
    · subst z; exact .inr hp
    · rw [upd_ne z] at e; exact l.Fn q e
theorem Le.keepF (l : Le (fun _ => False) L1 H1 L H) (e : H1 p = some u) (f : L1.F p = none) : L.F p = none := by
  refine Classical.byContradiction fun z => ?_
  rcases l.Fn p z with q | q | q
  · exact q f
  · rw [e] at q; cases q
  · exact q
theorem Le.keepM (l : Le (fun _ => False) L1 H1 L H) (e : H1 p = some u) (m : ¬ L1.M p) : ¬ L.M p := fun z => by
  rcases l.M p z with q | q | q
  · exact m q
  · rw [e] at q; cases q
  · exact q
end
section
variable {X : Cx} {e : Expr}
abbrev LM := Sg → Hs → R (List D)
def RdL (K : PySem.W.Frag) (m : LM) : TE := fun σV H Q => ∃ (L : Lay) (σ : Sg) (h : Hs) (xs : List D) (h' : Hs), HRel K L H h ∧ SRel K L H σV σ ∧ m σ h = .ok xs h' ∧
  ∀ L' H' p vs, Le0 L H L' H' → HRel K L' H' h' → H p = none → L'.F p = none → ¬ L'.M p → H' p = some (.lst vs) → Reps K L' vs xs → Q (.ref p) H'
def SndL (X : Cx) (e : Expr) (m : LM) : Prop := PE X e (RdL X.K m)
def eFrz (m : LM) : EM := fun σ h => (m σ h).bind fun xs h1 => .ok (.lst xs) h1
theorem SndL.toE {m : LM} (h : SndL X e m) : SndE X e (eFrz m) := by
  refine weakE h fun σV H Q ⟨L, σ, h, s, h', hr, sr, em, k⟩ => ?_
  obtain ⟨x, h1, e1, em⟩ := bind_some em
  cases em
  refine ⟨L, σ, h, x, _, hr, sr, e1, fun L1 H1 p vs l1 r1 hp f m e r => k _ _ _ (l1.freeze f (.inl hp)) (r1.freeze e f m) (.lst upd_same (Reps.mono (L := L1) (L' := L1.put p (HO.lst vs)) (fun q w e => ?_) (fun _ _ e => e) r))⟩
  show L2.upd L1.F p _ q = some w
  rw [upd_ne (ne_of_none e f)]; exact e
end
theorem wipe_idem {σ : Sv} {vs : List Nat} : wipe (wipe σ vs) vs = wipe σ vs := wipe_eq (wipe_length σ vs) fun i hi => wipe_out hi
theorem lc_rd {X : Cx} {m : IM} {t : GT} {tt : TM} {te : EM} {vs bs : List Nat} {σV : Sv} {H : Hp} {Q : VK} (q : RdL X.K (lcL m t tt te vs) σV H Q) : tLc (RdI X.K bs m) (RdG X.K vs t) (RdT X.K tt) (RdE X.K te) vs σV H Q := by
  obtain ⟨L, σ, h, out, h', hr, sr, em, k⟩ := q
  obtain ⟨xs, h1, e1, em⟩ := bind_some em
  by_cases hz : xs.length ≤ sizeLine
  · rw [if_pos hz] at em
    have e2 := em
    refine ⟨L, σ, h, xs, h1, hr, sr, e1, fun L1 H1 J l1 r1 wk A0 hA => ?_⟩
    have wk := wk (fun _ => False) (fun _ _ _ _ _ _ _ z => z)
    have f1 : L1.F A0 = none := by
      cases e : L1.F A0 with
      | none => rfl
      | some w => rw [r1.sub _ _ e] at hA; cases hA
    have m1 : ¬ L1.M A0 := fun z => r1.mt _ z hA
    -- the invariant: the layout has come so far, A0 holds what is made, the rest is still to be evaluated
    let W : Nat → Nat → Hp → Prop := fun i n H' => n = xs.length - i ∧ i ≤ xs.length ∧ ∃ (L' : Lay) (hh : Hs) (ds : List D) (us : List V) (rest : List D),
      Le0 L1 H1 L' H' ∧ HRel X.K L' H' hh ∧ L'.F A0 = none ∧ (¬ L'.M A0) ∧ H' A0 = some (.lst us) ∧ Reps X.K L' us ds ∧ ds.length ≤ i ∧ lcGo t tt te (wipeS σ vs) (xs.drop i) hh = .ok rest h' ∧ out = ds ++ rest
    refine ⟨W, ⟨xs.length, rfl, Nat.zero_le _, L1, h1, [], [], out, (Le.refl (L := L1) (H := H1)).upd hA, r1.upd f1 m1, f1, m1, upd_same, .nil, Nat.zero_le _, e2, rfl⟩, ?_⟩
    rintro i n H' ⟨hn, hi, L', hh, ds, us, rest, l', r', fA, mA, eA, rp, hd, eg, eo⟩
    by_cases hlt : i < xs.length
    · refine .inr ?_
      obtain ⟨hgo, hy⟩ := (wk L' H' hh l' r' i).1 xs[i] (List.getElem?_eq_getElem hlt)
      refine ⟨hgo, W (i + 1) (xs.length - (i + 1)), fun H'' w => ⟨_, by omega, w⟩, fun v H'' y => ?_⟩
      obtain ⟨La, l2, r2, q2⟩ := hy v H'' y
      rw [List.drop_eq_getElem_cons hlt] at eg
      unfold lcGo at eg
      cases et : t xs[i] (wipeS σ vs) with
      | none => rw [et] at eg; cases eg
      | some σ2 =>
        rw [et] at eg
        obtain ⟨b, h3, e3, eg⟩ := bind_some eg
        have lt2 := (l1.trans0 l').trans0 l2
        refine ⟨La, wipeS σ vs, xs[i], σ2, (sr.wiped vs).le lt2, q2, r2.sub, et, fun σV2 sr2 tg => ⟨(wipe_eq tg.len tg.out).trans wipe_idem, ?_⟩⟩
        refine ⟨La, σ2, hh, b, h3, r2, sr2, e3, fun L3 H3 l3 r3 => ?_⟩
        have l23 := l2.trans0 l3
        cases b with
        | false =>
          show W (i + 1) (xs.length - (i + 1)) H3
          exact ⟨rfl, hlt, L3, h3, ds, us, rest, l'.trans0 l23, r3, l23.keepF eA fA, l23.keepM eA mA, l23.fr _ _ eA mA (fun z => z), rp.le l23, by omega, eg, eo⟩
        | true =>
          show RdE X.K te σV2 H3 fun y H4 => ∃ acc, H4 A0 = some (HO.lst acc) ∧ acc.length < sizeLine ∧ W (i + 1) (xs.length - (i + 1)) (L2.upd H4 A0 (HO.lst (acc ++ [y])))
          obtain ⟨yv, h4, e4, eg⟩ := bind_some eg
          obtain ⟨ys, h5, e5, eg⟩ := bind_some eg
          cases eg
          refine ⟨L3, σ2, h3, yv, h4, r3, sr2.le l3, e4, fun L4 H4 v4 l4 r4 q4 => ?_⟩
          have l24 := l23.trans0 l4
          have f4 := l24.keepF eA fA
          have m4 := l24.keepM eA mA
          have hl := rp.length
          refine ⟨us, l24.fr _ _ eA mA (fun z => z), by omega, rfl, hlt, L4, h4, ds ++ [yv], us ++ [v4], ys, (l'.trans0 l24).upd hA, r4.upd f4 m4, f4, m4, upd_same, (rp.le l24).append (.cons q4 .nil), ?_, e5, ?_⟩
          · rw [List.length_append]; show ds.length + 1 ≤ i + 1; omega
          · rw [eo, List.append_assoc]; rfl
    · have ei : i = xs.length := by omega
      subst ei
      refine .inl ⟨(wk L' H' hh l' r' _).2 (Nat.le_refl _), ?_⟩
      rw [List.drop_length] at eg
      cases eg
      rw [List.append_nil] at eo
      subst eo
      refine k L' H' A0 us (l1.trans0 l') r' ?_ fA mA eA rp
      cases e : H A0 with
      | none => rfl
      | some w => exact absurd hA (l1.th A0 (by rw [e]; intro z; cases z))
  · rw [if_neg hz] at em; cases em
section
variable {X : Cx} {elt tg iter : Expr} {ifs : List Expr} {scope : Scope} {own : List (Str × Nat)} {pos : Pos} {bs : List Nat} {m : IM} {t : GT} {tt : TM} {te : EM}
theorem snd_lc (hc : X.calm = true) (hN : X.N.Nodup) (hi : SndI X tg iter bs m) (ok : BlkOk X.N X.env.scope scope own)
    (hg : ∀ (s : Shared) (H : Hp) (C : Addr) (cl : List (Str × Addr)) (fp : List Addr), SndG (X.blk s H scope (compEnvC scope cl C X.env) fp) tg (own.map (·.2)) t) (ht : ∀ (s : Shared) (H : Hp) (C : Addr) (cl : List (Str × Addr)) (fp : List Addr), SndTs (X.blk s H scope (compEnvC scope cl C X.env) fp) ifs tt)
    (he : ∀ (s : Shared) (H : Hp) (C : Addr) (cl : List (Str × Addr)) (fp : List Addr), SndE (X.blk s H scope (compEnvC scope cl C X.env) fp) elt te) (hs : ∀ x, foldedSetIterable iter X.env x = pure x) :
    SndL X (.ListComp elt [⟨tg, iter, ifs, 0⟩] scope pos) (lcL m t tt te (own.map (·.2))) :=
  weakE (pe_lc (wi := RdI X.K bs m) (g := RdG X.K (own.map fun (x : Str × Nat) => x.2) t) (tt := RdT X.K tt) (te := RdE X.K te) hc hN hi ok hg ht he hs) fun _ _ _ q => lc_rd q
end
end WC
set_option Elab.async false
set_option linter.all false
set_option maxRecDepth 100000
namespace WC
open PySem PySem.Spec PyProof.Rows L2

structure LeS (L : Lay) (H : Hp) (σV : Sv) (σ : Sg) (L' : Lay) (H' : Hp) (σV' : Sv) (σ' : Sg) : Prop where
  le : Le (Own σV σ) L H L' H'
  own : ∀ p, Own σV' σ' p → Own σV σ p ∨ H p = none
  kp : ∀ (i : Nat) (xs : List D), σ[i]? = some (.lent xs) → σ'[i]? = some (.lent xs) ∧ σV'[i]? = σV[i]?
theorem LeS.refl {L : Lay} {H : Hp} {σV : Sv} {σ : Sg} : LeS L H σV σ L H σV σ := ⟨Le.refl, fun _ h => .inl h, fun _ _ h => ⟨h, rfl⟩⟩
theorem LeS.trans {L L1 L2 : Lay} {H H1 H2 : Hp} {σV σV1 σV2 : Sv} {σ σ1 σ2 : Sg} (a : LeS L H σV σ L1 H1 σV1 σ1) (b : LeS L1 H1 σV1 σ1 L2 H2 σV2 σ2) : LeS L H σV σ L2 H2 σV2 σ2 :=
  ⟨a.le.trans b.le a.own, fun p h => by
    rcases b.own p h with q | q
    · exact a.own p q
    · exact .inr (Classical.byContradiction fun z => a.le.th p z q),
   fun i xs h => let ⟨h1, h2⟩ := a.kp i xs h; let ⟨h3, h4⟩ := b.kp i xs h1; ⟨h3, h4.trans h2⟩⟩
theorem LeS.of0 {L L1 : Lay} {H H1 : Hp} {σV : Sv} {σ : Sg} (a : Le0 L H L1 H1) : LeS L H σV σ L1 H1 σV σ := ⟨a.any, fun _ h => .inl h, fun _ _ h => ⟨h, rfl⟩⟩
def Post (K : PySem.W.Frag) (E : Ends) (L : Lay) (H : Hp) (σV : Sv) (σ : Sg) : RS → Prop
  | .nx σ' h' => ∀ L' H' σV', LeS L H σV σ L' H' σV' σ' → HRel K L' H' h' → SRel K L' H' σV' σ' → E.nx σV' H'
  | .bk σ' h' => ∀ L' H' σV', LeS L H σV σ L' H' σV' σ' → HRel K L' H' h' → SRel K L' H' σV' σ' → E.bk σV' H'
  | .ct σ' h' => ∀ L' H' σV', LeS L H σV σ L' H' σV' σ' → HRel K L' H' h' → SRel K L' H' σV' σ' → E.ct σV' H'
  | .rt d h' => ∀ L' H' v, Le (Own σV σ) L H L' H' → HRel K L' H' h' → Rep K L' v d → E.rt v H'
  | .bad => False
theorem Post.mono {K : PySem.W.Frag} {E : Ends} {L L1 : Lay} {H H1 : Hp} {σV σV1 : Sv} {σ σ1 : Sg} {r : RS} (p : Post K E L H σV σ r) (l : LeS L H σV σ L1 H1 σV1 σ1) : Post K E L1 H1 σV1 σ1 r := by
  cases r with
  | nx σ' h' => exact fun L' H' σV' l' hr sr => p L' H' σV' (l.trans l') hr sr
  | bk σ' h' => exact fun L' H' σV' l' hr sr => p L' H' σV' (l.trans l') hr sr
  | ct σ' h' => exact fun L' H' σV' l' hr sr => p L' H' σV' (l.trans l') hr sr
  | rt d h' => exact fun L' H' v l' hr r => p L' H' v (l.le.trans l' l.own) hr r
  | bad => exact p
def RdS (K : PySem.W.Frag) (m : SM) : TS := fun E σV H => ∃ (L : Lay) (σ : Sg) (h : Hs), HRel K L H h ∧ SRel K L H σV σ ∧ Post K E L H σV σ (m σ h)
def SndS (X : Cx) (st : Stmt) (m : SM) : Prop := PS X st (RdS X.K m)
def SndB (X : Cx) (sts : List Stmt) (m : SM) : Prop := PSs X sts (RdS X.K m)
def sBad : SM := fun _ _ => .bad
def sNil : SM := fun σ h => .nx σ h
def sSeq (a b : SM) : SM := fun σ h => match a σ h with
  | .nx σ' h' => b σ' h'
  | r => r
section
variable {X : Cx} {st : Stmt} {sts : List Stmt} {e a b c : Expr} {pos : Pos}
theorem sndS_bad : SndS X st sBad := ⟨fun _ _ _ _ _ _ ⟨_, _, _, _, _, q⟩ => q.elim⟩
theorem sndB_bad : SndB X sts sBad := ⟨fun _ _ _ _ _ _ ⟨_, _, _, _, _, q⟩ => q.elim⟩
theorem sndB_nil : SndB X [] sNil := weakB pss_nil fun E σV H ⟨L, σ, h, hr, sr, q⟩ => q L H σV LeS.refl hr sr
theorem sndS_pass : SndS X (.Pass pos) sNil := weakS ps_pass fun E σV H ⟨L, σ, h, hr, sr, q⟩ => q L H σV LeS.refl hr sr
def sBreak : SM := fun σ h => .bk σ h
def sCont : SM := fun σ h => .ct σ h
theorem sndS_break : SndS X (.Break pos) sBreak := weakS ps_break fun E σV H ⟨L, σ, h, hr, sr, q⟩ => q L H σV LeS.refl hr sr
theorem sndS_cont : SndS X (.Continue pos) sCont := weakS ps_continue fun E σV H ⟨L, σ, h, hr, sr, q⟩ => q L H σV LeS.refl hr sr
theorem sndB_cons {m n : SM} (h1 : SndS X st m) (h2 : SndB X sts n) : SndB X (st :: sts) (sSeq m n) := by
  refine weakB (pss_cons h1 h2) fun E σV H ⟨L, σ, h, hr, sr, q⟩ => ⟨L, σ, h, hr, sr, ?_⟩
  unfold sSeq at q
  cases e : m σ h with
  | nx σ' h' => rw [e] at q; exact fun L' H' σV' l' hr' sr' => ⟨L', σ', h', hr', sr', Post.mono q l'⟩
  | bk σ' h' => rw [e] at q; exact q
  | ct σ' h' => rw [e] at q; exact q
  | rt d h' => rw [e] at q; exact q
  | bad => rw [e] at q; exact q.elim
def eDo {α : Type} (r : R α) (f : α → Hs → RS) : RS := match r with
  | .ok a h => f a h
  | .bad => .bad
theorem eDo_case {α : Type} {K : PySem.W.Frag} {E : Ends} {L : Lay} {H : Hp} {σV : Sv} {σ : Sg} {r : R α} {f : α → Hs → RS} (q : Post K E L H σV σ (eDo r f)) : ∃ x h1, r = .ok x h1 ∧ Post K E L H σV σ (f x h1) := by
  cases r with
  | ok x h1 => exact ⟨x, h1, rfl, q⟩
  | bad => exact q.elim
def sExpr (m : EM) : SM := fun σ h => eDo (m σ h) fun _ h1 => .nx σ h1
theorem sndS_expr {m : EM} (he : SndE X e m) (hs : swapsWith e none pos.line X.env = pure false) : SndS X (.Expr e pos) (sExpr m) := by
  refine weakS (ps_expr he hs) fun E σV H ⟨L, σ, h, hr, sr, q⟩ => ?_
  obtain ⟨x, h1, e1, q⟩ := eDo_case q
  exact ⟨L, σ, h, x, h1, hr, sr, e1, fun L1 H1 v l1 r1 _ => q L1 H1 σV (LeS.of0 l1) r1 (sr.le l1)⟩
def sRet (m : EM) : SM := fun σ h => eDo (m σ h) fun d h1 => .rt d h1
theorem sndS_ret {m : EM} (he : SndE X e m) : SndS X (.Return (some e) pos) (sRet m) := by
  refine weakS (ps_ret he) fun E σV H ⟨L, σ, h, hr, sr, q⟩ => ?_
  obtain ⟨x, h1, e1, q⟩ := eDo_case q
  exact ⟨L, σ, h, x, h1, hr, sr, e1, fun L1 H1 v l1 r1 q1 => q L1 H1 v l1.any r1 q1⟩
def sRetN : SM := fun _ h => .rt .non h
theorem sndS_retN : SndS X (.Return none pos) sRetN := weakS ps_retN fun E σV H ⟨L, σ, h, hr, sr, q⟩ => q L H _ Le.refl hr .non
def sIf (t : TM) (m n : SM) : SM := fun σ h => eDo (t σ h) fun b h1 => match b with
  | true => m σ h1
  | false => n σ h1
theorem sndS_if {t : TM} {m n : SM} {as bs : List Stmt} (hc : SndT X c t) (ha : SndB X as m) (hb : SndB X bs n) : SndS X (.If c as bs pos) (sIf t m n) := by
  refine weakS (ps_if hc ha hb) fun E σV H ⟨L, σ, h, hr, sr, q⟩ => ?_
  obtain ⟨x, h1, e1, q⟩ := eDo_case q
  refine ⟨L, σ, h, x, h1, hr, sr, e1, fun L1 H1 l1 r1 => ?_⟩
  have q' := Post.mono q (LeS.of0 l1)
  cases x with
  | true => exact ⟨L1, σ, h1, r1, sr.le l1, q'⟩
  | false => exact ⟨L1, σ, h1, r1, sr.le l1, q'⟩

abbrev XM := Sg → Hs → R Sl
def RdX (K : PySem.W.Frag) (m : XM) : TE := fun σV H Q => ∃ (L : Lay) (σ : Sg) (h : Hs) (s : Sl) (h' : Hs), HRel K L H h ∧ SRel K L H σV σ ∧ m σ h = .ok s h' ∧
  ∀ L' H' v, Le0 L H L' H' → HRel K L' H' h' → RepSl K L' H' (some v) s → (∀ p, s.owned = true → v = .ref p → H p = none) → Q v H'
def SndX (X : Cx) (e : Expr) (m : XM) : Prop := PE X e (RdX X.K m)
def xVal (m : EM) : XM := fun σ h => (m σ h).bind fun d h1 => .ok (.val d) h1
theorem sndX_val {m : EM} (h : SndE X e m) : SndX X e (xVal m) := by
  refine weakE h fun σV H Q ⟨L, σ, h, s, h', hr, sr, em, k⟩ => ?_
  obtain ⟨x, h1, e1, em⟩ := bind_some em
  cases em
  exact ⟨L, σ, h, x, _, hr, sr, e1, fun L1 H1 v l1 r1 q1 => k L1 H1 v l1 r1 ⟨v, rfl, q1⟩ fun _ z => by cases z⟩
def xOwn (m : LM) : XM := fun σ h => (m σ h).bind fun xs h1 => .ok (.own xs) h1
theorem conv_own {K : PySem.W.Frag} {m : LM} {σV : Sv} {H : Hp} {Q : VK} (q : RdX K (xOwn m) σV H Q) : RdL K m σV H Q := by
  obtain ⟨L, σ, h, s, h', hr, sr, em, k⟩ := q
  obtain ⟨x, h1, e1, em⟩ := bind_some em
  cases em
  exact ⟨L, σ, h, x, _, hr, sr, e1, fun L1 H1 p vs l1 r1 hp f m e r => k L1 H1 _ l1 r1 ⟨p, vs, rfl, e, f, m, r⟩ fun q _ z => by cases z; exact hp⟩
def xHeap (m : LM) : XM := fun σ h => (m σ h).bind fun xs h1 => .ok (.val (.ref h1.length)) (h1 ++ [.lst xs])
def Lay.more (L : Lay) (q : Addr × List Addr) : Lay := { L with ob := L.ob ++ [q] }
theorem Lay.more_M {L : Lay} {q : Addr × List Addr} {p : Addr} : (L.more q).M p ↔ L.M p ∨ p = q.1 ∨ p ∈ q.2 := by
  unfold Lay.M Lay.more
  simp only [List.mem_append, List.mem_singleton]
  constructor
  · rintro ⟨r, hr | rfl, h⟩
    · exact .inl ⟨r, hr, h⟩
    · exact .inr h
  · rintro (⟨r, hr, h⟩ | h)
    · exact ⟨r, .inl hr, h⟩
    · exact ⟨q, .inr rfl, h⟩
theorem more_at {L : Lay} {q : Addr × List Addr} {n : Nat} {a : Addr} (h : L.at n = some a) : (L.more q).at n = some a := by
  unfold Lay.at Lay.more at *
  obtain ⟨r, e, rfl⟩ := Option.map_eq_some_iff.mp h
  rw [List.getElem?_append_left (List.getElem?_eq_some_iff.mp e).1, e]
  rfl
theorem HRel.more {K : PySem.W.Frag} {L : Lay} {H : Hp} {h : Hs} {p : Addr} {vs : List V} {xs : List D} (s : HRel K L H h) (f : L.F p = none) (m : ¬ L.M p) (e : H p = some (.lst vs)) (r : Reps K L vs xs) : HRel K (L.more (p, [])) H (h ++ [.lst xs]) := by
  refine ⟨s.sub, fun q hq => ?_, fun q hq => ?_, ?_, ?_, fun n q o e1 e2 => ?_⟩
  · rcases Lay.more_M.mp hq with h | rfl | h
    · exact s.nm q h
    · exact f
    · cases h
  · rcases Lay.more_M.mp hq with h | rfl | h
    · exact s.mt q h
    · rw [e]; intro z; cases z
    · cases h
  · show ((L.ob ++ [(p, [])]).flatMap fun (q : Addr × List Addr) => q.1 :: q.2).Nodup
    rw [List.flatMap_append, List.nodup_append]
    refine ⟨s.nd, by simp, fun x hx y hy z => ?_⟩
    simp at hy
    subst hy; subst z
    obtain ⟨q, hq, hx⟩ := List.mem_flatMap.mp hx
    exact m ⟨q, hq, by rcases List.mem_cons.mp hx with h | h; exact .inl h; exact .inr h⟩
  · show (L.ob ++ [_]).length = _
    simp [s.len]
  · have e1 : (L.ob ++ [(p, [])])[n]? = some q := e1
    by_cases hn : n < L.ob.length
    · rw [List.getElem?_append_left hn] at e1
      rw [List.getElem?_append_left (by rw [← s.len]; exact hn)] at e2
      exact (s.ob n q o e1 e2).le (fun _ _ e => e) (fun _ _ e => more_at e) fun _ _ _ e => e
    · have hn' : n = L.ob.length := by
        have := (List.getElem?_eq_some_iff.mp e1).1
        simp at this
        omega
      subst hn'
      rw [List.getElem?_append_right (Nat.le_refl _), Nat.sub_self] at e1
      rw [List.getElem?_append_right (by rw [s.len]; exact Nat.le_refl _), s.len, Nat.sub_self] at e2
      cases e1; cases e2
      exact ⟨rfl, vs, e, Reps.mono (L := L) (L' := L.more (p, [])) (fun _ _ e => e) (fun _ _ e => more_at e) r⟩
theorem Le.more {O : Addr → Prop} {L L1 : Lay} {H H1 : Hp} {p : Addr} (l : Le O L H L1 H1) (hp : H p = none ∨ O p) : Le O L H (L1.more (p, [])) H1 :=
  ⟨l.F, l.Fn, fun n a h => more_at (l.ob n a h), fun q hq => by
    rcases Lay.more_M.mp hq with h | rfl | h
    · exact l.M q h
    · exact .inr hp
    · exact (List.not_mem_nil h).elim, l.fr, l.th⟩
theorem conv_heap {K : PySem.W.Frag} {m : LM} {σV : Sv} {H : Hp} {Q : VK} (q : RdX K (xHeap m) σV H Q) : RdL K m σV H Q := by
  obtain ⟨L, σ, h, s, h', hr, sr, em, k⟩ := q
  obtain ⟨x, h1, e1, em⟩ := bind_some em
  cases em
  refine ⟨L, σ, h, x, h1, hr, sr, e1, fun L1 H1 p vs l1 r1 hp f m e r => k (L1.more (p, [])) H1 _ (l1.more (.inl hp)) (r1.more f m e r) ⟨_, rfl, .ref ?_⟩ fun q z => by cases z⟩
  unfold Lay.at Lay.more
  rw [List.getElem?_append_right (by rw [r1.len]; exact Nat.le_refl _), r1.len, Nat.sub_self]
  rfl

theorem conv_val {K : PySem.W.Frag} {m : LM} {σV : Sv} {H : Hp} {Q : VK} (q : RdX K (xVal (eFrz m)) σV H Q) : RdL K m σV H Q := by
  obtain ⟨L, σ, h, s, h', hr, sr, em, k⟩ := q
  obtain ⟨d, h1, e1, em⟩ := bind_some em
  obtain ⟨x, h2, e2, e1⟩ := bind_some e1
  cases e1; cases em
  refine ⟨L, σ, h, x, _, hr, sr, e2, fun L1 H1 p vs l1 r1 hp f m e r => k _ _ _ (l1.freeze f (.inl hp)) (r1.freeze e f m) ⟨_, rfl, .lst upd_same (Reps.mono (L := L1) (L' := L1.put p (HO.lst vs)) (fun q w e => ?_) (fun _ _ e => e) r)⟩ fun _ z => by cases z⟩
  show L2.upd L1.F p _ q = some w
  rw [upd_ne (ne_of_none e f)]; exact e
theorem SndL.toX {m : LM} (h : SndL X e m) : SndX X e (xOwn m) := weakE h fun _ _ _ q => conv_own q
theorem SndL.toH {m : LM} (h : SndL X e m) : SndX X e (xHeap m) := weakE h fun _ _ _ q => conv_heap q
def sSet (i : Nat) (m : XM) : SM := fun σ h => eDo (m σ h) fun s h1 => match setS σ i s with
  | some σ' => .nx σ' h1
  | none => .bad
theorem leS_set {K : PySem.W.Frag} {L L1 : Lay} {H H1 : Hp} {σV : Sv} {σ σ' : Sg} {i : Nat} {s : Sl} {v : V} (sr : SRel K L H σV σ) (l1 : Le0 L H L1 H1) (r : RepSl K L1 H1 (some v) s) (fr : ∀ p, s.owned = true → v = .ref p → H p = none) (ns : ∀ xs, s ≠ .lent xs)
    (e : setS σ i s = some σ') : LeS L H σV σ L1 H1 (σV.set i (some v)) σ' ∧ SRel K L1 H1 (σV.set i (some v)) σ' := by
  obtain ⟨rfl, hi, nl⟩ := setS_ok e
  have tracked : ∀ (j : Nat) (t : Sl) p, σ[j]? = some t → t.owned = true → σV[j]? = some (some (.ref p)) → H p ≠ none := fun j t p e1 o e2 => by
    obtain ⟨x, ex, r⟩ := sr.sl j t e1
    rw [e2] at ex; cases ex
    cases t with
    | own xs => obtain ⟨p', vs, z, e, _⟩ := r; cases z; rw [e]; intro w; cases w
    | lent xs => obtain ⟨p', vs, z, e, _⟩ := r; cases z; rw [e]; intro w; cases w
    | ownd xs => obtain ⟨p', ks, vs, z, ⟨o, e, _⟩, _⟩ := r; cases z; rw [e]; intro w; cases w
    | val _ => cases o
    | no => cases o
  refine ⟨⟨l1.any, fun p ⟨j, t, e1, f, e2⟩ => ?_, fun j xs hj => ?_⟩, (sr.le l1).set hi r fun p o z j t hj e1 ot e2 => tracked j t p e1 ot e2 (fr p o z)⟩
  · by_cases hj : i = j
    · subst hj
      rw [List.getElem?_set_self hi] at e1; cases e1
      rw [List.getElem?_set_self (by rw [sr.len]; exact hi)] at e2
      have e2 : v = .ref p := by simpa using e2
      exact .inr (fr p (by cases s <;> first | rfl | cases f) e2)
    · rw [List.getElem?_set_ne hj] at e1 e2
      exact .inl ⟨j, t, e1, f, e2⟩
  · have z : i ≠ j := fun z => by subst z; exact nl xs hj
    rw [List.getElem?_set_ne z, List.getElem?_set_ne z]
    exact ⟨hj, rfl⟩
def Sl.plain : Sl → Bool
  | .lent _ => false
  | _ => true
def XPlain (m : XM) : Prop := ∀ σ h s h', m σ h = .ok s h' → ∀ xs, s ≠ .lent xs
theorem xVal_plain {m : EM} : XPlain (xVal m) := fun σ h s h' e xs z => by
  obtain ⟨x, h1, e1, e⟩ := bind_some e
  cases e; cases z
theorem xOwn_plain {m : LM} : XPlain (xOwn m) := fun σ h s h' e xs z => by
  obtain ⟨x, h1, e1, e⟩ := bind_some e
  cases e; cases z
theorem xHeap_plain {m : LM} : XPlain (xHeap m) := fun σ h s h' e xs z => by
  obtain ⟨x, h1, e1, e⟩ := bind_some e
  cases e; cases z
theorem set_rd {K : PySem.W.Frag} {i : Nat} {m : XM} {E : Ends} {σV : Sv} {H : Hp} (pl : XPlain m) (q : RdS K (sSet i m) E σV H) : RdX K m σV H fun v H1 => gName i v σV H1 E.nx := by
  obtain ⟨L, σ, h, hr, sr, q⟩ := q
  obtain ⟨s, h1, e1, q⟩ := eDo_case q
  refine ⟨L, σ, h, s, h1, hr, sr, e1, fun L1 H1 v l1 r1 q1 fr => ?_⟩
  cases e : setS σ i s with
  | none => rw [e] at q; exact q.elim
  | some σ' =>
    rw [e] at q
    obtain ⟨l, sr'⟩ := leS_set sr l1 q1 fr (pl σ h s h1 e1) e
    exact q L1 H1 _ l r1 sr'
theorem sndS_set {i : Nat} {x : Str} {m : XM} {pos' : Pos} (hN : X.N.Nodup) (hi : X.N[i]? = some x) (hx : Loc X.env.scope x) (he : SndX X e m) (pl : XPlain m) (hs : swapsWith e (some (.Name x pos')) pos.line X.env = pure false) (hf : X.fn x = true ∨ X.env.scope.names.lookup x = some .local) :
    SndS X (.Assign [.Name x pos'] e pos) (sSet i m) :=
  weakS (ps_set hN hi hx he hs hf) fun E σV H q => set_rd pl q
def sAsg (t : GT) (m : EM) : SM := fun σ h => eDo (m σ h) fun d h1 => match t d σ with
  | some σ' => .nx σ' h1
  | none => .bad
theorem leS_tg {L L1 : Lay} {H H1 : Hp} {σV σV' : Sv} {σ σ' : Sg} {vs : List Nat} (l1 : Le0 L H L1 H1) (t : TgR vs σV σ σV' σ') : LeS L H σV σ L1 H1 σV' σ' := ⟨l1.any, fun p h => .inl (t.own p h), t.kp⟩
theorem sndS_asg {tg : Expr} {t : GT} {m : EM} {vs : List Nat} (he : SndE X e m) (hg : SndG X tg vs t) (hs : swapsWithSole [tg] e pos.line X.env = pure false) (hw : swappedStores [tg] e X.env = pure none) (h1 : (assignEach [tg] X.env).map (·.2) = [assign tg X.env]) :
    SndS X (.Assign [tg] e pos) (sAsg t m) := by
  refine weakS (ps_asg he hg hs hw h1) fun E σV H ⟨L, σ, h, hr, sr, q⟩ => ?_
  obtain ⟨d, h1, e1, q⟩ := eDo_case q
  refine ⟨L, σ, h, d, h1, hr, sr, e1, fun L1 H1 v l1 r1 q1 => ?_⟩
  cases e : t d σ with
  | none => rw [e] at q; exact q.elim
  | some σ' =>
    rw [e] at q
    exact ⟨L1, σ, d, σ', sr.le l1, q1, r1.sub, e, fun σV' sr' tg => q L1 H1 σV' (leS_tg l1 tg) r1 sr'⟩
def frzS (σ : Sg) (i : Nat) : Sg := match σ[i]? with
  | some (.own xs) => σ.set i (.val (.lst xs))
  | some (.ownd kvs) => σ.set i (.val (.dct kvs))
  | _ => σ
def sFrz (is : List Nat) (m : SM) : SM := fun σ h => m (is.foldl frzS σ) h
theorem frz_one {K : PySem.W.Frag} {L : Lay} {H : Hp} {h : Hs} {σV : Sv} {σ : Sg} (i : Nat) (hr : HRel K L H h) (sr : SRel K L H σV σ) : ∃ L', LeS L H σV σ L' H σV (frzS σ i) ∧ HRel K L' H h ∧ SRel K L' H σV (frzS σ i) := by
  unfold frzS
  split
  · rename_i xs e
    obtain ⟨x, ex, p, vs, rfl, ep, f, m, r⟩ := sr.sl i _ e
    have hi := (List.getElem?_eq_some_iff.mp e).1
    have lF : ∀ q w, L.F q = some w → (L.put p (.lst vs)).F q = some w := fun q w e' => by
      show L2.upd L.F p _ q = some w
      rw [upd_ne (ne_of_none e' f)]; exact e'
    have r' : Reps K (L.put p (.lst vs)) vs xs := r.mono lF fun _ _ e => e
    refine ⟨L.put p (.lst vs), ⟨Le.refl.freeze f (.inr ⟨i, _, e, rfl, ex⟩), fun q ⟨j, t, e1, ft, e2⟩ => ?_, fun j ys hj => ?_⟩, hr.freeze ep f m, ⟨by simp [sr.len], fun j t ht => ?_, fun j k t u q e1 e2 o1 o2 z1 z2 => ?_⟩⟩
    · by_cases z : i = j
      · subst z; rw [List.getElem?_set_self hi] at e1; cases e1; cases ft
      · rw [List.getElem?_set_ne z] at e1; exact .inl ⟨j, t, e1, ft, e2⟩
    · have z : i ≠ j := fun z => by subst z; rw [e] at hj; cases hj
      rw [List.getElem?_set_ne z]; exact ⟨hj, rfl⟩
    · by_cases z : i = j
      · subst z
        rw [List.getElem?_set_self hi] at ht; cases ht
        exact ⟨_, ex, _, rfl, .lst upd_same r'⟩
      · rw [List.getElem?_set_ne z] at ht
        obtain ⟨y, ey, ry⟩ := sr.sl j t ht
        refine ⟨y, ey, ?_⟩
        have np : ∀ q, t.owned = true → y = some (.ref q) → q ≠ p := fun q o z2 w => by
          subst w; subst z2
          exact z (sr.ap i j _ t q e ht rfl o ex ey)
        cases t with
        | no => trivial
        | val d => obtain ⟨v, e1, r1⟩ := ry; exact ⟨v, e1, r1.mono lF fun _ _ e => e⟩
        | own zs =>
          obtain ⟨q, us, e1, e2, e3, e4, r1⟩ := ry
          refine ⟨q, us, e1, e2, ?_, e4, r1.mono lF fun _ _ e => e⟩
          show L2.upd L.F p _ q = none
          rw [upd_ne (np q rfl e1)]; exact e3
        | lent zs =>
          obtain ⟨q, us, e1, e2, e3, e4, r1⟩ := ry
          refine ⟨q, us, e1, e2, ?_, e4, r1.mono lF fun _ _ e => e⟩
          show L2.upd L.F p _ q = none
          rw [upd_ne (np q rfl e1)]; exact e3
        | ownd zs =>
          obtain ⟨q, ks, us, e1, e2, e3, e4, e5, ds, r1, e6⟩ := ry
          refine ⟨q, ks, us, e1, e2, e3, ?_, e5, ds, r1.mono lF fun _ _ e => e, e6⟩
          show L2.upd L.F p _ q = none
          rw [upd_ne (np q rfl e1)]; exact e4
    · have n1 : i ≠ j := fun z => by subst z; rw [List.getElem?_set_self hi] at e1; cases e1; cases o1
      have n2 : i ≠ k := fun z => by subst z; rw [List.getElem?_set_self hi] at e2; cases e2; cases o2
      rw [List.getElem?_set_ne n1] at e1
      rw [List.getElem?_set_ne n2] at e2
      exact sr.ap j k t u q e1 e2 o1 o2 z1 z2
  · rename_i kvs e
    obtain ⟨x, ex, p, ks, vs, rfl, ⟨o, ep, mu⟩, dg, f, m, ds, r, ek⟩ := sr.sl i _ e
    have hi := (List.getElem?_eq_some_iff.mp e).1
    have lF : ∀ q w, L.F q = some w → (L.put p o).F q = some w := fun q w e' => by
      show L2.upd L.F p _ q = some w
      rw [upd_ne (ne_of_none e' f)]; exact e'
    have r' : Reps K (L.put p o) vs ds := r.mono lF fun _ _ e => e
    have dg' : DG (L.put p o).F p ks vs := by
      have e' : (L.put p o).F p = some o := upd_same
      rcases dg with ⟨kv, rr, q⟩ | ⟨kv, rr, q⟩
      · refine .inl ⟨kv, ?_, q⟩
        rcases rr with rr | ⟨o', rr⟩
        · rw [ep] at rr; cases rr; exact .inl e'
        · rw [ep] at rr; cases rr; exact .inr ⟨o', e'⟩
      · refine .inr ⟨kv, ?_, q⟩
        rw [ep] at rr; cases rr; exact e'
    refine ⟨L.put p o, ⟨Le.refl.freeze f (.inr ⟨i, _, e, rfl, ex⟩), fun q ⟨j, t, e1, ft, e2⟩ => ?_, fun j ys hj => ?_⟩, hr.freeze ep f m, ⟨by simp [sr.len], fun j t ht => ?_, fun j k t u q e1 e2 o1 o2 z1 z2 => ?_⟩⟩
    · by_cases z : i = j
      · subst z; rw [List.getElem?_set_self hi] at e1; cases e1; cases ft
      · rw [List.getElem?_set_ne z] at e1; exact .inl ⟨j, t, e1, ft, e2⟩
    · have z : i ≠ j := fun z => by subst z; rw [e] at hj; cases hj
      rw [List.getElem?_set_ne z]; exact ⟨hj, rfl⟩
    · by_cases z : i = j
      · subst z
        rw [List.getElem?_set_self hi] at ht; cases ht
        exact ⟨_, ex, _, rfl, by rw [ek]; exact .dct dg' r'⟩
      · rw [List.getElem?_set_ne z] at ht
        obtain ⟨y, ey, ry⟩ := sr.sl j t ht
        refine ⟨y, ey, ?_⟩
        have np : ∀ q, t.owned = true → y = some (.ref q) → q ≠ p := fun q o z2 w => by
          subst w; subst z2
          exact z (sr.ap i j _ t q e ht rfl o ex ey)
        cases t with
        | no => trivial
        | val d => obtain ⟨v, e1, r1⟩ := ry; exact ⟨v, e1, r1.mono lF fun _ _ e => e⟩
        | own zs =>
          obtain ⟨q, us, e1, e2, e3, e4, r1⟩ := ry
          refine ⟨q, us, e1, e2, ?_, e4, r1.mono lF fun _ _ e => e⟩
          show L2.upd L.F p _ q = none
          rw [upd_ne (np q rfl e1)]; exact e3
        | lent zs =>
          obtain ⟨q, us, e1, e2, e3, e4, r1⟩ := ry
          refine ⟨q, us, e1, e2, ?_, e4, r1.mono lF fun _ _ e => e⟩
          show L2.upd L.F p _ q = none
          rw [upd_ne (np q rfl e1)]; exact e3
        | ownd zs =>
          obtain ⟨q, ks, us, e1, e2, e3, e4, e5, ds, r1, e6⟩ := ry
          refine ⟨q, ks, us, e1, e2, e3, ?_, e5, ds, r1.mono lF fun _ _ e => e, e6⟩
          show L2.upd L.F p _ q = none
          rw [upd_ne (np q rfl e1)]; exact e4
    · have n1 : i ≠ j := fun z => by subst z; rw [List.getElem?_set_self hi] at e1; cases e1; cases o1
      have n2 : i ≠ k := fun z => by subst z; rw [List.getElem?_set_self hi] at e2; cases e2; cases o2
      rw [List.getElem?_set_ne n1] at e1
      rw [List.getElem?_set_ne n2] at e2
      exact sr.ap j k t u q e1 e2 o1 o2 z1 z2
  · exact ⟨L, LeS.refl, hr, sr⟩
theorem frz_all {K : PySem.W.Frag} {H : Hp} {h : Hs} {σV : Sv} : ∀ (is : List Nat) {L : Lay} {σ : Sg}, HRel K L H h → SRel K L H σV σ → ∃ L', LeS L H σV σ L' H σV (is.foldl frzS σ) ∧ HRel K L' H h ∧ SRel K L' H σV (is.foldl frzS σ)
  | [], L, σ, hr, sr => ⟨L, LeS.refl, hr, sr⟩
  | i :: is, L, σ, hr, sr => by
    obtain ⟨L1, l1, r1, s1⟩ := frz_one i hr sr
    obtain ⟨L2, l2, r2, s2⟩ := frz_all is r1 s1
    exact ⟨L2, l1.trans l2, r2, s2⟩
theorem frz_rd {K : PySem.W.Frag} {is : List Nat} {m : SM} {E : Ends} {σV : Sv} {H : Hp} (q : RdS K (sFrz is m) E σV H) : RdS K m E σV H := by
  obtain ⟨L, σ, h, hr, sr, q⟩ := q
  obtain ⟨L', l, hr', sr'⟩ := frz_all is hr sr
  exact ⟨L', _, h, hr', sr', Post.mono q l⟩
theorem sndS_frz {is : List Nat} {m : SM} (h : SndS X st m) : SndS X st (sFrz is m) := weakS h fun E σV H q => frz_rd q
end
end WC
set_option Elab.async false
set_option linter.all false
set_option maxRecDepth 100000
namespace WC
open PySem PySem.Spec PyProof.Rows L2
section
variable {X : Cx} {st : Stmt} {sts : List Stmt} {e a b c : Expr} {es : List Expr} {pos : Pos}

def lLst (ms : AM) : LM := fun σ h => (ms σ h).bind fun xs h1 => if xs.length ≤ sizeLine then .ok xs h1 else .bad
theorem new_F {K : PySem.W.Frag} {L : Lay} {H : Hp} {h : Hs} {p : Addr} (s : HRel K L H h) (hp : H p = none) : L.F p = none ∧ ¬ L.M p := by
  refine ⟨?_, fun z => s.mt p z hp⟩
  cases e : L.F p with
  | none => rfl
  | some w => rw [s.sub _ _ e] at hp; cases hp
theorem fresh_back {L L1 : Lay} {H H1 : Hp} {O : Addr → Prop} {p : Addr} (l : Le O L H L1 H1) (hp : H1 p = none) : H p = none := Classical.byContradiction fun z => l.th p z hp
theorem sndL_lst {ms : AM} (h : SndA X es ms) : SndL X (.List es pos) (lLst ms) := by
  refine weakE (pe_lst h) fun σV H Q ⟨L, σ, h, d, h', hr, sr, em, k⟩ => ?_
  obtain ⟨xs, h1, e1, em⟩ := bind_some em
  obtain ⟨hz, e2, e3⟩ := ite_ok em
  subst e2; subst e3
  refine ⟨L, σ, h, xs, h1, hr, sr, e1, fun L1 H1 vs l1 r1 q1 => ⟨by rw [q1.length]; exact hz, fun p hp => ?_⟩⟩
  obtain ⟨f, m⟩ := new_F r1 hp
  have hp0 := fresh_back l1 hp
  exact k L1 _ p vs (l1.upd hp0) (r1.upd f m) hp0 f m upd_same q1
def lRep (ma mb : EM) : LM := fun σ h => (ma σ h).bind fun x h1 => (mb σ h1).bind fun y h2 => match asL h2 x, y with
  | some xs, .int k => if k < 2 ^ 63 ∧ -(2 ^ 63) ≤ k ∧ xs.length * k.toNat ≤ sizeLine then .ok (List.replicate k.toNat xs).flatten h2 else .bad
  | _, _ => .bad
theorem sndL_rep {ma mb : EM} (ha : SndO X a ma) (hb : SndO X b mb) : SndL X (.BinOp a .Mult b pos) (lRep ma mb) := by
  refine weakE (pe_op op_rep ha hb) fun σV H Q ⟨L, σ, h, d, h', hr, sr, em, k⟩ => ?_
  obtain ⟨x, h1, e1, em⟩ := bind_some em
  obtain ⟨y, h2, e2, em⟩ := bind_some em
  refine ⟨L, σ, h, x, h1, hr, sr, e1, fun L1 H1 v1 l1 r1 q1 => ⟨L1, σ, h1, y, h2, r1, sr.le l1, e2, fun L2 H2 v2 l2 r2 q2 => ?_⟩⟩
  split at em
  · rename_i xs kk ex
    obtain ⟨hk, e3, e4⟩ := ite_ok em
    subst e3; subst e4
    obtain ⟨p1, vs, rfl, t1, rr⟩ := asL_ok r2 (q1.le l2) ex
    refine ⟨p1, kk, vs, rfl, q2.int, t1, hk.2.1, hk.1, by rw [rr.length]; exact hk.2.2, fun pp hp => ?_⟩
    obtain ⟨f, m⟩ := new_F r2 hp
    have hp0 := fresh_back (l1.trans0 l2) hp
    exact k L2 _ pp _ ((l1.trans0 l2).upd hp0) (r2.upd f m) hp0 f m upd_same (rr.rep _)
  · cases em
def lListOf (ms : AM) : LM := fun σ h => (ms σ h).bind fun xs h1 => match xs with
  | [.scr ys] => .ok ys h1
  | [x] => optR (asS h1 x) h1
  | _ => .bad
theorem sndL_listOf {x : Str} {p : Pos} {ms : AM} (hx : x = ("list" : Str)) (hg : Gl X x) (hm : X.mg x = none) (ha : SndAO X (e :: es) ms)
    (he : starEach (e :: es) X.env = (false, eval e X.env) :: starEach es X.env) (hpl : (backTo pos (starEach es X.env)).any (·.1) = false) : SndL X (.Call (.Name x p) (e :: es) [] pos) (lListOf ms) := by
  subst hx
  refine weakE (pe_callTy call_list_of hg hm (by decide +kernel) ha (by decide) (by decide) he hpl) fun σV H Q ⟨L, σ, h, d, h', hr, sr, em, k⟩ => ?_
  obtain ⟨xs, h1, e1, em⟩ := bind_some em
  refine ⟨L, σ, h, xs, h1, hr, sr, e1, fun L1 H1 vs l1 r1 q1 => ?_⟩
  split at em
  · cases em
    obtain ⟨v, rfl, r⟩ := ro1 q1
    rcases r with r | ⟨_, e, _⟩ | ⟨_, e, _⟩
    · cases r with
      | scr f r =>
        refine ⟨_, _, rfl, .inl (r1.sqL f), fun l hl => ?_⟩
        obtain ⟨f, m⟩ := new_F r1 hl
        have hp0 := fresh_back l1 hl
        exact k L1 _ l _ (l1.upd hp0) (r1.upd f m) hp0 f m upd_same r
    · cases e
    · cases e
  · obtain ⟨e2, eh⟩ := optR_ok em
    subst eh
    obtain ⟨v, rfl, r⟩ := ro1 q1
    obtain ⟨q, vs, rfl, h1', rr⟩ := asS_ok r1 r e2
    refine ⟨q, vs, rfl, ?_, fun l hl => ?_⟩
    · rcases h1' with ⟨_, _, h1⟩ | ⟨h1, _⟩
      · exact .inr h1
      · exact .inl h1
    · obtain ⟨f, m⟩ := new_F r1 hl
      have hp0 := fresh_back l1 hl
      exact k L1 _ l _ (l1.upd hp0) (r1.upd f m) hp0 f m upd_same rr
  · cases em
theorem sndS_setLc {i : Nat} {y : Str} {py : Pos} {elt tg iter : Expr} {ifs : List Expr} {scope : Scope} {own : List (Str × Nat)} {spos : Pos} {bs : List Nat} {m : IM} {t : GT} {tt : TM} {te : EM} {xm : XM} (hc : X.calm = true) (hN : X.N.Nodup) (hy : X.N[i]? = some y) (hyl : X.env.scope.names.lookup y = some .local)
    (hsw : swapsWith (.ListComp elt [⟨tg, iter, ifs, 0⟩] scope pos) (some (.Name y py)) spos.line X.env = pure true) (hi : SndI X tg iter bs m) (ok : BlkOk X.N X.env.scope scope own)
    (hg : ∀ (s : Shared) (H : Hp) (C : Addr) (cl : List (Str × Addr)) (fp : List Addr), SndG (X.blk s H scope (compEnvC scope cl C X.env) fp) tg (own.map (·.2)) t) (ht : ∀ (s : Shared) (H : Hp) (C : Addr) (cl : List (Str × Addr)) (fp : List Addr), SndTs (X.blk s H scope (compEnvC scope cl C X.env) fp) ifs tt)
    (he : ∀ (s : Shared) (H : Hp) (C : Addr) (cl : List (Str × Addr)) (fp : List Addr), SndE (X.blk s H scope (compEnvC scope cl C X.env) fp) elt te) (hs : ∀ x, foldedSetIterable iter X.env x = pure x)
    (conv : ∀ σV H Q, RdX X.K xm σV H Q → RdL X.K (lcL m t tt te (own.map (·.2))) σV H Q) (pl : XPlain xm) :
    SndS X (.Assign [.Name y py] (.ListComp elt [⟨tg, iter, ifs, 0⟩] scope pos) spos) (sSet i xm) :=
  weakS (ps_setLc (wi := RdI X.K bs m) (g := RdG X.K (own.map fun (x : Str × Nat) => x.2) t) (tt := RdT X.K tt) (te := RdE X.K te) hc hN hy hyl hsw hi ok hg ht he hs) fun E σV H q => lc_rd (conv _ _ _ (set_rd pl q))

def xsNil : Sg → Hs → R (List Sl) := fun _ h => .ok [] h
def xsCons (m : XM) (ms : Sg → Hs → R (List Sl)) : Sg → Hs → R (List Sl) := fun σ h => (m σ h).bind fun x h1 => (ms σ h1).bind fun xs h2 => .ok (x :: xs) h2
def RepXs (K : PySem.W.Frag) (L : Lay) (H0 H : Hp) : List V → List Sl → Prop
  | [], [] => True
  | v :: vs, s :: ss => RepSl K L H (some v) s ∧ (∀ p, s.owned = true → v = .ref p → H0 p = none ∧ ∀ (j : Nat) (t : Sl), ss[j]? = some t → t.owned = true → vs[j]? ≠ some (.ref p)) ∧ RepXs K L H0 H vs ss
  | _, _ => False
def RdXs (K : PySem.W.Frag) (m : Sg → Hs → R (List Sl)) : TA := fun σV H Q => ∃ (L : Lay) (σ : Sg) (h : Hs) (s : List Sl) (h' : Hs), HRel K L H h ∧ SRel K L H σV σ ∧ m σ h = .ok s h' ∧
  ∀ L' H' v, Le0 L H L' H' → HRel K L' H' h' → RepXs K L' H H' v s → Q v H'
def SndXs (X : Cx) (es : List Expr) (m : Sg → Hs → R (List Sl)) : Prop := PA X es (RdXs X.K m)
theorem sndXs_nil : SndXs X [] xsNil := weakA pa_nil fun σV H Q ⟨L, σ, h, d, h', hr, sr, em, k⟩ => by cases em; exact k L H [] Le.refl hr trivial
theorem RepXs.fresh {K : PySem.W.Frag} {L : Lay} {H0 H : Hp} : ∀ {vs : List V} {ss : List Sl}, RepXs K L H0 H vs ss → ∀ (j : Nat) (t : Sl) p, ss[j]? = some t → t.owned = true → vs[j]? = some (.ref p) → H0 p = none
  | [], [], _, j, t, p, e, _, _ => by simp at e
  | v :: vs, s :: ss, r, 0, t, p, e, o, ev => by
    simp at e ev; subst e; subst ev
    exact (r.2.1 p o rfl).1
  | v :: vs, s :: ss, r, j + 1, t, p, e, o, ev => RepXs.fresh r.2.2 j t p (by simpa using e) o (by simpa using ev)
theorem RepXs.le0 {K : PySem.W.Frag} {L : Lay} {H0 H1 H : Hp} (b : ∀ p, H1 p = none → H0 p = none) : ∀ {vs : List V} {ss : List Sl}, RepXs K L H1 H vs ss → RepXs K L H0 H vs ss
  | [], [], _ => trivial
  | v :: vs, s :: ss, r => ⟨r.1, fun p o e => ⟨b p (r.2.1 p o e).1, (r.2.1 p o e).2⟩, RepXs.le0 b r.2.2⟩
theorem sndXs_cons {m : XM} {ms : Sg → Hs → R (List Sl)} (he : SndX X e m) (hes : SndXs X es ms) (hs : starEach (e :: es) X.env = (false, eval e X.env) :: starEach es X.env) : SndXs X (e :: es) (xsCons m ms) := by
  refine weakA (pa_cons he hes hs) fun σV H Q ⟨L, σ, h, d, h', hr, sr, em, k⟩ => ?_
  obtain ⟨x, h1, e1, em⟩ := bind_some em
  obtain ⟨xs, h2, e2, em⟩ := bind_some em
  cases em
  refine ⟨L, σ, h, x, h1, hr, sr, e1, fun L1 H1 v1 l1 r1 q1 fr => ⟨L1, σ, h1, xs, h', r1, sr.le l1, e2, fun L2 H2 vs l2 r2 q2 => ?_⟩⟩
  refine k L2 H2 (v1 :: vs) (l1.trans0 l2) r2 ⟨q1.le l2 fun _ _ _ z => z, fun p o ep => ⟨fr p o ep, fun j t ej ot ev => ?_⟩, q2.le0 fun p hp => fresh_back l1 hp⟩
  have n1 := q2.fresh j t p ej ot ev
  cases x with
  | own xs => obtain ⟨p', us, z, e, _⟩ := q1; cases z; cases ep; rw [e] at n1; cases n1
  | lent xs => obtain ⟨p', us, z, e, _⟩ := q1; cases z; cases ep; rw [e] at n1; cases n1
  | ownd xs => obtain ⟨p', ks, us, z, ⟨o, e, _⟩, _⟩ := q1; cases z; cases ep; rw [e] at n1; cases n1
  | val _ => cases o
  | no => cases o
def optS (o : Option Sg) (h : Hs) : RS := match o with
  | some σ' => .nx σ' h
  | none => .bad
def sPar2 (i j : Nat) (m : Sg → Hs → R (List Sl)) : SM := fun σ h => eDo (m σ h) fun ss h1 => match ss with
  | [s, t] => if s.plain && t.plain then optS ((setS σ i s).bind fun σ1 => setS σ1 j t) h1 else .bad
  | _ => .bad
def sPar3 (i j k : Nat) (m : Sg → Hs → R (List Sl)) : SM := fun σ h => eDo (m σ h) fun ss h1 => match ss with
  | [s, t, u] => if s.plain && t.plain && u.plain then optS (((setS σ i s).bind fun σ1 => setS σ1 j t).bind fun σ2 => setS σ2 k u) h1 else .bad
  | _ => .bad
theorem optS_post {K : PySem.W.Frag} {E : Ends} {L : Lay} {H : Hp} {σV : Sv} {σ : Sg} {o : Option Sg} {h : Hs} (q : Post K E L H σV σ (optS o h)) : ∃ σ', o = some σ' ∧ Post K E L H σV σ (.nx σ' h) := by
  cases o with
  | none => exact q.elim
  | some σ' => exact ⟨σ', rfl, q⟩
theorem ite_post {K : PySem.W.Frag} {E : Ends} {L : Lay} {H : Hp} {σV : Sv} {σ : Sg} {b : Bool} {r : RS} (q : Post K E L H σV σ (if b = true then r else .bad)) : b = true ∧ Post K E L H σV σ r := by
  cases b with
  | true => exact ⟨rfl, q⟩
  | false => exact q.elim
theorem plain_ne {s : Sl} (h : s.plain = true) : ∀ xs, s ≠ .lent xs := fun xs z => by subst z; cases h
theorem leS_more {K : PySem.W.Frag} {L L1 : Lay} {H H1 : Hp} {σV σV1 : Sv} {σ σ1 σ' : Sg} {i : Nat} {s : Sl} {v : V} (l : LeS L H σV σ L1 H1 σV1 σ1) (sr : SRel K L1 H1 σV1 σ1) (r : RepSl K L1 H1 (some v) s) (fr : ∀ p, s.owned = true → v = .ref p → H p = none)
    (ap : ∀ p, s.owned = true → v = .ref p → ∀ (j : Nat) (t : Sl), σ1[j]? = some t → t.owned = true → σV1[j]? ≠ some (some (.ref p))) (ns : ∀ xs, s ≠ .lent xs) (e : setS σ1 i s = some σ') : LeS L H σV σ L1 H1 (σV1.set i (some v)) σ' ∧ SRel K L1 H1 (σV1.set i (some v)) σ' := by
  obtain ⟨rfl, hi, nl⟩ := setS_ok e
  refine ⟨⟨l.le, fun p ⟨j, t, e1, f, e2⟩ => ?_, fun j xs hj => ?_⟩, sr.set hi r fun p o z j t hj e1 ot e2 => ap p o z j t e1 ot e2⟩
  · by_cases hj : i = j
    · subst hj
      rw [List.getElem?_set_self hi] at e1; cases e1
      rw [List.getElem?_set_self (by rw [sr.len]; exact hi)] at e2
      exact .inr (fr p (by cases s <;> first | rfl | cases f) (by simpa using e2))
    · rw [List.getElem?_set_ne hj] at e1 e2
      exact l.own p ⟨j, t, e1, f, e2⟩
  · obtain ⟨h1, h2⟩ := l.kp j xs hj
    have z : i ≠ j := fun z => by subst z; exact nl xs h1
    rw [List.getElem?_set_ne z, List.getElem?_set_ne z]
    exact ⟨h1, h2⟩
theorem own_some {K : PySem.W.Frag} {L : Lay} {H : Hp} {σV : Sv} {σ : Sg} (sr : SRel K L H σV σ) (j : Nat) (t : Sl) (p : Addr) (e1 : σ[j]? = some t) (o : t.owned = true) (e2 : σV[j]? = some (some (.ref p))) : H p ≠ none := by
  obtain ⟨x, ex, r⟩ := sr.sl j t e1
  rw [e2] at ex; cases ex
  cases t with
  | own xs => obtain ⟨p', vs, z, e, _⟩ := r; cases z; rw [e]; intro w; cases w
  | lent xs => obtain ⟨p', vs, z, e, _⟩ := r; cases z; rw [e]; intro w; cases w
  | ownd xs => obtain ⟨p', ks, vs, z, ⟨o, e, _⟩, _⟩ := r; cases z; rw [e]; intro w; cases w
  | val _ => cases o
  | no => cases o
theorem set_ap {σV : Sv} {σ σ' : Sg} {i : Nat} {s : Sl} {v : V} (hl : σV.length = σ.length) (e : setS σ i s = some σ') (j : Nat) (t : Sl) (p : Addr) (e1 : σ'[j]? = some t) (o : t.owned = true) (e2 : (σV.set i (some v))[j]? = some (some (.ref p))) : (s.owned = true ∧ v = .ref p) ∨ (σ[j]? = some t ∧ σV[j]? = some (some (.ref p))) := by
  obtain ⟨rfl, hi, _⟩ := setS_ok e
  by_cases hj : i = j
  · subst hj
    rw [List.getElem?_set_self hi] at e1; cases e1
    rw [List.getElem?_set_self (by rw [hl]; exact hi)] at e2
    exact .inl ⟨o, by simpa using e2⟩
  · rw [List.getElem?_set_ne hj] at e1 e2
    exact .inr ⟨e1, e2⟩
theorem sndS_par {i j : Nat} {x y : Str} {m : Sg → Hs → R (List Sl)} {px py pt : Pos} {kt k2 pt2} (hc : X.calm = true) (hN : X.N.Nodup) (hi : X.N[i]? = some x) (hj : X.N[j]? = some y) (hij : i ≠ j)
    (hx : X.env.scope.names.lookup x = some .local) (hy : X.env.scope.names.lookup y = some .local) (ha : SndXs X [a, b] m)
    (hw : swappedStores [.Tuple [.Name x px, .Name y py] kt pt] (.Tuple [a, b] k2 pt2) X.env = pure (some [x, y]))
    (hs : swapsWithSole [.Tuple [.Name x px, .Name y py] kt pt] (.Tuple [a, b] k2 pt2) pos.line X.env = pure false) :
    SndS X (.Assign [.Tuple [.Name x px, .Name y py] kt pt] (.Tuple [a, b] k2 pt2) pos) (sPar2 i j m) := by
  refine weakS (ps_par hc hN hi hj hij hx hy ha hw hs) fun E σV H ⟨L, σ, h, hr, sr, q⟩ => ?_
  obtain ⟨ss, h1, e1, q⟩ := eDo_case q
  refine ⟨L, σ, h, ss, h1, hr, sr, e1, fun L1 H1 vs l1 r1 q1 => ?_⟩
  match ss, vs, q1, q with
  | [s, t], [v, w], q1, q =>
    obtain ⟨hp, q⟩ := ite_post q
    rw [Bool.and_eq_true] at hp
    obtain ⟨σ', e2, q⟩ := optS_post q
    obtain ⟨σ1, e3, e4⟩ := Option.bind_eq_some_iff.mp e2
    obtain ⟨q1, f1, q2, f2, _⟩ := q1
    obtain ⟨la, sa⟩ := leS_set sr l1 q1 (fun p o z => (f1 p o z).1) (plain_ne hp.1) e3
    obtain ⟨lb, sb⟩ := leS_more la sa q2 (fun p o z => (f2 p o z).1) (fun p o z k u ek ou ev => by
      rcases set_ap sr.len e3 k u p ek ou ev with ⟨oo, z2⟩ | ⟨ek', ev'⟩
      · exact (f1 p oo z2).2 0 t rfl o (by rw [z]; rfl)
      · exact own_some sr k u p ek' ou ev' (f2 p o z).1) (plain_ne hp.2) e4
    exact ⟨v, w, rfl, q L1 H1 _ lb r1 sb⟩
  | [], _, _, q => exact q.elim
  | [_], _, _, q => exact q.elim
  | _ :: _ :: _ :: _, _, _, q => exact q.elim
  | [_, _], [], q1, _ => exact q1.elim
  | [_, _], [_], q1, _ => exact q1.2.2.elim
  | [_, _], _ :: _ :: _ :: _, q1, _ => exact q1.2.2.2.2.elim
theorem sndS_par3 {i j l : Nat} {x y z : Str} {m : Sg → Hs → R (List Sl)} {px py pz pt : Pos} {kt k2 pt2} (hc : X.calm = true) (hN : X.N.Nodup) (hi : X.N[i]? = some x) (hj : X.N[j]? = some y) (hl : X.N[l]? = some z) (hij : i ≠ j) (hil : i ≠ l) (hjl : j ≠ l)
    (hx : X.env.scope.names.lookup x = some .local) (hy : X.env.scope.names.lookup y = some .local) (hz : X.env.scope.names.lookup z = some .local) (ha : SndXs X [a, b, c] m)
    (hw : swappedStores [.Tuple [.Name x px, .Name y py, .Name z pz] kt pt] (.Tuple [a, b, c] k2 pt2) X.env = pure (some [x, y, z]))
    (hs : swapsWithSole [.Tuple [.Name x px, .Name y py, .Name z pz] kt pt] (.Tuple [a, b, c] k2 pt2) pos.line X.env = pure false) :
    SndS X (.Assign [.Tuple [.Name x px, .Name y py, .Name z pz] kt pt] (.Tuple [a, b, c] k2 pt2) pos) (sPar3 i j l m) := by
  refine weakS (ps_par3 hc hN hi hj hl hij hil hjl hx hy hz ha hw hs) fun E σV H ⟨L, σ, h, hr, sr, q⟩ => ?_
  obtain ⟨ss, h1, e1, q⟩ := eDo_case q
  refine ⟨L, σ, h, ss, h1, hr, sr, e1, fun L1 H1 vs l1 r1 q1 => ?_⟩
  match ss, vs, q1, q with
  | [s, t, u], [v, w, w3], q1, q =>
    obtain ⟨hp, q⟩ := ite_post q
    rw [Bool.and_eq_true, Bool.and_eq_true] at hp
    obtain ⟨σ', e2, q⟩ := optS_post q
    obtain ⟨σ2, e3, e5⟩ := Option.bind_eq_some_iff.mp e2
    obtain ⟨σ1, e3, e4⟩ := Option.bind_eq_some_iff.mp e3
    obtain ⟨q1, f1, q2, f2, q3, f3, _⟩ := q1
    obtain ⟨la, sa⟩ := leS_set sr l1 q1 (fun p o z => (f1 p o z).1) (plain_ne hp.1.1) e3
    obtain ⟨lb, sb⟩ := leS_more la sa q2 (fun p o z => (f2 p o z).1) (fun p o z k u ek ou ev => by
      rcases set_ap sr.len e3 k u p ek ou ev with ⟨oo, z2⟩ | ⟨ek', ev'⟩
      · exact (f1 p oo z2).2 0 t rfl o (by rw [z]; rfl)
      · exact own_some sr k u p ek' ou ev' (f2 p o z).1) (plain_ne hp.1.2) e4
    obtain ⟨lc, sc⟩ := leS_more lb sb q3 (fun p o z => (f3 p o z).1) (fun p o z k u' ek ou ev => by
      rcases set_ap sa.len e4 k u' p ek ou ev with ⟨oo, z2⟩ | ⟨ek', ev'⟩
      · exact (f2 p oo z2).2 0 u rfl o (by rw [z]; rfl)
      · rcases set_ap sr.len e3 k u' p ek' ou ev' with ⟨oo, z2⟩ | ⟨ek'', ev''⟩
        · exact (f1 p oo z2).2 1 u rfl o (by rw [z]; rfl)
        · exact own_some sr k u' p ek'' ou ev'' (f3 p o z).1) (plain_ne hp.2) e5
    exact ⟨v, w, w3, rfl, q L1 H1 _ lc r1 sc⟩
  | [], _, _, q => exact q.elim
  | [_], _, _, q => exact q.elim
  | [_, _], _, _, q => exact q.elim
  | _ :: _ :: _ :: _ :: _, _, _, q => exact q.elim
  | [_, _, _], [], q1, _ => exact q1.elim
  | [_, _, _], [_], q1, _ => exact q1.2.2.elim
  | [_, _, _], [_, _], q1, _ => exact q1.2.2.2.2.elim
  | [_, _, _], _ :: _ :: _ :: _ :: _, q1, _ => exact q1.2.2.2.2.2.2.elim
end
end WC
set_option Elab.async false
set_option linter.all false
set_option maxRecDepth 100000
namespace WC
open PySem PySem.Spec PyProof.Rows L2

section
variable {K : PySem.W.Frag} {L L1 : Lay} {H H1 : Hp} {h : Hs} {σV : Sv} {σ : Sg}
theorem ob_apart {n k : Nat} {q r : Addr × List Addr} {a : Addr} (s : HRel K L H h) (e1 : L.ob[n]? = some q) (e2 : L.ob[k]? = some r) (h1 : a = q.1 ∨ a ∈ q.2) (h2 : a = r.1 ∨ a ∈ r.2) : n = k := by
  have nd := s.nd
  revert n k
  generalize L.ob = l at nd
  induction l with
  | nil => intro n k e1; simp at e1
  | cons x l ih =>
    intro n k e1 e2
    rw [List.flatMap_cons, List.nodup_append] at nd
    cases n with
    | zero =>
      cases k with
      | zero => rfl
      | succ k =>
        simp at e1 e2
        subst e1
        exact absurd rfl (nd.2.2 a (by simpa using h1) a (List.mem_flatMap.mpr ⟨r, List.mem_of_getElem? e2, by simpa using h2⟩))
    | succ n =>
      cases k with
      | zero =>
        simp at e1 e2
        subst e2
        exact absurd rfl (nd.2.2 a (by simpa using h2) a (List.mem_flatMap.mpr ⟨q, List.mem_of_getElem? e1, by simpa using h1⟩))
      | succ k =>
        simp at e1 e2
        rw [ih nd.2.1 e1 e2]
theorem HRel.write {n : Nat} {p : Addr} {vs : List V} {xs : List D} (s : HRel K L H h) (e : L.at n = some p) (hh : ∃ ys, h[n]? = some (.lst ys)) (r : Reps K L vs xs) : HRel K L (L2.upd H p (.lst vs)) (h.set n (.lst xs)) := by
  obtain ⟨q, eq, rfl⟩ := Option.map_eq_some_iff.mp e
  obtain ⟨ys, ey⟩ := hh
  have hn := (List.getElem?_eq_some_iff.mp ey).1
  have Mp : L.M q.1 := ⟨q, List.mem_of_getElem? eq, .inl rfl⟩
  refine ⟨fun a w e => ?_, s.nm, fun a hq => ?_, s.nd, by rw [List.length_set]; exact s.len, fun k r' o e1 e2 => ?_⟩
  · have : a ≠ q.1 := fun z => by subst z; rw [s.nm _ Mp] at e; cases e
    rw [upd_ne this]; exact s.sub a w e
  · by_cases z : a = q.1
    · subst z; rw [upd_same]; intro w; cases w
    · rw [upd_ne z]; exact s.mt a hq
  · by_cases z : n = k
    · subst z
      rw [eq] at e1; cases e1
      rw [List.getElem?_set_self hn] at e2; cases e2
      obtain ⟨ea, _⟩ := s.ob n q _ eq ey
      exact ⟨ea, vs, upd_same, r⟩
    · rw [List.getElem?_set_ne z] at e2
      refine (s.ob k r' o e1 e2).le (fun _ _ e => e) (fun _ _ e => e) fun b w hb e => ?_
      have : b ≠ q.1 := fun w => z (ob_apart s eq e1 (.inl rfl) (w ▸ hb))
      rw [upd_ne this]; exact e
theorem le_write {n : Nat} {p : Addr} {o : HO} (e : L.at n = some p) : Le0 L H L (L2.upd H p o) := by
  obtain ⟨q, eq, rfl⟩ := Option.map_eq_some_iff.mp e
  have Mp : L.M q.1 := ⟨q, List.mem_of_getElem? eq, .inl rfl⟩
  refine ⟨fun _ _ e => e, fun _ e => .inl e, fun _ _ e => e, fun _ e => .inl e, fun a w ea m _ => ?_, fun a ea => ?_⟩
  · rw [upd_ne (fun z => by subst z; exact m Mp)]; exact ea
  · by_cases z : a = q.1
    · subst z; rw [upd_same]; intro w; cases w
    · rw [upd_ne z]; exact ea
theorem write_srel {n : Nat} {p : Addr} {o : HO} (e : L.at n = some p) (sr : SRel K L H σV σ) : SRel K L (L2.upd H p o) σV σ := sr.le (le_write e)
theorem own_write {i : Nat} {xs ys : List D} {p : Addr} {vs us : List V} (hr : HRel K L H h) (sr : SRel K L H σV σ) (e : σ[i]? = some (.own xs)) (ev : σV[i]? = some (some (.ref p))) (r : Reps K L us ys) :
    LeS L H σV σ L (L2.upd H p (.lst us)) σV (σ.set i (.own ys)) ∧ HRel K L (L2.upd H p (.lst us)) h ∧ SRel K L (L2.upd H p (.lst us)) σV (σ.set i (.own ys)) := by
  have hi := (List.getElem?_eq_some_iff.mp e).1
  obtain ⟨x, ex, p', vs, rfl, ep, f, m, r0⟩ := sr.sl i _ e
  rw [ev] at ex; cases ex
  refine ⟨⟨⟨fun _ _ e => e, fun _ e => .inl e, fun _ _ e => e, fun _ e => .inl e, fun q w eq nm no => ?_, fun q eq => ?_⟩, fun q ⟨j, t, e1, ft, e2⟩ => ?_, fun j zs hj => ?_⟩, hr.upd f m, ⟨by simp [sr.len], fun j t ht => ?_, fun j k t u q e1 e2 o1 o2 z1 z2 => ?_⟩⟩
  · rw [upd_ne (fun z => by subst z; exact no ⟨i, _, e, rfl, ev⟩)]; exact eq
  · by_cases z : q = p
    · subst z; rw [upd_same]; intro w; cases w
    · rw [upd_ne z]; exact eq
  · by_cases z : i = j
    · subst z; exact .inl ⟨i, _, e, rfl, e2⟩
    · rw [List.getElem?_set_ne z] at e1; exact .inl ⟨j, t, e1, ft, e2⟩
  · have z : i ≠ j := fun z => by subst z; rw [e] at hj; cases hj
    rw [List.getElem?_set_ne z]; exact ⟨hj, rfl⟩
  · by_cases z : i = j
    · subst z
      rw [List.getElem?_set_self hi] at ht; cases ht
      exact ⟨_, ev, p, us, rfl, upd_same, f, m, r⟩
    · rw [List.getElem?_set_ne z] at ht
      obtain ⟨y, ey, ry⟩ := sr.sl j t ht
      refine ⟨y, ey, ?_⟩
      have np : ∀ q, t.owned = true → y = some (.ref q) → q ≠ p := fun q o z2 w => by
        subst w; subst z2
        exact z (sr.ap i j _ t q e ht rfl o ev ey)
      cases t with
      | no => trivial
      | val d => exact ry
      | own zs => obtain ⟨q, us, e1, e2, e3⟩ := ry; exact ⟨q, us, e1, by rw [upd_ne (np q rfl e1)]; exact e2, e3⟩
      | lent zs => obtain ⟨q, us, e1, e2, e3⟩ := ry; exact ⟨q, us, e1, by rw [upd_ne (np q rfl e1)]; exact e2, e3⟩
      | ownd zs =>
        obtain ⟨q, ks, us, e1, ⟨o, e2, mu⟩, dg, e4⟩ := ry
        have nq := np q rfl e1
        refine ⟨q, ks, us, e1, ⟨o, by rw [upd_ne nq]; exact e2, mu⟩, ?_, e4⟩
        unfold DG Rd at dg ⊢
        simp only [upd_ne nq]
        exact dg
  · have a1 : ∀ (j : Nat) (t : Sl), (σ.set i (.own ys))[j]? = some t → t.owned = true → ∃ t' : Sl, σ[j]? = some t' ∧ t'.owned = true := fun j t h o => by
      by_cases z : i = j
      · subst z; exact ⟨_, e, rfl⟩
      · rw [List.getElem?_set_ne z] at h; exact ⟨t, h, o⟩
    obtain ⟨t', h1, h2⟩ := a1 j t e1 o1
    obtain ⟨u', h3, h4⟩ := a1 k u e2 o2
    exact sr.ap j k t' u' q h1 h3 h2 h4 z1 z2
end

section
variable {X : Cx} {st : Stmt} {sts : List Stmt} {e a b c : Expr} {es : List Expr} {pos : Pos}
inductive Pl where
  | own (xs : List D) | hp (n : Nat) (xs : List D)
def plOf (σ : Sg) (h : Hs) (i : Nat) : Option Pl := match σ[i]? with
  | some (.own xs) => some (.own xs)
  | some (.val (.ref n)) => match h[n]? with
    | some (.lst xs) => some (.hp n xs)
    | _ => none
  | _ => none
def Pl.items : Pl → List D
  | .own xs => xs
  | .hp _ xs => xs
def plSet (σ : Sg) (h : Hs) (i : Nat) : Pl → List D → RS
  | .own _, ys => .nx (σ.set i (.own ys)) h
  | .hp n _, ys => .nx σ (h.set n (.lst ys))
theorem pl_lst {K : PySem.W.Frag} {L : Lay} {H : Hp} {h : Hs} {σV : Sv} {σ : Sg} {i : Nat} {pl : Pl} (hr : HRel K L H h) (sr : SRel K L H σV σ) (e : plOf σ h i = some pl) : ∃ p vs, σV[i]? = some (some (.ref p)) ∧ H p = some (.lst vs) ∧ Reps K L vs pl.items := by
  unfold plOf at e
  split at e
  · rename_i xs e1
    cases e
    obtain ⟨x, ex, p, vs, rfl, ep, f, m, r⟩ := sr.sl i _ e1
    exact ⟨p, vs, ex, ep, r⟩
  · rename_i n e1
    split at e
    · rename_i xs e2
      cases e
      obtain ⟨x, ex, v, rfl, r⟩ := sr.sl i _ e1
      cases r with
      | ref q =>
        obtain ⟨q', e3, rfl⟩ := Option.map_eq_some_iff.mp q
        obtain ⟨_, vs, e4, r⟩ := hr.ob n q' _ e3 e2
        exact ⟨_, vs, ex, e4, r⟩
    · cases e
  · cases e
theorem pl_set {K : PySem.W.Frag} {E : Ends} {L : Lay} {H : Hp} {h : Hs} {σV : Sv} {σ : Sg} {i : Nat} {pl : Pl} {p : Addr} {us : List V} {ys : List D} (hr : HRel K L H h) (sr : SRel K L H σV σ) (e : plOf σ h i = some pl) (ev : σV[i]? = some (some (.ref p))) (r : Reps K L us ys)
    (q : Post K E L H σV σ (plSet σ h i pl ys)) : E.nx σV (L2.upd H p (.lst us)) := by
  unfold plOf at e
  split at e
  · rename_i xs e1
    cases e
    obtain ⟨l, r1, s1⟩ := own_write (vs := []) hr sr e1 ev r
    exact q _ _ _ l r1 s1
  · rename_i n e1
    split at e
    · rename_i xs e2
      cases e
      obtain ⟨x, ex, v, rfl, rv⟩ := sr.sl i _ e1
      rw [ev] at ex; cases ex
      cases rv with
      | ref qq => exact q _ _ _ (LeS.of0 (le_write qq)) (hr.write qq ⟨_, e2⟩ r) (write_srel qq sr)
    · cases e
  · cases e
theorem plOf_some {K : PySem.W.Frag} {L L1 : Lay} {H H1 : Hp} {h h1 : Hs} {σV : Sv} {σ : Sg} {i : Nat} {pl : Pl} (e : plOf σ h1 i = some pl) (hr : HRel K L H h) (sr : SRel K L H σV σ) : ∃ p, σV[i]? = some (some (.ref p)) := by
  unfold plOf at e
  split at e
  · rename_i xs e1
    obtain ⟨x, ex, p, vs, rfl, _⟩ := sr.sl i _ e1
    exact ⟨p, ex⟩
  · rename_i n e1
    obtain ⟨x, ex, v, rfl, r⟩ := sr.sl i _ e1
    cases r with
    | ref q => exact ⟨_, ex⟩
  · cases e
def sAppend (i : Nat) (m : EM) : SM := fun σ h => match plOf σ h i with
  | none => .bad
  | some _ => eDo (m σ h) fun d h1 => match plOf σ h1 i with
    | some pl => if pl.items.length < sizeLine then plSet σ h1 i pl (pl.items ++ [d]) else .bad
    | none => .bad
theorem sndS_append {i : Nat} {x : Str} {m : EM} {apos cpos p : Pos} (hN : X.N[i]? = some x) (hv : Vis X.env.scope x) (hd : (x == ("__debug__" : Str)) = false) (hcd : (x == ("__classdict__" : Str)) = false) (ha : SndE X e m)
    (hbase : attributeBase (.Name x p) "append" X.env (eval (.Name x p) X.env) = eval (.Name x p) X.env)
    (hfew : ((backTo cpos (starEach [e] X.env)).all (fun x => !x.1) && (backToKw cpos (keywordEach [] X.env)).all (fun x => x.1.isSome) && decide ([e].length + ([] : List Keyword).length + (if ([] : List Keyword).isEmpty then 0 else 1) < 30)) = true)
    (hline : (apos.endLine == cpos.line) = true) (hs : starEach [e] X.env = (false, eval e X.env) :: starEach [] X.env) (hplain : (backTo cpos (starEach [] X.env)).any (·.1) = false)
    (hsw : swapsWith (.Call (.Attribute (.Name x p) "append" apos) [e] [] cpos) none pos.line X.env = pure false) :
    SndS X (.Expr (.Call (.Attribute (.Name x p) "append" apos) [e] [] cpos) pos) (sAppend i m) := by
  refine weakS (ps_expr (pe_bm PySem.F.plainAttrs_list PySem.F.slot_list_append PySem.F.type_list_append mt_append (pe_var hN hv hd hcd) (pa_cons ha pa_nil hs) hbase hfew hline hs hplain) hsw) fun E σV H ⟨L, σ, h, hr, sr, q⟩ => ?_
  unfold sAppend at q
  cases e0 : plOf σ h i with
  | none => rw [e0] at q; exact q.elim
  | some pl0 =>
    rw [e0] at q
    obtain ⟨d, h1, e1, q⟩ := eDo_case q
    obtain ⟨p, vs, ev, ep, _⟩ := pl_lst hr sr e0
    refine ⟨_, ev, .inl ⟨rfl, vs, .of ep⟩, L, σ, h, d, h1, hr, sr, e1, fun L1 H1 v l1 r1 q1 => ?_⟩
    cases e2 : plOf σ h1 i with
    | none => rw [e2] at q; exact q.elim
    | some pl =>
      rw [e2] at q
      by_cases hz : pl.items.length < sizeLine
      · have q : Post X.K E L H σV σ (plSet σ h1 i pl (pl.items ++ [d])) := by simpa only [if_pos hz] using q
        have sr1 := sr.le l1
        obtain ⟨p', vs', ev', ep', r'⟩ := pl_lst r1 sr1 e2
        rw [ev] at ev'; cases ev'
        exact ⟨p, vs', v, rfl, rfl, ep', by rw [r'.length]; exact hz, pl_set r1 sr1 e2 ev (r'.append (.cons q1 .nil)) (Post.mono q (LeS.of0 l1))⟩
      · have q : Post X.K E L H σV σ .bad := by simpa only [if_neg hz] using q
        exact q.elim
def sStore (i : Nat) (m mi : EM) : SM := fun σ h => eDo (m σ h) fun d h1 => match plOf σ h1 i with
  | none => .bad
  | some _ => eDo (mi σ h1) fun k h2 => match k, plOf σ h2 i with
    | .int k, some pl => match ixN pl.items.length k with
      | some j => plSet σ h2 i pl (pl.items.set j d)
      | none => .bad
    | _, _ => .bad
theorem sndS_store {i : Nat} {x : Str} {m mi : EM} {p tp : Pos} (hN : X.N[i]? = some x) (hv : Vis X.env.scope x) (hd : (x == ("__debug__" : Str)) = false) (hcd : (x == ("__classdict__" : Str)) = false) (he : SndE X e m) (hi : SndE X a mi)
    (ha : ∀ v, assign (.Subscript (.Name x p) a tp) X.env v = (do
      let ov ← holding [v] (eval (.Name x p) X.env)
      let iv ← holding [v, ov] (eval a X.env)
      standAt tp
      holding [v, ov, iv] (setItem ov iv v)
      release [v, ov, iv] []))
    (hs : swapsWithSole [.Subscript (.Name x p) a tp] e pos.line X.env = pure false) (hw : swappedStores [.Subscript (.Name x p) a tp] e X.env = pure none)
    (h1 : (assignEach [.Subscript (.Name x p) a tp] X.env).map (·.2) = [assign (.Subscript (.Name x p) a tp) X.env]) : SndS X (.Assign [.Subscript (.Name x p) a tp] e pos) (sStore i m mi) := by
  refine weakS (ps_asg he (pg_sub (pe_var hN hv hd hcd) hi set_list ha) hs hw h1) fun E σV H ⟨L, σ, h, hr, sr, q⟩ => ?_
  obtain ⟨d, h1, e1, q⟩ := eDo_case q
  refine ⟨L, σ, h, d, h1, hr, sr, e1, fun L1 H1 v l1 r1 q1 => ?_⟩
  have sr1 := sr.le l1
  have q := Post.mono q (LeS.of0 l1)
  cases e0 : plOf σ h1 i with
  | none => rw [e0] at q; exact q.elim
  | some pl0 =>
    rw [e0] at q
    obtain ⟨k, h2, e2, q⟩ := eDo_case q
    obtain ⟨p, vs, ev, ep, _⟩ := pl_lst r1 sr1 e0
    refine ⟨_, ev, L1, σ, h1, k, h2, r1, sr1, e2, fun L2' H2 v2 l2 r2 q2 => ?_⟩
    have sr2 := sr1.le l2
    have q := Post.mono q (LeS.of0 l2)
    cases k with
    | int k =>
      cases e3 : plOf σ h2 i with
      | none => rw [e3] at q; exact q.elim
      | some pl =>
        rw [e3] at q
        cases e4 : ixN pl.items.length k with
        | none => simp only [e4] at q; exact q.elim
        | some j =>
          simp only [e4] at q
          obtain ⟨p', vs', ev', ep', r'⟩ := pl_lst r2 sr2 e3
          rw [ev] at ev'; cases ev'
          cases q2
          exact ⟨p, vs', k, j, rfl, rfl, ep', by rw [r'.length]; exact e4, pl_set r2 sr2 e3 ev (r'.set (q1.le l2) j) q⟩
    | _ => exact q.elim
def sAug (i : Nat) (g : G2) (m : EM) : SM := fun σ h => match σ[i]? with
  | some (.val x) => eDo (m σ h) fun y h1 => match g h1 x y with
    | some d => optS (setS σ i (.val d)) h1
    | none => .bad
  | _ => .bad
theorem opS_ip {op : Operator} {g : G2} (ho : OpS X (inplaceOp op) g) : ∃ r : R2, PIp X op r ∧ ∀ (L : Lay) (H : Hp) (h : Hs) (x y : D) (v u : V) (d : D) (Q : VK), HRel X.K L H h → RepO X.K L H v x → RepO X.K L H u y → g h x y = some d →
    (∀ L' H' w, Le0 L H L' H' → HRel X.K L' H' h → Rep X.K L' w d → Q w H') → r v u H Q := by
  obtain ⟨r, hr, w⟩ := ho
  exact ⟨r, fun pins s σ H x y v u Q I r1 r2 q => hr pins s σ H x y v u Q I r1 r2 q, w⟩
theorem sndS_aug {i : Nat} {x : Str} {op : Operator} {g : G2} {m : EM} {pos' : Pos} (hN : X.N.Nodup) (hi : X.N[i]? = some x) (hx : Loc X.env.scope x) (he : SndE X e m) (ho : OpS X (inplaceOp op) g) (hf : X.fn x = true ∨ X.env.scope.names.lookup x = some .local) : SndS X (.AugAssign (.Name x pos') op e pos) (sAug i g m) := by
  obtain ⟨r, hr, w⟩ := opS_ip ho
  refine weakS (ps_aug hN hi hx he hr hf) fun E σV H ⟨L, σ, h, hr, sr, q⟩ => ?_
  unfold sAug at q
  split at q
  · rename_i x e0
    obtain ⟨y, h1, e1, q⟩ := eDo_case q
    obtain ⟨xv, ex, v, rfl, rv⟩ := sr.sl i _ e0
    refine ⟨v, ex, L, σ, h, y, h1, hr, sr, e1, fun L1 H1 u l1 r1 q1 => ?_⟩
    cases e2 : g h1 x y with
    | none => rw [e2] at q; exact q.elim
    | some d =>
      rw [e2] at q
      obtain ⟨σ', e3, q⟩ := optS_post q
      refine w L1 H1 h1 x y v u d _ r1 (.inl (rv.le l1)) (.inl q1) e2 fun L2' H2 z l2 r2 q2 => ?_
      obtain ⟨l, s'⟩ := leS_set sr (l1.trans0 l2) (v := z) (s := .val d) ⟨z, rfl, q2⟩ (fun _ o => by cases o) (fun _ z => by cases z) e3
      exact q L2' H2 _ l r2 s'
  · exact q.elim
theorem rI_of0' {f : Value → Value → Sem Value} {g : Int → Int → V} (h : OpR X f (rI0 g)) : OpR X f (rI (fun _ _ => True) g) := rI_of0 h
theorem iops_addI : OpS X (inplaceOp .Add) gAddI := opsI (rI_of0 iop_add) (fun _ _ _ => trivial) fun _ _ _ _ => .int _
theorem iops_sub : OpS X (inplaceOp .Sub) gSub := opsI (rI_of0 iop_sub) (fun _ _ _ => trivial) fun _ _ _ _ => .int _
theorem iops_and : OpS X (inplaceOp .BitAnd) gAnd := opsI (rI_of0 iop_and) (fun _ _ _ => trivial) fun _ _ _ _ => .int _
theorem iops_or : OpS X (inplaceOp .BitOr) gOr := opsI (rI_of0 iop_or) (fun _ _ _ => trivial) fun _ _ _ _ => .int _
theorem iops_xor : OpS X (inplaceOp .BitXor) gXor := opsI (rI_of0 iop_xor) (fun _ _ _ => trivial) fun _ _ _ _ => .int _
def gCatS : G2 := fun _ x y => match x, y with
  | .str a, .str b => if a.length + b.length ≤ sizeLine then some (.str (a ++ b)) else none
  | _, _ => none
theorem iops_catS : OpS X (inplaceOp .Add) gCatS := by
  refine ⟨_, iop_add_str, fun L H h x y v u d Q s p q e k => ?_⟩
  unfold gCatS at e
  split at e
  · rename_i a b
    split at e
    · cases e
      obtain ⟨s1, rfl, e1, n1, o1⟩ := p.str
      obtain ⟨s2, rfl, e2, n2, o2⟩ := q.str
      refine ⟨s1, s2, rfl, rfl, by rw [n1, n2]; assumption, k L H _ Le.refl s (.str' ?_ ?_)⟩
      · show (s1.cps ++ s2.cps).toList = a ++ b
        rw [Array.toList_append, e1, e2]
      · intro c hc
        rcases List.mem_append.mp hc with hc | hc
        · exact o1 c hc
        · exact o2 c hc
    · cases e
  · cases e
def gIAdd : G2 := fun s x y => (gAddI s x y).or (gCatS s x y)
theorem iops_add : OpS X (inplaceOp .Add) gIAdd := iops_addI.or iops_catS
theorem pget_list : PGet X (fun x y H Q => ∃ p xs i v, x = .ref p ∧ y = .int i ∧ SqL X.K H p xs ∧ atI xs i = some v ∧ Q v H) := by
  intro pins s σ H x y v u Q I rx ry h
  obtain ⟨p, xs, i, z, rfl, rfl, hq, he, q⟩ := h
  cases rx
  obtain ⟨t, rfl⟩ := ry
  obtain ⟨its, r, pl, hz⟩ := I.list hq
  obtain ⟨j, h1, h2, h3, h4, h5⟩ := atI_get he
  obtain ⟨w, ew, rw'⟩ := r.get h2
  have hl := r.length
  have hn := line63
  have fin : EP X pins σ Q w s := ⟨z, H, I, rw', q⟩
  by_cases h0 : 0 ≤ i
  · have hj : i.toNat = j := by
      rw [seqIndex_of h0 h5] at h1
      exact Option.some.inj h1
    exact wpAny_getItem_list pl.isList h0 (by omega) (by rw [hj]; simpa using ew) fin
  · have hj : (i + (its.toArray.size : Int)).toNat = j := by
      rw [seqIndex_neg (by omega) h4] at h1
      rw [List.size_toArray, ← hl]
      exact Option.some.inj h1
    exact wpAny_getItem_list_neg pl.isList (by omega) (by rw [List.size_toArray]; omega) (by omega) (by rw [hj]; simpa using ew) fin
def sAugS (i : Nat) (g : G2) (mi m : EM) : SM := fun σ h => match plOf σ h i with
  | none => .bad
  | some _ => eDo (mi σ h) fun k h1 => match k, plOf σ h1 i with
    | .int k, some pl0 => match atI pl0.items k with
      | none => .bad
      | some x => eDo (m σ h1) fun y h2 => match g h2 x y, plOf σ h2 i with
        | some d, some pl => match ixN pl.items.length k with
          | some j => plSet σ h2 i pl (pl.items.set j d)
          | none => .bad
        | _, _ => .bad
    | _, _ => .bad
theorem sndS_augS {i : Nat} {x : Str} {op : Operator} {g : G2} {m mi : EM} {p tp : Pos} (hN : X.N[i]? = some x) (hv : Vis X.env.scope x) (hd : (x == ("__debug__" : Str)) = false) (hcd : (x == ("__classdict__" : Str)) = false) (he : SndE X e m) (hi : SndE X a mi) (ho : OpS X (inplaceOp op) g)
    (ha : ∀ ov iv new, augStore a ov iv new = (do holding [new, ov, iv] (setItem ov iv new); release [new, ov, iv] []; pure .next)) : SndS X (.AugAssign (.Subscript (.Name x p) a tp) op e pos) (sAugS i g mi m) := by
  obtain ⟨r, hr, w⟩ := opS_ip ho
  refine weakS (ps_augS (pe_var hN hv hd hcd) hi pget_list he hr set_list ha) fun E σV H ⟨L, σ, h, hr, sr, q⟩ => ?_
  unfold sAugS at q
  cases e0 : plOf σ h i with
  | none => rw [e0] at q; exact q.elim
  | some plz =>
    rw [e0] at q
    obtain ⟨k, h1, e1, q⟩ := eDo_case q
    obtain ⟨p, vs, ev, ep, _⟩ := pl_lst hr sr e0
    refine ⟨_, ev, L, σ, h, k, h1, hr, sr, e1, fun L1 H1 kv l1 r1 qk => ?_⟩
    have sr1 := sr.le l1
    have q := Post.mono q (LeS.of0 l1)
    cases k with
    | int k =>
      cases qk
      cases e2 : plOf σ h1 i with
      | none => rw [e2] at q; exact q.elim
      | some pl0 =>
        rw [e2] at q
        obtain ⟨p', vs', ev', ep', r'⟩ := pl_lst r1 sr1 e2
        rw [ev] at ev'; cases ev'
        cases e3 : atI pl0.items k with
        | none => simp only [e3] at q; exact q.elim
        | some x =>
          simp only [e3] at q
          obtain ⟨y, h2, e4, q⟩ := eDo_case q
          obtain ⟨xv, exv, rx⟩ := atI_reps r' e3
          refine ⟨p, vs', k, xv, rfl, rfl, .of ep', exv, L1, σ, h1, y, h2, r1, sr1, e4, fun L2' H2 u l2 r2 q2 => ?_⟩
          have sr2 := sr1.le l2
          have q := Post.mono q (LeS.of0 l2)
          cases e5 : g h2 x y with
          | none => simp only [e5] at q; exact q.elim
          | some d =>
            cases e6 : plOf σ h2 i with
            | none => simp only [e5, e6] at q; exact q.elim
            | some pl =>
              simp only [e5, e6] at q
              cases e7 : ixN pl.items.length k with
              | none => simp only [e7] at q; exact q.elim
              | some j =>
                simp only [e7] at q
                refine w L2' H2 h2 x y xv u d _ r2 (.inl (rx.le l2)) (.inl q2) e5 fun L3 H3 z l3 r3 q3 => ?_
                have sr3 := sr2.le l3
                have q := Post.mono q (LeS.of0 l3)
                obtain ⟨p', vs', ev', ep', r'⟩ := pl_lst r3 sr3 e6
                rw [ev] at ev'; cases ev'
                exact ⟨p, vs', k, j, rfl, rfl, ep', by rw [r'.length]; exact e7, pl_set r3 sr3 e6 ev (r'.set q3 j) q⟩
    | _ => exact q.elim
end
end WC
set_option Elab.async false
set_option linter.all false
set_option maxRecDepth 100000
namespace WC
open PySem PySem.Spec PyProof.Rows L2

def RS.loop (r : RS) (k : Sg → Hs → RS) : RS := match r with
  | .nx σ h => k σ h
  | .ct σ h => k σ h
  | .bk σ h => .nx σ h
  | .rt d h => .rt d h
  | .bad => .bad
def forGo (t : GT) (body : SM) : List D → Sg → Hs → RS
  | [], σ, h => .nx σ h
  | x :: xs, σ, h => match t x σ with
    | none => .bad
    | some σ1 => (body σ1 h).loop fun σ2 h2 => forGo t body xs σ2 h2
def sFor (m : IM) (t : GT) (body : SM) : SM := fun σ h => eDo (m σ h) fun xs h1 => forGo t body xs σ h1
def unlS (σ : Sg) (i : Nat) : Sg := match σ[i]? with
  | some (.lent xs) => σ.set i (.own xs)
  | _ => σ
def RS.unl (i : Nat) : RS → RS
  | .nx σ h => .nx (unlS σ i) h
  | .bk σ h => .bk (unlS σ i) h
  | .ct σ h => .ct (unlS σ i) h
  | r => r
def sForV (i : Nat) (t : GT) (body : SM) : SM := fun σ h => match σ[i]? with
  | some (.own xs) => (forGo t body xs (σ.set i (.lent xs)) h).unl i
  | some (.lent xs) => forGo t body xs σ h
  | some (.val d) => match itemsD d with
    | some xs => forGo t body xs σ h
    | none => .bad
  | _ => .bad
section
variable {X : Cx} {K : PySem.W.Frag}
theorem for_rd {t : GT} {body : SM} {E : Ends} {L : Lay} {H : Hp} {h : Hs} {σV : Sv} {σ : Sg} {J : It} {xs : List D} {vs : List Nat} (hr : HRel K L H h) (sr : SRel K L H σV σ) (wk : Walks K (Own σV σ) L H J xs) (q : Post K E L H σV σ (forGo t body xs σ h)) :
    ∃ W : Nat → Nat → Sv → Hp → Prop, (∃ m, W 0 m σV H) ∧ ∀ i m σ H, W i m σ H → (J.stop i H ∧ E.nx σ H) ∨ (J.go i H ∧ ∃ N : Sv → Hp → Prop, (∀ σ' H', N σ' H' → ∃ m', m' < m ∧ W (i + 1) m' σ' H') ∧ ∀ x H', J.yld i H x H' → RdG K vs t x σ H' fun σ2 H2 => RdS K body { E with nx := N, ct := N, bk := E.nx } σ2 H2) := by
  let W : Nat → Nat → Sv → Hp → Prop := fun i n σV' H' => n = xs.length - i ∧ i ≤ xs.length ∧ ∃ L' σ' h', LeS L H σV σ L' H' σV' σ' ∧ HRel K L' H' h' ∧ SRel K L' H' σV' σ' ∧ Post K E L' H' σV' σ' (forGo t body (xs.drop i) σ' h')
  refine ⟨W, ⟨xs.length, rfl, Nat.zero_le _, L, σ, h, LeS.refl, hr, sr, q⟩, ?_⟩
  rintro i n σV' H' ⟨hn, hi, L', σ', h', l', r', s', q'⟩
  by_cases hlt : i < xs.length
  · refine .inr ?_
    obtain ⟨hgo, hy⟩ := (wk L' H' h' l'.le r' i).1 xs[i] (List.getElem?_eq_getElem hlt)
    refine ⟨hgo, W (i + 1) (xs.length - (i + 1)), fun σ'' H'' w => ⟨_, by omega, w⟩, fun v H'' y => ?_⟩
    obtain ⟨La, la, ra, qa⟩ := hy v H'' y
    rw [List.drop_eq_getElem_cons hlt] at q'
    unfold forGo at q'
    cases et : t xs[i] σ' with
    | none => rw [et] at q'; exact q'.elim
    | some σ2 =>
      have q' : Post K E L' H' σV' σ' ((body σ2 h').loop fun σ2 h2 => forGo t body (xs.drop (i + 1)) σ2 h2) := by simpa only [et] using q'
      refine ⟨La, σ', xs[i], σ2, s'.le la, qa, ra.sub, et, fun σV2 sr2 tg => ⟨La, σ2, h', ra, sr2, ?_⟩⟩
      have l2 : LeS L' H' σV' σ' La H'' σV2 σ2 := leS_tg la tg
      have q2 := Post.mono q' l2
      cases eb : body σ2 h' with
      | nx σ3 h3 =>
        simp only [eb, RS.loop] at q2
        exact fun L3 H3 σV3 l3 r3 s3 => ⟨rfl, hlt, L3, σ3, h3, (l'.trans l2).trans l3, r3, s3, Post.mono q2 l3⟩
      | ct σ3 h3 =>
        simp only [eb, RS.loop] at q2
        exact fun L3 H3 σV3 l3 r3 s3 => ⟨rfl, hlt, L3, σ3, h3, (l'.trans l2).trans l3, r3, s3, Post.mono q2 l3⟩
      | bk σ3 h3 => simp only [eb, RS.loop] at q2; exact q2
      | rt d h3 => simp only [eb, RS.loop] at q2; exact q2
      | bad => simp only [eb, RS.loop] at q2; exact q2.elim
  · have ei : i = xs.length := by omega
    subst ei
    refine .inl ⟨(wk L' H' h' l'.le r' _).2 (Nat.le_refl _), ?_⟩
    rw [List.drop_length] at q'
    exact q' L' H' σV' LeS.refl r' s'
theorem unl_post {E : Ends} {L : Lay} {H : Hp} {σV : Sv} {σ : Sg} {i : Nat} {xs : List D} {r : RS} (e : σ[i]? = some (.own xs)) (q : Post K E L H σV σ (r.unl i)) : Post K E L H σV (σ.set i (.lent xs)) r := by
  have hi := (List.getElem?_eq_some_iff.mp e).1
  have sub : ∀ p, Own σV (σ.set i (.lent xs)) p → Own σV σ p := fun p ⟨j, t, e1, f, e2⟩ => by
    by_cases z : i = j
    · subst z; rw [List.getElem?_set_self hi] at e1; cases e1; cases f
    · rw [List.getElem?_set_ne z] at e1; exact ⟨j, t, e1, f, e2⟩
  have key : ∀ {L' : Lay} {H' : Hp} {σV' : Sv} {σ' : Sg}, LeS L H σV (σ.set i (.lent xs)) L' H' σV' σ' → SRel K L' H' σV' σ' → LeS L H σV σ L' H' σV' (unlS σ' i) ∧ SRel K L' H' σV' (unlS σ' i) := fun {L' H' σV' σ'} l s => by
    obtain ⟨k1, k2⟩ := l.kp i xs (List.getElem?_set_self hi)
    have hi' := (List.getElem?_eq_some_iff.mp k1).1
    have eu : unlS σ' i = σ'.set i (.own xs) := by unfold unlS; rw [k1]
    rw [eu]
    refine ⟨⟨l.le.up sub, fun p ⟨j, t, e1, f, e2⟩ => ?_, fun j ys hj => ?_⟩, ⟨by simp [s.len], fun j t ht => ?_, fun j k t u p e1 e2 o1 o2 z1 z2 => ?_⟩⟩
    · by_cases z : i = j
      · subst z
        rw [k2] at e2
        exact .inl ⟨i, _, e, rfl, e2⟩
      · rw [List.getElem?_set_ne z] at e1
        rcases l.own p ⟨j, t, e1, f, e2⟩ with q | q
        · exact .inl (sub p q)
        · exact .inr q
    · have z : i ≠ j := fun z => by subst z; rw [e] at hj; cases hj
      have := l.kp j ys (by rw [List.getElem?_set_ne z]; exact hj)
      rw [List.getElem?_set_ne z]; exact this
    · by_cases z : i = j
      · subst z
        rw [List.getElem?_set_self hi'] at ht; cases ht
        exact s.sl i (.lent xs) k1
      · rw [List.getElem?_set_ne z] at ht
        exact s.sl j t ht
    · have a1 : ∀ (j : Nat) (t : Sl), (σ'.set i (.own xs))[j]? = some t → t.owned = true → ∃ t' : Sl, σ'[j]? = some t' ∧ t'.owned = true := fun j t h o => by
        by_cases z : i = j
        · subst z; exact ⟨_, k1, rfl⟩
        · rw [List.getElem?_set_ne z] at h; exact ⟨t, h, o⟩
      obtain ⟨t', h1, h2⟩ := a1 j t e1 o1
      obtain ⟨u', h3, h4⟩ := a1 k u e2 o2
      exact s.ap j k t' u' p h1 h3 h2 h4 z1 z2
  cases r with
  | nx σ' h' => exact fun L' H' σV' l hr s => let ⟨a, b⟩ := key l s; q L' H' σV' a hr b
  | bk σ' h' => exact fun L' H' σV' l hr s => let ⟨a, b⟩ := key l s; q L' H' σV' a hr b
  | ct σ' h' => exact fun L' H' σV' l hr s => let ⟨a, b⟩ := key l s; q L' H' σV' a hr b
  | rt d h' => exact fun L' H' v l hr r => q L' H' v (l.up sub) hr r
  | bad => exact q.elim
theorem lent_srel {L : Lay} {H : Hp} {σV : Sv} {σ : Sg} {i : Nat} {xs : List D} (e : σ[i]? = some (.own xs)) (s : SRel K L H σV σ) : SRel K L H σV (σ.set i (.lent xs)) := by
  have hi := (List.getElem?_eq_some_iff.mp e).1
  refine ⟨by simp [s.len], fun j t ht => ?_, fun j k t u p e1 e2 o1 o2 z1 z2 => ?_⟩
  · by_cases z : i = j
    · subst z
      rw [List.getElem?_set_self hi] at ht; cases ht
      exact s.sl i (.own xs) e
    · rw [List.getElem?_set_ne z] at ht
      exact s.sl j t ht
  · have a1 : ∀ (j : Nat) (t : Sl), (σ.set i (.lent xs))[j]? = some t → t.owned = true → ∃ t' : Sl, σ[j]? = some t' ∧ t'.owned = true := fun j t h o => by
      by_cases z : i = j
      · subst z; exact ⟨_, e, rfl⟩
      · rw [List.getElem?_set_ne z] at h; exact ⟨t, h, o⟩
    obtain ⟨t', h1, h2⟩ := a1 j t e1 o1
    obtain ⟨u', h3, h4⟩ := a1 k u e2 o2
    exact s.ap j k t' u' p h1 h3 h2 h4 z1 z2
variable {tg iter : Expr} {bodyS : List Stmt} {pos : Pos}
theorem sndS_for {m : IM} {t : GT} {body : SM} {vs : List Nat} (hp : PassesOwn (model X.prog X.w) X.A X.env X.xe) (hc : X.calm = true) (hi : SndI X tg iter [] m) (hg : SndG X tg vs t) (hb : SndB X bodyS body) (hs : ∀ x, foldedSetIterable iter X.env x = pure x) :
    SndS X (.For tg iter bodyS [] pos) (sFor m t body) := by
  refine weakS (ps_for hp hc hi hg hb hs) fun E σV H ⟨L, σ, h, hr, sr, q⟩ => ?_
  obtain ⟨xs, h1, e1, q⟩ := eDo_case q
  refine ⟨L, σ, h, xs, h1, hr, sr, e1, fun L1 H1 J l1 r1 wk => ?_⟩
  exact for_rd r1 (sr.le l1) (wk _ (fun _ h => absurd h List.not_mem_nil)) (Post.mono q (LeS.of0 l1))
theorem own_lent {L : Lay} {H : Hp} {σV : Sv} {σ : Sg} {i : Nat} {xs : List D} {p : Addr} (s : SRel K L H σV σ) (e : σ[i]? = some (.lent xs)) (ev : σV[i]? = some (some (.ref p))) : ¬ Own σV σ p := fun ⟨j, t, e1, f, e2⟩ => by
  have o : t.owned = true := by cases t <;> first | rfl | cases f
  have := s.ap i j _ t p e e1 rfl o ev e2
  subst this
  rw [e] at e1; cases e1; cases f
theorem sndS_forV {i : Nat} {x : Str} {ipos : Pos} {t : GT} {body : SM} {vs : List Nat} (hN : X.N[i]? = some x) (hv : Vis X.env.scope x) (hd : (x == ("__debug__" : Str)) = false) (hcd : (x == ("__classdict__" : Str)) = false)
    (hp : PassesOwn (model X.prog X.w) X.A X.env X.xe) (hc : X.calm = true) (hg : SndG X tg vs t) (hb : SndB X bodyS body) : SndS X (.For tg (.Name x ipos) bodyS [] pos) (sForV i t body) := by
  refine weakS (ps_for hp hc (sndI_var (tg := tg) (pos := ipos) hN hv hd hcd) hg hb fun _ => rfl) fun E σV H ⟨L, σ, h, hr, sr, q⟩ => ?_
  unfold sForV at q
  cases e : σ[i]? with
  | none => rw [e] at q; exact q.elim
  | some s =>
    cases s with
    | no => rw [e] at q; exact q.elim
    | ownd _ => rw [e] at q; exact q.elim
    | own xs =>
      rw [e] at q
      have q := unl_post e q
      have s' := lent_srel e sr
      obtain ⟨xv, ex, p, vs, rfl, _⟩ := sr.sl i _ e
      have hi := (List.getElem?_eq_some_iff.mp e).1
      refine ⟨L, σ, h, xs, h, hr, sr, by simp [iVal, oVar, e, itemsD, optR], fun L1 H1 J l1 r1 wk => ?_⟩
      refine for_rd r1 (s'.le l1) (wk _ (fun j hj s2 q' es o e2 => ?_)) (Post.mono q (LeS.of0 l1))
      have : j = i := by simpa using hj
      subst this
      rw [ex] at e2; cases e2
      exact own_lent s' (List.getElem?_set_self hi) ex
    | lent xs =>
      rw [e] at q
      obtain ⟨xv, ex, p, vs, rfl, _⟩ := sr.sl i _ e
      refine ⟨L, σ, h, xs, h, hr, sr, by simp [iVal, oVar, e, itemsD, optR], fun L1 H1 J l1 r1 wk => ?_⟩
      refine for_rd r1 (sr.le l1) (wk _ (fun j hj s2 q' es o e2 => ?_)) (Post.mono q (LeS.of0 l1))
      have : j = i := by simpa using hj
      subst this
      rw [ex] at e2; cases e2
      exact own_lent sr e ex
    | val d =>
      rw [e] at q
      cases ed : itemsD d with
      | none => simp only [ed] at q; exact q.elim
      | some xs =>
        simp only [ed] at q
        obtain ⟨xv, ex, v, rfl, rv⟩ := sr.sl i _ e
        refine ⟨L, σ, h, xs, h, hr, sr, by simp [iVal, oVar, e, ed, optR], fun L1 H1 J l1 r1 wk => ?_⟩
        refine for_rd r1 (sr.le l1) (wk _ (fun j hj s2 q' es o e2 => ?_)) (Post.mono q (LeS.of0 l1))
        have : j = i := by simpa using hj
        subst this
        rw [e] at es; cases es; cases o
def whileGo (t : TM) (body : SM) : Nat → Sg → Hs → RS
  | 0, _, _ => .bad
  | n + 1, σ, h => eDo (t σ h) fun b h1 => match b with
    | true => (body σ h1).loop fun σ2 h2 => whileGo t body n σ2 h2
    | false => .nx σ h1
theorem sndS_while {c : Expr} {t : TM} {body : SM} (n : Nat) (hp : PassesOwn (model X.prog X.w) X.A X.env X.xe) (hc : SndT X c t) (hb : SndB X bodyS body) : SndS X (.While c bodyS [] pos) (whileGo t body n) := by
  refine weakS (ps_while hp hc hb) fun E σV H ⟨L, σ, h, hr, sr, q⟩ => ?_
  refine ⟨fun m σV' H' => ∃ L' σ' h', LeS L H σV σ L' H' σV' σ' ∧ HRel X.K L' H' h' ∧ SRel X.K L' H' σV' σ' ∧ Post X.K E L' H' σV' σ' (whileGo t body m σ' h'), ⟨n, L, σ, h, LeS.refl, hr, sr, q⟩, ?_⟩
  rintro m σV' H' ⟨L', σ', h', l', r', s', q'⟩
  cases m with
  | zero => exact q'.elim
  | succ m =>
    obtain ⟨b, h1, e1, q'⟩ := eDo_case q'
    refine ⟨L', σ', h', b, h1, r', s', e1, fun L1 H1 l1 r1 => ?_⟩
    have q1 := Post.mono q' (LeS.of0 l1)
    have l2 := l'.trans (LeS.of0 l1)
    cases b with
    | false => exact q1 L1 H1 σV' LeS.refl r1 (s'.le l1)
    | true =>
      refine ⟨fun σV3 H3 => ∃ L3 σ3 h3, LeS L H σV σ L3 H3 σV3 σ3 ∧ HRel X.K L3 H3 h3 ∧ SRel X.K L3 H3 σV3 σ3 ∧ Post X.K E L3 H3 σV3 σ3 (whileGo t body m σ3 h3), fun σ3 H3 w => ⟨m, Nat.lt_succ_self m, w⟩, L1, σ', h1, r1, s'.le l1, ?_⟩
      cases eb : body σ' h1 with
      | nx σ3 h3 =>
        simp only [eb, RS.loop] at q1
        exact fun L3 H3 σV3 l3 r3 s3 => ⟨L3, σ3, h3, l2.trans l3, r3, s3, Post.mono q1 l3⟩
      | ct σ3 h3 =>
        simp only [eb, RS.loop] at q1
        exact fun L3 H3 σV3 l3 r3 s3 => ⟨L3, σ3, h3, l2.trans l3, r3, s3, Post.mono q1 l3⟩
      | bk σ3 h3 => simp only [eb, RS.loop] at q1; exact q1
      | rt d h3 => simp only [eb, RS.loop] at q1; exact q1
      | bad => simp only [eb, RS.loop] at q1; exact q1.elim
end
end WC
set_option Elab.async false
set_option linter.all false
set_option maxRecDepth 100000
namespace WC
open PySem PySem.Spec PyProof.Rows L2

abbrev FD := List D → Hs → R D
def spI (K : PySem.W.Frag) (n : Nat) (f : FD) : Sp := fun vs H Q _ => vs.length = n ∧ ∃ (L : Lay) (h : Hs) (ds : List D) (d : D) (h' : Hs), HRel K L H h ∧ Reps K L vs ds ∧ f ds h = .ok d h' ∧
  ∀ L' H' v, Le0 L H L' H' → HRel K L' H' h' → Rep K L' v d → Q v H'
def eFn (n : Nat) (f : FD) (ms : AM) : EM := fun σ h => (ms σ h).bind fun xs h1 => if xs.length = n then f xs h1 else .bad
theorem fn_rd {K : PySem.W.Frag} {n : Nat} {f : FD} {ms : AM} {σV : Sv} {H : Hp} {Q : VK} {E : XK} (q : RdE K (eFn n f ms) σV H Q) : RdA K ms σV H fun vs H1 => spI K n f vs H1 Q E := by
  obtain ⟨L, σ, h, d, h', hr, sr, em, k⟩ := q
  obtain ⟨xs, h1, e1, em⟩ := bind_some em
  by_cases hn : xs.length = n
  · rw [if_pos hn] at em
    exact ⟨L, σ, h, xs, h1, hr, sr, e1, fun L1 H1 vs l1 r1 q1 => ⟨q1.length.trans hn, L1, h1, xs, d, h', r1, q1, em, fun L2' H2 v l2 r2 q2 => k L2' H2 v (l1.trans0 l2) r2 q2⟩⟩
  · rw [if_neg hn] at em; cases em
def permL {α : Type} (is : List Nat) (l : List α) : List α := is.filterMap fun i => l[i]?
def eFnK (n m k : Nat) (is : List Nat) (f : FD) (ms mk : AM) : EM := fun σ h => (ms σ h).bind fun xs h1 => (mk σ h1).bind fun zs h2 => if xs.length = m ∧ zs.length = k ∧ (permL is (xs ++ zs)).length = n then f (permL is (xs ++ zs)) h2 else .bad
theorem perm_vals {vs : List V} {us : List Value} (r : Vals vs us) : ∀ is : List Nat, Vals (permL is vs) (permL is us)
  | [] => .nil
  | i :: is => by
    unfold permL
    rw [List.filterMap_cons, List.filterMap_cons]
    have ih : Vals (permL is vs) (permL is us) := perm_vals r is
    cases e : vs[i]? with
    | none => rw [r.none_of e]; exact ih
    | some v =>
      obtain ⟨u, eu, ru⟩ := r.get e
      rw [eu]
      exact .cons ru ih
theorem perm_reps {K : PySem.W.Frag} {L : Lay} {vs : List V} {ds : List D} (r : Reps K L vs ds) : ∀ is : List Nat, Reps K L (permL is vs) (permL is ds)
  | [] => .nil
  | i :: is => by
    unfold permL
    rw [List.filterMap_cons, List.filterMap_cons]
    have ih : Reps K L (permL is vs) (permL is ds) := perm_reps r is
    cases e : vs[i]? with
    | none =>
      have : ds[i]? = none := List.getElem?_eq_none_iff.mpr (by rw [← r.length]; exact List.getElem?_eq_none_iff.mp e)
      rw [this]; exact ih
    | some v =>
      obtain ⟨d, ed, rd⟩ := r.getV e
      rw [ed]
      exact .cons rd ih
def KB (K : PySem.W.Frag) (fd : FuncData) (ps ks : List Str) (m : Nat) (is : List Nat) : Prop :=
  ∀ (s : Shared) (us ws : List Value), K.In s.heap → us.length = m → ws.length = ks.length → BindsTo s fd ⟨us, ks.zip ws⟩ (ps.zip (permL is (us ++ ws)))
def SndK (X : Cx) (kws : List Keyword) (m : AM) : Prop := PK X kws (RdA X.K m)
section
variable {X : Cx} {k n m : Nat} {f : Addr} {fd : FuncData} {ps ks : List Str} {F : FD} {x : Str} {p pos : Pos} {e : Expr} {es : List Expr} {kws : List Keyword} {ms mk : AM} {is : List Nat}
theorem sndK_nil : SndK X [] aNil := weakK pk_nil fun σV H Q ⟨L, σ, h, d, h', hr, sr, em, k⟩ => by cases em; exact k L H [] Le.refl hr .nil
theorem sndK_cons {nm : Option Str} {kpos : Pos} {m : EM} {ms : AM} (he : SndE X e m) (hes : SndK X kws ms) : SndK X (⟨nm, e, kpos⟩ :: kws) (aCons m ms) := by
  refine weakK (pk_cons he hes) fun σV H Q ⟨L, σ, h, d, h', hr, sr, em, k⟩ => ?_
  obtain ⟨x, h1, e1, em⟩ := bind_some em
  obtain ⟨xs, h2, e2, em⟩ := bind_some em
  cases em
  refine ⟨L, σ, h, x, h1, hr, sr, e1, fun L1 H1 v1 l1 r1 q1 => ⟨L1, σ, h1, xs, h', r1, sr.le l1, e2, fun L2' H2 vs l2 r2 q2 => ?_⟩⟩
  exact k L2' H2 (v1 :: vs) (l1.trans0 l2) r2 (.cons (q1.le l2) q2)
theorem snd_fn (G : FnOk X.prog X.w X.K X.mg X.base CX0 k f fd ps (spI X.K n F)) (hr : Room k X.A) (hg : Gl X x) (hm : X.mg x = some (.ref f)) (hk : PySem.W.keepIn X.K (.ref f) = true) (hb : Binds X.K fd ps []) (ha : SndA X (e :: es) ms)
    (hdb : (x == ("__debug__" : Str)) = false) (he : starEach (e :: es) X.env = (false, eval e X.env) :: starEach es X.env) (hpl : (backTo pos (starEach es X.env)).any (·.1) = false) : SndE X (.Call (.Name x p) (e :: es) [] pos) (eFn n F ms) := by
  refine weakE (pe_call G hr hg hm hk hb .nil pass0 ha hdb he hpl) fun σV H Q q => ?_
  obtain ⟨L, σ, h, d, h', a, b, c, k⟩ := fn_rd (E := fun _ _ _ => False) q
  exact ⟨L, σ, h, d, h', a, b, c, fun L' H' v l r q => by
    show spI X.K n F (v ++ []) H' Q E0
    rw [List.append_nil]; exact k L' H' v l r q⟩
theorem snd_fn0 (G : FnOk X.prog X.w X.K X.mg X.base CX0 k f fd ps (spI X.K n F)) (hr : Room k X.A) (hg : Gl X x) (hm : X.mg x = some (.ref f)) (hk : PySem.W.keepIn X.K (.ref f) = true) (hb : Binds X.K fd ps []) (hdb : (x == ("__debug__" : Str)) = false) : SndE X (.Call (.Name x p) [] [] pos) (eFn n F aNil) := by
  refine weakE (pe_call0 G hr hg hm hk hb .nil pass0 hdb) fun σV H Q q => ?_
  obtain ⟨L, σ, h, d, h', a, b, c, k⟩ := fn_rd (E := fun _ _ _ => False) q
  cases c
  exact k L H [] Le.refl a .nil
theorem kfn_rd {σV : Sv} {H : Hp} {Q : VK} (q : RdE X.K (eFnK n m ks.length is F ms mk) σV H Q) : RdA X.K ms σV H fun vs H1 => RdA X.K mk σV H1 fun zs H2 => vs.length = m ∧ zs.length = ks.length ∧ spI X.K n F (permL is (vs ++ zs)) H2 Q (fun _ _ _ => False) := by
  obtain ⟨L, σ, h, d, h', hr, sr, em, k⟩ := q
  obtain ⟨xs, h1, e1, em⟩ := bind_some em
  obtain ⟨zs, h2, e2, em⟩ := bind_some em
  by_cases hn : xs.length = m ∧ zs.length = ks.length ∧ (permL is (xs ++ zs)).length = n
  · rw [if_pos hn] at em
    refine ⟨L, σ, h, xs, h1, hr, sr, e1, fun L1 H1 vs l1 r1 q1 => ⟨L1, σ, h1, zs, h2, r1, sr.le l1, e2, fun L2' H2 ws l2 r2 q2 => ?_⟩⟩
    have rr := perm_reps ((q1.le l2).append q2) is
    exact ⟨q1.length.trans hn.1, q2.length.trans hn.2.1, rr.length.trans hn.2.2, L2', h2, _, d, h', r2, rr, em, fun L3 H3 v l3 r3 q3 => k L3 H3 v ((l1.trans0 l2).trans0 l3) r3 q3⟩
  · rw [if_neg hn] at em; cases em
theorem run_k {pins : List (Addr × Obj)} {σ : Sv} {H : Hp} {s : Shared} {Q : VK} {us ws : List Value} {vs zs : List V} (G : FnOk X.prog X.w X.K X.mg X.base CX0 k f fd ps (spI X.K n F)) (hr : Room k X.A) (hb : KB X.K fd ps ks m is)
    (I : Inv X pins σ H s) (r : Vals vs us) (rz : Vals zs ws) (h : vs.length = m ∧ zs.length = ks.length ∧ spI X.K n F (permL is (vs ++ zs)) H Q (fun _ _ _ => False)) : wpAny (model X.prog X.w) X.A (call (.ref f) us (ks.zip ws)) (EP X pins σ Q) X.xe s := by
  obtain ⟨h1, h2, h⟩ := h
  have r2 := perm_vals (r.append rz) is
  refine wpAny_call (codeAny_mono (G.run X.A X.stack s H ⟨us, ks.zip ws⟩ _ _ Q (fun _ _ _ => False) hr I.env0 (hb s us ws I.kIn (by rw [← r.length]; exact h1) (by rw [← rz.length]; exact h2)) r2 h) fun r s' hq => ?_)
  cases r with
  | error e => exact hq.elim
  | ok fl =>
    cases fl with
    | ret u => exact I.after hq
    | next => exact False.elim hq
    | brk => exact False.elim hq
    | cont => exact False.elim hq
theorem snd_fnk (G : FnOk X.prog X.w X.K X.mg X.base CX0 k f fd ps (spI X.K n F)) (hr : Room k X.A) (hg : Gl X x) (hm : X.mg x = some (.ref f)) (hk : PySem.W.keepIn X.K (.ref f) = true) (hb : KB X.K fd ps ks m is) (ha : SndA X (e :: es) ms) (hkw : SndK X kws mk)
    (hall : (backToKw pos (keywordEach kws X.env)).all (·.1.isSome) = true) (hks : (backToKw pos (keywordEach kws X.env)).filterMap (·.1) = ks) (hdb : (x == ("__debug__" : Str)) = false) (he : starEach (e :: es) X.env = (false, eval e X.env) :: starEach es X.env)
    (hpl : ((backTo pos (starEach (e :: es) X.env)).any (·.1) || (backToKw pos (keywordEach kws X.env)).any (·.1.isNone)) = false) : SndE X (.Call (.Name x p) (e :: es) kws pos) (eFnK n m ks.length is F ms mk) := by
  refine ⟨fun pins s σ H Q I h => ?_⟩
  refine wpAny_Call_Name_kw (ld_glob I hg hm ?_ hdb)
  refine PySem.W.callWith_KW (h₀ := X.base) I.ok.mod.kin hk hall (thn (ha.run pos pins s σ H _ I (kfn_rd h)) fun us s1 ⟨vs, H1, I1, r, q⟩ => ?_) hpl he
  refine thn (hkw.run pos pins s1 σ H1 _ I1 q) fun ws s2 ⟨zs, H2, I2, rz, q2⟩ => ⟨I2.kIn, ?_⟩
  rw [hks]
  exact run_k G hr hb I2 r rz q2
theorem snd_fnk0 (G : FnOk X.prog X.w X.K X.mg X.base CX0 k f fd ps (spI X.K n F)) (hr : Room k X.A) (hg : Gl X x) (hm : X.mg x = some (.ref f)) (hk : PySem.W.keepIn X.K (.ref f) = true) (hb : KB X.K fd ps ks m is) (hkw : SndK X kws mk)
    (hall : (backToKw pos (keywordEach kws X.env)).all (·.1.isSome) = true) (hks : (backToKw pos (keywordEach kws X.env)).filterMap (·.1) = ks) (hdb : (x == ("__debug__" : Str)) = false)
    (hpl : ((backTo pos (starEach [] X.env)).any (·.1) || (backToKw pos (keywordEach kws X.env)).any (·.1.isNone)) = false) : SndE X (.Call (.Name x p) [] kws pos) (eFnK n m ks.length is F aNil mk) := by
  refine ⟨fun pins s σ H Q I h => ?_⟩
  refine wpAny_Call_Name_kw (ld_glob I hg hm ?_ hdb)
  have h := kfn_rd h
  obtain ⟨L, σ', h0, d, h1, hr0, sr0, e0, k0⟩ := h
  cases e0
  have h := k0 L H [] Le.refl hr0 .nil
  refine PySem.W.callWith_KW0 (h₀ := X.base) I.ok.mod.kin hk hall (thn (hkw.run pos pins s σ H _ I h) fun ws s2 ⟨zs, H2, I2, rz, q2⟩ => ⟨I2.kIn, ?_⟩) hpl
  rw [hks]
  exact run_k (us := []) (vs := []) G hr hb I2 .nil rz q2
end

def startS (n : Nat) (ds : List D) : Sg := ds.map .val ++ List.replicate (n - ds.length) .no
def defF (n : Nat) (body : SM) : FD := fun ds h => match body (startS n ds) h with
  | .nx _ h' => .ok .non h'
  | .rt d h' => .ok d h'
  | _ => .bad
theorem start_srel {K : PySem.W.Frag} {L : Lay} {H : Hp} {n : Nat} {N : List Str} {vs : List V} {ds : List D} (hN : N.length = n) (r : Reps K L vs ds) : SRel K L H (L2.start N vs) (startS n ds) := by
  have hl := r.length
  have key : ∀ (i : Nat) (s : Sl), (startS n ds)[i]? = some s → (∃ d, s = .val d ∧ ds[i]? = some d) ∨ s = .no := fun i s e => by
    unfold startS at e
    by_cases hi : i < ds.length
    · rw [List.getElem?_append_left (by simpa using hi), List.getElem?_map, Option.map_eq_some_iff] at e
      obtain ⟨d, e, rfl⟩ := e
      exact .inl ⟨d, rfl, e⟩
    · rw [List.getElem?_append_right (by simpa using hi), List.getElem?_replicate] at e
      split at e
      · cases e; exact .inr rfl
      · cases e
  refine ⟨?_, fun i s e => ?_, fun i j s t p e1 e2 o1 o2 _ _ => ?_⟩
  · unfold L2.start startS
    simp [hl, hN]
  · have hi : i < (L2.start N vs).length := by
      have := (List.getElem?_eq_some_iff.mp e).1
      unfold L2.start startS at *
      simp [hl, hN] at this ⊢
      omega
    rcases key i s e with ⟨d, rfl, ed⟩ | rfl
    · obtain ⟨v, ev, rv⟩ := r.get ed
      refine ⟨some v, ?_, v, rfl, rv⟩
      unfold L2.start
      rw [List.getElem?_append_left (by simpa using (List.getElem?_eq_some_iff.mp ev).1), List.getElem?_map, ev]
      rfl
    · exact ⟨_, List.getElem?_eq_getElem hi, trivial⟩
  · rcases key i s e1 with ⟨d, rfl, _⟩ | rfl <;> cases o1
theorem start_own {n : Nat} {N : List Str} {vs : List V} {ds : List D} {p : Addr} : ¬ Own (L2.start N vs) (startS n ds) p := fun ⟨i, s, e, f, _⟩ => by
  unfold startS at e
  by_cases hi : i < ds.length
  · rw [List.getElem?_append_left (by simpa using hi), List.getElem?_map, Option.map_eq_some_iff] at e
    obtain ⟨d, e, rfl⟩ := e
    cases f
  · rw [List.getElem?_append_right (by simpa using hi), List.getElem?_replicate] at e
    split at e
    · cases e; cases f
    · cases e
theorem fn_ok {P : Program} {w : World} {K : PySem.W.Frag} {mg : Str → Option Value} {base : Heap} {x qual : Str} {st : Stmt} {f : Addr} {fd : FuncData} {N ps : List Str} {k n : Nat} {body : SM} (Fn : Fun K x qual st f fd) (S : FnScope N ps (defScope st)) (hn : N.length = n)
    (hb : ∀ (cdv : Value) (A : Around) (outer : List Env) (s : Shared) (H : Hp), Room k (A.deeper (envOfC qual (defScope st) s.heap.objs.size f cdv)) → SndB (cxOf CX0 P w K mg base N qual (defScope st) f cdv A outer s H (fun _ _ _ => False)).nox (defBody st) body) :
    FnOk P w K mg base CX0 (k + 1) f fd ps (spI K ps.length (defF n body)) := by
  refine (Fn.ok S (sp := fun vs H Q E => spI K ps.length (defF n body) vs H Q E) (fun vs H Q E h => h.1) fun cdv A outer s H vs Q E hr h => ?_)
  obtain ⟨hl, L, h0, ds, d, h', hr', rr, em, kk⟩ := h
  refine ⟨RdS K body, ?_, L, startS n ds, h0, hr', start_srel hn rr, ?_⟩
  · exact hb cdv A outer s H hr
  · unfold defF at em
    have sub : ∀ p, Own (L2.start N vs) (startS n ds) p → False := fun p h => start_own h
    cases eb : body (startS n ds) h0 with
    | nx σ' h1 =>
      rw [eb] at em; cases em
      exact fun L' H' σV' l hr s => kk L' H' _ (l.le.up sub) hr .non
    | rt d' h1 =>
      rw [eb] at em; cases em
      exact fun L' H' v l hr r => kk L' H' v (l.up sub) hr r
    | bk _ _ => rw [eb] at em; cases em
    | ct _ _ => rw [eb] at em; cases em
    | bad => rw [eb] at em; cases em
end WC
set_option Elab.async false
set_option linter.all false
set_option maxRecDepth 100000
namespace WC
open PySem PySem.Spec PyProof.Rows L2

def notStar : Expr → Bool
  | .Starred _ _ => false
  | _ => true
theorem starEach_cons {e : Expr} {es : List Expr} {env : Env} (h : notStar e = true) : starEach (e :: es) env = (false, eval e env) :: starEach es env := by
  cases e <;> first | rfl | cases h
theorem starEach_any : ∀ {es : List Expr} {env : Env}, es.all notStar = true → (starEach es env).any (·.1) = false
  | [], _, _ => rfl
  | e :: es, env, h => by
    rw [List.all_cons, Bool.and_eq_true] at h
    rw [starEach_cons h.1, List.any_cons, starEach_any h.2]
    rfl
theorem backTo_any {pos : Pos} {l : List (Bool × Sem Value)} : (backTo pos l).any (·.1) = l.any (·.1) := by
  unfold backTo
  rw [List.any_map]
  rfl
theorem back_plain {pos : Pos} {es : List Expr} {env : Env} (h : es.all notStar = true) : (backTo pos (starEach es env)).any (·.1) = false := by rw [backTo_any, starEach_any h]
theorem any_all {l : List (Bool × Sem Value)} (h : l.any (·.1) = false) : l.all (fun x => !x.1) = true := by
  rw [List.all_eq_not_any_not]
  simpa using h
theorem few_ok {cpos : Pos} {es : List Expr} {env : Env} (h : es.all notStar = true) (hl : es.length < 30) : ((backTo cpos (starEach es env)).all (fun x => !x.1) && (backToKw cpos (keywordEach [] env)).all (fun x => x.1.isSome)
      && decide (es.length + ([] : List Keyword).length + (if ([] : List Keyword).isEmpty then 0 else 1) < 30)) = true := by
  rw [any_all (back_plain h), Bool.true_and]
  have e2 : (backToKw cpos (keywordEach [] env)).all (fun x => x.1.isSome) = true := rfl
  rw [e2, Bool.true_and]
  exact decide_eq_true (by simpa using hl)
def okBase : Expr → Bool
  | .Call (.Name _ _) [] [] _ => false
  | _ => true
theorem base_ok {o : Expr} {name : Str} {env : Env} {w : Sem Value} (h : okBase o = true) : attributeBase o name env w = w := by
  cases o <;> first | rfl | skip
  rename_i f as ks p
  cases f <;> first | rfl | skip
  cases as <;> first | rfl | skip
  cases ks <;> first | rfl | skip
  cases h
def plainT : Expr → Bool
  | .UnaryOp .Not _ _ => false
  | .BoolOp _ _ _ => false
  | .IfExp _ _ _ _ => false
  | .Compare _ _ _ _ => false
  | _ => true
theorem plain_ok {e : Expr} {env : Env} (h : plainT e = true) : ∀ whole, isTrue e env whole = (do let v ← whole; standAt e.pos; holding [v] (truthy v)) := by
  intro whole
  cases e <;> first | rfl | cases h | skip
  rename_i op _ _
  cases op <;> first | rfl | cases h
def notSlice : Expr → Bool
  | .Slice _ _ _ _ => false
  | _ => true
theorem plainIx_ok {b : Expr} (h : notSlice b = true) : PlainIx b := by
  intro o i
  cases b <;> first | rfl | cases h
def notSet : Expr → Bool
  | .Set _ _ _ => false
  | _ => true
theorem notSet_ok {e : Expr} {env : Env} (h : notSet e = true) : ∀ x, foldedSetIterable e env x = pure x := by
  intro x
  cases e <;> first | rfl | cases h
def notComp : Expr → Bool
  | .ListComp _ _ _ _ => false
  | .SetComp _ _ _ _ => false
  | .DictComp _ _ _ _ _ => false
  | _ => true
theorem sw_ok {e : Expr} {t : Option Expr} {l : Nat} {env : Env} (h : notComp e = true) : swapsWith e t l env = pure false := by
  cases e <;> first | rfl | cases h
theorem sub_ok {o a : Expr} {tp : Pos} {env : Env} (h : notSlice a = true) : ∀ v, assign (.Subscript o a tp) env v = (do
      let ov ← holding [v] (eval o env)
      let iv ← holding [v, ov] (eval a env)
      standAt tp
      holding [v, ov, iv] (setItem ov iv v)
      release [v, ov, iv] []) := by
  intro v
  cases a <;> first | rfl | cases h
theorem augStore_ok {a : Expr} (h : notSlice a = true) : ∀ ov iv new, augStore a ov iv new = (do holding [new, ov, iv] (setItem ov iv new); release [new, ov, iv] []; pure .next) := by
  intro ov iv new
  cases a <;> first | rfl | cases h
theorem each_cons {e : Expr} {es : List Expr} {env : Env} (h : notStar e = true) : assignEach (e :: es) env = (false, assign e env) :: assignEach es env := by
  cases e <;> first | rfl | cases h
theorem each_len : ∀ {es : List Expr} {env : Env}, (assignEach es env).length = es.length
  | [], _ => rfl
  | e :: es, env => by
    have := @each_len es env
    cases e <;> (show (assignEach es env).length + 1 = es.length + 1; rw [this])
theorem each_find : ∀ {es : List Expr} {env : Env}, es.all notStar = true → (assignEach es env).findIdx? (·.1) = none
  | [], _, _ => rfl
  | e :: es, env, h => by
    rw [List.all_cons, Bool.and_eq_true] at h
    rw [each_cons h.1, List.findIdx?_cons, each_find h.2]
    rfl
theorem kw_all : ∀ {kws : List Keyword} {pos : Pos} {env : Env}, kws.all (fun k => k.arg.isSome) = true → (backToKw pos (keywordEach kws env)).all (·.1.isSome) = true
  | [], _, _, _ => rfl
  | ⟨nm, e, p⟩ :: kws, pos, env, h => by
    rw [List.all_cons, Bool.and_eq_true] at h
    show (nm.isSome && (backToKw pos (keywordEach kws env)).all (·.1.isSome)) = true
    rw [kw_all h.2, Bool.and_true]
    exact h.1
theorem kw_names : ∀ {kws : List Keyword} {pos : Pos} {env : Env}, (backToKw pos (keywordEach kws env)).filterMap (·.1) = kws.filterMap (·.arg)
  | [], _, _ => rfl
  | ⟨nm, e, p⟩ :: kws, pos, env => by
    have ih := @kw_names kws pos env
    show ((nm, _) :: backToKw pos (keywordEach kws env)).filterMap (·.1) = _
    rw [List.filterMap_cons, List.filterMap_cons]
    cases nm with
    | none => exact ih
    | some n => rw [ih]
theorem kw_none {kws : List Keyword} {pos : Pos} {env : Env} (h : kws.all (fun k => k.arg.isSome) = true) : (backToKw pos (keywordEach kws env)).any (·.1.isNone) = false := by
  have := kw_all (pos := pos) (env := env) h
  rw [List.all_eq_not_any_not] at this
  have h2 : ((backToKw pos (keywordEach kws env)).any fun x => !x.1.isSome) = false := by simpa using this
  rw [← h2]
  congr 1
  funext x
  cases x.1 <;> rfl
def isTupE : Expr → Bool
  | .Tuple _ _ _ => true
  | _ => false
theorem sst_none {tg e : Expr} {env : Env} (h : isTupE e = false) : swappedStores [tg] e env = pure none := by
  cases e <;> first | (cases h; done) | (cases tg <;> rfl)
theorem sst_name {x : Str} {p : Pos} {e : Expr} {env : Env} : swappedStores [.Name x p] e env = pure none := by cases e <;> rfl
theorem sst_sub {o a : Expr} {p : Pos} {e : Expr} {env : Env} : swappedStores [.Subscript o a p] e env = pure none := by cases e <;> rfl
theorem block_fn {env : Env} (h : env.scope.kind = .function) : (env.blockKind != .function) = false := by
  unfold Env.blockKind
  rw [h]
  rfl
theorem sst_const {ts vs : List Expr} {k k2 : Nat} {p p2 : Pos} {env : Env} (h : vs.all (foldedForSure 8) = true) : swappedStores [.Tuple ts k p] (.Tuple vs k2 p2) env = pure none := by
  unfold swappedStores
  simp only [h]
  split
  · rfl
  · split
    · rfl
    · split
      · rfl
      · rfl
theorem sst_long {ts vs : List Expr} {k k2 : Nat} {p p2 : Pos} {env : Env} (h : (ts.length == 2 || ts.length == 3) = false) : swappedStores [.Tuple ts k p] (.Tuple vs k2 p2) env = pure none := by
  unfold swappedStores
  simp only [h]
  rfl
theorem sst_two {x y : Str} {px py pt pt2 : Pos} {a b : Expr} {k k2 : Nat} {env : Env} (hk : env.scope.kind = .function) (hx : env.scope.names.lookup x = some .local) (hy : env.scope.names.lookup y = some .local) (hl : (py.line == px.line) = true) (hne : (y == x) = false)
    (ha : notStar a = true) (hb : notStar b = true) (hf : [a, b].all (foldedForSure 8) = false) (hc : [a, b].all (constantsAlone 8) = false) : swappedStores [.Tuple [.Name x px, .Name y py] k pt] (.Tuple [a, b] k2 pt2) env = pure (some [x, y]) := by
  have kx : env.kindOf x = some .local := hx
  have ky : env.kindOf y = some .local := hy
  unfold swappedStores
  dsimp only
  refine (if_neg (by simp [block_fn hk])).trans ((if_neg fun h => ?_).trans ?_)
  · rw [List.any_eq_true] at h
    obtain ⟨e, he, h⟩ := h
    have hs : notStar e = true := by
      simp only [List.mem_cons, List.not_mem_nil, or_false] at he
      rcases he with rfl | rfl
      · exact ha
      · exact hb
    clear he hf hc
    cases e <;> first | exact absurd (show false = true from h) (by decide) | cases hs
  · have l1 := eq_of_beq hl
    have n1 : ¬ y = x := by simpa using hne
    simp [hf, hc, n1, kx, ky, l1, Expr.pos, List.filterMap_cons, List.eraseDups_cons, List.filter_cons]
theorem sst_three {x y z : Str} {px py pz pt pt2 : Pos} {a b c : Expr} {k k2 : Nat} {env : Env} (hk : env.scope.kind = .function) (hx : env.scope.names.lookup x = some .local) (hy : env.scope.names.lookup y = some .local) (hz : env.scope.names.lookup z = some .local) (hl : (py.line == px.line) = true) (hl2 : (pz.line == px.line) = true)
    (hne : (y == x) = false) (hne2 : (z == x) = false) (hne3 : (z == y) = false)
    (ha : notStar a = true) (hb : notStar b = true) (hcs : notStar c = true) (hf : [a, b, c].all (foldedForSure 8) = false) (hc : [a, b, c].all (constantsAlone 8) = false) : swappedStores [.Tuple [.Name x px, .Name y py, .Name z pz] k pt] (.Tuple [a, b, c] k2 pt2) env = pure (some [x, y, z]) := by
  have kx : env.kindOf x = some .local := hx
  have ky : env.kindOf y = some .local := hy
  have kz : env.kindOf z = some .local := hz
  unfold swappedStores
  dsimp only
  refine (if_neg (by simp [block_fn hk])).trans ((if_neg fun h => ?_).trans ?_)
  · rw [List.any_eq_true] at h
    obtain ⟨e, he, h⟩ := h
    have hs : notStar e = true := by
      simp only [List.mem_cons, List.not_mem_nil, or_false] at he
      rcases he with rfl | rfl | rfl
      · exact ha
      · exact hb
      · exact hcs
    clear he hf hc
    cases e <;> first | exact absurd (show false = true from h) (by decide) | cases hs
  · have l1 := eq_of_beq hl
    have l2 := eq_of_beq hl2
    have n1 : ¬ y = x := by simpa using hne
    have n2 : ¬ z = x := by simpa using hne2
    have n3 : ¬ z = y := by simpa using hne3
    simp [hf, hc, n1, n2, n3, kx, ky, kz, l1, l2, Expr.pos, List.filterMap_cons, List.eraseDups_cons, List.filter_cons]
def slotGo (x : Str) : List Str → Nat → Option Nat
  | [], _ => none
  | y :: ys, n => if x = y then some n else slotGo x ys (n + 1)
def slot (N : List Str) (x : Str) : Option Nat := slotGo x N 0
theorem slotGo_ok {x : Str} : ∀ {l : List Str} {n i : Nat}, slotGo x l n = some i → n ≤ i ∧ l[i - n]? = some x
  | [], _, _, h => by cases h
  | y :: ys, n, i, h => by
    unfold slotGo at h
    split at h
    · rename_i e
      cases h
      refine ⟨Nat.le_refl _, ?_⟩
      rw [Nat.sub_self, e]
      rfl
    · obtain ⟨h1, h2⟩ := slotGo_ok h
      refine ⟨by omega, ?_⟩
      rw [show i - n = (i - (n + 1)) + 1 by omega]
      exact h2
theorem slot_ok {N : List Str} {x : Str} {i : Nat} (h : slot N x = some i) : N[i]? = some x := (slotGo_ok h).2
end WC
set_option Elab.async false
set_option linter.all false
set_option maxRecDepth 100000
namespace WC
open PySem PySem.Spec PyProof.Rows L2

abbrev KVs := List (List Nat × D)
inductive KvOk (K : PySem.W.Frag) : List DictEntry → KVs → Prop
  | nil : KvOk K [] []
  | cons {e : DictEntry} {es : List DictEntry} {x : Str} {t : Tok} {v : V} {d : D} {kvs : KVs} : e.key = .str x t → RelV v e.val → (∀ L, Rep K L v d) → KvOk K es kvs → KvOk K (e :: es) ((x.cps.toList, d) :: kvs)
structure KDOk (K : PySem.W.Frag) (w : World) (a : Addr) (kvs : KVs) : Prop where
  ex : ∃ es n, KDict K w a es n ∧ KvOk K es.toList kvs
theorem kv_some {K : PySem.W.Frag} {z : Str} {d : D} : ∀ {es : List DictEntry} {kvs : KVs}, KvOk K es kvs → kvs.lookup z.cps.toList = some d → ∃ e v, es.find? (·.key.isStr z) = some e ∧ RelV v e.val ∧ ∀ L, Rep K L v d
  | _, _, .nil, h => by cases h
  | _, _, .cons (x := x) (v := v) (e := e) (es := es) hk r rr o, h => by
    rw [List.lookup_cons] at h
    rw [List.find?_cons, hk]
    simp only [Value.isStr]
    cases hb : (z.cps.toList == x.cps.toList) with
    | true =>
      rw [hb] at h
      cases h
      have : x = z := by
        have e1 : z.cps.toList = x.cps.toList := by simpa using hb
        cases x; cases z; simp only at e1; congr 1; exact (Array.toList_inj.mp e1).symm
      rw [this, beq_self_eq_true]
      exact ⟨_, _, rfl, r, rr⟩
    | false =>
      rw [hb] at h
      have : (x == z) = false := by
        rw [beq_eq_false_iff_ne]
        intro e
        subst e
        simp at hb
      rw [this]
      exact kv_some o h
theorem kv_none {K : PySem.W.Frag} {z : Str} : ∀ {es : List DictEntry} {kvs : KVs}, KvOk K es kvs → kvs.lookup z.cps.toList = none → es.find? (·.key.isStr z) = none ∧ es.any (·.refKey) = false
  | _, _, .nil, h => ⟨rfl, rfl⟩
  | _, _, .cons (x := x) (v := v) (e := e) (es := es) hk r rr o, h => by
    rw [List.lookup_cons] at h
    have hq : e.refKey = false := by unfold DictEntry.refKey; rw [hk]
    rw [List.find?_cons, List.any_cons, hq, hk]
    simp only [Value.isStr]
    cases hb : (z.cps.toList == x.cps.toList) with
    | true => rw [hb] at h; cases h
    | false =>
      rw [hb] at h
      have : (x == z) = false := by
        rw [beq_eq_false_iff_ne]
        intro e
        subst e
        simp at hb
      rw [this]
      exact kv_none o h
theorem ns_some {K : PySem.W.Frag} {w : World} {a : Addr} {es : Array DictEntry} {n : Nat} {kvs : KVs} {z : Str} {d : D} (D : KDict K w a es n) (o : KvOk K es.toList kvs) (h : kvs.lookup z.cps.toList = some d) : ∃ u v, PySem.W.nsIn K a z = some (some u) ∧ RelV v u ∧ ∀ L, Rep K L v d := by
  obtain ⟨e, v, h1, r, rr⟩ := kv_some o h
  refine ⟨e.val, v, ?_, r, rr⟩
  unfold PySem.W.nsIn
  rw [D.at_]
  simp only
  rw [h1]
theorem ns_none {K : PySem.W.Frag} {w : World} {a : Addr} {es : Array DictEntry} {n : Nat} {kvs : KVs} {z : Str} (D : KDict K w a es n) (o : KvOk K es.toList kvs) (h : kvs.lookup z.cps.toList = none) : PySem.W.nsIn K a z = some none := by
  obtain ⟨h1, h2⟩ := kv_none o h
  unfold PySem.W.nsIn
  rw [D.at_]
  simp only
  rw [h1, h2]
  rfl
def eInG (kvs : KVs) (neg : Bool) (m : EM) : EM := fun σ h => (m σ h).bind fun x h1 => match x with
  | .str c => .ok (.bl ((kvs.lookup c).isSome != neg)) h1
  | _ => .bad
def eGetG (kvs : KVs) (m : EM) : EM := fun σ h => (m σ h).bind fun x h1 => match x with
  | .str c => (match kvs.lookup c with
    | some d => .ok d h1
    | none => .bad)
  | _ => .bad
section
variable {X : Cx} {x : Str} {p pos : Pos} {a : Addr} {kvs : KVs} {e : Expr} {m : EM}
theorem in_rd (D : KDOk X.K X.w a kvs) {neg : Bool} {op : CmpOp} (ho : op = if neg then .NotIn else .In) : ∃ r : R2, OpR X (compareOp op) r ∧ ∀ σV H Q, RdE X.K (eInG kvs neg m) σV H Q → tOp r (RdO X.K m) (tC (.ref a)) σV H Q := by
  obtain ⟨es, n, kd, o⟩ := D.ex
  have fin : ∀ (r : R2), (∀ (z : Str) (H : Hp) (Q : VK) (b : Option Value), PySem.W.nsIn X.K a z = some b → Q (.bl (b.isSome != neg)) H → r (.str z) (.ref a) H Q) → ∀ σV H Q, RdE X.K (eInG kvs neg m) σV H Q → tOp r (RdO X.K m) (tC (.ref a)) σV H Q := by
    intro r hr σV H Q ⟨L, σ, h, d, h', hh, sr, em, k⟩
    obtain ⟨y, h1, e1, em⟩ := bind_some em
    refine ⟨L, σ, h, y, h1, hh, sr, e1, fun L1 H1 v1 l1 r1 q1 => ?_⟩
    split at em
    · rename_i c
      cases em
      obtain ⟨z, rfl, rfl, _, _⟩ := q1.str
      cases hl : kvs.lookup z.cps.toList with
      | some d =>
        obtain ⟨u, v, e2, _, _⟩ := ns_some kd o hl
        refine hr z H1 Q _ e2 ?_
        have := k L1 H1 (.bl ((kvs.lookup z.cps.toList).isSome != neg)) l1 r1 (.bl _)
        rw [hl] at this
        exact this
      | none =>
        have e2 := ns_none kd o hl
        refine hr z H1 Q _ e2 ?_
        have := k L1 H1 (.bl ((kvs.lookup z.cps.toList).isSome != neg)) l1 r1 (.bl _)
        rw [hl] at this
        exact this
    · cases em
  cases neg with
  | false =>
    subst ho
    refine ⟨_, op_in_kd kd, fin _ fun z H Q b e q => ⟨z, b, rfl, rfl, e, by simpa using q⟩⟩
  | true =>
    subst ho
    refine ⟨_, op_notIn_kd kd, fin _ fun z H Q b e q => ⟨z, b, rfl, rfl, e, by simpa using q⟩⟩
theorem snd_inG (hg : Gl X x) (hm : X.mg x = some (.ref a)) (hd : (x == ("__debug__" : Str)) = false) (D : KDOk X.K X.w a kvs) (ha : SndO X e m) {neg : Bool} {op : CmpOp} (ho : op = if neg then .NotIn else .In) (hb : behindInMarks op (.Name x p) = false) : SndE X (.Compare e [op] [.Name x p] pos) (eInG kvs neg m) := by
  obtain ⟨r, hr, w⟩ := in_rd (m := m) D ho
  exact weakE (pe_cmpR hr ha (pe_glob (v := .ref a) hg hm rfl hd) hb) w
theorem sndT_inG (hg : Gl X x) (hm : X.mg x = some (.ref a)) (hd : (x == ("__debug__" : Str)) = false) (D : KDOk X.K X.w a kvs) (ha : SndO X e m) {neg : Bool} {op : CmpOp} (ho : op = if neg then .NotIn else .In) (hb : behindInMarks op (.Name x p) = false) : SndT X (.Compare e [op] [.Name x p] pos) (tB (eInG kvs neg m)) := by
  obtain ⟨r, hr, w⟩ := in_rd (m := m) D ho
  exact weakT (pt_cmpR hr ha (pe_glob (v := .ref a) hg hm rfl hd) hb) fun σV H Q q => w _ _ _ (rdT_of q)
theorem snd_getG (hg : Gl X x) (hm : X.mg x = some (.ref a)) (hd : (x == ("__debug__" : Str)) = false) (D : KDOk X.K X.w a kvs) (ha : SndO X e m) (hp : PlainIx e) : SndE X (.Subscript (.Name x p) e pos) (eGetG kvs m) := by
  obtain ⟨es, n, kd, o⟩ := D.ex
  refine weakE (pe_ix ix_kdict (pe_glob (v := .ref a) hg hm rfl hd) ha hp) fun σV H Q ⟨L, σ, h, d, h', hh, sr, em, k⟩ => ?_
  obtain ⟨y, h1, e1, em⟩ := bind_some em
  refine ⟨L, σ, h, y, h1, hh, sr, e1, fun L1 H1 v1 l1 r1 q1 => ?_⟩
  split at em
  · rename_i c
    obtain ⟨z, rfl, rfl, _, _⟩ := q1.str
    cases hl : kvs.lookup z.cps.toList with
    | some d' =>
      rw [hl] at em
      cases em
      obtain ⟨u, v, e2, r2, rr⟩ := ns_some kd o hl
      exact ⟨a, z, v, rfl, rfl, ⟨es, n, u, kd.at_, kd.lit, e2, r2⟩, k L1 H1 v l1 r1 (rr L1)⟩
    | none => rw [hl] at em; cases em
  · cases em
end
end WC
set_option Elab.async false
set_option linter.all false
set_option maxRecDepth 100000
namespace WC
open PySem PySem.Spec PyProof.Rows L2

structure Glob where
  free : List Str
  consts : List (Str × D)
  funs : List (Str × Nat × Nat)
  kfuns : List (Str × Nat × List Str × List Nat)
  dicts : List (Str × KVs)
structure DC where
  sc : Scope
  tg : Str → Bool
def DC.loc (c : DC) (x : Str) : Bool := match c.sc.names.lookup x with
  | some .local => true
  | some .cell => true
  | some .free => true
  | _ => false
def DC.glob (c : DC) (x : Str) : Bool := match c.sc.names.lookup x with
  | some .globalImplicit => true
  | _ => false
def goodName (x : Str) : Bool := !(x == ("__debug__" : Str)) && !(x == ("__classdict__" : Str)) && !(x == ("__name__" : Str))
structure CtxOk (G : Glob) (fe : Nat → FD) (k : Nat) (N : List Str) (c : DC) (X : Cx) : Prop where
  hN : X.N = N
  nd : N.Nodup
  sc : X.env.scope = c.sc
  kind : c.sc.kind = .function
  tg : ∀ x, c.tg x = true → Loc X.env.scope x ∧ (X.fn x = true ∨ X.env.scope.names.lookup x = some .local)
  calm : X.calm = true
  xe : X.xe = fun _ _ => False
  room : Room k X.A
  free : ∀ x ∈ G.free, X.mg x = none
  consts : ∀ p ∈ G.consts, ∃ v u, X.mg p.1 = some u ∧ RelV v u ∧ ∀ L, Rep X.K L v p.2
  dicts : ∀ p ∈ G.dicts, ∃ a, X.mg p.1 = some (.ref a) ∧ KDOk X.K X.w a p.2
  funs : ∀ q ∈ G.funs, ∃ f fd ps, X.mg q.1 = some (.ref f) ∧ PySem.W.keepIn X.K (.ref f) = true ∧ Binds X.K fd ps [] ∧ FnOk X.prog X.w X.K X.mg X.base CX0 k f fd ps (spI X.K q.2.2 (fe q.2.1)) ∧
    ∀ r ∈ G.kfuns, r.1 = q.1 → KB X.K fd ps r.2.2.1 r.2.1 r.2.2.2
section
variable {G : Glob} {fe : Nat → FD} {k : Nat} {N : List Str} {c : DC} {X : Cx}
theorem CtxOk.vis (C : CtxOk G fe k N c X) {x : Str} (h : c.loc x = true) : Vis X.env.scope x := by
  unfold DC.loc at h
  unfold Vis
  rw [C.sc]
  split at h
  · exact .inl (by assumption)
  · exact .inr (.inl (by assumption))
  · exact .inr (.inr (by assumption))
  · cases h
theorem CtxOk.gl (C : CtxOk G fe k N c X) {x : Str} (h : c.glob x = true) : Gl X x := by
  unfold DC.glob at h
  show X.env.scope.names.lookup x = _
  rw [C.sc]
  split at h
  · assumption
  · cases h
theorem CtxOk.units (C : CtxOk G fe k N c X) : X.A.units + 65 < cLine := by
  have := C.room.un
  omega
theorem good_ok {x : Str} (h : goodName x = true) : (x == ("__debug__" : Str)) = false ∧ (x == ("__classdict__" : Str)) = false ∧ x ≠ ("__name__" : Str) := by
  unfold goodName at h
  simp only [Bool.and_eq_true, Bool.not_eq_true'] at h
  exact ⟨h.1.1, h.1.2, fun e => by subst e; simp at h⟩
end


structure Den where
  E : DC → Expr → EM
  T : DC → Expr → TM
  B : DC → List Stmt → SM
def dO (d : Den) (N : List Str) (c : DC) : Expr → EM
  | .Name x p => if c.loc x then (match slot N x with
    | some i => if goodName x then oVar i else eBad
    | none => eBad) else d.E c (.Name x p)
  | e => d.E c e
def dA (d : Den) (c : DC) : List Expr → AM
  | [] => aNil
  | e :: es => if notStar e then aCons (d.E c e) (dA d c es) else aBad
def dAO (d : Den) (N : List Str) (c : DC) : List Expr → AM
  | [] => aNil
  | e :: es => if notStar e then aCons (dO d N c e) (dAO d N c es) else aBad
def dKw (d : Den) (c : DC) : List Keyword → AM
  | [] => aNil
  | ⟨_, e, _⟩ :: ks => aCons (d.E c e) (dKw d c ks)
def cmpG : CmpOp → G2
  | .Eq => gEq
  | .NotEq => gNe
  | .Lt => gLt
  | .LtE => gLeI
  | .Gt => gGt
  | .GtE => gGe
  | .Is => gIsN
  | .IsNot => gNotN
  | .In => gIn
  | .NotIn => gNotIn
def dBin (d : Den) (N : List Str) (c : DC) (a : Expr) (op : Operator) (b : Expr) : EM := match op with
  | .Add => eOp gAdd (dO d N c a) (dO d N c b)
  | .Sub => eOp gSub (dO d N c a) (dO d N c b)
  | .Mult => eOp gMul (dO d N c a) (dO d N c b)
  | .FloorDiv => eOp gFdiv (dO d N c a) (dO d N c b)
  | .Mod => eOp gMod (dO d N c a) (dO d N c b)
  | .Pow => eOp gPow (dO d N c a) (dO d N c b)
  | .LShift => eOp gShl (dO d N c a) (dO d N c b)
  | .RShift => eOp gShr (dO d N c a) (dO d N c b)
  | .BitAnd => eOp gAnd (dO d N c a) (dO d N c b)
  | .BitOr => eOp gOr (dO d N c a) (dO d N c b)
  | .BitXor => eOp gXor (dO d N c a) (dO d N c b)
  | _ => eBad
def dAnd (d : Den) (c : DC) : List Expr → EM
  | [] => eBad
  | [a] => d.E c a
  | a :: rest => eAnd (d.E c a) (dAnd d c rest)
def dOr (d : Den) (c : DC) : List Expr → EM
  | [] => eBad
  | [a] => d.E c a
  | a :: rest => eOr (d.E c a) (dOr d c rest)
def dAndT (d : Den) (c : DC) : List Expr → TM
  | [] => tBad
  | [a] => d.T c a
  | a :: rest => tAnd (d.T c a) (dAndT d c rest)
def dOrT (d : Den) (c : DC) : List Expr → TM
  | [] => tBad
  | [a] => d.T c a
  | a :: rest => tOr (d.T c a) (dOrT d c rest)
def dDict (G : Glob) (c : DC) : Expr → Option KVs
  | .Name x _ => if goodName x && c.glob x then G.dicts.lookup x else none
  | _ => none
def isIn : CmpOp → Option Bool
  | .In => some false
  | .NotIn => some true
  | _ => none
def dCmp (d : Den) (G : Glob) (N : List Str) (c : DC) (a : Expr) (ops : List CmpOp) (bs : List Expr) : EM := match ops, bs with
  | [op], [b] => if behindInMarks op b then eBad else (match dDict G c b, isIn op with
    | some kvs, some neg => eInG kvs neg (dO d N c a)
    | _, _ => eOp (cmpG op) (dO d N c a) (dO d N c b))
  | [op, op'], [b, b'] => if lastMarks [op, op'] [b, b'] then eBad else eChain (cmpG op) (cmpG op') (dO d N c a) (dO d N c b) (dO d N c b')
  | _, _ => eBad
section
variable {G : Glob} {fe : Nat → FD} {k : Nat} {N : List Str} {c : DC} {X : Cx} {d : Den}
structure DenOk (G : Glob) (fe : Nat → FD) (k : Nat) (N : List Str) (d : Den) : Prop where
  E : ∀ (c : DC) (X : Cx), CtxOk G fe k N c X → ∀ e, SndE X e (d.E c e)
  T : ∀ (c : DC) (X : Cx), CtxOk G fe k N c X → ∀ e, SndT X e (d.T c e)
  B : ∀ (c : DC) (X : Cx), CtxOk G fe k N c X → ∀ sts, SndB X sts (d.B c sts)
theorem dO_ok (D : DenOk G fe k N d) (C : CtxOk G fe k N c X) (e : Expr) : SndO X e (dO d N c e) := by
  cases e <;> try exact (D.E c X C _).o
  rename_i x p
  unfold dO
  by_cases hl : c.loc x = true
  · simp only [if_pos hl]
    cases e : slot N x with
    | none => exact sndO_bad
    | some i =>
      by_cases hg : goodName x = true
      · simp only [if_pos hg]
        obtain ⟨g1, g2, _⟩ := good_ok hg
        exact sndO_var (by rw [C.hN]; exact slot_ok e) (C.vis hl) g1 g2
      · simp only [if_neg hg]
        exact sndO_bad
  · simp only [if_neg hl]
    exact (D.E c X C _).o
theorem dDict_ok (C : CtxOk G fe k N c X) {e : Expr} {kvs : KVs} (h : dDict G c e = some kvs) : ∃ x p a, e = .Name x p ∧ Gl X x ∧ X.mg x = some (.ref a) ∧ (x == ("__debug__" : Str)) = false ∧ KDOk X.K X.w a kvs := by
  unfold dDict at h
  split at h
  · rename_i x p
    split at h
    · rename_i hh
      rw [Bool.and_eq_true] at hh
      obtain ⟨a, hm, D⟩ := C.dicts _ (PySem.mem_of_lookup h)
      exact ⟨x, p, a, rfl, C.gl hh.2, hm, (good_ok hh.1).1, D⟩
    · cases h
  · cases h
theorem isIn_ok {op : CmpOp} {neg : Bool} (h : isIn op = some neg) : op = if neg then .NotIn else .In := by
  cases op <;> cases h <;> rfl
theorem dA_ok (D : DenOk G fe k N d) (C : CtxOk G fe k N c X) : ∀ es : List Expr, SndA X es (dA d c es)
  | [] => sndA_nil
  | e :: es => by
    unfold dA
    by_cases h : notStar e = true
    · simp only [if_pos h]
      exact sndA_cons (D.E c X C e) (dA_ok D C es) (starEach_cons h)
    · simp only [if_neg h]
      exact sndA_bad
theorem dAO_ok (D : DenOk G fe k N d) (C : CtxOk G fe k N c X) : ∀ es : List Expr, SndAO X es (dAO d N c es)
  | [] => sndAO_nil
  | e :: es => by
    unfold dAO
    by_cases h : notStar e = true
    · simp only [if_pos h]
      exact sndAO_cons (dO_ok D C e) (dAO_ok D C es) (starEach_cons h)
    · simp only [if_neg h]
      exact sndAO_bad
theorem dKw_ok (D : DenOk G fe k N d) (C : CtxOk G fe k N c X) : ∀ ks : List Keyword, SndK X ks (dKw d c ks)
  | [] => sndK_nil
  | ⟨nm, e, p⟩ :: ks => sndK_cons (D.E c X C e) (dKw_ok D C ks)
theorem cmpG_ok (C : CtxOk G fe k N c X) (op : CmpOp) : OpS X (compareOp op) (cmpG op) := by
  have hu := C.units
  cases op with
  | Eq => exact ops_eq (by omega)
  | NotEq => exact ops_ne (by omega)
  | Lt => exact ops_lt (by omega)
  | LtE => exact ops_leI
  | Gt => exact ops_gt
  | GtE => exact ops_ge
  | Is => exact ops_is
  | IsNot => exact ops_isnot
  | In => exact ops_in hu
  | NotIn => exact ops_notin hu
theorem dBin_ok (D : DenOk G fe k N d) (C : CtxOk G fe k N c X) (a : Expr) (op : Operator) (b : Expr) (pos : Pos) : SndE X (.BinOp a op b pos) (dBin d N c a op b) := by
  have ha := dO_ok D C a
  have hb := dO_ok D C b
  cases op with
  | Add => exact snd_op ops_add ha hb
  | Sub => exact snd_op ops_sub ha hb
  | Mult => exact snd_op ops_mul ha hb
  | FloorDiv => exact snd_op ops_fdiv ha hb
  | Mod => exact snd_op ops_mod ha hb
  | Pow => exact snd_op ops_pow ha hb
  | LShift => exact snd_op ops_shl ha hb
  | RShift => exact snd_op ops_shr ha hb
  | BitAnd => exact snd_op ops_and ha hb
  | BitOr => exact snd_op ops_or ha hb
  | BitXor => exact snd_op ops_xor ha hb
  | MatMult => exact snd_bad
  | Div => exact snd_bad
theorem dAnd_ok (D : DenOk G fe k N d) (C : CtxOk G fe k N c X) : ∀ (es : List Expr) (pos : Pos), SndE X (.BoolOp .And es pos) (dAnd d c es)
  | [], _ => snd_bad
  | [a], _ => snd_one (D.E c X C a)
  | a :: b :: rest, pos => snd_and (D.E c X C a) (dAnd_ok D C (b :: rest) pos)
theorem dOr_ok (D : DenOk G fe k N d) (C : CtxOk G fe k N c X) : ∀ (es : List Expr) (pos : Pos), SndE X (.BoolOp .Or es pos) (dOr d c es)
  | [], _ => snd_bad
  | [a], _ => snd_one (D.E c X C a)
  | a :: b :: rest, pos => snd_or (D.E c X C a) (dOr_ok D C (b :: rest) pos)
theorem dAndT_ok (D : DenOk G fe k N d) (C : CtxOk G fe k N c X) : ∀ (es : List Expr) (pos : Pos), SndW X (.BoolOp .And es pos) (dAndT d c es)
  | [], _ => sndW_bad
  | [a], _ => sndW_and1 (D.T c X C a)
  | a :: b :: rest, pos => sndW_and (D.T c X C a) (dAndT_ok D C (b :: rest) pos)
theorem dOrT_ok (D : DenOk G fe k N d) (C : CtxOk G fe k N c X) : ∀ (es : List Expr) (pos : Pos), SndW X (.BoolOp .Or es pos) (dOrT d c es)
  | [], _ => sndW_bad
  | [a], _ => sndW_or1 (D.T c X C a)
  | a :: b :: rest, pos => sndW_or (D.T c X C a) (dOrT_ok D C (b :: rest) pos)
theorem dCmp_ok (D : DenOk G fe k N d) (C : CtxOk G fe k N c X) (a : Expr) (ops : List CmpOp) (bs : List Expr) (pos : Pos) : SndE X (.Compare a ops bs pos) (dCmp d G N c a ops bs) := by
  unfold dCmp
  split
  · rename_i op b
    split
    · exact snd_bad
    · rename_i h
      split
      · rename_i kvs neg hk hi
        obtain ⟨x, p, a', rfl, hg, hm, hd, K⟩ := dDict_ok C hk
        exact snd_inG hg hm hd K (dO_ok D C a) (isIn_ok hi) (by simpa using h)
      · exact snd_cmp (cmpG_ok C op) (dO_ok D C a) (dO_ok D C b) (by simpa using h)
  · rename_i op op' b b'
    split
    · exact snd_bad
    · rename_i h
      exact snd_chain (cmpG_ok C op) (cmpG_ok C op') (dO_ok D C a) (dO_ok D C b) (dO_ok D C b') (by simpa using h)
  · exact snd_bad
theorem dCmpT_ok (D : DenOk G fe k N d) (C : CtxOk G fe k N c X) (a : Expr) (ops : List CmpOp) (bs : List Expr) (pos : Pos) : SndT X (.Compare a ops bs pos) (tB (dCmp d G N c a ops bs)) := by
  have bad : SndT X (.Compare a ops bs pos) (tB eBad) := ⟨fun _ _ _ _ _ _ ⟨_, _, _, _, _, _, _, e, _⟩ => by cases e⟩
  unfold dCmp
  split
  · rename_i op b
    split
    · exact bad
    · rename_i h
      split
      · rename_i kvs neg hk hi
        obtain ⟨x, p, a', rfl, hg, hm, hd, K⟩ := dDict_ok C hk
        exact sndT_inG hg hm hd K (dO_ok D C a) (isIn_ok hi) (by simpa using h)
      · exact sndT_cmp (cmpG_ok C op) (dO_ok D C a) (dO_ok D C b) (by simpa using h)
  · rename_i op op' b b'
    split
    · exact bad
    · rename_i h
      exact sndT_chain (cmpG_ok C op) (cmpG_ok C op') (dO_ok D C a) (dO_ok D C b) (dO_ok D C b') (by simpa using h)
  · exact bad
end
def stepT (d : Den) (G : Glob) (N : List Str) (c : DC) : Expr → TM
  | .Compare a ops bs _ => tB (dCmp d G N c a ops bs)
  | .UnaryOp .Not a _ => tNot (d.T c a)
  | .BoolOp .And es _ => dAndT d c es
  | .BoolOp .Or es _ => dOrT d c es
  | e => if plainT e then tB (d.E c e) else tBad
theorem stepT_ok {G : Glob} {fe : Nat → FD} {k : Nat} {N : List Str} {c : DC} {X : Cx} {d : Den} (D : DenOk G fe k N d) (C : CtxOk G fe k N c X) (e : Expr) : SndT X e (stepT d G N c e) := by
  unfold stepT
  split
  · exact dCmpT_ok D C _ _ _ _
  · exact sndT_not (D.T c X C _)
  · exact (dAndT_ok D C _ _).t
  · exact (dOrT_ok D C _ _).t
  · split
    · rename_i h
      exact sndT_val (D.E c X C _) (plain_ok h)
    · exact sndT_bad
end WC
set_option Elab.async false
set_option linter.all false
set_option maxRecDepth 100000
namespace WC
open PySem PySem.Spec PyProof.Rows L2

def gBad : GT := fun _ _ => none
theorem sndG_bad {X : Cx} {e : Expr} {vs : List Nat} : SndG X e vs gBad := ⟨fun _ _ _ _ _ _ _ _ _ ⟨_, _, _, _, _, _, _, e, _⟩ => by cases e⟩
def dG (N : List Str) (c : DC) (vs : List Nat) : Nat → Expr → GT
  | 0, _ => gBad
  | n + 1, e => match e with
    | .Name x _ => if c.tg x then (match slot N x with
      | some i => if i ∈ vs then tgName i else gBad
      | none => gBad) else gBad
    | .Tuple es _ _ => if es.all notStar then tgTup (es.map (dG N c vs n)) else gBad
    | _ => gBad
theorem dG_ok {G : Glob} {fe : Nat → FD} {k : Nat} {N : List Str} {c : DC} {X : Cx} (C : CtxOk G fe k N c X) (vs : List Nat) : ∀ (n : Nat) (e : Expr), SndG X e vs (dG N c vs n e)
  | 0, _ => sndG_bad
  | n + 1, e => by
    unfold dG
    split
    · rename_i x p
      split
      · rename_i ht
        split
        · rename_i i hs
          split
          · rename_i hi
            obtain ⟨t1, t2⟩ := C.tg x ht
            exact sndG_name (by rw [C.hN]; exact C.nd) (by rw [C.hN]; exact slot_ok hs) t1 t2 hi
          · exact sndG_bad
        · exact sndG_bad
      · exact sndG_bad
    · rename_i es _ _
      split
      · rename_i h
        refine sndG_tup C.calm (go (C := C) es h) (by rw [each_len, List.length_map]) (each_find h)
      · exact sndG_bad
    · exact sndG_bad
where go {G : Glob} {fe : Nat → FD} {k : Nat} {N : List Str} {c : DC} {X : Cx} {C : CtxOk G fe k N c X} {vs : List Nat} {n : Nat} : ∀ es : List Expr, es.all notStar = true → SndGs X es vs (es.map (dG N c vs n))
  | [], _ => sndGs_nil
  | e :: es, h => by
    rw [List.all_cons, Bool.and_eq_true] at h
    exact sndGs_cons (dG_ok C vs n e) (go (C := C) es h.2) (by rw [each_cons h.1]; rfl)

def iBad : IM := fun _ _ => .bad
theorem sndI_bad {X : Cx} {tg e : Expr} : SndI X tg e [] iBad := ⟨fun _ _ _ _ _ _ ⟨_, _, _, _, _, _, _, e, _⟩ => by cases e⟩
def dI0 (d : Den) (G : Glob) (c : DC) (tg iter : Expr) : IM := match iter with
  | .Call (.Name x p) args [] pos => if goodName x && c.glob x && decide (x ∈ G.free) && args.all notStar then
      (if x = ("range" : Str) then (match args with
        | [a] => iRange1 (dA d c [a])
        | [a, b] => iRange2 (dA d c [a, b])
        | _ => iBad)
      else if x = ("zip" : Str) then (match args, tg with
        | [a, b], .Tuple _ _ _ => iZipD (dA d c [a, b])
        | _, _ => iBad)
      else if x = ("enumerate" : Str) then (match args, tg with
        | [a], .Tuple _ _ _ => iEnumL (dA d c [a])
        | _, _ => iBad)
      else iVal (d.E c (.Call (.Name x p) args [] pos)))
    else iVal (d.E c (.Call (.Name x p) args [] pos))
  | e => iVal (d.E c e)
theorem dI0_ok {G : Glob} {fe : Nat → FD} {k : Nat} {N : List Str} {c : DC} {X : Cx} {d : Den} (D : DenOk G fe k N d) (C : CtxOk G fe k N c X) (tg iter : Expr) : SndI X tg iter [] (dI0 d G c tg iter) := by
  unfold dI0
  split
  · rename_i x p args pos
    split
    · rename_i h
      simp only [Bool.and_eq_true, decide_eq_true_eq] at h
      obtain ⟨⟨⟨h1, h2⟩, h3⟩, h4⟩ := h
      split
      · rename_i hx
        split
        · rename_i a
          exact sndI_range1 hx (C.gl h2) (C.free x h3) (dA_ok D C _) (by rw [starEach_cons (by simpa using h4)]; rfl)
        · rename_i a b
          have h4 : notStar a = true ∧ notStar b = true := by simpa using h4
          exact sndI_range2 hx (C.gl h2) (C.free x h3) (dA_ok D C _) (by rw [starEach_cons h4.1, starEach_cons h4.2]; rfl) (by rw [starEach_cons h4.2]; rfl)
        · exact sndI_bad
      · split
        · rename_i hx
          split
          · rename_i a b es kk tp
            have h4 : notStar a = true ∧ notStar b = true := by simpa using h4
            exact sndI_zip hx (C.gl h2) (C.free x h3) (dA_ok D C _) (starEach_cons h4.1) (back_plain (by simp [h4.2]))
          · exact sndI_bad
        · split
          · rename_i hx
            split
            · rename_i a es kk tp
              exact sndI_enumL hx (C.gl h2) (C.free x h3) (dA_ok D C _) (by rw [starEach_cons (by simpa using h4)]; rfl)
            · exact sndI_bad
          · exact sndI_val (D.E c X C _)
    · exact sndI_val (D.E c X C _)
  · exact sndI_val (D.E c X C _)
def dI (d : Den) (G : Glob) (N : List Str) (c : DC) (tg iter : Expr) : IM := match iter with
  | .Name x p => if c.loc x then (match slot N x with
    | some i => if goodName x then iVal (oVar i) else iBad
    | none => iBad) else dI0 d G c tg (.Name x p)
  | e => dI0 d G c tg e
theorem dI_ok {G : Glob} {fe : Nat → FD} {k : Nat} {N : List Str} {c : DC} {X : Cx} {d : Den} (D : DenOk G fe k N d) (C : CtxOk G fe k N c X) (tg iter : Expr) : ∃ bs, SndI X tg iter bs (dI d G N c tg iter) := by
  unfold dI
  split
  · rename_i x p
    split
    · rename_i hl
      split
      · rename_i i hs
        split
        · rename_i hg
          obtain ⟨g1, g2, _⟩ := good_ok hg
          exact ⟨[i], sndI_var (by rw [C.hN]; exact slot_ok hs) (C.vis hl) g1 g2⟩
        · exact ⟨[], sndI_bad⟩
      · exact ⟨[], sndI_bad⟩
    · exact ⟨[], dI0_ok D C _ _⟩
  · exact ⟨[], dI0_ok D C _ _⟩

def lBad : LM := fun _ _ => .bad
theorem sndL_bad {X : Cx} {e : Expr} : SndL X e lBad := ⟨fun _ _ _ _ _ _ ⟨_, _, _, _, _, _, _, e, _⟩ => by cases e⟩
def ownOf (N : List Str) (scope : Scope) : List (Str × Nat) := scope.names.filterMap fun y => match y.2 with
  | .local => (slot N y.1).map fun i => (y.1, i)
  | .cell => (slot N y.1).map fun i => (y.1, i)
  | _ => none
def blkDC (c : DC) (scope : Scope) : DC := ⟨relS scope c.sc, fun x => match scope.names.lookup x with
  | some .local => true
  | some .cell => true
  | _ => false⟩
theorem blk_ok {G : Glob} {fe : Nat → FD} {k : Nat} {N : List Str} {c : DC} {X : Cx} {scope : Scope} (C : CtxOk G fe k N c X) (hk : scope.kind = .function) (s : Shared) (H : Hp) (A0 : Addr) (cl : List (Str × Addr)) (fp : List Addr) :
    CtxOk G fe k N (blkDC c scope) (X.blk s H scope (compEnvC scope cl A0 X.env) fp) := by
  have esc : (X.blk s H scope (compEnvC scope cl A0 X.env) fp).env.scope = relS scope c.sc := by
    show relS scope X.env.scope = _
    rw [C.sc]
  refine ⟨C.hN, C.nd, esc, hk, fun x hx => ?_, C.calm, rfl, C.room, C.free, C.consts, C.dicts, C.funs⟩
  unfold blkDC at hx
  rw [esc]
  show ((relS scope c.sc).names.lookup x = some .local ∨ (relS scope c.sc).names.lookup x = some .cell) ∧ ((scope.names.lookup x == some .cell) = true ∨ (relS scope c.sc).names.lookup x = some .local)
  simp only at hx
  split at hx
  · rename_i h
    have := lookup_relS_keep (sc := c.sc) (by decide) h
    exact ⟨.inl this, .inr this⟩
  · rename_i h
    have := lookup_relS_keep (sc := c.sc) (by decide) h
    exact ⟨.inr this, .inl (by rw [h]; rfl)⟩
  · cases hx
def dIfs (d : Den) (c : DC) : List Expr → TM
  | [] => tYesM
  | [e] => d.T c e
  | _ => tBad
theorem sndTs_bad {X : Cx} {es : List Expr} : SndTs X es tBad := ⟨fun _ _ _ _ _ _ ⟨_, _, _, _, _, _, _, e, _⟩ => by cases e⟩
theorem dIfs_ok {G : Glob} {fe : Nat → FD} {k : Nat} {N : List Str} {c : DC} {X : Cx} {d : Den} (D : DenOk G fe k N d) (C : CtxOk G fe k N c X) (es : List Expr) : SndTs X es (dIfs d c es) := by
  unfold dIfs
  split
  · exact sndTs_nil
  · exact sndTs_one (D.T c X C _)
  · exact sndTs_bad
def lcOk (N : List Str) (c : DC) (scope : Scope) (iter : Expr) : Bool := blkC N c.sc scope (ownOf N scope) && notSet iter
def dLc (d : Den) (G : Glob) (N : List Str) (c : DC) (elt tg iter : Expr) (ifs : List Expr) (scope : Scope) : LM :=
  lcL (dI d G N c tg iter) (dG N (blkDC c scope) ((ownOf N scope).map (·.2)) 4 tg) (dIfs d (blkDC c scope) ifs) (d.E (blkDC c scope) elt) ((ownOf N scope).map (·.2))
theorem lcOk_ok {G : Glob} {fe : Nat → FD} {k : Nat} {N : List Str} {c : DC} {X : Cx} {scope : Scope} {iter : Expr} (C : CtxOk G fe k N c X) (h : lcOk N c scope iter = true) : BlkOk X.N X.env.scope scope (ownOf N scope) ∧ notSet iter = true ∧ scope.kind = .function := by
  unfold lcOk at h
  rw [Bool.and_eq_true] at h
  have b := blkOk_by h.1
  exact ⟨by rw [C.hN, C.sc]; exact b, h.2, b.kind⟩
theorem dLc_ok {G : Glob} {fe : Nat → FD} {k : Nat} {N : List Str} {c : DC} {X : Cx} {d : Den} (D : DenOk G fe k N d) (C : CtxOk G fe k N c X) {elt tg iter : Expr} {ifs : List Expr} {scope : Scope} {pos : Pos} (h : lcOk N c scope iter = true) :
    SndL X (.ListComp elt [⟨tg, iter, ifs, 0⟩] scope pos) (dLc d G N c elt tg iter ifs scope) := by
  obtain ⟨b, ns, hk⟩ := lcOk_ok C h
  obtain ⟨bs, hi⟩ := dI_ok (N := N) D C tg iter
  exact snd_lc C.calm (by rw [C.hN]; exact C.nd) hi b (fun s H A0 cl fp => dG_ok (blk_ok C hk s H A0 cl fp) _ _ _) (fun s H A0 cl fp => dIfs_ok D (blk_ok C hk s H A0 cl fp) _) (fun s H A0 cl fp => D.E _ _ (blk_ok C hk s H A0 cl fp) _) (notSet_ok ns)

def tyOf (x : Str) : Option Ty := if x = ("int" : Str) then some .int else if x = ("bool" : Str) then some .bool else if x = ("str" : Str) then some .str else if x = ("tuple" : Str) then some .tuple else if x = ("list" : Str) then some .list else none
theorem tyOf_ok {x : Str} {T : Ty} (h : tyOf x = some T) : bootBuiltins x = some (.type T.name) := by
  unfold tyOf at h
  split at h
  · rename_i e; cases h; subst e; decide +kernel
  · split at h
    · rename_i e; cases h; subst e; decide +kernel
    · split at h
      · rename_i e; cases h; subst e; decide +kernel
      · split at h
        · rename_i e; cases h; subst e; decide +kernel
        · split at h
          · rename_i e; cases h; subst e; decide +kernel
          · cases h
def gIntA : GL := fun s a => ((gInt s a).or (gIntS s a)).or (gInt2 s a)
def gMin : GL := gMin2
def dBi (x : Str) : Option GL :=
  if x = ("len" : Str) then some gLen else if x = ("int" : Str) then some gIntA else if x = ("str" : Str) then some gStrI else if x = ("min" : Str) then some gMin2
  else if x = ("max" : Str) then some gMax2 else if x = ("sum" : Str) then some gSum else if x = ("all" : Str) then some gAll else if x = ("any" : Str) then some gAny else if x = ("tuple" : Str) then some gTuple else none
theorem dBi_ok {X : Cx} {x : Str} {g : GL} {e : Expr} {es : List Expr} {p pos : Pos} {ms : AM} (hc : X.calm = true) (h : dBi x = some g) (hg : Gl X x) (hm : X.mg x = none) (ha : SndAO X (e :: es) ms) (hn : x ≠ "__name__") (hdb : (x == ("__debug__" : Str)) = false)
    (he : starEach (e :: es) X.env = (false, eval e X.env) :: starEach es X.env) (hpl : (backTo pos (starEach es X.env)).any (·.1) = false) : SndE X (.Call (.Name x p) (e :: es) [] pos) (eCall g ms) := by
  unfold dBi at h
  split at h
  · rename_i e; cases h; subst e
    exact snd_callB calls_len hg hm (by decide +kernel) ha hn hdb he hpl
  · split at h
    · rename_i e; cases h; subst e
      exact snd_callTy ((calls_intI.or calls_intS).or calls_int2) hg hm (by decide +kernel) ha hn hdb he hpl
    · split at h
      · rename_i e; cases h; subst e
        exact snd_callTy calls_strI hg hm (by decide +kernel) ha hn hdb he hpl
      · split at h
        · rename_i e; cases h; subst e
          exact snd_callB (calls_min2 hc) hg hm (by decide +kernel) ha hn hdb he hpl
        · split at h
          · rename_i e; cases h; subst e
            exact snd_callB (calls_max2 hc) hg hm (by decide +kernel) ha hn hdb he hpl
          · split at h
            · rename_i e; cases h; subst e
              exact snd_callB (calls_sum hc) hg hm (by decide +kernel) ha hn hdb he hpl
            · split at h
              · rename_i e; cases h; subst e
                exact snd_callB (calls_all hc) hg hm (by decide +kernel) ha hn hdb he hpl
              · split at h
                · rename_i e; cases h; subst e
                  exact snd_callB (calls_any hc) hg hm (by decide +kernel) ha hn hdb he hpl
                · split at h
                  · rename_i e; cases h; subst e
                    exact snd_callTy calls_tuple hg hm (by decide +kernel) ha hn hdb he hpl
                  · cases h
def dIsi (d : Den) (G : Glob) (N : List Str) (c : DC) (e t : Expr) : EM := match t with
  | .Name y _ => (match tyOf y with
    | some T => if goodName y && c.glob y && decide (y ∈ G.free) && notStar e then eIsI [T] (dO d N c e) else eBad
    | none => eBad)
  | .Tuple [.Name y _, .Name z _] _ _ => (match tyOf y, tyOf z with
    | some T, some T' => if goodName y && c.glob y && decide (y ∈ G.free) && goodName z && c.glob z && decide (z ∈ G.free) && notStar e then eIsI [T, T'] (dO d N c e) else eBad
    | _, _ => eBad)
  | _ => eBad
theorem dIsi_ok {G : Glob} {fe : Nat → FD} {k : Nat} {N : List Str} {c : DC} {X : Cx} {d : Den} (D : DenOk G fe k N d) (C : CtxOk G fe k N c X) {x : Str} (hx : x = ("isinstance" : Str)) (hg : Gl X x) (hm : X.mg x = none) (e t : Expr) (p pos : Pos) : SndE X (.Call (.Name x p) [e, t] [] pos) (dIsi d G N c e t) := by
  unfold dIsi
  split
  · rename_i y p2
    split
    · rename_i T hT
      split
      · rename_i h
        simp only [Bool.and_eq_true, decide_eq_true_eq] at h
        obtain ⟨⟨⟨h1, h2⟩, h3⟩, h4⟩ := h
        obtain ⟨g1, g2, g3⟩ := good_ok h1
        exact snd_isi1 (dO_ok D C e) hg hm hx (C.gl h2) (C.free y h3) (tyOf_ok hT) g3 g1 (by rw [starEach_cons h4]; rfl)
      · exact snd_bad
    · exact snd_bad
  · rename_i y p2 z p3 kk pt
    split
    · rename_i T T' hT hT'
      split
      · rename_i h
        simp only [Bool.and_eq_true, decide_eq_true_eq] at h
        obtain ⟨⟨⟨⟨⟨⟨h1, h2⟩, h3⟩, h5⟩, h6⟩, h7⟩, h4⟩ := h
        obtain ⟨g1, g2, g3⟩ := good_ok h1
        obtain ⟨g4, g5, g6⟩ := good_ok h5
        exact snd_isi2 (dO_ok D C e) hg hm hx (C.gl h2) (C.free y h3) (tyOf_ok hT) g3 g1 (C.gl h6) (C.free z h7) (tyOf_ok hT') g6 g4 (by rw [starEach_cons h4]; rfl)
      · exact snd_bad
    · exact snd_bad
  · exact snd_bad
def dKwCall (d : Den) (G : Glob) (fe : Nat → FD) (c : DC) (x : Str) (args : List Expr) (kws : List Keyword) : EM := match G.funs.lookup x with
  | some (fid, n) => (match G.kfuns.find? (fun r => r.1 == x && r.2.1 == args.length && r.2.2.1 == kws.filterMap (·.arg)) with
    | some (_, m, ks, is) => if args.all notStar && kws.all (fun k => k.arg.isSome) then eFnK n m ks.length is (fe fid) (dA d c args) (dKw d c kws) else eBad
    | none => eBad)
  | none => eBad
theorem dKwCall_ok {G : Glob} {fe : Nat → FD} {k : Nat} {N : List Str} {c : DC} {X : Cx} {d : Den} (D : DenOk G fe k N d) (C : CtxOk G fe k N c X) {x : Str} (hg : Gl X x) (hdb : (x == ("__debug__" : Str)) = false) (args : List Expr) (kws : List Keyword) (p pos : Pos) : SndE X (.Call (.Name x p) args kws pos) (dKwCall d G fe c x args kws) := by
  unfold dKwCall
  split
  · rename_i fid n hl
    split
    · rename_i m ks is hf
      split
      · rename_i h
        rw [Bool.and_eq_true] at h
        obtain ⟨f, fd, ps, hm, hk, hb, F, kb⟩ := C.funs _ (PySem.mem_of_lookup hl)
        have hp := List.find?_some hf
        have hmem := List.mem_of_find?_eq_some hf
        simp only [Bool.and_eq_true, beq_iff_eq] at hp
        obtain ⟨⟨e1, e2⟩, e3⟩ := hp
        have KB := kb _ hmem e1
        have hks : (backToKw pos (keywordEach kws X.env)).filterMap (·.1) = ks := by rw [kw_names]; exact e3.symm
        cases args with
        | nil => exact snd_fnk0 F C.room hg hm hk KB (dKw_ok D C kws) (kw_all h.2) hks hdb (by rw [kw_none h.2]; rfl)
        | cons e es =>
          have h1 := h.1
          rw [List.all_cons, Bool.and_eq_true] at h1
          exact snd_fnk F C.room hg hm hk KB (dA_ok D C _) (dKw_ok D C kws) (kw_all h.2) hks hdb (starEach_cons h1.1) (by rw [kw_none h.2, back_plain h.1]; rfl)
      · exact snd_bad
    · exact snd_bad
  · exact snd_bad
def dCall (d : Den) (G : Glob) (fe : Nat → FD) (N : List Str) (c : DC) (x : Str) (args : List Expr) (kws : List Keyword) : EM :=
  if goodName x && c.glob x && args.all notStar then
    match kws with
    | [] => if x ∈ G.free then
        (match dBi x, args with
        | some g, _ :: _ => eCall g (dAO d N c args)
        | _, _ => if x = ("isinstance" : Str) then (match args with
            | [e, t] => dIsi d G N c e t
            | _ => eBad)
          else if x = ("list" : Str) then (match args with
            | _ :: _ => eFrz (lListOf (dAO d N c args))
            | [] => eBad)
          else eBad)
      else (match G.funs.lookup x with
        | some (fid, n) => eFn n (fe fid) (dA d c args)
        | none => eBad)
    | kws => dKwCall d G fe c x args kws
  else eBad
theorem dCall_ok {G : Glob} {fe : Nat → FD} {k : Nat} {N : List Str} {c : DC} {X : Cx} {d : Den} (D : DenOk G fe k N d) (C : CtxOk G fe k N c X) (x : Str) (args : List Expr) (kws : List Keyword) (p pos : Pos) : SndE X (.Call (.Name x p) args kws pos) (dCall d G fe N c x args kws) := by
  unfold dCall
  split
  · rename_i h
    simp only [Bool.and_eq_true] at h
    obtain ⟨⟨h1, h2⟩, h3⟩ := h
    obtain ⟨g1, g2, g3⟩ := good_ok h1
    have hg := C.gl h2
    split
    · split
      · rename_i hf
        have hm := C.free x hf
        split
        · rename_i g e es hb
          have h4 := h3
          rw [List.all_cons, Bool.and_eq_true] at h4
          exact dBi_ok C.calm hb hg hm (dAO_ok D C _) g3 g1 (starEach_cons h4.1) (back_plain h4.2)
        · split
          · rename_i hx
            split
            · exact dIsi_ok D C hx hg hm _ _ _ _
            · exact snd_bad
          · split
            · rename_i hx
              split
              · rename_i e es
                rw [List.all_cons, Bool.and_eq_true] at h3
                exact (sndL_listOf hx hg hm (dAO_ok D C _) (starEach_cons h3.1) (back_plain h3.2)).toE
              · exact snd_bad
            · exact snd_bad
      · split
        · rename_i fid n hl
          obtain ⟨f, fd, ps, hm, hk, hb, F, _⟩ := C.funs _ (PySem.mem_of_lookup hl)
          cases args with
          | nil => exact snd_fn0 F C.room hg hm hk hb g1
          | cons e es =>
            rw [List.all_cons, Bool.and_eq_true] at h3
            exact snd_fn F C.room hg hm hk hb (dA_ok D C _) g1 (starEach_cons h3.1) (back_plain h3.2)
        · exact snd_bad
    · exact dKwCall_ok D C hg g1 _ _ _ _
  · exact snd_bad
structure MtOk (X : Cx) (T : MT) (name : Str) (g : GM) : Prop where
  ex : ∃ id, PlainAttrs T.name ∧ Slot T.name name id ∧ typeOf (.builtin id) = pure (.type "method_descriptor") ∧ MtS X id g
def dMt (name : Str) : Option (MT × GM) := if name = ("join" : Str) then some (.str, gJoin) else none
theorem dMt_ok {X : Cx} {name : Str} {T : MT} {g : GM} (h : dMt name = some (T, g)) : MtOk X T name g := by
  unfold dMt at h
  split at h
  · rename_i e; cases h; subst e
    exact ⟨_, PySem.F.plainAttrs_str, PySem.F.slot_str_join, PySem.F.type_str_join, mts_join⟩
  · cases h
def dMeth (d : Den) (N : List Str) (c : DC) (o : Expr) (name : Str) (args : List Expr) (ok : Bool) : EM := match dMt name with
  | some (T, g) => if okBase o && ok && args.all notStar && decide (args.length < 30) then (match args with
    | [] => eMeth0 T g (dO d N c o)
    | _ => eMeth T g (dO d N c o) (dAO d N c args)) else eBad
  | none => eBad
theorem dMeth_ok {G : Glob} {fe : Nat → FD} {k : Nat} {N : List Str} {c : DC} {X : Cx} {d : Den} (D : DenOk G fe k N d) (C : CtxOk G fe k N c X) (o : Expr) (name : Str) (args : List Expr) (apos cpos : Pos) : SndE X (.Call (.Attribute o name apos) args [] cpos) (dMeth d N c o name args (apos.endLine == cpos.line)) := by
  unfold dMeth
  split
  · rename_i T g hm
    obtain ⟨id, pa, sl, ty, ms⟩ := (dMt_ok (X := X) hm).ex
    split
    · rename_i h
      simp only [Bool.and_eq_true, decide_eq_true_eq] at h
      obtain ⟨⟨⟨h1, h2⟩, h3⟩, h4⟩ := h
      cases args with
      | nil => exact snd_meth0 pa sl ty ms (dO_ok D C o) (base_ok h1) h2
      | cons e es =>
        have h5 := h3
        rw [List.all_cons, Bool.and_eq_true] at h5
        exact snd_meth pa sl ty ms (dO_ok D C o) (dAO_ok D C _) (base_ok h1) (few_ok h3 h4) h2 (starEach_cons h5.1) (back_plain h5.2)
    · exact snd_bad
  · exact snd_bad
def dPart (d : Den) (c : DC) : Expr → EM
  | .FormattedValue e (-1) none _ => eFmt (d.E c e)
  | e => d.E c e
theorem dPart_ok {G : Glob} {fe : Nat → FD} {k : Nat} {N : List Str} {c : DC} {X : Cx} {d : Den} (D : DenOk G fe k N d) (C : CtxOk G fe k N c X) (e : Expr) : SndE X e (dPart d c e) := by
  unfold dPart
  split
  · exact snd_fmt (D.E c X C _)
  · exact D.E c X C _
theorem dParts_ok {G : Glob} {fe : Nat → FD} {k : Nat} {N : List Str} {c : DC} {X : Cx} {d : Den} (D : DenOk G fe k N d) (C : CtxOk G fe k N c X) : ∀ es : List Expr, SndJ X es (es.map (dPart d c))
  | [] => .nil
  | e :: es => .cons (dPart_ok D C e) (dParts_ok D C es)
def strOf (s : Str) : EM := if s.cps.toList.all (· < 0x110000) then eC (.str s.cps.toList) else eBad
def stepE (d : Den) (G : Glob) (fe : Nat → FD) (N : List Str) (c : DC) : Expr → EM
  | .Constant (.int i) _ _ => eC (.int i)
  | .Constant (.bool b) _ _ => eC (.bl b)
  | .Constant .none _ _ => eC .non
  | .Constant (.str s) _ _ => strOf s
  | .Name x _ => if goodName x then (if c.loc x then (match slot N x with
      | some i => eVar i
      | none => eBad) else if c.glob x then (match G.consts.lookup x with
      | some v => eC v
      | none => eBad) else eBad) else eBad
  | .Tuple es _ _ => eTup (dA d c es)
  | .List es _ => eFrz (lLst (dA d c es))
  | .BinOp a op b _ => dBin d N c a op b
  | .UnaryOp .Not a _ => eNot (d.E c a)
  | .UnaryOp .USub a _ => eNeg (d.E c a)
  | .BoolOp .And es _ => dAnd d c es
  | .BoolOp .Or es _ => dOr d c es
  | .IfExp t a b _ => eIf (d.T c t) (d.E c a) (d.E c b)
  | .Compare a ops bs _ => dCmp d G N c a ops bs
  | .Call (.Name x _) args kws _ => dCall d G fe N c x args kws
  | .Call (.Attribute o name apos) args [] cpos => dMeth d N c o name args (apos.endLine == cpos.line)
  | .Subscript a (.Slice lo hi none _) _ => eSlice (dO d N c a) (match lo with | some e => oSome (d.E c e) | none => oNone) (match hi with | some e => oSome (d.E c e) | none => oNone)
  | .Subscript a b _ => if notSlice b then (match dDict G c a with
      | some kvs => eGetG kvs (dO d N c b)
      | none => eOp atD (dO d N c a) (dO d N c b)) else eBad
  | .ListComp elt [⟨tg, iter, ifs, 0⟩] scope _ => if lcOk N c scope iter then eFrz (dLc d G N c elt tg iter ifs scope) else eBad
  | .JoinedStr [e] _ => dPart d c e
  | .JoinedStr (v1 :: v2 :: rest) _ => eJoined ((v1 :: v2 :: rest).map (dPart d c))
  | _ => eBad
theorem stepE_ok {G : Glob} {fe : Nat → FD} {k : Nat} {N : List Str} {c : DC} {X : Cx} {d : Den} (D : DenOk G fe k N d) (C : CtxOk G fe k N c X) (e : Expr) : SndE X e (stepE d G fe N c e) := by
  unfold stepE
  split
  · exact snd_int
  · exact snd_bl
  · exact snd_non
  · unfold strOf
    split
    · rename_i h
      exact snd_str rfl (fun c hc => of_decide_eq_true (List.all_eq_true.mp h c hc))
    · exact snd_bad
  · rename_i x p
    split
    · rename_i hg
      obtain ⟨g1, g2, g3⟩ := good_ok hg
      split
      · rename_i hl
        split
        · rename_i i hs
          exact snd_var (by rw [C.hN]; exact slot_ok hs) (C.vis hl) g1 g2
        · exact snd_bad
      · split
        · rename_i hgl
          split
          · rename_i v hv
            obtain ⟨w, u, hm, r, rr⟩ := C.consts _ (PySem.mem_of_lookup hv)
            exact snd_glob (C.gl hgl) hm r g1 rr
          · exact snd_bad
        · exact snd_bad
    · exact snd_bad
  · exact snd_tup (dA_ok D C _)
  · exact (sndL_lst (dA_ok D C _)).toE
  · exact dBin_ok D C _ _ _ _
  · exact snd_not (D.E c X C _)
  · exact snd_neg (D.E c X C _)
  · exact dAnd_ok D C _ _
  · exact dOr_ok D C _ _
  · exact snd_if (D.T c X C _) (D.E c X C _) (D.E c X C _)
  · exact dCmp_ok D C _ _ _ _
  · exact dCall_ok D C _ _ _ _ _
  · exact dMeth_ok D C _ _ _ _ _
  · rename_i a lo hi p2 p
    refine snd_slice (dO_ok D C a) ?_ ?_
    · cases lo with
      | none => exact sndP_none
      | some e => exact sndP_some (D.E c X C e)
    · cases hi with
      | none => exact sndP_none
      | some e => exact sndP_some (D.E c X C e)
  · split
    · rename_i h
      split
      · rename_i kvs hk
        obtain ⟨x, p, a', rfl, hg, hm, hd, K⟩ := dDict_ok C hk
        exact snd_getG hg hm hd K (dO_ok D C _) (plainIx_ok h)
      · exact snd_ix ixs_seq (dO_ok D C _) (dO_ok D C _) (plainIx_ok h)
    · exact snd_bad
  · split
    · rename_i h
      exact (dLc_ok D C h).toE
    · exact snd_bad
  · exact snd_joined1 (dPart_ok D C _)
  · exact snd_joined (dParts_ok D C _)
  · exact snd_bad
end WC
set_option Elab.async false
set_option linter.all false
set_option maxRecDepth 100000
namespace WC
open PySem PySem.Spec PyProof.Rows L2

abbrev Md := Str → Nat
def dL (d : Den) (G : Glob) (N : List Str) (c : DC) : Expr → Option LM
  | .List es _ => some (lLst (dA d c es))
  | .BinOp (.List es p) .Mult b _ => some (lRep (dO d N c (.List es p)) (dO d N c b))
  | .Call (.Name x _) args [] _ => if x = ("list" : Str) then (if goodName x && c.glob x && decide (x ∈ G.free) && args.all notStar then (match args with
      | _ :: _ => some (lListOf (dAO d N c args))
      | [] => none) else none) else none
  | .ListComp elt [⟨tg, iter, ifs, 0⟩] scope _ => if lcOk N c scope iter then some (dLc d G N c elt tg iter ifs scope) else none
  | _ => none
theorem dL_ok {G : Glob} {fe : Nat → FD} {k : Nat} {N : List Str} {c : DC} {X : Cx} {d : Den} (D : DenOk G fe k N d) (C : CtxOk G fe k N c X) {e : Expr} {m : LM} (h : dL d G N c e = some m) : SndL X e m := by
  unfold dL at h
  split at h
  · cases h; exact sndL_lst (dA_ok D C _)
  · cases h; exact sndL_rep (dO_ok D C _) (dO_ok D C _)
  · split at h
    · rename_i hx
      split at h
      · rename_i hh
        simp only [Bool.and_eq_true, decide_eq_true_eq] at hh
        obtain ⟨⟨⟨h1, h2⟩, h3⟩, h4⟩ := hh
        split at h
        · cases h
          rw [List.all_cons, Bool.and_eq_true] at h4
          exact sndL_listOf hx (C.gl h2) (C.free _ h3) (dAO_ok D C _) (starEach_cons h4.1) (back_plain h4.2)
        · cases h
      · cases h
    · cases h
  · split at h
    · rename_i hl
      cases h
      exact dLc_ok D C hl
    · cases h
  · cases h
def xMode (md : Nat) (m : LM) : XM := match md with
  | 1 => xOwn m
  | 2 => xHeap m
  | _ => xVal (eFrz m)
theorem xMode_plain {md : Nat} {m : LM} : XPlain (xMode md m) := by
  unfold xMode
  split
  · exact xOwn_plain
  · exact xHeap_plain
  · exact xVal_plain
theorem xMode_conv {K : PySem.W.Frag} {md : Nat} {m : LM} : ∀ σV H Q, RdX K (xMode md m) σV H Q → RdL K m σV H Q := by
  unfold xMode
  split
  · exact fun _ _ _ q => conv_own q
  · exact fun _ _ _ q => conv_heap q
  · exact fun _ _ _ q => conv_val q
def dX (d : Den) (G : Glob) (N : List Str) (md : Nat) (c : DC) (e : Expr) : XM := match dL d G N c e with
  | some m => xMode md m
  | none => xVal (d.E c e)
theorem dX_ok {G : Glob} {fe : Nat → FD} {k : Nat} {N : List Str} {c : DC} {X : Cx} {d : Den} (D : DenOk G fe k N d) (C : CtxOk G fe k N c X) (md : Nat) (e : Expr) : SndX X e (dX d G N md c e) := by
  unfold dX
  split
  · rename_i m hm
    exact weakE (dL_ok D C hm) fun σV H Q q => xMode_conv σV H Q q
  · exact sndX_val (D.E c X C e)
theorem dX_plain {G : Glob} {N : List Str} {c : DC} {d : Den} {md : Nat} {e : Expr} : XPlain (dX d G N md c e) := by
  unfold dX
  split
  · exact xMode_plain
  · exact xVal_plain
def swC (c : DC) (x : Str) (scope : Scope) (p q : Pos) : Bool := (match c.sc.names.lookup x with | some .local => true | _ => false) && p.line == q.line && !(scope.names.any fun (n, k) => n == x && (k == .local || k == .cell))
theorem swC_ok {X : Cx} {c : DC} {x : Str} {elt : Expr} {gs : List Comprehension} {scope : Scope} {pos p : Pos} {l : Nat} (hs : X.env.scope = c.sc) (hk : c.sc.kind = .function) : swapsWith (.ListComp elt gs scope pos) (some (.Name x p)) l X.env = pure (swC c x scope p pos) := by
  have hb : X.env.blockKind = .function := by unfold Env.blockKind; rw [hs, hk]; rfl
  have hn : X.env.kindOf x = c.sc.names.lookup x := by show X.env.scope.names.lookup x = _; rw [hs]
  unfold swapsWith swC
  simp only [hb, hn, Expr.pos]
  cases e : c.sc.names.lookup x with
  | none => rfl
  | some kk => cases kk <;> rfl
def dSet (d : Den) (G : Glob) (N : List Str) (md : Md) (c : DC) (x : Str) (p : Pos) (e : Expr) : SM := if c.tg x then (match slot N x with
  | some i => (match e with
    | .ListComp elt [⟨tg, iter, ifs, 0⟩] scope pos => if lcOk N c scope iter then (if swC c x scope p pos then sSet i (xMode (md x) (dLc d G N c elt tg iter ifs scope)) else sSet i (dX d G N (md x) c e)) else sBad
    | e => if notComp e then sSet i (dX d G N (md x) c e) else sBad)
  | none => sBad) else sBad
theorem dSet_ok {G : Glob} {fe : Nat → FD} {k : Nat} {N : List Str} {c : DC} {X : Cx} {d : Den} (D : DenOk G fe k N d) (C : CtxOk G fe k N c X) (md : Md) (x : Str) (p pos : Pos) (e : Expr) : SndS X (.Assign [.Name x p] e pos) (dSet d G N md c x p e) := by
  unfold dSet
  split
  · rename_i ht
    obtain ⟨t1, t2⟩ := C.tg x ht
    split
    · rename_i i hs
      have hN : X.N.Nodup := by rw [C.hN]; exact C.nd
      have hi : X.N[i]? = some x := by rw [C.hN]; exact slot_ok hs
      split
      · rename_i elt tg iter ifs scope lpos
        split
        · rename_i hl
          split
          · rename_i hw
            obtain ⟨b, ns, hk⟩ := lcOk_ok C hl
            obtain ⟨bs, hI⟩ := dI_ok (N := N) D C tg iter
            have hloc : X.env.scope.names.lookup x = some .local := by
              rw [C.sc]
              unfold swC at hw
              simp only [Bool.and_eq_true] at hw
              have := hw.1.1
              split at this
              · assumption
              · cases this
            exact sndS_setLc C.calm hN hi hloc ((swC_ok C.sc C.kind).trans (by rw [hw])) hI b (fun s H A0 cl fp => dG_ok (blk_ok C hk s H A0 cl fp) _ _ _) (fun s H A0 cl fp => dIfs_ok D (blk_ok C hk s H A0 cl fp) _) (fun s H A0 cl fp => D.E _ _ (blk_ok C hk s H A0 cl fp) _) (notSet_ok ns) xMode_conv xMode_plain
          · rename_i hw
            exact sndS_set hN hi t1 (dX_ok D C _ _) dX_plain ((swC_ok C.sc C.kind).trans (by rw [Bool.not_eq_true] at hw; rw [hw])) t2
        · exact sndS_bad
      · split
        · rename_i hc
          exact sndS_set hN hi t1 (dX_ok D C _ _) dX_plain (sw_ok hc) t2
        · exact sndS_bad
    · exact sndS_bad
  · exact sndS_bad
def notOwn (c : DC) : Expr → Bool
  | .Name x _ => !(match c.sc.names.lookup x with | some .local => true | _ => false)
  | _ => true
theorem sst_cell {ts vs : List Expr} {k k2 : Nat} {p p2 : Pos} {env : Env} {c : DC} (hs : env.scope = c.sc) (h : ts.any (notOwn c) = true) : swappedStores [.Tuple ts k p] (.Tuple vs k2 p2) env = pure none := by
  obtain ⟨e, he, hn⟩ := List.any_eq_true.mp h
  have key : ∀ (l : Nat), ((ts.filterMap fun | .Name id pos => if env.kindOf id == some .local && pos.line == l then some id else none | _ => none).length != ts.length) = true := by
    intro l
    rw [bne_iff_ne]
    intro hl
    have := (List.filterMap_length_eq_length.mp hl) e he
    cases e with
    | Name x q =>
      have h2 : (env.kindOf x == some .local) = false := by
        have : env.kindOf x = c.sc.names.lookup x := by show env.scope.names.lookup x = _; rw [hs]
        rw [this]
        have hn : (!(match c.sc.names.lookup x with | some .local => true | _ => false)) = true := hn
        cases e : c.sc.names.lookup x with
        | none => rfl
        | some kk => rw [e] at hn; cases kk <;> first | rfl | (cases hn; done)
      simp only [h2, Bool.false_and] at this
      cases this
    | _ => cases this
  unfold swappedStores
  dsimp only
  split
  · rfl
  · split
    · rfl
    · exact if_pos (by rw [Bool.or_eq_true]; exact .inl (key _))
def locN (c : DC) (x : Str) : Bool := match c.sc.names.lookup x with
  | some .local => true
  | _ => false
theorem locN_ok {G : Glob} {fe : Nat → FD} {k : Nat} {N : List Str} {c : DC} {X : Cx} (C : CtxOk G fe k N c X) {x : Str} (h : locN c x = true) : X.env.scope.names.lookup x = some .local := by
  rw [C.sc]
  unfold locN at h
  split at h
  · assumption
  · cases h
def dTup (d : Den) (G : Glob) (N : List Str) (md : Md) (c : DC) (ts : List Expr) (tp : Pos) (kt : Nat) (e : Expr) : SM := match ts, e with
  | [.Name x px, .Name y py], .Tuple [a, b] _ _ => if [a, b].all (foldedForSure 8) || ts.any (notOwn c) then sAsg (dG N c (List.range N.length) 4 (.Tuple ts kt tp)) (d.E c e)
    else (match slot N x, slot N y with
    | some i, some j => if locN c x && locN c y && py.line == px.line && !(y == x) && notStar a && notStar b && !([a, b].all (constantsAlone 8)) && decide (i ≠ j) then sPar2 i j (xsCons (dX d G N (md x) c a) (xsCons (dX d G N (md y) c b) xsNil)) else sBad
    | _, _ => sBad)
  | [.Name x px, .Name y py, .Name z pz], .Tuple [a, b, b3] _ _ => if [a, b, b3].all (foldedForSure 8) || ts.any (notOwn c) then sAsg (dG N c (List.range N.length) 4 (.Tuple ts kt tp)) (d.E c e)
    else (match slot N x, slot N y, slot N z with
    | some i, some j, some l => if locN c x && locN c y && locN c z && py.line == px.line && pz.line == px.line && !(y == x) && !(z == x) && !(z == y) && notStar a && notStar b && notStar b3 && !([a, b, b3].all (constantsAlone 8)) && decide (i ≠ j) && decide (i ≠ l) && decide (j ≠ l) then
      sPar3 i j l (xsCons (dX d G N (md x) c a) (xsCons (dX d G N (md y) c b) (xsCons (dX d G N (md z) c b3) xsNil))) else sBad
    | _, _, _ => sBad)
  | ts, .Tuple vs _ _ => if (ts.length == 2 || ts.length == 3) && !ts.any (notOwn c) then sBad else sAsg (dG N c (List.range N.length) 4 (.Tuple ts kt tp)) (d.E c e)
  | ts, e => if notComp e && !isTupE e then sAsg (dG N c (List.range N.length) 4 (.Tuple ts kt tp)) (d.E c e) else sBad
theorem sws_ok {t e : Expr} {l : Nat} {env : Env} (h : notComp e = true) : swapsWithSole [t] e l env = pure false := sw_ok (t := some t) h
theorem sws_tup {ts vs : List Expr} {k k2 : Nat} {p p2 : Pos} {l : Nat} {env : Env} : swapsWithSole [.Tuple ts k p] (.Tuple vs k2 p2) l env = pure false := rfl
theorem dTup_ok {G : Glob} {fe : Nat → FD} {k : Nat} {N : List Str} {c : DC} {X : Cx} {d : Den} (D : DenOk G fe k N d) (C : CtxOk G fe k N c X) (md : Md) (ts : List Expr) (tp pos : Pos) (kt : Nat) (e : Expr) : SndS X (.Assign [.Tuple ts kt tp] e pos) (dTup d G N md c ts tp kt e) := by
  have hN : X.N.Nodup := by rw [C.hN]; exact C.nd
  have hk : X.env.scope.kind = .function := by rw [C.sc]; exact C.kind
  have plain : ∀ {e : Expr}, swapsWithSole [.Tuple ts kt tp] e pos.line X.env = pure false → swappedStores [.Tuple ts kt tp] e X.env = pure none → SndS X (.Assign [.Tuple ts kt tp] e pos) (sAsg (dG N c (List.range N.length) 4 (.Tuple ts kt tp)) (d.E c e)) := fun {e} h1 h2 =>
    sndS_asg (D.E c X C e) (dG_ok C _ _ _) h1 h2 rfl
  unfold dTup
  split
  · rename_i x px y py a b k2 p2
    split
    · rename_i hf
      rw [Bool.or_eq_true] at hf
      exact plain rfl (hf.elim sst_const (sst_cell C.sc))
    · rename_i hf
      rw [Bool.or_eq_true, not_or] at hf
      replace hf := hf.1
      split
      · rename_i i j hi hj
        split
        · rename_i h
          simp only [Bool.and_eq_true, decide_eq_true_eq, Bool.not_eq_true'] at h
          obtain ⟨⟨⟨⟨⟨⟨⟨h1, h2⟩, h3⟩, h4⟩, h5⟩, h6⟩, h7⟩, h8⟩ := h
          exact sndS_par C.calm hN (by rw [C.hN]; exact slot_ok hi) (by rw [C.hN]; exact slot_ok hj) h8 (locN_ok C h1) (locN_ok C h2) (sndXs_cons (dX_ok D C _ _) (sndXs_cons (dX_ok D C _ _) sndXs_nil (starEach_cons h6)) (starEach_cons h5))
            (sst_two hk (locN_ok C h1) (locN_ok C h2) h3 h4 h5 h6 (by simpa using hf) h7) rfl
        · exact sndS_bad
      · exact sndS_bad
  · rename_i x px y py z pz a b b3 k2 p2
    split
    · rename_i hf
      rw [Bool.or_eq_true] at hf
      exact plain rfl (hf.elim sst_const (sst_cell C.sc))
    · rename_i hf
      rw [Bool.or_eq_true, not_or] at hf
      replace hf := hf.1
      split
      · rename_i i j l hi hj hl
        split
        · rename_i h
          simp only [Bool.and_eq_true, decide_eq_true_eq, Bool.not_eq_true'] at h
          obtain ⟨⟨⟨⟨⟨⟨⟨⟨⟨⟨⟨⟨⟨⟨h1, h2⟩, h3⟩, h4⟩, h5⟩, h6⟩, h7⟩, h8⟩, h9⟩, h10⟩, h11⟩, h12⟩, h13⟩, h14⟩, h15⟩ := h
          exact sndS_par3 C.calm hN (by rw [C.hN]; exact slot_ok hi) (by rw [C.hN]; exact slot_ok hj) (by rw [C.hN]; exact slot_ok hl) h13 h14 h15 (locN_ok C h1) (locN_ok C h2) (locN_ok C h3)
            (sndXs_cons (dX_ok D C _ _) (sndXs_cons (dX_ok D C _ _) (sndXs_cons (dX_ok D C _ _) sndXs_nil (starEach_cons h11)) (starEach_cons h10)) (starEach_cons h9))
            (sst_three hk (locN_ok C h1) (locN_ok C h2) (locN_ok C h3) h4 h5 h6 h7 h8 h9 h10 h11 (by simpa using hf) h12) rfl
        · exact sndS_bad
      · exact sndS_bad
  · rename_i vs k2 p2 _ _
    split
    · exact sndS_bad
    · rename_i h
      by_cases h2 : (ts.length == 2 || ts.length == 3) = true
      · refine plain rfl (sst_cell C.sc ?_)
        rw [h2, Bool.true_and] at h
        simpa using h
      · exact plain rfl (sst_long (by simpa using h2))
  · split
    · rename_i h
      simp only [Bool.and_eq_true, Bool.not_eq_true'] at h
      exact plain (sws_ok h.1) (sst_none h.2)
    · exact sndS_bad
def dAug (d : Den) (N : List Str) (c : DC) (x : Str) (op : Operator) (e : Expr) : SM := if c.tg x then (match slot N x with
  | some i => (match op with
    | .Add => sAug i gIAdd (d.E c e)
    | .Sub => sAug i gSub (d.E c e)
    | .BitAnd => sAug i gAnd (d.E c e)
    | .BitOr => sAug i gOr (d.E c e)
    | .BitXor => sAug i gXor (d.E c e)
    | _ => sBad)
  | none => sBad) else sBad
theorem dAug_ok {G : Glob} {fe : Nat → FD} {k : Nat} {N : List Str} {c : DC} {X : Cx} {d : Den} (D : DenOk G fe k N d) (C : CtxOk G fe k N c X) (x : Str) (p pos : Pos) (op : Operator) (e : Expr) : SndS X (.AugAssign (.Name x p) op e pos) (dAug d N c x op e) := by
  unfold dAug
  split
  · rename_i ht
    obtain ⟨t1, t2⟩ := C.tg x ht
    split
    · rename_i i hs
      have hN : X.N.Nodup := by rw [C.hN]; exact C.nd
      have hi : X.N[i]? = some x := by rw [C.hN]; exact slot_ok hs
      split
      · exact sndS_aug hN hi t1 (D.E c X C e) iops_add t2
      · exact sndS_aug hN hi t1 (D.E c X C e) iops_sub t2
      · exact sndS_aug hN hi t1 (D.E c X C e) iops_and t2
      · exact sndS_aug hN hi t1 (D.E c X C e) iops_or t2
      · exact sndS_aug hN hi t1 (D.E c X C e) iops_xor t2
      · exact sndS_bad
    · exact sndS_bad
  · exact sndS_bad
def dStore (d : Den) (N : List Str) (c : DC) (x : Str) (a e : Expr) : SM := if c.loc x && goodName x && notSlice a then (match slot N x with
  | some i => sStore i (d.E c e) (d.E c a)
  | none => sBad) else sBad
theorem dStore_ok {G : Glob} {fe : Nat → FD} {k : Nat} {N : List Str} {c : DC} {X : Cx} {d : Den} (D : DenOk G fe k N d) (C : CtxOk G fe k N c X) (x : Str) (p tp pos : Pos) (a e : Expr) : SndS X (.Assign [.Subscript (.Name x p) a tp] e pos) (dStore d N c x a e) := by
  unfold dStore
  split
  · rename_i h
    simp only [Bool.and_eq_true] at h
    obtain ⟨⟨h1, h2⟩, h3⟩ := h
    obtain ⟨g1, g2, _⟩ := good_ok h2
    split
    · rename_i i hs
      exact sndS_store (by rw [C.hN]; exact slot_ok hs) (C.vis h1) g1 g2 (D.E c X C e) (D.E c X C a) (sub_ok h3) (by cases e <;> rfl) sst_sub rfl
    · exact sndS_bad
  · exact sndS_bad
def dAugS (d : Den) (N : List Str) (c : DC) (x : Str) (a : Expr) (op : Operator) (e : Expr) : SM := if c.loc x && goodName x && notSlice a then (match slot N x with
  | some i => (match op with
    | .Add => sAugS i gIAdd (d.E c a) (d.E c e)
    | .Sub => sAugS i gSub (d.E c a) (d.E c e)
    | .BitAnd => sAugS i gAnd (d.E c a) (d.E c e)
    | .BitOr => sAugS i gOr (d.E c a) (d.E c e)
    | .BitXor => sAugS i gXor (d.E c a) (d.E c e)
    | _ => sBad)
  | none => sBad) else sBad
theorem dAugS_ok {G : Glob} {fe : Nat → FD} {k : Nat} {N : List Str} {c : DC} {X : Cx} {d : Den} (D : DenOk G fe k N d) (C : CtxOk G fe k N c X) (x : Str) (p tp pos : Pos) (a : Expr) (op : Operator) (e : Expr) : SndS X (.AugAssign (.Subscript (.Name x p) a tp) op e pos) (dAugS d N c x a op e) := by
  unfold dAugS
  split
  · rename_i h
    simp only [Bool.and_eq_true] at h
    obtain ⟨⟨h1, h2⟩, h3⟩ := h
    obtain ⟨g1, g2, _⟩ := good_ok h2
    split
    · rename_i i hs
      have hi : X.N[i]? = some x := by rw [C.hN]; exact slot_ok hs
      split
      · exact sndS_augS hi (C.vis h1) g1 g2 (D.E c X C e) (D.E c X C a) iops_add (augStore_ok h3)
      · exact sndS_augS hi (C.vis h1) g1 g2 (D.E c X C e) (D.E c X C a) iops_sub (augStore_ok h3)
      · exact sndS_augS hi (C.vis h1) g1 g2 (D.E c X C e) (D.E c X C a) iops_and (augStore_ok h3)
      · exact sndS_augS hi (C.vis h1) g1 g2 (D.E c X C e) (D.E c X C a) iops_or (augStore_ok h3)
      · exact sndS_augS hi (C.vis h1) g1 g2 (D.E c X C e) (D.E c X C a) iops_xor (augStore_ok h3)
      · exact sndS_bad
    · exact sndS_bad
  · exact sndS_bad
def dAppend (d : Den) (N : List Str) (c : DC) (x : Str) (e : Expr) (ok : Bool) : SM := if c.loc x && goodName x && notStar e && ok then (match slot N x with
  | some i => sAppend i (d.E c e)
  | none => sBad) else sBad
theorem dAppend_ok {G : Glob} {fe : Nat → FD} {k : Nat} {N : List Str} {c : DC} {X : Cx} {d : Den} (D : DenOk G fe k N d) (C : CtxOk G fe k N c X) (x : Str) (p apos cpos pos : Pos) (e : Expr) : SndS X (.Expr (.Call (.Attribute (.Name x p) "append" apos) [e] [] cpos) pos) (dAppend d N c x e (apos.endLine == cpos.line)) := by
  unfold dAppend
  split
  · rename_i h
    simp only [Bool.and_eq_true] at h
    obtain ⟨⟨⟨h1, h2⟩, h3⟩, h4⟩ := h
    obtain ⟨g1, g2, _⟩ := good_ok h2
    split
    · rename_i i hs
      exact sndS_append (by rw [C.hN]; exact slot_ok hs) (C.vis h1) g1 g2 (D.E c X C e) (base_ok rfl) (few_ok (by simpa using h3) (by show 1 < 30; decide)) h4 (starEach_cons h3) rfl (sw_ok rfl)
    · exact sndS_bad
  · exact sndS_bad

mutual
def escE : Nat → Expr → List Str
  | 0, _ => []
  | n + 1, e => match e with
    | .Name x _ => [x]
    | .Tuple es _ _ => es.flatMap (escE n)
    | .List es _ => es.flatMap (escE n)
    | .BinOp a _ b _ => escO n a ++ escO n b
    | .UnaryOp _ a _ => escE n a
    | .BoolOp _ es _ => es.flatMap (escE n)
    | .IfExp t a b _ => escE n t ++ escE n a ++ escE n b
    | .Compare a _ bs _ => escO n a ++ bs.flatMap (escO n)
    | .Call (.Name x _) as ks _ => if x ∈ [("len" : Str), "int", "str", "min", "max", "sum", "all", "any", "tuple", "isinstance", "list", "sorted"] then as.flatMap (escO n) else as.flatMap (escE n) ++ ks.flatMap fun k => escE n k.value
    | .Call (.Attribute o _ _) as ks _ => escO n o ++ as.flatMap (escO n)
    | .Subscript a b _ => escO n a ++ escE n b
    | .Slice lo hi _ _ => (match lo with | some e => escE n e | none => []) ++ (match hi with | some e => escE n e | none => [])
    | .ListComp elt gs _ _ => escE n elt ++ gs.flatMap fun g => escO n g.iter ++ g.ifs.flatMap (escE n)
    | .JoinedStr es _ => es.flatMap (escE n)
    | .FormattedValue e _ _ _ => escE n e
    | _ => []
def escO : Nat → Expr → List Str
  | 0, _ => []
  | n + 1, e => match e with
    | .Name _ _ => []
    | e => escE n e
end
def escS (N : List Str) (md : Md) (st : Stmt) : List Nat :=
  let es := match st with
    | .Assign _ e _ => escE 40 e
    | .Expr (.Call (.Attribute o _ _) as _ _) _ => as.flatMap (escE 40) ++ escO 40 o
    | .Expr e _ => escE 40 e
    | .Return (some e) _ => []
    | .AugAssign _ _ e _ => escE 40 e
    | .If t _ _ _ => escE 40 t
    | .For _ it _ _ _ => escO 40 it
    | _ => []
  (es.filter fun x => md x == 1).eraseDups.filterMap (slot N)
def frzAll (N : List Str) (md : Md) (st : Stmt) : List Nat := match st with
  | .Return (some e) _ => ((escE 40 e).filter fun x => md x == 1).eraseDups.filterMap (slot N)
  | _ => []
def wFuel : Nat := 1000000
def stepS0 (d : Den) (G : Glob) (N : List Str) (md : Md) (c : DC) : Stmt → SM
  | .Expr (.Call (.Attribute (.Name x _) name apos) [e] [] cpos) _ => if name = ("append" : Str) then dAppend d N c x e (apos.endLine == cpos.line) else sBad
  | .Expr e _ => if notComp e then sExpr (d.E c e) else sBad
  | .Return (some e) _ => sRet (d.E c e)
  | .Return none _ => sRetN
  | .Assign [.Name x p] e _ => dSet d G N md c x p e
  | .Assign [.Tuple ts kt tp] e _ => dTup d G N md c ts tp kt e
  | .Assign [.Subscript (.Name x _) a _] e _ => dStore d N c x a e
  | .AugAssign (.Name x _) op e _ => dAug d N c x op e
  | .AugAssign (.Subscript (.Name x _) a _) op e _ => dAugS d N c x a op e
  | .If t a b _ => sIf (d.T c t) (d.B c a) (d.B c b)
  | .For tg (.Name x p) body [] _ => if c.loc x then (match slot N x with
      | some i => if goodName x then sForV i (dG N c (List.range N.length) 4 tg) (d.B c body) else sBad
      | none => sBad) else sFor (dI0 d G c tg (.Name x p)) (dG N c (List.range N.length) 4 tg) (d.B c body)
  | .For tg iter body [] _ => if notSet iter then sFor (dI0 d G c tg iter) (dG N c (List.range N.length) 4 tg) (d.B c body) else sBad
  | .While t body [] _ => whileGo (d.T c t) (d.B c body) wFuel
  | .Pass _ => sNil
  | .Break _ => sBreak
  | .Continue _ => sCont
  | _ => sBad
def stepS (d : Den) (G : Glob) (N : List Str) (md : Md) (c : DC) (st : Stmt) : SM := match escS N md st ++ frzAll N md st with
  | [] => stepS0 d G N md c st
  | is => sFrz is (stepS0 d G N md c st)
theorem stepS0_ok {G : Glob} {fe : Nat → FD} {k : Nat} {N : List Str} {c : DC} {X : Cx} {d : Den} (D : DenOk G fe k N d) (C : CtxOk G fe k N c X) (md : Md) (st : Stmt) : SndS X st (stepS0 d G N md c st) := by
  have never : PassesOwn (model X.prog X.w) X.A X.env X.xe := by rw [C.xe]; exact PassesOwn.never
  unfold stepS0
  split
  · split
    · rename_i h
      subst h
      exact dAppend_ok D C _ _ _ _ _ _
    · exact sndS_bad
  · split
    · rename_i h
      exact sndS_expr (D.E c X C _) (sw_ok h)
    · exact sndS_bad
  · exact sndS_ret (D.E c X C _)
  · exact sndS_retN
  · exact dSet_ok D C _ _ _ _ _
  · exact dTup_ok D C _ _ _ _ _ _
  · exact dStore_ok D C _ _ _ _ _ _
  · exact dAug_ok D C _ _ _ _ _
  · exact dAugS_ok D C _ _ _ _ _ _ _
  · exact sndS_if (D.T c X C _) (D.B c X C _) (D.B c X C _)
  · split
    · rename_i hl
      split
      · rename_i i hs
        split
        · rename_i hg
          obtain ⟨g1, g2, _⟩ := good_ok hg
          exact sndS_forV (by rw [C.hN]; exact slot_ok hs) (C.vis hl) g1 g2 never C.calm (dG_ok C _ _ _) (D.B c X C _)
        · exact sndS_bad
      · exact sndS_bad
    · exact sndS_for never C.calm (dI0_ok D C _ _) (dG_ok C _ _ _) (D.B c X C _) (notSet_ok rfl)
  · split
    · rename_i h
      exact sndS_for never C.calm (dI0_ok D C _ _) (dG_ok C _ _ _) (D.B c X C _) (notSet_ok h)
    · exact sndS_bad
  · exact sndS_while _ never (D.T c X C _) (D.B c X C _)
  · exact sndS_pass
  · exact sndS_break
  · exact sndS_cont
  · exact sndS_bad
theorem stepS_ok {G : Glob} {fe : Nat → FD} {k : Nat} {N : List Str} {c : DC} {X : Cx} {d : Den} (D : DenOk G fe k N d) (C : CtxOk G fe k N c X) (md : Md) (st : Stmt) : SndS X st (stepS d G N md c st) := by
  unfold stepS
  split
  · exact stepS0_ok D C md st
  · exact sndS_frz (stepS0_ok D C md st)
def stepB (d : Den) (G : Glob) (N : List Str) (md : Md) (c : DC) : List Stmt → SM
  | [] => sNil
  | [st] => stepS d G N md c st
  | st :: rest => sSeq (stepS d G N md c st) (stepB d G N md c rest)
theorem sndB_one {X : Cx} {st : Stmt} {m : SM} (h : SndS X st m) : SndB X [st] m := pss_one h
theorem stepB_ok {G : Glob} {fe : Nat → FD} {k : Nat} {N : List Str} {c : DC} {X : Cx} {d : Den} (D : DenOk G fe k N d) (C : CtxOk G fe k N c X) (md : Md) : ∀ sts : List Stmt, SndB X sts (stepB d G N md c sts)
  | [] => sndB_nil
  | [st] => sndB_one (stepS_ok D C md st)
  | st :: s2 :: rest => sndB_cons (stepS_ok D C md st) (stepB_ok D C md (s2 :: rest))
def den (G : Glob) (fe : Nat → FD) (N : List Str) (md : Md) : Nat → Den
  | 0 => ⟨fun _ _ => eBad, fun _ _ => tBad, fun _ _ => sBad⟩
  | n + 1 => ⟨stepE (den G fe N md n) G fe N, stepT (den G fe N md n) G N, stepB (den G fe N md n) G N md⟩
theorem den_ok (G : Glob) (fe : Nat → FD) (k : Nat) (N : List Str) (md : Md) : ∀ n, DenOk G fe k N (den G fe N md n)
  | 0 => ⟨fun _ _ _ _ => snd_bad, fun _ _ _ _ => sndT_bad, fun _ _ _ _ => sndB_bad⟩
  | n + 1 => ⟨fun c X C e => stepE_ok (den_ok G fe k N md n) C e, fun c X C e => stepT_ok (den_ok G fe k N md n) C e, fun c X C sts => stepB_ok (den_ok G fe k N md n) C md sts⟩
def defDC (st : Stmt) : DC := ⟨defScope st, fun x => match (defScope st).names.lookup x with
  | some .local => true
  | some .cell => true
  | _ => false⟩
def denF (G : Glob) (N : List Str) (md : Md) (st : Stmt) (fe : Nat → FD) : FD := defF N.length ((den G fe N md 60).B (defDC st) (defBody st))
theorem def_ok {P : Program} {w : World} {K : PySem.W.Frag} {mg : Str → Option Value} {base : Heap} {G : Glob} {fe : Nat → FD} {k : Nat} {x qual : Str} {st : Stmt} {f : Addr} {fd : FuncData} {N ps : List Str} {md : Md} (Fn : Fun K x qual st f fd) (S : FnScope N ps (defScope st))
    (hfree : ∀ x ∈ G.free, mg x = none) (hconsts : ∀ p ∈ G.consts, ∃ v u, mg p.1 = some u ∧ RelV v u ∧ ∀ L, Rep K L v p.2)
    (hdicts : ∀ p ∈ G.dicts, ∃ a, mg p.1 = some (.ref a) ∧ KDOk K w a p.2)
    (hfuns : ∀ q ∈ G.funs, ∃ f fd ps, mg q.1 = some (.ref f) ∧ PySem.W.keepIn K (.ref f) = true ∧ Binds K fd ps [] ∧ FnOk P w K mg base CX0 k f fd ps (spI K q.2.2 (fe q.2.1)) ∧ ∀ r ∈ G.kfuns, r.1 = q.1 → KB K fd ps r.2.2.1 r.2.1 r.2.2.2) :
    FnOk P w K mg base CX0 (k + 1) f fd ps (spI K ps.length (denF G N md st fe)) := by
  refine fn_ok Fn S rfl fun cdv A outer s H hr => (den_ok G fe k N md 60).B (defDC st) _ ⟨rfl, S.nd, rfl, S.kind, fun x hx => ?_, rfl, rfl, hr, hfree, hconsts, hdicts, hfuns⟩ _
  have hx : (match (defScope st).names.lookup x with | some .local => true | some .cell => true | _ => false) = true := hx
  refine ⟨?_, .inl rfl⟩
  show (defScope st).names.lookup x = some .local ∨ (defScope st).names.lookup x = some .cell
  split at hx
  · exact .inl (by assumption)
  · exact .inr (by assumption)
  · cases hx
end WC
set_option Elab.async false
set_option linter.all false
set_option maxRecDepth 100000
namespace WC
open PySem PySem.Spec PyProof.Rows L2

abbrev Bodies := List (Nat × ((Nat → FD) → SM))
def callN (B : Bodies) : Nat → Nat → FD
  | 0, _ => fun _ _ => .bad
  | k + 1, i => match B[i]? with
    | some (n, b) => defF n (b (callN B k))
    | none => fun _ _ => .bad
structure DefAt (K : PySem.W.Frag) (x : Str) (st : Stmt) : Prop where
  ex : ∃ (f : Addr) (oc : Value) (od an : Option Addr) (osl : Array (Option Value)) (kV doc pm cdv ct : Value), PySem.W.nsIn K mainGlobals x = some (some (.ref f)) ∧
    K.lookup f = some ⟨oc, od, .func (PySem.W.fnOf x x (defArgs st) (defBody st) (defScope st) .none kV doc pm an cdv ct), osl⟩ ∧ PySem.W.codeIn K cdv x = true ∧ PySem.W.keepIn K (.ref f) = true
structure DefTx (G : Glob) (B : Bodies) (x : Str) (i n : Nat) (st : Stmt) : Prop where
  ex : ∃ (N ps : List Str) (md : Md) (b : (Nat → FD) → SM), B[i]? = some (N.length, b) ∧ ps.length = n ∧ (∀ fe, (den G fe N md 60).B (defDC st) (defBody st) = b fe) ∧ FnScope N ps (defScope st) ∧
    (∀ (kV doc pm : Value) (an : Option Addr) (cdv ct : Value) (us : List Value), us.length = ps.length → bindArgs (PySem.W.fnOf x x (defArgs st) (defBody st) (defScope st) .none kV doc pm an cdv ct) ⟨us, []⟩ = pure (ps.zip us)) ∧
    ∀ r ∈ G.kfuns, r.1 = x → ∀ (kV doc pm : Value) (an : Option Addr) (cdv ct : Value) (us ws : List Value), us.length = r.2.1 → ws.length = r.2.2.1.length → bindArgs (PySem.W.fnOf x x (defArgs st) (defBody st) (defScope st) .none kV doc pm an cdv ct) ⟨us, r.2.2.1.zip ws⟩ = pure (ps.zip (permL r.2.2.2 (us ++ ws)))
theorem fn_bad {P : Program} {w : World} {K : PySem.W.Frag} {mg : Str → Option Value} {base : Heap} {k n : Nat} {f : Addr} {fd : FuncData} {ps : List Str} : FnOk P w K mg base CX0 k f fd ps (spI K n fun _ _ => .bad) := by
  refine ⟨fun vs H Q E h => ?_, fun A outer s H args us vs Q E _ _ _ _ h => ?_⟩
  · obtain ⟨_, L, h, ds, d, h', _, _, e, _⟩ := h; cases e
  · obtain ⟨_, L, h, ds, d, h', _, _, e, _⟩ := h; cases e
theorem prog_ok {P : Program} {w : World} {K : PySem.W.Frag} {mg : Str → Option Value} {base : Heap} {G : Glob} {B : Bodies} (X : K.In base) (Gl : base.Ns mainGlobals mg) (sts : Str → Stmt)
    (hat : ∀ q ∈ G.funs, DefAt K q.1 (sts q.1)) (htx : ∀ q ∈ G.funs, DefTx G B q.1 q.2.1 q.2.2 (sts q.1))
    (hfree : ∀ x ∈ G.free, mg x = none) (hconsts : ∀ p ∈ G.consts, ∃ v u, mg p.1 = some u ∧ RelV v u ∧ ∀ L, Rep K L v p.2) (hdicts : ∀ p ∈ G.dicts, ∃ a, mg p.1 = some (.ref a) ∧ KDOk K w a p.2) :
    ∀ k, ∀ q ∈ G.funs, ∃ f fd ps, mg q.1 = some (.ref f) ∧ PySem.W.keepIn K (.ref f) = true ∧ Binds K fd ps [] ∧ FnOk P w K mg base CX0 k f fd ps (spI K q.2.2 (callN B k q.2.1)) ∧ ∀ r ∈ G.kfuns, r.1 = q.1 → KB K fd ps r.2.2.1 r.2.1 r.2.2.2 := by
  have pre : ∀ q ∈ G.funs, ∃ (f : Addr) (fd : FuncData) (N ps : List Str) (md : Md) (b : (Nat → FD) → SM), mg q.1 = some (.ref f) ∧ PySem.W.keepIn K (.ref f) = true ∧ Binds K fd ps [] ∧ Fun K q.1 q.1 (sts q.1) f fd ∧ (∀ r ∈ G.kfuns, r.1 = q.1 → KB K fd ps r.2.2.1 r.2.1 r.2.2.2) ∧
      B[q.2.1]? = some (N.length, b) ∧ ps.length = q.2.2 ∧ (∀ fe, (den G fe N md 60).B (defDC (sts q.1)) (defBody (sts q.1)) = b fe) ∧ FnScope N ps (defScope (sts q.1)) := fun q hq => by
    obtain ⟨f, oc, od, an, osl, kV, doc, pm, cdv, ct, a, l, c, kp⟩ := (hat q hq).ex
    obtain ⟨N, ps, md, b, h1, h2, h3, h4, h5, h6⟩ := (htx q hq).ex
    have F := fun_mk (st := sts q.1) l c kp
    exact ⟨f, _, N, ps, md, b, PySem.W.mg_of X Gl a, kp, F.binds h5, F, fun r hr e s us ws _ hu hw => .of_eq (h6 r hr e kV doc pm an cdv ct us ws hu hw), h1, h2, h3, h4⟩
  intro k
  induction k with
  | zero =>
    intro q hq
    obtain ⟨f, fd, N, ps, md, b, h1, h2, h3, h4, h5, h6, h7, h8, h9⟩ := pre q hq
    exact ⟨f, fd, ps, h1, h2, h3, fn_bad, h5⟩
  | succ k ih =>
    intro q hq
    obtain ⟨f, fd, N, ps, md, b, h1, h2, h3, h4, h5, h6, h7, h8, h9⟩ := pre q hq
    refine ⟨f, fd, ps, h1, h2, h3, ?_, h5⟩
    have := def_ok (P := P) (w := w) (G := G) (fe := callN B k) (k := k) (md := md) h4 h9 hfree hconsts hdicts ih
    have e : denF G N md (sts q.1) (callN B k) = callN B (k + 1) q.2.1 := by
      unfold denF
      rw [h8]
      show _ = match B[q.2.1]? with | some (n, b) => defF n (b (callN B k)) | none => _
      rw [h6]
    rw [e, h7] at this
    exact this
theorem hrel0 {K : PySem.W.Frag} {H : Hp} : HRel K ⟨H, []⟩ H [] := by
  refine ⟨fun p o e => e, fun p ⟨q, h, _⟩ => ?_, fun p ⟨q, h, _⟩ => ?_, .nil, rfl, fun n q o e => ?_⟩
  · cases h
  · cases h
  · cases e
theorem reps_ints {K : PySem.W.Frag} {L : Lay} : ∀ ns : List Int, Reps K L (ns.map V.int) (ns.map D.int)
  | [] => .nil
  | n :: ns => .cons (.int n) (reps_ints ns)
theorem law_end {K : PySem.W.Frag} {f : FD} {H : Hp} {a : Addr} {ns : List Int} {E : XK} (hS : SqL K H a (ns.map V.int)) (h : ∃ h', f [.scr (ns.map .int)] [] = .ok (.bl true) h') : spI K 1 f [.ref a] H (fun v _ => v = .bl true) E := by
  obtain ⟨h', e⟩ := h
  refine ⟨rfl, ⟨H, []⟩, [], [.scr (ns.map .int)], .bl true, h', hrel0, .cons (.scr hS (reps_ints ns)) .nil, e, fun L' H' v _ _ r => ?_⟩
  cases r
  rfl
end WC
namespace WC
open PySem PySem.Spec PyProof.Rows L2
theorem all_nil {α : Type} {P : α → Prop} : ∀ q ∈ ([] : List α), P q := fun _ h => nomatch h
theorem all_cons {α : Type} {P : α → Prop} {a : α} {l : List α} (h : P a) (t : ∀ q ∈ l, P q) : ∀ q ∈ a :: l, P q := List.forall_mem_cons.mpr ⟨h, t⟩
theorem kf_of {P : Str × Nat × List Str × List Nat → Prop} {K l : List (Str × Nat × List Str × List Nat)} {x : Str} (e : K.filter (fun r => r.1 == x) = l) (h : ∀ r ∈ l, P r) : ∀ r ∈ K, r.1 = x → P r := fun r hr hx => h r (by rw [← e, List.mem_filter]; exact ⟨hr, by rw [hx]; exact beq_self_eq_true x⟩)
structure CstAt (K : PySem.W.Frag) (x : Str) (d : D) : Prop where
  ex : ∃ v u, PySem.W.nsIn K mainGlobals x = some (some u) ∧ RelV v u ∧ ∀ L, Rep K L v d
structure DctAt (K : PySem.W.Frag) (w : World) (x : Str) (d : KVs) : Prop where
  ex : ∃ a, PySem.W.nsIn K mainGlobals x = some (some (.ref a)) ∧ KDOk K w a d
theorem KDOk.mk1 {K : PySem.W.Frag} {w : World} {a : Addr} {es : Array DictEntry} {n : Nat} {d : KVs} (l : K.lookup a = some ⟨.type "dict", none, .dict es n, #[]⟩) (h : PySem.W.KeysLit w.params es.toList) (hl : (a == sysModules) = false) (o : KvOk K es.toList d) : KDOk K w a d := ⟨es, n, ⟨l, h, hl⟩, o⟩
theorem rep_ctup {K : PySem.W.Frag} {L : Lay} {a : Addr} {o : Obj} {its : Array Value} {n : Nat} {vs : List V} {ds : List D} (h1 : K.lookup a = some o) (h2 : o.cls = .type "tuple") (h3 : o.data = .seq its n) (h4 : its.size ≤ sizeLine) (h5 : Vals vs its.toList) (r : Reps K L vs ds) : Rep K L (.ref a) (.tup ds) :=
  .tup (.inr ⟨o, its, n, h1, h2, h3, h4, h5⟩) r
end WC
set_option Elab.async false
set_option linter.all false
set_option maxRecDepth 100000
namespace WC
open PySem PySem.Spec PyProof.Rows L2
section
variable {σ : Sg} {h : Hs}
@[simp] theorem e_eC (d : D) : eC d σ h = .ok d h := rfl
@[simp] theorem e_eVar (i : Nat) : eVar i σ h = match σ[i]? with | some (.val d) => .ok d h | _ => .bad := rfl
@[simp] theorem e_oVar (i : Nat) : oVar i σ h = match σ[i]? with | some (.val d) => .ok d h | some (.own xs) => .ok (.lst xs) h | some (.ownd kvs) => .ok (.dct kvs) h | some (.lent xs) => .ok (.lst xs) h | _ => .bad := rfl
@[simp] theorem e_aNil : aNil σ h = .ok [] h := rfl
@[simp] theorem e_aCons (m : EM) (ms : AM) : aCons m ms σ h = (m σ h).bind fun x h1 => (ms σ h1).bind fun xs h2 => .ok (x :: xs) h2 := rfl
@[simp] theorem e_eTup (ms : AM) : eTup ms σ h = (ms σ h).bind fun xs h1 => if xs.length ≤ 16777216 then .ok (.tup xs) h1 else .bad := rfl
@[simp] theorem e_eOp (g : G2) (a b : EM) : eOp g a b σ h = (a σ h).bind fun x h1 => (b σ h1).bind fun y h2 => optR (g h2 x y) h2 := rfl
@[simp] theorem e_optR_some {α : Type} (d : α) : optR (some d) h = .ok d h := rfl
@[simp] theorem e_optR_none {α : Type} : optR (none : Option α) h = .bad := rfl
@[simp] theorem e_tB (m : EM) : tB m σ h = (m σ h).bind fun d h1 => match d with | .bl b => .ok b h1 | _ => .bad := rfl
@[simp] theorem e_eChain (g g' : G2) (a b c : EM) : eChain g g' a b c σ h = (a σ h).bind fun x h1 => (b σ h1).bind fun y h2 => (optR (g h2 x y) h2).bind fun z h3 => match z with
  | .bl true => (c σ h3).bind fun w h4 => optR (g' h4 y w) h4
  | .bl false => .ok (.bl false) h3
  | _ => .bad := rfl
@[simp] theorem e_tAnd (t u : TM) : tAnd t u σ h = (t σ h).bind fun b h1 => match b with | true => u σ h1 | false => .ok false h1 := rfl
@[simp] theorem e_tOr (t u : TM) : tOr t u σ h = (t σ h).bind fun b h1 => match b with | true => .ok true h1 | false => u σ h1 := rfl
@[simp] theorem e_tNot (t : TM) : tNot t σ h = (t σ h).bind fun b h1 => .ok (!b) h1 := rfl
@[simp] theorem e_eAnd (m n : EM) : eAnd m n σ h = (m σ h).bind fun d h1 => match d with | .bl true => n σ h1 | .bl false => .ok (.bl false) h1 | _ => .bad := rfl
@[simp] theorem e_eOr (m n : EM) : eOr m n σ h = (m σ h).bind fun d h1 => match d with | .bl false => n σ h1 | .bl true => .ok (.bl true) h1 | _ => .bad := rfl
@[simp] theorem e_eNot (m : EM) : eNot m σ h = (m σ h).bind fun d h1 => match d with | .bl b => .ok (.bl (!b)) h1 | _ => .bad := rfl
@[simp] theorem e_eIf (t : TM) (m n : EM) : eIf t m n σ h = (t σ h).bind fun b h1 => match b with | true => m σ h1 | false => n σ h1 := rfl
@[simp] theorem e_eNeg (m : EM) : eNeg m σ h = (m σ h).bind fun d h1 => match d with | .int i => .ok (.int (-i)) h1 | _ => .bad := rfl
@[simp] theorem e_eCall (g : GL) (ms : AM) : eCall g ms σ h = (ms σ h).bind fun xs h1 => optR (g h1 xs) h1 := rfl
@[simp] theorem e_oNone : oNone σ h = .ok none h := rfl
@[simp] theorem e_oSome (m : EM) : oSome m σ h = (m σ h).bind fun d h1 => match d with | .int i => .ok (some i) h1 | _ => .bad := rfl
@[simp] theorem e_eSlice (m : EM) (lo hi : OM) : eSlice m lo hi σ h = (m σ h).bind fun x h1 => (lo σ h1).bind fun l h2 => (hi σ h2).bind fun u h3 => optR (sliceD h3 x l u) h3 := rfl
@[simp] theorem e_eIsI (Ts : List Ty) (m : EM) : eIsI Ts m σ h = (m σ h).bind fun d h1 => if tyOk d then .ok (.bl (Ts.any fun T => isTy T d)) h1 else .bad := rfl
@[simp] theorem e_eFmt (m : EM) : eFmt m σ h = (m σ h).bind fun d h1 => optR ((fmtD d).map .str) h1 := rfl
@[simp] theorem e_parts_nil (acc : List Nat) : eParts [] acc σ h = .ok acc h := rfl
@[simp] theorem e_parts_cons (m : EM) (ms : List EM) (acc : List Nat) : eParts (m :: ms) acc σ h = (m σ h).bind fun d h1 => match d with | .str l => if acc.length + l.length ≤ 16777216 then eParts ms (acc ++ l) σ h1 else .bad | _ => .bad := rfl
@[simp] theorem e_eJoined (ms : List EM) : eJoined ms σ h = (eParts ms [] σ h).bind fun l h1 => .ok (.str l) h1 := rfl
@[simp] theorem e_eMeth (T : MT) (g : GM) (mo : EM) (ms : AM) : eMeth T g mo ms σ h = (mo σ h).bind fun x h1 => if tyM T h1 x then (ms σ h1).bind fun xs h2 => optR (g h2 x xs) h2 else .bad := rfl
@[simp] theorem e_iVal (m : EM) : iVal m σ h = (m σ h).bind fun d h1 => optR (itemsD d) h1 := rfl
@[simp] theorem e_iRange1 (ms : AM) : iRange1 ms σ h = (ms σ h).bind fun xs h1 => match xs with | [.int j] => if -(2 ^ 62) ≤ j ∧ j < 2 ^ 62 then .ok (rangeD 0 j.toNat) h1 else .bad | _ => .bad := rfl
@[simp] theorem e_iRange2 (ms : AM) : iRange2 ms σ h = (ms σ h).bind fun xs h1 => match xs with | [.int i, .int j] => if -(2 ^ 62) ≤ i ∧ i < 2 ^ 62 ∧ -(2 ^ 62) ≤ j ∧ j < 2 ^ 62 then .ok (rangeD i (j - i).toNat) h1 else .bad | _ => .bad := rfl
@[simp] theorem e_iZipD (ms : AM) : iZipD ms σ h = (ms σ h).bind fun xs h1 => match xs with | [.lst ys, .lst zs] => .ok (zipD ys zs) h1 | [.tup ys, .tup zs] => .ok (zipD ys zs) h1 | _ => .bad := rfl
@[simp] theorem e_iEnumL (ms : AM) : iEnumL ms σ h = (ms σ h).bind fun xs h1 => match xs with | [.lst ys] => .ok (enumD ys) h1 | _ => .bad := rfl
@[simp] theorem e_tgName (i : Nat) (d : D) : tgName i d σ = setS σ i (.val d) := rfl
@[simp] theorem e_setS (i : Nat) (s : Sl) : setS σ i s = match σ[i]? with | some (.lent _) => none | some _ => some (σ.set i s) | none => none := rfl
@[simp] theorem e_tgTup (ts : List GT) (ds : List D) : tgTup ts (.tup ds) σ = tgs ts ds σ := rfl
@[simp] theorem e_tgTupL (ts : List GT) (ds : List D) : tgTup ts (.lst ds) σ = tgs ts ds σ := rfl
@[simp] theorem e_tgs_nil : tgs [] [] σ = some σ := rfl
@[simp] theorem e_tgs_cons (t : GT) (ts : List GT) (d : D) (ds : List D) : tgs (t :: ts) (d :: ds) σ = (t d σ).bind fun σ' => tgs ts ds σ' := rfl
@[simp] theorem e_wipe_nil : wipeS σ [] = σ := rfl
@[simp] theorem e_wipe_cons (v : Nat) (vs : List Nat) : wipeS σ (v :: vs) = (wipeS σ vs).set v .no := rfl
@[simp] theorem e_yes : tYesM σ h = .ok true h := rfl
@[simp] theorem e_eFrz (m : LM) : eFrz m σ h = (m σ h).bind fun xs h1 => .ok (.lst xs) h1 := rfl
@[simp] theorem e_sNil : sNil σ h = .nx σ h := rfl
@[simp] theorem e_sSeq (a b : SM) : sSeq a b σ h = match a σ h with | .nx σ' h' => b σ' h' | r => r := rfl
@[simp] theorem e_sBreak : sBreak σ h = .bk σ h := rfl
@[simp] theorem e_sCont : sCont σ h = .ct σ h := rfl
@[simp] theorem e_eDo_ok {α : Type} (a : α) (f : α → Hs → RS) : eDo (.ok a h) f = f a h := rfl
@[simp] theorem e_sExpr (m : EM) : sExpr m σ h = eDo (m σ h) fun _ h1 => .nx σ h1 := rfl
@[simp] theorem e_sRet (m : EM) : sRet m σ h = eDo (m σ h) fun d h1 => .rt d h1 := rfl
@[simp] theorem e_sRetN : sRetN σ h = .rt .non h := rfl
@[simp] theorem e_sIf (t : TM) (m n : SM) : sIf t m n σ h = eDo (t σ h) fun b h1 => match b with | true => m σ h1 | false => n σ h1 := rfl
@[simp] theorem e_xVal (m : EM) : xVal m σ h = (m σ h).bind fun d h1 => .ok (.val d) h1 := rfl
@[simp] theorem e_xOwn (m : LM) : xOwn m σ h = (m σ h).bind fun xs h1 => .ok (.own xs) h1 := rfl
@[simp] theorem e_xHeap (m : LM) : xHeap m σ h = (m σ h).bind fun xs h1 => .ok (.val (.ref h1.length)) (h1 ++ [.lst xs]) := rfl
@[simp] theorem e_sSet (i : Nat) (m : XM) : sSet i m σ h = eDo (m σ h) fun s h1 => match setS σ i s with | some σ' => .nx σ' h1 | none => .bad := rfl
@[simp] theorem e_sAsg (t : GT) (m : EM) : sAsg t m σ h = eDo (m σ h) fun d h1 => match t d σ with | some σ' => .nx σ' h1 | none => .bad := rfl
@[simp] theorem e_sFrz (is : List Nat) (m : SM) : sFrz is m σ h = m (is.foldl frzS σ) h := rfl
@[simp] theorem e_frzS (i : Nat) : frzS σ i = match σ[i]? with | some (.own xs) => σ.set i (.val (.lst xs)) | some (.ownd kvs) => σ.set i (.val (.dct kvs)) | _ => σ := rfl
@[simp] theorem e_lLst (ms : AM) : lLst ms σ h = (ms σ h).bind fun xs h1 => if xs.length ≤ 16777216 then .ok xs h1 else .bad := rfl
@[simp] theorem e_lListOf (ms : AM) : lListOf ms σ h = (ms σ h).bind fun xs h1 => match xs with | [.scr ys] => .ok ys h1 | [x] => optR (asS h1 x) h1 | _ => .bad := rfl
@[simp] theorem e_xsNil : xsNil σ h = .ok [] h := rfl
@[simp] theorem e_xsCons (m : XM) (ms : Sg → Hs → R (List Sl)) : xsCons m ms σ h = (m σ h).bind fun x h1 => (ms σ h1).bind fun xs h2 => .ok (x :: xs) h2 := rfl
@[simp] theorem e_optS_some (s : Sg) : optS (some s) h = .nx s h := rfl
@[simp] theorem e_sPar2 (i j : Nat) (m : Sg → Hs → R (List Sl)) : sPar2 i j m σ h = eDo (m σ h) fun ss h1 => match ss with
  | [s, t] => if s.plain && t.plain then optS ((setS σ i s).bind fun σ1 => setS σ1 j t) h1 else .bad
  | _ => .bad := rfl
@[simp] theorem e_sPar3 (i j k : Nat) (m : Sg → Hs → R (List Sl)) : sPar3 i j k m σ h = eDo (m σ h) fun ss h1 => match ss with
  | [s, t, u] => if s.plain && t.plain && u.plain then optS (((setS σ i s).bind fun σ1 => setS σ1 j t).bind fun σ2 => setS σ2 k u) h1 else .bad
  | _ => .bad := rfl
@[simp] theorem e_eFn (n : Nat) (f : FD) (ms : AM) : eFn n f ms σ h = (ms σ h).bind fun xs h1 => if xs.length = n then f xs h1 else .bad := rfl
@[simp] theorem e_eFnK (n m k : Nat) (is : List Nat) (f : FD) (ms mk : AM) : eFnK n m k is f ms mk σ h = (ms σ h).bind fun xs h1 => (mk σ h1).bind fun zs h2 => if xs.length = m ∧ zs.length = k ∧ (permL is (xs ++ zs)).length = n then f (permL is (xs ++ zs)) h2 else .bad := rfl
@[simp] theorem e_eInG (kvs : KVs) (neg : Bool) (m : EM) : eInG kvs neg m σ h = (m σ h).bind fun x h1 => match x with | .str c => .ok (.bl ((kvs.lookup c).isSome != neg)) h1 | _ => .bad := rfl
@[simp] theorem e_eGetG (kvs : KVs) (m : EM) : eGetG kvs m σ h = (m σ h).bind fun x h1 => match x with | .str c => (match kvs.lookup c with | some d => .ok d h1 | none => .bad) | _ => .bad := rfl
@[simp] theorem e_sAppend (i : Nat) (m : EM) : sAppend i m σ h = match plOf σ h i with
  | none => .bad
  | some _ => eDo (m σ h) fun d h1 => match plOf σ h1 i with
    | some pl => if pl.items.length < 16777216 then plSet σ h1 i pl (pl.items ++ [d]) else .bad
    | none => .bad := rfl
@[simp] theorem e_sStore (i : Nat) (m mi : EM) : sStore i m mi σ h = eDo (m σ h) fun d h1 => match plOf σ h1 i with
  | none => .bad
  | some _ => eDo (mi σ h1) fun k h2 => match k, plOf σ h2 i with
    | .int k, some pl => match ixN pl.items.length k with
      | some j => plSet σ h2 i pl (pl.items.set j d)
      | none => .bad
    | _, _ => .bad := rfl
@[simp] theorem e_plOf (i : Nat) : plOf σ h i = match σ[i]? with
  | some (.own xs) => some (.own xs)
  | some (.val (.ref n)) => (match h[n]? with
    | some (.lst xs) => some (.hp n xs)
    | _ => none)
  | _ => none := rfl
@[simp] theorem e_pl_own (xs : List D) : (Pl.own xs).items = xs := rfl
@[simp] theorem e_pl_hp (n : Nat) (xs : List D) : (Pl.hp n xs).items = xs := rfl
@[simp] theorem e_plSet_own (i : Nat) (xs ys : List D) : plSet σ h i (.own xs) ys = .nx (σ.set i (.own ys)) h := rfl
@[simp] theorem e_plSet_hp (i n : Nat) (xs ys : List D) : plSet σ h i (.hp n xs) ys = .nx σ (h.set n (.lst ys)) := rfl
@[simp] theorem e_sAug (i : Nat) (g : G2) (m : EM) : sAug i g m σ h = match σ[i]? with
  | some (.val x) => eDo (m σ h) fun y h1 => (match g h1 x y with
    | some d => optS (setS σ i (.val d)) h1
    | none => .bad)
  | _ => .bad := rfl
@[simp] theorem e_sAugS (i : Nat) (g : G2) (mi m : EM) : sAugS i g mi m σ h = match plOf σ h i with
  | none => .bad
  | some _ => eDo (mi σ h) fun k h1 => match k, plOf σ h1 i with
    | .int k, some pl0 => (match atI pl0.items k with
      | none => .bad
      | some x => eDo (m σ h1) fun y h2 => match g h2 x y, plOf σ h2 i with
        | some d, some pl => (match ixN pl.items.length k with
          | some j => plSet σ h2 i pl (pl.items.set j d)
          | none => .bad)
        | _, _ => .bad)
    | _, _ => .bad := rfl
@[simp] theorem e_loop_nx (k : Sg → Hs → RS) : (RS.nx σ h).loop k = k σ h := rfl
@[simp] theorem e_loop_ct (k : Sg → Hs → RS) : (RS.ct σ h).loop k = k σ h := rfl
@[simp] theorem e_loop_bk (k : Sg → Hs → RS) : (RS.bk σ h).loop k = .nx σ h := rfl
@[simp] theorem e_loop_rt (d : D) (k : Sg → Hs → RS) : (RS.rt d h).loop k = .rt d h := rfl
@[simp] theorem e_sFor (m : IM) (t : GT) (body : SM) : sFor m t body σ h = eDo (m σ h) fun xs h1 => forGo t body xs σ h1 := rfl
@[simp] theorem e_defF (n : Nat) (body : SM) (ds : List D) : defF n body ds h = match body (startS n ds) h with | .nx _ h' => .ok .non h' | .rt d h' => .ok d h' | _ => .bad := rfl
@[simp] theorem e_startS (n : Nat) (ds : List D) : startS n ds = ds.map .val ++ List.replicate (n - ds.length) .no := rfl
end
section
variable {h : Hs}
@[simp] theorem g_addI (i j : Int) : gAdd h (.int i) (.int j) = some (.int (i + j)) := rfl
@[simp] theorem g_addS (a b : List Nat) : gAdd h (.str a) (.str b) = if a.length + b.length ≤ 16777216 then some (.str (a ++ b)) else none := rfl
@[simp] theorem g_addT (a b : List D) : gAdd h (.tup a) (.tup b) = if a.length + b.length ≤ 16777216 then some (.tup (a ++ b)) else none := rfl
@[simp] theorem g_addL (a b : List D) : gAdd h (.lst a) (.lst b) = if a.length + b.length ≤ 16777216 then some (.lst (a ++ b)) else none := rfl
@[simp] theorem g_iaddI (i j : Int) : gIAdd h (.int i) (.int j) = some (.int (i + j)) := rfl
@[simp] theorem g_iaddS (a b : List Nat) : gIAdd h (.str a) (.str b) = if a.length + b.length ≤ 16777216 then some (.str (a ++ b)) else none := rfl
@[simp] theorem g_sub (i j : Int) : gSub h (.int i) (.int j) = some (.int (i - j)) := rfl
@[simp] theorem g_mulI (i j : Int) : gMul h (.int i) (.int j) = (if cMul i j then some (D.int (i * j)) else none).or (gRep h (.int i) (.int j)) := rfl
theorem g_mulOk {i j : Int} (c : cMul i j = true) : gMul h (.int i) (.int j) = some (.int (i * j)) := by rw [g_mulI, if_pos c]; rfl
@[simp] theorem g_xor (i j : Int) : gXor h (.int i) (.int j) = some (.int (Builtin.bitXor i j)) := rfl
@[simp] theorem g_and (i j : Int) : gAnd h (.int i) (.int j) = some (.int (Builtin.bitAnd i j)) := rfl
@[simp] theorem g_or (i j : Int) : gOr h (.int i) (.int j) = some (.int (Builtin.bitOr i j)) := rfl
theorem g_mod {i j : Int} (c : 0 < j) : gMod h (.int i) (.int j) = some (.int (i % j)) := if_pos (decide_eq_true c)
theorem g_fdiv {i j : Int} (c : 0 < j) (l : j.natAbs.log2 < 9000) : gFdiv h (.int i) (.int j) = some (.int (i / j)) := if_pos (by rw [Bool.and_eq_true]; exact ⟨decide_eq_true c, decide_eq_true l⟩)
@[simp] theorem g_ltI (i j : Int) : gLt h (.int i) (.int j) = some (.bl (decide (i < j))) := rfl
@[simp] theorem g_ltS (i j : List Nat) : gLt h (.str i) (.str j) = some (.bl (decide (i < j))) := rfl
@[simp] theorem g_ltT (i j : List D) : gLt h (.tup i) (.tup j) = match toInts i, toInts j with | some ns, some ms => some (.bl (HT.lexLt ns ms)) | _, _ => none := rfl
@[simp] theorem g_leI (i j : Int) : gLeI h (.int i) (.int j) = some (.bl (decide (i ≤ j))) := rfl
@[simp] theorem g_gt (i j : Int) : gGt h (.int i) (.int j) = some (.bl (decide (j < i))) := rfl
@[simp] theorem g_ge (i j : Int) : gGe h (.int i) (.int j) = some (.bl (decide (j ≤ i))) := rfl
@[simp] theorem g_isN (x : D) : gIsN h x .non = some (.bl (isN x)) := rfl
@[simp] theorem g_notN (x : D) : gNotN h x .non = some (.bl (!isN x)) := rfl
@[simp] theorem g_eqI (i j : Int) : gEq h (.int i) (.int j) = some (.bl (i == j)) := rfl
@[simp] theorem g_neI (i j : Int) : gNe h (.int i) (.int j) = some (.bl (!(i == j))) := rfl
@[simp] theorem g_eqS (i j : List Nat) : gEq h (.str i) (.str j) = some (.bl (i == j)) := rfl
@[simp] theorem g_neS (i j : List Nat) : gNe h (.str i) (.str j) = some (.bl (!(i == j))) := rfl
@[simp] theorem g_eqB (i j : Bool) : gEq h (.bl i) (.bl j) = some (.bl (i == j)) := rfl
@[simp] theorem g_neB (i j : Bool) : gNe h (.bl i) (.bl j) = some (.bl (!(i == j))) := rfl
@[simp] theorem g_lenS (l : List Nat) : gLen h [.str l] = if l.length ≤ 16777216 then some (.int l.length) else none := rfl
@[simp] theorem g_lenT (l : List D) : gLen h [.tup l] = some (.int l.length) := rfl
@[simp] theorem g_lenL (l : List D) : gLen h [.lst l] = some (.int l.length) := rfl
@[simp] theorem g_intI (i : Int) : gIntA h [.int i] = some (.int i) := rfl
@[simp] theorem g_intB (b : Bool) : gIntA h [.bl b] = some (.int (if b then 1 else 0)) := rfl
@[simp] theorem g_strI (i : Int) : gStrI h [.int i] = if i.natAbs.log2 < 1920 then some (.str (strI i)) else none := rfl
@[simp] theorem g_min2 (i j : Int) : gMin2 h [.int i, .int j] = some (.int (if j < i then j else i)) := rfl
@[simp] theorem g_max2 (i j : Int) : gMax2 h [.int i, .int j] = some (.int (if j > i then j else i)) := rfl
@[simp] theorem g_tupL (l : List D) : gTuple h [.lst l] = some (.tup l) := rfl
@[simp] theorem g_tupT (l : List D) : gTuple h [.tup l] = some (.tup l) := rfl
@[simp] theorem g_atT (l : List D) (i : Int) : atD h (.tup l) (.int i) = atI l i := rfl
@[simp] theorem g_atL (l : List D) (i : Int) : atD h (.lst l) (.int i) = atI l i := rfl
@[simp] theorem g_atR (n : Nat) (i : Int) : atD h (.ref n) (.int i) = match h[n]? with | some (.lst xs) => atI xs i | _ => none := by
  show ((match h[n]? with | some (.lst xs) => some xs | _ => none).bind fun xs => atI xs i) = _
  cases h[n]? with
  | none => rfl
  | some o => cases o <;> rfl
@[simp] theorem g_atS (l : List Nat) (i : Int) : atD h (.str l) (.int i) = if l.length ≤ 16777216 then (atI l i).map fun c => .str [c] else none := rfl
@[simp] theorem g_sliceT (l : List D) (lo hi : Option Int) : sliceD h (.tup l) lo hi = some (.tup (cutL l lo hi)) := rfl
@[simp] theorem g_sliceL (l : List D) (lo hi : Option Int) : sliceD h (.lst l) lo hi = some (.lst (cutL l lo hi)) := rfl
@[simp] theorem g_sliceS (l : List Nat) (lo hi : Option Int) : sliceD h (.str l) lo hi = if l.length ≤ 16777216 then some (.str (cutL l lo hi)) else none := rfl
@[simp] theorem g_itemsL (l : List D) : itemsD (.lst l) = some l := rfl
@[simp] theorem g_itemsT (l : List D) : itemsD (.tup l) = some l := rfl
@[simp] theorem g_itemsS (l : List Nat) : itemsD (.str l) = some (l.map fun c => .str [c]) := rfl
@[simp] theorem g_fmtI (i : Int) : fmtD (.int i) = if i.natAbs.log2 < 1920 then some (strI i) else none := rfl
@[simp] theorem g_fmtS (l : List Nat) : fmtD (.str l) = if l.length ≤ 16777216 then some l else none := rfl
end
@[simp] theorem t_int_int (i : Int) : isTy .int (.int i) = true := rfl
@[simp] theorem t_int_bl (i : Bool) : isTy .int (.bl i) = true := rfl
@[simp] theorem t_bool_int (i : Int) : isTy .bool (.int i) = false := rfl
@[simp] theorem t_bool_bl (i : Bool) : isTy .bool (.bl i) = true := rfl
@[simp] theorem t_bool_str (i : List Nat) : isTy .bool (.str i) = false := rfl
@[simp] theorem t_str_str (i : List Nat) : isTy .str (.str i) = true := rfl
@[simp] theorem t_str_int (i : Int) : isTy .str (.int i) = false := rfl
@[simp] theorem t_int_str (i : List Nat) : isTy .int (.str i) = false := rfl
@[simp] theorem t_tup_tup (i : List D) : isTy .tuple (.tup i) = true := rfl
@[simp] theorem t_tup_lst (i : List D) : isTy .tuple (.lst i) = false := rfl
@[simp] theorem t_lst_tup (i : List D) : isTy .list (.tup i) = false := rfl
@[simp] theorem t_lst_lst (i : List D) : isTy .list (.lst i) = true := rfl
@[simp] theorem t_tup_str (i : List Nat) : isTy .tuple (.str i) = false := rfl
@[simp] theorem t_lst_str (i : List Nat) : isTy .list (.str i) = false := rfl
@[simp] theorem t_tup_int (i : Int) : isTy .tuple (.int i) = false := rfl
@[simp] theorem t_lst_int (i : Int) : isTy .list (.int i) = false := rfl
@[simp] theorem t_tup_bl (i : Bool) : isTy .tuple (.bl i) = false := rfl
@[simp] theorem t_lst_bl (i : Bool) : isTy .list (.bl i) = false := rfl
@[simp] theorem t_str_bl (i : Bool) : isTy .str (.bl i) = false := rfl
@[simp] theorem y_int (i : Int) : tyOk (.int i) = true := rfl
@[simp] theorem y_bl (i : Bool) : tyOk (.bl i) = true := rfl
@[simp] theorem y_str (i : List Nat) : tyOk (.str i) = true := rfl
@[simp] theorem y_tup (i : List D) : tyOk (.tup i) = true := rfl
@[simp] theorem y_lst (i : List D) : tyOk (.lst i) = true := rfl
@[simp] theorem y_non : tyOk .non = true := rfl
@[simp] theorem a_nat {α : Type} (xs : List α) (n : Nat) : atI xs (n : Int) = xs[n]? := by
  unfold atI ixN
  rw [if_pos (by omega)]
  by_cases hn : n < xs.length
  · rw [if_pos (by omega)]; simp
  · rw [if_neg (by omega), List.getElem?_eq_none (by omega)]; rfl
@[simp] theorem a_0 {α : Type} (xs : List α) : atI xs 0 = xs[0]? := a_nat xs 0
@[simp] theorem a_1 {α : Type} (xs : List α) : atI xs 1 = xs[1]? := a_nat xs 1
@[simp] theorem a_2 {α : Type} (xs : List α) : atI xs 2 = xs[2]? := a_nat xs 2
@[simp] theorem a_3 {α : Type} (xs : List α) : atI xs 3 = xs[3]? := a_nat xs 3
@[simp] theorem a_4 {α : Type} (xs : List α) : atI xs 4 = xs[4]? := a_nat xs 4
@[simp] theorem a_5 {α : Type} (xs : List α) : atI xs 5 = xs[5]? := a_nat xs 5
@[simp] theorem a_6 {α : Type} (xs : List α) : atI xs 6 = xs[6]? := a_nat xs 6
@[simp] theorem ix_nat (m n : Nat) : ixN m (n : Int) = if n < m then some n else none := by
  unfold ixN
  rw [if_pos (by omega)]
  by_cases hn : n < m
  · rw [if_pos (by omega), if_pos hn]; simp
  · rw [if_neg (by omega), if_neg hn]
@[simp] theorem ix_0 (m : Nat) : ixN m 0 = if 0 < m then some 0 else none := ix_nat m 0
@[simp] theorem ix_1 (m : Nat) : ixN m 1 = if 1 < m then some 1 else none := ix_nat m 1
@[simp] theorem ix_2 (m : Nat) : ixN m 2 = if 2 < m then some 2 else none := ix_nat m 2
@[simp] theorem ix_3 (m : Nat) : ixN m 3 = if 3 < m then some 3 else none := ix_nat m 3
@[simp] theorem cut_from {α : Type} (xs : List α) (k : Nat) : cutL xs (some (k : Int)) none = xs.drop k := by
  unfold cutL
  rw [HT.sIx_nat, HT.sIx_none, List.take_of_length_le (by simp)]
  by_cases hk : k ≤ xs.length
  · rw [Nat.min_eq_left hk]
  · rw [Nat.min_eq_right (by omega), List.drop_eq_nil_of_le (Nat.le_refl _), List.drop_eq_nil_of_le (by omega)]
@[simp] theorem cut_to {α : Type} (xs : List α) (k : Nat) : cutL xs none (some (k : Int)) = xs.take k := by
  unfold cutL
  rw [HT.sIx_nat, HT.sIx_none, Nat.sub_zero, List.drop_zero]
  by_cases hk : k ≤ xs.length
  · rw [Nat.min_eq_left hk]
  · rw [Nat.min_eq_right (by omega), List.take_of_length_le (Nat.le_refl _), List.take_of_length_le (by omega)]
@[simp] theorem cut_from1 {α : Type} (xs : List α) : cutL xs (some 1) none = xs.drop 1 := cut_from xs 1
@[simp] theorem cut_to2 {α : Type} (xs : List α) : cutL xs none (some 2) = xs.take 2 := cut_to xs 2
@[simp] theorem cut_to4 {α : Type} (xs : List α) : cutL xs none (some 4) = xs.take 4 := cut_to xs 4
theorem lcGo_map {t : GT} {te : EM} {σ : Sg} {h : Hs} {f : D → D} : ∀ xs : List D, (∀ x ∈ xs, ∃ σ', t x σ = some σ' ∧ te σ' h = .ok (f x) h) → lcGo t tYesM te σ xs h = .ok (xs.map f) h
  | [], _ => rfl
  | x :: xs, H => by
    obtain ⟨σ', e1, e2⟩ := H x (List.mem_cons_self ..)
    unfold lcGo
    rw [e1]
    simp only [e_yes, R.bind_ok, e2, lcGo_map xs fun y m => H y (List.mem_cons_of_mem _ m), List.map_cons]
theorem lc_map {m : IM} {t : GT} {te : EM} {vs : List Nat} {σ : Sg} {h : Hs} {xs : List D} (f : D → D) (hm : m σ h = .ok xs h) (hl : xs.length ≤ 16777216) (H : ∀ x ∈ xs, ∃ σ', t x (wipeS σ vs) = some σ' ∧ te σ' h = .ok (f x) h) : lcL m t tYesM te vs σ h = .ok (xs.map f) h := by
  unfold lcL
  rw [hm, R.bind_ok]
  exact (if_pos hl).trans (lcGo_map xs H)
theorem toBls_map {α : Type} (xs : List α) (p : α → Bool) : toBls (xs.map fun x => .bl (p x)) = some (xs.map p) := by
  induction xs with
  | nil => rfl
  | cons x xs ih => rw [List.map_cons]; unfold toBls; rw [ih]; rfl
@[simp] theorem g_all {α : Type} {h : Hs} (xs : List α) (p : α → Bool) : gAll h [.lst (xs.map fun x => .bl (p x))] = some (.bl (xs.all p)) := by
  show ((some (xs.map fun x => D.bl (p x))).bind toBls).map _ = _
  rw [Option.bind_some, toBls_map]
  simp
@[simp] theorem all_true {α : Type} (xs : List α) : xs.all (fun _ => true) = true := by simp [List.all_eq_true]
@[simp] theorem g_allR {h : Hs} (n : Nat) : gAll h [.lst (List.replicate n (.bl true))] = some (.bl true) := by
  have e : toBls (List.replicate n (.bl true)) = some (List.replicate n true) := by
    induction n with
    | zero => rfl
    | succ n ih => rw [List.replicate_succ]; unfold toBls; rw [ih]; rfl
  show ((some (List.replicate n (D.bl true))).bind toBls).map _ = _
  rw [Option.bind_some, e]
  simp
theorem all_yes {m : IM} {t : GT} {te : EM} {vs : List Nat} {σ : Sg} {h : Hs} {xs : List D} (hm : m σ h = .ok xs h) (hl : xs.length ≤ 16777216) (H : ∀ x ∈ xs, ∃ σ', t x (wipeS σ vs) = some σ' ∧ te σ' h = .ok (.bl true) h) :
    eCall gAll (aCons (eFrz (lcL m t tYesM te vs)) aNil) σ h = .ok (.bl true) h := by
  have e := lc_map (fun _ => .bl true) hm hl H
  have e2 := g_all (h := h) xs fun _ => true
  simp only [e_eCall, e_aCons, e_eFrz, e, R.bind_ok, e_aNil, e2]
  simp
end WC
set_option Elab.async false
set_option linter.all false
set_option maxRecDepth 100000
namespace WC
open PySem PySem.Spec PyProof.Rows L2
structure St where
  a : Int
  b : Int
  c : Int
  d : Int
  cells : List Int
abbrev St.ob (s : St) : Ob := .lst [.int s.a, .int s.b, .int s.c, .int s.d, .lst (s.cells.map .int)]
structure St.Ok (n : Nat) (s : St) : Prop where
  a : 0 ≤ s.a
  b : 0 ≤ s.b
  b2 : s.b < 2147483587
  c : 0 ≤ s.c
  c2 : s.c + n ≤ 1000000000000000000
  d : 0 ≤ s.d
  d2 : s.d ≤ 63
  cl : s.cells.length ≤ 63
theorem St.Ok.mono {n m : Nat} {s : St} (o : s.Ok n) (h : m ≤ n) : s.Ok m := ⟨o.a, o.b, o.b2, o.c, by have := o.c2; omega, o.d, o.d2, o.cl⟩
def drawB : SM := (sSeq (sAugS 0 gIAdd (eC (.int 2)) (eC (.int 1)))
  (sSeq (sIf (tAnd (tB (eOp gEq (eOp atD (oVar 0) (eC (.int 0))) (eC (.int 0)))) (tB (eOp gLt (eOp atD (oVar 0) (eC (.int 3))) (eCall gLen (aCons (eOp atD (oVar 0) (eC (.int 4))) aNil)))))
  (sSeq (sSet 2 (xVal (eOp atD (eOp atD (oVar 0) (eC (.int 4))) (eOp atD (oVar 0) (eC (.int 3))))))
  (sSeq (sAugS 0 gIAdd (eC (.int 3)) (eC (.int 1)))
  (sIf (tB (eOp gGe (oVar 2) (eOp gPow (eC (.int 10)) (eC (.int 18)))))
  (sStore 0 (eOp gSub (oVar 2) (eOp gPow (eC (.int 10)) (eC (.int 18)))) (eC (.int 0)))
  (sSeq (sSet 3 (xVal (eOp gMod (eCall gIntA (aCons (oVar 2) aNil)) (eC (.int 998244353)))))
  (sStore 0 (eOp gMod (eCall gIntA (aCons (eOp gAdd (eOp gAdd (eOp gAdd (eOp gMul (eOp atD (oVar 0) (eC (.int 1))) (eC (.int 69069))) (eOp gMul (oVar 3) (oVar 3))) (eOp gMul (eC (.int 7)) (oVar 3))) (eOp gMul (eC (.int 3)) (eOp atD (oVar 0) (eC (.int 3))))) aNil)) (eC (.int 2147483587))) (eC (.int 1)))))))
  sNil)
  (sSeq (sIf (tB (eOp gGt (eOp atD (oVar 0) (eC (.int 0))) (eC (.int 0))))
  (sSeq (sSet 4 (xVal (eOp gMod (eCall gIntA (aCons (eOp atD (oVar 0) (eC (.int 0))) aNil)) (oVar 1))))
  (sSeq (sStore 0 (eOp gFdiv (eOp atD (oVar 0) (eC (.int 0))) (oVar 1)) (eC (.int 0)))
  (sRet (eVar 4))))
  sNil)
  (sSeq (sStore 0 (eOp gMod (eCall gIntA (aCons (eOp gAdd (eOp gAdd (eOp gMul (eOp atD (oVar 0) (eC (.int 1))) (eOp atD (oVar 0) (eC (.int 1)))) (eOp gMul (eC (.int 16807)) (eOp atD (oVar 0) (eC (.int 2))))) (eC (.int 29))) aNil)) (eC (.int 2147483587))) (eC (.int 1)))
  (sRet (eOp gMod (eCall gIntA (aCons (eOp gAdd (eOp gFdiv (eOp atD (oVar 0) (eC (.int 1))) (eC (.int 16))) (eOp gMul (eOp atD (oVar 0) (eC (.int 2))) (eOp atD (oVar 0) (eC (.int 2))))) aNil)) (oVar 1)))))))
def drawT : SM := (sSeq (sIf (tB (eOp gGt (eOp atD (oVar 0) (eC (.int 0))) (eC (.int 0))))
  (sSeq (sSet 4 (xVal (eOp gMod (eCall gIntA (aCons (eOp atD (oVar 0) (eC (.int 0))) aNil)) (oVar 1))))
  (sSeq (sStore 0 (eOp gFdiv (eOp atD (oVar 0) (eC (.int 0))) (oVar 1)) (eC (.int 0)))
  (sRet (eVar 4))))
  sNil)
  (sSeq (sStore 0 (eOp gMod (eCall gIntA (aCons (eOp gAdd (eOp gAdd (eOp gMul (eOp atD (oVar 0) (eC (.int 1))) (eOp atD (oVar 0) (eC (.int 1)))) (eOp gMul (eC (.int 16807)) (eOp atD (oVar 0) (eC (.int 2))))) (eC (.int 29))) aNil)) (eC (.int 2147483587))) (eC (.int 1)))
  (sRet (eOp gMod (eCall gIntA (aCons (eOp gAdd (eOp gFdiv (eOp atD (oVar 0) (eC (.int 1))) (eC (.int 16))) (eOp gMul (eOp atD (oVar 0) (eC (.int 2))) (eOp atD (oVar 0) (eC (.int 2))))) aNil)) (oVar 1)))))
theorem cMul_l {i j : Int} (h : i.natAbs < 2 ^ 64) : cMul i j = true := by unfold cMul; rw [decide_eq_true h]; rfl
theorem cMul_r {i j : Int} (h : j.natAbs < 2 ^ 64) : cMul i j = true := by unfold cMul; rw [decide_eq_true h]; simp
theorem log_small {m : Int} (h0 : 0 < m) (h : m < 2 ^ 200) : m.natAbs.log2 < 9000 := by
  have : m.natAbs < 2 ^ 200 := by omega
  have h2 := (Nat.log2_lt (by omega : m.natAbs ≠ 0)).mpr this
  omega
theorem drawT_ok {n : Nat} {s : St} {T : Hs} {m : Int} {x2 x3 : Sl} (o : s.Ok n) (h1 : 1 ≤ m) (h2 : m < 2 ^ 200) (n2 : ∀ xs, x2 ≠ .lent xs) (n3 : ∀ xs, x3 ≠ .lent xs) : ∃ (r : Int) (s' : St), drawT [.val (.ref 0), .val (.int m), x2, x3, .no] (s.ob :: T) = .rt (.int r) (s'.ob :: T) ∧ 0 ≤ r ∧ r < m ∧ s'.Ok n := by
  obtain ⟨a, b, c, d, cells⟩ := s
  obtain ⟨oa, ob, ob2, oc, oc2, od, od2, ol⟩ := o
  simp only at oa ob ob2 oc oc2 od od2 ol
  have p16 : (16 : Int).natAbs.log2 < 9000 := by decide +kernel
  have pm := log_small (by omega : 0 < m) h2
  by_cases ha : 0 < a
  · refine ⟨a % m, ⟨a / m, b, c, d, cells⟩, ?_, Int.emod_nonneg _ (by omega), Int.emod_lt_of_pos _ (by omega), ⟨Int.ediv_nonneg oa (by omega), ob, ob2, oc, oc2, od, od2, ol⟩⟩
    simp [drawT, ha, g_mod (show 0 < m by omega), g_fdiv (show 0 < m by omega) pm]
  · have m1 : cMul b b = true := cMul_l (by omega)
    have m2 : cMul 16807 c = true := cMul_l (by decide)
    have m3 : cMul c c = true := cMul_l (by omega)
    refine ⟨((b * b + 16807 * c + 29) % 2147483587 / 16 + c * c) % m, ⟨a, (b * b + 16807 * c + 29) % 2147483587, c, d, cells⟩, ?_, Int.emod_nonneg _ (by omega), Int.emod_lt_of_pos _ (by omega), ⟨oa, Int.emod_nonneg _ (by omega), Int.emod_lt_of_pos _ (by omega), oc, oc2, od, od2, ol⟩⟩
    simp [drawT, ha, g_mod (show 0 < m by omega), g_mod (show (0 : Int) < 2147483587 by decide), g_fdiv (show (0 : Int) < 16 by decide) p16, g_mulOk m1, g_mulOk m2, g_mulOk m3]
theorem e_draw : drawB = sSeq (sAugS 0 gIAdd (eC (.int 2)) (eC (.int 1))) (sSeq (sIf (tAnd (tB (eOp gEq (eOp atD (oVar 0) (eC (.int 0))) (eC (.int 0)))) (tB (eOp gLt (eOp atD (oVar 0) (eC (.int 3))) (eCall gLen (aCons (eOp atD (oVar 0) (eC (.int 4))) aNil)))))
  (sSeq (sSet 2 (xVal (eOp atD (eOp atD (oVar 0) (eC (.int 4))) (eOp atD (oVar 0) (eC (.int 3))))))
  (sSeq (sAugS 0 gIAdd (eC (.int 3)) (eC (.int 1)))
  (sIf (tB (eOp gGe (oVar 2) (eOp gPow (eC (.int 10)) (eC (.int 18)))))
  (sStore 0 (eOp gSub (oVar 2) (eOp gPow (eC (.int 10)) (eC (.int 18)))) (eC (.int 0)))
  (sSeq (sSet 3 (xVal (eOp gMod (eCall gIntA (aCons (oVar 2) aNil)) (eC (.int 998244353)))))
  (sStore 0 (eOp gMod (eCall gIntA (aCons (eOp gAdd (eOp gAdd (eOp gAdd (eOp gMul (eOp atD (oVar 0) (eC (.int 1))) (eC (.int 69069))) (eOp gMul (oVar 3) (oVar 3))) (eOp gMul (eC (.int 7)) (oVar 3))) (eOp gMul (eC (.int 3)) (eOp atD (oVar 0) (eC (.int 3))))) aNil)) (eC (.int 2147483587))) (eC (.int 1)))))))
  sNil) drawT) := rfl
theorem g_pow18 {h : Hs} : gPow h (.int 10) (.int 18) = some (.int 1000000000000000000) := by
  show (if cPow 10 18 then some (D.int (10 ^ (18 : Int).toNat)) else none) = _
  rw [if_pos (by decide +kernel)]
  rfl
theorem draw_ok {n : Nat} {s : St} {T : Hs} {m : Int} (o : s.Ok (n + 1)) (h1 : 1 ≤ m) (h2 : m < 2 ^ 200) : ∃ (r : Int) (s' : St), defF 5 drawB [.ref 0, .int m] (s.ob :: T) = .ok (.int r) (s'.ob :: T) ∧ 0 ≤ r ∧ r < m ∧ s'.Ok n := by
  have key : ∃ (s1 : St) (x2 x3 : Sl), (∀ xs, x2 ≠ .lent xs) ∧ (∀ xs, x3 ≠ .lent xs) ∧ s1.Ok n ∧ drawB [.val (.ref 0), .val (.int m), .no, .no, .no] (s.ob :: T) = drawT [.val (.ref 0), .val (.int m), x2, x3, .no] (s1.ob :: T) := by
    obtain ⟨a, b, c, d, cells⟩ := s
    obtain ⟨oa, ob, ob2, oc, oc2, od, od2, ol⟩ := o
    simp only at oa ob ob2 oc oc2 od od2 ol
    obtain ⟨dn, rfl⟩ : ∃ dn : Nat, d = dn := ⟨d.toNat, by omega⟩
    have c1 : (c + 1) + (n : Int) ≤ 1000000000000000000 := by omega
    by_cases hc : a = 0 ∧ dn < cells.length
    · obtain ⟨rfl, hd⟩ := hc
      have hd2 : (dn : Int) < (cells.length : Int) := by omega
      by_cases hb : 1000000000000000000 ≤ cells[dn]
      · refine ⟨⟨cells[dn] - 1000000000000000000, b, c + 1, dn + 1, cells⟩, .val (.int cells[dn]), .no, (by intro xs e; cases e), (by intro xs e; cases e), ⟨by simp only; omega, ob, ob2, by simp only; omega, by simp only; omega, by simp only; omega, by simp only; omega, ol⟩, ?_⟩
        rw [e_draw]
        simp [hd, hd2, hb, g_pow18]
      · have q1 : 0 ≤ cells[dn] % 998244353 := Int.emod_nonneg _ (by omega)
        have q2 : cells[dn] % 998244353 < 998244353 := Int.emod_lt_of_pos _ (by omega)
        have m1 : cMul b 69069 = true := cMul_r (by decide)
        have m2 : cMul (cells[dn] % 998244353) (cells[dn] % 998244353) = true := cMul_r (by omega)
        have m3 : cMul 7 (cells[dn] % 998244353) = true := cMul_l (by decide)
        have m4 : cMul 3 ((dn : Int) + 1) = true := cMul_l (by decide)
        refine ⟨⟨0, (b * 69069 + cells[dn] % 998244353 * (cells[dn] % 998244353) + 7 * (cells[dn] % 998244353) + 3 * ((dn : Int) + 1)) % 2147483587, c + 1, dn + 1, cells⟩, .val (.int cells[dn]), .val (.int (cells[dn] % 998244353)), (by intro xs e; cases e), (by intro xs e; cases e), ⟨by simp only; omega, Int.emod_nonneg _ (by omega), Int.emod_lt_of_pos _ (by omega), by simp only; omega, by simp only; omega, by simp only; omega, by simp only; omega, ol⟩, ?_⟩
        rw [e_draw]
        simp [hd, hd2, hb, g_pow18, g_mod (show (0 : Int) < 998244353 by decide), g_mod (show (0 : Int) < 2147483587 by decide), g_mulOk m1, g_mulOk m2, g_mulOk m3, g_mulOk m4]
    · refine ⟨⟨a, b, c + 1, dn, cells⟩, .no, .no, (by intro xs e; cases e), (by intro xs e; cases e), ⟨oa, ob, ob2, by simp only; omega, by simp only; omega, by simp only; omega, by simp only; omega, ol⟩, ?_⟩
      rw [e_draw]
      by_cases ha : a = 0
      · subst ha
        have hd2 : ¬ (dn : Int) < (cells.length : Int) := by omega
        simp [hd2]
      · have hb : (a == 0) = false := by simpa using ha
        simp [hb]
  obtain ⟨s1, x2, x3, n2, n3, o1, e1⟩ := key
  obtain ⟨r, s', e2, r0, r1, o2⟩ := drawT_ok (T := T) o1 h1 h2 n2 n3
  refine ⟨r, s', ?_, r0, r1, o2⟩
  show (match drawB (startS 5 [.ref 0, .int m]) (s.ob :: T) with | .nx _ h' => R.ok D.non h' | .rt d h' => .ok d h' | _ => .bad) = _
  have : startS 5 [.ref 0, .int m] = [.val (.ref 0), .val (.int m), .no, .no, .no] := rfl
  rw [this, e1, e2]
end WC
set_option Elab.async false
set_option linter.all false
set_option maxRecDepth 100000
namespace WC
open PySem PySem.Spec PyProof.Rows L2
@[simp] theorem sz : sizeLine = 16777216 := rfl
@[simp] theorem pl_val (d : D) : (Sl.val d).plain = true := rfl
@[simp] theorem pl_own (xs : List D) : (Sl.own xs).plain = true := rfl
theorem lc_typed {α : Type} {m : IM} {t : GT} {te : EM} {vs : List Nat} {σ : Sg} {h : Hs} (xs : List α) (c g : α → D) (hm : m σ h = .ok (xs.map c) h) (hl : xs.length ≤ 16777216) (H : ∀ x ∈ xs, ∃ σ', t (c x) (wipeS σ vs) = some σ' ∧ te σ' h = .ok (g x) h) : lcL m t tYesM te vs σ h = .ok (xs.map g) h := by
  unfold lcL
  rw [hm, R.bind_ok, if_pos (by rw [List.length_map]; exact hl)]
  have : ∀ ys : List α, (∀ x ∈ ys, ∃ σ', t (c x) (wipeS σ vs) = some σ' ∧ te σ' h = .ok (g x) h) → lcGo t tYesM te (wipeS σ vs) (ys.map c) h = .ok (ys.map g) h := by
    intro ys
    induction ys with
    | nil => intro _; rfl
    | cons y ys ih =>
      intro H
      obtain ⟨σ', e1, e2⟩ := H y (List.mem_cons_self ..)
      rw [List.map_cons]
      unfold lcGo
      rw [e1]
      simp only [e_yes, R.bind_ok, e2, ih fun y m => H y (List.mem_cons_of_mem _ m), List.map_cons]
  exact this xs H
theorem all_typed {α : Type} {m : IM} {t : GT} {te : EM} {vs : List Nat} {σ : Sg} {h : Hs} (xs : List α) (c : α → D) (p : α → Bool) (hm : m σ h = .ok (xs.map c) h) (hl : xs.length ≤ 16777216) (H : ∀ x ∈ xs, ∃ σ', t (c x) (wipeS σ vs) = some σ' ∧ te σ' h = .ok (.bl (p x)) h) :
    eCall gAll (aCons (eFrz (lcL m t tYesM te vs)) aNil) σ h = .ok (.bl (xs.all p)) h := by
  have e := lc_typed xs c (fun x => .bl (p x)) hm hl H
  simp only [e_eCall, e_aCons, e_eFrz, e, R.bind_ok, e_aNil, g_all, e_optR_some]
theorem toStrs_map {α : Type} (xs : List α) (p : α → List Nat) : toStrs (xs.map fun x => .str (p x)) = some (xs.map p) := by
  induction xs with
  | nil => rfl
  | cons x xs ih => rw [List.map_cons]; unfold toStrs; rw [ih]; rfl
@[simp] theorem toStrs_nil : toStrs [] = some [] := rfl
@[simp] theorem toStrs_cons (x : List Nat) (xs : List D) : toStrs (.str x :: xs) = (toStrs xs).map (x :: ·) := rfl
theorem g_join {h : Hs} {a : List Nat} {ys : List D} {ps : List (List Nat)} (e : toStrs ys = some ps) (hl : (ps.map (·.length)).sum + ps.length * a.length ≤ 16777216) : gJoin h (.str a) [.lst ys] = some (.str (joinD a ps)) := by
  show ((some ys).bind toStrs).bind _ = _
  rw [Option.bind_some, e, Option.bind_some, if_pos hl]
theorem g_joinT {h : Hs} {a : List Nat} {ys : List D} {ps : List (List Nat)} (e : toStrs ys = some ps) (hl : (ps.map (·.length)).sum + ps.length * a.length ≤ 16777216) : gJoin h (.str a) [.tup ys] = some (.str (joinD a ps)) := by
  show ((some ys).bind toStrs).bind _ = _
  rw [Option.bind_some, e, Option.bind_some, if_pos hl]
theorem parts_le {α : Type} {xs : List α} {p : α → List Nat} {b : Nat} (H : ∀ x ∈ xs, (p x).length ≤ b) : ((xs.map p).map (·.length)).sum ≤ xs.length * b := by
  induction xs with
  | nil => simp
  | cons x xs ih =>
    have h1 := H x (List.mem_cons_self ..)
    have h2 := ih fun y m => H y (List.mem_cons_of_mem _ m)
    simp only [List.map_cons, List.sum_cons, List.length_cons]
    have : (xs.length + 1) * b = xs.length * b + b := Nat.succ_mul ..
    omega
theorem join_le : ∀ (S : List Nat) (ps : List (List Nat)), (joinD S ps).length ≤ (ps.map (·.length)).sum + ps.length * S.length
  | _, [] => by simp [joinD]
  | _, [p] => by simp [joinD]
  | S, p :: q :: r => by
    have ih := join_le S (q :: r)
    have e : (joinD S (p :: q :: r)).length = p.length + (S.length + (joinD S (q :: r)).length) := by
      show (p ++ (S ++ joinD S (q :: r))).length = _
      simp
    rw [e]
    simp only [List.map_cons, List.sum_cons, List.length_cons] at ih ⊢
    have : (r.length + 1 + 1) * S.length = (r.length + 1) * S.length + S.length := Nat.succ_mul ..
    omega
theorem g_joinM {α : Type} {h : Hs} {a : List Nat} {xs : List α} {p : α → List Nat} (b : Nat) (H : ∀ x ∈ xs, (p x).length ≤ b) (hl : xs.length * (b + a.length) ≤ 16777216) : gJoin h (.str a) [.lst (xs.map fun x => .str (p x))] = some (.str (joinD a (xs.map p))) := by
  refine g_join (toStrs_map xs p) ?_
  have := parts_le H
  rw [List.length_map]
  rw [Nat.mul_add] at hl
  omega
theorem lc_draw {α β : Type} {m : IM} {t : GT} {te : EM} {vs : List Nat} {σ : Sg} {T : Hs} {n q : Nat} {s : St} (xs : List β) (cb : β → D) (c : α → D) (P : α → Prop) (hm : m σ (s.ob :: T) = .ok (xs.map cb) (s.ob :: T)) (hl : xs.length ≤ 16777216) (o : s.Ok (n + q * xs.length))
    (H : ∀ x ∈ xs, ∀ n s, St.Ok (n + q) s → ∃ (σ' : Sg) (y : α) (s' : St), t (cb x) (wipeS σ vs) = some σ' ∧ te σ' (s.ob :: T) = .ok (c y) (s'.ob :: T) ∧ P y ∧ s'.Ok n) :
    ∃ (ys : List α) (s' : St), lcL m t tYesM te vs σ (s.ob :: T) = .ok (ys.map c) (St.ob s' :: T) ∧ ys.length = xs.length ∧ (∀ y ∈ ys, P y) ∧ s'.Ok n := by
  unfold lcL
  rw [hm, R.bind_ok, if_pos (by rw [List.length_map]; exact hl)]
  have : ∀ (xs : List β) (s : St), s.Ok (n + q * xs.length) → (∀ x ∈ xs, ∀ n s, St.Ok (n + q) s → ∃ (σ' : Sg) (y : α) (s' : St), t (cb x) (wipeS σ vs) = some σ' ∧ te σ' (s.ob :: T) = .ok (c y) (s'.ob :: T) ∧ P y ∧ s'.Ok n) →
      ∃ (ys : List α) (s' : St), lcGo t tYesM te (wipeS σ vs) (xs.map cb) (s.ob :: T) = .ok (ys.map c) (St.ob s' :: T) ∧ ys.length = xs.length ∧ (∀ y ∈ ys, P y) ∧ s'.Ok n := by
    intro xs
    induction xs with
    | nil => exact fun s o _ => ⟨[], s, rfl, rfl, by simp, o⟩
    | cons x xs ih =>
      intro s o H
      obtain ⟨σ', y, s1, e1, e2, p, o1⟩ := H x (List.mem_cons_self ..) (n + q * xs.length) s (by rw [List.length_cons, Nat.mul_succ, ← Nat.add_assoc] at o; exact o)
      obtain ⟨ys, s2, e3, l3, p3, o3⟩ := ih s1 o1 fun y m => H y (List.mem_cons_of_mem _ m)
      refine ⟨y :: ys, s2, ?_, by simp [l3], ?_, o3⟩
      · rw [List.map_cons]
        unfold lcGo
        rw [e1]
        simp only [e_yes, R.bind_ok, e2, e3, List.map_cons]
      · intro z m
        rcases List.mem_cons.mp m with rfl | m
        · exact p
        · exact p3 z m
  exact this xs s o H
theorem for_draw {β : Type} {t : GT} {body : SM} {T : Hs} {q : Nat} (cb : β → D) (I : List β → Sg → Prop) (all : List β) (H : ∀ (done : List β) (x : β) (rest : List β) (σ : Sg) (n : Nat) (s : St), all = done ++ x :: rest → I done σ → s.Ok (n + q) → ∃ (σ1 σ2 : Sg) (s2 : St), t (cb x) σ = some σ1 ∧ (body σ1 (s.ob :: T) = .nx σ2 (St.ob s2 :: T) ∨ body σ1 (s.ob :: T) = .ct σ2 (St.ob s2 :: T)) ∧ I (done ++ [x]) σ2 ∧ s2.Ok n) :
    ∀ (xs done : List β) (σ : Sg) (n : Nat) (s : St), all = done ++ xs → I done σ → s.Ok (n + q * xs.length) → ∃ (σ' : Sg) (s' : St), forGo t body (xs.map cb) σ (s.ob :: T) = .nx σ' (St.ob s' :: T) ∧ I all σ' ∧ s'.Ok n
  | [], done, σ, n, s, e, i, o => ⟨σ, s, rfl, by rw [e, List.append_nil]; exact i, o⟩
  | x :: xs, done, σ, n, s, e, i, o => by
    obtain ⟨σ1, σ2, s2, e1, e2, i2, o2⟩ := H done x xs σ (n + q * xs.length) s e i (by rw [List.length_cons, Nat.mul_succ, ← Nat.add_assoc] at o; exact o)
    obtain ⟨σ', s', e3, i3, o3⟩ := for_draw cb I all H xs (done ++ [x]) σ2 n s2 (by rw [e]; simp) i2 o2
    refine ⟨σ', s', ?_, i3, o3⟩
    rw [List.map_cons]
    unfold forGo
    rw [e1]
    rcases e2 with e2 | e2 <;> simp only [e2, e_loop_nx, e_loop_ct, e3]
theorem for_pure {β : Type} {t : GT} {body : SM} {h : Hs} (cb : β → D) (I : List β → Sg → Prop) (all : List β) (H : ∀ (done : List β) (x : β) (rest : List β) (σ : Sg), all = done ++ x :: rest → I done σ → ∃ σ1 σ2, t (cb x) σ = some σ1 ∧ (body σ1 h = .nx σ2 h ∨ body σ1 h = .ct σ2 h) ∧ I (done ++ [x]) σ2) :
    ∀ (xs done : List β) (σ : Sg), all = done ++ xs → I done σ → ∃ σ', forGo t body (xs.map cb) σ h = .nx σ' h ∧ I all σ'
  | [], done, σ, e, i => ⟨σ, rfl, by rw [e, List.append_nil]; exact i⟩
  | x :: xs, done, σ, e, i => by
    obtain ⟨σ1, σ2, e1, e2, i2⟩ := H done x xs σ e i
    obtain ⟨σ', e3, i3⟩ := for_pure cb I all H xs (done ++ [x]) σ2 (by rw [e]; simp) i2
    refine ⟨σ', ?_, i3⟩
    rw [List.map_cons]
    unfold forGo
    rw [e1]
    rcases e2 with e2 | e2 <;> simp only [e2, e_loop_nx, e_loop_ct, e3]
theorem for_pure_of {β : Type} {t : GT} {body : SM} {h : Hs} {ys : List D} {σ : Sg} {r : RS} (hr : forGo t body ys σ h = r) (cb : β → D) (xs : List β) (hx : ys = xs.map cb) (I : List β → Sg → Prop) (i0 : I [] σ)
    (H : ∀ (done : List β) (x : β) (rest : List β) (σ : Sg), xs = done ++ x :: rest → I done σ → ∃ σ1 σ2, t (cb x) σ = some σ1 ∧ (body σ1 h = .nx σ2 h ∨ body σ1 h = .ct σ2 h) ∧ I (done ++ [x]) σ2) : ∃ σ', r = .nx σ' h ∧ I xs σ' := by
  subst hx
  obtain ⟨σ', e, i⟩ := for_pure cb I xs H xs [] σ rfl i0
  exact ⟨σ', hr.symm.trans e, i⟩
theorem for_draw_of {β : Type} {t : GT} {body : SM} {T : Hs} {ys : List D} {σ : Sg} {s : St} {r : RS} (hr : forGo t body ys σ (s.ob :: T) = r) (cb : β → D) (xs : List β) (hx : ys = xs.map cb) (I : List β → Sg → Prop) (i0 : I [] σ) (q n : Nat) (o : s.Ok (n + q * xs.length))
    (H : ∀ (done : List β) (x : β) (rest : List β) (σ : Sg) (n : Nat) (s : St), xs = done ++ x :: rest → I done σ → s.Ok (n + q) → ∃ (σ1 σ2 : Sg) (s2 : St), t (cb x) σ = some σ1 ∧ (body σ1 (s.ob :: T) = .nx σ2 (St.ob s2 :: T) ∨ body σ1 (s.ob :: T) = .ct σ2 (St.ob s2 :: T)) ∧ I (done ++ [x]) σ2 ∧ s2.Ok n) :
    ∃ (σ' : Sg) (s' : St), r = .nx σ' (St.ob s' :: T) ∧ I xs σ' ∧ s'.Ok n := by
  subst hx
  obtain ⟨σ', s', e, i, o'⟩ := for_draw cb I xs H xs [] σ n s rfl i0 o
  exact ⟨σ', s', hr.symm.trans e, i, o'⟩
theorem lc_draw_of {α β : Type} {m : IM} {t : GT} {te : EM} {vs : List Nat} {σ : Sg} {T : Hs} {s : St} {r : R (List D)} (hr : lcL m t tYesM te vs σ (s.ob :: T) = r) (xs : List β) (cb : β → D) (c : α → D) (P : α → Prop) (q n : Nat) (hm : m σ (s.ob :: T) = .ok (xs.map cb) (s.ob :: T)) (hl : xs.length ≤ 16777216) (o : s.Ok (n + q * xs.length))
    (H : ∀ x ∈ xs, ∀ n s, St.Ok (n + q) s → ∃ (σ' : Sg) (y : α) (s' : St), t (cb x) (wipeS σ vs) = some σ' ∧ te σ' (s.ob :: T) = .ok (c y) (s'.ob :: T) ∧ P y ∧ s'.Ok n) :
    ∃ (ys : List α) (s' : St), r = .ok (ys.map c) (St.ob s' :: T) ∧ ys.length = xs.length ∧ (∀ y ∈ ys, P y) ∧ s'.Ok n := by
  obtain ⟨ys, s', e, a⟩ := lc_draw xs cb c P hm hl o H
  exact ⟨ys, s', hr.symm.trans e, a⟩
@[simp] theorem e_sForV_val {i : Nat} {t : GT} {body : SM} {σ : Sg} {h : Hs} {d : D} {xs : List D} (e : σ[i]? = some (.val d)) (f : itemsD d = some xs) : sForV i t body σ h = forGo t body xs σ h := by
  unfold sForV
  rw [e]
  show (match itemsD d with | some xs => forGo t body xs σ h | none => .bad) = _
  rw [f]
abbrev Sm (i : Int) : Prop := i.natAbs < 10 ^ 40
theorem sm_log {i : Int} (h : Sm i) : i.natAbs.log2 < 1920 := by
  by_cases h0 : i.natAbs = 0
  · rw [h0]; decide
  · have : i.natAbs < 2 ^ 1920 := Nat.lt_of_lt_of_le h (by decide +kernel)
    exact (Nat.log2_lt h0).mpr this
theorem strI_len {i : Int} (h : Sm i) : (strI i).length ≤ 41 := by
  have h2 := int_text_length_le10 (by decide) h
  unfold strI
  rw [List.length_map, String.length_toList]
  exact h2
theorem toNat_inj {a b : Char} (h : a.toNat = b.toNat) : a = b := by
  have h2 : a.val.toNat = b.val.toNat := h
  exact Char.ext (UInt32.toNat_inj.mp h2)
theorem nat_repr_inj {m n : Nat} (h : m.repr.toList = n.repr.toList) : m = n := by
  rw [Nat.toList_repr, Nat.toList_repr] at h
  have h1 : Nat.ofDigitChars 10 (Nat.toDigits 10 m) 0 = m := by simp
  have h2 : Nat.ofDigitChars 10 (Nat.toDigits 10 n) 0 = n := by simp
  rw [← h1, h, h2]
theorem nat_dig0 {n : Nat} {c : Char} (h : c ∈ n.repr.toList) : 48 ≤ c.toNat ∧ c.toNat ≤ 57 := by
  rw [Nat.toList_repr] at h
  have := Nat.isDigit_of_mem_toDigits (by decide) (by decide) h
  unfold Char.isDigit at this
  rw [Bool.and_eq_true, decide_eq_true_eq, decide_eq_true_eq] at this
  exact ⟨this.1, this.2⟩
theorem int_repr_inj {i j : Int} (h : i.repr = j.repr) : i = j := by
  have e := congrArg String.toList h
  rw [Int.repr_eq_if, Int.repr_eq_if] at e
  have no : ∀ {m n : Nat}, ("-" ++ m.repr).toList ≠ n.repr.toList := fun {m n} z => by
    rw [String.toList_append] at z
    have : '-' ∈ n.repr.toList := by rw [← z]; simp
    have := (nat_dig0 this).1
    revert this
    decide
  split at e
  · split at e
    · have := nat_repr_inj e; omega
    · exact absurd e.symm no
  · split at e
    · exact absurd e no
    · rw [String.toList_append, String.toList_append] at e
      have := nat_repr_inj (List.append_cancel_left e)
      omega
theorem strI_inj {i j : Int} (h : strI i = strI j) : i = j := by
  unfold strI at h
  have h2 : (toString i).toList = (toString j).toList := List.map_inj_right (fun a b e => toNat_inj e) |>.mp h
  have h3 : toString i = toString j := String.toList_inj.mp h2
  exact int_repr_inj h3
theorem nat_dig {n : Nat} {c : Char} (h : c ∈ n.repr.toList) : 48 ≤ c.toNat ∧ c.toNat ≤ 57 := by
  rw [Nat.toList_repr] at h
  have := Nat.isDigit_of_mem_toDigits (by decide) (by decide) h
  unfold Char.isDigit at this
  rw [Bool.and_eq_true, decide_eq_true_eq, decide_eq_true_eq] at this
  exact ⟨this.1, this.2⟩
theorem strI_dig {i : Int} (h0 : 0 ≤ i) {c : Nat} (h : c ∈ strI i) : 48 ≤ c ∧ c ≤ 57 := by
  unfold strI at h
  obtain ⟨ch, hm, rfl⟩ := List.mem_map.mp h
  rw [Int.toString_eq_repr, Int.repr_eq_if, if_pos h0] at hm
  exact nat_dig hm
theorem strI_any {i : Int} {c : Nat} (h : c ∈ strI i) : c = 45 ∨ (48 ≤ c ∧ c ≤ 57) := by
  by_cases h0 : 0 ≤ i
  · exact .inr (strI_dig h0 h)
  · unfold strI at h
    obtain ⟨ch, hm, rfl⟩ := List.mem_map.mp h
    rw [Int.toString_eq_repr, Int.repr_eq_if, if_neg h0, String.toList_append, List.mem_append] at hm
    rcases hm with hm | hm
    · left
      have : ch = '-' := by simpa using hm
      rw [this]; rfl
    · exact .inr (nat_dig hm)
theorem strI_ne (i : Int) : strI i ≠ [] := by
  intro h
  have h2 : (toString i).toList = [] := List.map_eq_nil_iff.mp h
  have h3 : i.repr.toList = [] := by rw [← Int.toString_eq_repr]; exact h2
  rw [Int.repr_eq_if] at h3
  split at h3
  · rw [Nat.toList_repr] at h3
    exact Nat.toDigits_ne_nil h3
  · rw [String.toList_append] at h3
    have := (List.append_eq_nil_iff.mp h3).2
    rw [Nat.toList_repr] at this
    exact Nat.toDigits_ne_nil this
theorem range1_ok {a : EM} {σ : Sg} {h : Hs} {j : Int} (ha : a σ h = .ok (.int j) h) (h0 : -1000000 ≤ j) (h1 : j ≤ 1000000) : iRange1 (aCons a aNil) σ h = .ok (rangeD 0 j.toNat) h := by
  rw [e_iRange1, e_aCons, ha]
  exact if_pos ⟨by omega, by omega⟩
theorem range2_ok {a b : EM} {σ : Sg} {h : Hs} {i j : Int} (ha : a σ h = .ok (.int i) h) (hb : b σ h = .ok (.int j) h) (h0 : -1000000 ≤ i) (h1 : i ≤ 1000000) (h2 : -1000000 ≤ j) (h3 : j ≤ 1000000) : iRange2 (aCons a (aCons b aNil)) σ h = .ok (rangeD i (j - i).toNat) h := by
  rw [e_iRange2, e_aCons, ha, R.bind_ok, e_aCons, hb]
  exact if_pos ⟨by omega, by omega, by omega, by omega⟩
end WC
set_option Elab.async false
set_option linter.all false
set_option maxRecDepth 100000
namespace WC
open PySem PySem.Spec PyProof.Rows L2
mutual
def dat : Nat → D → Bool
  | _, .non => true
  | _, .int _ => true
  | _, .str _ => true
  | 0, _ => false
  | n + 1, .tup xs => dats n xs
  | n + 1, .lst xs => dats n xs
  | _, _ => false
def dats : Nat → List D → Bool
  | _, [] => true
  | n, x :: xs => dat n x && dats n xs
end
mutual
theorem dat_dep : ∀ (n : Nat) (x : D), dat n x = true → ∃ m, depD x = some m ∧ m ≤ n
  | n, .non, _ => ⟨0, rfl, Nat.zero_le _⟩
  | n, .int _, _ => ⟨0, rfl, Nat.zero_le _⟩
  | n, .str _, _ => ⟨0, rfl, Nat.zero_le _⟩
  | 0, .bl _, h => by simp [dat] at h
  | 0, .tup _, h => by simp [dat] at h
  | 0, .lst _, h => by simp [dat] at h
  | 0, .dct _, h => by simp [dat] at h
  | 0, .ref _, h => by simp [dat] at h
  | 0, .scr _, h => by simp [dat] at h
  | n + 1, .tup xs, h => by
    obtain ⟨m, e, l⟩ := dats_dep n xs (by simpa [dat] using h)
    exact ⟨m + 1, by unfold depD; rw [e]; rfl, by omega⟩
  | n + 1, .lst xs, h => by
    obtain ⟨m, e, l⟩ := dats_dep n xs (by simpa [dat] using h)
    exact ⟨m + 1, by unfold depD; rw [e]; rfl, by omega⟩
  | n + 1, .bl _, h => by simp [dat] at h
  | n + 1, .dct _, h => by simp [dat] at h
  | n + 1, .ref _, h => by simp [dat] at h
  | n + 1, .scr _, h => by simp [dat] at h
theorem dats_dep : ∀ (n : Nat) (xs : List D), dats n xs = true → ∃ m, depDs xs = some m ∧ m ≤ n
  | n, [], _ => ⟨0, rfl, Nat.zero_le _⟩
  | n, x :: xs, h => by
    unfold dats at h
    rw [Bool.and_eq_true] at h
    obtain ⟨a, e, l⟩ := dat_dep n x h.1
    obtain ⟨b, e2, l2⟩ := dats_dep n xs h.2
    exact ⟨max a b, by unfold depDs; rw [e, e2], by omega⟩
end
mutual
theorem dat_eq : ∀ (n m : Nat) (x y : D), dat n x = true → dat m y = true → (pyEq x y = true ↔ x = y)
  | n, m, .non, y, _, h => by
    cases y <;> cases m <;> simp_all [dat, pyEq]
  | n, m, .int i, y, _, h => by
    cases y <;> cases m <;> simp_all [dat, pyEq]
  | n, m, .str i, y, _, h => by
    cases y <;> cases m <;> simp_all [dat, pyEq]
  | 0, _, .bl _, _, h, _ => by simp [dat] at h
  | 0, _, .tup _, _, h, _ => by simp [dat] at h
  | 0, _, .lst _, _, h, _ => by simp [dat] at h
  | 0, _, .dct _, _, h, _ => by simp [dat] at h
  | 0, _, .ref _, _, h, _ => by simp [dat] at h
  | 0, _, .scr _, _, h, _ => by simp [dat] at h
  | n + 1, m, .tup xs, y, h, h2 => by
    cases y with
    | tup ys =>
      cases m with
      | zero => simp [dat] at h2
      | succ m =>
        have := dats_eq n m xs ys (by simpa [dat] using h) (by simpa [dat] using h2)
        simp [pyEq, this]
    | _ => simp [pyEq]
  | n + 1, m, .lst xs, y, h, h2 => by
    cases y with
    | lst ys =>
      cases m with
      | zero => simp [dat] at h2
      | succ m =>
        have := dats_eq n m xs ys (by simpa [dat] using h) (by simpa [dat] using h2)
        simp [pyEq, this]
    | _ => simp [pyEq]
  | n + 1, _, .bl _, _, h, _ => by simp [dat] at h
  | n + 1, _, .dct _, _, h, _ => by simp [dat] at h
  | n + 1, _, .ref _, _, h, _ => by simp [dat] at h
  | n + 1, _, .scr _, _, h, _ => by simp [dat] at h
theorem dats_eq : ∀ (n m : Nat) (xs ys : List D), dats n xs = true → dats m ys = true → (pyEqs xs ys = true ↔ xs = ys)
  | n, m, [], ys, _, _ => by cases ys <;> simp [pyEqs]
  | n, m, x :: xs, [], _, _ => by simp [pyEqs]
  | n, m, x :: xs, y :: ys, h, h2 => by
    unfold dats at h h2
    rw [Bool.and_eq_true] at h h2
    have e1 := dat_eq n m x y h.1 h2.1
    have e2 := dats_eq n m xs ys h.2 h2.2
    unfold pyEqs
    rw [Bool.and_eq_true, e1, e2]
    simp
end
theorem dat_ok {n : Nat} {x : D} (h : dat n x = true) (hn : n ≤ 60) : eqOk x = true := by
  obtain ⟨m, e, l⟩ := dat_dep n x h
  unfold eqOk
  rw [e]
  exact decide_eq_true (by omega)
theorem dat_asV {n : Nat} {x : D} {h : Hs} (e : dat n x = true) : asV h x = x := by
  obtain ⟨m, e, l⟩ := dat_dep n x e
  exact asV_of e
theorem dats_map {α : Type} {n : Nat} {xs : List α} {c : α → D} (H : ∀ x ∈ xs, dat n (c x) = true) : dats n (xs.map c) = true := by
  induction xs with
  | nil => cases n <;> rfl
  | cons x xs ih =>
    rw [List.map_cons]
    unfold dats
    rw [H x (List.mem_cons_self ..), ih fun y m => H y (List.mem_cons_of_mem _ m)]
    rfl
theorem g_eqDat {h : Hs} {n : Nat} {x y : D} (hx : dat n x = true) (hy : dat n y = true) (hn : n ≤ 60) {p : Prop} [Decidable p] (hp : p ↔ x = y) : gEq h x y = some (.bl (decide p)) := by
  unfold gEq
  rw [dat_asV hx, dat_asV hy, dat_ok hx hn, dat_ok hy hn]
  have e := dat_eq n n x y hx hy
  have : pyEq x y = decide p := by
    by_cases q : x = y
    · rw [e.mpr q, decide_eq_true (hp.mpr q)]
    · rw [decide_eq_false fun z => q (hp.mp z)]
      cases r : pyEq x y with
      | false => rfl
      | true => exact absurd (e.mp r) q
  rw [this]
  rfl
theorem g_neDat {h : Hs} {n : Nat} {x y : D} (hx : dat n x = true) (hy : dat n y = true) (hn : n ≤ 60) {p : Prop} [Decidable p] (hp : p ↔ x = y) : gNe h x y = some (.bl (!decide p)) := by
  have := g_eqDat (h := h) hx hy hn hp
  unfold gEq at this
  unfold gNe
  split at this
  · rename_i e
    rw [if_pos e]
    have e2 : pyEq (asV h x) (asV h y) = decide p := by simpa using this
    rw [e2]
  · cases this
mutual
def lk : Nat → D → Bool
  | _, .non => true
  | _, .int _ => true
  | _, .str _ => true
  | _, .bl _ => true
  | 0, _ => false
  | n + 1, .tup xs => decide (xs.length ≤ 1000000) && lks n xs
  | n + 1, .lst xs => decide (xs.length ≤ 1000000) && lks n xs
  | _, _ => false
def lks : Nat → List D → Bool
  | _, [] => true
  | n, x :: xs => lk n x && lks n xs
end
theorem lks_get : ∀ {n : Nat} {xs : List D} {i : Nat} {x : D}, lks n xs = true → xs[i]? = some x → lk n x = true
  | n, [], i, x, _, e => by simp at e
  | n, y :: ys, i, x, h, e => by
    unfold lks at h
    rw [Bool.and_eq_true] at h
    cases i with
    | zero => simp at e; subst e; exact h.1
    | succ i => exact lks_get h.2 (by simpa using e)
theorem lks_map {α : Type} {n : Nat} {xs : List α} {c : α → D} (H : ∀ x ∈ xs, lk n (c x) = true) : lks n (xs.map c) = true := by
  induction xs with
  | nil => cases n <;> rfl
  | cons x xs ih =>
    rw [List.map_cons]
    unfold lks
    rw [H x (List.mem_cons_self ..), ih fun y m => H y (List.mem_cons_of_mem _ m)]
    rfl
def likeB (f : FD) : SM := (sSeq (sIf (tB (eIsI [.list, .tuple] (oVar 1)))
  (sSeq (sIf (tOr (tNot (tB (eIsI [.list, .tuple] (oVar 0)))) (tOr (tB (eOp gNe (eIsI [.list] (oVar 0)) (eIsI [.list] (oVar 1)))) (tB (eOp gNe (eCall gLen (aCons (oVar 0) aNil)) (eCall gLen (aCons (oVar 1) aNil))))))
  (sRet (eC (.bl false)))
  sNil)
  (sRet (eCall gAll (aCons (eFrz (lcL (iRange1 (aCons (eCall gLen (aCons (oVar 1) aNil)) aNil)) (tgName 2) tYesM (eFn 2 f (aCons (eOp atD (oVar 0) (oVar 2)) (aCons (eOp atD (oVar 1) (oVar 2)) aNil))) [2])) aNil))))
  sNil)
  (sSeq (sIf (tB (eOp gIsN (oVar 1) (eC .non)))
  (sRet (eOp gIsN (oVar 0) (eC .non)))
  sNil)
  (sSeq (sIf (tB (eIsI [.bool] (oVar 1)))
  (sRet (eAnd (eIsI [.bool] (oVar 0)) (eOp gEq (oVar 0) (oVar 1))))
  sNil)
  (sSeq (sIf (tB (eIsI [.str] (oVar 1)))
  (sRet (eAnd (eIsI [.str] (oVar 0)) (eOp gEq (oVar 0) (oVar 1))))
  sNil)
  (sRet (eAnd (eIsI [.int] (oVar 0)) (eAnd (eNot (eIsI [.bool] (oVar 0))) (eOp gEq (oVar 0) (oVar 1)))))))))
@[simp] theorem t_bool_non : isTy .bool .non = false := rfl
@[simp] theorem t_str_non : isTy .str .non = false := rfl
@[simp] theorem t_tup_non : isTy .tuple .non = false := rfl
@[simp] theorem t_lst_non : isTy .list .non = false := rfl
@[simp] theorem t_int_non : isTy .int .non = false := rfl
@[simp] theorem n_non : isN .non = true := rfl
@[simp] theorem n_int (i : Int) : isN (.int i) = false := rfl
@[simp] theorem n_bl (i : Bool) : isN (.bl i) = false := rfl
@[simp] theorem n_str (i : List Nat) : isN (.str i) = false := rfl
@[simp] theorem n_tup (i : List D) : isN (.tup i) = false := rfl
@[simp] theorem n_lst (i : List D) : isN (.lst i) = false := rfl
theorem ls1 {h : Hs} {xs : List D} {d : D} (hd : d = .tup xs ∨ d = .lst xs) (hl : xs.length ≤ 1000000) : iRange1 (aCons (eCall gLen (aCons (oVar 1) aNil)) aNil) [.val d, .val d, .no] h = .ok ((List.range xs.length).map fun i : Nat => .int (0 + i)) h := by
  have := range1_ok (a := eCall gLen (aCons (oVar 1) aNil)) (σ := [.val d, .val d, .no]) (h := h) (j := xs.length) (by rcases hd with rfl | rfl <;> simp) (by omega) (by omega)
  rw [this]
  rfl
theorem ls2 {f : FD} {h : Hs} {xs : List D} {d : D} (hd : d = .tup xs ∨ d = .lst xs) (hl : xs.length ≤ 1000000) (ih : ∀ i (hi : i < xs.length), f [xs[i], xs[i]] h = .ok (.bl true) h) : lcL (iRange1 (aCons (eCall gLen (aCons (oVar 1) aNil)) aNil)) (tgName 2) tYesM (eFn 2 f (aCons (eOp atD (oVar 0) (oVar 2)) (aCons (eOp atD (oVar 1) (oVar 2)) aNil))) [2] [.val d, .val d, .no] h = .ok ((List.range xs.length).map fun _ => .bl true) h :=
  lc_typed (List.range xs.length) (fun i : Nat => .int (0 + i)) (fun _ => .bl true) (ls1 hd hl) (by rw [List.length_range]; omega) fun i hi => ⟨_, rfl, by
    have hi2 : i < xs.length := by simpa using hi
    rcases hd with rfl | rfl <;> simp [hi2, ih i hi2]⟩
theorem ls3 {RR rest : SM} {h : Hs} {xs : List D} {d : D} (hd : d = .tup xs ∨ d = .lst xs) (e3 : RR [.val d, .val d, .no] h = .rt (.bl true) h) : (sSeq (sIf (tB (eIsI [.list, .tuple] (oVar 1)))
  (sSeq (sIf (tOr (tNot (tB (eIsI [.list, .tuple] (oVar 0)))) (tOr (tB (eOp gNe (eIsI [.list] (oVar 0)) (eIsI [.list] (oVar 1)))) (tB (eOp gNe (eCall gLen (aCons (oVar 0) aNil)) (eCall gLen (aCons (oVar 1) aNil))))))
  (sRet (eC (.bl false)))
  sNil)
  RR)
  sNil) rest) [.val d, .val d, .no] h = .rt (.bl true) h := by
  rcases hd with rfl | rfl <;> simp [e3]
theorem ls4 {f : FD} {h : Hs} {xs : List D} {d : D} (hd : d = .tup xs ∨ d = .lst xs) (hl : xs.length ≤ 1000000) (ih : ∀ i (hi : i < xs.length), f [xs[i], xs[i]] h = .ok (.bl true) h) : sRet (eCall gAll (aCons (eFrz (lcL (iRange1 (aCons (eCall gLen (aCons (oVar 1) aNil)) aNil)) (tgName 2) tYesM (eFn 2 f (aCons (eOp atD (oVar 0) (oVar 2)) (aCons (eOp atD (oVar 1) (oVar 2)) aNil))) [2])) aNil)) [.val d, .val d, .no] h = .rt (.bl true) h := by
  have e4 := g_all (h := h) (List.range xs.length) fun _ => true
  rw [e_sRet, e_eCall, e_aCons, e_eFrz, ls2 hd hl ih, R.bind_ok, R.bind_ok, e_aNil, R.bind_ok, R.bind_ok, e4, all_true]
  rfl
theorem like_seq {F : Nat → FD} (hF : ∀ k, F (k + 1) = defF 3 (likeB (F k))) {k : Nat} {h : Hs} {xs : List D} {d : D} (hd : d = .tup xs ∨ d = .lst xs) (hl : xs.length ≤ 1000000) (ih : ∀ i (hi : i < xs.length), F k [xs[i], xs[i]] h = .ok (.bl true) h) : F (k + 1) [d, d] h = .ok (.bl true) h := by
  rw [hF, e_defF]
  have st : startS 3 [d, d] = [.val d, .val d, .no] := rfl
  rw [st]
  unfold likeB
  rw [ls3 hd (ls4 hd hl ih)]
theorem like_ok {F : Nat → FD} (hF : ∀ k, F (k + 1) = defF 3 (likeB (F k))) (k : Nat) {h : Hs} (n : Nat) : ∀ (x : D), lk n x = true → F (k + n + 1) [x, x] h = .ok (.bl true) h := by
  induction n with
  | zero =>
    intro x e
    cases x with
    | non => rw [hF]; simp [likeB]
    | int i => rw [hF]; simp [likeB]
    | str i => rw [hF]; simp [likeB]
    | bl i => rw [hF]; simp [likeB]
    | _ => simp [lk] at e
  | succ n ih =>
    intro x e
    cases x with
    | non => rw [hF]; simp [likeB]
    | int i => rw [hF]; simp [likeB]
    | str i => rw [hF]; simp [likeB]
    | bl i => rw [hF]; simp [likeB]
    | tup xs =>
      have e' : xs.length ≤ 1000000 ∧ lks n xs = true := by simpa [lk] using e
      exact like_seq hF (.inl rfl) e'.1 fun i hi => ih _ (lks_get e'.2 (List.getElem?_eq_getElem hi))
    | lst xs =>
      have e' : xs.length ≤ 1000000 ∧ lks n xs = true := by simpa [lk] using e
      exact like_seq hF (.inr rfl) e'.1 fun i hi => ih _ (lks_get e'.2 (List.getElem?_eq_getElem hi))
    | _ => simp [lk] at e
end WC
set_option Elab.async false
set_option linter.all false
set_option maxRecDepth 100000
namespace WC
theorem sep_inj {c : Nat} : ∀ {a b r s : List Nat}, c ∉ a → c ∉ b → a ++ c :: r = b ++ c :: s → a = b ∧ r = s
  | [], [], r, s, _, _, e => by simpa using e
  | [], y :: b, r, s, _, hb, e => by
    simp only [List.nil_append, List.cons_append, List.cons.injEq] at e
    exact absurd (List.mem_cons.mpr (.inl e.1)) hb
  | x :: a, [], r, s, ha, _, e => by
    simp only [List.nil_append, List.cons_append, List.cons.injEq] at e
    exact absurd (List.mem_cons.mpr (.inl e.1.symm)) ha
  | x :: a, y :: b, r, s, ha, hb, e => by
    simp only [List.cons_append, List.cons.injEq] at e
    obtain ⟨h1, h2⟩ := sep_inj (fun m => ha (List.mem_cons_of_mem _ m)) (fun m => hb (List.mem_cons_of_mem _ m)) e.2
    exact ⟨by rw [e.1, h1], h2⟩
theorem sep_no {c : Nat} {a b r : List Nat} (hb : c ∉ b) (e : a ++ c :: r = b) : False := hb (by rw [← e]; simp)
theorem join_inj {c : Nat} {S : List Nat} : ∀ {ps qs : List (List Nat)}, ps ≠ [] → qs ≠ [] → (∀ p ∈ ps, c ∉ p) → (∀ p ∈ qs, c ∉ p) → joinD (c :: S) ps = joinD (c :: S) qs → ps = qs
  | [], _, h, _, _, _, _ => absurd rfl h
  | _, [], _, h, _, _, _ => absurd rfl h
  | [p], [q], _, _, _, _, e => by
    have : p = q := e
    rw [this]
  | [p], q :: q2 :: qs, _, _, hp, _, e => by
    have e' : p = q ++ c :: (S ++ joinD (c :: S) (q2 :: qs)) := e
    exact (sep_no (hp p (List.mem_cons_self ..)) e'.symm).elim
  | p :: p2 :: ps, [q], _, _, _, hq, e => by
    have e' : p ++ c :: (S ++ joinD (c :: S) (p2 :: ps)) = q := e
    exact (sep_no (hq q (List.mem_cons_self ..)) e').elim
  | p :: p2 :: ps, q :: q2 :: qs, _, _, hp, hq, e => by
    have e' : p ++ c :: (S ++ joinD (c :: S) (p2 :: ps)) = q ++ c :: (S ++ joinD (c :: S) (q2 :: qs)) := e
    obtain ⟨h1, h2⟩ := sep_inj (hp p (List.mem_cons_self ..)) (hq q (List.mem_cons_self ..)) e'
    have ih := join_inj (c := c) (S := S) (ps := p2 :: ps) (qs := q2 :: qs) (by simp) (by simp) (fun z m => hp z (List.mem_cons_of_mem _ m)) (fun z m => hq z (List.mem_cons_of_mem _ m)) (List.append_cancel_left h2)
    rw [h1, ih]
theorem map_inj' {α β : Type} {f : α → β} : ∀ {xs ys : List α}, (∀ x ∈ xs, ∀ y ∈ ys, f x = f y → x = y) → xs.map f = ys.map f → xs = ys
  | [], [], _, _ => rfl
  | [], _ :: _, _, e => by simp at e
  | _ :: _, [], _, e => by simp at e
  | x :: xs, y :: ys, H, e => by
    simp only [List.map_cons, List.cons.injEq] at e
    rw [H x (List.mem_cons_self ..) y (List.mem_cons_self ..) e.1, map_inj' (fun a ha b hb => H a (List.mem_cons_of_mem _ ha) b (List.mem_cons_of_mem _ hb)) e.2]
theorem strI_no {i : Int} {c : Nat} (h : c ≠ 45) (h2 : c < 48 ∨ 57 < c) : c ∉ strI i := fun m => by
  rcases strI_any m with e | e
  · exact h e
  · omega
theorem strI_no0 {i : Int} {c : Nat} (h0 : 0 ≤ i) (h2 : c < 48 ∨ 57 < c) : c ∉ strI i := fun m => by
  have := strI_dig h0 m
  omega
theorem join_mem {c : Nat} : ∀ {S : List Nat} {ps : List (List Nat)}, c ∈ joinD S ps → c ∈ S ∨ ∃ p ∈ ps, c ∈ p
  | S, [], h => by simp [joinD] at h
  | S, [p], h => .inr ⟨p, List.mem_cons_self .., h⟩
  | S, p :: q :: r, h => by
    have h' : c ∈ p ++ (S ++ joinD S (q :: r)) := h
    rcases List.mem_append.mp h' with h | h
    · exact .inr ⟨p, List.mem_cons_self .., h⟩
    · rcases List.mem_append.mp h with h | h
      · exact .inl h
      · rcases join_mem h with h | ⟨z, m, h⟩
        · exact .inl h
        · exact .inr ⟨z, List.mem_cons_of_mem _ m, h⟩
end WC
set_option Elab.async false
set_option linter.all false
set_option maxRecDepth 100000
namespace WP
open PySem PySem.Spec PyProof.Rows L2 WC
def topS (i : Nat) : Stmt := PySem.Challenge.pw_wholecircuits_k90_texts_shown.main.body.getD i (.Pass ⟨0, 0, 0, 0⟩)
def k_GATES : List (List Nat × D) := [([119], .int 0), ([104], .int 1), ([115], .int 1), ([115, 100], .int 1), ([116], .int 1), ([116, 100], .int 1), ([120], .int 1), ([121], .int 1), ([122], .int 1), ([99, 120], .int 2), ([99, 122], .int 2), ([115, 119, 97, 112], .int 2)]
def c_SIGNS : D := .tup [(.str [43]), (.str [43, 105]), (.str [45]), (.str [45, 105])]
def gFree : List Str := [("all" : Str), ("bool" : Str), ("int" : Str), ("isinstance" : Str), ("len" : Str), ("list" : Str), ("min" : Str), ("range" : Str), ("str" : Str), ("tuple" : Str), ("zip" : Str)]
def gConsts : List (Str × D) := [("SIGNS", c_SIGNS)]
def gDicts : List (Str × List (List Nat × D)) := [("GATES", k_GATES)]
def gFuns : List (Str × Nat × Nat) := [(("is_integer" : Str), 0, 1), (("is_natural" : Str), 1, 1), (("is_made_of" : Str), 2, 3), (("is_ascending" : Str), 3, 1), (("is_gate" : Str), 4, 2), (("is_circuit" : Str), 5, 1), (("check_circuit" : Str), 6, 1), (("is_independent" : Str), 7, 1), (("is_number" : Str), 8, 1), (("check_number" : Str), 9, 1), (("is_matrix" : Str), 10, 1), (("check_matrix" : Str), 11, 1), (("is_below" : Str), 12, 3), (("are_twos" : Str), 13, 2), (("are_threes" : Str), 14, 2), (("are_rows" : Str), 15, 2), (("is_form" : Str), 16, 1), (("check_form" : Str), 17, 1), (("is_pauli" : Str), 18, 1), (("check_pauli" : Str), 19, 2), (("is_edge" : Str), 20, 2), (("is_graph" : Str), 21, 1), (("check_graph" : Str), 22, 1), (("number_text" : Str), 23, 1), (("matrix_text" : Str), 24, 1), (("gate_text" : Str), 25, 1), (("circuit_text" : Str), 26, 1), (("pauli_text" : Str), 27, 1), (("paulis_text" : Str), 28, 1), (("graph_text" : Str), 29, 1), (("listed" : Str), 30, 1), (("form_text" : Str), 31, 1), (("are_paulis" : Str), 32, 1), (("show_number" : Str), 33, 1), (("show_matrix" : Str), 34, 1), (("show_circuit" : Str), 35, 1), (("show_pauli" : Str), 36, 1), (("show_paulis" : Str), 37, 1), (("show_graph" : Str), 38, 1), (("show_form" : Str), 39, 1), (("_law_draw" : Str), 40, 2), (("_law_like" : Str), 41, 2), (("_law_gates" : Str), 42, 4), (("_law_pauli" : Str), 43, 2), (("_law_graph" : Str), 44, 2), (("_law_drawn_form" : Str), 45, 2), (("_law_number" : Str), 46, 2), (("_law_listed" : Str), 47, 1), (("_law_text" : Str), 48, 2), (("_law_thing" : Str), 49, 2), (("law" : Str), 50, 1)]
def gK : List (Str × Nat × List Str × List Nat) := [(("show_circuit" : Str), 0, ["circuit"], [0]), (("show_form" : Str), 0, ["form"], [0]), (("show_graph" : Str), 0, ["graph"], [0]), (("show_matrix" : Str), 0, ["matrix"], [0]), (("show_number" : Str), 0, ["one"], [0]), (("show_pauli" : Str), 0, ["pauli"], [0]), (("show_paulis" : Str), 0, ["rows"], [0])]
def GG : Glob := ⟨gFree, gConsts, gFuns, gK, gDicts⟩
-- is_integer
def n_0 : List Str := ["value"]
def m_0 : Md := fun x => 0
def b_0 (fe : Nat → FD) : SM := (sRet (eAnd (eIsI [.int] (oVar 0)) (eNot (eIsI [.bool] (oVar 0)))))
set_option maxHeartbeats 400000 in
theorem t_0 (fe : Nat → FD) : (den GG fe n_0 m_0 60).B (defDC (topS 10)) (defBody (topS 10)) = b_0 fe := by kernel_rfl
-- is_natural
def n_1 : List Str := ["value"]
def m_1 : Md := fun x => 0
def b_1 (fe : Nat → FD) : SM := (sRet (eAnd (eFn 1 (fe 0) (aCons (eVar 0) aNil)) (eOp gGe (oVar 0) (eC (.int 0)))))
set_option maxHeartbeats 400000 in
theorem t_1 (fe : Nat → FD) : (den GG fe n_1 m_1 60).B (defDC (topS 11)) (defBody (topS 11)) = b_1 fe := by kernel_rfl
-- is_made_of
def n_2 : List Str := ["value", "signs", "many", "sign"]
def m_2 : Md := fun x => 0
def b_2 (fe : Nat → FD) : SM := (sRet (eAnd (eIsI [.str] (oVar 0)) (eAnd (eOp gEq (eCall gLen (aCons (oVar 0) aNil)) (oVar 2)) (eCall gAll (aCons (eFrz (lcL (iVal (oVar 0)) (tgName 3) tYesM (eOp gIn (oVar 3) (oVar 1)) [3])) aNil)))))
set_option maxHeartbeats 400000 in
theorem t_2 (fe : Nat → FD) : (den GG fe n_2 m_2 60).B (defDC (topS 12)) (defBody (topS 12)) = b_2 fe := by kernel_rfl
-- is_ascending
def n_3 : List Str := ["row", "one", "other"]
def m_3 : Md := fun x => 0
def b_3 (fe : Nat → FD) : SM := (sRet (eCall gAll (aCons (eFrz (lcL (iZipD (aCons (eVar 0) (aCons (eSlice (oVar 0) (oSome (eC (.int 1))) oNone) aNil))) (tgTup [(tgName 1), (tgName 2)]) tYesM (eOp gLt (oVar 1) (oVar 2)) [1, 2])) aNil)))
set_option maxHeartbeats 400000 in
theorem t_3 (fe : Nat → FD) : (den GG fe n_3 m_3 60).B (defDC (topS 13)) (defBody (topS 13)) = b_3 fe := by kernel_rfl
-- is_gate
def n_4 : List Str := ["many", "value", "lines", "line"]
def m_4 : Md := fun x => 0
def b_4 (fe : Nat → FD) : SM := (sSeq (sIf (tOr (tNot (tB (eIsI [.tuple] (oVar 1)))) (tOr (tB (eOp gEq (eCall gLen (aCons (oVar 1) aNil)) (eC (.int 0)))) (tOr (tNot (tB (eIsI [.str] (eOp atD (oVar 1) (eC (.int 0)))))) (tB (eInG k_GATES true (eOp atD (oVar 1) (eC (.int 0))))))))
  (sRet (eC (.bl false)))
  sNil)
  (sSeq (sSet 2 (xVal (eSlice (oVar 1) (oSome (eC (.int 1))) oNone)))
  (sSeq (sIf (tOr (tB (eOp gNe (eCall gLen (aCons (oVar 2) aNil)) (eGetG k_GATES (eOp atD (oVar 1) (eC (.int 0)))))) (tNot (tB (eCall gAll (aCons (eFrz (lcL (iVal (oVar 2)) (tgName 3) tYesM (eAnd (eFn 1 (fe 1) (aCons (eVar 3) aNil)) (eOp gLt (oVar 3) (oVar 0))) [3])) aNil)))))
  (sRet (eC (.bl false)))
  sNil)
  (sRet (eOr (eOp gLt (eCall gLen (aCons (oVar 2) aNil)) (eC (.int 2))) (eOp gNe (eOp atD (oVar 2) (eC (.int 0))) (eOp atD (oVar 2) (eC (.int 1)))))))))
set_option maxHeartbeats 400000 in
theorem t_4 (fe : Nat → FD) : (den GG fe n_4 m_4 60).B (defDC (topS 16)) (defBody (topS 16)) = b_4 fe := by kernel_rfl
-- is_circuit
def n_5 : List Str := ["value", "gate"]
def m_5 : Md := fun x => 0
def b_5 (fe : Nat → FD) : SM := (sSeq (sIf (tOr (tNot (tB (eIsI [.tuple] (oVar 0)))) (tOr (tB (eOp gNe (eCall gLen (aCons (oVar 0) aNil)) (eC (.int 2)))) (tOr (tNot (tB (eFn 1 (fe 0) (aCons (eOp atD (oVar 0) (eC (.int 0))) aNil)))) (tB (eOp gLt (eOp atD (oVar 0) (eC (.int 0))) (eC (.int 1)))))))
  (sRet (eC (.bl false)))
  sNil)
  (sRet (eAnd (eIsI [.tuple] (eOp atD (oVar 0) (eC (.int 1)))) (eCall gAll (aCons (eFrz (lcL (iVal (eOp atD (oVar 0) (eC (.int 1)))) (tgName 1) tYesM (eFn 2 (fe 4) (aCons (eOp atD (oVar 0) (eC (.int 0))) (aCons (eVar 1) aNil))) [1])) aNil)))))
set_option maxHeartbeats 400000 in
theorem t_5 (fe : Nat → FD) : (den GG fe n_5 m_5 60).B (defDC (topS 17)) (defBody (topS 17)) = b_5 fe := by kernel_rfl
-- check_circuit
def n_6 : List Str := ["circuit"]
def m_6 : Md := fun x => 0
def b_6 (fe : Nat → FD) : SM := (sIf (tNot (tB (eFn 1 (fe 5) (aCons (eVar 0) aNil))))
  sBad
  sNil)
set_option maxHeartbeats 400000 in
theorem t_6 (fe : Nat → FD) : (den GG fe n_6 m_6 60).B (defDC (topS 18)) (defBody (topS 18)) = b_6 fe := by kernel_rfl
-- is_independent
def n_7 : List Str := ["rows", "kept", "row", "own"]
def m_7 : Md := fun x => if x = ("kept" : Str) then 1 else 0
def b_7 (fe : Nat → FD) : SM := (sSeq (sSet 1 (xOwn (lLst aNil)))
  (sSeq (sForV 0 (tgName 2)
  (sSeq (sForV 1 (tgName 3)
  (sSet 2 (xVal (eCall gMin2 (aCons (oVar 2) (aCons (eOp gXor (oVar 2) (oVar 3)) aNil))))))
  (sSeq (sIf (tB (eOp gEq (oVar 2) (eC (.int 0))))
  (sRet (eC (.bl false)))
  sNil)
  (sAppend 1 (eVar 2)))))
  (sRet (eC (.bl true)))))
set_option maxHeartbeats 400000 in
theorem t_7 (fe : Nat → FD) : (den GG fe n_7 m_7 60).B (defDC (topS 20)) (defBody (topS 20)) = b_7 fe := by kernel_rfl
-- is_number
def n_8 : List Str := ["value", "a", "b", "c", "d", "k", "own"]
def m_8 : Md := fun x => 0
def b_8 (fe : Nat → FD) : SM := (sSeq (sIf (tOr (tNot (tB (eIsI [.tuple] (oVar 0)))) (tOr (tB (eOp gNe (eCall gLen (aCons (oVar 0) aNil)) (eC (.int 5)))) (tNot (tB (eCall gAll (aCons (eFrz (lcL (iVal (oVar 0)) (tgName 6) tYesM (eFn 1 (fe 0) (aCons (eVar 6) aNil)) [6])) aNil))))))
  (sRet (eC (.bl false)))
  sNil)
  (sSeq (sAsg (tgTup [(tgName 1), (tgName 2), (tgName 3), (tgName 4), (tgName 5)]) (eVar 0))
  (sRet (eOr (eOp gEq (oVar 5) (eC (.int 0))) (eAnd (eFn 1 (fe 1) (aCons (eVar 5) aNil)) (eOr (eOp gNe (eOp gMod (eOp gSub (oVar 1) (oVar 3)) (eC (.int 2))) (eC (.int 0))) (eOp gNe (eOp gMod (eOp gSub (oVar 2) (oVar 4)) (eC (.int 2))) (eC (.int 0)))))))))
set_option maxHeartbeats 400000 in
theorem t_8 (fe : Nat → FD) : (den GG fe n_8 m_8 60).B (defDC (topS 22)) (defBody (topS 22)) = b_8 fe := by kernel_rfl
-- check_number
def n_9 : List Str := ["value"]
def m_9 : Md := fun x => 0
def b_9 (fe : Nat → FD) : SM := (sIf (tNot (tB (eFn 1 (fe 8) (aCons (eVar 0) aNil))))
  sBad
  sNil)
set_option maxHeartbeats 400000 in
theorem t_9 (fe : Nat → FD) : (den GG fe n_9 m_9 60).B (defDC (topS 23)) (defBody (topS 23)) = b_9 fe := by kernel_rfl
-- is_matrix
def n_10 : List Str := ["value", "row", "own"]
def m_10 : Md := fun x => 0
def b_10 (fe : Nat → FD) : SM := (sSeq (sIf (tOr (tNot (tB (eIsI [.tuple] (oVar 0)))) (tOr (tB (eOp gLt (eCall gLen (aCons (oVar 0) aNil)) (eC (.int 2)))) (tB (eOp gNe (eOp gAnd (eCall gLen (aCons (oVar 0) aNil)) (eOp gSub (eCall gLen (aCons (oVar 0) aNil)) (eC (.int 1)))) (eC (.int 0))))))
  (sRet (eC (.bl false)))
  sNil)
  (sSeq (sForV 0 (tgName 1)
  (sIf (tOr (tNot (tB (eIsI [.tuple] (oVar 1)))) (tOr (tB (eOp gNe (eCall gLen (aCons (oVar 1) aNil)) (eCall gLen (aCons (oVar 0) aNil)))) (tNot (tB (eCall gAll (aCons (eFrz (lcL (iVal (oVar 1)) (tgName 2) tYesM (eFn 1 (fe 8) (aCons (eVar 2) aNil)) [2])) aNil))))))
  (sRet (eC (.bl false)))
  sNil))
  (sRet (eC (.bl true)))))
set_option maxHeartbeats 400000 in
theorem t_10 (fe : Nat → FD) : (den GG fe n_10 m_10 60).B (defDC (topS 25)) (defBody (topS 25)) = b_10 fe := by kernel_rfl
-- check_matrix
def n_11 : List Str := ["matrix"]
def m_11 : Md := fun x => 0
def b_11 (fe : Nat → FD) : SM := (sIf (tNot (tB (eFn 1 (fe 10) (aCons (eVar 0) aNil))))
  sBad
  sNil)
set_option maxHeartbeats 400000 in
theorem t_11 (fe : Nat → FD) : (den GG fe n_11 m_11 60).B (defDC (topS 26)) (defBody (topS 26)) = b_11 fe := by kernel_rfl
-- is_below
def n_12 : List Str := ["value", "least", "most"]
def m_12 : Md := fun x => 0
def b_12 (fe : Nat → FD) : SM := (sRet (eAnd (eFn 1 (fe 0) (aCons (eVar 0) aNil)) (eChain gLeI gLeI (oVar 1) (oVar 0) (oVar 2))))
set_option maxHeartbeats 400000 in
theorem t_12 (fe : Nat → FD) : (den GG fe n_12 m_12 60).B (defDC (topS 28)) (defBody (topS 28)) = b_12 fe := by kernel_rfl
-- are_twos
def n_13 : List Str := ["many", "value", "own", "i", "j", "c"]
def m_13 : Md := fun x => 0
def b_13 (fe : Nat → FD) : SM := (sSeq (sIf (tOr (tNot (tB (eIsI [.tuple] (oVar 1)))) (tNot (tB (eCall gAll (aCons (eFrz (lcL (iVal (oVar 1)) (tgName 2) tYesM (eAnd (eIsI [.tuple] (oVar 2)) (eOp gEq (eCall gLen (aCons (oVar 2) aNil)) (eC (.int 3)))) [2])) aNil)))))
  (sRet (eC (.bl false)))
  sNil)
  (sSeq (sIf (tNot (tB (eCall gAll (aCons (eFrz (lcL (iVal (oVar 1)) (tgTup [(tgName 3), (tgName 4), (tgName 5)]) tYesM (eAnd (eFn 1 (fe 1) (aCons (eVar 3) aNil)) (eAnd (eFn 3 (fe 12) (aCons (eVar 4) (aCons (eOp gAdd (oVar 3) (eC (.int 1))) (aCons (eOp gSub (oVar 0) (eC (.int 1))) aNil)))) (eFn 3 (fe 12) (aCons (eVar 5) (aCons (eC (.int 1)) (aCons (eC (.int 3)) aNil)))))) [3, 4, 5])) aNil))))
  (sRet (eC (.bl false)))
  sNil)
  (sRet (eFn 1 (fe 3) (aCons (eFrz (lcL (iVal (oVar 1)) (tgName 2) tYesM (eSlice (oVar 2) oNone (oSome (eC (.int 2)))) [2])) aNil)))))
set_option maxHeartbeats 400000 in
theorem t_13 (fe : Nat → FD) : (den GG fe n_13 m_13 60).B (defDC (topS 29)) (defBody (topS 29)) = b_13 fe := by kernel_rfl
-- are_threes
def n_14 : List Str := ["many", "value", "i", "j", "k", "own"]
def m_14 : Md := fun x => 0
def b_14 (fe : Nat → FD) : SM := (sSeq (sIf (tOr (tNot (tB (eIsI [.tuple] (oVar 1)))) (tNot (tB (eCall gAll (aCons (eFrz (lcL (iVal (oVar 1)) (tgName 5) tYesM (eAnd (eIsI [.tuple] (oVar 5)) (eOp gEq (eCall gLen (aCons (oVar 5) aNil)) (eC (.int 3)))) [5])) aNil)))))
  (sRet (eC (.bl false)))
  sNil)
  (sSeq (sIf (tNot (tB (eCall gAll (aCons (eFrz (lcL (iVal (oVar 1)) (tgTup [(tgName 2), (tgName 3), (tgName 4)]) tYesM (eAnd (eFn 1 (fe 1) (aCons (eVar 2) aNil)) (eAnd (eFn 1 (fe 1) (aCons (eVar 3) aNil)) (eAnd (eOp gLt (oVar 2) (oVar 3)) (eFn 3 (fe 12) (aCons (eVar 4) (aCons (eOp gAdd (oVar 3) (eC (.int 1))) (aCons (eOp gSub (oVar 0) (eC (.int 1))) aNil))))))) [2, 3, 4])) aNil))))
  (sRet (eC (.bl false)))
  sNil)
  (sRet (eFn 1 (fe 3) (aCons (eVar 1) aNil)))))
set_option maxHeartbeats 400000 in
theorem t_14 (fe : Nat → FD) : (den GG fe n_14 m_14 60).B (defDC (topS 30)) (defBody (topS 30)) = b_14 fe := by kernel_rfl
-- are_rows
def n_15 : List Str := ["many", "value", "own"]
def m_15 : Md := fun x => 0
def b_15 (fe : Nat → FD) : SM := (sSeq (sIf (tOr (tNot (tB (eIsI [.tuple] (oVar 1)))) (tOr (tB (eOp gNe (eCall gLen (aCons (oVar 1) aNil)) (oVar 0))) (tNot (tB (eCall gAll (aCons (eFrz (lcL (iVal (oVar 1)) (tgName 2) tYesM (eFn 3 (fe 2) (aCons (eVar 2) (aCons (eC (.str [48, 49])) (aCons (eVar 0) aNil)))) [2])) aNil))))))
  (sRet (eC (.bl false)))
  sNil)
  (sRet (eFn 1 (fe 7) (aCons (eFrz (lcL (iVal (oVar 1)) (tgName 2) tYesM (eCall gIntA (aCons (oVar 2) (aCons (eC (.int 2)) aNil))) [2])) aNil))))
set_option maxHeartbeats 400000 in
theorem t_15 (fe : Nat → FD) : (den GG fe n_15 m_15 60).B (defDC (topS 31)) (defBody (topS 31)) = b_15 fe := by kernel_rfl
-- is_form
def n_16 : List Str := ["value", "many", "e", "ones", "twos", "threes", "rows", "word", "own"]
def m_16 : Md := fun x => 0
def b_16 (fe : Nat → FD) : SM := (sSeq (sIf (tOr (tNot (tB (eIsI [.tuple] (oVar 0)))) (tOr (tB (eOp gNe (eCall gLen (aCons (oVar 0) aNil)) (eC (.int 7)))) (tOr (tNot (tB (eFn 1 (fe 0) (aCons (eOp atD (oVar 0) (eC (.int 0))) aNil)))) (tB (eOp gLt (eOp atD (oVar 0) (eC (.int 0))) (eC (.int 1)))))))
  (sRet (eC (.bl false)))
  sNil)
  (sSeq (sAsg (tgTup [(tgName 1), (tgName 2), (tgName 3), (tgName 4), (tgName 5), (tgName 6), (tgName 7)]) (eVar 0))
  (sSeq (sIf (tOr (tNot (tB (eFn 3 (fe 12) (aCons (eVar 2) (aCons (eC (.int 0)) (aCons (eC (.int 7)) aNil)))))) (tOr (tNot (tB (eIsI [.tuple] (oVar 3)))) (tB (eOp gNe (eCall gLen (aCons (oVar 3) aNil)) (oVar 1)))))
  (sRet (eC (.bl false)))
  sNil)
  (sSeq (sIf (tOr (tNot (tB (eCall gAll (aCons (eFrz (lcL (iVal (oVar 3)) (tgName 8) tYesM (eFn 3 (fe 12) (aCons (eVar 8) (aCons (eC (.int 0)) (aCons (eC (.int 7)) aNil)))) [8])) aNil)))) (tOr (tNot (tB (eFn 2 (fe 13) (aCons (eVar 1) (aCons (eVar 4) aNil))))) (tNot (tB (eFn 2 (fe 14) (aCons (eVar 1) (aCons (eVar 5) aNil)))))))
  (sRet (eC (.bl false)))
  sNil)
  (sRet (eAnd (eFn 2 (fe 15) (aCons (eVar 1) (aCons (eVar 6) aNil))) (eFn 3 (fe 2) (aCons (eVar 7) (aCons (eC (.str [48, 49])) (aCons (eVar 1) aNil))))))))))
set_option maxHeartbeats 400000 in
theorem t_16 (fe : Nat → FD) : (den GG fe n_16 m_16 60).B (defDC (topS 32)) (defBody (topS 32)) = b_16 fe := by kernel_rfl
-- check_form
def n_17 : List Str := ["form"]
def m_17 : Md := fun x => 0
def b_17 (fe : Nat → FD) : SM := (sIf (tNot (tB (eFn 1 (fe 16) (aCons (eVar 0) aNil))))
  sBad
  sNil)
set_option maxHeartbeats 400000 in
theorem t_17 (fe : Nat → FD) : (den GG fe n_17 m_17 60).B (defDC (topS 33)) (defBody (topS 33)) = b_17 fe := by kernel_rfl
-- is_pauli
def n_18 : List Str := ["value", "letters", "letter"]
def m_18 : Md := fun x => 0
def b_18 (fe : Nat → FD) : SM := (sSeq (sIf (tOr (tNot (tB (eIsI [.tuple] (oVar 0)))) (tOr (tB (eOp gNe (eCall gLen (aCons (oVar 0) aNil)) (eC (.int 2)))) (tOr (tNot (tB (eFn 1 (fe 0) (aCons (eOp atD (oVar 0) (eC (.int 0))) aNil)))) (tNot (tB (eChain gLeI gLeI (eC (.int 0)) (eOp atD (oVar 0) (eC (.int 0))) (eC (.int 3))))))))
  (sRet (eC (.bl false)))
  sNil)
  (sSeq (sSet 1 (xVal (eOp atD (oVar 0) (eC (.int 1)))))
  (sRet (eAnd (eIsI [.str] (oVar 1)) (eAnd (eOp gNe (oVar 1) (eC (.str []))) (eCall gAll (aCons (eFrz (lcL (iVal (oVar 1)) (tgName 2) tYesM (eOp gIn (oVar 2) (eC (.str [73, 88, 89, 90]))) [2])) aNil)))))))
set_option maxHeartbeats 400000 in
theorem t_18 (fe : Nat → FD) : (den GG fe n_18 m_18 60).B (defDC (topS 35)) (defBody (topS 35)) = b_18 fe := by kernel_rfl
-- check_pauli
def n_19 : List Str := ["pauli", "many"]
def m_19 : Md := fun x => 0
def b_19 (fe : Nat → FD) : SM := (sIf (tOr (tNot (tB (eFn 1 (fe 18) (aCons (eVar 0) aNil)))) (tAnd (tB (eOp gNotN (oVar 1) (eC .non))) (tB (eOp gNe (eCall gLen (aCons (eOp atD (oVar 0) (eC (.int 1))) aNil)) (oVar 1)))))
  sBad
  sNil)
set_option maxHeartbeats 400000 in
theorem t_19 (fe : Nat → FD) : (den GG fe n_19 m_19 60).B (defDC (topS 36)) (defBody (topS 36)) = b_19 fe := by kernel_rfl
-- is_edge
def n_20 : List Str := ["many", "value", "own"]
def m_20 : Md := fun x => 0
def b_20 (fe : Nat → FD) : SM := (sSeq (sIf (tOr (tNot (tB (eIsI [.tuple] (oVar 1)))) (tOr (tB (eOp gNe (eCall gLen (aCons (oVar 1) aNil)) (eC (.int 2)))) (tNot (tB (eCall gAll (aCons (eFrz (lcL (iVal (oVar 1)) (tgName 2) tYesM (eFn 1 (fe 1) (aCons (eVar 2) aNil)) [2])) aNil))))))
  (sRet (eC (.bl false)))
  sNil)
  (sRet (eChain gLt gLt (eOp atD (oVar 1) (eC (.int 0))) (eOp atD (oVar 1) (eC (.int 1))) (oVar 0))))
set_option maxHeartbeats 400000 in
theorem t_20 (fe : Nat → FD) : (den GG fe n_20 m_20 60).B (defDC (topS 38)) (defBody (topS 38)) = b_20 fe := by kernel_rfl
-- is_graph
def n_21 : List Str := ["value", "edges", "edge"]
def m_21 : Md := fun x => 0
def b_21 (fe : Nat → FD) : SM := (sSeq (sIf (tOr (tNot (tB (eIsI [.tuple] (oVar 0)))) (tOr (tB (eOp gNe (eCall gLen (aCons (oVar 0) aNil)) (eC (.int 2)))) (tOr (tNot (tB (eFn 1 (fe 0) (aCons (eOp atD (oVar 0) (eC (.int 0))) aNil)))) (tB (eOp gLt (eOp atD (oVar 0) (eC (.int 0))) (eC (.int 1)))))))
  (sRet (eC (.bl false)))
  sNil)
  (sSeq (sSet 1 (xVal (eOp atD (oVar 0) (eC (.int 1)))))
  (sRet (eAnd (eIsI [.tuple] (oVar 1)) (eAnd (eCall gAll (aCons (eFrz (lcL (iVal (oVar 1)) (tgName 2) tYesM (eFn 2 (fe 20) (aCons (eOp atD (oVar 0) (eC (.int 0))) (aCons (eVar 2) aNil))) [2])) aNil)) (eFn 1 (fe 3) (aCons (eVar 1) aNil)))))))
set_option maxHeartbeats 400000 in
theorem t_21 (fe : Nat → FD) : (den GG fe n_21 m_21 60).B (defDC (topS 39)) (defBody (topS 39)) = b_21 fe := by kernel_rfl
-- check_graph
def n_22 : List Str := ["graph"]
def m_22 : Md := fun x => 0
def b_22 (fe : Nat → FD) : SM := (sIf (tNot (tB (eFn 1 (fe 21) (aCons (eVar 0) aNil))))
  sBad
  sNil)
set_option maxHeartbeats 400000 in
theorem t_22 (fe : Nat → FD) : (den GG fe n_22 m_22 60).B (defDC (topS 40)) (defBody (topS 40)) = b_22 fe := by kernel_rfl
-- number_text
def n_23 : List Str := ["one", "a", "b", "c", "d", "k"]
def m_23 : Md := fun x => 0
def b_23 (fe : Nat → FD) : SM := (sSeq (sAsg (tgTup [(tgName 1), (tgName 2), (tgName 3), (tgName 4), (tgName 5)]) (eVar 0))
  (sRet (eJoined [(eFmt (eVar 1)), (eC (.str [32])), (eFmt (eVar 2)), (eC (.str [32])), (eFmt (eVar 3)), (eC (.str [32])), (eFmt (eVar 4)), (eC (.str [32, 47])), (eFmt (eVar 5))])))
set_option maxHeartbeats 400000 in
theorem t_23 (fe : Nat → FD) : (den GG fe n_23 m_23 60).B (defDC (topS 43)) (defBody (topS 43)) = b_23 fe := by kernel_rfl
-- matrix_text
def n_24 : List Str := ["matrix", "row", "own"]
def m_24 : Md := fun x => 0
def b_24 (fe : Nat → FD) : SM := (sRet (eMeth .str gJoin (eC (.str [59, 32])) (aCons (eFrz (lcL (iVal (oVar 0)) (tgName 1) tYesM (eMeth .str gJoin (eC (.str [32])) (aCons (eFrz (lcL (iVal (oVar 1)) (tgName 2) tYesM (eJoined [(eC (.str [40])), (eFmt (eFn 1 (fe 23) (aCons (eVar 2) aNil))), (eC (.str [41]))]) [2])) aNil)) [1])) aNil)))
set_option maxHeartbeats 400000 in
theorem t_24 (fe : Nat → FD) : (den GG fe n_24 m_24 60).B (defDC (topS 44)) (defBody (topS 44)) = b_24 fe := by kernel_rfl
-- gate_text
def n_25 : List Str := ["gate", "line"]
def m_25 : Md := fun x => 0
def b_25 (fe : Nat → FD) : SM := (sRet (eMeth .str gJoin (eC (.str [46])) (aCons (eOp gAdd (eFrz (lLst (aCons (eOp atD (oVar 0) (eC (.int 0))) aNil))) (eFrz (lcL (iVal (eSlice (oVar 0) (oSome (eC (.int 1))) oNone)) (tgName 1) tYesM (eCall gStrI (aCons (oVar 1) aNil)) [1]))) aNil)))
set_option maxHeartbeats 400000 in
theorem t_25 (fe : Nat → FD) : (den GG fe n_25 m_25 60).B (defDC (topS 45)) (defBody (topS 45)) = b_25 fe := by kernel_rfl
-- circuit_text
def n_26 : List Str := ["circuit", "gate"]
def m_26 : Md := fun x => 0
def b_26 (fe : Nat → FD) : SM := (sRet (eMeth .str gJoin (eC (.str [32])) (aCons (eOp gAdd (eFrz (lLst (aCons (eJoined [(eFmt (eOp atD (oVar 0) (eC (.int 0)))), (eC (.str [58]))]) aNil))) (eFrz (lcL (iVal (eOp atD (oVar 0) (eC (.int 1)))) (tgName 1) tYesM (eFn 1 (fe 25) (aCons (eVar 1) aNil)) [1]))) aNil)))
set_option maxHeartbeats 400000 in
theorem t_26 (fe : Nat → FD) : (den GG fe n_26 m_26 60).B (defDC (topS 46)) (defBody (topS 46)) = b_26 fe := by kernel_rfl
-- pauli_text
def n_27 : List Str := ["pauli"]
def m_27 : Md := fun x => 0
def b_27 (fe : Nat → FD) : SM := (sRet (eOp gAdd (eOp atD (eC c_SIGNS) (eOp atD (oVar 0) (eC (.int 0)))) (eOp atD (oVar 0) (eC (.int 1)))))
set_option maxHeartbeats 400000 in
theorem t_27 (fe : Nat → FD) : (den GG fe n_27 m_27 60).B (defDC (topS 47)) (defBody (topS 47)) = b_27 fe := by kernel_rfl
-- paulis_text
def n_28 : List Str := ["rows", "own"]
def m_28 : Md := fun x => 0
def b_28 (fe : Nat → FD) : SM := (sRet (eMeth .str gJoin (eC (.str [32])) (aCons (eFrz (lcL (iVal (oVar 0)) (tgName 1) tYesM (eFn 1 (fe 27) (aCons (eVar 1) aNil)) [1])) aNil)))
set_option maxHeartbeats 400000 in
theorem t_28 (fe : Nat → FD) : (den GG fe n_28 m_28 60).B (defDC (topS 48)) (defBody (topS 48)) = b_28 fe := by kernel_rfl
-- graph_text
def n_29 : List Str := ["graph", "i", "j"]
def m_29 : Md := fun x => 0
def b_29 (fe : Nat → FD) : SM := (sRet (eMeth .str gJoin (eC (.str [32])) (aCons (eOp gAdd (eFrz (lLst (aCons (eJoined [(eFmt (eOp atD (oVar 0) (eC (.int 0)))), (eC (.str [47]))]) aNil))) (eFrz (lcL (iVal (eOp atD (oVar 0) (eC (.int 1)))) (tgTup [(tgName 1), (tgName 2)]) tYesM (eJoined [(eFmt (eVar 1)), (eC (.str [45])), (eFmt (eVar 2))]) [1, 2]))) aNil)))
set_option maxHeartbeats 400000 in
theorem t_29 (fe : Nat → FD) : (den GG fe n_29 m_29 60).B (defDC (topS 49)) (defBody (topS 49)) = b_29 fe := by kernel_rfl
-- listed
def n_30 : List Str := ["rows"]
def m_30 : Md := fun x => 0
def b_30 (fe : Nat → FD) : SM := (sRet (eIf (tB (eOp gNe (oVar 0) (eFrz (lLst aNil)))) (eMeth .str gJoin (eC (.str [44])) (aCons (oVar 0) aNil)) (eC (.str [110, 111, 110, 101]))))
set_option maxHeartbeats 400000 in
theorem t_30 (fe : Nat → FD) : (den GG fe n_30 m_30 60).B (defDC (topS 50)) (defBody (topS 50)) = b_30 fe := by kernel_rfl
-- form_text
def n_31 : List Str := ["form", "many", "e", "ones", "twos", "threes", "rows", "word", "parts", "own", "i", "j", "c", "k"]
def m_31 : Md := fun x => if x = ("parts" : Str) then 1 else 0
def b_31 (fe : Nat → FD) : SM := (sSeq (sAsg (tgTup [(tgName 1), (tgName 2), (tgName 3), (tgName 4), (tgName 5), (tgName 6), (tgName 7)]) (eVar 0))
  (sSeq (sSet 8 (xOwn (lLst (aCons (eCall gStrI (aCons (oVar 1) aNil)) (aCons (eCall gStrI (aCons (oVar 2) aNil)) (aCons (eMeth .str gJoin (eC (.str [44])) (aCons (eFrz (lcL (iVal (oVar 3)) (tgName 9) tYesM (eCall gStrI (aCons (oVar 9) aNil)) [9])) aNil)) aNil))))))
  (sSeq (sAppend 8 (eFn 1 (fe 30) (aCons (eFrz (lcL (iVal (oVar 4)) (tgTup [(tgName 10), (tgName 11), (tgName 12)]) tYesM (eJoined [(eFmt (eVar 10)), (eC (.str [45])), (eFmt (eVar 11)), (eC (.str [42])), (eFmt (eVar 12))]) [10, 11, 12])) aNil)))
  (sSeq (sAppend 8 (eFn 1 (fe 30) (aCons (eFrz (lcL (iVal (oVar 5)) (tgTup [(tgName 10), (tgName 11), (tgName 13)]) tYesM (eJoined [(eFmt (eVar 10)), (eC (.str [45])), (eFmt (eVar 11)), (eC (.str [45])), (eFmt (eVar 13))]) [10, 11, 13])) aNil)))
  (sRet (eMeth .str gJoin (eC (.str [59, 32])) (aCons (eOp gAdd (oVar 8) (eFrz (lLst (aCons (eMeth .str gJoin (eC (.str [44])) (aCons (oVar 6) aNil)) (aCons (eVar 7) aNil))))) aNil)))))))
set_option maxHeartbeats 400000 in
theorem t_31 (fe : Nat → FD) : (den GG fe n_31 m_31 60).B (defDC (topS 51)) (defBody (topS 51)) = b_31 fe := by kernel_rfl
-- are_paulis
def n_32 : List Str := ["value", "own"]
def m_32 : Md := fun x => 0
def b_32 (fe : Nat → FD) : SM := (sSeq (sIf (tOr (tNot (tB (eIsI [.tuple] (oVar 0)))) (tOr (tB (eOp gEq (eCall gLen (aCons (oVar 0) aNil)) (eC (.int 0)))) (tNot (tB (eCall gAll (aCons (eFrz (lcL (iVal (oVar 0)) (tgName 1) tYesM (eFn 1 (fe 18) (aCons (eVar 1) aNil)) [1])) aNil))))))
  (sRet (eC (.bl false)))
  sNil)
  (sRet (eCall gAll (aCons (eFrz (lcL (iVal (oVar 0)) (tgName 1) tYesM (eOp gEq (eCall gLen (aCons (eOp atD (oVar 1) (eC (.int 1))) aNil)) (eCall gLen (aCons (eOp atD (eOp atD (oVar 0) (eC (.int 0))) (eC (.int 1))) aNil))) [1])) aNil))))
set_option maxHeartbeats 400000 in
theorem t_32 (fe : Nat → FD) : (den GG fe n_32 m_32 60).B (defDC (topS 52)) (defBody (topS 52)) = b_32 fe := by kernel_rfl
-- show_number
def n_33 : List Str := ["one"]
def m_33 : Md := fun x => 0
def b_33 (fe : Nat → FD) : SM := (sSeq (sExpr (eFn 1 (fe 9) (aCons (eVar 0) aNil)))
  (sRet (eFn 1 (fe 23) (aCons (eVar 0) aNil))))
set_option maxHeartbeats 400000 in
theorem t_33 (fe : Nat → FD) : (den GG fe n_33 m_33 60).B (defDC (topS 53)) (defBody (topS 53)) = b_33 fe := by kernel_rfl
-- show_matrix
def n_34 : List Str := ["matrix"]
def m_34 : Md := fun x => 0
def b_34 (fe : Nat → FD) : SM := (sSeq (sExpr (eFn 1 (fe 11) (aCons (eVar 0) aNil)))
  (sRet (eFn 1 (fe 24) (aCons (eVar 0) aNil))))
set_option maxHeartbeats 400000 in
theorem t_34 (fe : Nat → FD) : (den GG fe n_34 m_34 60).B (defDC (topS 54)) (defBody (topS 54)) = b_34 fe := by kernel_rfl
-- show_circuit
def n_35 : List Str := ["circuit"]
def m_35 : Md := fun x => 0
def b_35 (fe : Nat → FD) : SM := (sSeq (sExpr (eFn 1 (fe 6) (aCons (eVar 0) aNil)))
  (sRet (eFn 1 (fe 26) (aCons (eVar 0) aNil))))
set_option maxHeartbeats 400000 in
theorem t_35 (fe : Nat → FD) : (den GG fe n_35 m_35 60).B (defDC (topS 55)) (defBody (topS 55)) = b_35 fe := by kernel_rfl
-- show_pauli
def n_36 : List Str := ["pauli"]
def m_36 : Md := fun x => 0
def b_36 (fe : Nat → FD) : SM := (sSeq (sExpr (eFn 2 (fe 19) (aCons (eVar 0) (aCons (eC .non) aNil))))
  (sRet (eFn 1 (fe 27) (aCons (eVar 0) aNil))))
set_option maxHeartbeats 400000 in
theorem t_36 (fe : Nat → FD) : (den GG fe n_36 m_36 60).B (defDC (topS 56)) (defBody (topS 56)) = b_36 fe := by kernel_rfl
-- show_paulis
def n_37 : List Str := ["rows"]
def m_37 : Md := fun x => 0
def b_37 (fe : Nat → FD) : SM := (sSeq (sIf (tNot (tB (eFn 1 (fe 32) (aCons (eVar 0) aNil))))
  sBad
  sNil)
  (sRet (eFn 1 (fe 28) (aCons (eVar 0) aNil))))
set_option maxHeartbeats 400000 in
theorem t_37 (fe : Nat → FD) : (den GG fe n_37 m_37 60).B (defDC (topS 57)) (defBody (topS 57)) = b_37 fe := by kernel_rfl
-- show_graph
def n_38 : List Str := ["graph"]
def m_38 : Md := fun x => 0
def b_38 (fe : Nat → FD) : SM := (sSeq (sExpr (eFn 1 (fe 22) (aCons (eVar 0) aNil)))
  (sRet (eFn 1 (fe 29) (aCons (eVar 0) aNil))))
set_option maxHeartbeats 400000 in
theorem t_38 (fe : Nat → FD) : (den GG fe n_38 m_38 60).B (defDC (topS 58)) (defBody (topS 58)) = b_38 fe := by kernel_rfl
-- show_form
def n_39 : List Str := ["form"]
def m_39 : Md := fun x => 0
def b_39 (fe : Nat → FD) : SM := (sSeq (sExpr (eFn 1 (fe 17) (aCons (eVar 0) aNil)))
  (sRet (eFn 1 (fe 31) (aCons (eVar 0) aNil))))
set_option maxHeartbeats 400000 in
theorem t_39 (fe : Nat → FD) : (den GG fe n_39 m_39 60).B (defDC (topS 59)) (defBody (topS 59)) = b_39 fe := by kernel_rfl
-- _law_draw
def n_40 : List Str := ["own", "many", "cell", "small", "digit"]
def m_40 : Md := fun x => 0
def b_40 (fe : Nat → FD) : SM := (sSeq (sAugS 0 gIAdd (eC (.int 2)) (eC (.int 1)))
  (sSeq (sIf (tAnd (tB (eOp gEq (eOp atD (oVar 0) (eC (.int 0))) (eC (.int 0)))) (tB (eOp gLt (eOp atD (oVar 0) (eC (.int 3))) (eCall gLen (aCons (eOp atD (oVar 0) (eC (.int 4))) aNil)))))
  (sSeq (sSet 2 (xVal (eOp atD (eOp atD (oVar 0) (eC (.int 4))) (eOp atD (oVar 0) (eC (.int 3))))))
  (sSeq (sAugS 0 gIAdd (eC (.int 3)) (eC (.int 1)))
  (sIf (tB (eOp gGe (oVar 2) (eOp gPow (eC (.int 10)) (eC (.int 18)))))
  (sStore 0 (eOp gSub (oVar 2) (eOp gPow (eC (.int 10)) (eC (.int 18)))) (eC (.int 0)))
  (sSeq (sSet 3 (xVal (eOp gMod (eCall gIntA (aCons (oVar 2) aNil)) (eC (.int 998244353)))))
  (sStore 0 (eOp gMod (eCall gIntA (aCons (eOp gAdd (eOp gAdd (eOp gAdd (eOp gMul (eOp atD (oVar 0) (eC (.int 1))) (eC (.int 69069))) (eOp gMul (oVar 3) (oVar 3))) (eOp gMul (eC (.int 7)) (oVar 3))) (eOp gMul (eC (.int 3)) (eOp atD (oVar 0) (eC (.int 3))))) aNil)) (eC (.int 2147483587))) (eC (.int 1)))))))
  sNil)
  (sSeq (sIf (tB (eOp gGt (eOp atD (oVar 0) (eC (.int 0))) (eC (.int 0))))
  (sSeq (sSet 4 (xVal (eOp gMod (eCall gIntA (aCons (eOp atD (oVar 0) (eC (.int 0))) aNil)) (oVar 1))))
  (sSeq (sStore 0 (eOp gFdiv (eOp atD (oVar 0) (eC (.int 0))) (oVar 1)) (eC (.int 0)))
  (sRet (eVar 4))))
  sNil)
  (sSeq (sStore 0 (eOp gMod (eCall gIntA (aCons (eOp gAdd (eOp gAdd (eOp gMul (eOp atD (oVar 0) (eC (.int 1))) (eOp atD (oVar 0) (eC (.int 1)))) (eOp gMul (eC (.int 16807)) (eOp atD (oVar 0) (eC (.int 2))))) (eC (.int 29))) aNil)) (eC (.int 2147483587))) (eC (.int 1)))
  (sRet (eOp gMod (eCall gIntA (aCons (eOp gAdd (eOp gFdiv (eOp atD (oVar 0) (eC (.int 1))) (eC (.int 16))) (eOp gMul (eOp atD (oVar 0) (eC (.int 2))) (eOp atD (oVar 0) (eC (.int 2))))) aNil)) (oVar 1)))))))
set_option maxHeartbeats 400000 in
theorem t_40 (fe : Nat → FD) : (den GG fe n_40 m_40 60).B (defDC (topS 61)) (defBody (topS 61)) = b_40 fe := by kernel_rfl
-- _law_like
def n_41 : List Str := ["got", "due", "k"]
def m_41 : Md := fun x => 0
def b_41 (fe : Nat → FD) : SM := (sSeq (sIf (tB (eIsI [.list, .tuple] (oVar 1)))
  (sSeq (sIf (tOr (tNot (tB (eIsI [.list, .tuple] (oVar 0)))) (tOr (tB (eOp gNe (eIsI [.list] (oVar 0)) (eIsI [.list] (oVar 1)))) (tB (eOp gNe (eCall gLen (aCons (oVar 0) aNil)) (eCall gLen (aCons (oVar 1) aNil))))))
  (sRet (eC (.bl false)))
  sNil)
  (sRet (eCall gAll (aCons (eFrz (lcL (iRange1 (aCons (eCall gLen (aCons (oVar 1) aNil)) aNil)) (tgName 2) tYesM (eFn 2 (fe 41) (aCons (eOp atD (oVar 0) (oVar 2)) (aCons (eOp atD (oVar 1) (oVar 2)) aNil))) [2])) aNil))))
  sNil)
  (sSeq (sIf (tB (eOp gIsN (oVar 1) (eC .non)))
  (sRet (eOp gIsN (oVar 0) (eC .non)))
  sNil)
  (sSeq (sIf (tB (eIsI [.bool] (oVar 1)))
  (sRet (eAnd (eIsI [.bool] (oVar 0)) (eOp gEq (oVar 0) (oVar 1))))
  sNil)
  (sSeq (sIf (tB (eIsI [.str] (oVar 1)))
  (sRet (eAnd (eIsI [.str] (oVar 0)) (eOp gEq (oVar 0) (oVar 1))))
  sNil)
  (sRet (eAnd (eIsI [.int] (oVar 0)) (eAnd (eNot (eIsI [.bool] (oVar 0))) (eOp gEq (oVar 0) (oVar 1)))))))))
set_option maxHeartbeats 400000 in
theorem t_41 (fe : Nat → FD) : (den GG fe n_41 m_41 60).B (defDC (topS 62)) (defBody (topS 62)) = b_41 fe := by kernel_rfl
-- _law_gates
def n_42 : List Str := ["own", "many", "most", "names", "found", "turn", "name", "first"]
def m_42 : Md := fun x => if x = ("found" : Str) then 1 else 0
def b_42 (fe : Nat → FD) : SM := (sSeq (sSet 4 (xOwn (lLst aNil)))
  (sSeq (sFor (iRange1 (aCons (eFn 2 (fe 40) (aCons (eVar 0) (aCons (eOp gAdd (oVar 2) (eC (.int 1))) aNil))) aNil)) (tgName 5)
  (sSeq (sSet 6 (xVal (eOp atD (oVar 3) (eFn 2 (fe 40) (aCons (eVar 0) (aCons (eCall gLen (aCons (oVar 3) aNil)) aNil))))))
  (sSeq (sSet 7 (xVal (eFn 2 (fe 40) (aCons (eVar 0) (aCons (eVar 1) aNil)))))
  (sIf (tB (eOp gEq (oVar 6) (eC (.str [119]))))
  (sAppend 4 (eTup (aCons (eVar 6) aNil)))
  (sIf (tB (eOp gNotIn (oVar 6) (eTup (aCons (eC (.str [99, 120])) (aCons (eC (.str [99, 122])) (aCons (eC (.str [115, 119, 97, 112])) aNil))))))
  (sAppend 4 (eTup (aCons (eVar 6) (aCons (eVar 7) aNil))))
  (sIf (tB (eOp gGt (oVar 1) (eC (.int 1))))
  (sAppend 4 (eTup (aCons (eVar 6) (aCons (eVar 7) (aCons (eOp gMod (eCall gIntA (aCons (eOp gAdd (eOp gAdd (oVar 7) (eC (.int 1))) (eFn 2 (fe 40) (aCons (eVar 0) (aCons (eOp gSub (oVar 1) (eC (.int 1))) aNil)))) aNil)) (oVar 1)) aNil)))))
  sNil))))))
  (sRet (eCall gTuple (aCons (oVar 4) aNil)))))
set_option maxHeartbeats 400000 in
theorem t_42 (fe : Nat → FD) : (den GG fe n_42 m_42 60).B (defDC (topS 63)) (defBody (topS 63)) = b_42 fe := by kernel_rfl
-- _law_pauli
def n_43 : List Str := ["own", "many", "k"]
def m_43 : Md := fun x => 0
def b_43 (fe : Nat → FD) : SM := (sRet (eTup (aCons (eFn 2 (fe 40) (aCons (eVar 0) (aCons (eC (.int 4)) aNil))) (aCons (eMeth .str gJoin (eC (.str [])) (aCons (eFrz (lcL (iRange1 (aCons (eVar 1) aNil)) (tgName 2) tYesM (eOp atD (eC (.str [73, 88, 89, 90])) (eFn 2 (fe 40) (aCons (eVar 0) (aCons (eC (.int 4)) aNil)))) [2])) aNil)) aNil))))
set_option maxHeartbeats 400000 in
theorem t_43 (fe : Nat → FD) : (den GG fe n_43 m_43 60).B (defDC (topS 64)) (defBody (topS 64)) = b_43 fe := by kernel_rfl
-- _law_graph
def n_44 : List Str := ["own", "many", "few", "edges", "i", "j"]
def m_44 : Md := fun x => if x = ("edges" : Str) then 1 else 0
def b_44 (fe : Nat → FD) : SM := (sSeq (sPar2 2 3 (xsCons (xVal (eOp gAdd (eC (.int 2)) (eFn 2 (fe 40) (aCons (eVar 0) (aCons (eC (.int 2)) aNil))))) (xsCons (xOwn (lLst aNil)) xsNil)))
  (sSeq (sFor (iRange1 (aCons (eVar 1) aNil)) (tgName 4)
  (sFor (iRange2 (aCons (eOp gAdd (oVar 4) (eC (.int 1))) (aCons (eVar 1) aNil))) (tgName 5)
  (sIf (tB (eOp gEq (eFn 2 (fe 40) (aCons (eVar 0) (aCons (eVar 2) aNil))) (eC (.int 0))))
  (sAppend 3 (eTup (aCons (eVar 4) (aCons (eVar 5) aNil))))
  sNil)))
  (sRet (eTup (aCons (eVar 1) (aCons (eCall gTuple (aCons (oVar 3) aNil)) aNil))))))
set_option maxHeartbeats 400000 in
theorem t_44 (fe : Nat → FD) : (den GG fe n_44 m_44 60).B (defDC (topS 65)) (defBody (topS 65)) = b_44 fe := by kernel_rfl
-- _law_drawn_form
def n_45 : List Str := ["own", "many", "rows", "turn", "first", "other", "twos", "threes", "i", "j", "c", "k", "ones", "last", "words", "row", "one"]
def m_45 : Md := fun x => if x = ("rows" : Str) then 1 else 0
def b_45 (fe : Nat → FD) : SM := (sSeq (sSet 2 (xOwn (lcL (iRange1 (aCons (eVar 1) aNil)) (tgName 11) tYesM (eFrz (lcL (iRange1 (aCons (eVar 1) aNil)) (tgName 8) tYesM (eCall gIntA (aCons (eOp gEq (oVar 8) (oVar 11)) aNil)) [8])) [11])))
  (sSeq (sFor (iRange1 (aCons (eOp gMul (eOp gMul (eC (.int 2)) (oVar 1)) (eCall gIntA (aCons (eOp gGt (oVar 1) (eC (.int 1))) aNil))) aNil)) (tgName 3)
  (sSeq (sSet 4 (xVal (eFn 2 (fe 40) (aCons (eVar 0) (aCons (eVar 1) aNil)))))
  (sSeq (sSet 5 (xVal (eOp gMod (eCall gIntA (aCons (eOp gAdd (eOp gAdd (oVar 4) (eC (.int 1))) (eFn 2 (fe 40) (aCons (eVar 0) (aCons (eOp gSub (oVar 1) (eC (.int 1))) aNil)))) aNil)) (oVar 1))))
  (sStore 2 (eFrz (lcL (iRange1 (aCons (eVar 1) aNil)) (tgName 8) tYesM (eOp gMod (eCall gIntA (aCons (eOp gAdd (eOp atD (eOp atD (oVar 2) (oVar 4)) (oVar 8)) (eOp atD (eOp atD (oVar 2) (oVar 5)) (oVar 8))) aNil)) (eC (.int 2))) [8])) (eVar 4)))))
  (sSeq (sPar2 6 7 (xsCons (xVal (eFrz (lLst aNil))) (xsCons (xVal (eFrz (lLst aNil))) xsNil)))
  (sSeq (sFor (iRange1 (aCons (eVar 1) aNil)) (tgName 8)
  (sFor (iRange2 (aCons (eOp gAdd (oVar 8) (eC (.int 1))) (aCons (eVar 1) aNil))) (tgName 9)
  (sSeq (sSet 10 (xVal (eFn 2 (fe 40) (aCons (eVar 0) (aCons (eC (.int 4)) aNil)))))
  (sSeq (sSet 6 (xVal (eOp gAdd (oVar 6) (eIf (tB (eOp gGt (oVar 10) (eC (.int 0)))) (eFrz (lLst (aCons (eTup (aCons (eVar 8) (aCons (eVar 9) (aCons (eVar 10) aNil)))) aNil))) (eFrz (lLst aNil))))))
  (sFor (iRange2 (aCons (eOp gAdd (oVar 9) (eC (.int 1))) (aCons (eVar 1) aNil))) (tgName 11)
  (sSet 7 (xVal (eOp gAdd (oVar 7) (eIf (tB (eOp gEq (eFn 2 (fe 40) (aCons (eVar 0) (aCons (eC (.int 2)) aNil))) (eC (.int 1)))) (eFrz (lLst (aCons (eTup (aCons (eVar 8) (aCons (eVar 9) (aCons (eVar 11) aNil)))) aNil))) (eFrz (lLst aNil)))))))))))
  (sSeq (sSet 12 (xVal (eCall gTuple (aCons (eFrz (lcL (iRange1 (aCons (eVar 1) aNil)) (tgName 11) tYesM (eFn 2 (fe 40) (aCons (eVar 0) (aCons (eC (.int 8)) aNil))) [11])) aNil))))
  (sSeq (sSet 13 (xVal (eMeth .str gJoin (eC (.str [])) (aCons (eFrz (lcL (iRange1 (aCons (eVar 1) aNil)) (tgName 11) tYesM (eOp atD (eC (.str [48, 49])) (eFn 2 (fe 40) (aCons (eVar 0) (aCons (eC (.int 2)) aNil)))) [11])) aNil))))
  (sSeq (sSet 14 (xVal (eCall gTuple (aCons (eFrz (lcL (iVal (oVar 2)) (tgName 15) tYesM (eMeth .str gJoin (eC (.str [])) (aCons (eFrz (lcL (iVal (oVar 15)) (tgName 16) tYesM (eCall gStrI (aCons (oVar 16) aNil)) [16])) aNil)) [15])) aNil))))
  (sRet (eTup (aCons (eVar 1) (aCons (eFn 2 (fe 40) (aCons (eVar 0) (aCons (eC (.int 8)) aNil))) (aCons (eVar 12) (aCons (eCall gTuple (aCons (oVar 6) aNil)) (aCons (eCall gTuple (aCons (oVar 7) aNil)) (aCons (eVar 14) (aCons (eVar 13) aNil))))))))))))))))
set_option maxHeartbeats 400000 in
theorem t_45 (fe : Nat → FD) : (den GG fe n_45 m_45 60).B (defDC (topS 66)) (defBody (topS 66)) = b_45 fe := by kernel_rfl
-- _law_number
def n_46 : List Str := ["own", "most", "size", "row", "turn", "k"]
def m_46 : Md := fun x => if x = ("row" : Str) then 1 else 0
def b_46 (fe : Nat → FD) : SM := (sSeq (sPar2 2 3 (xsCons (xVal (eOp atD (eFrz (lLst (aCons (eC (.int 3)) (aCons (eC (.int 20)) (aCons (eOp gPow (eC (.int 10)) (eC (.int 9))) (aCons (eOp gSub (eOp gPow (eC (.int 10)) (eC (.int 30))) (eC (.int 1))) aNil)))))) (eFn 2 (fe 40) (aCons (eVar 0) (aCons (eC (.int 4)) aNil))))) (xsCons (xOwn (lLst aNil)) xsNil)))
  (sSeq (sFor (iRange1 (aCons (eC (.int 4)) aNil)) (tgName 4)
  (sAppend 3 (eOp gMul (eOp gSub (eC (.int 1)) (eOp gMul (eC (.int 2)) (eFn 2 (fe 40) (aCons (eVar 0) (aCons (eC (.int 2)) aNil))))) (eFn 2 (fe 40) (aCons (eVar 0) (aCons (eVar 2) aNil))))))
  (sSeq (sSet 5 (xVal (eOp atD (eFrz (lLst (aCons (eC (.int 0)) (aCons (eC (.int 1)) (aCons (eC (.int 2)) (aCons (eVar 1) aNil)))))) (eFn 2 (fe 40) (aCons (eVar 0) (aCons (eC (.int 4)) aNil))))))
  (sSeq (sIf (tAnd (tB (eOp gGt (oVar 5) (eC (.int 0)))) (tAnd (tB (eOp gEq (eOp gMod (eCall gIntA (aCons (eOp gSub (eOp atD (oVar 3) (eC (.int 0))) (eOp atD (oVar 3) (eC (.int 2)))) aNil)) (eC (.int 2))) (eC (.int 0)))) (tB (eOp gEq (eOp gMod (eCall gIntA (aCons (eOp gSub (eOp atD (oVar 3) (eC (.int 1))) (eOp atD (oVar 3) (eC (.int 3)))) aNil)) (eC (.int 2))) (eC (.int 0))))))
  (sAugS 3 gIAdd (eC (.int 0)) (eC (.int 1)))
  sNil)
  (sRet (eTup (aCons (eOp atD (oVar 3) (eC (.int 0))) (aCons (eOp atD (oVar 3) (eC (.int 1))) (aCons (eOp atD (oVar 3) (eC (.int 2))) (aCons (eOp atD (oVar 3) (eC (.int 3))) (aCons (eVar 5) aNil)))))))))))
set_option maxHeartbeats 400000 in
theorem t_46 (fe : Nat → FD) : (den GG fe n_46 m_46 60).B (defDC (topS 67)) (defBody (topS 67)) = b_46 fe := by kernel_rfl
-- _law_listed
def n_47 : List Str := ["rows"]
def m_47 : Md := fun x => 0
def b_47 (fe : Nat → FD) : SM := (sRet (eIf (tB (eOp gNe (oVar 0) (eFrz (lLst aNil)))) (eMeth .str gJoin (eC (.str [44])) (aCons (oVar 0) aNil)) (eC (.str [110, 111, 110, 101]))))
set_option maxHeartbeats 400000 in
theorem t_47 (fe : Nat → FD) : (den GG fe n_47 m_47 60).B (defDC (topS 68)) (defBody (topS 68)) = b_47 fe := by kernel_rfl
-- _law_text
def n_48 : List Str := ["kind", "value", "gates", "many", "e", "ones", "twos", "threes", "rows", "last", "gate", "i", "j", "c", "k", "row", "word", "one", "own", "line"]
def m_48 : Md := fun x => 0
def b_48 (fe : Nat → FD) : SM := (sSeq (sIf (tB (eOp gEq (oVar 0) (eC (.str [110, 117, 109, 98, 101, 114]))))
  (sRet (eOp gAdd (eOp gAdd (eMeth .str gJoin (eC (.str [32])) (aCons (eFrz (lcL (iVal (eSlice (oVar 1) oNone (oSome (eC (.int 4))))) (tgName 18) tYesM (eCall gStrI (aCons (oVar 18) aNil)) [18])) aNil)) (eC (.str [32, 47]))) (eCall gStrI (aCons (eOp atD (oVar 1) (eC (.int 4))) aNil))))
  sNil)
  (sSeq (sIf (tB (eOp gEq (oVar 0) (eC (.str [109, 97, 116, 114, 105, 120]))))
  (sRet (eMeth .str gJoin (eC (.str [59, 32])) (aCons (eFrz (lcL (iVal (oVar 1)) (tgName 15) tYesM (eMeth .str gJoin (eC (.str [32])) (aCons (eFrz (lcL (iVal (oVar 15)) (tgName 18) tYesM (eOp gAdd (eOp gAdd (eC (.str [40])) (eFn 2 (fe 48) (aCons (eC (.str [110, 117, 109, 98, 101, 114])) (aCons (eVar 18) aNil)))) (eC (.str [41]))) [18])) aNil)) [15])) aNil)))
  sNil)
  (sSeq (sIf (tB (eOp gEq (oVar 0) (eC (.str [99, 105, 114, 99, 117, 105, 116]))))
  (sSeq (sSet 2 (xVal (eFrz (lcL (iVal (eOp atD (oVar 1) (eC (.int 1)))) (tgName 10) tYesM (eOp gAdd (eC (.str [32])) (eMeth .str gJoin (eC (.str [46])) (aCons (eOp gAdd (eFrz (lLst (aCons (eOp atD (oVar 10) (eC (.int 0))) aNil))) (eFrz (lcL (iVal (eSlice (oVar 10) (oSome (eC (.int 1))) oNone)) (tgName 19) tYesM (eCall gStrI (aCons (oVar 19) aNil)) [19]))) aNil))) [10]))))
  (sRet (eOp gAdd (eOp gAdd (eCall gStrI (aCons (eOp atD (oVar 1) (eC (.int 0))) aNil)) (eC (.str [58]))) (eMeth .str gJoin (eC (.str [])) (aCons (oVar 2) aNil)))))
  sNil)
  (sSeq (sIf (tB (eOp gEq (oVar 0) (eC (.str [112, 97, 117, 108, 105]))))
  (sRet (eOp gAdd (eOp atD (eFrz (lLst (aCons (eC (.str [43])) (aCons (eC (.str [43, 105])) (aCons (eC (.str [45])) (aCons (eC (.str [45, 105])) aNil)))))) (eOp atD (oVar 1) (eC (.int 0)))) (eOp atD (oVar 1) (eC (.int 1)))))
  sNil)
  (sSeq (sIf (tB (eOp gEq (oVar 0) (eC (.str [112, 97, 117, 108, 105, 115]))))
  (sRet (eMeth .str gJoin (eC (.str [32])) (aCons (eFrz (lcL (iVal (oVar 1)) (tgName 16) tYesM (eFn 2 (fe 48) (aCons (eC (.str [112, 97, 117, 108, 105])) (aCons (eVar 16) aNil))) [16])) aNil)))
  sNil)
  (sSeq (sIf (tB (eOp gEq (oVar 0) (eC (.str [103, 114, 97, 112, 104]))))
  (sRet (eOp gAdd (eOp gAdd (eCall gStrI (aCons (eOp atD (oVar 1) (eC (.int 0))) aNil)) (eC (.str [47]))) (eMeth .str gJoin (eC (.str [])) (aCons (eFrz (lcL (iVal (eOp atD (oVar 1) (eC (.int 1)))) (tgTup [(tgName 11), (tgName 12)]) tYesM (eOp gAdd (eOp gAdd (eOp gAdd (eC (.str [32])) (eCall gStrI (aCons (oVar 11) aNil))) (eC (.str [45]))) (eCall gStrI (aCons (oVar 12) aNil))) [11, 12])) aNil))))
  sNil)
  (sSeq (sAsg (tgTup [(tgName 3), (tgName 4), (tgName 5), (tgName 6), (tgName 7), (tgName 8), (tgName 9)]) (eVar 1))
  (sSeq (sSet 6 (xVal (eFn 1 (fe 47) (aCons (eFrz (lcL (iVal (oVar 6)) (tgTup [(tgName 11), (tgName 12), (tgName 13)]) tYesM (eOp gAdd (eOp gAdd (eOp gAdd (eOp gAdd (eCall gStrI (aCons (oVar 11) aNil)) (eC (.str [45]))) (eCall gStrI (aCons (oVar 12) aNil))) (eC (.str [42]))) (eCall gStrI (aCons (oVar 13) aNil))) [11, 12, 13])) aNil))))
  (sSeq (sSet 7 (xVal (eFn 1 (fe 47) (aCons (eFrz (lcL (iVal (oVar 7)) (tgTup [(tgName 11), (tgName 12), (tgName 14)]) tYesM (eOp gAdd (eOp gAdd (eOp gAdd (eOp gAdd (eCall gStrI (aCons (oVar 11) aNil)) (eC (.str [45]))) (eCall gStrI (aCons (oVar 12) aNil))) (eC (.str [45]))) (eCall gStrI (aCons (oVar 14) aNil))) [11, 12, 14])) aNil))))
  (sRet (eMeth .str gJoin (eC (.str [59, 32])) (aCons (eFrz (lLst (aCons (eCall gStrI (aCons (oVar 3) aNil)) (aCons (eCall gStrI (aCons (oVar 4) aNil)) (aCons (eFn 1 (fe 47) (aCons (eFrz (lcL (iVal (oVar 5)) (tgName 17) tYesM (eCall gStrI (aCons (oVar 17) aNil)) [17])) aNil)) (aCons (eVar 6) (aCons (eVar 7) (aCons (eMeth .str gJoin (eC (.str [44])) (aCons (oVar 8) aNil)) (aCons (eVar 9) aNil))))))))) aNil))))))))))))
set_option maxHeartbeats 400000 in
theorem t_48 (fe : Nat → FD) : (den GG fe n_48 m_48 60).B (defDC (topS 69)) (defBody (topS 69)) = b_48 fe := by kernel_rfl
-- _law_thing
def n_49 : List Str := ["own", "kind", "many", "size", "names", "i", "k", "j"]
def m_49 : Md := fun x => 0
def b_49 (fe : Nat → FD) : SM := (sSeq (sSet 2 (xVal (eOp gAdd (eC (.int 1)) (eFn 2 (fe 40) (aCons (eVar 0) (aCons (eC (.int 5)) aNil))))))
  (sSeq (sIf (tB (eOp gEq (oVar 1) (eC (.str [110, 117, 109, 98, 101, 114]))))
  (sRet (eFn 2 (fe 46) (aCons (eVar 0) (aCons (eFn 2 (fe 40) (aCons (eVar 0) (aCons (eC (.int 61)) aNil))) aNil))))
  sNil)
  (sSeq (sIf (tB (eOp gEq (oVar 1) (eC (.str [109, 97, 116, 114, 105, 120]))))
  (sSeq (sSet 3 (xVal (eOp gAdd (eC (.int 2)) (eOp gMul (eC (.int 2)) (eFn 2 (fe 40) (aCons (eVar 0) (aCons (eC (.int 2)) aNil)))))))
  (sRet (eCall gTuple (aCons (eFrz (lcL (iRange1 (aCons (eVar 3) aNil)) (tgName 5) tYesM (eCall gTuple (aCons (eFrz (lcL (iRange1 (aCons (eVar 3) aNil)) (tgName 7) tYesM (eFn 2 (fe 46) (aCons (eVar 0) (aCons (eFn 2 (fe 40) (aCons (eVar 0) (aCons (eC (.int 17)) aNil))) aNil))) [7])) aNil)) [5])) aNil))))
  sNil)
  (sSeq (sIf (tB (eOp gEq (oVar 1) (eC (.str [99, 105, 114, 99, 117, 105, 116]))))
  (sSeq (sSet 4 (xVal (eFrz (lLst (aCons (eC (.str [104])) (aCons (eC (.str [115])) (aCons (eC (.str [115, 100])) (aCons (eC (.str [116])) (aCons (eC (.str [116, 100])) (aCons (eC (.str [120])) (aCons (eC (.str [121])) (aCons (eC (.str [122])) (aCons (eC (.str [99, 120])) (aCons (eC (.str [99, 122])) (aCons (eC (.str [115, 119, 97, 112])) (aCons (eC (.str [119])) aNil))))))))))))))))
  (sRet (eTup (aCons (eVar 2) (aCons (eFn 4 (fe 42) (aCons (eVar 0) (aCons (eVar 2) (aCons (eC (.int 9)) (aCons (eVar 4) aNil))))) aNil)))))
  sNil)
  (sSeq (sIf (tB (eOp gEq (oVar 1) (eC (.str [112, 97, 117, 108, 105]))))
  (sRet (eFn 2 (fe 43) (aCons (eVar 0) (aCons (eVar 2) aNil))))
  sNil)
  (sSeq (sIf (tB (eOp gEq (oVar 1) (eC (.str [112, 97, 117, 108, 105, 115]))))
  (sRet (eCall gTuple (aCons (eFrz (lcL (iRange1 (aCons (eOp gAdd (eC (.int 1)) (eFn 2 (fe 40) (aCons (eVar 0) (aCons (eC (.int 4)) aNil)))) aNil)) (tgName 6) tYesM (eFn 2 (fe 43) (aCons (eVar 0) (aCons (eVar 2) aNil))) [6])) aNil)))
  sNil)
  (sSeq (sIf (tB (eOp gEq (oVar 1) (eC (.str [103, 114, 97, 112, 104]))))
  (sRet (eFn 2 (fe 44) (aCons (eVar 0) (aCons (eOp gAdd (eC (.int 1)) (eFn 2 (fe 40) (aCons (eVar 0) (aCons (eC (.int 7)) aNil)))) aNil))))
  sNil)
  (sRet (eFn 2 (fe 45) (aCons (eVar 0) (aCons (eVar 2) aNil)))))))))))
set_option maxHeartbeats 400000 in
theorem t_49 (fe : Nat → FD) : (den GG fe n_49 m_49 60).B (defDC (topS 70)) (defBody (topS 70)) = b_49 fe := by kernel_rfl
-- law
def n_50 : List Str := ["script", "own", "kinds", "turn", "first", "second", "one", "matrix", "circuit", "pauli", "rows", "graph", "form", "got", "due", "more", "k", "kind"]
def m_50 : Md := fun x => if x = ("own" : Str) then 2 else 0
def b_50 (fe : Nat → FD) : SM := (sSeq (sSet 1 (xHeap (lLst (aCons (eC (.int 0)) (aCons (eC (.int 90)) (aCons (eC (.int 0)) (aCons (eC (.int 0)) (aCons (eFrz (lListOf (aCons (oVar 0) aNil))) aNil))))))))
  (sSeq (sSet 2 (xVal (eFrz (lLst (aCons (eC (.str [110, 117, 109, 98, 101, 114])) (aCons (eC (.str [109, 97, 116, 114, 105, 120])) (aCons (eC (.str [99, 105, 114, 99, 117, 105, 116])) (aCons (eC (.str [112, 97, 117, 108, 105])) (aCons (eC (.str [112, 97, 117, 108, 105, 115])) (aCons (eC (.str [103, 114, 97, 112, 104])) (aCons (eC (.str [102, 111, 114, 109])) aNil)))))))))))
  (sSeq (sFor (iRange1 (aCons (eC (.int 2)) aNil)) (tgName 3)
  (sSeq (sAsg (tgTup [(tgName 4), (tgName 5)]) (eTup (aCons (eFrz (lcL (iVal (oVar 2)) (tgName 17) tYesM (eFn 2 (fe 49) (aCons (eVar 1) (aCons (eVar 17) aNil))) [17])) (aCons (eFrz (lcL (iVal (oVar 2)) (tgName 17) tYesM (eFn 2 (fe 49) (aCons (eVar 1) (aCons (eVar 17) aNil))) [17])) aNil))))
  (sSeq (sAsg (tgTup [(tgName 6), (tgName 7), (tgName 8), (tgName 9), (tgName 10), (tgName 11), (tgName 12)]) (eVar 4))
  (sSeq (sSet 13 (xVal (eFrz (lLst (aCons (eFn 1 (fe 33) (aCons (eVar 6) aNil)) (aCons (eFn 1 (fe 34) (aCons (eVar 7) aNil)) (aCons (eFn 1 (fe 35) (aCons (eVar 8) aNil)) (aCons (eFn 1 (fe 36) (aCons (eVar 9) aNil)) (aCons (eFn 1 (fe 37) (aCons (eVar 10) aNil)) aNil)))))))))
  (sSeq (sSet 13 (xVal (eOp gAdd (oVar 13) (eFrz (lLst (aCons (eFn 1 (fe 38) (aCons (eVar 11) aNil)) (aCons (eFn 1 (fe 39) (aCons (eVar 12) aNil)) aNil)))))))
  (sSeq (sSet 14 (xVal (eFrz (lcL (iRange1 (aCons (eC (.int 7)) aNil)) (tgName 16) tYesM (eFn 2 (fe 48) (aCons (eOp atD (oVar 2) (oVar 16)) (aCons (eOp atD (oVar 4) (oVar 16)) aNil))) [16]))))
  (sSeq (sIf (tNot (tB (eFn 2 (fe 41) (aCons (eVar 13) (aCons (eVar 14) aNil)))))
  (sRet (eC (.bl false)))
  sNil)
  (sSeq (sAsg (tgTup [(tgName 6), (tgName 7), (tgName 8), (tgName 9), (tgName 10), (tgName 11), (tgName 12)]) (eVar 5))
  (sSeq (sSet 15 (xVal (eFrz (lLst (aCons (eFnK 1 0 1 [0] (fe 33) aNil (aCons (eVar 6) aNil)) (aCons (eFnK 1 0 1 [0] (fe 34) aNil (aCons (eVar 7) aNil)) (aCons (eFnK 1 0 1 [0] (fe 35) aNil (aCons (eVar 8) aNil)) (aCons (eFnK 1 0 1 [0] (fe 36) aNil (aCons (eVar 9) aNil)) aNil))))))))
  (sSeq (sSet 15 (xVal (eOp gAdd (oVar 15) (eFrz (lLst (aCons (eFnK 1 0 1 [0] (fe 37) aNil (aCons (eVar 10) aNil)) (aCons (eFnK 1 0 1 [0] (fe 38) aNil (aCons (eVar 11) aNil)) (aCons (eFnK 1 0 1 [0] (fe 39) aNil (aCons (eVar 12) aNil)) aNil))))))))
  (sSeq (sIf (tNot (tB (eFn 2 (fe 41) (aCons (eVar 15) (aCons (eFrz (lcL (iRange1 (aCons (eC (.int 7)) aNil)) (tgName 16) tYesM (eFn 2 (fe 48) (aCons (eOp atD (oVar 2) (oVar 16)) (aCons (eOp atD (oVar 5) (oVar 16)) aNil))) [16])) aNil)))))
  (sRet (eC (.bl false)))
  sNil)
  (sIf (tB (eOp gNe (eFrz (lcL (iRange1 (aCons (eC (.int 7)) aNil)) (tgName 16) (tB (eOp gNe (eOp gEq (eOp atD (oVar 4) (oVar 16)) (eOp atD (oVar 5) (oVar 16))) (eOp gEq (eOp atD (oVar 13) (oVar 16)) (eOp atD (oVar 15) (oVar 16))))) (eVar 16) [16])) (eFrz (lLst aNil))))
  (sRet (eC (.bl false)))
  sNil))))))))))))
  (sRet (eC (.bl true))))))
set_option maxHeartbeats 400000 in
theorem t_50 (fe : Nat → FD) : (den GG fe n_50 m_50 60).B (defDC (topS 71)) (defBody (topS 71)) = b_50 fe := by kernel_rfl
def gTop : List (Str × Nat) := [(("is_integer" : Str), 10), (("is_natural" : Str), 11), (("is_made_of" : Str), 12), (("is_ascending" : Str), 13), (("is_gate" : Str), 16), (("is_circuit" : Str), 17), (("check_circuit" : Str), 18), (("is_independent" : Str), 20), (("is_number" : Str), 22), (("check_number" : Str), 23), (("is_matrix" : Str), 25), (("check_matrix" : Str), 26), (("is_below" : Str), 28), (("are_twos" : Str), 29), (("are_threes" : Str), 30), (("are_rows" : Str), 31), (("is_form" : Str), 32), (("check_form" : Str), 33), (("is_pauli" : Str), 35), (("check_pauli" : Str), 36), (("is_edge" : Str), 38), (("is_graph" : Str), 39), (("check_graph" : Str), 40), (("number_text" : Str), 43), (("matrix_text" : Str), 44), (("gate_text" : Str), 45), (("circuit_text" : Str), 46), (("pauli_text" : Str), 47), (("paulis_text" : Str), 48), (("graph_text" : Str), 49), (("listed" : Str), 50), (("form_text" : Str), 51), (("are_paulis" : Str), 52), (("show_number" : Str), 53), (("show_matrix" : Str), 54), (("show_circuit" : Str), 55), (("show_pauli" : Str), 56), (("show_paulis" : Str), 57), (("show_graph" : Str), 58), (("show_form" : Str), 59), (("_law_draw" : Str), 61), (("_law_like" : Str), 62), (("_law_gates" : Str), 63), (("_law_pauli" : Str), 64), (("_law_graph" : Str), 65), (("_law_drawn_form" : Str), 66), (("_law_number" : Str), 67), (("_law_listed" : Str), 68), (("_law_text" : Str), 69), (("_law_thing" : Str), 70), (("law" : Str), 71)]
def sts (x : Str) : Stmt := topS ((gTop.lookup x).getD 0)
def BB : Bodies := [(1, b_0), (1, b_1), (4, b_2), (3, b_3), (4, b_4), (2, b_5), (1, b_6), (4, b_7), (7, b_8), (1, b_9), (3, b_10), (1, b_11), (3, b_12), (6, b_13), (6, b_14), (3, b_15), (9, b_16), (1, b_17), (3, b_18), (2, b_19), (3, b_20), (3, b_21), (1, b_22), (6, b_23), (3, b_24), (2, b_25), (2, b_26), (1, b_27), (2, b_28), (3, b_29), (1, b_30), (14, b_31), (2, b_32), (1, b_33), (1, b_34), (1, b_35), (1, b_36), (1, b_37), (1, b_38), (1, b_39), (5, b_40), (3, b_41), (8, b_42), (3, b_43), (6, b_44), (17, b_45), (6, b_46), (1, b_47), (20, b_48), (8, b_49), (18, b_50)]
theorem s_0 : sts "is_integer" = topS 10 := by kernel_rfl
theorem x_0 : DefTx GG BB "is_integer" 0 1 (topS 10) := ⟨n_0, ["value"], m_0, b_0, rfl, rfl, t_0, ⟨rfl, rfl, rfl, by decide +kernel, rfl, by decide +kernel, by decide +kernel⟩, fun kV doc pm an cdv ct us hl => match us, hl with | [_], _ => rfl, kf_of (l := []) (by kernel_rfl) all_nil⟩
theorem s_1 : sts "is_natural" = topS 11 := by kernel_rfl
theorem x_1 : DefTx GG BB "is_natural" 1 1 (topS 11) := ⟨n_1, ["value"], m_1, b_1, rfl, rfl, t_1, ⟨rfl, rfl, rfl, by decide +kernel, rfl, by decide +kernel, by decide +kernel⟩, fun kV doc pm an cdv ct us hl => match us, hl with | [_], _ => rfl, kf_of (l := []) (by kernel_rfl) all_nil⟩
theorem s_2 : sts "is_made_of" = topS 12 := by kernel_rfl
theorem x_2 : DefTx GG BB "is_made_of" 2 3 (topS 12) := ⟨n_2, ["value", "signs", "many"], m_2, b_2, rfl, rfl, t_2, ⟨rfl, rfl, rfl, by decide +kernel, rfl, by decide +kernel, by decide +kernel⟩, fun kV doc pm an cdv ct us hl => match us, hl with | [_, _, _], _ => rfl, kf_of (l := []) (by kernel_rfl) all_nil⟩
theorem s_3 : sts "is_ascending" = topS 13 := by kernel_rfl
theorem x_3 : DefTx GG BB "is_ascending" 3 1 (topS 13) := ⟨n_3, ["row"], m_3, b_3, rfl, rfl, t_3, ⟨rfl, rfl, rfl, by decide +kernel, rfl, by decide +kernel, by decide +kernel⟩, fun kV doc pm an cdv ct us hl => match us, hl with | [_], _ => rfl, kf_of (l := []) (by kernel_rfl) all_nil⟩
theorem s_4 : sts "is_gate" = topS 16 := by kernel_rfl
theorem x_4 : DefTx GG BB "is_gate" 4 2 (topS 16) := ⟨n_4, ["many", "value"], m_4, b_4, rfl, rfl, t_4, ⟨rfl, rfl, rfl, by decide +kernel, rfl, by decide +kernel, by decide +kernel⟩, fun kV doc pm an cdv ct us hl => match us, hl with | [_, _], _ => rfl, kf_of (l := []) (by kernel_rfl) all_nil⟩
theorem s_5 : sts "is_circuit" = topS 17 := by kernel_rfl
theorem x_5 : DefTx GG BB "is_circuit" 5 1 (topS 17) := ⟨n_5, ["value"], m_5, b_5, rfl, rfl, t_5, ⟨rfl, rfl, rfl, by decide +kernel, rfl, by decide +kernel, by decide +kernel⟩, fun kV doc pm an cdv ct us hl => match us, hl with | [_], _ => rfl, kf_of (l := []) (by kernel_rfl) all_nil⟩
theorem s_6 : sts "check_circuit" = topS 18 := by kernel_rfl
theorem x_6 : DefTx GG BB "check_circuit" 6 1 (topS 18) := ⟨n_6, ["circuit"], m_6, b_6, rfl, rfl, t_6, ⟨rfl, rfl, rfl, by decide +kernel, rfl, by decide +kernel, by decide +kernel⟩, fun kV doc pm an cdv ct us hl => match us, hl with | [_], _ => rfl, kf_of (l := []) (by kernel_rfl) all_nil⟩
theorem s_7 : sts "is_independent" = topS 20 := by kernel_rfl
theorem x_7 : DefTx GG BB "is_independent" 7 1 (topS 20) := ⟨n_7, ["rows"], m_7, b_7, rfl, rfl, t_7, ⟨rfl, rfl, rfl, by decide +kernel, rfl, by decide +kernel, by decide +kernel⟩, fun kV doc pm an cdv ct us hl => match us, hl with | [_], _ => rfl, kf_of (l := []) (by kernel_rfl) all_nil⟩
theorem s_8 : sts "is_number" = topS 22 := by kernel_rfl
theorem x_8 : DefTx GG BB "is_number" 8 1 (topS 22) := ⟨n_8, ["value"], m_8, b_8, rfl, rfl, t_8, ⟨rfl, rfl, rfl, by decide +kernel, rfl, by decide +kernel, by decide +kernel⟩, fun kV doc pm an cdv ct us hl => match us, hl with | [_], _ => rfl, kf_of (l := []) (by kernel_rfl) all_nil⟩
theorem s_9 : sts "check_number" = topS 23 := by kernel_rfl
theorem x_9 : DefTx GG BB "check_number" 9 1 (topS 23) := ⟨n_9, ["value"], m_9, b_9, rfl, rfl, t_9, ⟨rfl, rfl, rfl, by decide +kernel, rfl, by decide +kernel, by decide +kernel⟩, fun kV doc pm an cdv ct us hl => match us, hl with | [_], _ => rfl, kf_of (l := []) (by kernel_rfl) all_nil⟩
theorem s_10 : sts "is_matrix" = topS 25 := by kernel_rfl
theorem x_10 : DefTx GG BB "is_matrix" 10 1 (topS 25) := ⟨n_10, ["value"], m_10, b_10, rfl, rfl, t_10, ⟨rfl, rfl, rfl, by decide +kernel, rfl, by decide +kernel, by decide +kernel⟩, fun kV doc pm an cdv ct us hl => match us, hl with | [_], _ => rfl, kf_of (l := []) (by kernel_rfl) all_nil⟩
theorem s_11 : sts "check_matrix" = topS 26 := by kernel_rfl
theorem x_11 : DefTx GG BB "check_matrix" 11 1 (topS 26) := ⟨n_11, ["matrix"], m_11, b_11, rfl, rfl, t_11, ⟨rfl, rfl, rfl, by decide +kernel, rfl, by decide +kernel, by decide +kernel⟩, fun kV doc pm an cdv ct us hl => match us, hl with | [_], _ => rfl, kf_of (l := []) (by kernel_rfl) all_nil⟩
theorem s_12 : sts "is_below" = topS 28 := by kernel_rfl
theorem x_12 : DefTx GG BB "is_below" 12 3 (topS 28) := ⟨n_12, ["value", "least", "most"], m_12, b_12, rfl, rfl, t_12, ⟨rfl, rfl, rfl, by decide +kernel, rfl, by decide +kernel, by decide +kernel⟩, fun kV doc pm an cdv ct us hl => match us, hl with | [_, _, _], _ => rfl, kf_of (l := []) (by kernel_rfl) all_nil⟩
theorem s_13 : sts "are_twos" = topS 29 := by kernel_rfl
theorem x_13 : DefTx GG BB "are_twos" 13 2 (topS 29) := ⟨n_13, ["many", "value"], m_13, b_13, rfl, rfl, t_13, ⟨rfl, rfl, rfl, by decide +kernel, rfl, by decide +kernel, by decide +kernel⟩, fun kV doc pm an cdv ct us hl => match us, hl with | [_, _], _ => rfl, kf_of (l := []) (by kernel_rfl) all_nil⟩
theorem s_14 : sts "are_threes" = topS 30 := by kernel_rfl
theorem x_14 : DefTx GG BB "are_threes" 14 2 (topS 30) := ⟨n_14, ["many", "value"], m_14, b_14, rfl, rfl, t_14, ⟨rfl, rfl, rfl, by decide +kernel, rfl, by decide +kernel, by decide +kernel⟩, fun kV doc pm an cdv ct us hl => match us, hl with | [_, _], _ => rfl, kf_of (l := []) (by kernel_rfl) all_nil⟩
theorem s_15 : sts "are_rows" = topS 31 := by kernel_rfl
theorem x_15 : DefTx GG BB "are_rows" 15 2 (topS 31) := ⟨n_15, ["many", "value"], m_15, b_15, rfl, rfl, t_15, ⟨rfl, rfl, rfl, by decide +kernel, rfl, by decide +kernel, by decide +kernel⟩, fun kV doc pm an cdv ct us hl => match us, hl with | [_, _], _ => rfl, kf_of (l := []) (by kernel_rfl) all_nil⟩
theorem s_16 : sts "is_form" = topS 32 := by kernel_rfl
theorem x_16 : DefTx GG BB "is_form" 16 1 (topS 32) := ⟨n_16, ["value"], m_16, b_16, rfl, rfl, t_16, ⟨rfl, rfl, rfl, by decide +kernel, rfl, by decide +kernel, by decide +kernel⟩, fun kV doc pm an cdv ct us hl => match us, hl with | [_], _ => rfl, kf_of (l := []) (by kernel_rfl) all_nil⟩
theorem s_17 : sts "check_form" = topS 33 := by kernel_rfl
theorem x_17 : DefTx GG BB "check_form" 17 1 (topS 33) := ⟨n_17, ["form"], m_17, b_17, rfl, rfl, t_17, ⟨rfl, rfl, rfl, by decide +kernel, rfl, by decide +kernel, by decide +kernel⟩, fun kV doc pm an cdv ct us hl => match us, hl with | [_], _ => rfl, kf_of (l := []) (by kernel_rfl) all_nil⟩
theorem s_18 : sts "is_pauli" = topS 35 := by kernel_rfl
theorem x_18 : DefTx GG BB "is_pauli" 18 1 (topS 35) := ⟨n_18, ["value"], m_18, b_18, rfl, rfl, t_18, ⟨rfl, rfl, rfl, by decide +kernel, rfl, by decide +kernel, by decide +kernel⟩, fun kV doc pm an cdv ct us hl => match us, hl with | [_], _ => rfl, kf_of (l := []) (by kernel_rfl) all_nil⟩
theorem s_19 : sts "check_pauli" = topS 36 := by kernel_rfl
theorem x_19 : DefTx GG BB "check_pauli" 19 2 (topS 36) := ⟨n_19, ["pauli", "many"], m_19, b_19, rfl, rfl, t_19, ⟨rfl, rfl, rfl, by decide +kernel, rfl, by decide +kernel, by decide +kernel⟩, fun kV doc pm an cdv ct us hl => match us, hl with | [_, _], _ => rfl, kf_of (l := []) (by kernel_rfl) all_nil⟩
theorem s_20 : sts "is_edge" = topS 38 := by kernel_rfl
theorem x_20 : DefTx GG BB "is_edge" 20 2 (topS 38) := ⟨n_20, ["many", "value"], m_20, b_20, rfl, rfl, t_20, ⟨rfl, rfl, rfl, by decide +kernel, rfl, by decide +kernel, by decide +kernel⟩, fun kV doc pm an cdv ct us hl => match us, hl with | [_, _], _ => rfl, kf_of (l := []) (by kernel_rfl) all_nil⟩
theorem s_21 : sts "is_graph" = topS 39 := by kernel_rfl
theorem x_21 : DefTx GG BB "is_graph" 21 1 (topS 39) := ⟨n_21, ["value"], m_21, b_21, rfl, rfl, t_21, ⟨rfl, rfl, rfl, by decide +kernel, rfl, by decide +kernel, by decide +kernel⟩, fun kV doc pm an cdv ct us hl => match us, hl with | [_], _ => rfl, kf_of (l := []) (by kernel_rfl) all_nil⟩
theorem s_22 : sts "check_graph" = topS 40 := by kernel_rfl
theorem x_22 : DefTx GG BB "check_graph" 22 1 (topS 40) := ⟨n_22, ["graph"], m_22, b_22, rfl, rfl, t_22, ⟨rfl, rfl, rfl, by decide +kernel, rfl, by decide +kernel, by decide +kernel⟩, fun kV doc pm an cdv ct us hl => match us, hl with | [_], _ => rfl, kf_of (l := []) (by kernel_rfl) all_nil⟩
theorem s_23 : sts "number_text" = topS 43 := by kernel_rfl
theorem x_23 : DefTx GG BB "number_text" 23 1 (topS 43) := ⟨n_23, ["one"], m_23, b_23, rfl, rfl, t_23, ⟨rfl, rfl, rfl, by decide +kernel, rfl, by decide +kernel, by decide +kernel⟩, fun kV doc pm an cdv ct us hl => match us, hl with | [_], _ => rfl, kf_of (l := []) (by kernel_rfl) all_nil⟩
theorem s_24 : sts "matrix_text" = topS 44 := by kernel_rfl
theorem x_24 : DefTx GG BB "matrix_text" 24 1 (topS 44) := ⟨n_24, ["matrix"], m_24, b_24, rfl, rfl, t_24, ⟨rfl, rfl, rfl, by decide +kernel, rfl, by decide +kernel, by decide +kernel⟩, fun kV doc pm an cdv ct us hl => match us, hl with | [_], _ => rfl, kf_of (l := []) (by kernel_rfl) all_nil⟩
theorem s_25 : sts "gate_text" = topS 45 := by kernel_rfl
theorem x_25 : DefTx GG BB "gate_text" 25 1 (topS 45) := ⟨n_25, ["gate"], m_25, b_25, rfl, rfl, t_25, ⟨rfl, rfl, rfl, by decide +kernel, rfl, by decide +kernel, by decide +kernel⟩, fun kV doc pm an cdv ct us hl => match us, hl with | [_], _ => rfl, kf_of (l := []) (by kernel_rfl) all_nil⟩
theorem s_26 : sts "circuit_text" = topS 46 := by kernel_rfl
theorem x_26 : DefTx GG BB "circuit_text" 26 1 (topS 46) := ⟨n_26, ["circuit"], m_26, b_26, rfl, rfl, t_26, ⟨rfl, rfl, rfl, by decide +kernel, rfl, by decide +kernel, by decide +kernel⟩, fun kV doc pm an cdv ct us hl => match us, hl with | [_], _ => rfl, kf_of (l := []) (by kernel_rfl) all_nil⟩
theorem s_27 : sts "pauli_text" = topS 47 := by kernel_rfl
theorem x_27 : DefTx GG BB "pauli_text" 27 1 (topS 47) := ⟨n_27, ["pauli"], m_27, b_27, rfl, rfl, t_27, ⟨rfl, rfl, rfl, by decide +kernel, rfl, by decide +kernel, by decide +kernel⟩, fun kV doc pm an cdv ct us hl => match us, hl with | [_], _ => rfl, kf_of (l := []) (by kernel_rfl) all_nil⟩
theorem s_28 : sts "paulis_text" = topS 48 := by kernel_rfl
theorem x_28 : DefTx GG BB "paulis_text" 28 1 (topS 48) := ⟨n_28, ["rows"], m_28, b_28, rfl, rfl, t_28, ⟨rfl, rfl, rfl, by decide +kernel, rfl, by decide +kernel, by decide +kernel⟩, fun kV doc pm an cdv ct us hl => match us, hl with | [_], _ => rfl, kf_of (l := []) (by kernel_rfl) all_nil⟩
theorem s_29 : sts "graph_text" = topS 49 := by kernel_rfl
theorem x_29 : DefTx GG BB "graph_text" 29 1 (topS 49) := ⟨n_29, ["graph"], m_29, b_29, rfl, rfl, t_29, ⟨rfl, rfl, rfl, by decide +kernel, rfl, by decide +kernel, by decide +kernel⟩, fun kV doc pm an cdv ct us hl => match us, hl with | [_], _ => rfl, kf_of (l := []) (by kernel_rfl) all_nil⟩
theorem s_30 : sts "listed" = topS 50 := by kernel_rfl
theorem x_30 : DefTx GG BB "listed" 30 1 (topS 50) := ⟨n_30, ["rows"], m_30, b_30, rfl, rfl, t_30, ⟨rfl, rfl, rfl, by decide +kernel, rfl, by decide +kernel, by decide +kernel⟩, fun kV doc pm an cdv ct us hl => match us, hl with | [_], _ => rfl, kf_of (l := []) (by kernel_rfl) all_nil⟩
theorem s_31 : sts "form_text" = topS 51 := by kernel_rfl
theorem x_31 : DefTx GG BB "form_text" 31 1 (topS 51) := ⟨n_31, ["form"], m_31, b_31, rfl, rfl, t_31, ⟨rfl, rfl, rfl, by decide +kernel, rfl, by decide +kernel, by decide +kernel⟩, fun kV doc pm an cdv ct us hl => match us, hl with | [_], _ => rfl, kf_of (l := []) (by kernel_rfl) all_nil⟩
theorem s_32 : sts "are_paulis" = topS 52 := by kernel_rfl
theorem x_32 : DefTx GG BB "are_paulis" 32 1 (topS 52) := ⟨n_32, ["value"], m_32, b_32, rfl, rfl, t_32, ⟨rfl, rfl, rfl, by decide +kernel, rfl, by decide +kernel, by decide +kernel⟩, fun kV doc pm an cdv ct us hl => match us, hl with | [_], _ => rfl, kf_of (l := []) (by kernel_rfl) all_nil⟩
theorem s_33 : sts "show_number" = topS 53 := by kernel_rfl
theorem x_33 : DefTx GG BB "show_number" 33 1 (topS 53) := ⟨n_33, ["one"], m_33, b_33, rfl, rfl, t_33, ⟨rfl, rfl, rfl, by decide +kernel, rfl, by decide +kernel, by decide +kernel⟩, fun kV doc pm an cdv ct us hl => match us, hl with | [_], _ => rfl, kf_of (l := [(("show_number" : Str), 0, ["one"], [0])]) (by kernel_rfl) (all_cons (fun kV doc pm an cdv ct us ws hu hw => match us, ws, hu, hw with | [], [_], _, _ => rfl) all_nil)⟩
theorem s_34 : sts "show_matrix" = topS 54 := by kernel_rfl
theorem x_34 : DefTx GG BB "show_matrix" 34 1 (topS 54) := ⟨n_34, ["matrix"], m_34, b_34, rfl, rfl, t_34, ⟨rfl, rfl, rfl, by decide +kernel, rfl, by decide +kernel, by decide +kernel⟩, fun kV doc pm an cdv ct us hl => match us, hl with | [_], _ => rfl, kf_of (l := [(("show_matrix" : Str), 0, ["matrix"], [0])]) (by kernel_rfl) (all_cons (fun kV doc pm an cdv ct us ws hu hw => match us, ws, hu, hw with | [], [_], _, _ => rfl) all_nil)⟩
theorem s_35 : sts "show_circuit" = topS 55 := by kernel_rfl
theorem x_35 : DefTx GG BB "show_circuit" 35 1 (topS 55) := ⟨n_35, ["circuit"], m_35, b_35, rfl, rfl, t_35, ⟨rfl, rfl, rfl, by decide +kernel, rfl, by decide +kernel, by decide +kernel⟩, fun kV doc pm an cdv ct us hl => match us, hl with | [_], _ => rfl, kf_of (l := [(("show_circuit" : Str), 0, ["circuit"], [0])]) (by kernel_rfl) (all_cons (fun kV doc pm an cdv ct us ws hu hw => match us, ws, hu, hw with | [], [_], _, _ => rfl) all_nil)⟩
theorem s_36 : sts "show_pauli" = topS 56 := by kernel_rfl
theorem x_36 : DefTx GG BB "show_pauli" 36 1 (topS 56) := ⟨n_36, ["pauli"], m_36, b_36, rfl, rfl, t_36, ⟨rfl, rfl, rfl, by decide +kernel, rfl, by decide +kernel, by decide +kernel⟩, fun kV doc pm an cdv ct us hl => match us, hl with | [_], _ => rfl, kf_of (l := [(("show_pauli" : Str), 0, ["pauli"], [0])]) (by kernel_rfl) (all_cons (fun kV doc pm an cdv ct us ws hu hw => match us, ws, hu, hw with | [], [_], _, _ => rfl) all_nil)⟩
theorem s_37 : sts "show_paulis" = topS 57 := by kernel_rfl
theorem x_37 : DefTx GG BB "show_paulis" 37 1 (topS 57) := ⟨n_37, ["rows"], m_37, b_37, rfl, rfl, t_37, ⟨rfl, rfl, rfl, by decide +kernel, rfl, by decide +kernel, by decide +kernel⟩, fun kV doc pm an cdv ct us hl => match us, hl with | [_], _ => rfl, kf_of (l := [(("show_paulis" : Str), 0, ["rows"], [0])]) (by kernel_rfl) (all_cons (fun kV doc pm an cdv ct us ws hu hw => match us, ws, hu, hw with | [], [_], _, _ => rfl) all_nil)⟩
theorem s_38 : sts "show_graph" = topS 58 := by kernel_rfl
theorem x_38 : DefTx GG BB "show_graph" 38 1 (topS 58) := ⟨n_38, ["graph"], m_38, b_38, rfl, rfl, t_38, ⟨rfl, rfl, rfl, by decide +kernel, rfl, by decide +kernel, by decide +kernel⟩, fun kV doc pm an cdv ct us hl => match us, hl with | [_], _ => rfl, kf_of (l := [(("show_graph" : Str), 0, ["graph"], [0])]) (by kernel_rfl) (all_cons (fun kV doc pm an cdv ct us ws hu hw => match us, ws, hu, hw with | [], [_], _, _ => rfl) all_nil)⟩
theorem s_39 : sts "show_form" = topS 59 := by kernel_rfl
theorem x_39 : DefTx GG BB "show_form" 39 1 (topS 59) := ⟨n_39, ["form"], m_39, b_39, rfl, rfl, t_39, ⟨rfl, rfl, rfl, by decide +kernel, rfl, by decide +kernel, by decide +kernel⟩, fun kV doc pm an cdv ct us hl => match us, hl with | [_], _ => rfl, kf_of (l := [(("show_form" : Str), 0, ["form"], [0])]) (by kernel_rfl) (all_cons (fun kV doc pm an cdv ct us ws hu hw => match us, ws, hu, hw with | [], [_], _, _ => rfl) all_nil)⟩
theorem s_40 : sts "_law_draw" = topS 61 := by kernel_rfl
theorem x_40 : DefTx GG BB "_law_draw" 40 2 (topS 61) := ⟨n_40, ["own", "many"], m_40, b_40, rfl, rfl, t_40, ⟨rfl, rfl, rfl, by decide +kernel, rfl, by decide +kernel, by decide +kernel⟩, fun kV doc pm an cdv ct us hl => match us, hl with | [_, _], _ => rfl, kf_of (l := []) (by kernel_rfl) all_nil⟩
theorem s_41 : sts "_law_like" = topS 62 := by kernel_rfl
theorem x_41 : DefTx GG BB "_law_like" 41 2 (topS 62) := ⟨n_41, ["got", "due"], m_41, b_41, rfl, rfl, t_41, ⟨rfl, rfl, rfl, by decide +kernel, rfl, by decide +kernel, by decide +kernel⟩, fun kV doc pm an cdv ct us hl => match us, hl with | [_, _], _ => rfl, kf_of (l := []) (by kernel_rfl) all_nil⟩
theorem s_42 : sts "_law_gates" = topS 63 := by kernel_rfl
theorem x_42 : DefTx GG BB "_law_gates" 42 4 (topS 63) := ⟨n_42, ["own", "many", "most", "names"], m_42, b_42, rfl, rfl, t_42, ⟨rfl, rfl, rfl, by decide +kernel, rfl, by decide +kernel, by decide +kernel⟩, fun kV doc pm an cdv ct us hl => match us, hl with | [_, _, _, _], _ => rfl, kf_of (l := []) (by kernel_rfl) all_nil⟩
theorem s_43 : sts "_law_pauli" = topS 64 := by kernel_rfl
theorem x_43 : DefTx GG BB "_law_pauli" 43 2 (topS 64) := ⟨n_43, ["own", "many"], m_43, b_43, rfl, rfl, t_43, ⟨rfl, rfl, rfl, by decide +kernel, rfl, by decide +kernel, by decide +kernel⟩, fun kV doc pm an cdv ct us hl => match us, hl with | [_, _], _ => rfl, kf_of (l := []) (by kernel_rfl) all_nil⟩
theorem s_44 : sts "_law_graph" = topS 65 := by kernel_rfl
theorem x_44 : DefTx GG BB "_law_graph" 44 2 (topS 65) := ⟨n_44, ["own", "many"], m_44, b_44, rfl, rfl, t_44, ⟨rfl, rfl, rfl, by decide +kernel, rfl, by decide +kernel, by decide +kernel⟩, fun kV doc pm an cdv ct us hl => match us, hl with | [_, _], _ => rfl, kf_of (l := []) (by kernel_rfl) all_nil⟩
theorem s_45 : sts "_law_drawn_form" = topS 66 := by kernel_rfl
theorem x_45 : DefTx GG BB "_law_drawn_form" 45 2 (topS 66) := ⟨n_45, ["own", "many"], m_45, b_45, rfl, rfl, t_45, ⟨rfl, rfl, rfl, by decide +kernel, rfl, by decide +kernel, by decide +kernel⟩, fun kV doc pm an cdv ct us hl => match us, hl with | [_, _], _ => rfl, kf_of (l := []) (by kernel_rfl) all_nil⟩
theorem s_46 : sts "_law_number" = topS 67 := by kernel_rfl
theorem x_46 : DefTx GG BB "_law_number" 46 2 (topS 67) := ⟨n_46, ["own", "most"], m_46, b_46, rfl, rfl, t_46, ⟨rfl, rfl, rfl, by decide +kernel, rfl, by decide +kernel, by decide +kernel⟩, fun kV doc pm an cdv ct us hl => match us, hl with | [_, _], _ => rfl, kf_of (l := []) (by kernel_rfl) all_nil⟩
theorem s_47 : sts "_law_listed" = topS 68 := by kernel_rfl
theorem x_47 : DefTx GG BB "_law_listed" 47 1 (topS 68) := ⟨n_47, ["rows"], m_47, b_47, rfl, rfl, t_47, ⟨rfl, rfl, rfl, by decide +kernel, rfl, by decide +kernel, by decide +kernel⟩, fun kV doc pm an cdv ct us hl => match us, hl with | [_], _ => rfl, kf_of (l := []) (by kernel_rfl) all_nil⟩
theorem s_48 : sts "_law_text" = topS 69 := by kernel_rfl
theorem x_48 : DefTx GG BB "_law_text" 48 2 (topS 69) := ⟨n_48, ["kind", "value"], m_48, b_48, rfl, rfl, t_48, ⟨rfl, rfl, rfl, by decide +kernel, rfl, by decide +kernel, by decide +kernel⟩, fun kV doc pm an cdv ct us hl => match us, hl with | [_, _], _ => rfl, kf_of (l := []) (by kernel_rfl) all_nil⟩
theorem s_49 : sts "_law_thing" = topS 70 := by kernel_rfl
theorem x_49 : DefTx GG BB "_law_thing" 49 2 (topS 70) := ⟨n_49, ["own", "kind"], m_49, b_49, rfl, rfl, t_49, ⟨rfl, rfl, rfl, by decide +kernel, rfl, by decide +kernel, by decide +kernel⟩, fun kV doc pm an cdv ct us hl => match us, hl with | [_, _], _ => rfl, kf_of (l := []) (by kernel_rfl) all_nil⟩
theorem s_50 : sts "law" = topS 71 := by kernel_rfl
theorem x_50 : DefTx GG BB "law" 50 1 (topS 71) := ⟨n_50, ["script"], m_50, b_50, rfl, rfl, t_50, ⟨rfl, rfl, rfl, by decide +kernel, rfl, by decide +kernel, by decide +kernel⟩, fun kV doc pm an cdv ct us hl => match us, hl with | [_], _ => rfl, kf_of (l := []) (by kernel_rfl) all_nil⟩
theorem u_0 (k : Nat) : callN BB (k + 1) 0 = defF 1 (b_0 (callN BB k)) := rfl
theorem u_1 (k : Nat) : callN BB (k + 1) 1 = defF 1 (b_1 (callN BB k)) := rfl
theorem u_2 (k : Nat) : callN BB (k + 1) 2 = defF 4 (b_2 (callN BB k)) := rfl
theorem u_3 (k : Nat) : callN BB (k + 1) 3 = defF 3 (b_3 (callN BB k)) := rfl
theorem u_4 (k : Nat) : callN BB (k + 1) 4 = defF 4 (b_4 (callN BB k)) := rfl
theorem u_5 (k : Nat) : callN BB (k + 1) 5 = defF 2 (b_5 (callN BB k)) := rfl
theorem u_6 (k : Nat) : callN BB (k + 1) 6 = defF 1 (b_6 (callN BB k)) := rfl
theorem u_7 (k : Nat) : callN BB (k + 1) 7 = defF 4 (b_7 (callN BB k)) := rfl
theorem u_8 (k : Nat) : callN BB (k + 1) 8 = defF 7 (b_8 (callN BB k)) := rfl
theorem u_9 (k : Nat) : callN BB (k + 1) 9 = defF 1 (b_9 (callN BB k)) := rfl
theorem u_10 (k : Nat) : callN BB (k + 1) 10 = defF 3 (b_10 (callN BB k)) := rfl
theorem u_11 (k : Nat) : callN BB (k + 1) 11 = defF 1 (b_11 (callN BB k)) := rfl
theorem u_12 (k : Nat) : callN BB (k + 1) 12 = defF 3 (b_12 (callN BB k)) := rfl
theorem u_13 (k : Nat) : callN BB (k + 1) 13 = defF 6 (b_13 (callN BB k)) := rfl
theorem u_14 (k : Nat) : callN BB (k + 1) 14 = defF 6 (b_14 (callN BB k)) := rfl
theorem u_15 (k : Nat) : callN BB (k + 1) 15 = defF 3 (b_15 (callN BB k)) := rfl
theorem u_16 (k : Nat) : callN BB (k + 1) 16 = defF 9 (b_16 (callN BB k)) := rfl
theorem u_17 (k : Nat) : callN BB (k + 1) 17 = defF 1 (b_17 (callN BB k)) := rfl
theorem u_18 (k : Nat) : callN BB (k + 1) 18 = defF 3 (b_18 (callN BB k)) := rfl
theorem u_19 (k : Nat) : callN BB (k + 1) 19 = defF 2 (b_19 (callN BB k)) := rfl
theorem u_20 (k : Nat) : callN BB (k + 1) 20 = defF 3 (b_20 (callN BB k)) := rfl
theorem u_21 (k : Nat) : callN BB (k + 1) 21 = defF 3 (b_21 (callN BB k)) := rfl
theorem u_22 (k : Nat) : callN BB (k + 1) 22 = defF 1 (b_22 (callN BB k)) := rfl
theorem u_23 (k : Nat) : callN BB (k + 1) 23 = defF 6 (b_23 (callN BB k)) := rfl
theorem u_24 (k : Nat) : callN BB (k + 1) 24 = defF 3 (b_24 (callN BB k)) := rfl
theorem u_25 (k : Nat) : callN BB (k + 1) 25 = defF 2 (b_25 (callN BB k)) := rfl
theorem u_26 (k : Nat) : callN BB (k + 1) 26 = defF 2 (b_26 (callN BB k)) := rfl
theorem u_27 (k : Nat) : callN BB (k + 1) 27 = defF 1 (b_27 (callN BB k)) := rfl
theorem u_28 (k : Nat) : callN BB (k + 1) 28 = defF 2 (b_28 (callN BB k)) := rfl
theorem u_29 (k : Nat) : callN BB (k + 1) 29 = defF 3 (b_29 (callN BB k)) := rfl
theorem u_30 (k : Nat) : callN BB (k + 1) 30 = defF 1 (b_30 (callN BB k)) := rfl
theorem u_31 (k : Nat) : callN BB (k + 1) 31 = defF 14 (b_31 (callN BB k)) := rfl
theorem u_32 (k : Nat) : callN BB (k + 1) 32 = defF 2 (b_32 (callN BB k)) := rfl
theorem u_33 (k : Nat) : callN BB (k + 1) 33 = defF 1 (b_33 (callN BB k)) := rfl
theorem u_34 (k : Nat) : callN BB (k + 1) 34 = defF 1 (b_34 (callN BB k)) := rfl
theorem u_35 (k : Nat) : callN BB (k + 1) 35 = defF 1 (b_35 (callN BB k)) := rfl
theorem u_36 (k : Nat) : callN BB (k + 1) 36 = defF 1 (b_36 (callN BB k)) := rfl
theorem u_37 (k : Nat) : callN BB (k + 1) 37 = defF 1 (b_37 (callN BB k)) := rfl
theorem u_38 (k : Nat) : callN BB (k + 1) 38 = defF 1 (b_38 (callN BB k)) := rfl
theorem u_39 (k : Nat) : callN BB (k + 1) 39 = defF 1 (b_39 (callN BB k)) := rfl
theorem u_40 (k : Nat) : callN BB (k + 1) 40 = defF 5 (b_40 (callN BB k)) := rfl
theorem u_41 (k : Nat) : callN BB (k + 1) 41 = defF 3 (b_41 (callN BB k)) := rfl
theorem u_42 (k : Nat) : callN BB (k + 1) 42 = defF 8 (b_42 (callN BB k)) := rfl
theorem u_43 (k : Nat) : callN BB (k + 1) 43 = defF 3 (b_43 (callN BB k)) := rfl
theorem u_44 (k : Nat) : callN BB (k + 1) 44 = defF 6 (b_44 (callN BB k)) := rfl
theorem u_45 (k : Nat) : callN BB (k + 1) 45 = defF 17 (b_45 (callN BB k)) := rfl
theorem u_46 (k : Nat) : callN BB (k + 1) 46 = defF 6 (b_46 (callN BB k)) := rfl
theorem u_47 (k : Nat) : callN BB (k + 1) 47 = defF 1 (b_47 (callN BB k)) := rfl
theorem u_48 (k : Nat) : callN BB (k + 1) 48 = defF 20 (b_48 (callN BB k)) := rfl
theorem u_49 (k : Nat) : callN BB (k + 1) 49 = defF 8 (b_49 (callN BB k)) := rfl
theorem u_50 (k : Nat) : callN BB (k + 1) 50 = defF 18 (b_50 (callN BB k)) := rfl
abbrev lvl : Nat := 59
theorem all_mk {P : Program} {w : World} {K : PySem.W.Frag} {h : Heap} {mg : Str → Option Value} {fa : Addr} (X : K.In h) (G : h.Ns mainGlobals mg) (hfa : mg "law" = some (.ref fa))
    (d_0 : DefAt K "is_integer" (topS 10))
    (d_1 : DefAt K "is_natural" (topS 11))
    (d_2 : DefAt K "is_made_of" (topS 12))
    (d_3 : DefAt K "is_ascending" (topS 13))
    (d_4 : DefAt K "is_gate" (topS 16))
    (d_5 : DefAt K "is_circuit" (topS 17))
    (d_6 : DefAt K "check_circuit" (topS 18))
    (d_7 : DefAt K "is_independent" (topS 20))
    (d_8 : DefAt K "is_number" (topS 22))
    (d_9 : DefAt K "check_number" (topS 23))
    (d_10 : DefAt K "is_matrix" (topS 25))
    (d_11 : DefAt K "check_matrix" (topS 26))
    (d_12 : DefAt K "is_below" (topS 28))
    (d_13 : DefAt K "are_twos" (topS 29))
    (d_14 : DefAt K "are_threes" (topS 30))
    (d_15 : DefAt K "are_rows" (topS 31))
    (d_16 : DefAt K "is_form" (topS 32))
    (d_17 : DefAt K "check_form" (topS 33))
    (d_18 : DefAt K "is_pauli" (topS 35))
    (d_19 : DefAt K "check_pauli" (topS 36))
    (d_20 : DefAt K "is_edge" (topS 38))
    (d_21 : DefAt K "is_graph" (topS 39))
    (d_22 : DefAt K "check_graph" (topS 40))
    (d_23 : DefAt K "number_text" (topS 43))
    (d_24 : DefAt K "matrix_text" (topS 44))
    (d_25 : DefAt K "gate_text" (topS 45))
    (d_26 : DefAt K "circuit_text" (topS 46))
    (d_27 : DefAt K "pauli_text" (topS 47))
    (d_28 : DefAt K "paulis_text" (topS 48))
    (d_29 : DefAt K "graph_text" (topS 49))
    (d_30 : DefAt K "listed" (topS 50))
    (d_31 : DefAt K "form_text" (topS 51))
    (d_32 : DefAt K "are_paulis" (topS 52))
    (d_33 : DefAt K "show_number" (topS 53))
    (d_34 : DefAt K "show_matrix" (topS 54))
    (d_35 : DefAt K "show_circuit" (topS 55))
    (d_36 : DefAt K "show_pauli" (topS 56))
    (d_37 : DefAt K "show_paulis" (topS 57))
    (d_38 : DefAt K "show_graph" (topS 58))
    (d_39 : DefAt K "show_form" (topS 59))
    (d_40 : DefAt K "_law_draw" (topS 61))
    (d_41 : DefAt K "_law_like" (topS 62))
    (d_42 : DefAt K "_law_gates" (topS 63))
    (d_43 : DefAt K "_law_pauli" (topS 64))
    (d_44 : DefAt K "_law_graph" (topS 65))
    (d_45 : DefAt K "_law_drawn_form" (topS 66))
    (d_46 : DefAt K "_law_number" (topS 67))
    (d_47 : DefAt K "_law_listed" (topS 68))
    (d_48 : DefAt K "_law_text" (topS 69))
    (d_49 : DefAt K "_law_thing" (topS 70))
    (d_50 : DefAt K "law" (topS 71))
    (z_0 : PySem.W.nsIn K mainGlobals "all" = some none)
    (z_1 : PySem.W.nsIn K mainGlobals "bool" = some none)
    (z_2 : PySem.W.nsIn K mainGlobals "int" = some none)
    (z_3 : PySem.W.nsIn K mainGlobals "isinstance" = some none)
    (z_4 : PySem.W.nsIn K mainGlobals "len" = some none)
    (z_5 : PySem.W.nsIn K mainGlobals "list" = some none)
    (z_6 : PySem.W.nsIn K mainGlobals "min" = some none)
    (z_7 : PySem.W.nsIn K mainGlobals "range" = some none)
    (z_8 : PySem.W.nsIn K mainGlobals "str" = some none)
    (z_9 : PySem.W.nsIn K mainGlobals "tuple" = some none)
    (z_10 : PySem.W.nsIn K mainGlobals "zip" = some none)
    (c0 : CstAt K "SIGNS" c_SIGNS)
    (e0 : DctAt K w "GATES" k_GATES)
    : ∃ fd : FuncData, (∀ (s : Shared) (v : Value), BindsTo s fd ⟨[v], []⟩ [("script", v)]) ∧ ∀ base : Heap, K.In base → base.Ns mainGlobals mg → FnOk P w K mg base CX0 (lvl + 1) fa fd ["script"] (spI K 1 (callN BB (lvl + 1) 50)) := by
  have hat : ∀ q ∈ GG.funs, DefAt K q.1 (sts q.1) := (all_cons (Eq.mpr (congrArg (DefAt K _) s_0) d_0)
    (all_cons (Eq.mpr (congrArg (DefAt K _) s_1) d_1)
    (all_cons (Eq.mpr (congrArg (DefAt K _) s_2) d_2)
    (all_cons (Eq.mpr (congrArg (DefAt K _) s_3) d_3)
    (all_cons (Eq.mpr (congrArg (DefAt K _) s_4) d_4)
    (all_cons (Eq.mpr (congrArg (DefAt K _) s_5) d_5)
    (all_cons (Eq.mpr (congrArg (DefAt K _) s_6) d_6)
    (all_cons (Eq.mpr (congrArg (DefAt K _) s_7) d_7)
    (all_cons (Eq.mpr (congrArg (DefAt K _) s_8) d_8)
    (all_cons (Eq.mpr (congrArg (DefAt K _) s_9) d_9)
    (all_cons (Eq.mpr (congrArg (DefAt K _) s_10) d_10)
    (all_cons (Eq.mpr (congrArg (DefAt K _) s_11) d_11)
    (all_cons (Eq.mpr (congrArg (DefAt K _) s_12) d_12)
    (all_cons (Eq.mpr (congrArg (DefAt K _) s_13) d_13)
    (all_cons (Eq.mpr (congrArg (DefAt K _) s_14) d_14)
    (all_cons (Eq.mpr (congrArg (DefAt K _) s_15) d_15)
    (all_cons (Eq.mpr (congrArg (DefAt K _) s_16) d_16)
    (all_cons (Eq.mpr (congrArg (DefAt K _) s_17) d_17)
    (all_cons (Eq.mpr (congrArg (DefAt K _) s_18) d_18)
    (all_cons (Eq.mpr (congrArg (DefAt K _) s_19) d_19)
    (all_cons (Eq.mpr (congrArg (DefAt K _) s_20) d_20)
    (all_cons (Eq.mpr (congrArg (DefAt K _) s_21) d_21)
    (all_cons (Eq.mpr (congrArg (DefAt K _) s_22) d_22)
    (all_cons (Eq.mpr (congrArg (DefAt K _) s_23) d_23)
    (all_cons (Eq.mpr (congrArg (DefAt K _) s_24) d_24)
    (all_cons (Eq.mpr (congrArg (DefAt K _) s_25) d_25)
    (all_cons (Eq.mpr (congrArg (DefAt K _) s_26) d_26)
    (all_cons (Eq.mpr (congrArg (DefAt K _) s_27) d_27)
    (all_cons (Eq.mpr (congrArg (DefAt K _) s_28) d_28)
    (all_cons (Eq.mpr (congrArg (DefAt K _) s_29) d_29)
    (all_cons (Eq.mpr (congrArg (DefAt K _) s_30) d_30)
    (all_cons (Eq.mpr (congrArg (DefAt K _) s_31) d_31)
    (all_cons (Eq.mpr (congrArg (DefAt K _) s_32) d_32)
    (all_cons (Eq.mpr (congrArg (DefAt K _) s_33) d_33)
    (all_cons (Eq.mpr (congrArg (DefAt K _) s_34) d_34)
    (all_cons (Eq.mpr (congrArg (DefAt K _) s_35) d_35)
    (all_cons (Eq.mpr (congrArg (DefAt K _) s_36) d_36)
    (all_cons (Eq.mpr (congrArg (DefAt K _) s_37) d_37)
    (all_cons (Eq.mpr (congrArg (DefAt K _) s_38) d_38)
    (all_cons (Eq.mpr (congrArg (DefAt K _) s_39) d_39)
    (all_cons (Eq.mpr (congrArg (DefAt K _) s_40) d_40)
    (all_cons (Eq.mpr (congrArg (DefAt K _) s_41) d_41)
    (all_cons (Eq.mpr (congrArg (DefAt K _) s_42) d_42)
    (all_cons (Eq.mpr (congrArg (DefAt K _) s_43) d_43)
    (all_cons (Eq.mpr (congrArg (DefAt K _) s_44) d_44)
    (all_cons (Eq.mpr (congrArg (DefAt K _) s_45) d_45)
    (all_cons (Eq.mpr (congrArg (DefAt K _) s_46) d_46)
    (all_cons (Eq.mpr (congrArg (DefAt K _) s_47) d_47)
    (all_cons (Eq.mpr (congrArg (DefAt K _) s_48) d_48)
    (all_cons (Eq.mpr (congrArg (DefAt K _) s_49) d_49)
    (all_cons (Eq.mpr (congrArg (DefAt K _) s_50) d_50)
    all_nil)))))))))))))))))))))))))))))))))))))))))))))))))))
  have htx : ∀ q ∈ GG.funs, DefTx GG BB q.1 q.2.1 q.2.2 (sts q.1) := (all_cons (Eq.mpr (congrArg (DefTx GG BB _ _ _) s_0) x_0)
    (all_cons (Eq.mpr (congrArg (DefTx GG BB _ _ _) s_1) x_1)
    (all_cons (Eq.mpr (congrArg (DefTx GG BB _ _ _) s_2) x_2)
    (all_cons (Eq.mpr (congrArg (DefTx GG BB _ _ _) s_3) x_3)
    (all_cons (Eq.mpr (congrArg (DefTx GG BB _ _ _) s_4) x_4)
    (all_cons (Eq.mpr (congrArg (DefTx GG BB _ _ _) s_5) x_5)
    (all_cons (Eq.mpr (congrArg (DefTx GG BB _ _ _) s_6) x_6)
    (all_cons (Eq.mpr (congrArg (DefTx GG BB _ _ _) s_7) x_7)
    (all_cons (Eq.mpr (congrArg (DefTx GG BB _ _ _) s_8) x_8)
    (all_cons (Eq.mpr (congrArg (DefTx GG BB _ _ _) s_9) x_9)
    (all_cons (Eq.mpr (congrArg (DefTx GG BB _ _ _) s_10) x_10)
    (all_cons (Eq.mpr (congrArg (DefTx GG BB _ _ _) s_11) x_11)
    (all_cons (Eq.mpr (congrArg (DefTx GG BB _ _ _) s_12) x_12)
    (all_cons (Eq.mpr (congrArg (DefTx GG BB _ _ _) s_13) x_13)
    (all_cons (Eq.mpr (congrArg (DefTx GG BB _ _ _) s_14) x_14)
    (all_cons (Eq.mpr (congrArg (DefTx GG BB _ _ _) s_15) x_15)
    (all_cons (Eq.mpr (congrArg (DefTx GG BB _ _ _) s_16) x_16)
    (all_cons (Eq.mpr (congrArg (DefTx GG BB _ _ _) s_17) x_17)
    (all_cons (Eq.mpr (congrArg (DefTx GG BB _ _ _) s_18) x_18)
    (all_cons (Eq.mpr (congrArg (DefTx GG BB _ _ _) s_19) x_19)
    (all_cons (Eq.mpr (congrArg (DefTx GG BB _ _ _) s_20) x_20)
    (all_cons (Eq.mpr (congrArg (DefTx GG BB _ _ _) s_21) x_21)
    (all_cons (Eq.mpr (congrArg (DefTx GG BB _ _ _) s_22) x_22)
    (all_cons (Eq.mpr (congrArg (DefTx GG BB _ _ _) s_23) x_23)
    (all_cons (Eq.mpr (congrArg (DefTx GG BB _ _ _) s_24) x_24)
    (all_cons (Eq.mpr (congrArg (DefTx GG BB _ _ _) s_25) x_25)
    (all_cons (Eq.mpr (congrArg (DefTx GG BB _ _ _) s_26) x_26)
    (all_cons (Eq.mpr (congrArg (DefTx GG BB _ _ _) s_27) x_27)
    (all_cons (Eq.mpr (congrArg (DefTx GG BB _ _ _) s_28) x_28)
    (all_cons (Eq.mpr (congrArg (DefTx GG BB _ _ _) s_29) x_29)
    (all_cons (Eq.mpr (congrArg (DefTx GG BB _ _ _) s_30) x_30)
    (all_cons (Eq.mpr (congrArg (DefTx GG BB _ _ _) s_31) x_31)
    (all_cons (Eq.mpr (congrArg (DefTx GG BB _ _ _) s_32) x_32)
    (all_cons (Eq.mpr (congrArg (DefTx GG BB _ _ _) s_33) x_33)
    (all_cons (Eq.mpr (congrArg (DefTx GG BB _ _ _) s_34) x_34)
    (all_cons (Eq.mpr (congrArg (DefTx GG BB _ _ _) s_35) x_35)
    (all_cons (Eq.mpr (congrArg (DefTx GG BB _ _ _) s_36) x_36)
    (all_cons (Eq.mpr (congrArg (DefTx GG BB _ _ _) s_37) x_37)
    (all_cons (Eq.mpr (congrArg (DefTx GG BB _ _ _) s_38) x_38)
    (all_cons (Eq.mpr (congrArg (DefTx GG BB _ _ _) s_39) x_39)
    (all_cons (Eq.mpr (congrArg (DefTx GG BB _ _ _) s_40) x_40)
    (all_cons (Eq.mpr (congrArg (DefTx GG BB _ _ _) s_41) x_41)
    (all_cons (Eq.mpr (congrArg (DefTx GG BB _ _ _) s_42) x_42)
    (all_cons (Eq.mpr (congrArg (DefTx GG BB _ _ _) s_43) x_43)
    (all_cons (Eq.mpr (congrArg (DefTx GG BB _ _ _) s_44) x_44)
    (all_cons (Eq.mpr (congrArg (DefTx GG BB _ _ _) s_45) x_45)
    (all_cons (Eq.mpr (congrArg (DefTx GG BB _ _ _) s_46) x_46)
    (all_cons (Eq.mpr (congrArg (DefTx GG BB _ _ _) s_47) x_47)
    (all_cons (Eq.mpr (congrArg (DefTx GG BB _ _ _) s_48) x_48)
    (all_cons (Eq.mpr (congrArg (DefTx GG BB _ _ _) s_49) x_49)
    (all_cons (Eq.mpr (congrArg (DefTx GG BB _ _ _) s_50) x_50)
    all_nil)))))))))))))))))))))))))))))))))))))))))))))))))))
  have hfree : ∀ x ∈ GG.free, mg x = none := (all_cons (PySem.W.mg_none_of X G z_0)
    (all_cons (PySem.W.mg_none_of X G z_1)
    (all_cons (PySem.W.mg_none_of X G z_2)
    (all_cons (PySem.W.mg_none_of X G z_3)
    (all_cons (PySem.W.mg_none_of X G z_4)
    (all_cons (PySem.W.mg_none_of X G z_5)
    (all_cons (PySem.W.mg_none_of X G z_6)
    (all_cons (PySem.W.mg_none_of X G z_7)
    (all_cons (PySem.W.mg_none_of X G z_8)
    (all_cons (PySem.W.mg_none_of X G z_9)
    (all_cons (PySem.W.mg_none_of X G z_10)
    all_nil)))))))))))
  have hconsts : ∀ p ∈ GG.consts, ∃ v u, mg p.1 = some u ∧ RelV v u ∧ ∀ L, Rep K L v p.2 := (all_cons (let ⟨v, u, a, r, q⟩ := c0.ex; ⟨v, u, PySem.W.mg_of X G a, r, q⟩)
    all_nil)
  have hdicts : ∀ p ∈ GG.dicts, ∃ a, mg p.1 = some (.ref a) ∧ KDOk K w a p.2 := (all_cons (let ⟨a, b, q⟩ := e0.ex; ⟨a, PySem.W.mg_of X G b, q⟩)
    all_nil)
  obtain ⟨f, oc, od, an, osl, kV, doc, pm, cdv, ct, a, l, c, kp⟩ := d_50.ex
  refine ⟨_, fun s v => .of_eq (rfl : bindArgs (PySem.W.fnOf "law" "law" (defArgs (topS 71)) (defBody (topS 71)) (defScope (topS 71)) .none kV doc pm an cdv ct) ⟨[v], []⟩ = _), fun base KX GX => ?_⟩
  have hf := prog_ok (P := P) (w := w) (base := base) KX GX sts hat htx hfree hconsts hdicts lvl
  have ok := def_ok (P := P) (w := w) (base := base) (G := GG) (fe := callN BB lvl) (k := lvl) (N := n_50) (ps := ["script"]) (md := m_50) (fun_mk (st := topS 71) l c kp) ⟨rfl, rfl, rfl, by decide +kernel, rfl, by decide +kernel, by decide +kernel⟩ hfree hconsts hdicts hf
  have e : denF GG n_50 m_50 (topS 71) (callN BB lvl) = callN BB (lvl + 1) 50 := by
    unfold denF
    rw [t_50]
    rfl
  rw [e] at ok
  have em := hfa.symm.trans (PySem.W.mg_of X G a)
  cases em
  exact ok
end WP
set_option Elab.async false
set_option linter.all false
set_option maxRecDepth 100000
namespace WP
open PySem PySem.Spec PyProof.Rows L2 WC
variable (k : Nat) (h : Hs)
theorem f_int (i : Int) : callN BB (k + 1) 0 [.int i] h = .ok (.bl true) h := by
  rw [u_0]
  simp [b_0]
theorem f_nat (i : Int) : callN BB (k + 2) 1 [.int i] h = .ok (.bl (decide (0 ≤ i))) h := by
  rw [u_1]
  simp [b_1, f_int]
structure Num where
  a : Int
  b : Int
  c : Int
  d : Int
  e : Int
abbrev Num.D (n : Num) : D := .tup [.int n.a, .int n.b, .int n.c, .int n.d, .int n.e]
structure Num.Ok (n : Num) : Prop where
  a : Sm n.a
  b : Sm n.b
  c : Sm n.c
  d : Sm n.d
  e : Sm n.e
  e0 : 0 ≤ n.e
  w : n.e = 0 ∨ (n.a - n.c) % 2 ≠ 0 ∨ (n.b - n.d) % 2 ≠ 0
def Num.txt (n : Num) : List Nat := strI n.a ++ 32 :: (strI n.b ++ 32 :: (strI n.c ++ 32 :: (strI n.d ++ 32 :: 47 :: strI n.e)))
theorem f_number {n : Num} (w : n.Ok) : callN BB (k + 3) 8 [n.D] h = .ok (.bl true) h := by
  obtain ⟨a, b, c, d, e⟩ := n
  rw [u_8]
  have h0 : 0 ≤ e := w.e0
  rcases w.w with w | w | w <;> simp only at w
  · subst w
    simp [b_8, lcL, lcGo, f_int, f_nat, gAll, asL, toBls]
  · have : ((a - c) % 2 == 0) = false := by simpa using w
    simp [b_8, lcL, lcGo, f_int, f_nat, gAll, asL, toBls, g_mod, this, h0]
    cases e == 0 <;> rfl
  · have : ((b - d) % 2 == 0) = false := by simpa using w
    simp [b_8, lcL, lcGo, f_int, f_nat, gAll, asL, toBls, g_mod, this, h0]
    cases e == 0 <;> cases (a - c) % 2 == 0 <;> rfl
theorem f_ckNumber {n : Num} (w : n.Ok) : callN BB (k + 4) 9 [n.D] h = .ok .non h := by
  rw [u_9]
  simp [b_9, f_number k h w]
theorem txt_le {n : Num} (w : n.Ok) : n.txt.length ≤ 300 := by
  have := strI_len w.a
  have := strI_len w.b
  have := strI_len w.c
  have := strI_len w.d
  have := strI_len w.e
  unfold Num.txt
  simp
  omega
theorem f_numText {n : Num} (w : n.Ok) : callN BB (k + 1) 23 [n.D] h = .ok (.str n.txt) h := by
  obtain ⟨a, b, c, d, e⟩ := n
  rw [u_23]
  have l1 := strI_len w.a
  have l2 := strI_len w.b
  have l3 := strI_len w.c
  have l4 := strI_len w.d
  have l5 := strI_len w.e
  have g1 := sm_log w.a
  have g2 := sm_log w.b
  have g3 := sm_log w.c
  have g4 := sm_log w.d
  have g5 := sm_log w.e
  simp only at l1 l2 l3 l4 l5 g1 g2 g3 g4 g5
  simp [b_23, g1, g2, g3, g4, g5, Num.txt]
  simp (disch := omega) [if_pos]
theorem f_shNumber {n : Num} (w : n.Ok) : callN BB (k + 5) 33 [n.D] h = .ok (.str n.txt) h := by
  rw [u_33]
  simp [b_33, f_ckNumber k h w, f_numText (k + 3) h w]
end WP
set_option Elab.async false
set_option linter.all false
set_option maxRecDepth 100000
namespace WP
open PySem PySem.Spec PyProof.Rows L2 WC
variable (k : Nat) (h : Hs)
abbrev mRow (r : List Num) : D := .tup (r.map Num.D)
abbrev mD (m : List (List Num)) : D := .tup (m.map mRow)
structure MOk (m : List (List Num)) : Prop where
  sz : m.length = 2 ∨ m.length = 4
  row : ∀ r ∈ m, r.length = m.length
  num : ∀ r ∈ m, ∀ n ∈ r, n.Ok
theorem mem_mid {α : Type} {xs done rest : List α} {x : α} (e : xs = done ++ x :: rest) : x ∈ xs := by rw [e]; simp
theorem f_matrix {m : List (List Num)} (w : MOk m) : callN BB (k + 4) 10 [mD m] h = .ok (.bl true) h := by
  rw [u_10]
  have hs := w.sz
  have e1 : Builtin.bitAnd (m.length : Int) ((m.length : Int) - 1) = 0 := by rcases hs with e | e <;> rw [e] <;> decide +kernel
  have e2 : ¬ (m.length : Int) < 2 := by omega
  simp [b_10, e1, e2]
  generalize hr : forGo _ _ _ _ _ = r
  obtain ⟨σ', rfl, i⟩ := for_pure_of hr mRow m rfl (fun _ σ => ∃ x, σ = [.val (mD m), x, .no] ∧ ∀ xs, x ≠ .lent xs) ⟨_, rfl, by simp⟩ fun done x rest σ e i => by
    obtain ⟨y, rfl, ny⟩ := i
    have hm := mem_mid e
    have hl := w.row x hm
    refine ⟨[.val (mD m), .val (mRow x), .no], [.val (mD m), .val (mRow x), .no], ?_, .inl ?_, _, rfl, by simp⟩
    · cases y <;> simp at ny ⊢
    · have := lc_typed (σ := [.val (mD m), .val (mRow x), .no]) (m := iVal (oVar 1)) (t := tgName 2) (vs := [2]) (te := eFn 1 (callN BB (k + 3) 8) (aCons (eVar 2) aNil)) (h := h) x Num.D (fun _ => .bl true) (by simp) (by omega) fun n hn => ⟨_, rfl, by simp [f_number k h (w.num x hm n hn)]⟩
      simp [this, hl]
  rfl
theorem f_ckMatrix {m : List (List Num)} (w : MOk m) : callN BB (k + 5) 11 [mD m] h = .ok .non h := by
  rw [u_11]
  simp [b_11, f_matrix k h w]
def mCell (n : Num) : List Nat := 40 :: (n.txt ++ [41])
def mRowT (r : List Num) : List Nat := joinD [32] (r.map mCell)
def mTxt (m : List (List Num)) : List Nat := joinD [59, 32] (m.map mRowT)
theorem cell_le {n : Num} (w : n.Ok) : (mCell n).length ≤ 400 := by
  have := txt_le w
  unfold mCell
  simp
  omega
theorem rowT_le {m : List (List Num)} (w : MOk m) {r : List Num} (hr : r ∈ m) : (mRowT r).length ≤ 2000 := by
  have h1 := join_le [32] (r.map mCell)
  have h2 := parts_le (xs := r) (p := mCell) (b := 400) fun n hn => cell_le (w.num r hr n hn)
  have h3 := w.row r hr
  unfold mRowT
  simp only [List.length_map, List.length_cons, List.length_nil] at h1
  rcases w.sz with e | e <;> rw [e] at h3 <;> rw [h3] at h1 h2 <;> omega
theorem f_matText {m : List (List Num)} (w : MOk m) : callN BB (k + 2) 24 [mD m] h = .ok (.str (mTxt m)) h := by
  rw [u_24]
  have inner : ∀ r ∈ m, ∀ x y : Sl, lcL (iVal (oVar 1)) (tgName 2) tYesM (eJoined [(eC (.str [40])), (eFmt (eFn 1 (callN BB (k + 1) 23) (aCons (eVar 2) aNil))), (eC (.str [41]))]) [2] [.val (mD m), .val (mRow r), .no] h = .ok (r.map fun n => .str (mCell n)) h := fun r hr x y => by
    have h3 := w.row r hr
    have hs := w.sz
    refine lc_typed r Num.D (fun n => .str (mCell n)) (by simp) (by omega) fun n hn => ⟨_, rfl, ?_⟩
    have := txt_le (w.num r hr n hn)
    simp [f_numText k h (w.num r hr n hn), mCell]
    simp (disch := omega) [if_pos]
  have hs := w.sz
  have outer := lc_typed (σ := [.val (mD m), .no, .no]) (m := iVal (oVar 0)) (t := tgName 1) (vs := [1]) (te := eMeth .str gJoin (eC (.str [32])) (aCons (eFrz (lcL (iVal (oVar 1)) (tgName 2) tYesM (eJoined [(eC (.str [40])), (eFmt (eFn 1 (callN BB (k + 1) 23) (aCons (eVar 2) aNil))), (eC (.str [41]))]) [2])) aNil)) (h := h) m mRow (fun r => .str (mRowT r)) (by simp) (by omega) fun r hr => ⟨_, rfl, by
    have h3 := w.row r hr
    have := g_joinM (h := h) (a := [32]) (xs := r) (p := mCell) 400 (fun n hn => cell_le (w.num r hr n hn)) (by simp; omega)
    simp [inner r hr .no .no, tyM, this, mRowT]⟩
  have := g_joinM (h := h) (a := [59, 32]) (xs := m) (p := mRowT) 2000 (fun r hr => rowT_le w hr) (by simp; omega)
  simp [b_24, outer, tyM, this, mTxt]
theorem f_shMatrix {m : List (List Num)} (w : MOk m) : callN BB (k + 6) 34 [mD m] h = .ok (.str (mTxt m)) h := by
  rw [u_34]
  simp [b_34, f_ckMatrix k h w, f_matText (k + 3) h w]
end WP
set_option Elab.async false
set_option linter.all false
set_option maxRecDepth 100000
namespace WP
open PySem PySem.Spec PyProof.Rows L2 WC
variable (k : Nat) (h : Hs)
structure Gate where
  nm : List Nat
  ls : List Int
abbrev Gate.D (g : Gate) : D := .tup (.str g.nm :: g.ls.map .int)
def gnames : List (List Nat) := [[119], [104], [115], [115, 100], [116], [116, 100], [120], [121], [122], [99, 120], [99, 122], [115, 119, 97, 112]]
inductive GOk (m : Int) (g : Gate) : Prop where
  | w (e : g.nm = [119]) (l : g.ls = [])
  | one (e : g.nm ∈ [[104], [115], [115, 100], [116], [116, 100], [120], [121], [122]]) (i : Int) (l : g.ls = [i]) (i0 : 0 ≤ i) (i1 : i < m)
  | two (e : g.nm ∈ [[99, 120], [99, 122], [115, 119, 97, 112]]) (i j : Int) (l : g.ls = [i, j]) (i0 : 0 ≤ i) (i1 : i < m) (j0 : 0 ≤ j) (j1 : j < m) (ne : i ≠ j)
theorem lk1 {nm : List Nat} (e : nm ∈ [[104], [115], [115, 100], [116], [116, 100], [120], [121], [122]]) : k_GATES.lookup nm = some (.int 1) := by
  simp at e
  rcases e with rfl | rfl | rfl | rfl | rfl | rfl | rfl | rfl <;> rfl
theorem lk2 {nm : List Nat} (e : nm ∈ [[99, 120], [99, 122], [115, 119, 97, 112]]) : k_GATES.lookup nm = some (.int 2) := by
  simp at e
  rcases e with rfl | rfl | rfl <;> rfl
theorem lk0 : k_GATES.lookup [119] = some (.int 0) := rfl
theorem GOk.nms {m : Int} {g : Gate} (o : GOk m g) : g.nm ∈ gnames := by
  cases o with
  | w e l => rw [e]; simp [gnames]
  | one e i l _ _ => simp at e; rcases e with e | e | e | e | e | e | e | e <;> rw [e] <;> simp [gnames]
  | two e i j l _ _ _ _ _ => simp at e; rcases e with e | e | e <;> rw [e] <;> simp [gnames]
theorem f_gate {m : Int} {g : Gate} (o : GOk m g) : callN BB (k + 3) 4 [.int m, g.D] h = .ok (.bl true) h := by
  obtain ⟨nm, ls⟩ := g
  rw [u_4]
  cases o with
  | w e l =>
    simp only at e l
    subst e l
    simp [b_4, lk0, lcL, lcGo, gAll, asL, toBls]
  | one e i l i0 i1 =>
    simp only at e l
    subst l
    simp [b_4, lk1 e, lcL, lcGo, gAll, asL, toBls, f_nat, i0, i1]
  | two e i j l i0 i1 j0 j1 ne =>
    simp only at e l
    subst l
    have : (i == j) = false := by simpa using ne
    simp [b_4, lk2 e, lcL, lcGo, gAll, asL, toBls, f_nat, i0, i1, j0, j1, this]
structure Circ where
  m : Int
  gs : List Gate
abbrev Circ.D (c : Circ) : D := .tup [.int c.m, .tup (c.gs.map Gate.D)]
structure COk (c : Circ) : Prop where
  m0 : 1 ≤ c.m
  m1 : c.m ≤ 5
  n : c.gs.length ≤ 9
  g : ∀ g ∈ c.gs, GOk c.m g
theorem f_circ {c : Circ} (o : COk c) : callN BB (k + 4) 5 [c.D] h = .ok (.bl true) h := by
  obtain ⟨m, gs⟩ := c
  obtain ⟨m0, m1, n, g⟩ := o
  simp only at m0 m1 n g
  rw [u_5]
  have e1 : ¬ m < 1 := by omega
  have := lc_typed (σ := [.val (.tup [.int m, .tup (gs.map Gate.D)]), .no]) (m := iVal (eOp atD (oVar 0) (eC (.int 1)))) (t := tgName 1) (vs := [1]) (te := eFn 2 (callN BB (k + 3) 4) (aCons (eOp atD (oVar 0) (eC (.int 0))) (aCons (eVar 1) aNil))) (h := h) gs Gate.D (fun _ => .bl true) (by simp) (by omega) fun x hx => ⟨_, rfl, by simp [f_gate k h (g x hx)]⟩
  simp [b_5, f_int, e1, this]
theorem f_ckCirc {c : Circ} (o : COk c) : callN BB (k + 5) 6 [c.D] h = .ok .non h := by
  rw [u_6]
  simp [b_6, f_circ k h o]
def gTxt (g : Gate) : List Nat := joinD [46] (g.nm :: g.ls.map strI)
theorem small_sm {i : Int} (h0 : 0 ≤ i) (h1 : i < 1000) : Sm i := by show i.natAbs < 10 ^ 40; omega
theorem GOk.sm {m : Int} {g : Gate} (o : GOk m g) (hm : m ≤ 5) : (∀ l ∈ g.ls, 0 ≤ l ∧ l < 5) ∧ g.ls.length ≤ 2 ∧ g.nm.length ≤ 4 := by
  have hn := o.nms
  refine ⟨?_, ?_, ?_⟩
  · cases o with
    | w e l => rw [l]; simp
    | one e i l i0 i1 => rw [l]; simp; omega
    | two e i j l i0 i1 j0 j1 ne => rw [l]; simp; omega
  · cases o with
    | w e l => rw [l]; simp
    | one e i l i0 i1 => rw [l]; simp
    | two e i j l i0 i1 j0 j1 ne => rw [l]; simp
  · simp [gnames] at hn
    rcases hn with e | e | e | e | e | e | e | e | e | e | e | e <;> rw [e] <;> simp
theorem gTxt_le {m : Int} {g : Gate} (o : GOk m g) (hm : m ≤ 5) : (gTxt g).length ≤ 300 := by
  obtain ⟨h1, h2, h3⟩ := o.sm hm
  have h4 := join_le [46] (g.nm :: g.ls.map strI)
  have h5 := parts_le (xs := g.ls) (p := strI) (b := 41) fun l hl => strI_len (small_sm (h1 l hl).1 (by have := h1 l hl; omega))
  unfold gTxt
  simp at h4 h5 ⊢
  omega
theorem f_gateText {m : Int} {g : Gate} (o : GOk m g) (hm : m ≤ 5) : callN BB (k + 1) 25 [g.D] h = .ok (.str (gTxt g)) h := by
  obtain ⟨h1, h2, h3⟩ := o.sm hm
  obtain ⟨nm, ls⟩ := g
  simp only at h1 h2 h3
  rw [u_25]
  have e := lc_typed (σ := [.val (.tup (.str nm :: ls.map .int)), .no]) (m := iVal (eSlice (oVar 0) (oSome (eC (.int 1))) oNone)) (t := tgName 1) (vs := [1]) (te := eCall gStrI (aCons (oVar 1) aNil)) (h := h) ls D.int (fun l => .str (strI l)) (by simp) (by omega) fun x hx => ⟨_, rfl, by simp [sm_log (small_sm (h1 x hx).1 (by have := h1 x hx; omega))]⟩
  have e2 : toStrs (.str nm :: ls.map fun l => .str (strI l)) = some (nm :: ls.map strI) := by simp [toStrs_map]
  have h5 := parts_le (xs := ls) (p := strI) (b := 41) fun l hl => strI_len (small_sm (h1 l hl).1 (by have := h1 l hl; omega))
  have e3 := g_join (h := h) (a := [46]) e2 (by simp at h5 ⊢; omega)
  have e4 : 1 + ls.length ≤ 16777216 := by omega
  simp [b_25, e, e4, tyM, e3, gTxt]
def cTxt (c : Circ) : List Nat := joinD [32] ((strI c.m ++ [58]) :: c.gs.map gTxt)
theorem f_circText {c : Circ} (o : COk c) : callN BB (k + 2) 26 [c.D] h = .ok (.str (cTxt c)) h := by
  obtain ⟨m, gs⟩ := c
  obtain ⟨m0, m1, n, g⟩ := o
  simp only at m0 m1 n g
  rw [u_26]
  have hs := small_sm (i := m) (by omega) (by omega)
  have hl := strI_len hs
  have e := lc_typed (σ := [.val (.tup [.int m, .tup (gs.map Gate.D)]), .no]) (m := iVal (eOp atD (oVar 0) (eC (.int 1)))) (t := tgName 1) (vs := [1]) (te := eFn 1 (callN BB (k + 1) 25) (aCons (eVar 1) aNil)) (h := h) gs Gate.D (fun g => .str (gTxt g)) (by simp) (by omega) fun x hx => ⟨_, rfl, by simp [f_gateText k h (g x hx) m1]⟩
  have e2 : toStrs (.str (strI m ++ [58]) :: gs.map fun l => .str (gTxt l)) = some ((strI m ++ [58]) :: gs.map gTxt) := by simp [toStrs_map]
  have h5 := parts_le (xs := gs) (p := gTxt) (b := 300) fun l hl => gTxt_le (g l hl) m1
  have e3 := g_join (h := h) (a := [32]) e2 (by simp at h5 ⊢; omega)
  have e4 : 1 + gs.length ≤ 16777216 := by omega
  have e5 : (strI m).length ≤ 16777216 := by omega
  have e6 : (strI m).length ≤ 16777215 := by omega
  simp [b_26, e, e4, e5, e6, tyM, e3, cTxt, sm_log hs]
theorem f_shCirc {c : Circ} (o : COk c) : callN BB (k + 6) 35 [c.D] h = .ok (.str (cTxt c)) h := by
  rw [u_35]
  simp [b_35, f_ckCirc k h o, f_circText (k + 3) h o]
end WP
set_option Elab.async false
set_option linter.all false
set_option maxRecDepth 100000
namespace WP
open PySem PySem.Spec PyProof.Rows L2 WC
variable (k : Nat) (h : Hs)
structure Pau where
  p : Int
  l : List Nat
abbrev Pau.D (c : Pau) : D := .tup [.int c.p, .str c.l]
def letters : List Nat := [73, 88, 89, 90]
structure POk (c : Pau) : Prop where
  p0 : 0 ≤ c.p
  p1 : c.p < 4
  ne : c.l ≠ []
  n : c.l.length ≤ 5
  l : ∀ x ∈ c.l, x ∈ letters
theorem f_pau {c : Pau} (o : POk c) : callN BB (k + 2) 18 [c.D] h = .ok (.bl true) h := by
  obtain ⟨p, l⟩ := c
  obtain ⟨p0, p1, ne, n, ol⟩ := o
  simp only at p0 p1 ne n ol
  rw [u_18]
  have e1 : p ≤ 3 := by omega
  have := lc_typed (σ := [.val (.tup [.int p, .str l]), .val (.str l), .no]) (m := iVal (oVar 1)) (t := tgName 2) (vs := [2]) (te := eOp gIn (oVar 2) (eC (.str [73, 88, 89, 90]))) (h := h) l (fun c => .str [c]) (fun _ => .bl true) (by simp) (by omega) fun x hx => ⟨_, rfl, by
    have hm := ol x hx
    simp [gIn, inD, asV, asL, letters] at hm ⊢
    simp [hm]⟩
  have e2 : (l == []) = false := by simpa using ne
  simp [b_18, f_int, p0, e1, this, e2]
theorem f_ckPau {c : Pau} (o : POk c) : callN BB (k + 3) 19 [c.D, .non] h = .ok .non h := by
  rw [u_19]
  simp [b_19, f_pau k h o, isN]
def sgn (p : Int) : List Nat := if p = 0 then [43] else if p = 1 then [43, 105] else if p = 2 then [45] else [45, 105]
def pTxt (c : Pau) : List Nat := sgn c.p ++ c.l
theorem f_pauText {c : Pau} (o : POk c) : callN BB (k + 1) 27 [c.D] h = .ok (.str (pTxt c)) h := by
  obtain ⟨p, l⟩ := c
  obtain ⟨p0, p1, ne, n, ol⟩ := o
  simp only at p0 p1 ne n ol
  rw [u_27]
  have e1 : l.length ≤ 16777214 := by omega
  have e2 : l.length ≤ 16777215 := by omega
  have e3 : 1 + l.length ≤ 16777216 := by omega
  have e4 : 2 + l.length ≤ 16777216 := by omega
  have : p = 0 ∨ p = 1 ∨ p = 2 ∨ p = 3 := by omega
  rcases this with rfl | rfl | rfl | rfl <;> simp [b_27, c_SIGNS, e1, e2, e3, e4, pTxt, sgn]
theorem f_shPau {c : Pau} (o : POk c) : callN BB (k + 4) 36 [c.D] h = .ok (.str (pTxt c)) h := by
  rw [u_36]
  simp [b_36, f_ckPau k h o, f_pauText (k + 2) h o]
theorem pTxt_le {c : Pau} (o : POk c) : (pTxt c).length ≤ 7 := by
  have := o.n
  unfold pTxt sgn
  split
  · simp; omega
  · split
    · simp; omega
    · split <;> simp <;> omega
abbrev psD (ps : List Pau) : D := .tup (ps.map Pau.D)
structure PsOk (ps : List Pau) : Prop where
  ne : ps ≠ []
  n : ps.length ≤ 10
  p : ∀ c ∈ ps, POk c
  e : ∀ c ∈ ps, ∀ d ∈ ps, c.l.length = d.l.length
theorem f_arePau {ps : List Pau} (o : PsOk ps) : callN BB (k + 3) 32 [psD ps] h = .ok (.bl true) h := by
  obtain ⟨ne, n, p, e⟩ := o
  rw [u_32]
  have h1 := lc_typed (σ := [.val (psD ps), .no]) (m := iVal (oVar 0)) (t := tgName 1) (vs := [1]) (te := eFn 1 (callN BB (k + 2) 18) (aCons (eVar 1) aNil)) (h := h) ps Pau.D (fun _ => .bl true) (by simp) (by omega) fun x hx => ⟨_, rfl, by simp [f_pau k h (p x hx)]⟩
  obtain ⟨c, hc⟩ : ∃ c, ps[0]? = some c := by
    cases ps with
    | nil => exact absurd rfl ne
    | cons c r => exact ⟨c, rfl⟩
  have hm : c ∈ ps := List.mem_of_getElem? hc
  have h2 := lc_typed (σ := [.val (psD ps), .no]) (m := iVal (oVar 0)) (t := tgName 1) (vs := [1]) (te := eOp gEq (eCall gLen (aCons (eOp atD (oVar 1) (eC (.int 1))) aNil)) (eCall gLen (aCons (eOp atD (eOp atD (oVar 0) (eC (.int 0))) (eC (.int 1))) aNil))) (h := h) ps Pau.D (fun _ => .bl true) (by simp) (by omega) fun x hx => ⟨_, rfl, by
    have e1 := e x hx c hm
    have e2 := (p c hm).n
    have e3 : c.l.length ≤ 16777216 := by omega
    simp [e1, e3, hc]⟩
  have e4 : ((ps.length : Int) == 0) = false := by
    have : ps.length ≠ 0 := by simpa using ne
    simp
    omega
  simp [b_32, h1, h2, e4]
def psTxt (ps : List Pau) : List Nat := joinD [32] (ps.map pTxt)
theorem f_paulisText {ps : List Pau} (o : PsOk ps) : callN BB (k + 2) 28 [psD ps] h = .ok (.str (psTxt ps)) h := by
  obtain ⟨ne, n, p, e⟩ := o
  rw [u_28]
  have h1 := lc_typed (σ := [.val (psD ps), .no]) (m := iVal (oVar 0)) (t := tgName 1) (vs := [1]) (te := eFn 1 (callN BB (k + 1) 27) (aCons (eVar 1) aNil)) (h := h) ps Pau.D (fun c => .str (pTxt c)) (by simp) (by omega) fun x hx => ⟨_, rfl, by simp [f_pauText k h (p x hx)]⟩
  have h2 := g_joinM (h := h) (a := [32]) (xs := ps) (p := pTxt) 7 (fun r hr => pTxt_le (p r hr)) (by simp; omega)
  simp [b_28, h1, h2, tyM, psTxt]
theorem f_shPaulis {ps : List Pau} (o : PsOk ps) : callN BB (k + 4) 37 [psD ps] h = .ok (.str (psTxt ps)) h := by
  rw [u_37]
  simp [b_37, f_arePau k h o, f_paulisText (k + 1) h o]
abbrev tI (xs : List Int) : D := .tup (xs.map .int)
theorem toInts_map (xs : List Int) : toInts (xs.map .int) = some xs := by
  induction xs with
  | nil => rfl
  | cons x xs ih => rw [List.map_cons]; unfold toInts; rw [ih]; rfl
def Asc (xs : List (List Int)) : Prop := ∀ p ∈ xs.zip (xs.drop 1), HT.lexLt p.1 p.2 = true
theorem zip_map {α : Type} (c : α → D) : ∀ xs ys : List α, zipD (xs.map c) (ys.map c) = (xs.zip ys).map fun p => .tup [c p.1, c p.2]
  | [], _ => rfl
  | _ :: _, [] => rfl
  | x :: xs, y :: ys => by
    have := zip_map c xs ys
    simp only [zipD] at this ⊢
    simp [this]
theorem f_asc {D0 : D} {xs : List (List Int)} (hD : D0 = .tup (xs.map tI) ∨ D0 = .lst (xs.map tI)) (hl : xs.length ≤ 1000) (a : Asc xs) : callN BB (k + 1) 3 [D0] h = .ok (.bl true) h := by
  rw [u_3]
  have key := lc_typed (σ := [.val D0, .no, .no]) (m := iZipD (aCons (eVar 0) (aCons (eSlice (oVar 0) (oSome (eC (.int 1))) oNone) aNil))) (t := tgTup [(tgName 1), (tgName 2)]) (vs := [1, 2]) (te := eOp gLt (oVar 1) (oVar 2)) (h := h) (xs.zip (xs.drop 1)) (fun p => .tup [tI p.1, tI p.2]) (fun _ => .bl true) (by
      rcases hD with rfl | rfl <;> simp [← List.map_tail, zip_map]) (by simp; omega) fun x hx => ⟨_, rfl, by
      have := a x hx
      simp [toInts_map, this]⟩
  simp [b_3, key]
structure Gra where
  m : Int
  es : List (Int × Int)
abbrev eD (e : Int × Int) : D := .tup [.int e.1, .int e.2]
abbrev Gra.D (g : Gra) : D := .tup [.int g.m, .tup (g.es.map eD)]
structure GrOk (g : Gra) : Prop where
  m0 : 1 ≤ g.m
  m1 : g.m ≤ 7
  n : g.es.length ≤ 100
  e : ∀ e ∈ g.es, 0 ≤ e.1 ∧ e.1 < e.2 ∧ e.2 < g.m
  a : Asc (g.es.map fun e => [e.1, e.2])
theorem f_edge {m : Int} {e : Int × Int} (o : 0 ≤ e.1 ∧ e.1 < e.2 ∧ e.2 < m) : callN BB (k + 3) 20 [.int m, eD e] h = .ok (.bl true) h := by
  obtain ⟨i, j⟩ := e
  obtain ⟨o1, o2, o3⟩ := o
  simp only at o1 o2 o3
  have o4 : 0 ≤ j := by omega
  rw [u_20]
  simp [b_20, lcL, lcGo, gAll, asL, toBls, f_nat, o1, o2, o3, o4]
theorem f_graph {g : Gra} (o : GrOk g) : callN BB (k + 4) 21 [g.D] h = .ok (.bl true) h := by
  obtain ⟨m, es⟩ := g
  obtain ⟨m0, m1, n, e, a⟩ := o
  simp only at m0 m1 n e a
  rw [u_21]
  have e1 : ¬ m < 1 := by omega
  have key := lc_typed (σ := [.val (.tup [.int m, .tup (es.map eD)]), .val (.tup (es.map eD)), .no]) (m := iVal (oVar 1)) (t := tgName 2) (vs := [2]) (te := eFn 2 (callN BB (k + 3) 20) (aCons (eOp atD (oVar 0) (eC (.int 0))) (aCons (eVar 2) aNil))) (h := h) es eD (fun _ => .bl true) (by simp) (by omega) fun x hx => ⟨_, rfl, by simp [f_edge k h (e x hx)]⟩
  have asc := f_asc (k + 2) h (D0 := .tup (es.map eD)) (xs := es.map fun e => [e.1, e.2]) (.inl (by simp)) (by simp; omega) a
  simp [b_21, f_int, e1, key, asc]
theorem f_ckGraph {g : Gra} (o : GrOk g) : callN BB (k + 5) 22 [g.D] h = .ok .non h := by
  rw [u_22]
  simp [b_22, f_graph k h o]
def eTxt (e : Int × Int) : List Nat := strI e.1 ++ 45 :: strI e.2
def grTxt (g : Gra) : List Nat := joinD [32] ((strI g.m ++ [47]) :: g.es.map eTxt)
theorem f_graphText {g : Gra} (o : GrOk g) : callN BB (k + 1) 29 [g.D] h = .ok (.str (grTxt g)) h := by
  obtain ⟨m, es⟩ := g
  obtain ⟨m0, m1, n, e, a⟩ := o
  simp only at m0 m1 n e a
  rw [u_29]
  have hs := small_sm (i := m) (by omega) (by omega)
  have hl := strI_len hs
  have sm : ∀ x ∈ es, Sm x.1 ∧ Sm x.2 := fun x hx => by
    have := e x hx
    exact ⟨small_sm (by omega) (by omega), small_sm (by omega) (by omega)⟩
  have key := lc_typed (σ := [.val (.tup [.int m, .tup (es.map eD)]), .no, .no]) (m := iVal (eOp atD (oVar 0) (eC (.int 1)))) (t := tgTup [(tgName 1), (tgName 2)]) (vs := [1, 2]) (te := eJoined [(eFmt (eVar 1)), (eC (.str [45])), (eFmt (eVar 2))]) (h := h) es eD (fun e => .str (eTxt e)) (by simp) (by omega) fun x hx => ⟨_, rfl, by
    have g1 := strI_len (sm x hx).1
    have g2 := strI_len (sm x hx).2
    have q1 : (strI x.1).length ≤ 16777216 := by omega
    have q2 : (strI x.1).length ≤ 16777215 := by omega
    have q3 : (strI x.1).length + ((strI x.2).length + 1) ≤ 16777216 := by omega
    have q4 : (strI x.1).length + 1 + (strI x.2).length ≤ 16777216 := by omega
    simp [sm_log (sm x hx).1, sm_log (sm x hx).2, q1, q2, q3, q4, eTxt]⟩
  have le : ∀ x ∈ es, (eTxt x).length ≤ 100 := fun x hx => by
    have g1 := strI_len (sm x hx).1
    have g2 := strI_len (sm x hx).2
    unfold eTxt
    simp
    omega
  have e2 : toStrs (.str (strI m ++ [47]) :: es.map fun l => .str (eTxt l)) = some ((strI m ++ [47]) :: es.map eTxt) := by simp [toStrs_map]
  have h5 := parts_le (xs := es) (p := eTxt) (b := 100) le
  have e3 := g_join (h := h) (a := [32]) e2 (by simp at h5 ⊢; omega)
  have e4 : 1 + es.length ≤ 16777216 := by omega
  have e5 : (strI m).length ≤ 16777216 := by omega
  have e6 : (strI m).length ≤ 16777215 := by omega
  simp [b_29, key, e4, e5, e6, tyM, e3, grTxt, sm_log hs]
theorem f_shGraph {g : Gra} (o : GrOk g) : callN BB (k + 6) 38 [g.D] h = .ok (.str (grTxt g)) h := by
  rw [u_38]
  simp [b_38, f_ckGraph k h o, f_graphText (k + 4) h o]
end WP
set_option Elab.async false
set_option linter.all false
set_option maxRecDepth 100000
namespace WP
open PySem PySem.Spec PyProof.Rows L2 WC
variable (k : Nat) (h : Hs)
theorem f_below {v lo hi : Int} (h1 : lo ≤ v) (h2 : v ≤ hi) : callN BB (k + 2) 12 [.int v, .int lo, .int hi] h = .ok (.bl true) h := by
  rw [u_12]
  simp [b_12, f_int, h1, h2]
theorem f_made {w : List Nat} {m : Int} (hm : (w.length : Int) = m) (hl : w.length ≤ 1000) (hw : ∀ c ∈ w, c = 48 ∨ c = 49) : callN BB (k + 1) 2 [.str w, .str [48, 49], .int m] h = .ok (.bl true) h := by
  subst hm
  rw [u_2]
  have key := lc_typed (σ := [.val (.str w), .val (.str [48, 49]), .val (.int w.length), .no]) (m := iVal (oVar 0)) (t := tgName 3) (vs := [3]) (te := eOp gIn (oVar 3) (oVar 1)) (h := h) w (fun c => .str [c]) (fun _ => .bl true) (by simp) (by omega) fun x hx => ⟨_, rfl, by
    have := hw x hx
    simp [gIn, inD, asV, asL, this]⟩
  have e1 : w.length ≤ 16777216 := by omega
  simp [b_2, key, e1]
def red (kept : List Int) (r : Int) : Int := kept.foldl (fun r o => if Builtin.bitXor r o < r then Builtin.bitXor r o else r) r
def indep : List Int → List Int → Bool
  | _, [] => true
  | kept, r :: rest => if red kept r = 0 then false else indep (kept ++ [red kept r]) rest
theorem f_indepGo {x0 : Sl} {body : SM} (hb : body = (sSeq (sForV 1 (tgName 3)
  (sSet 2 (xVal (eCall gMin2 (aCons (oVar 2) (aCons (eOp gXor (oVar 2) (oVar 3)) aNil))))))
  (sSeq (sIf (tB (eOp gEq (oVar 2) (eC (.int 0))))
  (sRet (eC (.bl false)))
  sNil)
  (sAppend 1 (eVar 2))))) : ∀ (ns kept : List Int) (x2 x3 : Sl), (∀ xs, x2 ≠ .lent xs) → (∀ xs, x3 ≠ .lent xs) → indep kept ns = true → kept.length + ns.length ≤ 1000 → ∃ σ', forGo (tgName 2) body (ns.map .int) [x0, .own (kept.map .int), x2, x3] h = .nx σ' h
  | [], kept, x2, x3, _, _, _, _ => ⟨_, rfl⟩
  | r :: ns, kept, x2, x3, n2, n3, hi, hl => by
    have hi2 : ¬ red kept r = 0 ∧ indep (kept ++ [red kept r]) ns = true := by
      unfold indep at hi
      split at hi
      · cases hi
      · exact ⟨by assumption, hi⟩
    have inner : ∃ y3, (∀ xs, y3 ≠ .lent xs) ∧ forGo (tgName 3) (sSet 2 (xVal (eCall gMin2 (aCons (oVar 2) (aCons (eOp gXor (oVar 2) (oVar 3)) aNil))))) (kept.map .int) [x0, .lent (kept.map .int), .val (.int r), x3] h = .nx [x0, .lent (kept.map .int), .val (.int (red kept r)), y3] h := by
      obtain ⟨σ', e, i⟩ := for_pure_of (h := h) (t := tgName 3) (body := sSet 2 (xVal (eCall gMin2 (aCons (oVar 2) (aCons (eOp gXor (oVar 2) (oVar 3)) aNil))))) (σ := [x0, .lent (kept.map .int), .val (.int r), x3]) rfl D.int kept rfl (fun done σ => ∃ y3, (∀ xs, y3 ≠ .lent xs) ∧ σ = [x0, .lent (kept.map .int), .val (.int (red done r)), y3]) ⟨_, n3, rfl⟩ fun done x rest σ e i => by
        obtain ⟨y3, ny, rfl⟩ := i
        have er : red (done ++ [x]) r = if Builtin.bitXor (red done r) x < red done r then Builtin.bitXor (red done r) x else red done r := by unfold red; simp
        refine ⟨[x0, .lent (kept.map .int), .val (.int (red done r)), .val (.int x)], _, ?_, .inl ?_, .val (.int x), by simp, rfl⟩
        · cases y3 <;> simp at ny ⊢
        · rw [er]; simp
      obtain ⟨y3, ny, rfl⟩ := i
      exact ⟨y3, ny, e⟩
    obtain ⟨y3, ny, e⟩ := inner
    have e0 : (red kept r == 0) = false := by simpa using hi2.1
    have el : kept.length < 16777216 := by simp at hl; omega
    obtain ⟨σ', ih⟩ := f_indepGo hb ns (kept ++ [red kept r]) (.val (.int (red kept r))) y3 (by simp) ny hi2.2 (by simp at hl ⊢; omega)
    refine ⟨σ', ?_⟩
    rw [← ih, List.map_cons]
    show (match tgName 2 (.int r) [x0, .own (kept.map .int), x2, x3] with | none => RS.bad | some σ1 => (body σ1 h).loop fun σ2 h2 => forGo (tgName 2) body (ns.map .int) σ2 h2) = _
    have e1 : tgName 2 (.int r) [x0, .own (kept.map .int), x2, x3] = some [x0, .own (kept.map .int), .val (.int r), x3] := by cases x2 <;> simp at n2 ⊢
    rw [e1]
    show (body [x0, .own (kept.map .int), .val (.int r), x3] h).loop _ = _
    have e2 : body [x0, .own (kept.map .int), .val (.int r), x3] h = .nx [x0, .own ((kept ++ [red kept r]).map .int), .val (.int (red kept r)), y3] h := by
      rw [hb]
      have e3 : sForV 1 (tgName 3) (sSet 2 (xVal (eCall gMin2 (aCons (oVar 2) (aCons (eOp gXor (oVar 2) (oVar 3)) aNil))))) [x0, .own (kept.map .int), .val (.int r), x3] h = .nx [x0, .own (kept.map .int), .val (.int (red kept r)), y3] h := by
        show (forGo _ _ (kept.map .int) [x0, .lent (kept.map .int), .val (.int r), x3] h).unl 1 = _
        rw [e]
        rfl
      simp [e3, e0, el]
    rw [e2]
    rfl
theorem f_indep {ns : List Int} (hi : indep [] ns = true) (hl : ns.length ≤ 1000) : callN BB (k + 1) 7 [.lst (ns.map .int)] h = .ok (.bl true) h := by
  rw [u_7]
  obtain ⟨σ', e⟩ := f_indepGo h (x0 := .val (.lst (ns.map .int))) rfl ns [] .no .no (by simp) (by simp) hi (by simpa using hl)
  simp at e
  simp [b_7, e]
end WP
set_option Elab.async false
set_option linter.all false
set_option maxRecDepth 100000
namespace WP
open PySem PySem.Spec PyProof.Rows L2 WC
variable (k : Nat) (h : Hs)
structure Tri where
  i : Int
  j : Int
  c : Int
abbrev Tri.D (t : Tri) : D := .tup [.int t.i, .int t.j, .int t.c]
structure Frm where
  m : Int
  e : Int
  ones : List Int
  twos : List Tri
  threes : List Tri
  rows : List (List Nat)
  word : List Nat
abbrev Frm.D (f : Frm) : D := .tup [.int f.m, .int f.e, .tup (f.ones.map .int), .tup (f.twos.map Tri.D), .tup (f.threes.map Tri.D), .tup (f.rows.map .str), .str f.word]
structure FrmOk (f : Frm) : Prop where
  m0 : 1 ≤ f.m
  m1 : f.m ≤ 5
  e0 : 0 ≤ f.e
  e1 : f.e ≤ 7
  on : (f.ones.length : Int) = f.m
  o : ∀ x ∈ f.ones, 0 ≤ x ∧ x ≤ 7
  tn : f.twos.length ≤ 100
  t : ∀ x ∈ f.twos, 0 ≤ x.i ∧ x.i < x.j ∧ x.j < f.m ∧ 1 ≤ x.c ∧ x.c ≤ 3
  ta : Asc (f.twos.map fun x => [x.i, x.j])
  hn : f.threes.length ≤ 100
  h : ∀ x ∈ f.threes, 0 ≤ x.i ∧ x.i < x.j ∧ x.j < x.c ∧ x.c < f.m
  ha : Asc (f.threes.map fun x => [x.i, x.j, x.c])
  rn : (f.rows.length : Int) = f.m
  r : ∀ x ∈ f.rows, (x.length : Int) = f.m ∧ ∀ c ∈ x, c = 48 ∨ c = 49
  ri : indep [] (f.rows.map fun x => (Bn.num2 x : Int)) = true
  wn : (f.word.length : Int) = f.m
  w : ∀ c ∈ f.word, c = 48 ∨ c = 49
theorem f_twos {f : Frm} (o : FrmOk f) : callN BB (k + 3) 13 [.int f.m, .tup (f.twos.map Tri.D)] h = .ok (.bl true) h := by
  obtain ⟨m, e, ones, twos, threes, rows, word⟩ := f
  have tn := o.tn
  have t := o.t
  have ta := o.ta
  simp only at tn t ta
  rw [u_13]
  have h1 := lc_typed (σ := [.val (.int m), .val (.tup (twos.map Tri.D)), .no, .no, .no, .no]) (m := iVal (oVar 1)) (t := tgName 2) (vs := [2]) (te := eAnd (eIsI [.tuple] (oVar 2)) (eOp gEq (eCall gLen (aCons (oVar 2) aNil)) (eC (.int 3)))) (h := h) twos Tri.D (fun _ => .bl true) (by simp) (by omega) fun x hx => ⟨_, rfl, by simp⟩
  have h2 := lc_typed (σ := [.val (.int m), .val (.tup (twos.map Tri.D)), .no, .no, .no, .no]) (m := iVal (oVar 1)) (t := tgTup [(tgName 3), (tgName 4), (tgName 5)]) (vs := [3, 4, 5]) (te := (eAnd (eFn 1 (callN BB (k + 2) 1) (aCons (eVar 3) aNil)) (eAnd (eFn 3 (callN BB (k + 2) 12) (aCons (eVar 4) (aCons (eOp gAdd (oVar 3) (eC (.int 1))) (aCons (eOp gSub (oVar 0) (eC (.int 1))) aNil)))) (eFn 3 (callN BB (k + 2) 12) (aCons (eVar 5) (aCons (eC (.int 1)) (aCons (eC (.int 3)) aNil))))))) (h := h) twos Tri.D (fun _ => .bl true) (by simp) (by omega) fun x hx => ⟨_, rfl, by
    obtain ⟨x0, x1, x2, x3, x4⟩ := t x hx
    simp [f_nat, f_below k h (show x.i + 1 ≤ x.j by omega) (show x.j ≤ m - 1 by omega), f_below k h x3 x4, x0]⟩
  have h3 := lc_typed (σ := [.val (.int m), .val (.tup (twos.map Tri.D)), .no, .no, .no, .no]) (m := iVal (oVar 1)) (t := tgName 2) (vs := [2]) (te := eSlice (oVar 2) oNone (oSome (eC (.int 2)))) (h := h) twos Tri.D (fun x => tI [x.i, x.j]) (by simp) (by omega) fun x hx => ⟨_, rfl, by simp⟩
  have h4 := f_asc (k + 1) h (D0 := .lst (twos.map fun x => tI [x.i, x.j])) (xs := twos.map fun x => [x.i, x.j]) (.inr (by simp)) (by simp; omega) ta
  simp [b_13, h1, h2, h3, h4]
theorem f_threes {f : Frm} (o : FrmOk f) : callN BB (k + 3) 14 [.int f.m, .tup (f.threes.map Tri.D)] h = .ok (.bl true) h := by
  obtain ⟨m, e, ones, twos, threes, rows, word⟩ := f
  have tn := o.hn
  have t := o.h
  have ta := o.ha
  simp only at tn t ta
  rw [u_14]
  have h1 := lc_typed (σ := [.val (.int m), .val (.tup (threes.map Tri.D)), .no, .no, .no, .no]) (m := iVal (oVar 1)) (t := tgName 5) (vs := [5]) (te := eAnd (eIsI [.tuple] (oVar 5)) (eOp gEq (eCall gLen (aCons (oVar 5) aNil)) (eC (.int 3)))) (h := h) threes Tri.D (fun _ => .bl true) (by simp) (by omega) fun x hx => ⟨_, rfl, by simp⟩
  have h2 := lc_typed (σ := [.val (.int m), .val (.tup (threes.map Tri.D)), .no, .no, .no, .no]) (m := iVal (oVar 1)) (t := tgTup [(tgName 2), (tgName 3), (tgName 4)]) (vs := [2, 3, 4]) (te := (eAnd (eFn 1 (callN BB (k + 2) 1) (aCons (eVar 2) aNil)) (eAnd (eFn 1 (callN BB (k + 2) 1) (aCons (eVar 3) aNil)) (eAnd (eOp gLt (oVar 2) (oVar 3)) (eFn 3 (callN BB (k + 2) 12) (aCons (eVar 4) (aCons (eOp gAdd (oVar 3) (eC (.int 1))) (aCons (eOp gSub (oVar 0) (eC (.int 1))) aNil)))))))) (h := h) threes Tri.D (fun _ => .bl true) (by simp) (by omega) fun x hx => ⟨_, rfl, by
    obtain ⟨x0, x1, x2, x3⟩ := t x hx
    have x4 : 0 ≤ x.j := by omega
    simp [f_nat, f_below k h (show x.j + 1 ≤ x.c by omega) (show x.c ≤ m - 1 by omega), x0, x1, x4]⟩
  have h4 := f_asc (k + 1) h (D0 := .tup (threes.map Tri.D)) (xs := threes.map fun x => [x.i, x.j, x.c]) (.inl (by simp)) (by simp; omega) ta
  simp [b_14, h1, h2, h4]
theorem f_rows {f : Frm} (o : FrmOk f) : callN BB (k + 2) 15 [.int f.m, .tup (f.rows.map .str)] h = .ok (.bl true) h := by
  obtain ⟨m, e, ones, twos, threes, rows, word⟩ := f
  have rn := o.rn
  have r := o.r
  have ri := o.ri
  have m0 := o.m0
  have m1 := o.m1
  simp only at rn r ri m0 m1
  rw [u_15]
  have h1 := lc_typed (σ := [.val (.int m), .val (.tup (rows.map .str)), .no]) (m := iVal (oVar 1)) (t := tgName 2) (vs := [2]) (te := eFn 3 (callN BB (k + 1) 2) (aCons (eVar 2) (aCons (eC (.str [48, 49])) (aCons (eVar 0) aNil)))) (h := h) rows D.str (fun _ => .bl true) (by simp) (by omega) fun x hx => ⟨_, rfl, by
    simp [f_made k h (r x hx).1 (by have := (r x hx).1; omega) (r x hx).2]⟩
  have h2 := lc_typed (σ := [.val (.int m), .val (.tup (rows.map .str)), .no]) (m := iVal (oVar 1)) (t := tgName 2) (vs := [2]) (te := eCall gIntA (aCons (oVar 2) (aCons (eC (.int 2)) aNil))) (h := h) rows D.str (fun x => .int (Bn.num2 x)) (by simp) (by omega) fun x hx => ⟨_, rfl, by
    have e1 := (r x hx).1
    have e2 : x.length ≤ 640 ∧ x ≠ [] ∧ ∀ c ∈ x, Bn.Is2 c := ⟨by omega, by intro z; rw [z] at e1; simp at e1; omega, (r x hx).2⟩
    have e3 : gIntA h [.str x, .int 2] = some (.int (Bn.num2 x)) := by
      show (none.or none).or (gInt2 h [.str x, .int 2]) = _
      show gInt2 h [.str x, .int 2] = _
      exact if_pos e2
    simp [e3]⟩
  have h3 : callN BB (k + 1) 7 [.lst (rows.map fun x => .int (Bn.num2 x))] h = .ok (.bl true) h := by
    have := f_indep k h (ns := rows.map fun x => (Bn.num2 x : Int)) ri (by simp; omega)
    rw [List.map_map] at this
    exact this
  have e4 : ((rows.length : Int) == m) = true := by simp [rn]
  simp [b_15, h1, h2, h3, e4]
theorem f_form {f : Frm} (o : FrmOk f) : callN BB (k + 4) 16 [f.D] h = .ok (.bl true) h := by
  have q1 := f_twos k h o
  have q2 := f_threes k h o
  have q3 := f_rows (k + 1) h o
  have q4 := f_made (k + 2) h o.wn (by have := o.wn; have := o.m1; omega) o.w
  have q5 := f_below (k + 1) h o.e0 o.e1
  obtain ⟨m, e, ones, twos, threes, rows, word⟩ := f
  have on := o.on
  have oo := o.o
  have m0 := o.m0
  have m1 := o.m1
  simp only at q1 q2 q3 q4 q5 on oo m0 m1
  rw [u_16]
  have h1 := lc_typed (σ := [.val (Frm.D ⟨m, e, ones, twos, threes, rows, word⟩), .val (.int m), .val (.int e), .val (.tup (ones.map .int)), .val (.tup (twos.map Tri.D)), .val (.tup (threes.map Tri.D)), .val (.tup (rows.map .str)), .val (.str word), .no]) (m := iVal (oVar 3)) (t := tgName 8) (vs := [8]) (te := eFn 3 (callN BB (k + 3) 12) (aCons (eVar 8) (aCons (eC (.int 0)) (aCons (eC (.int 7)) aNil)))) (h := h) ones D.int (fun _ => .bl true) (by simp) (by omega) fun x hx => ⟨_, rfl, by
    simp [f_below (k + 1) h (oo x hx).1 (oo x hx).2]⟩
  have e1 : ¬ m < 1 := by omega
  have e2 : ((ones.length : Int) == m) = true := by simp [on]
  simp [b_16, f_int, e1, e2, q1, q2, q3, q4, q5, h1]
theorem f_ckForm {f : Frm} (o : FrmOk f) : callN BB (k + 5) 17 [f.D] h = .ok .non h := by
  rw [u_17]
  simp [b_17, f_form k h o]
end WP
set_option Elab.async false
set_option linter.all false
set_option maxRecDepth 100000
namespace WP
open PySem PySem.Spec PyProof.Rows L2 WC
variable (k : Nat) (h : Hs)
theorem depDs_str {α : Type} (xs : List α) (p : α → List Nat) : depDs (xs.map fun x => .str (p x)) = some 0 := by
  induction xs with
  | nil => rfl
  | cons x xs ih => rw [List.map_cons]; unfold depDs; rw [ih]; rfl
theorem eqOk_strs {α : Type} (xs : List α) (p : α → List Nat) : eqOk (.lst (xs.map fun x => .str (p x))) = true := by
  unfold eqOk depD
  rw [depDs_str]
  rfl
theorem ne_nil {α : Type} (xs : List α) (p : α → List Nat) : gNe h (.lst (xs.map fun x => .str (p x))) (.lst []) = some (.bl (!xs.isEmpty)) := by
  show (if eqOk (.lst (xs.map fun x => .str (p x))) && eqOk (.lst []) then some (D.bl (!pyEq (.lst (xs.map fun x => .str (p x))) (.lst []))) else none) = _
  rw [eqOk_strs]
  cases xs with
  | nil => rfl
  | cons x xs => rfl
def lsted (ps : List (List Nat)) : List Nat := if ps.isEmpty then [110, 111, 110, 101] else joinD [44] ps
theorem f_listed {α : Type} (xs : List α) (p : α → List Nat) (hp : ∀ x ∈ xs, (p x).length ≤ 1000) (hl : xs.length ≤ 1000) : callN BB (k + 1) 30 [.lst (xs.map fun x => .str (p x))] h = .ok (.str (lsted (xs.map p))) h := by
  rw [u_30]
  have e := g_joinM (h := h) (a := [44]) (xs := xs) (p := p) 1000 hp (by simp; omega)
  simp [b_30, ne_nil, tyM, e, lsted]
  cases xs <;> simp
theorem f_listedL {α : Type} (xs : List α) (p : α → List Nat) (hp : ∀ x ∈ xs, (p x).length ≤ 1000) (hl : xs.length ≤ 1000) : callN BB (k + 1) 47 [.lst (xs.map fun x => .str (p x))] h = .ok (.str (lsted (xs.map p))) h := by
  rw [u_47]
  have e := g_joinM (h := h) (a := [44]) (xs := xs) (p := p) 1000 hp (by simp; omega)
  simp [b_47, ne_nil, tyM, e, lsted]
  cases xs <;> simp
theorem lsted_le {α : Type} (xs : List α) (p : α → List Nat) (hp : ∀ x ∈ xs, (p x).length ≤ 1000) (hl : xs.length ≤ 1000) : (lsted (xs.map p)).length ≤ 1002000 := by
  have h1 := join_le [44] (xs.map p)
  have h2 := parts_le (xs := xs) (p := p) hp
  unfold lsted
  split
  · decide
  · simp at h1 h2 ⊢; omega
def t2Txt (x : Tri) : List Nat := strI x.i ++ 45 :: (strI x.j ++ 42 :: strI x.c)
def t3Txt (x : Tri) : List Nat := strI x.i ++ 45 :: (strI x.j ++ 45 :: strI x.c)
def fParts (f : Frm) : List (List Nat) := [strI f.m, strI f.e, joinD [44] (f.ones.map strI), lsted (f.twos.map t2Txt), lsted (f.threes.map t3Txt), joinD [44] f.rows, f.word]
def fTxt (f : Frm) : List Nat := joinD [59, 32] (fParts f)
def TriSm (x : Tri) : Prop := Sm x.i ∧ Sm x.j ∧ Sm x.c
theorem t2_le {x : Tri} (s : TriSm x) : (t2Txt x).length ≤ 1000 := by
  have := strI_len s.1
  have := strI_len s.2.1
  have := strI_len s.2.2
  unfold t2Txt
  simp
  omega
theorem t3_le {x : Tri} (s : TriSm x) : (t3Txt x).length ≤ 1000 := by
  have := strI_len s.1
  have := strI_len s.2.1
  have := strI_len s.2.2
  unfold t3Txt
  simp
  omega
theorem FrmOk.sm2 {f : Frm} (o : FrmOk f) : ∀ x ∈ f.twos, TriSm x := fun x hx => by
  have := o.t x hx
  have := o.m1
  exact ⟨small_sm (by omega) (by omega), small_sm (by omega) (by omega), small_sm (by omega) (by omega)⟩
theorem FrmOk.sm3 {f : Frm} (o : FrmOk f) : ∀ x ∈ f.threes, TriSm x := fun x hx => by
  have := o.h x hx
  have := o.m1
  exact ⟨small_sm (by omega) (by omega), small_sm (by omega) (by omega), small_sm (by omega) (by omega)⟩
theorem FrmOk.smo {f : Frm} (o : FrmOk f) : ∀ x ∈ f.ones, Sm x := fun x hx => by
  have := o.o x hx
  exact small_sm (by omega) (by omega)
structure FLen (f : Frm) : Prop where
  a : (strI f.m).length ≤ 41
  b : (strI f.e).length ≤ 41
  c : (joinD [44] (f.ones.map strI)).length ≤ 1000
  d : (lsted (f.twos.map t2Txt)).length ≤ 1002000
  e : (lsted (f.threes.map t3Txt)).length ≤ 1002000
  g : (joinD [44] f.rows).length ≤ 1000
  w : f.word.length ≤ 5
  ob : ((f.ones.map strI).map (·.length)).sum ≤ 205
  on : f.ones.length ≤ 5
  rb : (f.rows.map (·.length)).sum ≤ 25
  rn : f.rows.length ≤ 5
theorem FrmOk.len {f : Frm} (o : FrmOk f) : FLen f := by
  have m0 := o.m0
  have m1 := o.m1
  have on := o.on
  have rn := o.rn
  have wn := o.wn
  have e0 := o.e0
  have e1 := o.e1
  have on5 : f.ones.length ≤ 5 := by omega
  have rn5 : f.rows.length ≤ 5 := by omega
  have h1 := parts_le (xs := f.ones) (p := strI) (b := 41) fun x hx => strI_len (o.smo x hx)
  have h2 := parts_le (xs := f.rows) (p := id) (b := 5) fun x hx => by have := (o.r x hx).1; show x.length ≤ 5; omega
  have h3 := join_le [44] (f.ones.map strI)
  have h4 := join_le [44] f.rows
  rw [List.map_id] at h2
  simp only [List.length_map, List.length_cons, List.length_nil] at h3 h4
  refine ⟨strI_len (small_sm (by omega) (by omega)), strI_len (small_sm (by omega) (by omega)), by omega, lsted_le _ _ (fun x hx => t2_le (o.sm2 x hx)) (by have := o.tn; omega), lsted_le _ _ (fun x hx => t3_le (o.sm3 x hx)) (by have := o.hn; omega), by omega, by omega, by omega, on5, by omega, rn5⟩
theorem f_formText {f : Frm} (o : FrmOk f) : callN BB (k + 2) 31 [f.D] h = .ok (.str (fTxt f)) h := by
  have L := o.len
  have s2 := o.sm2
  have s3 := o.sm3
  have so := o.smo
  have sm := sm_log (small_sm (i := f.m) (by have := o.m0; omega) (by have := o.m1; omega))
  have se := sm_log (small_sm (i := f.e) (by have := o.e0; omega) (by have := o.e1; omega))
  have tn := o.tn
  have hn := o.hn
  obtain ⟨m, e, ones, twos, threes, rows, word⟩ := f
  obtain ⟨La, Lb, Lc, Ld, Le, Lg, Lw, Lob, Lon, Lrb, Lrn⟩ := L
  simp only at s2 s3 so sm se tn hn La Lb Lc Ld Le Lg Lw Lob Lon Lrb Lrn
  rw [u_31]
  have h1 := lc_typed (σ := [.val (Frm.D ⟨m, e, ones, twos, threes, rows, word⟩), .val (.int m), .val (.int e), .val (.tup (ones.map .int)), .val (.tup (twos.map Tri.D)), .val (.tup (threes.map Tri.D)), .val (.tup (rows.map .str)), .val (.str word), .no, .no, .no, .no, .no, .no]) (m := iVal (oVar 3)) (t := tgName 9) (vs := [9]) (te := eCall gStrI (aCons (oVar 9) aNil)) (h := h) ones D.int (fun x => .str (strI x)) (by simp) (by omega) fun x hx => ⟨_, rfl, by simp [sm_log (so x hx)]⟩
  have h2 := fun s8 => lc_typed (σ := [.val (Frm.D ⟨m, e, ones, twos, threes, rows, word⟩), .val (.int m), .val (.int e), .val (.tup (ones.map .int)), .val (.tup (twos.map Tri.D)), .val (.tup (threes.map Tri.D)), .val (.tup (rows.map .str)), .val (.str word), .own s8, .no, .no, .no, .no, .no]) (m := iVal (oVar 4)) (t := tgTup [(tgName 10), (tgName 11), (tgName 12)]) (vs := [10, 11, 12]) (te := eJoined [(eFmt (eVar 10)), (eC (.str [45])), (eFmt (eVar 11)), (eC (.str [42])), (eFmt (eVar 12))]) (h := h) twos Tri.D (fun x => .str (t2Txt x)) (by simp) (by omega) fun x hx => ⟨_, rfl, by
    have g1 := strI_len (s2 x hx).1
    have g2 := strI_len (s2 x hx).2.1
    have g3 := strI_len (s2 x hx).2.2
    have q := sm_log (s2 x hx).1
    have q' := sm_log (s2 x hx).2.1
    have q'' := sm_log (s2 x hx).2.2
    simp [q, q', q'', t2Txt]
    simp (disch := omega) [if_pos]⟩
  have h3 := fun s8 => lc_typed (σ := [.val (Frm.D ⟨m, e, ones, twos, threes, rows, word⟩), .val (.int m), .val (.int e), .val (.tup (ones.map .int)), .val (.tup (twos.map Tri.D)), .val (.tup (threes.map Tri.D)), .val (.tup (rows.map .str)), .val (.str word), .own s8, .no, .no, .no, .no, .no]) (m := iVal (oVar 5)) (t := tgTup [(tgName 10), (tgName 11), (tgName 13)]) (vs := [10, 11, 13]) (te := eJoined [(eFmt (eVar 10)), (eC (.str [45])), (eFmt (eVar 11)), (eC (.str [45])), (eFmt (eVar 13))]) (h := h) threes Tri.D (fun x => .str (t3Txt x)) (by simp) (by omega) fun x hx => ⟨_, rfl, by
    have g1 := strI_len (s3 x hx).1
    have g2 := strI_len (s3 x hx).2.1
    have g3 := strI_len (s3 x hx).2.2
    have q := sm_log (s3 x hx).1
    have q' := sm_log (s3 x hx).2.1
    have q'' := sm_log (s3 x hx).2.2
    simp [q, q', q'', t3Txt]
    simp (disch := omega) [if_pos]⟩
  have j1 := g_join (h := h) (a := [44]) (toStrs_map ones strI) (by simp at Lob ⊢; omega)
  have j2 := g_joinT (h := h) (a := [44]) (ys := rows.map .str) (ps := rows) (by have := toStrs_map rows id; rw [List.map_id] at this; exact this) (by simp; omega)
  have l1 := f_listed k h twos t2Txt (fun x hx => t2_le (s2 x hx)) (by omega)
  have l2 := f_listed k h threes t3Txt (fun x hx => t3_le (s3 x hx)) (by omega)
  have j3 : gJoin h (.str [59, 32]) [.lst [.str (strI m), .str (strI e), .str (joinD [44] (ones.map strI)), .str (lsted (twos.map t2Txt)), .str (lsted (threes.map t3Txt)), .str (joinD [44] rows), .str word]] = some (.str (joinD [59, 32] [strI m, strI e, joinD [44] (ones.map strI), lsted (twos.map t2Txt), lsted (threes.map t3Txt), joinD [44] rows, word])) := g_join rfl (by simp; omega)
  simp [b_31, h1, h2, h3, j1, j2, j3, l1, l2, tyM, sm, se, fTxt, fParts]
theorem f_shForm {f : Frm} (o : FrmOk f) : callN BB (k + 6) 39 [f.D] h = .ok (.str (fTxt f)) h := by
  rw [u_39]
  simp [b_39, f_ckForm k h o, f_formText (k + 3) h o]
end WP
set_option Elab.async false
set_option linter.all false
set_option maxRecDepth 100000
namespace WP
open PySem PySem.Spec PyProof.Rows L2 WC
variable (k : Nat) {T : Hs} {n : Nat} {s : WC.St}
theorem f_draw {m : Int} (o : s.Ok (n + 1)) (h1 : 1 ≤ m) (h2 : m < 2 ^ 200) : ∃ (r : Int) (s' : WC.St), callN BB (k + 1) 40 [.ref 0, .int m] (s.ob :: T) = .ok (.int r) (s'.ob :: T) ∧ 0 ≤ r ∧ r < m ∧ s'.Ok n := draw_ok o h1 h2
theorem p10 {h : Hs} {j : Nat} (hj : j ≤ 1000) : gPow h (.int 10) (.int j) = some (.int (10 ^ j)) := by
  show (if cPow 10 j then some (D.int (10 ^ (j : Int).toNat)) else none) = _
  rw [if_pos]
  · rfl
  · unfold cPow
    simp
    omega
theorem p10_9 {h : Hs} : gPow h (.int 10) (.int 9) = some (.int 1000000000) := p10 (j := 9) (by decide)
theorem p10_30 {h : Hs} : gPow h (.int 10) (.int 30) = some (.int 1000000000000000000000000000000) := p10 (j := 30) (by decide)
theorem f_lawNum {most : Int} (h0 : 0 ≤ most) (h1 : most ≤ 100) (o : s.Ok (n + 10)) : ∃ (x : Num) (s' : WC.St), callN BB (k + 2) 46 [.ref 0, .int most] (s.ob :: T) = .ok x.D (s'.ob :: T) ∧ x.Ok ∧ s'.Ok n := by
  rw [u_46]
  obtain ⟨r1, s1, e1, a1, b1, o1⟩ := f_draw k (T := T) (n := n + 9) (m := 4) o (by decide) (by decide)
  obtain ⟨size, es, z1, z2⟩ : ∃ size : Int, atI [D.int 3, .int 20, .int 1000000000, .int 999999999999999999999999999999] r1 = some (.int size) ∧ 1 ≤ size ∧ size < 10 ^ 30 := by
    have : r1 = 0 ∨ r1 = 1 ∨ r1 = 2 ∨ r1 = 3 := by omega
    rcases this with rfl | rfl | rfl | rfl
    · exact ⟨3, by simp, by decide, by decide⟩
    · exact ⟨20, by simp, by decide, by decide⟩
    · exact ⟨1000000000, by simp, by decide, by decide⟩
    · exact ⟨999999999999999999999999999999, by simp, by decide, by decide⟩
  simp [b_46, e1, es, p10_9, p10_30]
  generalize hr : forGo _ _ _ _ _ = r
  obtain ⟨σ', s2, rfl, i, o2⟩ := for_draw_of hr (fun i : Nat => .int (0 + i)) (List.range 4) (by simp [rangeD]) (fun done σ => ∃ (rs : List Int) (x4 : Sl), σ = [.val (.ref 0), .val (.int most), .val (.int size), .own (rs.map .int), x4, .no] ∧ (∀ xs, x4 ≠ .lent xs) ∧ rs.length = done.length ∧ ∀ y ∈ rs, y.natAbs < 10 ^ 30) ⟨[], .no, rfl, by simp, rfl, by simp⟩ 2 (n + 1) (by simp; exact o1) (fun done x rest σ n s e i o => by
    obtain ⟨rs, x4, rfl, nx, hl, hb⟩ := i
    have hd : done.length ≤ 4 := by
      have := congrArg List.length e
      simp at this
      omega
    obtain ⟨q1, t1, f1, qa, qb, p1⟩ := f_draw k (T := T) (n := n + 1) (m := 2) o (by decide) (by decide)
    obtain ⟨q2, t2, f2, qc, qd, p2⟩ := f_draw k (T := T) (n := n) (m := size) p1 z1 (Int.lt_of_lt_of_le z2 (by decide))
    have m1 : cMul 2 q1 = true := cMul_l (by decide)
    have m2 : cMul (1 - 2 * q1) q2 = true := cMul_l (by omega)
    have el : rs.length < 16777216 := by omega
    refine ⟨[.val (.ref 0), .val (.int most), .val (.int size), .own (rs.map .int), .val (.int (0 + x)), .no], _, t2, ?_, .inl ?_, ⟨rs ++ [(1 - 2 * q1) * q2], .val (.int (0 + x)), rfl, by simp, by simp [hl], ?_⟩, p2⟩
    · cases x4 <;> simp at nx ⊢
    · simp [f1, f2, g_mulOk m1, g_mulOk m2, el]
    · intro y hy
      rcases List.mem_append.mp hy with hy | hy
      · exact hb y hy
      · have : y = (1 - 2 * q1) * q2 := by simpa using hy
        subst this
        have : q1 = 0 ∨ q1 = 1 := by omega
        rcases this with rfl | rfl
        · simp; omega
        · simp; omega)
  obtain ⟨rs, x4, rfl, nx, hl, hb⟩ := i
  obtain ⟨a, b, c, d, rfl⟩ : ∃ a b c d, rs = [a, b, c, d] := by
    match rs, hl with
    | [a, b, c, d], _ => exact ⟨a, b, c, d, rfl⟩
  have ba := hb a (by simp)
  have bb := hb b (by simp)
  have bc := hb c (by simp)
  have bd := hb d (by simp)
  obtain ⟨r3, s3, e3, a3, b3, o3⟩ := f_draw k (T := T) (n := n) (m := 4) o2 (by decide) (by decide)
  obtain ⟨kk, ek, k0, k1⟩ : ∃ kk : Int, atI [D.int 0, .int 1, .int 2, .int most] r3 = some (.int kk) ∧ 0 ≤ kk ∧ kk ≤ 100 := by
    have : r3 = 0 ∨ r3 = 1 ∨ r3 = 2 ∨ r3 = 3 := by omega
    rcases this with rfl | rfl | rfl | rfl
    · exact ⟨0, by simp, by decide, by decide⟩
    · exact ⟨1, by simp, by decide, by decide⟩
    · exact ⟨2, by simp, by decide, by decide⟩
    · exact ⟨most, by simp, h0, h1⟩
  have m2 := @g_mod (St.ob s3 :: T)
  have sm : ∀ z : Int, z.natAbs < 10 ^ 30 → Sm z := fun z hz => by show z.natAbs < 10 ^ 40; omega
  by_cases hc : 0 < kk ∧ (a - c) % 2 = 0 ∧ (b - d) % 2 = 0
  · refine ⟨⟨a + 1, b, c, d, kk⟩, s3, ?_, ⟨by show (a + 1).natAbs < 10 ^ 40; omega, sm b bb, sm c bc, sm d bd, by show kk.natAbs < 10 ^ 40; omega, k0, .inr (.inl (by show (a + 1 - c) % 2 ≠ 0; omega))⟩, o3⟩
    simp [e3, ek, hc, g_mod]
  · refine ⟨⟨a, b, c, d, kk⟩, s3, ?_, ⟨sm a ba, sm b bb, sm c bc, sm d bd, by show kk.natAbs < 10 ^ 40; omega, k0, ?_⟩, o3⟩
    · by_cases q1 : 0 < kk
      · by_cases q2 : (a - c) % 2 = 0
        · have q3 : ((b - d) % 2 == 0) = false := by simpa using fun z => hc ⟨q1, q2, z⟩
          simp [e3, ek, q1, q2, q3, g_mod]
        · have q3 : ((a - c) % 2 == 0) = false := by simpa using q2
          simp [e3, ek, q1, q3, g_mod]
      · simp [e3, ek, q1, g_mod]
    · show kk = 0 ∨ (a - c) % 2 ≠ 0 ∨ (b - d) % 2 ≠ 0
      by_cases q1 : 0 < kk
      · by_cases q2 : (a - c) % 2 = 0
        · exact .inr (.inr fun z => hc ⟨q1, q2, z⟩)
        · exact .inr (.inl q2)
      · exact .inl (by omega)
end WP
set_option Elab.async false
set_option linter.all false
set_option maxRecDepth 100000
namespace WP
open PySem PySem.Spec PyProof.Rows L2 WC
variable (k : Nat) {T : Hs} {n : Nat} {s : WC.St}
def onesN : List (List Nat) := [[104], [115], [115, 100], [116], [116, 100], [120], [121], [122]]
def twosN : List (List Nat) := [[99, 120], [99, 122], [115, 119, 97, 112]]
abbrev namesD : D := .lst [.str [104], .str [115], .str [115, 100], .str [116], .str [116, 100], .str [120], .str [121], .str [122], .str [99, 120], .str [99, 122], .str [115, 119, 97, 112], .str [119]]
theorem name_at {r : Int} (h0 : 0 ≤ r) (h1 : r < 12) {h : Hs} : ∃ nm, atD h namesD (.int r) = some (.str nm) ∧ (nm = [119] ∨ nm ∈ onesN ∨ nm ∈ twosN) := by
  have : r = 0 ∨ r = 1 ∨ r = 2 ∨ r = 3 ∨ r = 4 ∨ r = 5 ∨ r = 6 ∨ r = 7 ∨ r = 8 ∨ r = 9 ∨ r = 10 ∨ r = 11 := by omega
  rcases this with rfl | rfl | rfl | rfl | rfl | rfl | rfl | rfl | rfl | rfl | rfl | rfl
  all_goals exact ⟨_, rfl, by decide⟩
theorem notin_one {nm : List Nat} (e : nm ∈ onesN) {h : Hs} : gNotIn h (.str nm) (.tup [.str [99, 120], .str [99, 122], .str [115, 119, 97, 112]]) = some (.bl true) ∧ (nm == [119]) = false := by
  simp [onesN] at e
  rcases e with rfl | rfl | rfl | rfl | rfl | rfl | rfl | rfl <;> exact ⟨rfl, rfl⟩
theorem notin_two {nm : List Nat} (e : nm ∈ twosN) {h : Hs} : gNotIn h (.str nm) (.tup [.str [99, 120], .str [99, 122], .str [115, 119, 97, 112]]) = some (.bl false) ∧ (nm == [119]) = false := by
  simp [twosN] at e
  rcases e with rfl | rfl | rfl <;> exact ⟨rfl, rfl⟩
theorem f_lawGates {m : Int} (m0 : 1 ≤ m) (m1 : m ≤ 5) (o : s.Ok (n + 30)) : ∃ (gs : List Gate) (s' : WC.St), callN BB (k + 2) 42 [.ref 0, .int m, .int 9, namesD] (s.ob :: T) = .ok (.tup (gs.map Gate.D)) (s'.ob :: T) ∧ gs.length ≤ 9 ∧ (∀ g ∈ gs, GOk m g) ∧ s'.Ok n := by
  rw [u_42]
  obtain ⟨r1, s1, e1, a1, b1, o1⟩ := f_draw k (T := T) (n := n + 29) (m := 10) o (by decide) (by decide)
  have c1 : r1 < 4611686018427387904 := by omega
  have c2 : -4611686018427387904 ≤ r1 := by omega
  simp [b_42, e1, c1, c2]
  generalize hr : forGo _ _ _ _ _ = r
  obtain ⟨σ', s2, rfl, i, o2⟩ := for_draw_of hr (fun i : Nat => .int (0 + i)) (List.range r1.toNat) (by simp [rangeD]) (fun done σ => ∃ (gs : List Gate) (x5 x6 x7 : Sl), σ = [.val (.ref 0), .val (.int m), .val (.int 9), .val namesD, .own (gs.map Gate.D), x5, x6, x7] ∧ (∀ xs, x5 ≠ .lent xs) ∧ (∀ xs, x6 ≠ .lent xs) ∧ (∀ xs, x7 ≠ .lent xs) ∧ gs.length ≤ done.length ∧ ∀ g ∈ gs, GOk m g) ⟨[], .no, .no, .no, rfl, by simp, by simp, by simp, by simp, by simp⟩ 3 n (by refine o1.mono ?_; simp; omega) (fun done x rest σ n s e i o => by
    obtain ⟨gs, x5, x6, x7, rfl, n5, n6, n7, hl, hb⟩ := i
    have hd : done.length ≤ 10 := by
      have := congrArg List.length e
      simp at this
      omega
    obtain ⟨q1, t1, f1, qa, qb, p1⟩ := f_draw k (T := T) (n := n + 2) (m := 12) o (by decide) (by decide)
    obtain ⟨q2, t2, f2, qc, qd, p2⟩ := f_draw k (T := T) (n := n + 1) (m := m) p1 m0 (Int.lt_of_le_of_lt m1 (by decide))
    obtain ⟨nm, en, cs⟩ := name_at qa qb (h := St.ob t1 :: T)
    have el : gs.length < 16777216 := by omega
    have et : ∀ (x5 : Sl), tgName 5 (.int (0 + x)) [.val (.ref 0), .val (.int m), .val (.int 9), .val namesD, .own (gs.map Gate.D), x5, x6, x7] = (match x5 with | .lent _ => none | _ => some [.val (.ref 0), .val (.int m), .val (.int 9), .val namesD, .own (gs.map Gate.D), .val (.int (0 + x)), x6, x7]) := fun x5 => by cases x5 <;> rfl
    have e6 : ∀ (y5 s : Sl), setS [.val (.ref 0), .val (.int m), .val (.int 9), .val namesD, .own (gs.map Gate.D), y5, x6, x7] 6 s = some [.val (.ref 0), .val (.int m), .val (.int 9), .val namesD, .own (gs.map Gate.D), y5, s, x7] := fun y5 s => by cases x6 <;> simp at n6 ⊢
    have e7 : ∀ (y5 y6 s : Sl), setS [.val (.ref 0), .val (.int m), .val (.int 9), .val namesD, .own (gs.map Gate.D), y5, y6, x7] 7 s = some [.val (.ref 0), .val (.int m), .val (.int 9), .val namesD, .own (gs.map Gate.D), y5, y6, s] := fun y5 y6 s => by cases x7 <;> simp at n7 ⊢
    have ok1 : tgName 5 (.int (0 + x)) [.val (.ref 0), .val (.int m), .val (.int 9), .val namesD, .own (gs.map Gate.D), x5, x6, x7] = some [.val (.ref 0), .val (.int m), .val (.int 9), .val namesD, .own (gs.map Gate.D), .val (.int (0 + x)), x6, x7] := by rw [et]; cases x5 <;> simp at n5 ⊢
    simp only [e_setS] at e6 e7
    rcases cs with rfl | cs | cs
    · refine ⟨_, [.val (.ref 0), .val (.int m), .val (.int 9), .val namesD, .own ((gs ++ [Gate.mk [119] []]).map Gate.D), .val (.int (0 + x)), .val (.str [119]), .val (.int q2)], t2, ok1, .inl ?_, ⟨_, _, _, _, rfl, by simp, by simp, by simp, by simp; omega, ?_⟩, p2.mono (by omega)⟩
      · simp [f1, f2, en, e6, e7, el]
      · intro g hg
        rcases List.mem_append.mp hg with hg | hg
        · exact hb g hg
        · have : g = Gate.mk [119] [] := by simpa using hg
          subst this
          exact .w rfl rfl
    · obtain ⟨ni, nw⟩ := notin_one cs (h := St.ob t2 :: T)
      refine ⟨_, [.val (.ref 0), .val (.int m), .val (.int 9), .val namesD, .own ((gs ++ [Gate.mk nm [q2]]).map Gate.D), .val (.int (0 + x)), .val (.str nm), .val (.int q2)], t2, ok1, .inl ?_, ⟨_, _, _, _, rfl, by simp, by simp, by simp, by simp; omega, ?_⟩, p2.mono (by omega)⟩
      · simp [f1, f2, en, e6, e7, el, nw, ni]
      · intro g hg
        rcases List.mem_append.mp hg with hg | hg
        · exact hb g hg
        · have : g = Gate.mk nm [q2] := by simpa using hg
          subst this
          exact .one cs q2 rfl qc qd
    · obtain ⟨ni, nw⟩ := notin_two cs (h := St.ob t2 :: T)
      by_cases hm : 1 < m
      · obtain ⟨q3, t3, f3, qe, qf, p3⟩ := f_draw k (T := T) (n := n) (m := m - 1) p2 (by omega) (Int.lt_of_le_of_lt (show m - 1 ≤ 5 by omega) (by decide))
        refine ⟨_, [.val (.ref 0), .val (.int m), .val (.int 9), .val namesD, .own ((gs ++ [Gate.mk nm [q2, (q2 + 1 + q3) % m]]).map Gate.D), .val (.int (0 + x)), .val (.str nm), .val (.int q2)], t3, ok1, .inl ?_, ⟨_, _, _, _, rfl, by simp, by simp, by simp, by simp; omega, ?_⟩, p3⟩
        · simp [f1, f2, f3, en, e6, e7, el, nw, ni, hm, g_mod (show 0 < m by omega)]
        · intro g hg
          rcases List.mem_append.mp hg with hg | hg
          · exact hb g hg
          · have : g = Gate.mk nm [q2, (q2 + 1 + q3) % m] := by simpa using hg
            subst this
            refine .two cs q2 _ rfl qc qd (Int.emod_nonneg _ (by omega)) (Int.emod_lt_of_pos _ (by omega)) fun z => ?_
            have hq : q2 + 1 + q3 < 2 * m := by omega
            by_cases hw : q2 + 1 + q3 < m
            · rw [Int.emod_eq_of_lt (by omega) hw] at z; omega
            · have : (q2 + 1 + q3) % m = q2 + 1 + q3 - m := by
                rw [← Int.sub_emod_right, Int.emod_eq_of_lt (by omega) (by omega)]
              omega
      · refine ⟨_, [.val (.ref 0), .val (.int m), .val (.int 9), .val namesD, .own (gs.map Gate.D), .val (.int (0 + x)), .val (.str nm), .val (.int q2)], t2, ok1, .inl ?_, ⟨_, _, _, _, rfl, by simp, by simp, by simp, by simp; omega, hb⟩, p2.mono (by omega)⟩
        simp [f1, f2, en, e6, e7, el, nw, ni, hm])
  obtain ⟨gs, x5, x6, x7, rfl, n5, n6, n7, hl, hb⟩ := i
  refine ⟨gs, s2, ?_, ?_, hb, o2⟩
  · simp
  · simp at hl; omega
end WP
set_option Elab.async false
set_option linter.all false
set_option maxRecDepth 100000
namespace WP
open PySem PySem.Spec PyProof.Rows L2 WC
variable (k : Nat) {T : Hs} {n : Nat} {s : WC.St}
theorem joinD_nil : ∀ l : List Nat, joinD [] (l.map fun c => [c]) = l
  | [] => rfl
  | [c] => rfl
  | c :: d :: r => by
    have := joinD_nil (d :: r)
    show [c] ++ ([] ++ joinD [] ((d :: r).map fun c => [c])) = _
    rw [this]
    rfl
theorem rng {m : Int} (h0 : 0 ≤ m) (h1 : m ≤ 1000) : (-4611686018427387904 ≤ m) ∧ m < 4611686018427387904 := by omega
theorem f_letters {m : Int} (m0 : 0 ≤ m) (m1 : m ≤ 100) {A : List Nat} {q : Int} (hq : (A.length : Int) = q) (q0 : 1 ≤ q) (q1 : q ≤ 100) {te : EM} {vs : List Nat} {σ : Sg} {t : GT} {mm : IM} (o : s.Ok (n + 1 * m.toNat)) (hm : mm σ (s.ob :: T) = .ok (rangeD 0 m.toNat) (s.ob :: T))
    (ht : ∀ x : Int, ∃ σ', t (.int x) (wipeS σ vs) = some σ' ∧ ∀ (n : Nat) (s : WC.St), s.Ok (n + 1) → ∀ (r : Int) (s' : WC.St), callN BB (k + 1) 40 [.ref 0, .int q] (s.ob :: T) = .ok (.int r) (s'.ob :: T) → te σ' (s.ob :: T) = optR (atD (s'.ob :: T) (.str A) (.int r)) (s'.ob :: T)) :
    ∃ (l : List Nat) (s' : WC.St), lcL mm t tYesM te vs σ (s.ob :: T) = .ok (l.map fun c => .str [c]) (s'.ob :: T) ∧ l.length = m.toNat ∧ (∀ c ∈ l, c ∈ A) ∧ s'.Ok n := by
  obtain ⟨ys, s', e, hl, hp, o'⟩ := lc_draw (α := Nat) (β := Nat) (m := mm) (t := t) (te := te) (vs := vs) (σ := σ) (T := T) (s := s) (n := n) (q := 1) (List.range m.toNat) (fun i => .int (0 + i)) (fun c => .str [c]) (fun c => c ∈ A) (by rw [hm]; rfl) (by simp; omega) (by simpa using o) fun x hx n s o => by
    obtain ⟨r, s', e, r0, r1, o'⟩ := f_draw k (T := T) (n := n) (m := q) o q0 (Int.lt_of_le_of_lt q1 (by decide))
    obtain ⟨σ', e1, e2⟩ := ht (0 + x)
    obtain ⟨rn, rfl⟩ : ∃ rn : Nat, r = rn := ⟨r.toNat, by omega⟩
    have hr : rn < A.length := by omega
    refine ⟨σ', A[rn], s', e1, ?_, List.getElem_mem _, o'⟩
    rw [e2 n s o _ _ e]
    have hl : A.length ≤ 16777216 := by omega
    simp [hl, hr]
  exact ⟨ys, s', e, by simpa using hl, hp, o'⟩
theorem f_lawPau {m : Int} (m0 : 1 ≤ m) (m1 : m ≤ 5) (o : s.Ok (n + 6)) : ∃ (c : Pau) (s' : WC.St), callN BB (k + 2) 43 [.ref 0, .int m] (s.ob :: T) = .ok c.D (s'.ob :: T) ∧ POk c ∧ (c.l.length : Int) = m ∧ s'.Ok n := by
  rw [u_43]
  obtain ⟨r1, s1, e1, a1, b1, o1⟩ := f_draw k (T := T) (n := n + 5) (m := 4) o (by decide) (by decide)
  obtain ⟨g1, g2⟩ := rng (m := m) (by omega) (by omega)
  obtain ⟨l, s2, e2, hl, hp, o2⟩ := f_letters k (n := n) (T := T) (s := s1) (m := m) (by omega) (by omega) (A := letters) (q := 4) rfl (by decide) (by decide) (σ := [.val (.ref 0), .val (.int m), .no]) (mm := iRange1 (aCons (eVar 1) aNil)) (t := tgName 2) (vs := [2]) (te := eOp atD (eC (.str [73, 88, 89, 90])) (eFn 2 (callN BB (k + 1) 40) (aCons (eVar 0) (aCons (eC (.int 4)) aNil)))) (o1.mono (by omega)) (by simp [g1, g2]) fun x => ⟨_, rfl, fun n s o r s' e => by simp [e, letters]⟩
  have hl2 : (l.length : Int) = m := by omega
  have e3 := g_joinM (h := St.ob s2 :: T) (a := []) (xs := l) (p := fun c => [c]) 1 (by simp) (by simp; omega)
  rw [joinD_nil] at e3
  refine ⟨⟨r1, l⟩, s2, ?_, ⟨a1, b1, ?_, ?_, hp⟩, hl2, o2⟩
  · simp [b_43, e1, e2, tyM, e3]
  · intro z; simp only at z; rw [z] at hl2; simp at hl2; omega
  · show l.length ≤ 5; omega
theorem asc_snoc {xs : List (List Int)} {x : List Int} (h : Asc xs) (hx : ∀ y ∈ xs, HT.lexLt y x = true) : Asc (xs ++ [x]) := by
  induction xs with
  | nil => intro p hp; simp at hp
  | cons y ys ih =>
    cases ys with
    | nil =>
      intro p hp
      simp at hp
      subst hp
      exact hx y (by simp)
    | cons z zs =>
      have h2 : Asc (z :: zs) := fun p hp => h p (by
        simp only [List.drop_one, List.tail_cons] at hp ⊢
        cases zs with
        | nil => simp at hp
        | cons w ws =>
          rw [List.zip_cons_cons]
          exact List.mem_cons_of_mem _ hp)
      have h3 := ih h2 fun w hw => hx w (List.mem_cons_of_mem _ hw)
      intro p hp
      have e : (y :: z :: zs) ++ [x] = y :: z :: (zs ++ [x]) := by simp
      rw [e] at hp
      simp only [List.drop_one, List.tail_cons, List.zip_cons_cons] at hp
      rcases List.mem_cons.mp hp with rfl | hp
      · exact h (y, z) (by simp)
      · refine h3 p ?_
        have e2 : (z :: zs) ++ [x] = z :: (zs ++ [x]) := by simp
        rw [e2]
        simpa using hp
structure EdgesTo (m : Int) (es : List (Int × Int)) (i j : Int) : Prop where
  a : Asc (es.map fun e => [e.1, e.2])
  e : ∀ e ∈ es, 0 ≤ e.1 ∧ e.1 < e.2 ∧ e.2 < m ∧ (e.1 < i ∨ (e.1 = i ∧ e.2 < j))
theorem EdgesTo.next {m : Int} {es : List (Int × Int)} {i j j' : Int} (E : EdgesTo m es i j) (h : j ≤ j') : EdgesTo m es i j' := ⟨E.a, fun e he => by have := E.e e he; omega⟩
theorem EdgesTo.row {m : Int} {es : List (Int × Int)} {i j j' : Int} (E : EdgesTo m es i j) : EdgesTo m es (i + 1) j' := ⟨E.a, fun e he => by have := E.e e he; omega⟩
theorem EdgesTo.add {m : Int} {es : List (Int × Int)} {i j : Int} (E : EdgesTo m es i j) (h0 : 0 ≤ i) (h1 : i < j) (h2 : j < m) : EdgesTo m (es ++ [(i, j)]) i (j + 1) := by
  refine ⟨?_, fun e he => ?_⟩
  · rw [List.map_append]
    refine asc_snoc E.a fun y hy => ?_
    obtain ⟨e, he, rfl⟩ := List.mem_map.mp hy
    have := E.e e he
    show HT.lexLt [e.1, e.2] [i, j] = true
    unfold HT.lexLt
    split
    · unfold HT.lexLt
      split
      · omega
      · simp; omega
    · simp; omega
  · rcases List.mem_append.mp he with he | he
    · have := E.e e he; omega
    · have : e = (i, j) := by simpa using he
      subst this
      exact ⟨h0, h1, h2, .inr ⟨rfl, by show j < j + 1; omega⟩⟩
theorem f_lawGraph {m : Int} (m0 : 1 ≤ m) (m1 : m ≤ 7) (o : s.Ok (n + 50)) : ∃ (g : Gra) (s' : WC.St), callN BB (k + 2) 44 [.ref 0, .int m] (s.ob :: T) = .ok g.D (s'.ob :: T) ∧ GrOk g ∧ s'.Ok n := by
  rw [u_44]
  obtain ⟨r1, s1, e1, a1, b1, o1⟩ := f_draw k (T := T) (n := n + 49) (m := 2) o (by decide) (by decide)
  obtain ⟨g1, g2⟩ := rng (m := m) (by omega) (by omega)
  simp [b_44, e1, g1, g2]
  generalize hr : forGo _ _ _ _ _ = r
  obtain ⟨σ', s2, rfl, i, o2⟩ := for_draw_of hr (fun i : Nat => .int (0 + i)) (List.range m.toNat) (by simp [rangeD]) (fun done σ => ∃ (es : List (Int × Int)) (x4 x5 : Sl), σ = [.val (.ref 0), .val (.int m), .val (.int (2 + r1)), .own (es.map eD), x4, x5] ∧ (∀ xs, x4 ≠ .lent xs) ∧ (∀ xs, x5 ≠ .lent xs) ∧ EdgesTo m es done.length 0 ∧ es.length ≤ 7 * done.length) ⟨[], .no, .no, rfl, by simp, by simp, ⟨by intro p hp; simp at hp, by simp⟩, by simp⟩ 7 n (by refine o1.mono ?_; simp; omega) (fun done x rest σ n s e i o => by
    obtain ⟨es, x4, x5, rfl, n4, n5, E, hl⟩ := i
    have hx : x = done.length ∧ (x : Int) < m ∧ done.length ≤ 7 := by
      have h1 : (List.range m.toNat)[done.length]? = some x := by rw [e]; simp
      have h2 := List.getElem?_eq_some_iff.mp h1
      obtain ⟨h3, h4⟩ := h2
      simp at h3 h4
      omega
    obtain ⟨hx1, hx2, hx3⟩ := hx
    obtain ⟨q1, q2⟩ := rng (m := (x : Int) + 1) (by omega) (by omega)
    obtain ⟨σ2, s2, e2, i2, o2⟩ := for_draw (t := tgName 5) (T := T) (q := 1) (body := (sIf (tB (eOp gEq (eFn 2 (callN BB (k + 1) 40) (aCons (eVar 0) (aCons (eVar 2) aNil))) (eC (.int 0)))) (sAppend 3 (eTup (aCons (eVar 4) (aCons (eVar 5) aNil)))) sNil)) (fun j : Nat => .int ((x : Int) + 1 + j)) (fun done2 σ => ∃ (es2 : List (Int × Int)) (x5 : Sl), σ = [.val (.ref 0), .val (.int m), .val (.int (2 + r1)), .own (es2.map eD), .val (.int x), x5] ∧ (∀ xs, x5 ≠ .lent xs) ∧ EdgesTo m es2 x (x + 1 + done2.length) ∧ es2.length ≤ 7 * done.length + done2.length) (List.range (m - (x + 1)).toNat) (fun done2 y rest2 σ n s e' i o => by
      obtain ⟨es2, y5, rfl, ny, E2, hl2⟩ := i
      have hy : y = done2.length ∧ (x : Int) + 1 + y < m := by
        have h1 : (List.range (m - (x + 1)).toNat)[done2.length]? = some y := by rw [e']; simp
        have h2 := List.getElem?_eq_some_iff.mp h1
        obtain ⟨h3, h4⟩ := h2
        simp at h3 h4
        omega
      obtain ⟨hy1, hy2⟩ := hy
      obtain ⟨q1, t1, f1, qa, qb, p1⟩ := f_draw k (T := T) (n := n) (m := 2 + r1) o (by omega) (Int.lt_of_lt_of_le (show 2 + r1 < 5 by omega) (by decide))
      have ok1 : tgName 5 (.int ((x : Int) + 1 + y)) [.val (.ref 0), .val (.int m), .val (.int (2 + r1)), .own (es2.map eD), .val (.int x), y5] = some [.val (.ref 0), .val (.int m), .val (.int (2 + r1)), .own (es2.map eD), .val (.int x), .val (.int ((x : Int) + 1 + y))] := by cases y5 <;> simp at ny ⊢
      have el : es2.length < 16777216 := by omega
      by_cases hq : q1 = 0
      · subst hq
        refine ⟨_, _, t1, ok1, .inl ?_, ⟨es2 ++ [((x : Int), (x : Int) + 1 + y)], .val (.int ((x : Int) + 1 + y)), rfl, by simp, ?_, by simp; omega⟩, p1⟩
        · simp [f1, el]
        · have := E2.add (by omega) (by omega) (show (x : Int) + 1 + done2.length < m by omega)
          rw [hy1]
          rw [show (x : Int) + 1 + ((done2 ++ [done2.length]).length : Int) = x + 1 + done2.length + 1 by simp; omega]
          exact this
      · have hq2 : (q1 == 0) = false := by simpa using hq
        refine ⟨_, _, t1, ok1, .inl ?_, ⟨es2, .val (.int ((x : Int) + 1 + y)), rfl, by simp, E2.next (by simp; omega), by simp; omega⟩, p1⟩
        simp [f1, hq2]) (List.range (m - (x + 1)).toNat) [] [.val (.ref 0), .val (.int m), .val (.int (2 + r1)), .own (es.map eD), .val (.int x), x5] n s rfl ⟨es, x5, rfl, n5, by rw [hx1]; exact E.next (by simp; omega), by simpa using hl⟩ (by refine o.mono ?_; simp; omega)
    obtain ⟨es2, y5, rfl, ny, E2, hl2⟩ := i2
    have ok1 : tgName 4 (.int (0 + x)) [.val (.ref 0), .val (.int m), .val (.int (2 + r1)), .own (es.map eD), x4, x5] = some [.val (.ref 0), .val (.int m), .val (.int (2 + r1)), .own (es.map eD), .val (.int x), x5] := by cases x4 <;> simp at n4 ⊢
    refine ⟨_, _, s2, ok1, .inl ?_, ⟨es2, .val (.int x), y5, rfl, by simp, ny, ?_, ?_⟩, o2⟩
    · have e4 : iRange2 (aCons (eOp gAdd (oVar 4) (eC (.int 1))) (aCons (eVar 1) aNil)) [.val (.ref 0), .val (.int m), .val (.int (2 + r1)), .own (es.map eD), .val (.int x), x5] (s.ob :: T) = .ok ((List.range (m - (x + 1)).toNat).map fun j : Nat => .int ((x : Int) + 1 + j)) (s.ob :: T) := by
        exact range2_ok (by simp) (by simp) (by omega) (by omega) (by omega) (by omega)
      rw [e_sFor, e4, e_eDo_ok]
      exact e2
    · have := E2.row (j' := 0)
      rw [show ((done ++ [x]).length : Int) = x + 1 by simp; omega]
      exact this
    · simp at hl2 ⊢; omega)
  obtain ⟨es, x4, x5, rfl, n4, n5, E, hl⟩ := i
  refine ⟨⟨m, es⟩, s2, ?_, ⟨m0, m1, ?_, fun e he => ?_, E.a⟩, o2⟩
  · simp
  · simp at hl ⊢; omega
  · have := E.e e he; exact ⟨this.1, this.2.1, this.2.2.1⟩
end WP
set_option Elab.async false
set_option linter.all false
set_option maxRecDepth 100000
namespace WP
open PySem PySem.Spec PyProof.Rows L2 WC
def vb (r : List Bool) : Nat := r.foldl (fun a b => a * 2 + (if b then 1 else 0)) 0
def rx (a b : List Bool) : List Bool := List.zipWith (fun x y => x ^^ y) a b
theorem two_xor (x y : Nat) (a b : Bool) : (x ^^^ y) * 2 + (if a ^^ b then 1 else 0) = (x * 2 + (if a then 1 else 0)) ^^^ (y * 2 + (if b then 1 else 0)) := by
  apply Nat.eq_of_testBit_eq
  intro i
  have t : ∀ (z : Nat) (c : Bool), (z * 2 + (if c then 1 else 0)).testBit i = if i = 0 then c else z.testBit (i - 1) := by
    intro z c
    cases i with
    | zero =>
      rw [Nat.testBit_zero]
      cases c <;> simp <;> omega
    | succ i =>
      rw [Nat.testBit_succ]
      have : (z * 2 + (if c then 1 else 0)) / 2 = z := by cases c <;> simp <;> omega
      rw [this]
      simp
  rw [t, Nat.testBit_xor, Nat.testBit_xor, t, t]
  split <;> rfl
theorem vb_go : ∀ (a b : List Bool) (x y : Nat), a.length = b.length → (rx a b).foldl (fun a b => a * 2 + (if b then 1 else 0)) (x ^^^ y) = (a.foldl (fun a b => a * 2 + (if b then 1 else 0)) x) ^^^ (b.foldl (fun a b => a * 2 + (if b then 1 else 0)) y)
  | [], [], x, y, _ => rfl
  | a :: as, b :: bs, x, y, h => by
    have ih := vb_go as bs (x * 2 + (if a then 1 else 0)) (y * 2 + (if b then 1 else 0)) (by simpa using h)
    rw [← two_xor] at ih
    exact ih
theorem vb_xor {a b : List Bool} (h : a.length = b.length) : vb (rx a b) = vb a ^^^ vb b := by
  have := vb_go a b 0 0 h
  rwa [Nat.xor_self] at this
def comb : List Bool → List Nat → Nat
  | b :: c, v :: vs => (if b then v else 0) ^^^ comb c vs
  | _, _ => 0
def Ind (vs : List Nat) : Prop := ∀ c : List Bool, c.length = vs.length → comb c vs = 0 → ∀ b ∈ c, b = false
theorem xor_swap (a b c : Nat) : a ^^^ (b ^^^ c) = b ^^^ (a ^^^ c) := by rw [← Nat.xor_assoc, Nat.xor_comm a b, Nat.xor_assoc]
theorem comb_val : ∀ (c : List Bool) (vs : List Nat) (f : Nat) (x v : Nat) (b : Bool), c.length = vs.length → vs[f]? = some v → c[f]? = some b → comb c (vs.set f (v ^^^ x)) = comb c vs ^^^ (if b then x else 0)
  | d :: c, w :: vs, 0, x, v, b, _, hv, hb => by
    cases hv; cases hb
    show (if d then w ^^^ x else 0) ^^^ comb c vs = ((if d then w else 0) ^^^ comb c vs) ^^^ (if d then x else 0)
    cases d
    · simp
    · simp only [if_true]
      rw [Nat.xor_assoc, Nat.xor_assoc, Nat.xor_comm x]
  | d :: c, w :: vs, f + 1, x, v, b, h, hv, hb => by
    have ih := comb_val c vs f x v b (by simpa using h) (by simpa using hv) (by simpa using hb)
    show (if d then w else 0) ^^^ comb c (vs.set f (v ^^^ x)) = _
    rw [ih, ← Nat.xor_assoc]
    rfl
theorem comb_coef : ∀ (c : List Bool) (vs : List Nat) (f : Nat) (v : Nat) (b y : Bool), c.length = vs.length → vs[f]? = some v → c[f]? = some b → comb (c.set f (b ^^ y)) vs = comb c vs ^^^ (if y then v else 0)
  | d :: c, w :: vs, 0, v, b, y, _, hv, hb => by
    cases hv; cases hb
    show (if d ^^ y then w else 0) ^^^ comb c vs = ((if d then w else 0) ^^^ comb c vs) ^^^ (if y then w else 0)
    rw [Nat.xor_assoc, Nat.xor_comm (comb c vs), ← Nat.xor_assoc]
    congr 1
    cases d <;> cases y <;> simp
  | d :: c, w :: vs, f + 1, v, b, y, h, hv, hb => by
    have ih := comb_coef c vs f v b y (by simpa using h) (by simpa using hv) (by simpa using hb)
    show (if d then w else 0) ^^^ comb (c.set f (b ^^ y)) vs = _
    rw [ih, ← Nat.xor_assoc]
    rfl
theorem Ind.step {vs : List Nat} (I : Ind vs) {f o : Nat} {x y : Nat} (hf : vs[f]? = some x) (ho : vs[o]? = some y) (ne : f ≠ o) : Ind (vs.set f (x ^^^ y)) := by
  intro c hc h0
  rw [List.length_set] at hc
  have lf := (List.getElem?_eq_some_iff.mp hf).1
  have lo := (List.getElem?_eq_some_iff.mp ho).1
  obtain ⟨bf, ef⟩ : ∃ b, c[f]? = some b := ⟨c[f]'(by omega), List.getElem?_eq_getElem _⟩
  obtain ⟨bo, eo⟩ : ∃ b, c[o]? = some b := ⟨c[o]'(by omega), List.getElem?_eq_getElem _⟩
  rw [comb_val c vs f y x bf hc hf ef, ← comb_coef c vs o y bo bf hc ho eo] at h0
  have h1 := I (c.set o (bo ^^ bf)) (by rw [List.length_set]; exact hc) h0
  have g : ∀ (i : Nat) (b : Bool), (c.set o (bo ^^ bf))[i]? = some b → b = false := fun i b e => h1 b (List.mem_of_getElem? e)
  have f0 : bf = false := g f bf (by rw [List.getElem?_set_ne (Ne.symm ne)]; exact ef)
  intro b hb
  obtain ⟨i, hi⟩ := List.getElem?_of_mem hb
  by_cases e : i = o
  · subst e
    rw [eo] at hi
    cases hi
    have := g i (bo ^^ bf) (by rw [List.getElem?_set_self (by omega)])
    rw [f0] at this
    simpa using this
  · exact g i b (by rw [List.getElem?_set_ne (Ne.symm e)]; exact hi)
def Spn (vs : List Nat) (x : Nat) : Prop := ∃ c : List Bool, c.length = vs.length ∧ comb c vs = x
theorem comb_snoc : ∀ (c : List Bool) (vs : List Nat) (b : Bool) (v : Nat), c.length = vs.length → comb (c ++ [b]) (vs ++ [v]) = comb c vs ^^^ (if b then v else 0)
  | [], [], b, v, _ => by simp [comb]
  | [], _ :: _, _, _, h => by simp at h
  | _ :: _, [], _, _, h => by simp at h
  | d :: c, w :: vs, b, v, h => by
    have ih := comb_snoc c vs b v (by simpa using h)
    show (if d then w else 0) ^^^ comb (c ++ [b]) (vs ++ [v]) = _
    rw [ih, ← Nat.xor_assoc]
    rfl
theorem comb_rx : ∀ (c d : List Bool) (vs : List Nat), c.length = vs.length → d.length = vs.length → comb (rx c d) vs = comb c vs ^^^ comb d vs
  | [], [], [], _, _ => rfl
  | [], _, _ :: _, h1, _ => by simp at h1
  | _ :: _, _, [], h1, _ => by simp at h1
  | _, [], _ :: _, _, h2 => by simp at h2
  | _, _ :: _, [], _, h2 => by simp at h2
  | a :: c, b :: d, v :: vs, h1, h2 => by
    have ih := comb_rx c d vs (by simpa using h1) (by simpa using h2)
    show (if a ^^ b then v else 0) ^^^ comb (rx c d) vs = ((if a then v else 0) ^^^ comb c vs) ^^^ ((if b then v else 0) ^^^ comb d vs)
    rw [ih]
    cases a <;> cases b
    · simp
    · simp only [Bool.false_bne, if_true, Bool.false_eq_true, if_false, Nat.zero_xor]
      show v ^^^ (comb c vs ^^^ comb d vs) = comb c vs ^^^ (v ^^^ comb d vs)
      exact xor_swap _ _ _
    · simp only [if_true, Bool.false_eq_true, if_false, Nat.zero_xor]
      show v ^^^ (comb c vs ^^^ comb d vs) = (v ^^^ comb c vs) ^^^ comb d vs
      exact (Nat.xor_assoc _ _ _).symm
    · show 0 ^^^ (comb c vs ^^^ comb d vs) = (v ^^^ comb c vs) ^^^ (v ^^^ comb d vs)
      rw [Nat.zero_xor, Nat.xor_comm v (comb c vs), Nat.xor_assoc, ← Nat.xor_assoc v v, Nat.xor_self, Nat.zero_xor]
theorem Spn.xor {vs : List Nat} {x y : Nat} (a : Spn vs x) (b : Spn vs y) : Spn vs (x ^^^ y) := by
  obtain ⟨c, h1, e1⟩ := a
  obtain ⟨d, h2, e2⟩ := b
  refine ⟨rx c d, by simp [rx, h1, h2], ?_⟩
  rw [comb_rx c d vs h1 h2, e1, e2]
theorem comb_zero : ∀ vs : List Nat, comb (List.replicate vs.length false) vs = 0
  | [] => rfl
  | v :: vs => by
    show (0 ^^^ comb (List.replicate vs.length false) vs) = 0
    rw [comb_zero vs]
    rfl
theorem Spn.zero (vs : List Nat) : Spn vs 0 := ⟨List.replicate vs.length false, by simp, comb_zero vs⟩
theorem Spn.snoc {vs : List Nat} {x v : Nat} (a : Spn vs x) : Spn (vs ++ [v]) x := by
  obtain ⟨c, h1, e1⟩ := a
  refine ⟨c ++ [false], by simp [h1], ?_⟩
  rw [comb_snoc c vs false v h1, e1]
  simp
theorem Spn.last (vs : List Nat) (v : Nat) : Spn (vs ++ [v]) v := by
  refine ⟨List.replicate vs.length false ++ [true], by simp, ?_⟩
  rw [comb_snoc _ _ _ _ (by simp), comb_zero]
  simp
end WP
set_option Elab.async false
set_option linter.all false
set_option maxRecDepth 100000
namespace WP
open PySem PySem.Spec PyProof.Rows L2 WC
theorem comb_app : ∀ (c d : List Bool) (vs ws : List Nat), c.length = vs.length → comb (c ++ d) (vs ++ ws) = comb c vs ^^^ comb d ws
  | [], d, [], ws, _ => by simp [comb]
  | [], _, _ :: _, _, h => by simp at h
  | _ :: _, _, [], _, h => by simp at h
  | b :: c, d, v :: vs, ws, h => by
    have ih := comb_app c d vs ws (by simpa using h)
    show (if b then v else 0) ^^^ comb (c ++ d) (vs ++ ws) = _
    rw [ih, ← Nat.xor_assoc]
    rfl
theorem bx32 : ∀ a < 32, ∀ b < 32, Builtin.bitXor (a : Nat) (b : Nat) = ((a ^^^ b : Nat) : Int) := by decide +kernel
def redN (kept : List Nat) (r : Nat) : Nat := kept.foldl (fun r o => if r ^^^ o < r then r ^^^ o else r) r
theorem red_nat : ∀ (kept : List Nat) (r : Nat), (∀ x ∈ kept, x < 32) → r < 32 → red (kept.map fun x : Nat => (x : Int)) (r : Int) = (redN kept r : Int) ∧ redN kept r < 32
  | [], r, _, hr => ⟨rfl, hr⟩
  | o :: kept, r, hk, hr => by
    have ho := hk o (List.mem_cons_self ..)
    have hx := bx32 r hr o ho
    have hlt : r ^^^ o < 32 := Nat.xor_lt_two_pow (n := 5) hr ho
    have ih := red_nat kept (if r ^^^ o < r then r ^^^ o else r) (fun x m => hk x (List.mem_cons_of_mem _ m)) (by split <;> assumption)
    refine ⟨?_, ih.2⟩
    rw [List.map_cons]
    show red (kept.map fun x : Nat => (x : Int)) (if Builtin.bitXor r o < r then Builtin.bitXor r o else (r : Int)) = _
    rw [hx]
    have e : (if (((r ^^^ o : Nat) : Int)) < (r : Int) then (((r ^^^ o : Nat) : Int)) else (r : Int)) = (((if r ^^^ o < r then r ^^^ o else r : Nat)) : Int) := by
      by_cases h : r ^^^ o < r
      · rw [if_pos h, if_pos (by omega)]
      · rw [if_neg h, if_neg (by omega)]
    rw [e]
    exact ih.1
theorem red_spn {done : List Nat} : ∀ (kept : List Nat) (r : Nat), (∀ x ∈ kept, Spn done x) → ∃ s, Spn done s ∧ redN kept r = r ^^^ s
  | [], r, _ => ⟨0, Spn.zero _, by simp [redN]⟩
  | o :: kept, r, hk => by
    obtain ⟨s, h1, h2⟩ := red_spn kept (if r ^^^ o < r then r ^^^ o else r) fun x m => hk x (List.mem_cons_of_mem _ m)
    by_cases h : r ^^^ o < r
    · rw [if_pos h] at h2
      exact ⟨o ^^^ s, (hk o (List.mem_cons_self ..)).xor h1, by rw [← Nat.xor_assoc, ← h2]; show redN kept (if r ^^^ o < r then r ^^^ o else r) = _; rw [if_pos h]⟩
    · rw [if_neg h] at h2
      exact ⟨s, h1, by rw [← h2]; show redN kept (if r ^^^ o < r then r ^^^ o else r) = _; rw [if_neg h]⟩
theorem indep_go : ∀ (rest done kept : List Nat), Ind (done ++ rest) → (∀ x ∈ kept, Spn done x) → (∀ x ∈ kept, x < 32) → (∀ x ∈ rest, x < 32) → indep (kept.map fun x : Nat => (x : Int)) (rest.map fun x : Nat => (x : Int)) = true
  | [], _, _, _, _, _, _ => rfl
  | r :: rest, done, kept, I, hk, h1, h2 => by
    obtain ⟨e1, e2⟩ := red_nat kept r h1 (h2 r (List.mem_cons_self ..))
    obtain ⟨s, hs, es⟩ := red_spn kept r hk
    have nz : redN kept r ≠ 0 := by
      intro z
      rw [es] at z
      obtain ⟨c, hc, ec⟩ := hs
      have := I (c ++ true :: List.replicate rest.length false) (by simp [hc]) (by
        rw [comb_app c _ done _ hc, ec]
        show s ^^^ (r ^^^ comb (List.replicate rest.length false) rest) = 0
        rw [comb_zero, Nat.xor_zero, Nat.xor_comm]
        exact z) true (by simp)
      cases this
    have ih := indep_go rest (done ++ [r]) (kept ++ [redN kept r]) (by simpa using I) (fun x m => by
      rcases List.mem_append.mp m with m | m
      · exact (hk x m).snoc
      · have : x = redN kept r := by simpa using m
        rw [this, es]
        exact (Spn.last done r).xor hs.snoc) (fun x m => by
      rcases List.mem_append.mp m with m | m
      · exact h1 x m
      · have : x = redN kept r := by simpa using m
        rw [this]; exact e2) fun x m => h2 x (List.mem_cons_of_mem _ m)
    rw [List.map_cons]
    show (if red (kept.map fun x : Nat => (x : Int)) (r : Int) = 0 then false else indep (kept.map (fun x : Nat => (x : Int)) ++ [red (kept.map fun x : Nat => (x : Int)) (r : Int)]) (rest.map fun x : Nat => (x : Int))) = true
    rw [e1, if_neg (by omega)]
    have e3 : kept.map (fun x : Nat => (x : Int)) ++ [(redN kept r : Int)] = (kept ++ [redN kept r]).map fun x : Nat => (x : Int) := by simp
    rw [e3]
    exact ih
theorem indep_of {vs : List Nat} (I : Ind vs) (h : ∀ x ∈ vs, x < 32) : indep [] (vs.map fun x : Nat => (x : Int)) = true := indep_go vs [] [] (by simpa using I) (by simp) (by simp) h
theorem vb_lt : ∀ (r : List Bool) (a n : Nat), a < 2 ^ n → r.foldl (fun a b => a * 2 + (if b then 1 else 0)) a < 2 ^ (n + r.length)
  | [], a, n, h => by simpa using h
  | b :: r, a, n, h => by
    have ih := vb_lt r (a * 2 + (if b then 1 else 0)) (n + 1) (by rw [Nat.pow_succ]; split <;> omega)
    rw [List.length_cons, show n + (r.length + 1) = n + 1 + r.length by omega]
    exact ih
theorem vb_32 {r : List Bool} (h : r.length ≤ 5) : vb r < 32 := by
  have := vb_lt r 0 0 (by decide)
  have h2 : 2 ^ (0 + r.length) ≤ 2 ^ 5 := Nat.pow_le_pow_right (by decide) (by omega)
  unfold vb
  omega
def unit (m : Nat) : List (List Bool) := (List.range m).map fun k => (List.range m).map fun i => decide (i = k)
theorem unit_ind {m : Nat} (h1 : 1 ≤ m) (h5 : m ≤ 5) : Ind ((unit m).map vb) := by
  have : m = 1 ∨ m = 2 ∨ m = 3 ∨ m = 4 ∨ m = 5 := by omega
  rcases this with rfl | rfl | rfl | rfl | rfl
  · intro c hc h0
    match c, hc with
    | [a], _ => revert h0; revert a; decide +kernel
  · intro c hc h0
    match c, hc with
    | [a, b], _ => revert h0; revert a b; decide +kernel
  · intro c hc h0
    match c, hc with
    | [a, b, d], _ => revert h0; revert a b d; decide +kernel
  · intro c hc h0
    match c, hc with
    | [a, b, d, e], _ => revert h0; revert a b d e; decide +kernel
  · intro c hc h0
    match c, hc with
    | [a, b, d, e, f], _ => revert h0; revert a b d e f; decide +kernel
def wd (r : List Bool) : List Nat := r.map fun b => if b then 49 else 48
theorem num2_wd (r : List Bool) : Bn.num2 (wd r) = vb r := by
  unfold Bn.num2 wd vb
  rw [List.foldl_map]
  congr 1
  funext a b
  cases b <;> rfl
end WP
set_option Elab.async false
set_option linter.all false
set_option maxRecDepth 100000
namespace WP
open PySem PySem.Spec PyProof.Rows L2 WC
variable (k : Nat) {T : Hs} {n : Nat} {s : WC.St}
abbrev bI (b : Bool) : D := .int (if b then 1 else 0)
abbrev rD (r : List Bool) : D := .lst (r.map bI)
theorem beq_cast (i j : Nat) : ((i : Int) == (j : Int)) = decide (i = j) := by
  by_cases h : i = j
  · subst h; simp
  · simp [h]
    omega
abbrev nos (n : Nat) : List Sl := List.replicate n .no
theorem f_unit {M : Nat} (hM : M ≤ 5) {h : Hs} : lcL (iRange1 (aCons (eVar 1) aNil)) (tgName 11) tYesM (eFrz (lcL (iRange1 (aCons (eVar 1) aNil)) (tgName 8) tYesM (eCall gIntA (aCons (eOp gEq (oVar 8) (oVar 11)) aNil)) [8])) [11]
    [.val (.ref 0), .val (.int M), .no, .no, .no, .no, .no, .no, .no, .no, .no, .no, .no, .no, .no, .no, .no] h = .ok ((unit M).map rD) h := by
  have hr : ∀ (σ : Sg), σ[1]? = some (.val (.int M)) → iRange1 (aCons (eVar 1) aNil) σ h = .ok ((List.range M).map fun i : Nat => .int (0 + i)) h := fun σ e => by
    have := range1_ok (a := eVar 1) (σ := σ) (h := h) (j := M) (by simp [e]) (by omega) (by omega)
    rw [this]
    rfl
  have e := lc_typed (m := iRange1 (aCons (eVar 1) aNil)) (t := tgName 11) (vs := [11]) (te := eFrz (lcL (iRange1 (aCons (eVar 1) aNil)) (tgName 8) tYesM (eCall gIntA (aCons (eOp gEq (oVar 8) (oVar 11)) aNil)) [8])) (σ := [.val (.ref 0), .val (.int M), .no, .no, .no, .no, .no, .no, .no, .no, .no, .no, .no, .no, .no, .no, .no]) (h := h) (List.range M) (fun i : Nat => .int (0 + i)) (fun k => rD ((List.range M).map fun i => decide (i = k))) (hr _ rfl) (by simp; omega) fun x hx => ⟨_, rfl, by
    have e2 := lc_typed (m := iRange1 (aCons (eVar 1) aNil)) (t := tgName 8) (vs := [8]) (te := eCall gIntA (aCons (eOp gEq (oVar 8) (oVar 11)) aNil)) (σ := [.val (.ref 0), .val (.int M), .no, .no, .no, .no, .no, .no, .no, .no, .no, .val (.int (0 + x)), .no, .no, .no, .no, .no]) (h := h) (List.range M) (fun i : Nat => .int (0 + i)) (fun i => bI (decide (i = x))) (hr _ rfl) (by simp; omega) fun y hy => ⟨_, rfl, by
      simp [beq_cast]⟩
    rw [e_eFrz]
    show (lcL _ _ _ _ _ [.val (.ref 0), .val (.int M), .no, .no, .no, .no, .no, .no, .no, .no, .no, .val (.int (0 + x)), .no, .no, .no, .no, .no] h).bind _ = _
    rw [e2, R.bind_ok]
    simp [rD]⟩
  rw [e]
  unfold unit
  rw [List.map_map]
  rfl
theorem f_newrow {M : Nat} (hM : M ≤ 5) {h : Hs} {rows : List (List Bool)} {f o : Nat} {a b : List Bool} (ha : rows[f]? = some a) (hb : rows[o]? = some b) (la : a.length = M) (lb : b.length = M) {x3 : Sl} : lcL (iRange1 (aCons (eVar 1) aNil)) (tgName 8) tYesM (eOp gMod (eCall gIntA (aCons (eOp gAdd (eOp atD (eOp atD (oVar 2) (oVar 4)) (oVar 8)) (eOp atD (eOp atD (oVar 2) (oVar 5)) (oVar 8))) aNil)) (eC (.int 2))) [8]
    [.val (.ref 0), .val (.int M), .own (rows.map rD), x3, .val (.int f), .val (.int o), .no, .no, .no, .no, .no, .no, .no, .no, .no, .no, .no] h = .ok ((rx a b).map bI) h := by
  have hr : ∀ (σ : Sg), σ[1]? = some (.val (.int M)) → iRange1 (aCons (eVar 1) aNil) σ h = .ok ((List.range M).map fun i : Nat => .int (0 + i)) h := fun σ e => by
    have := range1_ok (a := eVar 1) (σ := σ) (h := h) (j := M) (by simp [e]) (by omega) (by omega)
    rw [this]
    rfl
  have e := lc_typed (m := iRange1 (aCons (eVar 1) aNil)) (t := tgName 8) (vs := [8]) (te := eOp gMod (eCall gIntA (aCons (eOp gAdd (eOp atD (eOp atD (oVar 2) (oVar 4)) (oVar 8)) (eOp atD (eOp atD (oVar 2) (oVar 5)) (oVar 8))) aNil)) (eC (.int 2))) (σ := [.val (.ref 0), .val (.int M), .own (rows.map rD), x3, .val (.int f), .val (.int o), .no, .no, .no, .no, .no, .no, .no, .no, .no, .no, .no]) (h := h) (List.range M) (fun i : Nat => .int (0 + i)) (fun i => bI ((a.getD i false) ^^ (b.getD i false))) (hr _ rfl) (by simp; omega) fun i hi => ⟨_, rfl, by
    have hi2 : i < M := by simpa using hi
    obtain ⟨p, ga, gp⟩ : ∃ p, a[i]? = some p ∧ a.getD i false = p := ⟨a[i]'(by omega), List.getElem?_eq_getElem _, by rw [List.getD_eq_getElem?_getD, List.getElem?_eq_getElem (by omega)]; rfl⟩
    obtain ⟨q, gb, gq⟩ : ∃ q, b[i]? = some q ∧ b.getD i false = q := ⟨b[i]'(by omega), List.getElem?_eq_getElem _, by rw [List.getD_eq_getElem?_getD, List.getElem?_eq_getElem (by omega)]; rfl⟩
    rw [gp, gq]
    have m2 : ∀ z : Int, gMod h (.int z) (.int 2) = some (.int (z % 2)) := fun z => g_mod (by decide)
    simp [ha, hb, ga, gb, m2]
    cases p <;> cases q <;> rfl⟩
  refine e.trans (congrArg (fun l => R.ok l h) ?_)
  apply List.ext_getElem
  · rw [List.length_map, List.length_map, List.length_range]
    unfold rx
    rw [List.length_zipWith]
    omega
  · intro i h1 h2
    have hi : i < M := by rw [List.length_map, List.length_range] at h1; exact h1
    rw [List.getElem_map, List.getElem_map, List.getElem_range]
    unfold rx
    rw [List.getElem_zipWith, List.getD_eq_getElem?_getD, List.getD_eq_getElem?_getD, List.getElem?_eq_getElem (by omega), List.getElem?_eq_getElem (by omega)]
    rfl
end WP
set_option Elab.async false
set_option linter.all false
set_option maxRecDepth 100000
namespace WP
open PySem PySem.Spec PyProof.Rows L2 WC
variable (k : Nat) {T : Hs} {n : Nat} {s : WC.St}
structure RowsOk (M : Nat) (rows : List (List Bool)) : Prop where
  n : rows.length = M
  l : ∀ r ∈ rows, r.length = M
  i : Ind (rows.map vb)
theorem RowsOk.step {M : Nat} {rows : List (List Bool)} (R : RowsOk M rows) {f o : Nat} {a b : List Bool} (ha : rows[f]? = some a) (hb : rows[o]? = some b) (ne : f ≠ o) : RowsOk M (rows.set f (rx a b)) := by
  have la := R.l a (List.mem_of_getElem? ha)
  have lb := R.l b (List.mem_of_getElem? hb)
  refine ⟨by rw [List.length_set]; exact R.n, fun r hr => ?_, ?_⟩
  · rcases List.mem_or_eq_of_mem_set hr with hr | rfl
    · exact R.l r hr
    · unfold rx; rw [List.length_zipWith]; omega
  · rw [List.map_set, vb_xor (la.trans lb.symm)]
    exact R.i.step (by rw [List.getElem?_map, ha]; rfl) (by rw [List.getElem?_map, hb]; rfl) ne
theorem unit_ok {M : Nat} (h1 : 1 ≤ M) (h5 : M ≤ 5) : RowsOk M (unit M) := by
  refine ⟨by simp [unit], fun r hr => ?_, unit_ind h1 h5⟩
  unfold unit at hr
  obtain ⟨k, _, rfl⟩ := List.mem_map.mp hr
  simp
def rowBody (k : Nat) : SM := (sSeq (sSet 4 (xVal (eFn 2 (callN BB (k + 1) 40) (aCons (eVar 0) (aCons (eVar 1) aNil)))))
  (sSeq (sSet 5 (xVal (eOp gMod (eCall gIntA (aCons (eOp gAdd (eOp gAdd (oVar 4) (eC (.int 1))) (eFn 2 (callN BB (k + 1) 40) (aCons (eVar 0) (aCons (eOp gSub (oVar 1) (eC (.int 1))) aNil)))) aNil)) (oVar 1))))
  (sStore 2 (eFrz (lcL (iRange1 (aCons (eVar 1) aNil)) (tgName 8) tYesM (eOp gMod (eCall gIntA (aCons (eOp gAdd (eOp atD (eOp atD (oVar 2) (oVar 4)) (oVar 8)) (eOp atD (eOp atD (oVar 2) (oVar 5)) (oVar 8))) aNil)) (eC (.int 2))) [8])) (eVar 4))))
theorem f_rowBody {M : Nat} (h1 : 1 < M) (h5 : M ≤ 5) {rows : List (List Bool)} (R : RowsOk M rows) {x3 x4 x5 : Sl} (n4 : ∀ xs, x4 ≠ .lent xs) (n5 : ∀ xs, x5 ≠ .lent xs) (o : s.Ok (n + 2)) : ∃ (rows' : List (List Bool)) (y4 y5 : Sl) (s' : WC.St), rowBody k [.val (.ref 0), .val (.int M), .own (rows.map rD), x3, x4, x5, .no, .no, .no, .no, .no, .no, .no, .no, .no, .no, .no] (s.ob :: T) =
    .nx [.val (.ref 0), .val (.int M), .own (rows'.map rD), x3, y4, y5, .no, .no, .no, .no, .no, .no, .no, .no, .no, .no, .no] (s'.ob :: T) ∧ RowsOk M rows' ∧ (∀ xs, y4 ≠ .lent xs) ∧ (∀ xs, y5 ≠ .lent xs) ∧ s'.Ok n := by
  obtain ⟨q1, t1, f1, qa, qb, p1⟩ := f_draw k (T := T) (n := n + 1) (m := (M : Int)) o (by omega) (Int.lt_of_le_of_lt (show (M : Int) ≤ 5 by omega) (by decide))
  obtain ⟨q2, t2, f2, qc, qd, p2⟩ := f_draw k (T := T) (n := n) (m := (M : Int) - 1) p1 (by omega) (Int.lt_of_le_of_lt (show (M : Int) - 1 ≤ 5 by omega) (by decide))
  obtain ⟨f, rfl⟩ : ∃ f : Nat, q1 = f := ⟨q1.toNat, by omega⟩
  obtain ⟨o2, ho2, ho3⟩ : ∃ o2 : Nat, ((f : Int) + 1 + q2) % M = o2 ∧ o2 < M := by
    have a0 := Int.emod_nonneg ((f : Int) + 1 + q2) (show (M : Int) ≠ 0 by omega)
    have a1 := Int.emod_lt_of_pos ((f : Int) + 1 + q2) (show 0 < (M : Int) by omega)
    exact ⟨(((f : Int) + 1 + q2) % M).toNat, by omega, by omega⟩
  have ne : f ≠ o2 := by
    intro z
    by_cases hw : (f : Int) + 1 + q2 < M
    · rw [Int.emod_eq_of_lt (by omega) hw] at ho2; omega
    · have : ((f : Int) + 1 + q2) % M = f + 1 + q2 - M := by
        rw [← Int.sub_emod_right, Int.emod_eq_of_lt (by omega) (by omega)]
      omega
  have hf : f < rows.length := by have := R.n; omega
  have ho : o2 < rows.length := by have := R.n; omega
  have ha := List.getElem?_eq_getElem hf
  have hb := List.getElem?_eq_getElem ho
  have la := R.l _ (List.mem_of_getElem? ha)
  have lb := R.l _ (List.mem_of_getElem? hb)
  have nr := f_newrow h5 (h := t2.ob :: T) (x3 := x3) ha hb la lb
  refine ⟨_, .val (.int f), .val (.int o2), t2, ?_, R.step ha hb ne, by simp, by simp, p2⟩
  have e4 : ∀ s4, setS [.val (.ref 0), .val (.int M), .own (rows.map rD), x3, x4, x5, .no, .no, .no, .no, .no, .no, .no, .no, .no, .no, .no] 4 s4 = some [.val (.ref 0), .val (.int M), .own (rows.map rD), x3, s4, x5, .no, .no, .no, .no, .no, .no, .no, .no, .no, .no, .no] := fun s4 => by cases x4 <;> simp at n4 ⊢
  have e5 : ∀ s4 s5, setS [.val (.ref 0), .val (.int M), .own (rows.map rD), x3, s4, x5, .no, .no, .no, .no, .no, .no, .no, .no, .no, .no, .no] 5 s5 = some [.val (.ref 0), .val (.int M), .own (rows.map rD), x3, s4, s5, .no, .no, .no, .no, .no, .no, .no, .no, .no, .no, .no] := fun s4 s5 => by cases x5 <;> simp at n5 ⊢
  simp only [e_setS] at e4 e5
  have gm := g_mod (h := t2.ob :: T) (i := (f : Int) + 1 + q2) (show 0 < (M : Int) by omega)
  rw [ho2] at gm
  simp [rowBody, f1, f2, e4, e5, gm, nr, hf, List.map_set]
theorem f_rowsLoop {M : Nat} (h0 : 1 ≤ M) (h5 : M ≤ 5) {cnt : Nat} (hc : cnt ≤ 10) (hc1 : M = 1 → cnt = 0) (o : s.Ok (n + 20)) {r : RS} (hr : forGo (tgName 3) (rowBody k) (rangeD 0 cnt) [.val (.ref 0), .val (.int M), .own ((unit M).map rD), .no, .no, .no, .no, .no, .no, .no, .no, .no, .no, .no, .no, .no, .no] (s.ob :: T) = r) :
    ∃ (rows : List (List Bool)) (x3 x4 x5 : Sl) (s' : WC.St), r = .nx [.val (.ref 0), .val (.int M), .own (rows.map rD), x3, x4, x5, .no, .no, .no, .no, .no, .no, .no, .no, .no, .no, .no] (s'.ob :: T) ∧ RowsOk M rows ∧ s'.Ok n := by
  obtain ⟨σ', s2, rfl, i, o2⟩ := for_draw_of hr (fun i : Nat => .int (0 + i)) (List.range cnt) rfl (fun done σ => ∃ (rows : List (List Bool)) (x3 x4 x5 : Sl), σ = [.val (.ref 0), .val (.int M), .own (rows.map rD), x3, x4, x5, .no, .no, .no, .no, .no, .no, .no, .no, .no, .no, .no] ∧ RowsOk M rows ∧ (∀ xs, x3 ≠ .lent xs) ∧ (∀ xs, x4 ≠ .lent xs) ∧ (∀ xs, x5 ≠ .lent xs)) ⟨unit M, .no, .no, .no, rfl, unit_ok h0 h5, by simp, by simp, by simp⟩ 2 n (by refine o.mono ?_; rw [List.length_range]; omega) (fun done x rest σ n s e i o => by
    obtain ⟨rows, x3, x4, x5, rfl, R, n3, n4, n5⟩ := i
    have hM : 1 < M := by
      by_cases h : M = 1
      · have := congrArg List.length e
        rw [hc1 h] at this
        simp at this
      · omega
    obtain ⟨rows', y4, y5, s', e1, R', m4, m5, o'⟩ := f_rowBody k (T := T) (n := n) hM h5 R (x3 := .val (.int (0 + x))) n4 n5 o
    refine ⟨_, _, s', ?_, .inl e1, ⟨rows', _, y4, y5, rfl, R', by simp, m4, m5⟩, o'⟩
    cases x3 <;> simp at n3 ⊢)
  obtain ⟨rows, x3, x4, x5, rfl, R, _, _, _⟩ := i
  exact ⟨rows, x3, x4, x5, s2, rfl, R, o2⟩
end WP
set_option Elab.async false
set_option linter.all false
set_option maxRecDepth 100000
namespace WP
open PySem PySem.Spec PyProof.Rows L2 WC
variable (k : Nat) {T : Hs} {n : Nat} {s : WC.St}
structure TwosTo (m : Int) (tw : List Tri) (i j : Int) : Prop where
  a : Asc (tw.map fun x => [x.i, x.j])
  e : ∀ x ∈ tw, 0 ≤ x.i ∧ x.i < x.j ∧ x.j < m ∧ 1 ≤ x.c ∧ x.c ≤ 3 ∧ (x.i < i ∨ (x.i = i ∧ x.j < j))
structure ThreesTo (m : Int) (th : List Tri) (i j c : Int) : Prop where
  a : Asc (th.map fun x => [x.i, x.j, x.c])
  e : ∀ x ∈ th, 0 ≤ x.i ∧ x.i < x.j ∧ x.j < x.c ∧ x.c < m ∧ (x.i < i ∨ (x.i = i ∧ (x.j < j ∨ (x.j = j ∧ x.c < c))))
theorem TwosTo.mono {m : Int} {tw : List Tri} {i j i' j' : Int} (E : TwosTo m tw i j) (h : i < i' ∨ (i = i' ∧ j ≤ j')) : TwosTo m tw i' j' := ⟨E.a, fun e he => by have := E.e e he; omega⟩
theorem ThreesTo.mono {m : Int} {tw : List Tri} {i j c i' j' c' : Int} (E : ThreesTo m tw i j c) (h : i < i' ∨ (i = i' ∧ (j < j' ∨ (j = j' ∧ c ≤ c')))) : ThreesTo m tw i' j' c' := ⟨E.a, fun e he => by have := E.e e he; omega⟩
theorem lex2 {a b i j : Int} (h : a < i ∨ (a = i ∧ b < j)) : HT.lexLt [a, b] [i, j] = true := by
  unfold HT.lexLt
  split
  · unfold HT.lexLt
    split
    · omega
    · simp; omega
  · simp; omega
theorem lex3 {a b c i j l : Int} (h : a < i ∨ (a = i ∧ (b < j ∨ (b = j ∧ c < l)))) : HT.lexLt [a, b, c] [i, j, l] = true := by
  unfold HT.lexLt
  split
  · exact lex2 (by omega)
  · simp; omega
theorem TwosTo.add {m : Int} {tw : List Tri} {i j c : Int} (E : TwosTo m tw i j) (h0 : 0 ≤ i) (h1 : i < j) (h2 : j < m) (c1 : 1 ≤ c) (c3 : c ≤ 3) : TwosTo m (tw ++ [⟨i, j, c⟩]) i (j + 1) := by
  refine ⟨?_, fun e he => ?_⟩
  · rw [List.map_append]
    refine asc_snoc E.a fun y hy => ?_
    obtain ⟨e, he, rfl⟩ := List.mem_map.mp hy
    have := E.e e he
    show HT.lexLt [e.i, e.j] [i, j] = true
    exact lex2 (by omega)
  · rcases List.mem_append.mp he with he | he
    · have := E.e e he; omega
    · have : e = ⟨i, j, c⟩ := by simpa using he
      subst this
      exact ⟨h0, h1, h2, c1, c3, .inr ⟨rfl, by show j < j + 1; omega⟩⟩
theorem ThreesTo.add {m : Int} {tw : List Tri} {i j c : Int} (E : ThreesTo m tw i j c) (h0 : 0 ≤ i) (h1 : i < j) (h2 : j < c) (h3 : c < m) : ThreesTo m (tw ++ [⟨i, j, c⟩]) i j (c + 1) := by
  refine ⟨?_, fun e he => ?_⟩
  · rw [List.map_append]
    refine asc_snoc E.a fun y hy => ?_
    obtain ⟨e, he, rfl⟩ := List.mem_map.mp hy
    have := E.e e he
    show HT.lexLt [e.i, e.j, e.c] [i, j, c] = true
    exact lex3 (by omega)
  · rcases List.mem_append.mp he with he | he
    · have := E.e e he; omega
    · have : e = ⟨i, j, c⟩ := by simpa using he
      subst this
      exact ⟨h0, h1, h2, h3, .inr ⟨rfl, .inr ⟨rfl, by show c < c + 1; omega⟩⟩⟩
abbrev tL (tw : List Tri) : Sl := .val (.lst (tw.map Tri.D))
def body3 (k : Nat) : SM := (sSet 7 (xVal (eOp gAdd (oVar 7) (eIf (tB (eOp gEq (eFn 2 (callN BB (k + 1) 40) (aCons (eVar 0) (aCons (eC (.int 2)) aNil))) (eC (.int 1)))) (eFrz (lLst (aCons (eTup (aCons (eVar 8) (aCons (eVar 9) (aCons (eVar 11) aNil)))) aNil))) (eFrz (lLst aNil))))))
def body2 (k : Nat) : SM := (sSeq (sSet 10 (xVal (eFn 2 (callN BB (k + 1) 40) (aCons (eVar 0) (aCons (eC (.int 4)) aNil)))))
  (sSeq (sSet 6 (xVal (eOp gAdd (oVar 6) (eIf (tB (eOp gGt (oVar 10) (eC (.int 0)))) (eFrz (lLst (aCons (eTup (aCons (eVar 8) (aCons (eVar 9) (aCons (eVar 10) aNil)))) aNil))) (eFrz (lLst aNil))))))
  (sFor (iRange2 (aCons (eOp gAdd (oVar 9) (eC (.int 1))) (aCons (eVar 1) aNil))) (tgName 11) (body3 k))))
def body1 (k : Nat) : SM := (sFor (iRange2 (aCons (eOp gAdd (oVar 8) (eC (.int 1))) (aCons (eVar 1) aNil))) (tgName 9) (body2 k))
abbrev NL (x : Sl) : Prop := ∀ xs, x ≠ .lent xs
theorem nl_val (d : D) : NL (.val d) := fun _ h => by cases h
theorem nl_no : NL .no := fun _ h => by cases h
theorem rng_at {N : Nat} {done rest : List Nat} {x : Nat} (e : List.range N = done ++ x :: rest) : x = done.length ∧ x < N := by
  have h1 : (List.range N)[done.length]? = some x := by rw [e]; simp
  obtain ⟨h3, h4⟩ := List.getElem?_eq_some_iff.mp h1
  simp at h3 h4
  omega
theorem l_body3 {M : Nat} (h5 : M ≤ 5) {x2 x3 x4 x5 x10 : Sl} {tw th : List Tri} {i j : Nat} (hij : i < j) (hj : j < M) {x11 : Sl} (n11 : NL x11) (E : ThreesTo M th i j 0) (big : th.length ≤ 1000) (o : s.Ok (n + 3)) : ∃ (th' : List Tri) (y11 : Sl) (s' : WC.St),
    forGo (tgName 11) (body3 k) (rangeD ((j : Int) + 1) ((M : Int) - (j + 1)).toNat) [.val (.ref 0), .val (.int M), x2, x3, x4, x5, tL tw, tL th, .val (.int i), .val (.int j), x10, x11, .no, .no, .no, .no, .no] (s.ob :: T) =
      .nx [.val (.ref 0), .val (.int M), x2, x3, x4, x5, tL tw, tL th', .val (.int i), .val (.int j), x10, y11, .no, .no, .no, .no, .no] (s'.ob :: T) ∧ NL y11 ∧ ThreesTo M th' i (j + 1) 0 ∧ th'.length ≤ th.length + 3 ∧ s'.Ok n := by
  obtain ⟨σ', s2, e2, ⟨th', y11, rfl, ny, E', hl⟩, o2⟩ := for_draw (t := tgName 11) (T := T) (q := 1) (body := body3 k) (fun c : Nat => .int ((j : Int) + 1 + c)) (fun done σ => ∃ (th' : List Tri) (y11 : Sl), σ = [.val (.ref 0), .val (.int M), x2, x3, x4, x5, tL tw, tL th', .val (.int i), .val (.int j), x10, y11, .no, .no, .no, .no, .no] ∧ NL y11 ∧ ThreesTo M th' i j (j + 1 + done.length) ∧ th'.length ≤ th.length + done.length) (List.range ((M : Int) - (j + 1)).toNat) (fun done x rest σ n s e inv o => by
    obtain ⟨th', y11, rfl, ny, E', hl⟩ := inv
    obtain ⟨hx1, hx2⟩ := rng_at e
    obtain ⟨q1, t1, f1, qa, qb, p1⟩ := f_draw k (T := T) (n := n) (m := 2) o (by decide) (by decide)
    have ok1 : tgName 11 (.int ((j : Int) + 1 + x)) [.val (.ref 0), .val (.int M), x2, x3, x4, x5, tL tw, tL th', .val (.int i), .val (.int j), x10, y11, .no, .no, .no, .no, .no] = some [.val (.ref 0), .val (.int M), x2, x3, x4, x5, tL tw, tL th', .val (.int i), .val (.int j), x10, .val (.int ((j : Int) + 1 + x)), .no, .no, .no, .no, .no] := by cases y11 <;> first | rfl | exact absurd rfl (ny _)
    have el : th'.length + 1 ≤ 16777216 := by omega
    have el2 : th'.length ≤ 16777216 := by omega
    by_cases hq : q1 = 1
    · subst hq
      refine ⟨_, _, t1, ok1, .inl ?_, ⟨th' ++ [⟨i, j, (j : Int) + 1 + x⟩], .val (.int ((j : Int) + 1 + x)), rfl, nl_val _, ?_, by simp; omega⟩, p1⟩
      · simp [body3, f1, el]
      · have := E'.add (by omega) (by omega) (show (j : Int) < j + 1 + done.length by omega) (by omega)
        rw [hx1]
        refine this.mono (.inr ⟨rfl, .inr ⟨rfl, ?_⟩⟩)
        simp; omega
    · have hq2 : (q1 == 1) = false := by simpa using hq
      refine ⟨_, _, t1, ok1, .inl ?_, ⟨th', .val (.int ((j : Int) + 1 + x)), rfl, nl_val _, E'.mono (.inr ⟨rfl, .inr ⟨rfl, by simp; omega⟩⟩), by simp; omega⟩, p1⟩
      simp [body3, f1, hq2, el2]) (List.range ((M : Int) - (j + 1)).toNat) [] _ n s rfl ⟨th, x11, rfl, n11, E.mono (.inr ⟨rfl, .inr ⟨rfl, by simp; omega⟩⟩), by simp⟩ (by refine o.mono ?_; rw [List.length_range]; omega)
  refine ⟨th', y11, s2, e2, ny, E'.mono (.inr ⟨rfl, .inl (by omega)⟩), ?_, o2⟩
  rw [List.length_range] at hl
  omega
theorem l_body2 {M : Nat} (h5 : M ≤ 5) {x2 x3 x4 x5 : Sl} {tw0 th0 : List Tri} {i : Nat} (hi : i < M) {x9 x10 x11 : Sl} (n9 : NL x9) (n10 : NL x10) (n11 : NL x11) (E2 : TwosTo M tw0 i 0) (E3 : ThreesTo M th0 i 0 0) (b2 : tw0.length ≤ 500) (b3 : th0.length ≤ 500) (o : s.Ok (n + 20)) : ∃ (tw th : List Tri) (y9 y10 y11 : Sl) (s' : WC.St),
    forGo (tgName 9) (body2 k) (rangeD ((i : Int) + 1) ((M : Int) - (i + 1)).toNat) [.val (.ref 0), .val (.int M), x2, x3, x4, x5, tL tw0, tL th0, .val (.int i), x9, x10, x11, .no, .no, .no, .no, .no] (s.ob :: T) =
      .nx [.val (.ref 0), .val (.int M), x2, x3, x4, x5, tL tw, tL th, .val (.int i), y9, y10, y11, .no, .no, .no, .no, .no] (s'.ob :: T) ∧ NL y9 ∧ NL y10 ∧ NL y11 ∧ TwosTo M tw (i + 1) 0 ∧ ThreesTo M th (i + 1) 0 0 ∧ tw.length ≤ tw0.length + 4 ∧ th.length ≤ th0.length + 12 ∧ s'.Ok n := by
  obtain ⟨σ', s2, e2, ⟨tw, th, y9, y10, y11, rfl, m9, m10, m11, F2, F3, l2, l3⟩, o2⟩ := for_draw (t := tgName 9) (T := T) (q := 4) (body := body2 k) (fun c : Nat => .int ((i : Int) + 1 + c)) (fun done σ => ∃ (tw th : List Tri) (y9 y10 y11 : Sl), σ = [.val (.ref 0), .val (.int M), x2, x3, x4, x5, tL tw, tL th, .val (.int i), y9, y10, y11, .no, .no, .no, .no, .no] ∧ NL y9 ∧ NL y10 ∧ NL y11 ∧ TwosTo M tw i (i + 1 + done.length) ∧ ThreesTo M th i (i + 1 + done.length) 0 ∧ tw.length ≤ tw0.length + done.length ∧ th.length ≤ th0.length + 3 * done.length) (List.range ((M : Int) - (i + 1)).toNat) (fun done x rest σ n s e inv o => by
    obtain ⟨tw, th, y9, y10, y11, rfl, m9, m10, m11, F2, F3, l2, l3⟩ := inv
    obtain ⟨hx1, hx2⟩ := rng_at e
    have hd : done.length ≤ 5 := by omega
    obtain ⟨q1, t1, f1, qa, qb, p1⟩ := f_draw k (T := T) (n := n + 3) (m := 4) o (by decide) (by decide)
    have ok1 : tgName 9 (.int ((i : Int) + 1 + x)) [.val (.ref 0), .val (.int M), x2, x3, x4, x5, tL tw, tL th, .val (.int i), y9, y10, y11, .no, .no, .no, .no, .no] = some [.val (.ref 0), .val (.int M), x2, x3, x4, x5, tL tw, tL th, .val (.int i), .val (.int ((i + 1 + x : Nat) : Int)), y10, y11, .no, .no, .no, .no, .no] := by
      have : ((i + 1 + x : Nat) : Int) = (i : Int) + 1 + x := by omega
      rw [this]
      cases y9 <;> first | rfl | exact absurd rfl (m9 _)
    have ok10 : ∀ s10, setS [.val (.ref 0), .val (.int M), x2, x3, x4, x5, tL tw, tL th, .val (.int i), .val (.int ((i + 1 + x : Nat) : Int)), y10, y11, .no, .no, .no, .no, .no] 10 s10 = some [.val (.ref 0), .val (.int M), x2, x3, x4, x5, tL tw, tL th, .val (.int i), .val (.int ((i + 1 + x : Nat) : Int)), s10, y11, .no, .no, .no, .no, .no] := fun s10 => by cases y10 <;> first | rfl | exact absurd rfl (m10 _)
    obtain ⟨tw', et, F2', l2'⟩ : ∃ tw' : List Tri, (eOp gAdd (oVar 6) (eIf (tB (eOp gGt (oVar 10) (eC (.int 0)))) (eFrz (lLst (aCons (eTup (aCons (eVar 8) (aCons (eVar 9) (aCons (eVar 10) aNil)))) aNil))) (eFrz (lLst aNil)))) [.val (.ref 0), .val (.int M), x2, x3, x4, x5, tL tw, tL th, .val (.int i), .val (.int ((i + 1 + x : Nat) : Int)), .val (.int q1), y11, .no, .no, .no, .no, .no] (t1.ob :: T) = .ok (.lst (tw'.map Tri.D)) (t1.ob :: T) ∧ TwosTo M tw' i (i + 1 + (done ++ [x]).length) ∧ tw'.length ≤ tw.length + 1 := by
      have el : tw.length + 1 ≤ 16777216 := by omega
      have el2 : tw.length ≤ 16777216 := by omega
      by_cases hq : 0 < q1
      · refine ⟨tw ++ [⟨i, (i + 1 + x : Nat), q1⟩], ?_, ?_, by simp⟩
        · simp [hq, el]
        · have := F2.add (c := q1) (by omega) (by omega) (show (i : Int) + 1 + done.length < M by omega) (by omega) (by omega)
          rw [show ((i + 1 + x : Nat) : Int) = (i : Int) + 1 + done.length by omega]
          exact this.mono (.inr ⟨rfl, by simp; omega⟩)
      · refine ⟨tw, ?_, F2.mono (.inr ⟨rfl, by simp; omega⟩), by simp⟩
        simp [hq, el2]
    have F3' : ThreesTo M th i (i + 1 + x : Nat) 0 := F3.mono (.inr ⟨rfl, by right; omega⟩)
    obtain ⟨th', y11', s3, e3, m11', G3, l3', o3⟩ := l_body3 k (T := T) (n := n) (s := t1) h5 (x2 := x2) (x3 := x3) (x4 := x4) (x5 := x5) (x10 := .val (.int q1)) (tw := tw') (th := th) (i := i) (j := i + 1 + x) (by omega) (by omega) m11 F3' (by omega) p1
    refine ⟨_, [.val (.ref 0), .val (.int M), x2, x3, x4, x5, tL tw', tL th', .val (.int i), .val (.int ((i + 1 + x : Nat) : Int)), .val (.int q1), y11', .no, .no, .no, .no, .no], s3, ok1, .inl ?_, ⟨tw', th', .val (.int ((i + 1 + x : Nat) : Int)), .val (.int q1), y11', rfl, nl_val _, nl_val _, m11', F2', ?_, ?_, ?_⟩, o3⟩
    · have r2 := range2_ok (a := eOp gAdd (oVar 9) (eC (.int 1))) (b := eVar 1) (σ := [.val (.ref 0), .val (.int M), x2, x3, x4, x5, tL tw', tL th, .val (.int i), .val (.int ((i + 1 + x : Nat) : Int)), .val (.int q1), y11, .no, .no, .no, .no, .no]) (h := t1.ob :: T) (i := ((i + 1 + x : Nat) : Int) + 1) (j := M) (by simp) (by simp) (by omega) (by omega) (by omega) (by omega)
      show (match sSet 10 _ _ _ with | .nx σ' h' => sSeq _ _ σ' h' | r => r) = _
      have s10 : sSet 10 (xVal (eFn 2 (callN BB (k + 1) 40) (aCons (eVar 0) (aCons (eC (.int 4)) aNil)))) [.val (.ref 0), .val (.int M), x2, x3, x4, x5, tL tw, tL th, .val (.int i), .val (.int ((i + 1 + x : Nat) : Int)), y10, y11, .no, .no, .no, .no, .no] (s.ob :: T) = .nx [.val (.ref 0), .val (.int M), x2, x3, x4, x5, tL tw, tL th, .val (.int i), .val (.int ((i + 1 + x : Nat) : Int)), .val (.int q1), y11, .no, .no, .no, .no, .no] (t1.ob :: T) := by
        have := ok10 (.val (.int q1))
        simp only [e_setS] at this
        simp [f1, this]
      rw [s10]
      show (match sSet 6 _ _ _ with | .nx σ' h' => sFor _ _ _ σ' h' | r => r) = _
      rw [e_sSet, e_xVal, et]
      show sFor _ _ _ [.val (.ref 0), .val (.int M), x2, x3, x4, x5, tL tw', tL th, .val (.int i), .val (.int ((i + 1 + x : Nat) : Int)), .val (.int q1), y11, .no, .no, .no, .no, .no] (t1.ob :: T) = _
      rw [e_sFor, r2, e_eDo_ok]
      exact e3
    · refine G3.mono (.inr ⟨rfl, .inr ⟨?_, Int.le_refl _⟩⟩)
      simp; omega
    · simp; omega
    · simp; omega) (List.range ((M : Int) - (i + 1)).toNat) [] _ n s rfl ⟨tw0, th0, x9, x10, x11, rfl, n9, n10, n11, E2.mono (.inr ⟨rfl, by simp; omega⟩), E3.mono (.inr ⟨rfl, .inl (by omega)⟩), by simp, by simp⟩ (by refine o.mono ?_; rw [List.length_range]; omega)
  rw [List.length_range] at l2 l3
  exact ⟨tw, th, y9, y10, y11, s2, e2, m9, m10, m11, F2.mono (.inl (by omega)), F3.mono (.inl (by omega)), by omega, by omega, o2⟩
end WP
set_option Elab.async false
set_option linter.all false
set_option maxRecDepth 100000
namespace WP
open PySem PySem.Spec PyProof.Rows L2 WC
variable (k : Nat) {T : Hs} {n : Nat} {s : WC.St}
theorem l_body1 {M : Nat} (h5 : M ≤ 5) {x2 x3 x4 x5 : Sl} (o : s.Ok (n + 100)) {r : RS} (hr : forGo (tgName 8) (body1 k) (rangeD 0 M) [.val (.ref 0), .val (.int M), x2, x3, x4, x5, tL [], tL [], .no, .no, .no, .no, .no, .no, .no, .no, .no] (s.ob :: T) = r) : ∃ (tw th : List Tri) (y8 y9 y10 y11 : Sl) (s' : WC.St),
    r = .nx [.val (.ref 0), .val (.int M), x2, x3, x4, x5, tL tw, tL th, y8, y9, y10, y11, .no, .no, .no, .no, .no] (s'.ob :: T) ∧ TwosTo M tw M 0 ∧ ThreesTo M th M 0 0 ∧ tw.length ≤ 20 ∧ th.length ≤ 60 ∧ s'.Ok n := by
  obtain ⟨σ', s2, rfl, ⟨tw, th, y8, y9, y10, y11, rfl, m8, m9, m10, m11, F2, F3, l2, l3⟩, o2⟩ := for_draw_of hr (fun i : Nat => .int (0 + i)) (List.range M) rfl (fun done σ => ∃ (tw th : List Tri) (y8 y9 y10 y11 : Sl), σ = [.val (.ref 0), .val (.int M), x2, x3, x4, x5, tL tw, tL th, y8, y9, y10, y11, .no, .no, .no, .no, .no] ∧ NL y8 ∧ NL y9 ∧ NL y10 ∧ NL y11 ∧ TwosTo M tw done.length 0 ∧ ThreesTo M th done.length 0 0 ∧ tw.length ≤ 4 * done.length ∧ th.length ≤ 12 * done.length) ⟨[], [], .no, .no, .no, .no, rfl, nl_no, nl_no, nl_no, nl_no, ⟨fun p hp => by simp at hp, by simp⟩, ⟨fun p hp => by simp at hp, by simp⟩, by simp, by simp⟩ 20 n (by refine o.mono ?_; rw [List.length_range]; omega) (fun done x rest σ n s e inv o => by
    obtain ⟨tw, th, y8, y9, y10, y11, rfl, m8, m9, m10, m11, F2, F3, l2, l3⟩ := inv
    obtain ⟨hx1, hx2⟩ := rng_at e
    have hd : done.length ≤ 5 := by omega
    have ok1 : tgName 8 (.int (0 + (x : Int))) [.val (.ref 0), .val (.int M), x2, x3, x4, x5, tL tw, tL th, y8, y9, y10, y11, .no, .no, .no, .no, .no] = some [.val (.ref 0), .val (.int M), x2, x3, x4, x5, tL tw, tL th, .val (.int (x : Int)), y9, y10, y11, .no, .no, .no, .no, .no] := by
      rw [Int.zero_add]
      cases y8 <;> first | rfl | exact absurd rfl (m8 _)
    obtain ⟨tw', th', z9, z10, z11, s3, e3, p9, p10, p11, G2, G3, l2', l3', o3⟩ := l_body2 k (T := T) (n := n) (s := s) h5 (x2 := x2) (x3 := x3) (x4 := x4) (x5 := x5) (tw0 := tw) (th0 := th) (i := x) hx2 m9 m10 m11 (by rw [hx1]; exact F2) (by rw [hx1]; exact F3) (by omega) (by omega) o
    refine ⟨_, [.val (.ref 0), .val (.int M), x2, x3, x4, x5, tL tw', tL th', .val (.int (x : Int)), z9, z10, z11, .no, .no, .no, .no, .no], s3, ok1, .inl ?_, ⟨tw', th', .val (.int (x : Int)), z9, z10, z11, rfl, nl_val _, p9, p10, p11, ?_, ?_, ?_, ?_⟩, o3⟩
    · have r2 := range2_ok (a := eOp gAdd (oVar 8) (eC (.int 1))) (b := eVar 1) (σ := [.val (.ref 0), .val (.int M), x2, x3, x4, x5, tL tw, tL th, .val (.int (x : Int)), y9, y10, y11, .no, .no, .no, .no, .no]) (h := s.ob :: T) (i := (x : Int) + 1) (j := M) (by simp) (by simp) (by omega) (by omega) (by omega) (by omega)
      show sFor _ _ _ _ _ = _
      rw [e_sFor, r2, e_eDo_ok]
      exact e3
    · rw [show ((done ++ [x]).length : Int) = x + 1 by simp; omega]; exact G2
    · rw [show ((done ++ [x]).length : Int) = x + 1 by simp; omega]; exact G3
    · simp; omega
    · simp; omega)
  rw [List.length_range] at F2 F3 l2 l3
  exact ⟨tw, th, y8, y9, y10, y11, s2, rfl, F2, F3, by omega, by omega, o2⟩
end WP
set_option Elab.async false
set_option linter.all false
set_option maxRecDepth 100000
namespace WP
open PySem PySem.Spec PyProof.Rows L2 WC
variable (k : Nat) {T : Hs} {n : Nat} {s : WC.St}
def cntF (M : Nat) : Nat := if 1 < M then 2 * M else 0
theorem f_cnt {M : Nat} (h5 : M ≤ 5) {σ : Sg} {h : Hs} (e : σ[1]? = some (.val (.int M))) : iRange1 (aCons (eOp gMul (eOp gMul (eC (.int 2)) (oVar 1)) (eCall gIntA (aCons (eOp gGt (oVar 1) (eC (.int 1))) aNil))) aNil) σ h = .ok (rangeD 0 (cntF M)) h := by
  have m1 : cMul 2 (M : Int) = true := cMul_l (by decide)
  have m2 : ∀ z : Int, cMul (2 * (M : Int)) z = true := fun z => cMul_l (by omega)
  have := range1_ok (a := eOp gMul (eOp gMul (eC (.int 2)) (oVar 1)) (eCall gIntA (aCons (eOp gGt (oVar 1) (eC (.int 1))) aNil))) (σ := σ) (h := h) (j := cntF M) (by
    by_cases hM : 1 < M
    · have : (1 : Int) < M := by omega
      simp [e, g_mulOk m1, g_mulOk (m2 _), hM, this, cntF]
    · have : ¬ (1 : Int) < M := by omega
      simp [e, g_mulOk m1, g_mulOk (m2 _), hM, this, cntF]) (by omega) (by unfold cntF; split <;> omega)
  rw [this]
  rfl
def tailB (k : Nat) : SM := (sSeq (sSet 12 (xVal (eCall gTuple (aCons (eFrz (lcL (iRange1 (aCons (eVar 1) aNil)) (tgName 11) tYesM (eFn 2 (callN BB (k + 1) 40) (aCons (eVar 0) (aCons (eC (.int 8)) aNil))) [11])) aNil))))
  (sSeq (sSet 13 (xVal (eMeth .str gJoin (eC (.str [])) (aCons (eFrz (lcL (iRange1 (aCons (eVar 1) aNil)) (tgName 11) tYesM (eOp atD (eC (.str [48, 49])) (eFn 2 (callN BB (k + 1) 40) (aCons (eVar 0) (aCons (eC (.int 2)) aNil)))) [11])) aNil))))
  (sSeq (sSet 14 (xVal (eCall gTuple (aCons (eFrz (lcL (iVal (oVar 2)) (tgName 15) tYesM (eMeth .str gJoin (eC (.str [])) (aCons (eFrz (lcL (iVal (oVar 15)) (tgName 16) tYesM (eCall gStrI (aCons (oVar 16) aNil)) [16])) aNil)) [15])) aNil))))
  (sRet (eTup (aCons (eVar 1) (aCons (eFn 2 (callN BB (k + 1) 40) (aCons (eVar 0) (aCons (eC (.int 8)) aNil))) (aCons (eVar 12) (aCons (eCall gTuple (aCons (oVar 6) aNil)) (aCons (eCall gTuple (aCons (oVar 7) aNil)) (aCons (eVar 14) (aCons (eVar 13) aNil))))))))))))
theorem bit_str (b : Bool) : strI (if b then 1 else 0) = [if b then 49 else 48] := by cases b <;> rfl
theorem f_words {M : Nat} (h5 : M ≤ 5) {rows : List (List Bool)} (R : RowsOk M rows) {h : Hs} {x1 x3 x4 x5 x6 x7 y8 y9 y10 y11 y12 y13 : Sl} : lcL (iVal (oVar 2)) (tgName 15) tYesM (eMeth .str gJoin (eC (.str [])) (aCons (eFrz (lcL (iVal (oVar 15)) (tgName 16) tYesM (eCall gStrI (aCons (oVar 16) aNil)) [16])) aNil)) [15]
    [.val (.ref 0), x1, .own (rows.map rD), x3, x4, x5, x6, x7, y8, y9, y10, y11, y12, y13, .no, .no, .no] h = .ok (rows.map fun r => .str (wd r)) h := by
  refine lc_typed rows rD (fun r => .str (wd r)) (by simp) (by have := R.n; omega) fun r hr => ⟨_, rfl, ?_⟩
  have hl := R.l r hr
  have e2 := lc_typed (m := iVal (oVar 15)) (t := tgName 16) (vs := [16]) (te := eCall gStrI (aCons (oVar 16) aNil)) (σ := [.val (.ref 0), x1, .own (rows.map rD), x3, x4, x5, x6, x7, y8, y9, y10, y11, y12, y13, .no, .val (rD r), .no]) (h := h) r bI (fun b => .str [if b then 49 else 48]) (by simp) (by omega) fun b hb => ⟨_, rfl, by
    have : (if b then (1 : Int) else 0).natAbs.log2 < 1920 := by cases b <;> decide
    simp [this, bit_str]⟩
  have e3 := g_joinM (h := h) (a := []) (xs := r) (p := fun b => [if b then 49 else 48]) 1 (by simp) (by simp; omega)
  have e4 : joinD [] (r.map fun b => [if b then 49 else 48]) = wd r := by
    have := joinD_nil (wd r)
    unfold wd at this ⊢
    rw [List.map_map] at this
    exact this
  rw [e4] at e3
  show eMeth _ _ _ _ [.val (.ref 0), x1, .own (rows.map rD), x3, x4, x5, x6, x7, y8, y9, y10, y11, y12, y13, .no, .val (rD r), .no] h = _
  simp [e2, tyM, e3]
end WP
set_option Elab.async false
set_option linter.all false
set_option maxRecDepth 100000
namespace WP
open PySem PySem.Spec PyProof.Rows L2 WC
variable (k : Nat) {T : Hs} {n : Nat} {s : WC.St}
theorem e_join {σ : Sg} {h h' : Hs} {a l : List Nat} {L : LM} {ys : List D} (e : L σ h = .ok ys h') (j : gJoin h' (.str a) [.lst ys] = some (.str l)) : eMeth .str gJoin (eC (.str a)) (aCons (eFrz L) aNil) σ h = .ok (.str l) h' := by
  rw [e_eMeth, e_eC, R.bind_ok, if_pos (show tyM .str h (.str a) = true from rfl), e_aCons, e_eFrz, e, R.bind_ok, R.bind_ok, e_aNil, R.bind_ok, R.bind_ok, j]
  rfl
theorem f_tail {M : Nat} (h1 : 1 ≤ M) (h5 : M ≤ 5) {rows : List (List Bool)} (R : RowsOk M rows) {tw th : List Tri} {x3 x4 x5 y8 y9 y10 y11 : Sl} (E2 : TwosTo M tw M 0) (E3 : ThreesTo M th M 0 0) (l2 : tw.length ≤ 20) (l3 : th.length ≤ 60) (o : s.Ok (n + 20)) : ∃ (f : Frm) (s' : WC.St),
    tailB k [.val (.ref 0), .val (.int M), .own (rows.map rD), x3, x4, x5, tL tw, tL th, y8, y9, y10, y11, .no, .no, .no, .no, .no] (s.ob :: T) = .rt f.D (s'.ob :: T) ∧ FrmOk f ∧ s'.Ok n := by
  have hr : ∀ (σ : Sg) (h : Hs), σ[1]? = some (.val (.int M)) → iRange1 (aCons (eVar 1) aNil) σ h = .ok (rangeD 0 M) h := fun σ h e => by
    have := range1_ok (a := eVar 1) (σ := σ) (h := h) (j := M) (by simp [e]) (by omega) (by omega)
    rw [this]
    rfl
  obtain ⟨ones, s1, e1, lo, po, o1⟩ := lc_draw (α := Int) (m := iRange1 (aCons (eVar 1) aNil)) (t := tgName 11) (te := eFn 2 (callN BB (k + 1) 40) (aCons (eVar 0) (aCons (eC (.int 8)) aNil))) (vs := [11]) (σ := [.val (.ref 0), .val (.int M), .own (rows.map rD), x3, x4, x5, tL tw, tL th, y8, y9, y10, y11, .no, .no, .no, .no, .no]) (T := T) (n := n + 10) (q := 1) (s := s) (List.range M) (fun i : Nat => .int (0 + i)) D.int (fun y => 0 ≤ y ∧ y ≤ 7) (hr _ _ rfl) (by simp; omega) (by refine o.mono ?_; rw [List.length_range]; omega) fun x hx n s o => by
    obtain ⟨q1, t1, f1, qa, qb, p1⟩ := f_draw k (T := T) (n := n) (m := 8) o (by decide) (by decide)
    exact ⟨_, q1, t1, rfl, by simp [f1], ⟨qa, by omega⟩, p1⟩
  obtain ⟨w, s2, e2, lw, pw, o2⟩ := f_letters k (n := n + 2) (T := T) (s := s1) (m := M) (by omega) (by omega) (A := [48, 49]) (q := 2) rfl (by decide) (by decide) (σ := [.val (.ref 0), .val (.int M), .own (rows.map rD), x3, x4, x5, tL tw, tL th, y8, y9, y10, y11, .val (.tup (ones.map .int)), .no, .no, .no, .no]) (mm := iRange1 (aCons (eVar 1) aNil)) (t := tgName 11) (vs := [11]) (te := eOp atD (eC (.str [48, 49])) (eFn 2 (callN BB (k + 1) 40) (aCons (eVar 0) (aCons (eC (.int 2)) aNil)))) (o1.mono (by omega)) (hr _ _ rfl) fun x => ⟨_, rfl, fun n s o r s' e => by simp [e]⟩
  obtain ⟨q1, s3, f3, qa, qb, o3⟩ := f_draw k (T := T) (n := n) (m := 8) (o2.mono (by omega)) (by decide) (by decide)
  have lw' : w.length = M := by omega
  have j1 := g_joinM (h := s2.ob :: T) (a := []) (xs := w) (p := fun c => [c]) 1 (by simp) (by simp; omega)
  rw [joinD_nil] at j1
  have hw := f_words h5 R (h := s2.ob :: T) (x1 := .val (.int M)) (x3 := x3) (x4 := x4) (x5 := x5) (x6 := tL tw) (x7 := tL th) (y8 := y8) (y9 := y9) (y10 := y10) (y11 := y11) (y12 := .val (.tup (ones.map .int))) (y13 := .val (.str w))
  refine ⟨⟨M, q1, ones, tw, th, rows.map wd, w⟩, s3, ?_, ?_, o3⟩
  · have s12 : sSet 12 (xVal (eCall gTuple (aCons (eFrz (lcL (iRange1 (aCons (eVar 1) aNil)) (tgName 11) tYesM (eFn 2 (callN BB (k + 1) 40) (aCons (eVar 0) (aCons (eC (.int 8)) aNil))) [11])) aNil))) [.val (.ref 0), .val (.int M), .own (rows.map rD), x3, x4, x5, tL tw, tL th, y8, y9, y10, y11, .no, .no, .no, .no, .no] (s.ob :: T) = .nx [.val (.ref 0), .val (.int M), .own (rows.map rD), x3, x4, x5, tL tw, tL th, y8, y9, y10, y11, .val (.tup (ones.map .int)), .no, .no, .no, .no] (s1.ob :: T) := by
      rw [e_sSet, e_xVal, e_eCall, e_aCons, e_eFrz, e1]
      rfl
    have s13 : sSet 13 (xVal (eMeth .str gJoin (eC (.str [])) (aCons (eFrz (lcL (iRange1 (aCons (eVar 1) aNil)) (tgName 11) tYesM (eOp atD (eC (.str [48, 49])) (eFn 2 (callN BB (k + 1) 40) (aCons (eVar 0) (aCons (eC (.int 2)) aNil)))) [11])) aNil))) [.val (.ref 0), .val (.int M), .own (rows.map rD), x3, x4, x5, tL tw, tL th, y8, y9, y10, y11, .val (.tup (ones.map .int)), .no, .no, .no, .no] (s1.ob :: T) = .nx [.val (.ref 0), .val (.int M), .own (rows.map rD), x3, x4, x5, tL tw, tL th, y8, y9, y10, y11, .val (.tup (ones.map .int)), .val (.str w), .no, .no, .no] (s2.ob :: T) := by
      rw [e_sSet, e_xVal, e_join e2 j1]
      rfl
    have s14 : sSet 14 (xVal (eCall gTuple (aCons (eFrz (lcL (iVal (oVar 2)) (tgName 15) tYesM (eMeth .str gJoin (eC (.str [])) (aCons (eFrz (lcL (iVal (oVar 15)) (tgName 16) tYesM (eCall gStrI (aCons (oVar 16) aNil)) [16])) aNil)) [15])) aNil))) [.val (.ref 0), .val (.int M), .own (rows.map rD), x3, x4, x5, tL tw, tL th, y8, y9, y10, y11, .val (.tup (ones.map .int)), .val (.str w), .no, .no, .no] (s2.ob :: T) = .nx [.val (.ref 0), .val (.int M), .own (rows.map rD), x3, x4, x5, tL tw, tL th, y8, y9, y10, y11, .val (.tup (ones.map .int)), .val (.str w), .val (.tup (rows.map fun r => .str (wd r))), .no, .no] (s2.ob :: T) := by
      rw [e_sSet, e_xVal, e_eCall, e_aCons, e_eFrz, hw]
      rfl
    have fn : (eFn 2 (callN BB (k + 1) 40) (aCons (eVar 0) (aCons (eC (.int 8)) aNil))) [.val (.ref 0), .val (.int M), .own (rows.map rD), x3, x4, x5, tL tw, tL th, y8, y9, y10, y11, .val (.tup (ones.map .int)), .val (.str w), .val (.tup (rows.map fun r => .str (wd r))), .no, .no] (s2.ob :: T) = .ok (.int q1) (s3.ob :: T) := f3
    have fin : (sRet (eTup (aCons (eVar 1) (aCons (eFn 2 (callN BB (k + 1) 40) (aCons (eVar 0) (aCons (eC (.int 8)) aNil))) (aCons (eVar 12) (aCons (eCall gTuple (aCons (oVar 6) aNil)) (aCons (eCall gTuple (aCons (oVar 7) aNil)) (aCons (eVar 14) (aCons (eVar 13) aNil))))))))) [.val (.ref 0), .val (.int M), .own (rows.map rD), x3, x4, x5, tL tw, tL th, y8, y9, y10, y11, .val (.tup (ones.map .int)), .val (.str w), .val (.tup (rows.map fun r => .str (wd r))), .no, .no] (s2.ob :: T) = RS.rt (.tup [.int M, .int q1, .tup (ones.map .int), .tup (tw.map Tri.D), .tup (th.map Tri.D), .tup (rows.map fun r => .str (wd r)), .str w]) (s3.ob :: T) := by
      simp [f3]
    unfold tailB
    rw [e_sSeq, s12]
    dsimp only
    rw [e_sSeq, s13]
    dsimp only
    rw [e_sSeq, s14]
    dsimp only
    rw [fin]
    show RS.rt (.tup [.int M, .int q1, .tup (ones.map .int), .tup (tw.map Tri.D), .tup (th.map Tri.D), .tup (rows.map fun r => .str (wd r)), .str w]) (s3.ob :: T) = RS.rt (.tup [.int M, .int q1, .tup (ones.map .int), .tup (tw.map Tri.D), .tup (th.map Tri.D), .tup ((rows.map wd).map .str), .str w]) (s3.ob :: T)
    rw [List.map_map]
    rfl
  · refine ⟨by show 1 ≤ (M : Int); omega, by show (M : Int) ≤ 5; omega, qa, by show q1 ≤ 7; omega, ?_, po, by show tw.length ≤ 100; omega, fun x hx => ?_, E2.a, by show th.length ≤ 100; omega, fun x hx => ?_, E3.a, ?_, fun x hx => ?_, ?_, ?_, fun c hc => ?_⟩
    · show (ones.length : Int) = M; rw [lo]; simp
    · have := E2.e x hx
      exact ⟨this.1, this.2.1, this.2.2.1, this.2.2.2.1, this.2.2.2.2.1⟩
    · have := E3.e x hx
      exact ⟨this.1, this.2.1, this.2.2.1, this.2.2.2.1⟩
    · show ((rows.map wd).length : Int) = M; rw [List.length_map, R.n]
    · obtain ⟨r, hr, rfl⟩ := List.mem_map.mp hx
      have hl := R.l r hr
      refine ⟨by unfold wd; rw [List.length_map, hl], fun c hc => ?_⟩
      unfold wd at hc
      obtain ⟨b, _, rfl⟩ := List.mem_map.mp hc
      cases b <;> simp
    · show indep [] ((rows.map wd).map fun x => (Bn.num2 x : Int)) = true
      have e : (rows.map wd).map (fun x => (Bn.num2 x : Int)) = (rows.map vb).map fun x : Nat => (x : Int) := by
        rw [List.map_map, List.map_map]
        refine List.map_congr_left fun r _ => ?_
        show (Bn.num2 (wd r) : Int) = (vb r : Int)
        rw [num2_wd]
      rw [e]
      refine indep_of R.i fun x hx => ?_
      obtain ⟨r, hr, rfl⟩ := List.mem_map.mp hx
      exact vb_32 (by have := R.l r hr; omega)
    · show (w.length : Int) = M; omega
    · have := pw c hc
      simpa using this
end WP
set_option Elab.async false
set_option linter.all false
set_option maxRecDepth 100000
namespace WP
open PySem PySem.Spec PyProof.Rows L2 WC
variable (k : Nat) {T : Hs} {n : Nat} {s : WC.St}
theorem f_lawForm {m : Int} (m0 : 1 ≤ m) (m1 : m ≤ 5) (o : s.Ok (n + 200)) : ∃ (f : Frm) (s' : WC.St), callN BB (k + 2) 45 [.ref 0, .int m] (s.ob :: T) = .ok f.D (s'.ob :: T) ∧ FrmOk f ∧ s'.Ok n := by
  obtain ⟨M, rfl⟩ : ∃ M : Nat, m = M := ⟨m.toNat, by omega⟩
  have h1 : 1 ≤ M := by omega
  have h5 : M ≤ 5 := by omega
  have hc : cntF M ≤ 10 ∧ (M = 1 → cntF M = 0) := by unfold cntF; split <;> omega
  have a1 := f_unit h5 (h := s.ob :: T)
  generalize hr1 : forGo (tgName 3) (rowBody k) (rangeD 0 (cntF M)) [.val (.ref 0), .val (.int M), .own ((unit M).map rD), .no, .no, .no, .no, .no, .no, .no, .no, .no, .no, .no, .no, .no, .no] (s.ob :: T) = r1
  obtain ⟨rows, x3, x4, x5, s1, rfl, R, o1⟩ := f_rowsLoop k (T := T) (n := n + 150) (s := s) h1 h5 hc.1 hc.2 (o.mono (by omega)) hr1
  generalize hr2 : forGo (tgName 8) (body1 k) (rangeD 0 M) [.val (.ref 0), .val (.int M), .own (rows.map rD), x3, x4, x5, tL [], tL [], .no, .no, .no, .no, .no, .no, .no, .no, .no] (s1.ob :: T) = r2
  obtain ⟨tw, th, y8, y9, y10, y11, s2, rfl, E2, E3, l2, l3, o2⟩ := l_body1 k (T := T) (n := n + 50) (s := s1) h5 (o1.mono (by omega)) hr2
  obtain ⟨f, s3, e3, fo, o3⟩ := f_tail k (T := T) (n := n) (s := s2) h1 h5 R (x3 := x3) (x4 := x4) (x5 := x5) (y8 := y8) (y9 := y9) (y10 := y10) (y11 := y11) E2 E3 l2 l3 (o2.mono (by omega))
  refine ⟨f, s3, ?_, fo, o3⟩
  have hM : ∀ h : Hs, iRange1 (aCons (eVar 1) aNil) [.val (.ref 0), .val (.int M), .own (rows.map rD), x3, x4, x5, tL [], tL [], .no, .no, .no, .no, .no, .no, .no, .no, .no] h = .ok (rangeD 0 M) h := fun h => by
    have := range1_ok (a := eVar 1) (σ := [.val (.ref 0), .val (.int M), .own (rows.map rD), x3, x4, x5, tL [], tL [], .no, .no, .no, .no, .no, .no, .no, .no, .no]) (h := h) (j := M) (by simp) (by omega) (by omega)
    rw [this]
    rfl
  have body : b_45 (callN BB (k + 1)) [.val (.ref 0), .val (.int M), .no, .no, .no, .no, .no, .no, .no, .no, .no, .no, .no, .no, .no, .no, .no] (s.ob :: T) = .rt f.D (s3.ob :: T) := by
    have st2 : sSet 2 (xOwn (lcL (iRange1 (aCons (eVar 1) aNil)) (tgName 11) tYesM (eFrz (lcL (iRange1 (aCons (eVar 1) aNil)) (tgName 8) tYesM (eCall gIntA (aCons (eOp gEq (oVar 8) (oVar 11)) aNil)) [8])) [11])) [.val (.ref 0), .val (.int M), .no, .no, .no, .no, .no, .no, .no, .no, .no, .no, .no, .no, .no, .no, .no] (s.ob :: T) = .nx [.val (.ref 0), .val (.int M), .own ((unit M).map rD), .no, .no, .no, .no, .no, .no, .no, .no, .no, .no, .no, .no, .no, .no] (s.ob :: T) := by
      rw [e_sSet, e_xOwn, a1]
      rfl
    have s3' : (sFor (iRange1 (aCons (eOp gMul (eOp gMul (eC (.int 2)) (oVar 1)) (eCall gIntA (aCons (eOp gGt (oVar 1) (eC (.int 1))) aNil))) aNil)) (tgName 3) (rowBody k)) [.val (.ref 0), .val (.int M), .own ((unit M).map rD), .no, .no, .no, .no, .no, .no, .no, .no, .no, .no, .no, .no, .no, .no] (s.ob :: T) = .nx [.val (.ref 0), .val (.int M), .own (rows.map rD), x3, x4, x5, .no, .no, .no, .no, .no, .no, .no, .no, .no, .no, .no] (s1.ob :: T) := by
      rw [e_sFor, f_cnt h5 rfl, e_eDo_ok, hr1]
    have s4 : (sPar2 6 7 (xsCons (xVal (eFrz (lLst aNil))) (xsCons (xVal (eFrz (lLst aNil))) xsNil))) [.val (.ref 0), .val (.int M), .own (rows.map rD), x3, x4, x5, .no, .no, .no, .no, .no, .no, .no, .no, .no, .no, .no] (s1.ob :: T) = .nx [.val (.ref 0), .val (.int M), .own (rows.map rD), x3, x4, x5, tL [], tL [], .no, .no, .no, .no, .no, .no, .no, .no, .no] (s1.ob :: T) := by
      simp
    have s5 : (sFor (iRange1 (aCons (eVar 1) aNil)) (tgName 8) (body1 k)) [.val (.ref 0), .val (.int M), .own (rows.map rD), x3, x4, x5, tL [], tL [], .no, .no, .no, .no, .no, .no, .no, .no, .no] (s1.ob :: T) = .nx [.val (.ref 0), .val (.int M), .own (rows.map rD), x3, x4, x5, tL tw, tL th, y8, y9, y10, y11, .no, .no, .no, .no, .no] (s2.ob :: T) := by
      rw [e_sFor, hM, e_eDo_ok, hr2]
    have eb : b_45 (callN BB (k + 1)) = sSeq (sSet 2 (xOwn (lcL (iRange1 (aCons (eVar 1) aNil)) (tgName 11) tYesM (eFrz (lcL (iRange1 (aCons (eVar 1) aNil)) (tgName 8) tYesM (eCall gIntA (aCons (eOp gEq (oVar 8) (oVar 11)) aNil)) [8])) [11]))) (sSeq (sFor (iRange1 (aCons (eOp gMul (eOp gMul (eC (.int 2)) (oVar 1)) (eCall gIntA (aCons (eOp gGt (oVar 1) (eC (.int 1))) aNil))) aNil)) (tgName 3) (rowBody k)) (sSeq (sPar2 6 7 (xsCons (xVal (eFrz (lLst aNil))) (xsCons (xVal (eFrz (lLst aNil))) xsNil))) (sSeq (sFor (iRange1 (aCons (eVar 1) aNil)) (tgName 8) (body1 k)) (tailB k)))) := rfl
    rw [eb, e_sSeq, st2]
    dsimp only
    rw [e_sSeq, s3']
    dsimp only
    rw [e_sSeq, s4]
    dsimp only
    rw [e_sSeq, s5]
    dsimp only
    exact e3
  rw [u_45, e_defF]
  have st : startS 17 [.ref 0, .int (M : Int)] = [.val (.ref 0), .val (.int M), .no, .no, .no, .no, .no, .no, .no, .no, .no, .no, .no, .no, .no, .no, .no] := rfl
  rw [st, body]
end WP
set_option Elab.async false
set_option linter.all false
set_option maxRecDepth 100000
namespace WP
open PySem PySem.Spec PyProof.Rows L2 WC
variable (k : Nat) {T : Hs} {n : Nat} {s : WC.St}
theorem f_thNum (o : s.Ok (n + 20)) : ∃ (x : Num) (s' : WC.St), callN BB (k + 3) 49 [.ref 0, .str [110, 117, 109, 98, 101, 114]] (s.ob :: T) = .ok x.D (s'.ob :: T) ∧ x.Ok ∧ s'.Ok n := by
  obtain ⟨q1, t1, f1, qa, qb, p1⟩ := f_draw (k + 1) (T := T) (n := n + 19) (m := 5) o (by decide) (by decide)
  obtain ⟨q2, t2, f2, qc, qd, p2⟩ := f_draw (k + 1) (T := T) (n := n + 18) (m := 61) p1 (by decide) (by decide)
  obtain ⟨x, s', e, xo, so⟩ := f_lawNum k (T := T) (n := n) (s := t2) (most := q2) qc (by omega) (p2.mono (by omega))
  refine ⟨x, s', ?_, xo, so⟩
  rw [u_49]
  simp [b_49, f1, f2, e]
theorem f_thPau (o : s.Ok (n + 20)) : ∃ (x : Pau) (s' : WC.St), callN BB (k + 3) 49 [.ref 0, .str [112, 97, 117, 108, 105]] (s.ob :: T) = .ok x.D (s'.ob :: T) ∧ POk x ∧ s'.Ok n := by
  obtain ⟨q1, t1, f1, qa, qb, p1⟩ := f_draw (k + 1) (T := T) (n := n + 19) (m := 5) o (by decide) (by decide)
  obtain ⟨x, s', e, xo, _, so⟩ := f_lawPau k (T := T) (n := n) (s := t1) (m := 1 + q1) (by omega) (by omega) (p1.mono (by omega))
  refine ⟨x, s', ?_, xo, so⟩
  rw [u_49]
  simp [b_49, f1, e]
theorem f_thGra (o : s.Ok (n + 60)) : ∃ (x : Gra) (s' : WC.St), callN BB (k + 3) 49 [.ref 0, .str [103, 114, 97, 112, 104]] (s.ob :: T) = .ok x.D (s'.ob :: T) ∧ GrOk x ∧ s'.Ok n := by
  obtain ⟨q1, t1, f1, qa, qb, p1⟩ := f_draw (k + 1) (T := T) (n := n + 59) (m := 5) o (by decide) (by decide)
  obtain ⟨q2, t2, f2, qc, qd, p2⟩ := f_draw (k + 1) (T := T) (n := n + 58) (m := 7) p1 (by decide) (by decide)
  obtain ⟨x, s', e, xo, so⟩ := f_lawGraph k (T := T) (n := n) (s := t2) (m := 1 + q2) (by omega) (by omega) (p2.mono (by omega))
  refine ⟨x, s', ?_, xo, so⟩
  rw [u_49]
  simp [b_49, f1, f2, e]
theorem f_thFrm (o : s.Ok (n + 210)) : ∃ (x : Frm) (s' : WC.St), callN BB (k + 3) 49 [.ref 0, .str [102, 111, 114, 109]] (s.ob :: T) = .ok x.D (s'.ob :: T) ∧ FrmOk x ∧ s'.Ok n := by
  obtain ⟨q1, t1, f1, qa, qb, p1⟩ := f_draw (k + 1) (T := T) (n := n + 209) (m := 5) o (by decide) (by decide)
  obtain ⟨x, s', e, xo, so⟩ := f_lawForm k (T := T) (n := n) (s := t1) (m := 1 + q1) (by omega) (by omega) (p1.mono (by omega))
  refine ⟨x, s', ?_, xo, so⟩
  rw [u_49]
  simp [b_49, f1, e]
theorem f_thCirc (o : s.Ok (n + 40)) : ∃ (x : Circ) (s' : WC.St), callN BB (k + 3) 49 [.ref 0, .str [99, 105, 114, 99, 117, 105, 116]] (s.ob :: T) = .ok x.D (s'.ob :: T) ∧ COk x ∧ s'.Ok n := by
  obtain ⟨q1, t1, f1, qa, qb, p1⟩ := f_draw (k + 1) (T := T) (n := n + 39) (m := 5) o (by decide) (by decide)
  obtain ⟨gs, s', e, l, g, so⟩ := f_lawGates k (T := T) (n := n) (s := t1) (m := 1 + q1) (by omega) (by omega) (p1.mono (by omega))
  refine ⟨⟨1 + q1, gs⟩, s', ?_, ⟨by show 1 ≤ 1 + q1; omega, by show 1 + q1 ≤ 5; omega, l, g⟩, so⟩
  rw [u_49]
  simp [b_49, f1, e]
end WP
set_option Elab.async false
set_option linter.all false
set_option maxRecDepth 100000
namespace WP
open PySem PySem.Spec PyProof.Rows L2 WC
variable (k : Nat) {T : Hs} {n : Nat} {s : WC.St}
theorem f_thPaus (o : s.Ok (n + 40)) : ∃ (x : List Pau) (s' : WC.St), callN BB (k + 3) 49 [.ref 0, .str [112, 97, 117, 108, 105, 115]] (s.ob :: T) = .ok (psD x) (s'.ob :: T) ∧ PsOk x ∧ s'.Ok n := by
  obtain ⟨q1, t1, f1, qa, qb, p1⟩ := f_draw (k + 1) (T := T) (n := n + 39) (m := 5) o (by decide) (by decide)
  obtain ⟨q2, t2, f2, qc, qd, p2⟩ := f_draw (k + 1) (T := T) (n := n + 38) (m := 4) p1 (by decide) (by decide)
  obtain ⟨ps, s', e, lp, pp, so⟩ := lc_draw (α := Pau) (m := fun σ h => .ok (rangeD 0 (1 + q2).toNat) h) (t := tgName 6) (vs := [6]) (te := eFn 2 (callN BB (k + 2) 43) (aCons (eVar 0) (aCons (eVar 2) aNil))) (σ := [.val (.ref 0), .val (.str [112, 97, 117, 108, 105, 115]), .val (.int (1 + q1)), .no, .no, .no, .no, .no]) (T := T) (n := n) (q := 6) (s := t2) (List.range (1 + q2).toNat) (fun i : Nat => .int (0 + i)) Pau.D (fun c => POk c ∧ (c.l.length : Int) = 1 + q1) rfl (by rw [List.length_range]; omega) (by refine p2.mono ?_; rw [List.length_range]; omega) fun x hx n s o => by
    obtain ⟨c, s', e, co, cl, so⟩ := f_lawPau k (T := T) (n := n) (s := s) (m := 1 + q1) (by omega) (by omega) o
    exact ⟨_, c, s', rfl, by simp [e], ⟨co, cl⟩, so⟩
  rw [List.length_range] at lp
  refine ⟨ps, s', ?_, ⟨?_, by omega, fun c hc => (pp c hc).1, fun c hc d hd => by have h1 := (pp c hc).2; have h2 := (pp d hd).2; omega⟩, so⟩
  · have e' : lcL (iRange1 (aCons (eOp gAdd (eC (.int 1)) (eFn 2 (callN BB (k + 2) 40) (aCons (eVar 0) (aCons (eC (.int 4)) aNil)))) aNil)) (tgName 6) tYesM (eFn 2 (callN BB (k + 2) 43) (aCons (eVar 0) (aCons (eVar 2) aNil))) [6] [.val (.ref 0), .val (.str [112, 97, 117, 108, 105, 115]), .val (.int (1 + q1)), .no, .no, .no, .no, .no] (t1.ob :: T) = .ok (ps.map Pau.D) (s'.ob :: T) := by
      unfold lcL at e ⊢
      rw [e_iRange1, e_aCons, e_eOp, e_eC, WC.R.bind_ok]
      have f2' : (eFn 2 (callN BB (k + 2) 40) (aCons (eVar 0) (aCons (eC (.int 4)) aNil))) [.val (.ref 0), .val (.str [112, 97, 117, 108, 105, 115]), .val (.int (1 + q1)), .no, .no, .no, .no, .no] (t1.ob :: T) = .ok (.int q2) (t2.ob :: T) := f2
      rw [f2', WC.R.bind_ok, g_addI, e_optR_some, WC.R.bind_ok, e_aNil, WC.R.bind_ok, WC.R.bind_ok]
      dsimp only
      rw [if_pos ⟨by omega, by omega⟩]
      exact e
    rw [u_49]
    simp [b_49, f1, e']
  · intro z; rw [z] at lp; simp at lp; omega
theorem f_thMat (o : s.Ok (n + 300)) : ∃ (x : List (List Num)) (s' : WC.St), callN BB (k + 3) 49 [.ref 0, .str [109, 97, 116, 114, 105, 120]] (s.ob :: T) = .ok (mD x) (s'.ob :: T) ∧ MOk x ∧ s'.Ok n := by
  obtain ⟨q1, t1, f1, qa, qb, p1⟩ := f_draw (k + 1) (T := T) (n := n + 299) (m := 5) o (by decide) (by decide)
  obtain ⟨q2, t2, f2, qc, qd, p2⟩ := f_draw (k + 1) (T := T) (n := n + 298) (m := 2) p1 (by decide) (by decide)
  obtain ⟨Z, hZ, hz⟩ : ∃ Z : Nat, 2 + 2 * q2 = (Z : Int) ∧ (Z = 2 ∨ Z = 4) := by
    have : q2 = 0 ∨ q2 = 1 := by omega
    rcases this with rfl | rfl
    · exact ⟨2, rfl, .inl rfl⟩
    · exact ⟨4, rfl, .inr rfl⟩
  have hr : ∀ (σ : Sg) (h : Hs), σ[3]? = some (.val (.int Z)) → iRange1 (aCons (eVar 3) aNil) σ h = .ok (rangeD 0 Z) h := fun σ h e => by
    have := range1_ok (a := eVar 3) (σ := σ) (h := h) (j := Z) (by simp [e]) (by omega) (by omega)
    rw [this]
    rfl
  obtain ⟨ms, s', e, lm, pm, so⟩ := lc_draw (α := List Num) (m := iRange1 (aCons (eVar 3) aNil)) (t := tgName 5) (vs := [5]) (te := eCall gTuple (aCons (eFrz (lcL (iRange1 (aCons (eVar 3) aNil)) (tgName 7) tYesM (eFn 2 (callN BB (k + 2) 46) (aCons (eVar 0) (aCons (eFn 2 (callN BB (k + 2) 40) (aCons (eVar 0) (aCons (eC (.int 17)) aNil))) aNil))) [7])) aNil)) (σ := [.val (.ref 0), .val (.str [109, 97, 116, 114, 105, 120]), .val (.int (1 + q1)), .val (.int Z), .no, .no, .no, .no]) (T := T) (n := n) (q := 60) (s := t2) (List.range Z) (fun i : Nat => .int (0 + i)) mRow (fun r => r.length = Z ∧ ∀ x ∈ r, Num.Ok x) (hr _ _ rfl) (by rw [List.length_range]; omega) (by refine p2.mono ?_; rw [List.length_range]; omega) fun x hx n s o => by
    obtain ⟨ys, s', e, ly, py, so⟩ := lc_draw (α := Num) (m := iRange1 (aCons (eVar 3) aNil)) (t := tgName 7) (vs := [7]) (te := eFn 2 (callN BB (k + 2) 46) (aCons (eVar 0) (aCons (eFn 2 (callN BB (k + 2) 40) (aCons (eVar 0) (aCons (eC (.int 17)) aNil))) aNil))) (σ := [.val (.ref 0), .val (.str [109, 97, 116, 114, 105, 120]), .val (.int (1 + q1)), .val (.int Z), .no, .val (.int (0 + x)), .no, .no]) (T := T) (n := n) (q := 15) (s := s) (List.range Z) (fun i : Nat => .int (0 + i)) Num.D Num.Ok (hr _ _ rfl) (by rw [List.length_range]; omega) (by refine o.mono ?_; rw [List.length_range]; omega) fun y hy n s o => by
      obtain ⟨r1, u1, g1, ra, rb, v1⟩ := f_draw (k + 1) (T := T) (n := n + 14) (m := 17) o (by decide) (by decide)
      obtain ⟨c, s', e, co, so⟩ := f_lawNum k (T := T) (n := n) (s := u1) (most := r1) ra (by omega) (v1.mono (by omega))
      exact ⟨_, c, s', rfl, by simp [g1, e], co, so⟩
    rw [List.length_range] at ly
    refine ⟨[.val (.ref 0), .val (.str [109, 97, 116, 114, 105, 120]), .val (.int (1 + q1)), .val (.int Z), .no, .val (.int (0 + x)), .no, .no], ys, s', rfl, ?_, ⟨ly, py⟩, so⟩
    rw [e_eCall, e_aCons, e_eFrz, e]
    rfl
  rw [List.length_range] at lm
  refine ⟨ms, s', ?_, ⟨by omega, fun r hr => by rw [(pm r hr).1, lm], fun r hr => (pm r hr).2⟩, so⟩
  have m1 : cMul 2 q2 = true := cMul_l (by decide)
  rw [u_49]
  simp [b_49, f1, f2, g_mulOk m1, hZ, e]
end WP
set_option Elab.async false
set_option linter.all false
set_option maxRecDepth 100000
namespace WP
open PySem PySem.Spec PyProof.Rows L2 WC
variable (k : Nat) (h : Hs)
theorem t_num {n : Num} (w : n.Ok) : callN BB (k + 1) 48 [.str [110, 117, 109, 98, 101, 114], n.D] h = .ok (.str n.txt) h := by
  have L := txt_le w
  obtain ⟨a, b, c, d, e⟩ := n
  rw [u_48]
  have l1 := strI_len w.a
  have l2 := strI_len w.b
  have l3 := strI_len w.c
  have l4 := strI_len w.d
  have l5 := strI_len w.e
  have g1 := sm_log w.a
  have g2 := sm_log w.b
  have g3 := sm_log w.c
  have g4 := sm_log w.d
  have g5 := sm_log w.e
  simp only at l1 l2 l3 l4 l5 g1 g2 g3 g4 g5
  have lc := lc_typed (m := iVal (eSlice (oVar 1) oNone (oSome (eC (.int 4))))) (t := tgName 18) (vs := [18]) (te := eCall gStrI (aCons (oVar 18) aNil)) (σ := [.val (.str [110, 117, 109, 98, 101, 114]), .val (.tup [.int a, .int b, .int c, .int d, .int e]), .no, .no, .no, .no, .no, .no, .no, .no, .no, .no, .no, .no, .no, .no, .no, .no, .no, .no]) (h := h) [a, b, c, d] D.int (fun i => .str (strI i)) (by simp) (by simp) fun x hx => ⟨_, rfl, by
    simp at hx
    rcases hx with rfl | rfl | rfl | rfl
    · simp [g1]
    · simp [g2]
    · simp [g3]
    · simp [g4]⟩
  have j := g_join (h := h) (a := [32]) (toStrs_map [a, b, c, d] strI) (by simp; omega)
  have ej := e_join lc j
  have hl : (joinD [32] ([a, b, c, d].map strI)).length ≤ 200 := by simp [joinD]; omega
  have c1 : (joinD [32] ([a, b, c, d].map strI)).length ≤ 16777214 := by omega
  have c2 : (joinD [32] ([a, b, c, d].map strI)).length + ((strI e).length + 2) ≤ 16777216 := by omega
  have c3 : (joinD [32] ([a, b, c, d].map strI)).length + 2 + (strI e).length ≤ 16777216 := by omega
  have first : (eOp gAdd (eOp gAdd (eMeth .str gJoin (eC (.str [32])) (aCons (eFrz (lcL (iVal (eSlice (oVar 1) oNone (oSome (eC (.int 4))))) (tgName 18) tYesM (eCall gStrI (aCons (oVar 18) aNil)) [18])) aNil)) (eC (.str [32, 47]))) (eCall gStrI (aCons (eOp atD (oVar 1) (eC (.int 4))) aNil))) [.val (.str [110, 117, 109, 98, 101, 114]), .val (.tup [.int a, .int b, .int c, .int d, .int e]), .no, .no, .no, .no, .no, .no, .no, .no, .no, .no, .no, .no, .no, .no, .no, .no, .no, .no] h = .ok (.str (Num.txt ⟨a, b, c, d, e⟩)) h := by
    rw [e_eOp, e_eOp, ej]
    generalize hjd : joinD [32] ([a, b, c, d].map strI) = jd at c1 c2 c3
    simp [c1, c2, c3, g5]
    rw [← hjd]
    simp [joinD, Num.txt]
  simp [b_48]
  simp at first
  rw [first]
  rfl
end WP
set_option Elab.async false
set_option linter.all false
set_option maxRecDepth 100000
namespace WP
open PySem PySem.Spec PyProof.Rows L2 WC
variable (k : Nat) (h : Hs)
theorem t_pau {c : Pau} (o : POk c) : callN BB (k + 1) 48 [.str [112, 97, 117, 108, 105], c.D] h = .ok (.str (pTxt c)) h := by
  obtain ⟨p, l⟩ := c
  obtain ⟨p0, p1, ne, n, ol⟩ := o
  simp only at p0 p1 ne n ol
  rw [u_48]
  have e3 : 1 + l.length ≤ 16777216 := by omega
  have e4 : 2 + l.length ≤ 16777216 := by omega
  have e1 : l.length ≤ 16777214 := by omega
  have e2 : l.length ≤ 16777215 := by omega
  have : p = 0 ∨ p = 1 ∨ p = 2 ∨ p = 3 := by omega
  rcases this with rfl | rfl | rfl | rfl <;> simp [b_48, e1, e2, e3, e4, pTxt, sgn]
theorem t_paus {ps : List Pau} (o : PsOk ps) : callN BB (k + 2) 48 [.str [112, 97, 117, 108, 105, 115], psD ps] h = .ok (.str (psTxt ps)) h := by
  obtain ⟨ne, n, p, e⟩ := o
  rw [u_48]
  have lc := lc_typed (m := iVal (oVar 1)) (t := tgName 16) (vs := [16]) (te := eFn 2 (callN BB (k + 1) 48) (aCons (eC (.str [112, 97, 117, 108, 105])) (aCons (eVar 16) aNil))) (σ := [.val (.str [112, 97, 117, 108, 105, 115]), .val (psD ps), .no, .no, .no, .no, .no, .no, .no, .no, .no, .no, .no, .no, .no, .no, .no, .no, .no, .no]) (h := h) ps Pau.D (fun c => .str (pTxt c)) (by simp) (by omega) fun x hx => ⟨_, rfl, by
    simp [t_pau k h (p x hx)]⟩
  have j := g_joinM (h := h) (a := [32]) (xs := ps) (p := pTxt) 7 (fun r hr => pTxt_le (p r hr)) (by simp; omega)
  have ej := e_join lc j
  simp [b_48]
  simp at ej
  rw [ej]
  rfl
theorem t_mat {m : List (List Num)} (w : MOk m) : callN BB (k + 2) 48 [.str [109, 97, 116, 114, 105, 120], mD m] h = .ok (.str (mTxt m)) h := by
  rw [u_48]
  have hs := w.sz
  have lc := lc_typed (m := iVal (oVar 1)) (t := tgName 15) (vs := [15]) (te := eMeth .str gJoin (eC (.str [32])) (aCons (eFrz (lcL (iVal (oVar 15)) (tgName 18) tYesM (eOp gAdd (eOp gAdd (eC (.str [40])) (eFn 2 (callN BB (k + 1) 48) (aCons (eC (.str [110, 117, 109, 98, 101, 114])) (aCons (eVar 18) aNil)))) (eC (.str [41]))) [18])) aNil)) (σ := [.val (.str [109, 97, 116, 114, 105, 120]), .val (mD m), .no, .no, .no, .no, .no, .no, .no, .no, .no, .no, .no, .no, .no, .no, .no, .no, .no, .no]) (h := h) m mRow (fun r => .str (mRowT r)) (by simp) (by omega) fun r hr => ⟨_, rfl, by
    have h3 := w.row r hr
    have lc2 := lc_typed (m := iVal (oVar 15)) (t := tgName 18) (vs := [18]) (te := eOp gAdd (eOp gAdd (eC (.str [40])) (eFn 2 (callN BB (k + 1) 48) (aCons (eC (.str [110, 117, 109, 98, 101, 114])) (aCons (eVar 18) aNil)))) (eC (.str [41]))) (σ := [.val (.str [109, 97, 116, 114, 105, 120]), .val (mD m), .no, .no, .no, .no, .no, .no, .no, .no, .no, .no, .no, .no, .no, .val (mRow r), .no, .no, .no, .no]) (h := h) r Num.D (fun n => .str (mCell n)) (by simp) (by omega) fun n hn => ⟨_, rfl, by
      have := txt_le (w.num r hr n hn)
      have c1 : 1 + n.txt.length ≤ 16777216 := by omega
      have c2 : n.txt.length + 1 ≤ 16777216 := by omega
      have c3 : n.txt.length ≤ 16777215 := by omega
      have c4 : n.txt.length ≤ 16777214 := by omega
      have c5 : n.txt.length + 1 + 1 ≤ 16777216 := by omega
      simp [t_num k h (w.num r hr n hn), c1, c2, c3, c4, c5, mCell]⟩
    exact e_join lc2 (g_joinM (h := h) (a := [32]) (xs := r) (p := mCell) 400 (fun n hn => cell_le (w.num r hr n hn)) (by simp; omega))⟩
  have j := g_joinM (h := h) (a := [59, 32]) (xs := m) (p := mRowT) 2000 (fun r hr => rowT_le w hr) (by simp; omega)
  have ej := e_join lc j
  simp [b_48]
  simp at ej
  rw [ej]
  rfl
end WP
set_option Elab.async false
set_option linter.all false
set_option maxRecDepth 100000
namespace WP
open PySem PySem.Spec PyProof.Rows L2 WC
variable (k : Nat) (h : Hs)
theorem join_flat : ∀ ps : List (List Nat), joinD [] ps = ps.flatten
  | [] => rfl
  | [p] => by simp [joinD]
  | p :: q :: r => by
    have := join_flat (q :: r)
    show p ++ ([] ++ joinD [] (q :: r)) = _
    rw [this]
    simp
theorem join_cons (S : List Nat) : ∀ (a : List Nat) (bs : List (List Nat)), joinD S (a :: bs) = a ++ joinD [] (bs.map (S ++ ·))
  | a, [] => by simp [joinD]
  | a, b :: bs => by
    have ih := join_cons S b bs
    show a ++ (S ++ joinD S (b :: bs)) = _
    rw [ih, join_flat, join_flat]
    simp
theorem t_circ {c : Circ} (o : COk c) : callN BB (k + 1) 48 [.str [99, 105, 114, 99, 117, 105, 116], c.D] h = .ok (.str (cTxt c)) h := by
  obtain ⟨m, gs⟩ := c
  obtain ⟨m0, m1, n, g⟩ := o
  simp only at m0 m1 n g
  rw [u_48]
  have hs := small_sm (i := m) (by omega) (by omega)
  have hl := strI_len hs
  have lc := lc_typed (m := iVal (eOp atD (oVar 1) (eC (.int 1)))) (t := tgName 10) (vs := [10]) (te := eOp gAdd (eC (.str [32])) (eMeth .str gJoin (eC (.str [46])) (aCons (eOp gAdd (eFrz (lLst (aCons (eOp atD (oVar 10) (eC (.int 0))) aNil))) (eFrz (lcL (iVal (eSlice (oVar 10) (oSome (eC (.int 1))) oNone)) (tgName 19) tYesM (eCall gStrI (aCons (oVar 19) aNil)) [19]))) aNil))) (σ := [.val (.str [99, 105, 114, 99, 117, 105, 116]), .val (.tup [.int m, .tup (gs.map Gate.D)]), .no, .no, .no, .no, .no, .no, .no, .no, .no, .no, .no, .no, .no, .no, .no, .no, .no, .no]) (h := h) gs Gate.D (fun g => .str ([32] ++ gTxt g)) (by simp) (by omega) fun x hx => ⟨_, rfl, by
    obtain ⟨h1, h2, h3⟩ := (g x hx).sm m1
    have gl := gTxt_le (g x hx) m1
    obtain ⟨nm, ls⟩ := x
    simp only at h1 h2 h3
    have e := lc_typed (σ := [.val (.str [99, 105, 114, 99, 117, 105, 116]), .val (.tup [.int m, .tup (gs.map Gate.D)]), .no, .no, .no, .no, .no, .no, .no, .no, .val (.tup (.str nm :: ls.map .int)), .no, .no, .no, .no, .no, .no, .no, .no, .no]) (m := iVal (eSlice (oVar 10) (oSome (eC (.int 1))) oNone)) (t := tgName 19) (vs := [19]) (te := eCall gStrI (aCons (oVar 19) aNil)) (h := h) ls D.int (fun l => .str (strI l)) (by simp) (by omega) fun x hx => ⟨_, rfl, by simp [sm_log (small_sm (h1 x hx).1 (by have := h1 x hx; omega))]⟩
    have e2 : toStrs (.str nm :: ls.map fun l => .str (strI l)) = some (nm :: ls.map strI) := by simp [toStrs_map]
    have h5 := parts_le (xs := ls) (p := strI) (b := 41) fun l hl => strI_len (small_sm (h1 l hl).1 (by have := h1 l hl; omega))
    have e3 := g_join (h := h) (a := [46]) e2 (by simp at h5 ⊢; omega)
    have e4 : 1 + ls.length ≤ 16777216 := by omega
    have e5 : 1 + (joinD [46] (nm :: ls.map strI)).length ≤ 16777216 := by
      have : (gTxt ⟨nm, ls⟩).length = (joinD [46] (nm :: ls.map strI)).length := rfl
      omega
    have e6 : (joinD [46] (nm :: ls.map strI)).length ≤ 16777215 := by omega
    simp [e, e4, tyM, e3, e5, e6, gTxt]⟩
  have le : ∀ x ∈ gs, ([32] ++ gTxt x).length ≤ 301 := fun x hx => by
    have := gTxt_le (g x hx) m1
    simp
    omega
  have j := g_joinM (h := h) (a := []) (xs := gs) (p := fun g => [32] ++ gTxt g) 301 le (by simp; omega)
  have jl : (joinD [] (gs.map fun g => [32] ++ gTxt g)).length ≤ 3000 := by
    have h1 := join_le [] (gs.map fun g => [32] ++ gTxt g)
    have h2 := parts_le (xs := gs) (p := fun g => [32] ++ gTxt g) le
    simp only [List.length_map, List.length_nil, Nat.mul_zero, Nat.add_zero] at h1
    omega
  have e5 : (strI m).length ≤ 16777215 := by omega
  have fin : cTxt ⟨m, gs⟩ = (strI m ++ [58]) ++ joinD [] (gs.map fun g => [32] ++ gTxt g) := by
    unfold cTxt
    rw [join_cons, List.map_map]
    rfl
  rw [fin]
  generalize hj : joinD [] (gs.map fun g => [32] ++ gTxt g) = J at j jl
  have e7 : (strI m).length + (J.length + 1) ≤ 16777216 := by omega
  have e8 : (strI m).length + 1 + J.length ≤ 16777216 := by omega
  simp at lc j
  simp [b_48, lc, sm_log hs, e5, tyM, j, e7, e8]
end WP
set_option Elab.async false
set_option linter.all false
set_option maxRecDepth 100000
namespace WP
open PySem PySem.Spec PyProof.Rows L2 WC
variable (k : Nat) (h : Hs)
theorem t_gra {g : Gra} (o : GrOk g) : callN BB (k + 1) 48 [.str [103, 114, 97, 112, 104], g.D] h = .ok (.str (grTxt g)) h := by
  obtain ⟨m, es⟩ := g
  obtain ⟨m0, m1, n, e, a⟩ := o
  simp only at m0 m1 n e a
  rw [u_48]
  have hs := small_sm (i := m) (by omega) (by omega)
  have hl := strI_len hs
  have sm : ∀ x ∈ es, Sm x.1 ∧ Sm x.2 := fun x hx => by
    have := e x hx
    exact ⟨small_sm (by omega) (by omega), small_sm (by omega) (by omega)⟩
  have le : ∀ x ∈ es, ([32] ++ eTxt x).length ≤ 101 := fun x hx => by
    have g1 := strI_len (sm x hx).1
    have g2 := strI_len (sm x hx).2
    unfold eTxt
    simp
    omega
  have lc := lc_typed (m := iVal (eOp atD (oVar 1) (eC (.int 1)))) (t := tgTup [(tgName 11), (tgName 12)]) (vs := [11, 12]) (te := eOp gAdd (eOp gAdd (eOp gAdd (eC (.str [32])) (eCall gStrI (aCons (oVar 11) aNil))) (eC (.str [45]))) (eCall gStrI (aCons (oVar 12) aNil))) (σ := [.val (.str [103, 114, 97, 112, 104]), .val (.tup [.int m, .tup (es.map eD)]), .no, .no, .no, .no, .no, .no, .no, .no, .no, .no, .no, .no, .no, .no, .no, .no, .no, .no]) (h := h) es eD (fun g => .str ([32] ++ eTxt g)) (by simp) (by omega) fun x hx => ⟨_, rfl, by
    have g1 := strI_len (sm x hx).1
    have g2 := strI_len (sm x hx).2
    simp [sm_log (sm x hx).1, sm_log (sm x hx).2, eTxt]
    simp (disch := omega) [if_pos]⟩
  have j := g_joinM (h := h) (a := []) (xs := es) (p := fun g => [32] ++ eTxt g) 101 le (by simp; omega)
  have jl : (joinD [] (es.map fun g => [32] ++ eTxt g)).length ≤ 11000 := by
    have h1 := join_le [] (es.map fun g => [32] ++ eTxt g)
    have h2 := parts_le (xs := es) (p := fun g => [32] ++ eTxt g) le
    simp only [List.length_map, List.length_nil, Nat.mul_zero, Nat.add_zero] at h1
    omega
  have fin : grTxt ⟨m, es⟩ = (strI m ++ [47]) ++ joinD [] (es.map fun g => [32] ++ eTxt g) := by
    unfold grTxt
    rw [join_cons, List.map_map]
    rfl
  rw [fin]
  generalize hj : joinD [] (es.map fun g => [32] ++ eTxt g) = J at j jl
  have e5 : (strI m).length ≤ 16777215 := by omega
  have e7 : (strI m).length + (J.length + 1) ≤ 16777216 := by omega
  have e8 : (strI m).length + 1 + J.length ≤ 16777216 := by omega
  simp at lc j
  simp [b_48, lc, sm_log hs, e5, tyM, j, e7, e8]
end WP
set_option Elab.async false
set_option linter.all false
set_option maxRecDepth 100000
namespace WP
open PySem PySem.Spec PyProof.Rows L2 WC
variable (k : Nat) (h : Hs)
theorem t_frm {f : Frm} (o : FrmOk f) : callN BB (k + 2) 48 [.str [102, 111, 114, 109], f.D] h = .ok (.str (fTxt f)) h := by
  have L := o.len
  have s2 := o.sm2
  have s3 := o.sm3
  have so := o.smo
  have sm := sm_log (small_sm (i := f.m) (by have := o.m0; omega) (by have := o.m1; omega))
  have se := sm_log (small_sm (i := f.e) (by have := o.e0; omega) (by have := o.e1; omega))
  have tn := o.tn
  have hn := o.hn
  have on := o.on
  have m0 := o.m0
  obtain ⟨m, e, ones, twos, threes, rows, word⟩ := f
  obtain ⟨La, Lb, Lc, Ld, Le, Lg, Lw, Lob, Lon, Lrb, Lrn⟩ := L
  simp only at s2 s3 so sm se tn hn on m0 La Lb Lc Ld Le Lg Lw Lob Lon Lrb Lrn
  rw [u_48]
  have ones1 : lsted (ones.map strI) = joinD [44] (ones.map strI) := by
    unfold lsted
    cases ones with
    | nil => simp at on; omega
    | cons a b => simp
  have h2 := lc_typed (σ := [.val (.str [102, 111, 114, 109]), .val (Frm.D ⟨m, e, ones, twos, threes, rows, word⟩), .no, .val (.int m), .val (.int e), .val (.tup (ones.map .int)), .val (.tup (twos.map Tri.D)), .val (.tup (threes.map Tri.D)), .val (.tup (rows.map .str)), .val (.str word), .no, .no, .no, .no, .no, .no, .no, .no, .no, .no]) (m := iVal (oVar 6)) (t := tgTup [(tgName 11), (tgName 12), (tgName 13)]) (vs := [11, 12, 13]) (te := eOp gAdd (eOp gAdd (eOp gAdd (eOp gAdd (eCall gStrI (aCons (oVar 11) aNil)) (eC (.str [45]))) (eCall gStrI (aCons (oVar 12) aNil))) (eC (.str [42]))) (eCall gStrI (aCons (oVar 13) aNil))) (h := h) twos Tri.D (fun x => .str (t2Txt x)) (by simp) (by omega) fun x hx => ⟨_, rfl, by
    have g1 := strI_len (s2 x hx).1
    have g2 := strI_len (s2 x hx).2.1
    have g3 := strI_len (s2 x hx).2.2
    have q := sm_log (s2 x hx).1
    have q' := sm_log (s2 x hx).2.1
    have q'' := sm_log (s2 x hx).2.2
    simp [q, q', q'', t2Txt]
    simp (disch := omega) [if_pos]⟩
  have h3 := lc_typed (σ := [.val (.str [102, 111, 114, 109]), .val (Frm.D ⟨m, e, ones, twos, threes, rows, word⟩), .no, .val (.int m), .val (.int e), .val (.tup (ones.map .int)), .val (.str (lsted (twos.map t2Txt))), .val (.tup (threes.map Tri.D)), .val (.tup (rows.map .str)), .val (.str word), .no, .no, .no, .no, .no, .no, .no, .no, .no, .no]) (m := iVal (oVar 7)) (t := tgTup [(tgName 11), (tgName 12), (tgName 14)]) (vs := [11, 12, 14]) (te := eOp gAdd (eOp gAdd (eOp gAdd (eOp gAdd (eCall gStrI (aCons (oVar 11) aNil)) (eC (.str [45]))) (eCall gStrI (aCons (oVar 12) aNil))) (eC (.str [45]))) (eCall gStrI (aCons (oVar 14) aNil))) (h := h) threes Tri.D (fun x => .str (t3Txt x)) (by simp) (by omega) fun x hx => ⟨_, rfl, by
    have g1 := strI_len (s3 x hx).1
    have g2 := strI_len (s3 x hx).2.1
    have g3 := strI_len (s3 x hx).2.2
    have q := sm_log (s3 x hx).1
    have q' := sm_log (s3 x hx).2.1
    have q'' := sm_log (s3 x hx).2.2
    simp [q, q', q'', t3Txt]
    simp (disch := omega) [if_pos]⟩
  have h4 := lc_typed (σ := [.val (.str [102, 111, 114, 109]), .val (Frm.D ⟨m, e, ones, twos, threes, rows, word⟩), .no, .val (.int m), .val (.int e), .val (.tup (ones.map .int)), .val (.str (lsted (twos.map t2Txt))), .val (.str (lsted (threes.map t3Txt))), .val (.tup (rows.map .str)), .val (.str word), .no, .no, .no, .no, .no, .no, .no, .no, .no, .no]) (m := iVal (oVar 5)) (t := tgName 17) (vs := [17]) (te := eCall gStrI (aCons (oVar 17) aNil)) (h := h) ones D.int (fun x => .str (strI x)) (by simp) (by omega) fun x hx => ⟨_, rfl, by simp [sm_log (so x hx)]⟩
  have j2 := g_joinT (h := h) (a := [44]) (ys := rows.map .str) (ps := rows) (by have := toStrs_map rows id; rw [List.map_id] at this; exact this) (by simp; omega)
  have l1 := f_listedL k h twos t2Txt (fun x hx => t2_le (s2 x hx)) (by omega)
  have l2 := f_listedL k h threes t3Txt (fun x hx => t3_le (s3 x hx)) (by omega)
  have l3 := f_listedL k h ones strI (fun x hx => by have := strI_len (so x hx); omega) (by omega)
  rw [ones1] at l3
  have j3 : gJoin h (.str [59, 32]) [.lst [.str (strI m), .str (strI e), .str (joinD [44] (ones.map strI)), .str (lsted (twos.map t2Txt)), .str (lsted (threes.map t3Txt)), .str (joinD [44] rows), .str word]] = some (.str (joinD [59, 32] [strI m, strI e, joinD [44] (ones.map strI), lsted (twos.map t2Txt), lsted (threes.map t3Txt), joinD [44] rows, word])) := g_join rfl (by simp; omega)
  simp [b_48, h2, h3, h4, j2, j3, l1, l2, l3, tyM, sm, se, fTxt, fParts]
end WP
set_option Elab.async false
set_option linter.all false
set_option maxRecDepth 100000
namespace WP
open PySem PySem.Spec PyProof.Rows L2 WC
theorem num_inj {x y : Num} (e : x.txt = y.txt) : x = y := by
  obtain ⟨a, b, c, d, k⟩ := x
  obtain ⟨a', b', c', d', k'⟩ := y
  unfold Num.txt at e
  simp only at e
  have n32 : ∀ i : Int, 32 ∉ strI i := fun i => strI_no (by decide) (.inl (by decide))
  obtain ⟨e1, e⟩ := sep_inj (n32 _) (n32 _) e
  obtain ⟨e2, e⟩ := sep_inj (n32 _) (n32 _) e
  obtain ⟨e3, e⟩ := sep_inj (n32 _) (n32 _) e
  obtain ⟨e4, e⟩ := sep_inj (n32 _) (n32 _) e
  simp only [List.cons.injEq, true_and] at e
  rw [strI_inj e1, strI_inj e2, strI_inj e3, strI_inj e4, strI_inj e]
theorem num_D {x y : Num} (e : x.D = y.D) : x = y := by
  obtain ⟨a, b, c, d, k⟩ := x
  obtain ⟨a', b', c', d', k'⟩ := y
  simpa using e
theorem num_iff {x y : Num} : x.txt = y.txt ↔ x.D = y.D := ⟨fun e => by rw [num_inj e], fun e => by rw [num_D e]⟩
theorem num_dat (x : Num) : dat 5 x.D = true := rfl
theorem num_no {x : Num} {c : Nat} (h : c ≠ 32) (h2 : c ≠ 47) (h3 : c ≠ 45) (h4 : c < 48 ∨ 57 < c) : c ∉ x.txt := by
  have n : ∀ i : Int, c ∉ strI i := fun i => strI_no h3 h4
  unfold Num.txt
  simp [n, h, h2]
theorem row_inj : ∀ {r s : List Num}, mRowT r = mRowT s → r = s
  | [], [], _ => rfl
  | [], [y], e => by simp [mRowT, joinD, mCell] at e
  | [], y :: z :: s, e => by simp [mRowT, joinD, mCell] at e
  | [x], [], e => by simp [mRowT, joinD, mCell] at e
  | x :: z :: r, [], e => by simp [mRowT, joinD, mCell] at e
  | [x], [y], e => by
    have e' : 40 :: (x.txt ++ [41]) = 40 :: (y.txt ++ [41]) := e
    simp only [List.cons.injEq, true_and] at e'
    rw [num_inj (List.append_cancel_right e')]
  | [x], y :: z :: s, e => by
    have e' : 40 :: (x.txt ++ [41]) = (40 :: (y.txt ++ [41])) ++ ([32] ++ mRowT (z :: s)) := e
    simp only [List.cons_append, List.cons.injEq, true_and, List.append_assoc, List.singleton_append] at e'
    have n : ∀ x : Num, 41 ∉ x.txt := fun x => num_no (by decide) (by decide) (by decide) (.inl (by decide))
    have := (sep_inj (n x) (n y) e').2
    simp at this
  | x :: z :: r, [y], e => by
    have e' : (40 :: (x.txt ++ [41])) ++ ([32] ++ mRowT (z :: r)) = 40 :: (y.txt ++ [41]) := e
    simp only [List.cons_append, List.cons.injEq, true_and, List.append_assoc, List.singleton_append] at e'
    have n : ∀ x : Num, 41 ∉ x.txt := fun x => num_no (by decide) (by decide) (by decide) (.inl (by decide))
    have := (sep_inj (n x) (n y) e').2
    simp at this
  | x :: z :: r, y :: w :: s, e => by
    have e' : (40 :: (x.txt ++ [41])) ++ ([32] ++ mRowT (z :: r)) = (40 :: (y.txt ++ [41])) ++ ([32] ++ mRowT (w :: s)) := e
    simp only [List.cons_append, List.cons.injEq, true_and, List.append_assoc, List.singleton_append] at e'
    have n : ∀ x : Num, 41 ∉ x.txt := fun x => num_no (by decide) (by decide) (by decide) (.inl (by decide))
    obtain ⟨h1, h2⟩ := sep_inj (n x) (n y) e'
    have h3 : mRowT (z :: r) = mRowT (w :: s) := by simpa using h2
    rw [num_inj h1, row_inj h3]
theorem rowT_no {r : List Num} : 59 ∉ mRowT r := fun m => by
  rcases join_mem m with h | ⟨p, hp, h⟩
  · simp at h
  · obtain ⟨x, _, rfl⟩ := List.mem_map.mp hp
    have n : 59 ∉ x.txt := num_no (by decide) (by decide) (by decide) (.inr (by decide))
    simp [mCell, n] at h
theorem mat_ne {m : List (List Num)} (w : MOk m) : m ≠ [] := by
  have := w.sz
  intro z
  rw [z] at this
  simp at this
theorem mat_inj {m m' : List (List Num)} (w : MOk m) (w' : MOk m') (e : mTxt m = mTxt m') : m = m' := by
  have := join_inj (c := 59) (S := [32]) (ps := m.map mRowT) (qs := m'.map mRowT) (by simpa using mat_ne w) (by simpa using mat_ne w') (fun p hp => by obtain ⟨x, _, rfl⟩ := List.mem_map.mp hp; exact rowT_no) (fun p hp => by obtain ⟨x, _, rfl⟩ := List.mem_map.mp hp; exact rowT_no) e
  exact map_inj' (fun x _ y _ h => row_inj h) this
theorem mat_D {m m' : List (List Num)} (e : mD m = mD m') : m = m' := by
  have e' : m.map mRow = m'.map mRow := by simpa using e
  refine map_inj' (fun x _ y _ h => ?_) e'
  have h' : x.map Num.D = y.map Num.D := by simpa using h
  exact map_inj' (fun x _ y _ h => num_D h) h'
theorem mat_iff {x y : List (List Num)} (w : MOk x) (w' : MOk y) : mTxt x = mTxt y ↔ mD x = mD y := ⟨fun e => by rw [mat_inj w w' e], fun e => by rw [mat_D e]⟩
theorem mat_dat (x : List (List Num)) : dat 5 (mD x) = true := by
  show dats 4 (x.map mRow) = true
  refine dats_map fun r _ => ?_
  show dats 3 (r.map Num.D) = true
  exact dats_map fun n _ => rfl
theorem gate_no {m : Int} {g : Gate} (o : GOk m g) {c : Nat} (hc : c = 46 ∨ c = 32) : c ∉ g.nm := by
  have h := o.nms
  simp only [gnames, List.mem_cons, List.not_mem_nil, or_false] at h
  rcases hc with rfl | rfl <;> rcases h with h | h | h | h | h | h | h | h | h | h | h | h <;> rw [h] <;> decide
theorem gTxt_no {m : Int} {g : Gate} (o : GOk m g) : 32 ∉ gTxt g := fun h => by
  rcases join_mem h with h | ⟨p, hp, h⟩
  · simp at h
  · rcases List.mem_cons.mp hp with rfl | hp
    · exact gate_no o (.inr rfl) h
    · obtain ⟨x, _, rfl⟩ := List.mem_map.mp hp
      exact strI_no (by decide) (.inl (by decide)) h
theorem gTxt_inj {m m' : Int} {g g' : Gate} (o : GOk m g) (o' : GOk m' g') (e : gTxt g = gTxt g') : g = g' := by
  obtain ⟨nm, ls⟩ := g
  obtain ⟨nm', ls'⟩ := g'
  have n : ∀ i : Int, 46 ∉ strI i := fun i => strI_no (by decide) (.inl (by decide))
  have := join_inj (c := 46) (S := []) (ps := nm :: ls.map strI) (qs := nm' :: ls'.map strI) (by simp) (by simp) (fun p hp => by
    rcases List.mem_cons.mp hp with rfl | hp
    · exact gate_no o (.inl rfl)
    · obtain ⟨x, _, rfl⟩ := List.mem_map.mp hp
      exact n x) (fun p hp => by
    rcases List.mem_cons.mp hp with rfl | hp
    · exact gate_no o' (.inl rfl)
    · obtain ⟨x, _, rfl⟩ := List.mem_map.mp hp
      exact n x) e
  simp only [List.cons.injEq] at this
  rw [this.1, map_inj' (fun x _ y _ h => strI_inj h) this.2]
theorem circ_inj {x y : Circ} (o : COk x) (o' : COk y) (e : cTxt x = cTxt y) : x = y := by
  obtain ⟨m, gs⟩ := x
  obtain ⟨m', gs'⟩ := y
  have g := o.g
  have g' := o'.g
  simp only at g g'
  have n : ∀ i : Int, 32 ∉ strI i := fun i => strI_no (by decide) (.inl (by decide))
  have := join_inj (c := 32) (S := []) (ps := (strI m ++ [58]) :: gs.map gTxt) (qs := (strI m' ++ [58]) :: gs'.map gTxt) (by simp) (by simp) (fun p hp => by
    rcases List.mem_cons.mp hp with rfl | hp
    · simp [n]
    · obtain ⟨x, hx, rfl⟩ := List.mem_map.mp hp
      exact gTxt_no (g x hx)) (fun p hp => by
    rcases List.mem_cons.mp hp with rfl | hp
    · simp [n]
    · obtain ⟨x, hx, rfl⟩ := List.mem_map.mp hp
      exact gTxt_no (g' x hx)) e
  simp only [List.cons.injEq] at this
  rw [strI_inj (List.append_cancel_right this.1), map_inj' (fun x hx y hy h => gTxt_inj (g x hx) (g' y hy) h) this.2]
theorem gate_D {x y : Gate} (e : x.D = y.D) : x = y := by
  obtain ⟨nm, ls⟩ := x
  obtain ⟨nm', ls'⟩ := y
  have e' : nm = nm' ∧ ls.map D.int = ls'.map D.int := by simpa using e
  rw [e'.1, map_inj' (fun x _ y _ h => by simpa using h) e'.2]
theorem circ_D {x y : Circ} (e : x.D = y.D) : x = y := by
  obtain ⟨m, gs⟩ := x
  obtain ⟨m', gs'⟩ := y
  have e' : m = m' ∧ gs.map Gate.D = gs'.map Gate.D := by simpa using e
  rw [e'.1, map_inj' (fun x _ y _ h => gate_D h) e'.2]
theorem circ_iff {x y : Circ} (w : COk x) (w' : COk y) : cTxt x = cTxt y ↔ x.D = y.D := ⟨fun e => by rw [circ_inj w w' e], fun e => by rw [circ_D e]⟩
theorem gate_dat (g : Gate) : dat 3 g.D = true := by
  show (dat 2 (.str g.nm) && dats 2 (g.ls.map .int)) = true
  rw [dats_map fun x _ => rfl]
  rfl
theorem circ_dat (x : Circ) : dat 5 x.D = true := by
  show (dat 4 (.int x.m) && (dat 4 (.tup (x.gs.map Gate.D)) && dats 4 [])) = true
  have : dat 4 (.tup (x.gs.map Gate.D)) = true := by
    show dats 3 (x.gs.map Gate.D) = true
    exact dats_map fun g _ => gate_dat g
  rw [this]
  rfl
theorem sgn_inj {p q : Int} (p0 : 0 ≤ p) (p1 : p < 4) (q0 : 0 ≤ q) (q1 : q < 4) {l l' : List Nat} (h : ∀ x ∈ l, x ∈ letters) (h' : ∀ x ∈ l', x ∈ letters) (e : sgn p ++ l = sgn q ++ l') : p = q ∧ l = l' := by
  have no : ∀ {l : List Nat}, (∀ x ∈ l, x ∈ letters) → ∀ r, l = 105 :: r → False := fun H r e => by
    have := H 105 (by rw [e]; simp)
    simp [letters] at this
  have a1 : p = 0 ∨ p = 1 ∨ p = 2 ∨ p = 3 := by omega
  have a2 : q = 0 ∨ q = 1 ∨ q = 2 ∨ q = 3 := by omega
  rcases a1 with rfl | rfl | rfl | rfl <;> rcases a2 with rfl | rfl | rfl | rfl <;> simp [sgn] at e ⊢ <;> first | exact e | exact (no h _ e).elim | exact (no h' _ e.symm).elim
theorem pau_inj {x y : Pau} (o : POk x) (o' : POk y) (e : pTxt x = pTxt y) : x = y := by
  have := sgn_inj o.p0 o.p1 o'.p0 o'.p1 o.l o'.l e
  obtain ⟨p, l⟩ := x
  obtain ⟨p', l'⟩ := y
  simp only at this
  rw [this.1, this.2]
theorem pau_D {x y : Pau} (e : x.D = y.D) : x = y := by
  obtain ⟨p, l⟩ := x
  obtain ⟨p', l'⟩ := y
  simpa using e
theorem pau_iff {x y : Pau} (w : POk x) (w' : POk y) : pTxt x = pTxt y ↔ x.D = y.D := ⟨fun e => by rw [pau_inj w w' e], fun e => by rw [pau_D e]⟩
theorem pau_dat (x : Pau) : dat 5 x.D = true := rfl
theorem pau_no {x : Pau} (o : POk x) : 32 ∉ pTxt x := fun h => by
  rcases List.mem_append.mp h with h | h
  · revert h
    unfold sgn
    split
    · decide
    · split
      · decide
      · split <;> decide
  · have := o.l _ h
    simp [letters] at this
theorem paus_inj {x y : List Pau} (o : PsOk x) (o' : PsOk y) (e : psTxt x = psTxt y) : x = y := by
  have := join_inj (c := 32) (S := []) (ps := x.map pTxt) (qs := y.map pTxt) (by simpa using o.ne) (by simpa using o'.ne) (fun p hp => by obtain ⟨x, hx, rfl⟩ := List.mem_map.mp hp; exact pau_no (o.p x hx)) (fun p hp => by obtain ⟨x, hx, rfl⟩ := List.mem_map.mp hp; exact pau_no (o'.p x hx)) e
  exact map_inj' (fun x hx y hy h => pau_inj (o.p x hx) (o'.p y hy) h) this
theorem paus_D {x y : List Pau} (e : psD x = psD y) : x = y := by
  have e' : x.map Pau.D = y.map Pau.D := by simpa using e
  exact map_inj' (fun x _ y _ h => pau_D h) e'
theorem paus_iff {x y : List Pau} (w : PsOk x) (w' : PsOk y) : psTxt x = psTxt y ↔ psD x = psD y := ⟨fun e => by rw [paus_inj w w' e], fun e => by rw [paus_D e]⟩
theorem paus_dat (x : List Pau) : dat 5 (psD x) = true := by
  show dats 4 (x.map Pau.D) = true
  exact dats_map fun g _ => rfl
theorem eTxt_inj {x y : Int × Int} (h : 0 ≤ x.1) (h' : 0 ≤ y.1) (e : eTxt x = eTxt y) : x = y := by
  obtain ⟨i, j⟩ := x
  obtain ⟨i', j'⟩ := y
  simp only at h h'
  obtain ⟨e1, e2⟩ := sep_inj (strI_no0 h (.inl (by decide))) (strI_no0 h' (.inl (by decide))) e
  simp only at e2
  rw [strI_inj e1, strI_inj e2]
theorem eTxt_no {x : Int × Int} : 32 ∉ eTxt x := by
  have n : ∀ i : Int, 32 ∉ strI i := fun i => strI_no (by decide) (.inl (by decide))
  unfold eTxt
  simp [n]
theorem gra_inj {x y : Gra} (o : GrOk x) (o' : GrOk y) (e : grTxt x = grTxt y) : x = y := by
  obtain ⟨m, es⟩ := x
  obtain ⟨m', es'⟩ := y
  have g := o.e
  have g' := o'.e
  simp only at g g'
  have n : ∀ i : Int, 32 ∉ strI i := fun i => strI_no (by decide) (.inl (by decide))
  have := join_inj (c := 32) (S := []) (ps := (strI m ++ [47]) :: es.map eTxt) (qs := (strI m' ++ [47]) :: es'.map eTxt) (by simp) (by simp) (fun p hp => by
    rcases List.mem_cons.mp hp with rfl | hp
    · simp [n]
    · obtain ⟨x, hx, rfl⟩ := List.mem_map.mp hp
      exact eTxt_no) (fun p hp => by
    rcases List.mem_cons.mp hp with rfl | hp
    · simp [n]
    · obtain ⟨x, hx, rfl⟩ := List.mem_map.mp hp
      exact eTxt_no) e
  simp only [List.cons.injEq] at this
  rw [strI_inj (List.append_cancel_right this.1), map_inj' (fun x hx y hy h => eTxt_inj (g x hx).1 (g' y hy).1 h) this.2]
theorem ed_D {x y : Int × Int} (e : eD x = eD y) : x = y := by
  obtain ⟨i, j⟩ := x
  obtain ⟨i', j'⟩ := y
  simpa using e
theorem gra_D {x y : Gra} (e : x.D = y.D) : x = y := by
  obtain ⟨m, es⟩ := x
  obtain ⟨m', es'⟩ := y
  have e' : m = m' ∧ es.map eD = es'.map eD := by simpa using e
  rw [e'.1, map_inj' (fun x _ y _ h => ed_D h) e'.2]
theorem gra_iff {x y : Gra} (w : GrOk x) (w' : GrOk y) : grTxt x = grTxt y ↔ x.D = y.D := ⟨fun e => by rw [gra_inj w w' e], fun e => by rw [gra_D e]⟩
theorem gra_dat (x : Gra) : dat 5 x.D = true := by
  show (dat 4 (.int x.m) && (dat 4 (.tup (x.es.map eD)) && dats 4 [])) = true
  have : dat 4 (.tup (x.es.map eD)) = true := by
    show dats 3 (x.es.map eD) = true
    exact dats_map fun g _ => rfl
  rw [this]
  rfl
theorem lsted_inj {α : Type} {f : α → List Nat} {xs ys : List α} (hn : ∀ x ∈ xs, 44 ∉ f x) (hn' : ∀ x ∈ ys, 44 ∉ f x) (h0 : ∀ x ∈ xs, ∀ r, f x ≠ 110 :: r) (h0' : ∀ x ∈ ys, ∀ r, f x ≠ 110 :: r) (hi : ∀ x ∈ xs, ∀ y ∈ ys, f x = f y → x = y) (hz : ∀ x ∈ xs, f x ≠ []) (hz' : ∀ x ∈ ys, f x ≠ []) (e : lsted (xs.map f) = lsted (ys.map f)) : xs = ys := by
  have st : ∀ {zs : List α}, (∀ x ∈ zs, ∀ r, f x ≠ 110 :: r) → (∀ x ∈ zs, f x ≠ []) → zs ≠ [] → joinD [44] (zs.map f) ≠ [110, 111, 110, 101] := fun {zs} h1 h2 h3 e => by
    cases zs with
    | nil => exact h3 rfl
    | cons z zs =>
      have q1 := h1 z (List.mem_cons_self ..)
      have q2 := h2 z (List.mem_cons_self ..)
      rw [List.map_cons, join_cons] at e
      cases hz : f z with
      | nil => exact q2 hz
      | cons c r =>
        rw [hz] at e
        simp only [List.cons_append, List.cons.injEq] at e
        exact q1 r (by rw [hz, e.1])
  cases xs with
  | nil =>
    cases ys with
    | nil => rfl
    | cons y ys =>
      exact (st h0' hz' (by simp) e.symm).elim
  | cons x xs =>
    cases ys with
    | nil => exact (st h0 hz (by simp) e).elim
    | cons y ys =>
      have := join_inj (c := 44) (S := []) (ps := (x :: xs).map f) (qs := (y :: ys).map f) (by simp) (by simp) (fun p hp => by obtain ⟨x, hx, rfl⟩ := List.mem_map.mp hp; exact hn x hx) (fun p hp => by obtain ⟨x, hx, rfl⟩ := List.mem_map.mp hp; exact hn' x hx) e
      exact map_inj' hi this
theorem strI_n {i : Int} {r q : List Nat} {c : Nat} (hc : c = 110) : strI i ++ q ≠ c :: r := fun e => by
  subst hc
  cases h : strI i with
  | nil => exact strI_ne i h
  | cons a b =>
    rw [h] at e
    simp only [List.cons_append, List.cons.injEq] at e
    have : a ∈ strI i := by rw [h]; simp
    rcases strI_any this with z | z <;> omega
theorem t2_inj {x y : Tri} (h : 0 ≤ x.i) (h' : 0 ≤ y.i) (e : t2Txt x = t2Txt y) : x = y := by
  obtain ⟨i, j, c⟩ := x
  obtain ⟨i', j', c'⟩ := y
  simp only at h h'
  obtain ⟨e1, e2⟩ := sep_inj (strI_no0 h (.inl (by decide))) (strI_no0 h' (.inl (by decide))) e
  obtain ⟨e2, e3⟩ := sep_inj (strI_no (by decide) (.inl (by decide))) (strI_no (by decide) (.inl (by decide))) e2
  simp only at e2 e3
  rw [strI_inj e1, strI_inj e2, strI_inj e3]
theorem t3_inj {x y : Tri} (h : 0 ≤ x.i) (h' : 0 ≤ y.i) (k : 0 ≤ x.j) (k' : 0 ≤ y.j) (e : t3Txt x = t3Txt y) : x = y := by
  obtain ⟨i, j, c⟩ := x
  obtain ⟨i', j', c'⟩ := y
  simp only at h h' k k'
  obtain ⟨e1, e2⟩ := sep_inj (strI_no0 h (.inl (by decide))) (strI_no0 h' (.inl (by decide))) e
  obtain ⟨e2, e3⟩ := sep_inj (strI_no0 k (.inl (by decide))) (strI_no0 k' (.inl (by decide))) e2
  simp only at e2 e3
  rw [strI_inj e1, strI_inj e2, strI_inj e3]
theorem t2_no {x : Tri} {c : Nat} (h : c = 44 ∨ c = 59) : c ∉ t2Txt x := by
  have n : ∀ i : Int, c ∉ strI i := fun i => strI_no (by omega) (by omega)
  unfold t2Txt
  rcases h with rfl | rfl <;> simp [n]
theorem t3_no {x : Tri} {c : Nat} (h : c = 44 ∨ c = 59) : c ∉ t3Txt x := by
  have n : ∀ i : Int, c ∉ strI i := fun i => strI_no (by omega) (by omega)
  unfold t3Txt
  rcases h with rfl | rfl <;> simp [n]
theorem lsted_no {α : Type} {f : α → List Nat} {xs : List α} (h : ∀ x ∈ xs, 59 ∉ f x) : 59 ∉ lsted (xs.map f) := by
  unfold lsted
  split
  · decide
  · intro m
    rcases join_mem m with m | ⟨p, hp, m⟩
    · simp at m
    · obtain ⟨x, hx, rfl⟩ := List.mem_map.mp hp
      exact h x hx m
theorem bits_no {c : Nat} (h : c = 44 ∨ c = 59) {x : List Nat} (o : ∀ c ∈ x, c = 48 ∨ c = 49) : c ∉ x := fun m => by
  have := o c m
  omega
theorem frm_parts {f : Frm} (o : FrmOk f) : ∀ p ∈ fParts f, 59 ∉ p := by
  have n : ∀ i : Int, 59 ∉ strI i := fun i => strI_no (by decide) (by decide)
  have r := o.r
  have w := o.w
  obtain ⟨m, e, ones, twos, threes, rows, word⟩ := f
  simp only at r w
  intro p hp
  simp only [fParts, List.mem_cons, List.not_mem_nil, or_false] at hp
  rcases hp with rfl | rfl | rfl | rfl | rfl | rfl | rfl
  · exact n m
  · exact n e
  · intro h
    rcases join_mem h with h | ⟨p, hp, h⟩
    · simp at h
    · obtain ⟨x, hx, rfl⟩ := List.mem_map.mp hp
      exact n x h
  · exact lsted_no fun x _ => t2_no (.inr rfl)
  · exact lsted_no fun x _ => t3_no (.inr rfl)
  · intro h
    rcases join_mem h with h | ⟨p, hp, h⟩
    · simp at h
    · exact bits_no (.inr rfl) (r p hp).2 h
  · exact bits_no (.inr rfl) w
theorem frm_inj {x y : Frm} (o : FrmOk x) (o' : FrmOk y) (e : fTxt x = fTxt y) : x = y := by
  have := join_inj (c := 59) (S := [32]) (ps := fParts x) (qs := fParts y) (by simp [fParts]) (by simp [fParts]) (frm_parts o) (frm_parts o') e
  have t := o.t
  have t' := o'.t
  have h3 := o.h
  have h3' := o'.h
  have on := o.on
  have on' := o'.on
  have m0 := o.m0
  have m0' := o'.m0
  have rn := o.rn
  have rn' := o'.rn
  have r := o.r
  have r' := o'.r
  obtain ⟨m, k, ones, twos, threes, rows, word⟩ := x
  obtain ⟨m', k', ones', twos', threes', rows', word'⟩ := y
  simp only at t t' h3 h3' on on' m0 m0' rn rn' r r'
  simp only [fParts, List.cons.injEq, and_true] at this
  obtain ⟨e1, e2, e3, e4, e5, e6, e7⟩ := this
  have n : ∀ i : Int, 44 ∉ strI i := fun i => strI_no (by decide) (by decide)
  have ne : ∀ {o : List Int} {m : Int}, (o.length : Int) = m → 1 ≤ m → o.map strI ≠ [] := fun {o m} h1 h2 z => by
    have : o = [] := by simpa using z
    rw [this] at h1
    simp at h1
    omega
  have q3 := join_inj (c := 44) (S := []) (ps := ones.map strI) (qs := ones'.map strI) (ne on m0) (ne on' m0') (fun p hp => by obtain ⟨x, hx, rfl⟩ := List.mem_map.mp hp; exact n x) (fun p hp => by obtain ⟨x, hx, rfl⟩ := List.mem_map.mp hp; exact n x) e3
  have q3' := map_inj' (fun x _ y _ h => strI_inj h) q3
  have q6 := join_inj (c := 44) (S := []) (ps := rows) (qs := rows') (by intro z; rw [z] at rn; simp at rn; omega) (by intro z; rw [z] at rn'; simp at rn'; omega) (fun p hp => bits_no (.inl rfl) (r p hp).2) (fun p hp => bits_no (.inl rfl) (r' p hp).2) e6
  have q4 := lsted_inj (f := t2Txt) (fun x _ => t2_no (.inl rfl)) (fun x _ => t2_no (.inl rfl)) (fun x _ r => strI_n rfl) (fun x _ r => strI_n rfl) (fun x hx y hy h => t2_inj (t x hx).1 (t' y hy).1 h) (fun x _ => by simp [t2Txt]) (fun x _ => by simp [t2Txt]) e4
  have q5 := lsted_inj (f := t3Txt) (fun x _ => t3_no (.inl rfl)) (fun x _ => t3_no (.inl rfl)) (fun x _ r => strI_n rfl) (fun x _ r => strI_n rfl) (fun x hx y hy h => t3_inj (h3 x hx).1 (h3' y hy).1 (by have := h3 x hx; omega) (by have := h3' y hy; omega) h) (fun x _ => by simp [t3Txt]) (fun x _ => by simp [t3Txt]) e5
  rw [strI_inj e1, strI_inj e2, q3', q4, q5, q6, e7]
theorem tri_D {x y : Tri} (e : x.D = y.D) : x = y := by
  obtain ⟨i, j, c⟩ := x
  obtain ⟨i', j', c'⟩ := y
  simpa using e
theorem frm_D {x y : Frm} (e : x.D = y.D) : x = y := by
  obtain ⟨m, k, ones, twos, threes, rows, word⟩ := x
  obtain ⟨m', k', ones', twos', threes', rows', word'⟩ := y
  have e' : m = m' ∧ k = k' ∧ ones.map D.int = ones'.map D.int ∧ twos.map Tri.D = twos'.map Tri.D ∧ threes.map Tri.D = threes'.map Tri.D ∧ rows.map D.str = rows'.map D.str ∧ word = word' := by simpa using e
  obtain ⟨e1, e2, e3, e4, e5, e6, e7⟩ := e'
  rw [e1, e2, map_inj' (fun x _ y _ h => by simpa using h) e3, map_inj' (fun x _ y _ h => tri_D h) e4, map_inj' (fun x _ y _ h => tri_D h) e5, map_inj' (fun x _ y _ h => by simpa using h) e6, e7]
theorem frm_iff {x y : Frm} (w : FrmOk x) (w' : FrmOk y) : fTxt x = fTxt y ↔ x.D = y.D := ⟨fun e => by rw [frm_inj w w' e], fun e => by rw [frm_D e]⟩
theorem frm_dat (x : Frm) : dat 5 x.D = true := by
  show (dat 4 (.int x.m) && (dat 4 (.int x.e) && (dat 4 (.tup (x.ones.map .int)) && (dat 4 (.tup (x.twos.map Tri.D)) && (dat 4 (.tup (x.threes.map Tri.D)) && (dat 4 (.tup (x.rows.map .str)) && (dat 4 (.str x.word) && dats 4 []))))))) = true
  have e1 : dat 4 (.tup (x.ones.map .int)) = true := dats_map (n := 3) fun g _ => rfl
  have e2 : dat 4 (.tup (x.twos.map Tri.D)) = true := dats_map (n := 3) fun g _ => rfl
  have e3 : dat 4 (.tup (x.threes.map Tri.D)) = true := dats_map (n := 3) fun g _ => rfl
  have e4 : dat 4 (.tup (x.rows.map .str)) = true := dats_map (n := 3) fun g _ => rfl
  rw [e1, e2, e3, e4]
  rfl
end WP
set_option Elab.async false
set_option linter.all false
set_option maxRecDepth 100000
namespace WP
open PySem PySem.Spec PyProof.Rows L2 WC
structure Sv where
  num : Num
  mat : List (List Num)
  cir : Circ
  pau : Pau
  pas : List Pau
  gra : Gra
  frm : Frm
abbrev Sv.Ds (v : Sv) : List D := [v.num.D, mD v.mat, v.cir.D, v.pau.D, psD v.pas, v.gra.D, v.frm.D]
abbrev Sv.Ts (v : Sv) : List D := [.str v.num.txt, .str (mTxt v.mat), .str (cTxt v.cir), .str (pTxt v.pau), .str (psTxt v.pas), .str (grTxt v.gra), .str (fTxt v.frm)]
structure SvOk (v : Sv) : Prop where
  num : v.num.Ok
  mat : MOk v.mat
  cir : COk v.cir
  pau : POk v.pau
  pas : PsOk v.pas
  gra : GrOk v.gra
  frm : FrmOk v.frm
abbrev kindsL : List D := [.str [110, 117, 109, 98, 101, 114], .str [109, 97, 116, 114, 105, 120], .str [99, 105, 114, 99, 117, 105, 116], .str [112, 97, 117, 108, 105], .str [112, 97, 117, 108, 105, 115], .str [103, 114, 97, 112, 104], .str [102, 111, 114, 109]]
theorem draw7 {n : Nat} {s : WC.St} {σ : Sg} (h1 : σ[1]? = some (.val (.ref 0))) (h2 : σ[2]? = some (.val (.lst kindsL))) (hl : σ.length = 18) (h17 : σ[17]? = some .no) (o : s.Ok (n + 1000)) : ∃ (v : Sv) (s' : WC.St), lcL (iVal (oVar 2)) (tgName 17) tYesM (eFn 2 (callN BB 59 49) (aCons (eVar 1) (aCons (eVar 17) aNil))) [17] σ [s.ob] = .ok v.Ds [s'.ob] ∧ SvOk v ∧ s'.Ok n := by
  obtain ⟨x1, s1, e1, k1, o1⟩ := f_thNum 56 (T := []) (n := n + 980) (s := s) (o.mono (by omega))
  obtain ⟨x2, s2, e2, k2, o2⟩ := f_thMat 56 (T := []) (n := n + 680) (s := s1) (o1.mono (by omega))
  obtain ⟨x3, s3, e3, k3, o3⟩ := f_thCirc 56 (T := []) (n := n + 640) (s := s2) (o2.mono (by omega))
  obtain ⟨x4, s4, e4, k4, o4⟩ := f_thPau 56 (T := []) (n := n + 620) (s := s3) (o3.mono (by omega))
  obtain ⟨x5, s5, e5, k5, o5⟩ := f_thPaus 56 (T := []) (n := n + 580) (s := s4) (o4.mono (by omega))
  obtain ⟨x6, s6, e6, k6, o6⟩ := f_thGra 56 (T := []) (n := n + 520) (s := s5) (o5.mono (by omega))
  obtain ⟨x7, s7, e7, k7, o7⟩ := f_thFrm 56 (T := []) (n := n + 310) (s := s6) (o6.mono (by omega))
  refine ⟨⟨x1, x2, x3, x4, x5, x6, x7⟩, s7, ?_, ⟨k1, k2, k3, k4, k5, k6, k7⟩, o7.mono (by omega)⟩
  have hs : ∀ (d : D), tgName 17 d (wipeS σ [17]) = some (σ.set 17 (.val d)) := fun d => by
    have hlt : 17 < σ.length := by omega
    simp [hlt]
  have h1' : ∀ d : D, (σ.set 17 (.val d))[1]? = some (.val (.ref 0)) := fun d => by simp [h1]
  have h17' : ∀ d : D, (σ.set 17 (.val d))[17]? = some (.val d) := fun d => by simp [hl]
  have st : ∀ (d x : D) (a b : WC.St), callN BB 59 49 [.ref 0, d] [a.ob] = .ok x [b.ob] → (eFn 2 (callN BB 59 49) (aCons (eVar 1) (aCons (eVar 17) aNil))) (σ.set 17 (.val d)) [a.ob] = .ok x [b.ob] := fun d x a b e => by
    simp [h1', h17', e]
  have im : iVal (oVar 2) σ [s.ob] = .ok kindsL [s.ob] := by simp [h2]
  unfold lcL
  rw [im, R.bind_ok, if_pos (by decide)]
  unfold kindsL
  simp only [lcGo, hs, e_yes, R.bind_ok, st _ _ _ _ e1, st _ _ _ _ e2, st _ _ _ _ e3, st _ _ _ _ e4, st _ _ _ _ e5, st _ _ _ _ e6, st _ _ _ _ e7]
end WP
set_option Elab.async false
set_option linter.all false
set_option maxRecDepth 100000
namespace WP
open PySem PySem.Spec PyProof.Rows L2 WC
def plAt (σ : Sg) (i : Nat) : Bool := match σ[i]? with
  | some x => x.plain
  | none => false
theorem setS_if (σ : Sg) (i : Nat) (s : Sl) : setS σ i s = if plAt σ i then some (σ.set i s) else none := by
  unfold setS plAt
  cases e : σ[i]? with
  | none => rfl
  | some x => cases x <;> rfl
theorem o_val {σ : Sg} {h : Hs} {i : Nat} {d : D} (e : σ[i]? = some (.val d)) : oVar i σ h = .ok d h := by rw [e_oVar, e]
theorem text7 {v : Sv} (o : SvOk v) {σ : Sg} {h : Hs} {j : Nat} (h2 : σ[2]? = some (.val (.lst kindsL))) (hj : σ[j]? = some (.val (.lst v.Ds))) (hl : σ.length = 18) (hj2 : j < 16) : lcL (iRange1 (aCons (eC (.int 7)) aNil)) (tgName 16) tYesM (eFn 2 (callN BB 59 48) (aCons (eOp atD (oVar 2) (oVar 16)) (aCons (eOp atD (oVar j) (oVar 16)) aNil))) [16] σ h = .ok v.Ts h := by
  obtain ⟨x1, x2, x3, x4, x5, x6, x7⟩ := v
  obtain ⟨k1, k2, k3, k4, k5, k6, k7⟩ := o
  simp only at k1 k2 k3 k4 k5 k6 k7
  have e1 : callN BB 59 48 [.str [110, 117, 109, 98, 101, 114], x1.D] h = .ok (.str x1.txt) h := t_num 58 h k1
  have e2 : callN BB 59 48 [.str [109, 97, 116, 114, 105, 120], mD x2] h = .ok (.str (mTxt x2)) h := t_mat 57 h k2
  have e3 : callN BB 59 48 [.str [99, 105, 114, 99, 117, 105, 116], x3.D] h = .ok (.str (cTxt x3)) h := t_circ 58 h k3
  have e4 : callN BB 59 48 [.str [112, 97, 117, 108, 105], x4.D] h = .ok (.str (pTxt x4)) h := t_pau 58 h k4
  have e5 : callN BB 59 48 [.str [112, 97, 117, 108, 105, 115], psD x5] h = .ok (.str (psTxt x5)) h := t_paus 57 h k5
  have e6 : callN BB 59 48 [.str [103, 114, 97, 112, 104], x6.D] h = .ok (.str (grTxt x6)) h := t_gra 58 h k6
  have e7 : callN BB 59 48 [.str [102, 111, 114, 109], x7.D] h = .ok (.str (fTxt x7)) h := t_frm 57 h k7
  have hs : ∀ (d : D), tgName 16 d (wipeS σ [16]) = some (σ.set 16 (.val d)) := fun d => by
    have hlt : 16 < σ.length := by omega
    simp [hlt]
  have h1' : ∀ d : D, (σ.set 16 (.val d))[2]? = some (.val (.lst kindsL)) := fun d => by simp [h2]
  have h17' : ∀ d : D, (σ.set 16 (.val d))[16]? = some (.val d) := fun d => by simp [hl]
  have hj' : ∀ d : D, (σ.set 16 (.val d))[j]? = some (.val (.lst (Sv.Ds ⟨x1, x2, x3, x4, x5, x6, x7⟩))) := fun d => by rw [List.getElem?_set_ne (by omega), hj]
  have st : ∀ (i : Int) (a b c : D), atI kindsL i = some a → atI (Sv.Ds ⟨x1, x2, x3, x4, x5, x6, x7⟩) i = some b → callN BB 59 48 [a, b] h = .ok c h → (eFn 2 (callN BB 59 48) (aCons (eOp atD (oVar 2) (oVar 16)) (aCons (eOp atD (oVar j) (oVar 16)) aNil))) (σ.set 16 (.val (.int i))) h = .ok c h := fun i a b c q1 q2 q3 => by
    have z1 : (eOp atD (oVar 2) (oVar 16)) (σ.set 16 (.val (.int i))) h = .ok a h := by
      rw [e_eOp, o_val (h1' _), R.bind_ok, o_val (h17' _), R.bind_ok, g_atL, q1]
      rfl
    have z2 : (eOp atD (oVar j) (oVar 16)) (σ.set 16 (.val (.int i))) h = .ok b h := by
      rw [e_eOp, o_val (hj' _), R.bind_ok, o_val (h17' _), R.bind_ok, g_atL, q2]
      rfl
    rw [e_eFn, e_aCons, z1, R.bind_ok, e_aCons, z2, R.bind_ok, e_aNil, R.bind_ok, R.bind_ok, R.bind_ok]
    exact (if_pos rfl).trans q3
  have im : iRange1 (aCons (eC (.int 7)) aNil) σ h = .ok [.int 0, .int 1, .int 2, .int 3, .int 4, .int 5, .int 6] h := by
    have := range1_ok (a := eC (.int 7)) (σ := σ) (h := h) (j := 7) rfl (by decide) (by decide)
    rw [this]
    rfl
  unfold lcL
  rw [im, R.bind_ok, if_pos (by decide)]
  simp only [lcGo, hs, e_yes, R.bind_ok, st 0 _ _ _ rfl rfl e1, st 1 _ _ _ rfl rfl e2, st 2 _ _ _ rfl rfl e3, st 3 _ _ _ rfl rfl e4, st 4 _ _ _ rfl rfl e5, st 5 _ _ _ rfl rfl e6, st 6 _ _ _ rfl rfl e7]
theorem like7 (v : Sv) (h : Hs) : callN BB 59 41 [.lst v.Ts, .lst v.Ts] h = .ok (.bl true) h :=
  like_ok (F := fun k => callN BB k 41) (fun k => u_41 k) 57 1 (.lst v.Ts) rfl
theorem differ7 {v w : Sv} (o : SvOk v) (q : SvOk w) {σ : Sg} {h : Hs} (h4 : σ[4]? = some (.val (.lst v.Ds))) (h5 : σ[5]? = some (.val (.lst w.Ds))) (h13 : σ[13]? = some (.val (.lst v.Ts))) (h15 : σ[15]? = some (.val (.lst w.Ts))) (hl : σ.length = 18) : lcL (iRange1 (aCons (eC (.int 7)) aNil)) (tgName 16) (tB (eOp gNe (eOp gEq (eOp atD (oVar 4) (oVar 16)) (eOp atD (oVar 5) (oVar 16))) (eOp gEq (eOp atD (oVar 13) (oVar 16)) (eOp atD (oVar 15) (oVar 16))))) (eVar 16) [16] σ h = .ok [] h := by
  obtain ⟨x1, x2, x3, x4, x5, x6, x7⟩ := v
  obtain ⟨k1, k2, k3, k4, k5, k6, k7⟩ := o
  obtain ⟨y1, y2, y3, y4, y5, y6, y7⟩ := w
  obtain ⟨l1, l2, l3, l4, l5, l6, l7⟩ := q
  simp only at k1 k2 k3 k4 k5 k6 k7 l1 l2 l3 l4 l5 l6 l7
  have hs : ∀ (d : D), tgName 16 d (wipeS σ [16]) = some (σ.set 16 (.val d)) := fun d => by
    have hlt : 16 < σ.length := by omega
    simp [hlt]
  have h17' : ∀ d : D, (σ.set 16 (.val d))[16]? = some (.val d) := fun d => by simp [hl]
  have at' : ∀ (j : Nat) (xs : List D) (i : Int) (a : D), j < 16 → σ[j]? = some (.val (.lst xs)) → atI xs i = some a → (eOp atD (oVar j) (oVar 16)) (σ.set 16 (.val (.int i))) h = .ok a h := fun j xs i a hj e q => by
    have hj' : (σ.set 16 (.val (.int i)))[j]? = some (.val (.lst xs)) := by rw [List.getElem?_set_ne (by omega), e]
    rw [e_eOp, o_val hj', R.bind_ok, o_val (h17' _), R.bind_ok, g_atL, q]
    rfl
  have st : ∀ (i : Int) (a b : D) (p q : List Nat), atI (Sv.Ds ⟨x1, x2, x3, x4, x5, x6, x7⟩) i = some a → atI (Sv.Ds ⟨y1, y2, y3, y4, y5, y6, y7⟩) i = some b → atI (Sv.Ts ⟨x1, x2, x3, x4, x5, x6, x7⟩) i = some (.str p) → atI (Sv.Ts ⟨y1, y2, y3, y4, y5, y6, y7⟩) i = some (.str q) → dat 5 a = true → dat 5 b = true → (p = q ↔ a = b) →
      (tB (eOp gNe (eOp gEq (eOp atD (oVar 4) (oVar 16)) (eOp atD (oVar 5) (oVar 16))) (eOp gEq (eOp atD (oVar 13) (oVar 16)) (eOp atD (oVar 15) (oVar 16))))) (σ.set 16 (.val (.int i))) h = .ok false h := fun i a b p q e1 e2 e3 e4 da db hp => by
    have g := g_eqDat (h := h) da db (by decide) hp
    rw [e_tB, e_eOp, e_eOp, at' 4 _ i a (by decide) h4 e1, R.bind_ok, at' 5 _ i b (by decide) h5 e2, R.bind_ok, g, e_optR_some, R.bind_ok, e_eOp, at' 13 _ i _ (by decide) h13 e3, R.bind_ok, at' 15 _ i _ (by decide) h15 e4, R.bind_ok, g_eqS, e_optR_some, R.bind_ok, g_neB, e_optR_some, R.bind_ok]
    have : (decide (p = q) == (p == q)) = true := by
      by_cases z : p = q
      · rw [decide_eq_true z, beq_iff_eq.mpr z]; rfl
      · rw [decide_eq_false z, beq_eq_false_iff_ne.mpr z]; rfl
    rw [this]
    rfl
  have im : iRange1 (aCons (eC (.int 7)) aNil) σ h = .ok [.int 0, .int 1, .int 2, .int 3, .int 4, .int 5, .int 6] h := by
    have := range1_ok (a := eC (.int 7)) (σ := σ) (h := h) (j := 7) rfl (by decide) (by decide)
    rw [this]
    rfl
  unfold lcL
  rw [im, R.bind_ok, if_pos (by decide)]
  simp only [lcGo, hs, R.bind_ok, st 0 _ _ _ _ rfl rfl rfl rfl (num_dat x1) (num_dat y1) num_iff, st 1 _ _ _ _ rfl rfl rfl rfl (mat_dat x2) (mat_dat y2) (mat_iff k2 l2), st 2 _ _ _ _ rfl rfl rfl rfl (circ_dat x3) (circ_dat y3) (circ_iff k3 l3), st 3 _ _ _ _ rfl rfl rfl rfl (pau_dat x4) (pau_dat y4) (pau_iff k4 l4), st 4 _ _ _ _ rfl rfl rfl rfl (paus_dat x5) (paus_dat y5) (paus_iff k5 l5), st 5 _ _ _ _ rfl rfl rfl rfl (gra_dat x6) (gra_dat y6) (gra_iff k6 l6), st 6 _ _ _ _ rfl rfl rfl rfl (frm_dat x7) (frm_dat y7) (frm_iff k7 l7)]
end WP
set_option Elab.async false
set_option linter.all false
set_option maxRecDepth 100000
namespace WP
open PySem PySem.Spec PyProof.Rows L2 WC
abbrev fe9 : Nat → FD := callN BB 59
abbrev thC : LM := lcL (iVal (oVar 2)) (tgName 17) tYesM (eFn 2 (callN BB 59 49) (aCons (eVar 1) (aCons (eVar 17) aNil))) [17]
abbrev txC (j : Nat) : LM := lcL (iRange1 (aCons (eC (.int 7)) aNil)) (tgName 16) tYesM (eFn 2 (callN BB 59 48) (aCons (eOp atD (oVar 2) (oVar 16)) (aCons (eOp atD (oVar j) (oVar 16)) aNil))) [16]
abbrev dfC : LM := lcL (iRange1 (aCons (eC (.int 7)) aNil)) (tgName 16) (tB (eOp gNe (eOp gEq (eOp atD (oVar 4) (oVar 16)) (eOp atD (oVar 5) (oVar 16))) (eOp gEq (eOp atD (oVar 13) (oVar 16)) (eOp atD (oVar 15) (oVar 16))))) (eVar 16) [16]
abbrev tg7 : GT := tgTup [(tgName 6), (tgName 7), (tgName 8), (tgName 9), (tgName 10), (tgName 11), (tgName 12)]
abbrev sS1 (L : LM) : SM := sAsg (tgTup [(tgName 4), (tgName 5)]) (eTup (aCons (eFrz L) (aCons (eFrz L) aNil)))
abbrev sS3 : SM := sSet 13 (xVal (eFrz (lLst (aCons (eFn 1 (fe9 33) (aCons (eVar 6) aNil)) (aCons (eFn 1 (fe9 34) (aCons (eVar 7) aNil)) (aCons (eFn 1 (fe9 35) (aCons (eVar 8) aNil)) (aCons (eFn 1 (fe9 36) (aCons (eVar 9) aNil)) (aCons (eFn 1 (fe9 37) (aCons (eVar 10) aNil)) aNil))))))))
abbrev sS4 : SM := sSet 13 (xVal (eOp gAdd (oVar 13) (eFrz (lLst (aCons (eFn 1 (fe9 38) (aCons (eVar 11) aNil)) (aCons (eFn 1 (fe9 39) (aCons (eVar 12) aNil)) aNil))))))
abbrev sS5 (L : LM) : SM := sSet 14 (xVal (eFrz L))
abbrev sS6 : SM := sIf (tNot (tB (eFn 2 (fe9 41) (aCons (eVar 13) (aCons (eVar 14) aNil))))) (sRet (eC (.bl false))) sNil
abbrev sS8 : SM := sSet 15 (xVal (eFrz (lLst (aCons (eFnK 1 0 1 [0] (fe9 33) aNil (aCons (eVar 6) aNil)) (aCons (eFnK 1 0 1 [0] (fe9 34) aNil (aCons (eVar 7) aNil)) (aCons (eFnK 1 0 1 [0] (fe9 35) aNil (aCons (eVar 8) aNil)) (aCons (eFnK 1 0 1 [0] (fe9 36) aNil (aCons (eVar 9) aNil)) aNil)))))))
abbrev sS9 : SM := sSet 15 (xVal (eOp gAdd (oVar 15) (eFrz (lLst (aCons (eFnK 1 0 1 [0] (fe9 37) aNil (aCons (eVar 10) aNil)) (aCons (eFnK 1 0 1 [0] (fe9 38) aNil (aCons (eVar 11) aNil)) (aCons (eFnK 1 0 1 [0] (fe9 39) aNil (aCons (eVar 12) aNil)) aNil)))))))
abbrev sS10 (L : LM) : SM := sIf (tNot (tB (eFn 2 (fe9 41) (aCons (eVar 15) (aCons (eFrz L) aNil))))) (sRet (eC (.bl false))) sNil
abbrev sS11 (L : LM) : SM := sIf (tB (eOp gNe (eFrz L) (eFrz (lLst aNil)))) (sRet (eC (.bl false))) sNil
def turnB : SM := sSeq (sS1 thC) (sSeq (sAsg tg7 (eVar 4)) (sSeq sS3 (sSeq sS4 (sSeq (sS5 (txC 4)) (sSeq sS6 (sSeq (sAsg tg7 (eVar 5)) (sSeq sS8 (sSeq sS9 (sSeq (sS10 (txC 5)) (sS11 dfC))))))))))
theorem e_b50 : b_50 fe9 = (sSeq (sSet 1 (xHeap (lLst (aCons (eC (.int 0)) (aCons (eC (.int 90)) (aCons (eC (.int 0)) (aCons (eC (.int 0)) (aCons (eFrz (lListOf (aCons (oVar 0) aNil))) aNil))))))))
  (sSeq (sSet 2 (xVal (eFrz (lLst (aCons (eC (.str [110, 117, 109, 98, 101, 114])) (aCons (eC (.str [109, 97, 116, 114, 105, 120])) (aCons (eC (.str [99, 105, 114, 99, 117, 105, 116])) (aCons (eC (.str [112, 97, 117, 108, 105])) (aCons (eC (.str [112, 97, 117, 108, 105, 115])) (aCons (eC (.str [103, 114, 97, 112, 104])) (aCons (eC (.str [102, 111, 114, 109])) aNil)))))))))))
  (sSeq (sFor (iRange1 (aCons (eC (.int 2)) aNil)) (tgName 3) turnB) (sRet (eC (.bl true)))))) := rfl
abbrev fr (c0 a3 a4 a5 a6 a7 a8 a9 a10 a11 a12 a13 a14 a15 : Sl) : Sg := [c0, .val (.ref 0), .val (.lst kindsL), a3, a4, a5, a6, a7, a8, a9, a10, a11, a12, a13, a14, a15, .no, .no]
abbrev vv (v : Sv) (c0 a3 a4 a5 a13 a14 a15 : Sl) : Sg := fr c0 a3 a4 a5 (.val v.num.D) (.val (mD v.mat)) (.val v.cir.D) (.val v.pau.D) (.val (psD v.pas)) (.val v.gra.D) (.val v.frm.D) a13 a14 a15
section
variable {c0 a3 a4 a5 a6 a7 a8 a9 a10 a11 a12 a13 a14 a15 : Sl} {h h' h2 : Hs}
theorem w1 {L : LM} {xs ys : List D} (p4 : a4.plain = true) (p5 : a5.plain = true) (e1 : L (fr c0 a3 a4 a5 a6 a7 a8 a9 a10 a11 a12 a13 a14 a15) h = .ok xs h') (e2 : L (fr c0 a3 a4 a5 a6 a7 a8 a9 a10 a11 a12 a13 a14 a15) h' = .ok ys h2) : sS1 L (fr c0 a3 a4 a5 a6 a7 a8 a9 a10 a11 a12 a13 a14 a15) h = .nx (fr c0 a3 (.val (.lst xs)) (.val (.lst ys)) a6 a7 a8 a9 a10 a11 a12 a13 a14 a15) h2 := by
  simp [-e_setS, setS_if, plAt, p4, p5, e1, e2]
theorem w2 {v : Sv} {d5 : D} (p6 : a6.plain = true) (p7 : a7.plain = true) (p8 : a8.plain = true) (p9 : a9.plain = true) (p10 : a10.plain = true) (p11 : a11.plain = true) (p12 : a12.plain = true) :
    sAsg tg7 (eVar 4) (fr c0 a3 (.val (.lst v.Ds)) (.val d5) a6 a7 a8 a9 a10 a11 a12 a13 a14 a15) h = .nx (vv v c0 a3 (.val (.lst v.Ds)) (.val d5) a13 a14 a15) h := by
  simp [-e_setS, setS_if, plAt, p6, p7, p8, p9, p10, p11, p12]
theorem w7 {v : Sv} {d4 : D} (p6 : a6.plain = true) (p7 : a7.plain = true) (p8 : a8.plain = true) (p9 : a9.plain = true) (p10 : a10.plain = true) (p11 : a11.plain = true) (p12 : a12.plain = true) :
    sAsg tg7 (eVar 5) (fr c0 a3 (.val d4) (.val (.lst v.Ds)) a6 a7 a8 a9 a10 a11 a12 a13 a14 a15) h = .nx (vv v c0 a3 (.val d4) (.val (.lst v.Ds)) a13 a14 a15) h := by
  simp [-e_setS, setS_if, plAt, p6, p7, p8, p9, p10, p11, p12]
theorem w3 {v : Sv} (o : SvOk v) (p13 : a13.plain = true) : sS3 (vv v c0 a3 a4 a5 a13 a14 a15) h = .nx (vv v c0 a3 a4 a5 (.val (.lst [.str v.num.txt, .str (mTxt v.mat), .str (cTxt v.cir), .str (pTxt v.pau), .str (psTxt v.pas)])) a14 a15) h := by
  have e1 : callN BB 59 33 [v.num.D] h = .ok (.str v.num.txt) h := f_shNumber 54 h o.num
  have e2 : callN BB 59 34 [mD v.mat] h = .ok (.str (mTxt v.mat)) h := f_shMatrix 53 h o.mat
  have e3 : callN BB 59 35 [v.cir.D] h = .ok (.str (cTxt v.cir)) h := f_shCirc 53 h o.cir
  have e4 : callN BB 59 36 [v.pau.D] h = .ok (.str (pTxt v.pau)) h := f_shPau 55 h o.pau
  have e5 : callN BB 59 37 [psD v.pas] h = .ok (.str (psTxt v.pas)) h := f_shPaulis 55 h o.pas
  simp [-e_setS, setS_if, plAt, p13, e1, e2, e3, e4, e5]
theorem w4 {v : Sv} (o : SvOk v) : sS4 (vv v c0 a3 a4 a5 (.val (.lst [.str v.num.txt, .str (mTxt v.mat), .str (cTxt v.cir), .str (pTxt v.pau), .str (psTxt v.pas)])) a14 a15) h = .nx (vv v c0 a3 a4 a5 (.val (.lst v.Ts)) a14 a15) h := by
  have e1 : callN BB 59 38 [v.gra.D] h = .ok (.str (grTxt v.gra)) h := f_shGraph 53 h o.gra
  have e2 : callN BB 59 39 [v.frm.D] h = .ok (.str (fTxt v.frm)) h := f_shForm 53 h o.frm
  simp [-e_setS, setS_if, plAt, e1, e2]
theorem w5 {L : LM} {v : Sv} {a6 a7 a8 a9 a10 a11 a12 : Sl} {d13 : D} (p14 : a14.plain = true) (e : L (fr c0 a3 a4 a5 a6 a7 a8 a9 a10 a11 a12 (.val d13) a14 a15) h = .ok v.Ts h) : sS5 L (fr c0 a3 a4 a5 a6 a7 a8 a9 a10 a11 a12 (.val d13) a14 a15) h = .nx (fr c0 a3 a4 a5 a6 a7 a8 a9 a10 a11 a12 (.val d13) (.val (.lst v.Ts)) a15) h := by
  simp [-e_setS, setS_if, plAt, p14, e]
theorem w6 {v : Sv} : sS6 (fr c0 a3 a4 a5 a6 a7 a8 a9 a10 a11 a12 (.val (.lst v.Ts)) (.val (.lst v.Ts)) a15) h = .nx (fr c0 a3 a4 a5 a6 a7 a8 a9 a10 a11 a12 (.val (.lst v.Ts)) (.val (.lst v.Ts)) a15) h := by
  have e := like7 v h
  simp [e]
theorem w8 {v : Sv} (o : SvOk v) (p15 : a15.plain = true) : sS8 (vv v c0 a3 a4 a5 a13 a14 a15) h = .nx (vv v c0 a3 a4 a5 a13 a14 (.val (.lst [.str v.num.txt, .str (mTxt v.mat), .str (cTxt v.cir), .str (pTxt v.pau)]))) h := by
  have e1 : callN BB 59 33 [v.num.D] h = .ok (.str v.num.txt) h := f_shNumber 54 h o.num
  have e2 : callN BB 59 34 [mD v.mat] h = .ok (.str (mTxt v.mat)) h := f_shMatrix 53 h o.mat
  have e3 : callN BB 59 35 [v.cir.D] h = .ok (.str (cTxt v.cir)) h := f_shCirc 53 h o.cir
  have e4 : callN BB 59 36 [v.pau.D] h = .ok (.str (pTxt v.pau)) h := f_shPau 55 h o.pau
  simp [-e_setS, setS_if, plAt, p15, e1, e2, e3, e4, permL]
theorem w9 {v : Sv} (o : SvOk v) : sS9 (vv v c0 a3 a4 a5 a13 a14 (.val (.lst [.str v.num.txt, .str (mTxt v.mat), .str (cTxt v.cir), .str (pTxt v.pau)]))) h = .nx (vv v c0 a3 a4 a5 a13 a14 (.val (.lst v.Ts))) h := by
  have e5 : callN BB 59 37 [psD v.pas] h = .ok (.str (psTxt v.pas)) h := f_shPaulis 55 h o.pas
  have e1 : callN BB 59 38 [v.gra.D] h = .ok (.str (grTxt v.gra)) h := f_shGraph 53 h o.gra
  have e2 : callN BB 59 39 [v.frm.D] h = .ok (.str (fTxt v.frm)) h := f_shForm 53 h o.frm
  simp [-e_setS, setS_if, plAt, e1, e2, e5, permL]
theorem w10 {L : LM} {v : Sv} (e : L (fr c0 a3 a4 a5 a6 a7 a8 a9 a10 a11 a12 a13 a14 (.val (.lst v.Ts))) h = .ok v.Ts h) : sS10 L (fr c0 a3 a4 a5 a6 a7 a8 a9 a10 a11 a12 a13 a14 (.val (.lst v.Ts))) h = .nx (fr c0 a3 a4 a5 a6 a7 a8 a9 a10 a11 a12 a13 a14 (.val (.lst v.Ts))) h := by
  have e2 := like7 v h
  simp [e, e2]
theorem w11 {L : LM} {σ : Sg} (e : L σ h = .ok [] h) : sS11 L σ h = .nx σ h := by
  have g : gNe h (.lst []) (.lst []) = some (.bl false) := rfl
  simp [e, g]
end
end WP
set_option Elab.async false
set_option linter.all false
set_option maxRecDepth 100000
namespace WP
open PySem PySem.Spec PyProof.Rows L2 WC
theorem turn_ok {n : Nat} {s : WC.St} {c0 a4 a5 a6 a7 a8 a9 a10 a11 a12 a13 a14 a15 : Sl} {i : Int} (p4 : a4.plain = true) (p5 : a5.plain = true) (p6 : a6.plain = true) (p7 : a7.plain = true) (p8 : a8.plain = true) (p9 : a9.plain = true) (p10 : a10.plain = true) (p11 : a11.plain = true) (p12 : a12.plain = true) (p13 : a13.plain = true) (p14 : a14.plain = true) (p15 : a15.plain = true) (o : s.Ok (n + 2000)) :
    ∃ (v w : Sv) (s' : WC.St), turnB (fr c0 (.val (.int i)) a4 a5 a6 a7 a8 a9 a10 a11 a12 a13 a14 a15) [s.ob] = .nx (vv w c0 (.val (.int i)) (.val (.lst v.Ds)) (.val (.lst w.Ds)) (.val (.lst v.Ts)) (.val (.lst v.Ts)) (.val (.lst w.Ts))) [s'.ob] ∧ s'.Ok n := by
  obtain ⟨v, s1, e1, k1, o1⟩ := draw7 (n := n + 1000) (s := s) (σ := fr c0 (.val (.int i)) a4 a5 a6 a7 a8 a9 a10 a11 a12 a13 a14 a15) rfl rfl rfl rfl (o.mono (by omega))
  obtain ⟨w, s2, e2, k2, o2⟩ := draw7 (n := n) (s := s1) (σ := fr c0 (.val (.int i)) a4 a5 a6 a7 a8 a9 a10 a11 a12 a13 a14 a15) rfl rfl rfl rfl (o1.mono (by omega))
  refine ⟨v, w, s2, ?_, o2⟩
  unfold turnB
  rw [e_sSeq, w1 p4 p5 e1 e2]
  dsimp only
  rw [e_sSeq, w2 p6 p7 p8 p9 p10 p11 p12]
  dsimp only
  rw [e_sSeq, w3 k1 p13]
  dsimp only
  rw [e_sSeq, w4 k1]
  dsimp only
  rw [e_sSeq, w5 (v := v) p14 (text7 k1 rfl rfl rfl (by decide))]
  dsimp only
  rw [e_sSeq, w6]
  dsimp only
  rw [e_sSeq, w7 rfl rfl rfl rfl rfl rfl rfl]
  dsimp only
  rw [e_sSeq, w8 k2 p15]
  dsimp only
  rw [e_sSeq, w9 k2]
  dsimp only
  rw [e_sSeq, w10 (v := w) (text7 k2 rfl rfl rfl (by decide))]
  dsimp only
  rw [w11 (differ7 k1 k2 rfl rfl rfl rfl rfl)]
theorem for2 {t : GT} {body : SM} {x y : D} {σ σ1 σ2 σ3 σ4 : Sg} {h h1 h2 : Hs} (t0 : t x σ = some σ1) (b0 : body σ1 h = .nx σ2 h1) (t1 : t y σ2 = some σ3) (b1 : body σ3 h1 = .nx σ4 h2) : forGo t body [x, y] σ h = .nx σ4 h2 := by
  simp [forGo, t0, b0, t1, b1]
theorem start_ok {ns : List Int} {b : Int} {n : Nat} (hb : 0 ≤ b) (hb2 : b < 2147483587) (hn : n ≤ 1000000) (hl : ns.length ≤ 63) : St.Ok n ⟨0, b, 0, 0, ns⟩ :=
  ⟨Int.le_refl 0, hb, hb2, Int.le_refl 0, by show (0 : Int) + n ≤ 1000000000000000000; omega, Int.le_refl 0, by show (0 : Int) ≤ 63; decide, hl⟩
theorem two_turns {n : Nat} {s : WC.St} {c0 : Sl} (o : s.Ok (n + 4000)) : ∃ (σ : Sg) (s' : WC.St), forGo (tgName 3) turnB [.int 0, .int 1] (fr c0 .no .no .no .no .no .no .no .no .no .no .no .no .no) [s.ob] = .nx σ [s'.ob] := by
  obtain ⟨v, w, s1, e1, o1⟩ := turn_ok (n := n + 2000) (s := s) (c0 := c0) (i := 0) (a4 := .no) (a5 := .no) (a6 := .no) (a7 := .no) (a8 := .no) (a9 := .no) (a10 := .no) (a11 := .no) (a12 := .no) (a13 := .no) (a14 := .no) (a15 := .no) rfl rfl rfl rfl rfl rfl rfl rfl rfl rfl rfl rfl (o.mono (by omega))
  obtain ⟨v2, w2, s2, e2, o2⟩ := turn_ok (n := n) (s := s1) (c0 := c0) (i := 1) (a4 := .val (.lst v.Ds)) (a5 := .val (.lst w.Ds)) (a6 := .val w.num.D) (a7 := .val (mD w.mat)) (a8 := .val w.cir.D) (a9 := .val w.pau.D) (a10 := .val (psD w.pas)) (a11 := .val w.gra.D) (a12 := .val w.frm.D) (a13 := .val (.lst v.Ts)) (a14 := .val (.lst v.Ts)) (a15 := .val (.lst w.Ts)) rfl rfl rfl rfl rfl rfl rfl rfl rfl rfl rfl rfl o1
  exact ⟨_, s2, for2 rfl e1 rfl e2⟩
theorem law_true (ns : List Int) (hl : ns.length ≤ 63) : ∃ h', callN BB (lvl + 1) 50 [.scr (ns.map .int)] [] = .ok (.bl true) h' := by
  have o : St.Ok (0 + 4000) ⟨0, 90, 0, 0, ns⟩ := start_ok (by decide) (by decide) (by decide) hl
  obtain ⟨σ, s', e⟩ := two_turns (c0 := .val (.scr (ns.map .int))) o
  refine ⟨[s'.ob], ?_⟩
  rw [u_50, e_defF]
  have st : startS 18 [.scr (ns.map .int)] = [.val (.scr (ns.map .int)), .no, .no, .no, .no, .no, .no, .no, .no, .no, .no, .no, .no, .no, .no, .no, .no, .no] := rfl
  rw [st]
  show (match b_50 fe9 _ _ with | .nx _ h' => R.ok D.non h' | .rt d h' => .ok d h' | _ => .bad) = _
  rw [e_b50]
  have q1 : (sSet 1 (xHeap (lLst (aCons (eC (.int 0)) (aCons (eC (.int 90)) (aCons (eC (.int 0)) (aCons (eC (.int 0)) (aCons (eFrz (lListOf (aCons (oVar 0) aNil))) aNil)))))))) [.val (.scr (ns.map .int)), .no, .no, .no, .no, .no, .no, .no, .no, .no, .no, .no, .no, .no, .no, .no, .no, .no] [] = .nx [.val (.scr (ns.map .int)), .val (.ref 0), .no, .no, .no, .no, .no, .no, .no, .no, .no, .no, .no, .no, .no, .no, .no, .no] [St.ob ⟨0, 90, 0, 0, ns⟩] := by
    simp
  have q2 : (sSet 2 (xVal (eFrz (lLst (aCons (eC (.str [110, 117, 109, 98, 101, 114])) (aCons (eC (.str [109, 97, 116, 114, 105, 120])) (aCons (eC (.str [99, 105, 114, 99, 117, 105, 116])) (aCons (eC (.str [112, 97, 117, 108, 105])) (aCons (eC (.str [112, 97, 117, 108, 105, 115])) (aCons (eC (.str [103, 114, 97, 112, 104])) (aCons (eC (.str [102, 111, 114, 109])) aNil))))))))))) [.val (.scr (ns.map .int)), .val (.ref 0), .no, .no, .no, .no, .no, .no, .no, .no, .no, .no, .no, .no, .no, .no, .no, .no] [St.ob ⟨0, 90, 0, 0, ns⟩] = .nx (fr (.val (.scr (ns.map .int))) .no .no .no .no .no .no .no .no .no .no .no .no .no) [St.ob ⟨0, 90, 0, 0, ns⟩] := rfl
  have im : iRange1 (aCons (eC (.int 2)) aNil) (fr (.val (.scr (ns.map .int))) .no .no .no .no .no .no .no .no .no .no .no .no .no) [St.ob ⟨0, 90, 0, 0, ns⟩] = .ok [.int 0, .int 1] [St.ob ⟨0, 90, 0, 0, ns⟩] := by
    have := range1_ok (a := eC (.int 2)) (σ := (fr (.val (.scr (ns.map .int))) .no .no .no .no .no .no .no .no .no .no .no .no .no)) (h := [St.ob ⟨0, 90, 0, 0, ns⟩]) (j := 2) rfl (by decide) (by decide)
    rw [this]
    rfl
  have q3 : (sFor (iRange1 (aCons (eC (.int 2)) aNil)) (tgName 3) turnB) (fr (.val (.scr (ns.map .int))) .no .no .no .no .no .no .no .no .no .no .no .no .no) [St.ob ⟨0, 90, 0, 0, ns⟩] = .nx σ [s'.ob] := by
    rw [e_sFor, im, e_eDo_ok, e]
  rw [e_sSeq, q1]
  dsimp only
  rw [e_sSeq, q2]
  dsimp only
  rw [e_sSeq, q3]
  rfl
end WP
open PySem PySem.W PyProof.Rows
set_option Elab.async false
set_option maxRecDepth 100000 in
set_option maxHeartbeats 8000000 in
open_top hd for PySem.Challenge.rw_wholecircuits_k90_texts_shown
set_option Elab.async false
set_option linter.all false
set_option maxRecDepth 100000
open PySem PySem.W PyProof.Rows
set_option maxHeartbeats 0 in
theorem PySem.Challenge.cw_wholecircuits_k90_texts_shown_holds : PySem.Challenge.rw_wholecircuits_k90_texts_shown.Holds :=
  hd (by
  k_fill
  refine L2.walk_of (l := PySem.Challenge.rw_wholecircuits_k90_texts_shown) (n := 63) (k := WP.lvl + 1) (x := "script") (CX := fun _ => L2.CX0) (sp := fun w => WC.spI _ 1 (WC.callN WP.BB (WP.lvl + 1) 50)) rfl (by decide) rfl ⟨by decide, by decide, by decide⟩ (fun w h Y => PySem.W.kIn_of Y) ?F (fun _ _ a ns hl _ hS => WC.law_end hS (WP.law_true ns hl)) (fun _ _ _ _ _ h => h)
  case F =>
    intro w mg fa h KX G hmg
    refine' WP.all_mk KX G hmg ?d_0 ?d_1 ?d_2 ?d_3 ?d_4 ?d_5 ?d_6 ?d_7 ?d_8 ?d_9 ?d_10 ?d_11 ?d_12 ?d_13 ?d_14 ?d_15 ?d_16 ?d_17 ?d_18 ?d_19 ?d_20 ?d_21 ?d_22 ?d_23 ?d_24 ?d_25 ?d_26 ?d_27 ?d_28 ?d_29 ?d_30 ?d_31 ?d_32 ?d_33 ?d_34 ?d_35 ?d_36 ?d_37 ?d_38 ?d_39 ?d_40 ?d_41 ?d_42 ?d_43 ?d_44 ?d_45 ?d_46 ?d_47 ?d_48 ?d_49 ?d_50 ?z_0 ?z_1 ?z_2 ?z_3 ?z_4 ?z_5 ?z_6 ?z_7 ?z_8 ?z_9 ?z_10 ?c0 ?e0
    (case d_0 => exact ⟨⟨_, _, _, _, _, _, _, _, _, _, by k_is, by k_is, by k_is, by k_is⟩⟩)
    (case d_1 => exact ⟨⟨_, _, _, _, _, _, _, _, _, _, by k_is, by k_is, by k_is, by k_is⟩⟩)
    (case d_2 => exact ⟨⟨_, _, _, _, _, _, _, _, _, _, by k_is, by k_is, by k_is, by k_is⟩⟩)
    (case d_3 => exact ⟨⟨_, _, _, _, _, _, _, _, _, _, by k_is, by k_is, by k_is, by k_is⟩⟩)
    (case d_4 => exact ⟨⟨_, _, _, _, _, _, _, _, _, _, by k_is, by k_is, by k_is, by k_is⟩⟩)
    (case d_5 => exact ⟨⟨_, _, _, _, _, _, _, _, _, _, by k_is, by k_is, by k_is, by k_is⟩⟩)
    (case d_6 => exact ⟨⟨_, _, _, _, _, _, _, _, _, _, by k_is, by k_is, by k_is, by k_is⟩⟩)
    (case d_7 => exact ⟨⟨_, _, _, _, _, _, _, _, _, _, by k_is, by k_is, by k_is, by k_is⟩⟩)
    (case d_8 => exact ⟨⟨_, _, _, _, _, _, _, _, _, _, by k_is, by k_is, by k_is, by k_is⟩⟩)
    (case d_9 => exact ⟨⟨_, _, _, _, _, _, _, _, _, _, by k_is, by k_is, by k_is, by k_is⟩⟩)
    (case d_10 => exact ⟨⟨_, _, _, _, _, _, _, _, _, _, by k_is, by k_is, by k_is, by k_is⟩⟩)
    (case d_11 => exact ⟨⟨_, _, _, _, _, _, _, _, _, _, by k_is, by k_is, by k_is, by k_is⟩⟩)
    (case d_12 => exact ⟨⟨_, _, _, _, _, _, _, _, _, _, by k_is, by k_is, by k_is, by k_is⟩⟩)
    (case d_13 => exact ⟨⟨_, _, _, _, _, _, _, _, _, _, by k_is, by k_is, by k_is, by k_is⟩⟩)
    (case d_14 => exact ⟨⟨_, _, _, _, _, _, _, _, _, _, by k_is, by k_is, by k_is, by k_is⟩⟩)
    (case d_15 => exact ⟨⟨_, _, _, _, _, _, _, _, _, _, by k_is, by k_is, by k_is, by k_is⟩⟩)
    (case d_16 => exact ⟨⟨_, _, _, _, _, _, _, _, _, _, by k_is, by k_is, by k_is, by k_is⟩⟩)
    (case d_17 => exact ⟨⟨_, _, _, _, _, _, _, _, _, _, by k_is, by k_is, by k_is, by k_is⟩⟩)
    (case d_18 => exact ⟨⟨_, _, _, _, _, _, _, _, _, _, by k_is, by k_is, by k_is, by k_is⟩⟩)
    (case d_19 => exact ⟨⟨_, _, _, _, _, _, _, _, _, _, by k_is, by k_is, by k_is, by k_is⟩⟩)
    (case d_20 => exact ⟨⟨_, _, _, _, _, _, _, _, _, _, by k_is, by k_is, by k_is, by k_is⟩⟩)
    (case d_21 => exact ⟨⟨_, _, _, _, _, _, _, _, _, _, by k_is, by k_is, by k_is, by k_is⟩⟩)
    (case d_22 => exact ⟨⟨_, _, _, _, _, _, _, _, _, _, by k_is, by k_is, by k_is, by k_is⟩⟩)
    (case d_23 => exact ⟨⟨_, _, _, _, _, _, _, _, _, _, by k_is, by k_is, by k_is, by k_is⟩⟩)
    (case d_24 => exact ⟨⟨_, _, _, _, _, _, _, _, _, _, by k_is, by k_is, by k_is, by k_is⟩⟩)
    (case d_25 => exact ⟨⟨_, _, _, _, _, _, _, _, _, _, by k_is, by k_is, by k_is, by k_is⟩⟩)
    (case d_26 => exact ⟨⟨_, _, _, _, _, _, _, _, _, _, by k_is, by k_is, by k_is, by k_is⟩⟩)
    (case d_27 => exact ⟨⟨_, _, _, _, _, _, _, _, _, _, by k_is, by k_is, by k_is, by k_is⟩⟩)
    (case d_28 => exact ⟨⟨_, _, _, _, _, _, _, _, _, _, by k_is, by k_is, by k_is, by k_is⟩⟩)
    (case d_29 => exact ⟨⟨_, _, _, _, _, _, _, _, _, _, by k_is, by k_is, by k_is, by k_is⟩⟩)
    (case d_30 => exact ⟨⟨_, _, _, _, _, _, _, _, _, _, by k_is, by k_is, by k_is, by k_is⟩⟩)
    (case d_31 => exact ⟨⟨_, _, _, _, _, _, _, _, _, _, by k_is, by k_is, by k_is, by k_is⟩⟩)
    (case d_32 => exact ⟨⟨_, _, _, _, _, _, _, _, _, _, by k_is, by k_is, by k_is, by k_is⟩⟩)
    (case d_33 => exact ⟨⟨_, _, _, _, _, _, _, _, _, _, by k_is, by k_is, by k_is, by k_is⟩⟩)
    (case d_34 => exact ⟨⟨_, _, _, _, _, _, _, _, _, _, by k_is, by k_is, by k_is, by k_is⟩⟩)
    (case d_35 => exact ⟨⟨_, _, _, _, _, _, _, _, _, _, by k_is, by k_is, by k_is, by k_is⟩⟩)
    (case d_36 => exact ⟨⟨_, _, _, _, _, _, _, _, _, _, by k_is, by k_is, by k_is, by k_is⟩⟩)
    (case d_37 => exact ⟨⟨_, _, _, _, _, _, _, _, _, _, by k_is, by k_is, by k_is, by k_is⟩⟩)
    (case d_38 => exact ⟨⟨_, _, _, _, _, _, _, _, _, _, by k_is, by k_is, by k_is, by k_is⟩⟩)
    (case d_39 => exact ⟨⟨_, _, _, _, _, _, _, _, _, _, by k_is, by k_is, by k_is, by k_is⟩⟩)
    (case d_40 => exact ⟨⟨_, _, _, _, _, _, _, _, _, _, by k_is, by k_is, by k_is, by k_is⟩⟩)
    (case d_41 => exact ⟨⟨_, _, _, _, _, _, _, _, _, _, by k_is, by k_is, by k_is, by k_is⟩⟩)
    (case d_42 => exact ⟨⟨_, _, _, _, _, _, _, _, _, _, by k_is, by k_is, by k_is, by k_is⟩⟩)
    (case d_43 => exact ⟨⟨_, _, _, _, _, _, _, _, _, _, by k_is, by k_is, by k_is, by k_is⟩⟩)
    (case d_44 => exact ⟨⟨_, _, _, _, _, _, _, _, _, _, by k_is, by k_is, by k_is, by k_is⟩⟩)
    (case d_45 => exact ⟨⟨_, _, _, _, _, _, _, _, _, _, by k_is, by k_is, by k_is, by k_is⟩⟩)
    (case d_46 => exact ⟨⟨_, _, _, _, _, _, _, _, _, _, by k_is, by k_is, by k_is, by k_is⟩⟩)
    (case d_47 => exact ⟨⟨_, _, _, _, _, _, _, _, _, _, by k_is, by k_is, by k_is, by k_is⟩⟩)
    (case d_48 => exact ⟨⟨_, _, _, _, _, _, _, _, _, _, by k_is, by k_is, by k_is, by k_is⟩⟩)
    (case d_49 => exact ⟨⟨_, _, _, _, _, _, _, _, _, _, by k_is, by k_is, by k_is, by k_is⟩⟩)
    (case d_50 => exact ⟨⟨_, _, _, _, _, _, _, _, _, _, by k_is, by k_is, by k_is, by k_is⟩⟩)
    (case z_0 => k_is)
    (case z_1 => k_is)
    (case z_2 => k_is)
    (case z_3 => k_is)
    (case z_4 => k_is)
    (case z_5 => k_is)
    (case z_6 => k_is)
    (case z_7 => k_is)
    (case z_8 => k_is)
    (case z_9 => k_is)
    (case z_10 => k_is)
    (case c0 => exact ⟨⟨.ref _, _, by k_is, rfl, fun L => WC.rep_ctup (vs := [.str "+", .str "+i", .str "-", .str "-i"]) (by k_is) rfl rfl (by decide) (.cons ⟨_, rfl⟩ (.cons ⟨_, rfl⟩ (.cons ⟨_, rfl⟩ (.cons ⟨_, rfl⟩ .nil)))) (.cons (.str "+" (by decide +kernel)) (.cons (.str "+i" (by decide +kernel)) (.cons (.str "-" (by decide +kernel)) (.cons (.str "-i" (by decide +kernel)) .nil))))⟩⟩)
    (case e0 => refine' ⟨⟨_, ?ea, WC.KDOk.mk1 ?eb ?ec ?ex ?ed⟩⟩; (case ea => k_is); (case eb => k_is); (case ex => decide); (case ec => exact ⟨⟨_, _, rfl, rfl⟩, ⟨_, _, rfl, rfl⟩, ⟨_, _, rfl, rfl⟩, ⟨_, _, rfl, rfl⟩, ⟨_, _, rfl, rfl⟩, ⟨_, _, rfl, rfl⟩, ⟨_, _, rfl, rfl⟩, ⟨_, _, rfl, rfl⟩, ⟨_, _, rfl, rfl⟩, ⟨_, _, rfl, rfl⟩, ⟨_, _, rfl, rfl⟩, ⟨_, _, rfl, rfl⟩, trivial⟩); (case ed => exact (.cons (x := "w") (v := .int 0) rfl ⟨_, rfl⟩ (fun L => .int _) (.cons (x := "h") (v := .int 1) rfl ⟨_, rfl⟩ (fun L => .int _) (.cons (x := "s") (v := .int 1) rfl ⟨_, rfl⟩ (fun L => .int _) (.cons (x := "sd") (v := .int 1) rfl ⟨_, rfl⟩ (fun L => .int _) (.cons (x := "t") (v := .int 1) rfl ⟨_, rfl⟩ (fun L => .int _) (.cons (x := "td") (v := .int 1) rfl ⟨_, rfl⟩ (fun L => .int _) (.cons (x := "x") (v := .int 1) rfl ⟨_, rfl⟩ (fun L => .int _) (.cons (x := "y") (v := .int 1) rfl ⟨_, rfl⟩ (fun L => .int _) (.cons (x := "z") (v := .int 1) rfl ⟨_, rfl⟩ (fun L => .int _) (.cons (x := "cx") (v := .int 2) rfl ⟨_, rfl⟩ (fun L => .int _) (.cons (x := "cz") (v := .int 2) rfl ⟨_, rfl⟩ (fun L => .int _) (.cons (x := "swap") (v := .int 2) rfl ⟨_, rfl⟩ (fun L => .int _) .nil))))))))))))))
  )
