import PyProof.Rows.All
import Wide.All
import OpenK.AllK
import Wide.FinOn
import HandS.ForMost
import HandS.Exc
import HandS.ExcOwn
import HandS.WordsExc
import HandS.Wide
import HandS.TupAny
import HandS.CallSlots
import HandS.IsInst
import PyProof.StrBlock2
import HandS.WideBits
import HandS.TupLe
import HandS.Deep
import PyProof.ReprRoads
import HandS.RaiseMore
import HandS.Zip
import HandS.FStr
import HandS.Codes
import PyProof.StrLawsRepr
import PyProof.ReprLen
import HandS.Dict
import PySem.Challenge.RW_filmrolls_k01_kinds_and_numbers
import KE.IntTextLaws
section
set_option Elab.async false
set_option linter.all false
set_option maxRecDepth 100000
set_option maxHeartbeats 1000000
/-! Sm: a small pure machine over plain data, and what ties it to the hand layer: a value of the machine stands for a value of the run. -/
namespace Sm
open PySem L2

inductive Kd where
  | tup | lst | scr | dct
  | ins (c : Str) (fs : List Str)
  deriving DecidableEq
inductive D where
  | non
  | bl (b : Bool)
  | int (i : Int)
  | str (x : List Nat)
  | box (k : Kd) (l : List D)
  | ref (n : Nat)
  | con (v : V)
abbrev Ob := Kd × List D
abbrev Sto := List (Option Ob)
inductive Sl where
  | un
  | val (d : D)
  | own (k : Kd) (l : List D)
abbrev En := List Sl
inductive Res (α : Type) where
  | ok (a : α) (s : Sto)
  | exc (c : Str) (l : List D) (s : Sto)
  | bad

structure Gm where
  K : PySem.W.Frag
  cls : Str → Addr
  exf : Str → List Str

def flat (kvs : List (Key × V)) : List V := kvs.flatMap fun p => [kV p.1, p.2]
/-- at a in J an object of the kind k with the parts vs -/
def Sq (G : Gm) (J : Hp) (a : Addr) : Kd → List V → Prop
  | .tup, vs => SqT G.K J a vs
  | .lst, vs => J a = some (.lst vs)
  | .scr, vs => SqL G.K J a vs
  | .dct, vs => ∃ kvs, J a = some (.dK kvs) ∧ vs = flat kvs
  | .ins c fs, vs => ∃ dx, J a = some (.ins (G.cls c) dx (fs.zip vs)) ∧ fs.length = vs.length
def Kd.mut : Kd → Bool
  | .lst | .dct | .ins _ _ => true
  | _ => false

mutual
def Rv (G : Gm) (J : Hp) (ι : Nat → Option Addr) : D → V → Prop
  | .non, v => v = .non
  | .bl b, v => v = .bl b
  | .int i, v => v = .int i
  | .str x, v => v = .str ⟨x.toArray⟩
  | .box k l, v => ∃ a vs, v = .ref a ∧ Sq G J a k vs ∧ RvL G J ι l vs
  | .ref n, v => ∃ a, v = .ref a ∧ ι n = some a
  | .con c, v => v = c
def RvL (G : Gm) (J : Hp) (ι : Nat → Option Addr) : List D → List V → Prop
  | [], vs => vs = []
  | d :: ds, vs => ∃ v ws, vs = v :: ws ∧ Rv G J ι d v ∧ RvL G J ι ds ws
end

def Le (J J' : Hp) : Prop := ∀ a o, J a = some o → J' a = some o
def Li (ι ι' : Nat → Option Addr) : Prop := ∀ n a, ι n = some a → ι' n = some a
theorem Le.refl (J : Hp) : Le J J := fun _ _ h => h
theorem Li.refl (ι : Nat → Option Addr) : Li ι ι := fun _ _ h => h
theorem Le.trans {J J1 J2 : Hp} (a : Le J J1) (b : Le J1 J2) : Le J J2 := fun x o h => b x o (a x o h)
theorem Li.trans {J J1 J2 : Nat → Option Addr} (a : Li J J1) (b : Li J1 J2) : Li J J2 := fun x o h => b x o (a x o h)

theorem Rd_le {J J' : Hp} {a : Addr} {u : HO} (h : Le J J') (r : Rd J a u) : Rd J' a u := by
  rcases r with r | ⟨o, r⟩
  · exact .inl (h _ _ r)
  · exact .inr ⟨o, h _ _ r⟩
theorem SqL_le {K : PySem.W.Frag} {J J' : Hp} {a : Addr} {xs : List V} (h : Le J J') (r : SqL K J a xs) : SqL K J' a xs := by
  rcases r with r | r
  · exact .inl (Rd_le h r)
  · exact .inr r
theorem SqT_le {K : PySem.W.Frag} {J J' : Hp} {a : Addr} {xs : List V} (h : Le J J') (r : SqT K J a xs) : SqT K J' a xs := by
  rcases r with r | r
  · exact .inl (Rd_le h r)
  · exact .inr r
theorem Sq.le {G : Gm} {J J' : Hp} {a : Addr} {k : Kd} {vs : List V} (h : Le J J') (r : Sq G J a k vs) : Sq G J' a k vs := by
  cases k with
  | tup => exact SqT_le h r
  | lst => exact h _ _ r
  | scr => exact SqL_le h r
  | dct => obtain ⟨kvs, e, z⟩ := r; exact ⟨kvs, h _ _ e, z⟩
  | ins c fs => obtain ⟨dx, e, z⟩ := r; exact ⟨dx, h _ _ e, z⟩
/-- a thing that may be written leans on its own object alone -/
theorem Sq.at {G : Gm} {J J' : Hp} {a : Addr} {k : Kd} {vs : List V} (m : k.mut = true) (h : J' a = J a) (r : Sq G J a k vs) : Sq G J' a k vs := by
  cases k with
  | tup => cases m
  | lst => exact h.trans r
  | scr => cases m
  | dct => obtain ⟨kvs, e, z⟩ := r; exact ⟨kvs, h.trans e, z⟩
  | ins c fs => obtain ⟨dx, e, z⟩ := r; exact ⟨dx, h.trans e, z⟩
theorem Sq.some {G : Gm} {J : Hp} {a : Addr} {k : Kd} {vs : List V} (m : k.mut = true) (r : Sq G J a k vs) : ∃ o, J a = some o := by
  cases k with
  | tup => cases m
  | lst => exact ⟨_, r⟩
  | scr => cases m
  | dct => obtain ⟨kvs, e, z⟩ := r; exact ⟨_, e⟩
  | ins c fs => obtain ⟨dx, e, z⟩ := r; exact ⟨_, e⟩

mutual
theorem Rv.le {G : Gm} {J J' : Hp} {ι ι' : Nat → Option Addr} (h : Le J J') (hi : Li ι ι') : ∀ (d : D) (v : V), Rv G J ι d v → Rv G J' ι' d v
  | .non, _, r => r
  | .bl _, _, r => r
  | .int _, _, r => r
  | .str _, _, r => r
  | .box k l, v, r => by
    obtain ⟨a, vs, e, s, q⟩ := r
    exact ⟨a, vs, e, s.le h, RvL.le h hi l vs q⟩
  | .ref n, _, r => by
    obtain ⟨a, e, q⟩ := r
    exact ⟨a, e, hi _ _ q⟩
  | .con _, _, r => r
theorem RvL.le {G : Gm} {J J' : Hp} {ι ι' : Nat → Option Addr} (h : Le J J') (hi : Li ι ι') : ∀ (l : List D) (vs : List V), RvL G J ι l vs → RvL G J' ι' l vs
  | [], _, r => r
  | d :: ds, vs, r => by
    obtain ⟨v, ws, e, q, t⟩ := r
    exact ⟨v, ws, e, Rv.le h hi d v q, RvL.le h hi ds ws t⟩
end

section
variable {G : Gm} {J : Hp} {ι : Nat → Option Addr}
theorem RvL.length : ∀ {l : List D} {vs : List V}, RvL G J ι l vs → l.length = vs.length
  | [], _, r => by cases r; rfl
  | d :: ds, _, r => by
    obtain ⟨v, ws, rfl, _, t⟩ := r
    simp [RvL.length t]
theorem RvL.get : ∀ {l : List D} {vs : List V} {i : Nat} {d : D}, RvL G J ι l vs → l[i]? = some d → ∃ v, vs[i]? = some v ∧ Rv G J ι d v
  | [], _, i, d, r, e => by simp at e
  | x :: ds, _, 0, d, r, e => by
    obtain ⟨v, ws, rfl, q, t⟩ := r
    simp at e
    subst e
    exact ⟨v, rfl, q⟩
  | x :: ds, _, i + 1, d, r, e => by
    obtain ⟨v, ws, rfl, q, t⟩ := r
    simp at e
    obtain ⟨w, h1, h2⟩ := RvL.get t e
    exact ⟨w, by simpa using h1, h2⟩
theorem RvL.get' {l : List D} {vs : List V} {i : Nat} {v : V} (r : RvL G J ι l vs) (e : vs[i]? = some v) : ∃ d, l[i]? = some d ∧ Rv G J ι d v := by
  have hl := r.length
  have hi : i < l.length := by
    rw [hl]
    exact (List.getElem?_eq_some_iff.mp e).1
  obtain ⟨w, h1, h2⟩ := r.get (List.getElem?_eq_getElem hi)
  rw [e] at h1
  cases h1
  exact ⟨_, List.getElem?_eq_getElem hi, h2⟩
theorem RvL.append : ∀ {l m : List D} {vs ws : List V}, RvL G J ι l vs → RvL G J ι m ws → RvL G J ι (l ++ m) (vs ++ ws)
  | [], _, _, _, r, s => by cases r; exact s
  | d :: ds, _, _, _, r, s => by
    obtain ⟨v, us, rfl, q, t⟩ := r
    exact ⟨v, us ++ _, rfl, q, RvL.append t s⟩
theorem RvL.take : ∀ {l : List D} {vs : List V} (n : Nat), RvL G J ι l vs → RvL G J ι (l.take n) (vs.take n)
  | [], _, n, r => by cases r; cases n <;> rfl
  | d :: ds, _, 0, r => rfl
  | d :: ds, _, n + 1, r => by
    obtain ⟨v, us, rfl, q, t⟩ := r
    exact ⟨v, us.take n, rfl, q, RvL.take n t⟩
theorem RvL.drop : ∀ {l : List D} {vs : List V} (n : Nat), RvL G J ι l vs → RvL G J ι (l.drop n) (vs.drop n)
  | [], _, n, r => by cases r; cases n <;> rfl
  | d :: ds, _, 0, r => r
  | d :: ds, _, n + 1, r => by
    obtain ⟨v, us, rfl, q, t⟩ := r
    exact RvL.drop n t
theorem RvL.set : ∀ {l : List D} {vs : List V} {d : D} {v : V} (n : Nat), RvL G J ι l vs → Rv G J ι d v → RvL G J ι (l.set n d) (vs.set n v)
  | [], _, d, v, n, r, q => by cases r; rfl
  | x :: ds, _, d, v, 0, r, q => by
    obtain ⟨w, us, rfl, _, t⟩ := r
    exact ⟨v, us, rfl, q, t⟩
  | x :: ds, _, d, v, n + 1, r, q => by
    obtain ⟨w, us, rfl, p, t⟩ := r
    exact ⟨w, us.set n v, rfl, p, RvL.set n t q⟩
theorem RvL.reverse : ∀ {l : List D} {vs : List V}, RvL G J ι l vs → RvL G J ι l.reverse vs.reverse
  | [], _, r => by cases r; rfl
  | d :: ds, _, r => by
    obtain ⟨v, us, rfl, q, t⟩ := r
    rw [List.reverse_cons, List.reverse_cons]
    exact (RvL.reverse t).append ⟨v, [], rfl, q, rfl⟩
theorem RvL.eraseIdx : ∀ {l : List D} {vs : List V} (n : Nat), RvL G J ι l vs → RvL G J ι (l.eraseIdx n) (vs.eraseIdx n)
  | [], _, n, r => by cases r; rfl
  | d :: ds, _, 0, r => by
    obtain ⟨v, us, rfl, q, t⟩ := r
    exact t
  | d :: ds, _, n + 1, r => by
    obtain ⟨v, us, rfl, q, t⟩ := r
    exact ⟨v, _, rfl, q, RvL.eraseIdx n t⟩
theorem RvL.one {d : D} {v : V} (q : Rv G J ι d v) : RvL G J ι [d] [v] := ⟨v, [], rfl, q, rfl⟩
theorem RvL.cons {d : D} {v : V} {l : List D} {vs : List V} (q : Rv G J ι d v) (r : RvL G J ι l vs) : RvL G J ι (d :: l) (v :: vs) := ⟨v, vs, rfl, q, r⟩
end

/-! ### the state -/
def iu (ι : Nat → Option Addr) (n : Nat) (a : Addr) : Nat → Option Addr := fun m => if m = n then some a else ι m
structure Good (G : Gm) (J : Hp) (ι : Nat → Option Addr) (st : Sto) (H : Hp) : Prop where
  jh : Le J H
  sep : ∀ n a x, ι n = some a → st[n]? = some (some x) → J a = none
  inj : ∀ m n a, ι m = some a → ι n = some a → m = n
  dom : ∀ n, n < st.length → ∃ a, ι n = some a
  out : ∀ n, st.length ≤ n → ι n = none
  liv : ∀ n a, ι n = some a → ∃ o, H a = some o
  obj : ∀ n a k l, ι n = some a → st[n]? = some (some (k, l)) → k.mut = true ∧ ∃ vs, Sq G H a k vs ∧ RvL G J ι l vs
structure Bs where
  J : Hp
  ι : Nat → Option Addr
  H : Hp
  lax : Bool
structure Ext (J : Hp) (ι : Nat → Option Addr) (H : Hp) (J' : Hp) (ι' : Nat → Option Addr) (H' : Hp) : Prop where
  jj : Le J J'
  ii : Li ι ι'
  jn : ∀ a o, J a = none → H a = some o → (∀ n, ι n ≠ some a) → J' a = none
  ni : ∀ n a, ι' n = some a → ι n = some a ∨ H a = none
  fr : ∀ a o, H a = some o → (∀ n, ι n ≠ some a) → H' a = some o
  lv : ∀ a, (∃ o, H a = some o) → ∃ o, H' a = some o
theorem Ext.refl {J : Hp} {ι : Nat → Option Addr} {H : Hp} : Ext J ι H J ι H := ⟨Le.refl _, Li.refl _, fun _ _ h _ _ => h, fun _ _ h => .inl h, fun _ _ h _ => h, fun _ h => h⟩
theorem Ext.key {J J1 : Hp} {ι ι1 : Nat → Option Addr} {H H1 : Hp} (a : Ext J ι H J1 ι1 H1) : ∀ x o, H x = some o → (∀ n, ι n ≠ some x) → ∀ n, ι1 n ≠ some x := fun x o h hn n e => by
    rcases a.ni n x e with z | z
    · exact hn n z
    · rw [z] at h; cases h
theorem Ext.trans {J J1 J2 : Hp} {ι ι1 ι2 : Nat → Option Addr} {H H1 H2 : Hp} (a : Ext J ι H J1 ι1 H1) (b : Ext J1 ι1 H1 J2 ι2 H2) : Ext J ι H J2 ι2 H2 := by
  refine ⟨a.jj.trans b.jj, a.ii.trans b.ii, fun x o h1 h2 h3 => b.jn x o (a.jn x o h1 h2 h3) (a.fr x o h2 h3) (a.key x o h2 h3), fun n x e => ?_, fun x o h2 h3 => b.fr x o (a.fr x o h2 h3) (a.key x o h2 h3), fun x h => b.lv x (a.lv x h)⟩
  rcases b.ni n x e with z | z
  · exact a.ni n x z
  · refine .inr ?_
    cases q : H x with
    | none => rfl
    | some o =>
      obtain ⟨o', e'⟩ := a.lv x ⟨o, q⟩
      rw [z] at e'; cases e'

abbrev Stk := List (Bool × D × V)
/-- what stands on the stack: a thing, or what a slot owns -/
def Opd (G : Gm) (J : Hp) (ι : Nat → Option Addr) (ρ : En) (σ : L2.St) (f : Bool) (d : D) (v : V) : Prop :=
  Rv G J ι d v ∨ (f = false ∧ ∃ (j : Nat) (k : Kd) (l : List D), d = .box k l ∧ ρ[j]? = some (Sl.own k l) ∧ σ[j]? = some (some v))
structure OwnAt (G : Gm) (J : Hp) (ι : Nat → Option Addr) (H : Hp) (B : Bs) (k : Kd) (l : List D) (a : Addr) (vs : List V) : Prop where
  mu : k.mut = true
  sq : Sq G H a k vs
  rl : RvL G J ι l vs
  nj : J a = none
  ni : ∀ n, ι n ≠ some a
  fr : B.lax = false → B.H a = none
structure SR (G : Gm) (B : Bs) (ρ : En) (st : Sto) (stk : Stk) (σ : L2.St) (H : Hp) (J : Hp) (ι : Nat → Option Addr) : Prop where
  good : Good G J ι st H
  ext : Ext B.J B.ι B.H J ι H
  len : ρ.length = σ.length
  val : ∀ (j : Nat) (d : D), ρ[j]? = some (Sl.val d) → ∃ v, σ[j]? = some (some v) ∧ Rv G J ι d v
  own : ∀ (j : Nat) (k : Kd) (l : List D), ρ[j]? = some (Sl.own k l) → ∃ a vs, σ[j]? = some (some (.ref a)) ∧ OwnAt G J ι H B k l a vs
  od : ∀ (i j : Nat) (k : Kd) (l : List D) (k' : Kd) (l' : List D) (v : V), ρ[i]? = some (Sl.own k l) → ρ[j]? = some (Sl.own k' l') → σ[i]? = some (some v) → σ[j]? = some (some v) → i = j
  sk : ∀ x ∈ stk, Opd G J ι ρ σ x.1 x.2.1 x.2.2
def SX (G : Gm) (B : Bs) (ρ : En) (st : Sto) (stk : Stk) (σ : L2.St) (H : Hp) : Prop := ∃ J ι, SR G B ρ st stk σ H J ι

section
variable {G : Gm} {B : Bs} {ρ : En} {st : Sto} {stk stk' : Stk} {σ : L2.St} {H H' : Hp} {J J' : Hp} {ι ι' : Nat → Option Addr}
theorem Opd.le {f : Bool} {d : D} {v : V} (h : Le J J') (hi : Li ι ι') (o : Opd G J ι ρ σ f d v) : Opd G J' ι' ρ σ f d v := by
  rcases o with o | o
  · exact .inl (Rv.le h hi _ _ o)
  · exact .inr o
theorem SR.sub (S : SR G B ρ st stk σ H J ι) (h : ∀ x ∈ stk', x ∈ stk) : SR G B ρ st stk' σ H J ι := { S with sk := fun x hx => S.sk x (h x hx) }
theorem SR.push (S : SR G B ρ st stk σ H J ι) {f : Bool} {d : D} {v : V} (h : Rv G J ι d v) : SR G B ρ st ((f, d, v) :: stk) σ H J ι := by
  refine { S with sk := fun x hx => ?_ }
  rcases List.mem_cons.mp hx with rfl | hx
  · exact .inl h
  · exact S.sk x hx
theorem SR.pushO (S : SR G B ρ st stk σ H J ι) {f : Bool} {d : D} {v : V} (h : Opd G J ι ρ σ f d v) : SR G B ρ st ((f, d, v) :: stk) σ H J ι := by
  refine { S with sk := fun x hx => ?_ }
  rcases List.mem_cons.mp hx with rfl | hx
  · exact h
  · exact S.sk x hx
/-- a thing of the stack that may be kept -/
theorem SR.firm (S : SR G B ρ st stk σ H J ι) {d : D} {v : V} (h : (true, d, v) ∈ stk) : Rv G J ι d v := by
  rcases S.sk _ h with o | ⟨e, _⟩
  · exact o
  · cases e
/-- a box of the stack, to be read -/
theorem SR.read (S : SR G B ρ st stk σ H J ι) {f : Bool} {k : Kd} {l : List D} {v : V} (h : (f, D.box k l, v) ∈ stk) : ∃ a vs, v = .ref a ∧ Sq G H a k vs ∧ RvL G J ι l vs := by
  rcases S.sk _ h with o | ⟨_, j, k', l', e, h1, h2⟩
  · obtain ⟨a, vs, e, q, r⟩ := o
    exact ⟨a, vs, e, q.le S.good.jh, r⟩
  · cases e
    obtain ⟨a, vs, h3, o⟩ := S.own _ _ _ h1
    rw [h2] at h3
    cases h3
    exact ⟨a, vs, rfl, o.sq, o.rl⟩
theorem SR.refAt (S : SR G B ρ st stk σ H J ι) {f : Bool} {n : Nat} {v : V} (h : (f, D.ref n, v) ∈ stk) : ∃ a, v = .ref a ∧ ι n = some a := by
  rcases S.sk _ h with ⟨a, e, q⟩ | ⟨_, j, k', l', e, h1, h2⟩
  · exact ⟨a, e, q⟩
  · cases e
theorem SR.flatAt (S : SR G B ρ st stk σ H J ι) {f : Bool} {d : D} {v : V} (h : (f, d, v) ∈ stk) (hd : ∀ k l, d ≠ .box k l) : Rv G J ι d v := by
  rcases S.sk _ h with o | ⟨_, j, k', l', e, h1, h2⟩
  · exact o
  · exact absurd e (hd _ _)

theorem Good.le_at (g : Good G J ι st H) {a : Addr} {o : HO} (h : J a = some o) : H a = some o := g.jh a o h
theorem SR.freshJ (S : SR G B ρ st stk σ H J ι) {p : Addr} (hp : H p = none) : J p = none := by
  cases e : J p with
  | none => rfl
  | some o => rw [S.good.jh p o e] at hp; cases hp
theorem SR.freshι (S : SR G B ρ st stk σ H J ι) {p : Addr} (hp : H p = none) (n : Nat) : ι n ≠ some p := fun e => by
  obtain ⟨o, h⟩ := S.good.liv n p e
  rw [h] at hp; cases hp
theorem SR.freshB (S : SR G B ρ st stk σ H J ι) {p : Addr} (hp : H p = none) : B.H p = none := by
  cases e : B.H p with
  | none => rfl
  | some o =>
    obtain ⟨o', h⟩ := S.ext.lv p ⟨o, e⟩
    rw [h] at hp; cases hp
theorem Le_upd {p : Addr} {o : HO} (hp : J p = none) : Le J (upd J p o) := fun a u e => by
  rw [upd_ne (ne_of_none e hp)]; exact e
theorem Le_upd2 {p : Addr} {o : HO} (h : Le J H) (hp : H p = none) : Le J (upd H p o) := fun a u e => by
  have e' := h a u e
  rw [upd_ne (ne_of_none e' hp)]; exact e'
theorem Le_updd {p : Addr} {o : HO} (h : Le J H) : Le (upd J p o) (upd H p o) := fun a u e => by
  by_cases hap : a = p
  · subst hap; rw [upd_same] at e ⊢; exact e
  · rw [upd_ne hap] at e ⊢; exact h a u e
/-- a new object that is told to nobody -/
theorem SR.newq (S : SR G B ρ st stk σ H J ι) {p : Addr} {o : HO} (hp : H p = none) : SR G B ρ st stk σ (upd H p o) J ι := by
  have g := S.good
  have hne : ∀ a, (∃ u, H a = some u) → a ≠ p := fun a ⟨u, e⟩ z => by rw [z, hp] at e; cases e
  refine { good := ⟨Le_upd2 g.jh hp, g.sep, g.inj, g.dom, g.out, fun n a e => ?_, fun n a k l e1 e2 => ?_⟩, ext := ⟨S.ext.jj, S.ext.ii, S.ext.jn, S.ext.ni, fun a u h1 h2 => ?_, fun a h => ?_⟩, len := S.len, val := S.val, own := fun j k l e => ?_, od := S.od, sk := S.sk }
  · obtain ⟨u, h⟩ := g.liv n a e
    exact ⟨u, by rw [upd_ne (hne a ⟨u, h⟩)]; exact h⟩
  · obtain ⟨m, vs, q, r⟩ := g.obj n a k l e1 e2
    exact ⟨m, vs, q.at m (upd_ne (hne a (g.liv n a e1))), r⟩
  · have z := S.ext.fr a u h1 h2
    rw [upd_ne (hne a ⟨u, z⟩)]; exact z
  · obtain ⟨u, z⟩ := S.ext.lv a h
    exact ⟨u, by rw [upd_ne (hne a ⟨u, z⟩)]; exact z⟩
  · obtain ⟨a, vs, e1, o⟩ := S.own j k l e
    exact ⟨a, vs, e1, o.mu, o.sq.at o.mu (upd_ne (hne a (o.sq.some o.mu))), o.rl, o.nj, o.ni, o.fr⟩
/-- a new object becomes a thing -/
theorem SR.newv (S : SR G B ρ st stk σ H J ι) {p : Addr} {o : HO} {f : Bool} {k : Kd} {l : List D} {vs : List V} (hp : H p = none) (hq : Sq G (upd J p o) p k vs) (r : RvL G J ι l vs) :
    SR G B ρ st ((f, .box k l, .ref p) :: stk) σ (upd H p o) (upd J p o) ι := by
  have S1 := S.newq (o := o) hp
  have g := S1.good
  have hj := S.freshJ hp
  have hi := S.freshι hp
  have lj : Le J (upd J p o) := Le_upd hj
  refine { good := ⟨Le_updd S.good.jh, fun n a x e1 e2 => ?_, g.inj, g.dom, g.out, g.liv, fun n a k l e1 e2 => ?_⟩, ext := ⟨S.ext.jj.trans lj, S.ext.ii, fun a u h1 h2 h3 => ?_, S.ext.ni, S1.ext.fr, S1.ext.lv⟩, len := S.len, val := fun j d e => ?_, own := fun j k l e => ?_, od := S.od, sk := fun x hx => ?_ }
  · rw [upd_ne (fun z : a = p => hi n (z ▸ e1))]
    exact S.good.sep n a x e1 e2
  · obtain ⟨m, vs, q, r⟩ := g.obj n a k l e1 e2
    exact ⟨m, vs, q, RvL.le lj (Li.refl _) _ _ r⟩
  · have z := S.ext.jn a u h1 h2 h3
    have z2 := S.ext.fr a u h2 h3
    rw [upd_ne (ne_of_none z2 hp)]; exact z
  · obtain ⟨v, e1, q⟩ := S.val j d e
    exact ⟨v, e1, Rv.le lj (Li.refl _) _ _ q⟩
  · obtain ⟨a, vs, e1, ow⟩ := S1.own j k l e
    obtain ⟨a', vs', e1', ow'⟩ := S.own j k l e
    rw [e1] at e1'
    cases e1'
    obtain ⟨u, hu⟩ := ow'.sq.some ow'.mu
    exact ⟨a, vs, e1, ow.mu, ow.sq, RvL.le lj (Li.refl _) _ _ ow.rl, by rw [upd_ne (ne_of_none hu hp)]; exact ow.nj, ow.ni, ow.fr⟩
  · rcases List.mem_cons.mp hx with rfl | hx
    · exact .inl ⟨p, vs, rfl, hq, RvL.le lj (Li.refl _) _ _ r⟩
    · exact (S.sk x hx).le lj (Li.refl _)
theorem iu_same {n : Nat} {a : Addr} : iu ι n a n = some a := if_pos rfl
theorem iu_ne {m n : Nat} {a : Addr} (h : m ≠ n) : iu ι n a m = ι m := if_neg h
/-- a new object that may be written: it is kept in the store -/
theorem SR.news (S : SR G B ρ st stk σ H J ι) {p : Addr} {o : HO} {f : Bool} {k : Kd} {l : List D} {vs : List V} (hp : H p = none) (m : k.mut = true) (hq : Sq G (upd H p o) p k vs) (r : RvL G J ι l vs) :
    SR G B ρ (st ++ [some (k, l)]) ((f, .ref st.length, .ref p) :: stk) σ (upd H p o) J (iu ι st.length p) := by
  have S1 := S.newq (o := o) hp
  have g := S1.good
  have hj := S.freshJ hp
  have hi := S.freshι hp
  have ho := S.good.out st.length (Nat.le_refl _)
  have li : Li ι (iu ι st.length p) := fun n a e => by
    rw [iu_ne (fun z => by rw [z, ho] at e; cases e)]; exact e
  have cs : ∀ n a, iu ι st.length p n = some a → (n = st.length ∧ a = p) ∨ (n ≠ st.length ∧ ι n = some a) := fun n a e => by
    by_cases h : n = st.length
    · subst h; rw [iu_same] at e; cases e; exact .inl ⟨rfl, rfl⟩
    · rw [iu_ne h] at e; exact .inr ⟨h, e⟩
  have gt : ∀ n x, n ≠ st.length → (st ++ [some (k, l)])[n]? = some x → st[n]? = some x := fun n x h e => by
    by_cases hlt : n < st.length
    · rw [List.getElem?_append_left hlt] at e; exact e
    · rw [List.getElem?_append_right (by omega)] at e
      have : n - st.length ≠ 0 := by omega
      match hm : n - st.length with
      | 0 => omega
      | q + 1 => rw [hm] at e; simp at e
  have gs : (st ++ [some (k, l)])[st.length]? = some (some (k, l)) := by simp
  refine { good := ⟨g.jh, fun n a x e1 e2 => ?_, fun m n a e1 e2 => ?_, fun n hn => ?_, fun n hn => ?_, fun n a e => ?_, fun n a k' l' e1 e2 => ?_⟩, ext := ⟨S.ext.jj, S.ext.ii.trans li, S.ext.jn, fun n a e => ?_, S1.ext.fr, S1.ext.lv⟩, len := S.len, val := fun j d e => ?_, own := fun j k l e => ?_, od := S.od, sk := fun x hx => ?_ }
  · rcases cs n a e1 with ⟨rfl, rfl⟩ | ⟨h, e⟩
    · exact hj
    · exact S.good.sep n a x e (gt n _ h e2)
  · rcases cs m a e1 with ⟨rfl, rfl⟩ | ⟨h, e⟩
    · rcases cs n _ e2 with ⟨rfl, _⟩ | ⟨h', e'⟩
      · rfl
      · exact absurd e' (hi n)
    · rcases cs n a e2 with ⟨rfl, rfl⟩ | ⟨h', e'⟩
      · exact absurd e (hi m)
      · exact S.good.inj m n a e e'
  · by_cases h : n = st.length
    · exact ⟨p, by rw [h]; exact iu_same⟩
    · rw [List.length_append] at hn
      obtain ⟨a, e⟩ := S.good.dom n (by simp at hn; omega)
      exact ⟨a, li n a e⟩
  · rw [List.length_append] at hn
    simp at hn
    rw [iu_ne (by omega)]
    exact S.good.out n (by omega)
  · rcases cs n a e with ⟨rfl, rfl⟩ | ⟨h, e⟩
    · exact ⟨o, upd_same⟩
    · exact g.liv n a e
  · rcases cs n a e1 with ⟨rfl, rfl⟩ | ⟨h, e⟩
    · rw [gs] at e2
      cases e2
      exact ⟨m, vs, hq, RvL.le (Le.refl _) li _ _ r⟩
    · obtain ⟨m, vs, q, r⟩ := g.obj n a k' l' e (gt n _ h e2)
      exact ⟨m, vs, q, RvL.le (Le.refl _) li _ _ r⟩
  · rcases cs n a e with ⟨rfl, rfl⟩ | ⟨h, e⟩
    · exact .inr (S.freshB hp)
    · exact S.ext.ni n a e
  · obtain ⟨v, e1, q⟩ := S.val j d e
    exact ⟨v, e1, Rv.le (Le.refl _) li _ _ q⟩
  · obtain ⟨a, vs, e1, ow⟩ := S1.own j k l e
    obtain ⟨a', vs', e1', ow'⟩ := S.own j k l e
    rw [e1] at e1'
    cases e1'
    obtain ⟨u, hu⟩ := ow'.sq.some ow'.mu
    refine ⟨a, vs, e1, ow.mu, ow.sq, RvL.le (Le.refl _) li _ _ ow.rl, ow.nj, fun n e => ?_, ow.fr⟩
    rcases cs n a e with ⟨rfl, rfl⟩ | ⟨h, e⟩
    · rw [hu] at hp; cases hp
    · exact ow.ni n e
  · rcases List.mem_cons.mp hx with rfl | hx
    · exact .inl ⟨p, rfl, iu_same⟩
    · exact (S.sk x hx).le (Le.refl _) li
/-- an object of the store is written -/
theorem SR.sets (S : SR G B ρ st stk σ H J ι) {n : Nat} {a : Addr} {o : HO} {k k' : Kd} {l l' : List D} {vs' : List V} (hn : st[n]? = some (some (k, l))) (ha : ι n = some a) (m : k'.mut = true) (hq : Sq G (upd H a o) a k' vs') (r : RvL G J ι l' vs') :
    SR G B ρ (st.set n (some (k', l'))) stk σ (upd H a o) J ι := by
  have g := S.good
  have hj := g.sep n a _ ha hn
  have hlt : n < st.length := (List.getElem?_eq_some_iff.mp hn).1
  refine { good := ⟨fun b u e => ?_, fun n' b x e1 e2 => ?_, g.inj, fun n' h => g.dom n' (by simpa using h), fun n' h => g.out n' (by simpa using h), fun n' b e => ?_, fun n' b k2 l2 e1 e2 => ?_⟩, ext := ⟨S.ext.jj, S.ext.ii, S.ext.jn, S.ext.ni, fun b u h1 h2 => ?_, fun b h => ?_⟩, len := S.len, val := S.val, own := fun j k l e => ?_, od := S.od, sk := S.sk }
  · rw [upd_ne (ne_of_none e hj)]; exact g.jh b u e
  · by_cases h : n' = n
    · subst h; rw [ha] at e1; cases e1; exact hj
    · rw [List.getElem?_set_ne (fun z => h z.symm)] at e2
      exact g.sep n' b x e1 e2
  · by_cases h : b = a
    · exact ⟨o, by rw [h]; exact upd_same⟩
    · obtain ⟨u, z⟩ := g.liv n' b e
      exact ⟨u, by rw [upd_ne h]; exact z⟩
  · by_cases h : n' = n
    · subst h
      rw [ha] at e1; cases e1
      rw [List.getElem?_set_self hlt] at e2
      cases e2
      exact ⟨m, vs', hq, r⟩
    · rw [List.getElem?_set_ne (fun z => h z.symm)] at e2
      obtain ⟨m2, vs2, q2, r2⟩ := g.obj n' b k2 l2 e1 e2
      have hba : b ≠ a := fun z => h (g.inj n' n b e1 (z ▸ ha))
      exact ⟨m2, vs2, q2.at m2 (upd_ne hba), r2⟩
  · have z := S.ext.fr b u h1 h2
    have hba : b ≠ a := fun z => by
      subst z
      rcases S.ext.ni n b ha with y | y
      · exact h2 n y
      · rw [y] at h1; cases h1
    rw [upd_ne hba]; exact z
  · by_cases hb : b = a
    · exact ⟨o, by rw [hb]; exact upd_same⟩
    · obtain ⟨u, z⟩ := S.ext.lv b h
      exact ⟨u, by rw [upd_ne hb]; exact z⟩
  · obtain ⟨b, vs, e1, ow⟩ := S.own j k l e
    have hba : b ≠ a := fun z => ow.ni n (z ▸ ha)
    exact ⟨b, vs, e1, ow.mu, ow.sq.at ow.mu (upd_ne hba), ow.rl, ow.nj, ow.ni, ow.fr⟩
/-- an object of the store is let go: it becomes a thing that nobody writes -/
theorem SR.frzs (S : SR G B ρ st stk σ H J ι) {n : Nat} {a : Addr} {k : Kd} {l : List D} (hn : st[n]? = some (some (k, l))) (ha : ι n = some a) (f : Bool) :
    ∃ J', Le J J' ∧ SR G B ρ (st.set n none) ((f, .box k l, .ref a) :: stk) σ H J' ι := by
  have g := S.good
  have hj := g.sep n a _ ha hn
  have hlt : n < st.length := (List.getElem?_eq_some_iff.mp hn).1
  obtain ⟨m, vs, q, r⟩ := g.obj n a k l ha hn
  obtain ⟨o, ho⟩ := g.liv n a ha
  have lj : Le J (upd J a o) := Le_upd hj
  refine ⟨upd J a o, lj, ?_⟩
  refine { good := ⟨fun b u e => ?_, fun n' b x e1 e2 => ?_, g.inj, fun n' h => g.dom n' (by simpa using h), fun n' h => g.out n' (by simpa using h), g.liv, fun n' b k2 l2 e1 e2 => ?_⟩, ext := ⟨S.ext.jj.trans lj, S.ext.ii, fun b u h1 h2 h3 => ?_, S.ext.ni, S.ext.fr, S.ext.lv⟩, len := S.len, val := fun j d e => ?_, own := fun j k l e => ?_, od := S.od, sk := fun x hx => ?_ }
  · by_cases h : b = a
    · subst h; rw [upd_same] at e; cases e; exact ho
    · rw [upd_ne h] at e; exact g.jh b u e
  · by_cases h : n' = n
    · subst h; rw [List.getElem?_set_self hlt] at e2; cases e2
    · rw [List.getElem?_set_ne (fun z => h z.symm)] at e2
      rw [upd_ne (fun z : b = a => h (g.inj n' n b e1 (z ▸ ha)))]
      exact g.sep n' b x e1 e2
  · by_cases h : n' = n
    · subst h; rw [List.getElem?_set_self hlt] at e2; cases e2
    · rw [List.getElem?_set_ne (fun z => h z.symm)] at e2
      obtain ⟨m2, vs2, q2, r2⟩ := g.obj n' b k2 l2 e1 e2
      exact ⟨m2, vs2, q2, RvL.le lj (Li.refl _) _ _ r2⟩
  · have z := S.ext.jn b u h1 h2 h3
    have hba : b ≠ a := fun z => by
      subst z
      rcases S.ext.ni n b ha with y | y
      · exact h3 n y
      · rw [y] at h2; cases h2
    rw [upd_ne hba]; exact z
  · obtain ⟨v, e1, q⟩ := S.val j d e
    exact ⟨v, e1, Rv.le lj (Li.refl _) _ _ q⟩
  · obtain ⟨b, vs, e1, ow⟩ := S.own j k l e
    have hba : b ≠ a := fun z => ow.ni n (z ▸ ha)
    exact ⟨b, vs, e1, ow.mu, ow.sq, RvL.le lj (Li.refl _) _ _ ow.rl, by rw [upd_ne hba]; exact ow.nj, ow.ni, ow.fr⟩
  · rcases List.mem_cons.mp hx with rfl | hx
    · refine .inl ⟨a, vs, rfl, q.at m (by rw [upd_same, ho]), RvL.le lj (Li.refl _) _ _ r⟩
    · exact (S.sk x hx).le lj (Li.refl _)

/-- behind a call -/
theorem SR.call (S : SR G B ρ st stk σ H J ι) {st' : Sto} (e : Ext J ι H J' ι' H') (g : Good G J' ι' st' H') : SR G B ρ st' stk σ H' J' ι' := by
  refine { good := g, ext := S.ext.trans e, len := S.len, val := fun j d h => ?_, own := fun j k l h => ?_, od := S.od, sk := fun x hx => (S.sk x hx).le e.jj e.ii }
  · obtain ⟨v, e1, q⟩ := S.val j d h
    exact ⟨v, e1, Rv.le e.jj e.ii _ _ q⟩
  · obtain ⟨a, vs, e1, o⟩ := S.own j k l h
    obtain ⟨u, hu⟩ := o.sq.some o.mu
    have h' := e.fr a u hu o.ni
    exact ⟨a, vs, e1, o.mu, o.sq.at o.mu (h'.trans hu.symm), RvL.le e.jj e.ii _ _ o.rl, e.jn a u o.nj hu o.ni, e.key a u hu o.ni, o.fr⟩
theorem set_none_ge {α : Type} {l : List α} {i : Nat} {x : α} (h : l.length ≤ i) : l.set i x = l := List.set_eq_of_length_le h
/-- a slot takes a thing -/
theorem SR.put (S : SR G B ρ st stk σ H J ι) {d : D} {v : V} (i : Nat) (q : Rv G J ι d v) (hb : ∀ x ∈ stk, x.1 = true) : SR G B (ρ.set i (.val d)) st stk (σ.set i (some v)) H J ι := by
  by_cases hi : i < ρ.length
  · have hi' : i < σ.length := by rw [← S.len]; exact hi
    refine { good := S.good, ext := S.ext, len := by simp [S.len], val := fun j d' h => ?_, own := fun j k l h => ?_, od := fun a b k l k' l' w h1 h2 h3 h4 => ?_, sk := fun x hx => ?_ }
    · by_cases hj : i = j
      · subst hj
        rw [List.getElem?_set_self hi] at h
        cases h
        exact ⟨v, List.getElem?_set_self hi', q⟩
      · rw [List.getElem?_set_ne hj] at h ⊢
        exact S.val j d' h
    · by_cases hj : i = j
      · subst hj; rw [List.getElem?_set_self hi] at h; cases h
      · rw [List.getElem?_set_ne hj] at h ⊢
        exact S.own j k l h
    · by_cases ha : i = a
      · subst ha; rw [List.getElem?_set_self hi] at h1; cases h1
      · by_cases hb : i = b
        · subst hb; rw [List.getElem?_set_self hi] at h2; cases h2
        · rw [List.getElem?_set_ne ha] at h1 h3
          rw [List.getElem?_set_ne hb] at h2 h4
          exact S.od a b k l k' l' w h1 h2 h3 h4
    · rcases S.sk x hx with o | ⟨z, _⟩
      · exact .inl o
      · rw [hb x hx] at z; cases z
  · have hi' : σ.length ≤ i := by rw [← S.len]; omega
    rw [set_none_ge (by omega), set_none_ge hi']
    exact S
/-- a slot is forgotten -/
theorem SR.drop (S : SR G B ρ st stk σ H J ι) (i : Nat) (hb : ∀ x ∈ stk, x.1 = true) : SR G B (ρ.set i .un) st stk σ H J ι := by
  by_cases hi : i < ρ.length
  · refine { good := S.good, ext := S.ext, len := by simp [S.len], val := fun j d' h => ?_, own := fun j k l h => ?_, od := fun a b k l k' l' w h1 h2 h3 h4 => ?_, sk := fun x hx => ?_ }
    · by_cases hj : i = j
      · subst hj; rw [List.getElem?_set_self hi] at h; cases h
      · rw [List.getElem?_set_ne hj] at h
        exact S.val j d' h
    · by_cases hj : i = j
      · subst hj; rw [List.getElem?_set_self hi] at h; cases h
      · rw [List.getElem?_set_ne hj] at h
        exact S.own j k l h
    · by_cases ha : i = a
      · subst ha; rw [List.getElem?_set_self hi] at h1; cases h1
      · by_cases hb : i = b
        · subst hb; rw [List.getElem?_set_self hi] at h2; cases h2
        · rw [List.getElem?_set_ne ha] at h1
          rw [List.getElem?_set_ne hb] at h2
          exact S.od a b k l k' l' w h1 h2 h3 h4
    · rcases S.sk x hx with o | ⟨z, _⟩
      · exact .inl o
      · rw [hb x hx] at z; cases z
  · rw [set_none_ge (by omega)]
    exact S
/-- a slot takes a new object that it owns -/
theorem SR.putown (S : SR G B ρ st stk σ H J ι) {p : Addr} {o : HO} {k : Kd} {l : List D} {vs : List V} (i : Nat) (hp : H p = none) (m : k.mut = true) (hq : Sq G (upd H p o) p k vs) (r : RvL G J ι l vs) (hi : i < ρ.length) (hb : ∀ x ∈ stk, x.1 = true) :
    SR G B (ρ.set i (.own k l)) st stk (σ.set i (some (.ref p))) (upd H p o) J ι := by
  have S1 := S.newq (o := o) hp
  have hi' : i < σ.length := by rw [← S.len]; exact hi
  have nw : ∀ (j : Nat) (k : Kd) (l : List D) (a : Addr), ρ[j]? = some (Sl.own k l) → σ[j]? = some (some (.ref a)) → a ≠ p := fun j k l a h h' z => by
    obtain ⟨b, vs, e1, ow⟩ := S.own j k l h
    rw [e1] at h'
    cases h'
    obtain ⟨u, hu⟩ := ow.sq.some ow.mu
    rw [z, hp] at hu; cases hu
  refine { good := S1.good, ext := S1.ext, len := by simp [S.len], val := fun j d' h => ?_, own := fun j k' l' h => ?_, od := fun a b k l k' l' w h1 h2 h3 h4 => ?_, sk := fun x hx => ?_ }
  · by_cases hj : i = j
    · subst hj; rw [List.getElem?_set_self hi] at h; cases h
    · rw [List.getElem?_set_ne hj] at h ⊢
      exact S.val j d' h
  · by_cases hj : i = j
    · subst hj
      rw [List.getElem?_set_self hi] at h
      cases h
      exact ⟨p, vs, List.getElem?_set_self hi', m, hq, r, S.freshJ hp, S.freshι hp, fun _ => S.freshB hp⟩
    · rw [List.getElem?_set_ne hj] at h ⊢
      exact S1.own j k' l' h
  · by_cases ha : i = a
    · subst ha
      rw [List.getElem?_set_self hi'] at h3
      cases h3
      by_cases hb : i = b
      · exact hb
      · rw [List.getElem?_set_ne hb] at h2 h4
        exact absurd rfl (nw b k' l' p h2 h4)
    · rw [List.getElem?_set_ne ha] at h1 h3
      by_cases hb : i = b
      · subst hb
        rw [List.getElem?_set_self hi'] at h4
        cases h4
        exact absurd rfl (nw a k l p h1 h3)
      · rw [List.getElem?_set_ne hb] at h2 h4
        exact S.od a b k l k' l' w h1 h2 h3 h4
  · rcases S.sk x hx with o | ⟨z, _⟩
    · exact .inl o
    · rw [hb x hx] at z; cases z
/-- what a slot owns is written -/
theorem SR.mutown (S : SR G B ρ st stk σ H J ι) {i : Nat} {a : Addr} {o : HO} {k k' : Kd} {l l' : List D} {vs' : List V} (hr : ρ[i]? = some (Sl.own k l)) (ha : σ[i]? = some (some (.ref a))) (m : k'.mut = true) (hq : Sq G (upd H a o) a k' vs') (r : RvL G J ι l' vs') (hx : B.lax = false) (hb : ∀ x ∈ stk, x.1 = true) :
    SR G B (ρ.set i (.own k' l')) st stk σ (upd H a o) J ι := by
  obtain ⟨a', vs, e1, ow⟩ := S.own i k l hr
  rw [ha] at e1
  cases e1
  have g := S.good
  have hi : i < ρ.length := (List.getElem?_eq_some_iff.mp hr).1
  have hB := ow.fr hx
  refine { good := ⟨fun b u e => ?_, g.sep, g.inj, g.dom, g.out, fun n b e => ?_, fun n b k2 l2 e1 e2 => ?_⟩, ext := ⟨S.ext.jj, S.ext.ii, S.ext.jn, S.ext.ni, fun b u h1 h2 => ?_, fun b h => ?_⟩, len := by simp [S.len], val := fun j d' h => ?_, own := fun j k2 l2 h => ?_, od := fun a b k l k' l' w h1 h2 h3 h4 => ?_, sk := fun x hx => ?_ }
  · rw [upd_ne (ne_of_none e ow.nj)]; exact g.jh b u e
  · by_cases h : b = a
    · exact ⟨o, by rw [h]; exact upd_same⟩
    · obtain ⟨u, z⟩ := g.liv n b e
      exact ⟨u, by rw [upd_ne h]; exact z⟩
  · obtain ⟨m2, vs2, q2, r2⟩ := g.obj n b k2 l2 e1 e2
    exact ⟨m2, vs2, q2.at m2 (upd_ne (fun z : b = a => ow.ni n (z ▸ e1))), r2⟩
  · rw [upd_ne (ne_of_none h1 hB)]; exact S.ext.fr b u h1 h2
  · by_cases hb : b = a
    · exact ⟨o, by rw [hb]; exact upd_same⟩
    · obtain ⟨u, z⟩ := S.ext.lv b h
      exact ⟨u, by rw [upd_ne hb]; exact z⟩
  · by_cases hj : i = j
    · subst hj; rw [List.getElem?_set_self hi] at h; cases h
    · rw [List.getElem?_set_ne hj] at h
      exact S.val j d' h
  · by_cases hj : i = j
    · subst hj
      rw [List.getElem?_set_self hi] at h
      cases h
      exact ⟨a, vs', ha, m, hq, r, ow.nj, ow.ni, ow.fr⟩
    · rw [List.getElem?_set_ne hj] at h
      obtain ⟨b, vs2, e2, ow2⟩ := S.own j k2 l2 h
      have hba : b ≠ a := fun z => hj (S.od i j k l k2 l2 _ hr h ha (z ▸ e2))
      exact ⟨b, vs2, e2, ow2.mu, ow2.sq.at ow2.mu (upd_ne hba), ow2.rl, ow2.nj, ow2.ni, ow2.fr⟩
  · have back : ∀ (c : Nat) (kk : Kd) (ll : List D), (ρ.set i (Sl.own k' l'))[c]? = some (Sl.own kk ll) → ∃ k0 l0, ρ[c]? = some (Sl.own k0 l0) := fun c kk ll h => by
      by_cases hc : i = c
      · subst hc; exact ⟨_, _, hr⟩
      · rw [List.getElem?_set_ne hc] at h; exact ⟨_, _, h⟩
    rename_i k0 l0 k0' l0' _
    by_cases ha' : i = a
    · subst ha'
      by_cases hb' : i = b
      · exact hb'
      · rw [List.getElem?_set_ne hb'] at h2
        exact S.od _ _ _ _ _ _ w hr h2 h3 h4
    · rw [List.getElem?_set_ne ha'] at h1
      by_cases hb' : i = b
      · subst hb'
        exact S.od _ _ _ _ _ _ w h1 hr h3 h4
      · rw [List.getElem?_set_ne hb'] at h2
        exact S.od _ _ _ _ _ _ w h1 h2 h3 h4
  · rcases S.sk x hx with o | ⟨z, _⟩
    · exact .inl o
    · rw [hb x hx] at z; cases z
/-- what a slot owns is let go: the slot holds a thing that nobody writes -/
theorem SR.frzown (S : SR G B ρ st stk σ H J ι) {i : Nat} {k : Kd} {l : List D} (hr : ρ[i]? = some (Sl.own k l)) (hx : B.lax = false) (hb : ∀ x ∈ stk, x.1 = true) :
    ∃ J', Le J J' ∧ SR G B (ρ.set i (.val (.box k l))) st stk σ H J' ι := by
  obtain ⟨a, vs, e1, ow⟩ := S.own i k l hr
  have g := S.good
  have hi : i < ρ.length := (List.getElem?_eq_some_iff.mp hr).1
  have hB := ow.fr hx
  obtain ⟨o, ho⟩ := ow.sq.some ow.mu
  have lj : Le J (upd J a o) := Le_upd ow.nj
  refine ⟨upd J a o, lj, ?_⟩
  refine { good := ⟨fun b u e => ?_, fun n' b x e1 e2 => ?_, g.inj, g.dom, g.out, g.liv, fun n' b k2 l2 e1 e2 => ?_⟩, ext := ⟨S.ext.jj.trans lj, S.ext.ii, fun b u h1 h2 h3 => ?_, S.ext.ni, S.ext.fr, S.ext.lv⟩, len := by simp [S.len], val := fun j d h => ?_, own := fun j k2 l2 h => ?_, od := fun a b k l k' l' w h1 h2 h3 h4 => ?_, sk := fun x hx => ?_ }
  · by_cases h : b = a
    · subst h; rw [upd_same] at e; cases e; exact ho
    · rw [upd_ne h] at e; exact g.jh b u e
  · rw [upd_ne (fun z : b = a => ow.ni n' (z ▸ e1))]
    exact g.sep n' b x e1 e2
  · obtain ⟨m2, vs2, q2, r2⟩ := g.obj n' b k2 l2 e1 e2
    exact ⟨m2, vs2, q2, RvL.le lj (Li.refl _) _ _ r2⟩
  · rw [upd_ne (ne_of_none h2 hB)]
    exact S.ext.jn b u h1 h2 h3
  · by_cases hj : i = j
    · subst hj
      rw [List.getElem?_set_self hi] at h
      cases h
      exact ⟨.ref a, e1, a, vs, rfl, ow.sq.at ow.mu (by rw [upd_same, ho]), RvL.le lj (Li.refl _) _ _ ow.rl⟩
    · rw [List.getElem?_set_ne hj] at h
      obtain ⟨v, e1, q⟩ := S.val j d h
      exact ⟨v, e1, Rv.le lj (Li.refl _) _ _ q⟩
  · by_cases hj : i = j
    · subst hj; rw [List.getElem?_set_self hi] at h; cases h
    · rw [List.getElem?_set_ne hj] at h
      obtain ⟨b, vs2, e2, ow2⟩ := S.own j k2 l2 h
      have hba : b ≠ a := fun z => hj (S.od i j k l k2 l2 _ hr h e1 (z ▸ e2))
      exact ⟨b, vs2, e2, ow2.mu, ow2.sq, RvL.le lj (Li.refl _) _ _ ow2.rl, by rw [upd_ne hba]; exact ow2.nj, ow2.ni, ow2.fr⟩
  · by_cases ha : i = a
    · subst ha; rw [List.getElem?_set_self hi] at h1; cases h1
    · by_cases hb : i = b
      · subst hb; rw [List.getElem?_set_self hi] at h2; cases h2
      · rw [List.getElem?_set_ne ha] at h1
        rw [List.getElem?_set_ne hb] at h2
        exact S.od a b k l k' l' w h1 h2 h3 h4
  · rcases S.sk x hx with o | ⟨z, _⟩
    · exact .inl (Rv.le lj (Li.refl _) _ _ o)
    · rw [hb x hx] at z; cases z
end
end Sm

end

section
set_option Elab.async false
set_option linter.all false
set_option maxRecDepth 100000
set_option maxHeartbeats 1000000
namespace Sm
open PySem L2

/-! ### the machine's words -/
abbrev ME := En → Sto → Res D
abbrev MT := En → Sto → Res Bool
abbrev MA := En → Sto → Res (List D)
abbrev MF := List D → Sto → Res D
inductive RS where
  | nx (ρ : En) (s : Sto)
  | rt (d : D) (s : Sto)
  | bk (ρ : En) (s : Sto)
  | ct (ρ : En) (s : Sto)
  | exc (c : Str) (l : List D) (ρ : En) (s : Sto)
  | bad
abbrev MS := En → Sto → RS
def Res.bind {α β : Type} (r : Res α) (k : α → Sto → Res β) : Res β := match r with
  | .ok a s => k a s
  | .exc c l s => .exc c l s
  | .bad => .bad

/-! ### what is wanted behind -/
def ExW (G : Gm) (B : Bs) (ρ : En) (st : Sto) (stk : Stk) (σ : L2.St) (W : WX) (c : Str) (l : List D) : Prop :=
  ∀ dd H' vs J ι, SR G B ρ st stk σ H' J ι → RvL G J ι l vs → J dd = some (.xd ((G.exf c).zip vs)) → W (.ref (G.cls c)) (some dd) σ H'
def Post {α : Type} (G : Gm) (B : Bs) (ρ : En) (stk : Stk) (σ : L2.St) (W : WX) (r : Res α) (K : α → Sto → Prop) : Prop := match r with
  | .ok a s => K a s
  | .exc c l s => ExW G B ρ s stk σ W c l
  | .bad => False
section
variable {G : Gm} {B : Bs} {ρ : En} {st : Sto} {stk stk' : Stk} {σ : L2.St} {W : WX} {α β : Type}
theorem Post.bind {r : Res α} {k : α → Sto → Res β} {K : β → Sto → Prop} (p : Post G B ρ stk σ W (r.bind k) K) : Post G B ρ stk σ W r fun a s => Post G B ρ stk σ W (k a s) K := by
  cases r with
  | ok a s => exact p
  | exc c l s => exact p
  | bad => exact p
theorem Post.imp {r : Res α} {K K' : α → Sto → Prop} (p : Post G B ρ stk σ W r K) (h : ∀ a s, K a s → K' a s) : Post G B ρ stk σ W r K' := by
  cases r with
  | ok a s => exact h a s p
  | exc c l s => exact p
  | bad => exact p
theorem Post.more {r : Res α} {K : α → Sto → Prop} (p : Post G B ρ stk σ W r K) (h : ∀ x ∈ stk, x ∈ stk') : Post G B ρ stk' σ W r K := by
  cases r with
  | ok a s => exact p
  | exc c l s => exact fun dd H' vs J ι S => p dd H' vs J ι (S.sub h)
  | bad => exact p
theorem SX.sub {H : Hp} (S : SX G B ρ st stk σ H) (h : ∀ x ∈ stk', x ∈ stk) : SX G B ρ st stk' σ H := let ⟨J, ι, q⟩ := S; ⟨J, ι, q.sub h⟩
end
def KE (G : Gm) (B : Bs) (ρ : En) (stk : Stk) (σ : L2.St) (f : Bool) (Q : VK) : D → Sto → Prop := fun d s => ∀ v H', SX G B ρ s ((f, d, v) :: stk) σ H' → Q v H'
def KT (G : Gm) (B : Bs) (ρ : En) (stk : Stk) (σ : L2.St) (Q : Bool → Hp → Prop) : Bool → Sto → Prop := fun b s => ∀ H', SX G B ρ s stk σ H' → Q b H'
def stkOf (ds : List D) (vs : List V) : Stk := (ds.zip vs).map fun p => (true, p.1, p.2)
def KA (G : Gm) (B : Bs) (ρ : En) (stk : Stk) (σ : L2.St) (Q : List V → Hp → Prop) : List D → Sto → Prop := fun ds s => ∀ vs H', ds.length = vs.length → SX G B ρ s (stkOf ds vs ++ stk) σ H' → Q vs H'
def tE (G : Gm) (W : WX) (f : Bool) (m : ME) : TE := fun σ H Q => ∃ B ρ st stk, SX G B ρ st stk σ H ∧ Post G B ρ stk σ W (m ρ st) (KE G B ρ stk σ f Q)
def tT (G : Gm) (W : WX) (m : MT) : TT := fun σ H Q => ∃ B ρ st stk, SX G B ρ st stk σ H ∧ Post G B ρ stk σ W (m ρ st) (KT G B ρ stk σ Q)
def tA (G : Gm) (W : WX) (m : MA) : TA := fun σ H Q => ∃ B ρ st stk, SX G B ρ st stk σ H ∧ Post G B ρ stk σ W (m ρ st) (KA G B ρ stk σ Q)

/-! ### the machine's operations -/
def mVar (i : Nat) : ME := fun ρ st => match ρ[i]? with
  | some (.val d) => .ok d st
  | _ => .bad
def mPeek (i : Nat) : ME := fun ρ st => match ρ[i]? with
  | some (.val d) => .ok d st
  | some (.own k l) => .ok (.box k l) st
  | _ => .bad
def mC (d : D) : ME := fun _ st => .ok d st
def m1 (o : D → Sto → Res D) (a : ME) : ME := fun ρ st => (a ρ st).bind o
def m2 (o : D → D → Sto → Res D) (a b : ME) : ME := fun ρ st => (a ρ st).bind fun x s => (b ρ s).bind fun y s => o x y s
def m3 (o : D → D → D → Sto → Res D) (a b c : ME) : ME := fun ρ st => (a ρ st).bind fun x s => (b ρ s).bind fun y s => (c ρ s).bind fun z s => o x y z s
def mTest (a : ME) : MT := fun ρ st => (a ρ st).bind fun x s => match x with
  | .bl b => .ok b s
  | _ => .bad
def mAnd (a b : MT) : MT := fun ρ st => (a ρ st).bind fun x s => if x = true then b ρ s else .ok false s
def mOr (a b : MT) : MT := fun ρ st => (a ρ st).bind fun x s => if x = true then .ok true s else b ρ s
def mNot (a : MT) : MT := fun ρ st => (a ρ st).bind fun x s => .ok (!x) s
def mAndV (a b : ME) : ME := fun ρ st => (a ρ st).bind fun x s => match x with
  | .bl true => b ρ s
  | .bl false => .ok (.bl false) s
  | _ => .bad
def mOrV (a b : ME) : ME := fun ρ st => (a ρ st).bind fun x s => match x with
  | .bl false => b ρ s
  | .bl true => .ok (.bl true) s
  | _ => .bad
def oNot : D → Sto → Res D := fun x s => match x with
  | .bl b => .ok (.bl (!b)) s
  | _ => .bad
def mIf (c : MT) (a b : ME) : ME := fun ρ st => (c ρ st).bind fun x s => if x = true then a ρ s else b ρ s
def mNil : MA := fun _ st => .ok [] st
def mCons (a : ME) (r : MA) : MA := fun ρ st => (a ρ st).bind fun x s => (r ρ s).bind fun l s => .ok (x :: l) s
def mApp (F : MF) (a : MA) : ME := fun ρ st => (a ρ st).bind fun l s => F l s

section
variable {X : Cx} {G : Gm} {W : WX} {f fa fb fc : Bool} {a b c e : Expr} {ma mb mc : ME} {ta : TE} {pos : Pos}
theorem _root_.L2.PE.weak {t t' : TE} (h : PE X e t) (k : ∀ σ H Q, t' σ H Q → t σ H Q) : PE X e t' := ⟨fun pins s σ H Q I q => h.run pins s σ H Q I (k σ H Q q)⟩
theorem _root_.L2.PT.weak {t t' : TT} (h : PT X e t) (k : ∀ σ H Q, t' σ H Q → t σ H Q) : PT X e t' := ⟨fun pins s σ H Q I q => h.run pins s σ H Q I (k σ H Q q)⟩
theorem _root_.L2.PA.weak {es : List Expr} {t t' : TA} (h : PA X es t) (k : ∀ σ H Q, t' σ H Q → t σ H Q) : PA X es t' := ⟨fun pos pins s σ H Q I q => h.run pos pins s σ H Q I (k σ H Q q)⟩
theorem tE.mono {m : ME} {σ : L2.St} {H : Hp} {Q Q' : VK} (h : tE G W f m σ H Q) (k : ∀ v H', Q v H' → Q' v H') : tE G W f m σ H Q' := by
  obtain ⟨B, ρ, st, stk, S, p⟩ := h
  exact ⟨B, ρ, st, stk, S, p.imp fun d s q v H' z => k _ _ (q v H' z)⟩
theorem subc {α : Type} {x : α} {l : List α} : ∀ y ∈ l, y ∈ x :: l := fun _ h => List.mem_cons_of_mem _ h

/-- the leaves -/
theorem e_var (i : Nat) {x : Str} (hN : X.N[i]? = some x := by rfl) (hv : Vis X.env.scope x := by first | exact Or.inl rfl | exact Or.inr (Or.inl rfl) | exact Or.inr (Or.inr rfl)) (hd : (x == ("__debug__" : Str)) = false := by decide)
    (hcd : (x == ("__classdict__" : Str)) = false := by decide) : PE X (.Name x pos) (tE G W f (mVar i)) := by
  refine (pv i hN hv hd hcd).weak fun σ H Q h => ?_
  obtain ⟨B, ρ, st, stk, ⟨J, ι, S⟩, p⟩ := h
  cases e : ρ[i]? with
  | none => simp only [mVar, e, Post] at p
  | some sl =>
    cases sl with
    | un => simp only [mVar, e, Post] at p
    | own k l => simp only [mVar, e, Post] at p
    | val d =>
      simp only [mVar, e, Post] at p
      obtain ⟨v, e1, q⟩ := S.val i d e
      exact ⟨v, e1, p v H ⟨J, ι, S.push q⟩⟩
theorem e_peek (i : Nat) {x : Str} (hN : X.N[i]? = some x := by rfl) (hv : Vis X.env.scope x := by first | exact Or.inl rfl | exact Or.inr (Or.inl rfl) | exact Or.inr (Or.inr rfl)) (hd : (x == ("__debug__" : Str)) = false := by decide)
    (hcd : (x == ("__classdict__" : Str)) = false := by decide) : PE X (.Name x pos) (tE G W false (mPeek i)) := by
  refine (pv i hN hv hd hcd).weak fun σ H Q h => ?_
  obtain ⟨B, ρ, st, stk, ⟨J, ι, S⟩, p⟩ := h
  cases e : ρ[i]? with
  | none => simp only [mPeek, e, Post] at p
  | some sl =>
    cases sl with
    | un => simp only [mPeek, e, Post] at p
    | own k l =>
      simp only [mPeek, e, Post] at p
      obtain ⟨a, vs, e1, q⟩ := S.own i k l e
      exact ⟨_, e1, p _ H ⟨J, ι, S.pushO (.inr ⟨rfl, i, k, l, rfl, e, e1⟩)⟩⟩
    | val d =>
      simp only [mPeek, e, Post] at p
      obtain ⟨v, e1, q⟩ := S.val i d e
      exact ⟨v, e1, p v H ⟨J, ι, S.push q⟩⟩
theorem e_c {d : D} {v : V} (h : PE X e (tC v)) (r : ∀ J ι, Rv G J ι d v) : PE X e (tE G W f (mC d)) := by
  refine h.weak fun σ H Q h => ?_
  obtain ⟨B, ρ, st, stk, ⟨J, ι, S⟩, p⟩ := h
  exact p v H ⟨J, ι, S.push (r J ι)⟩
theorem e_int {i j} : PE X (.Constant (.int i) j pos) (tE G W f (mC (.int i))) := e_c pe_int fun _ _ => rfl
theorem e_bl {b j} : PE X (.Constant (.bool b) j pos) (tE G W f (mC (.bl b))) := e_c pe_bl fun _ _ => rfl
theorem e_non {j} : PE X (.Constant .none j pos) (tE G W f (mC .non)) := e_c pe_non fun _ _ => rfl
theorem e_str {x : Str} {j} {l : List Nat} (h : x = ⟨l.toArray⟩ := by decide +kernel) : PE X (.Constant (.str x) j pos) (tE G W f (mC (.str l))) := e_c pe_str fun _ _ => by rw [h]; rfl
/-- a module's constant -/
theorem e_glob {x : Str} {v : V} {u : Value} {d : D} (hm : X.mg x = some u) (r : RelV v u) (hr : ∀ J ι, Rv G J ι d v) (hg : Gl X x := by rfl) (hd : (x == ("__debug__" : Str)) = false := by decide) : PE X (.Name x pos) (tE G W f (mC d)) :=
  e_c (pe_glob hg hm r hd) hr
theorem e_bltn {x : Str} {v : V} {u : Value} (hm : X.mg x = none) (hv : bootBuiltins x = some u) (r : RelV v u) (hg : Gl X x := by rfl) (hn : x ≠ "__name__" := by decide) (hd : (x == ("__debug__" : Str)) = false := by decide) :
    PE X (.Name x pos) (tE G W f (mC (.con v))) := e_c (pe_bltn hg hm hv r hn hd) fun _ _ => rfl

/-! ### operators by values -/
def Ok1 (G : Gm) (W : WX) (fa f : Bool) (r : V → Hp → VK → Prop) (o : D → Sto → Res D) : Prop :=
  ∀ B ρ st stk σ H dx x Q, SX G B ρ st ((fa, dx, x) :: stk) σ H → Post G B ρ stk σ W (o dx st) (KE G B ρ stk σ f Q) → r x H Q
def Ok2 (G : Gm) (W : WX) (fa fb f : Bool) (r : R2) (o : D → D → Sto → Res D) : Prop :=
  ∀ B ρ st stk σ H dx x dy y Q, SX G B ρ st ((fb, dy, y) :: (fa, dx, x) :: stk) σ H → Post G B ρ stk σ W (o dx dy st) (KE G B ρ stk σ f Q) → r x y H Q
theorem t_op2 {r : R2} {o : D → D → Sto → Res D} (h : Ok2 G W fa fb f r o) : ∀ σ H Q, tE G W f (m2 o ma mb) σ H Q → tOp r (tE G W fa ma) (tE G W fb mb) σ H Q := by
  rintro σ H Q ⟨B, ρ, st, stk, S, p⟩
  refine ⟨B, ρ, st, stk, S, p.bind.imp fun dx s1 p1 x H1 S1 => ⟨B, ρ, s1, _, S1, (p1.bind.more subc).imp fun dy s2 p2 y H2 S2 => h B ρ s2 stk σ H2 dx x dy y Q S2 ?_⟩⟩
  exact p2
theorem e_bin {op : Operator} {r : R2} {o : D → D → Sto → Res D} (ho : OpR X (binaryOp op) r) (h : Ok2 G W fa fb f r o) (ha : PE X a (tE G W fa ma)) (hb : PE X b (tE G W fb mb)) :
    PE X (.BinOp a op b pos) (tE G W f (m2 o ma mb)) := (pe_op ho ha hb).weak (t_op2 h)
theorem e_cmp {op : CmpOp} {r : R2} {o : D → D → Sto → Res D} (ho : OpR X (compareOp op) r) (h : Ok2 G W fa fb f r o) (ha : PE X a (tE G W fa ma)) (hb : PE X b (tE G W fb mb)) (hm : behindInMarks op b = false := by first | exact nomark _ | rfl) :
    PE X (.Compare a [op] [b] pos) (tE G W f (m2 o ma mb)) := (pe_cmpR ho ha hb hm).weak (t_op2 h)
theorem e_un {op : UnaryOp} {r : V → Hp → VK → Prop} {o : D → Sto → Res D} (ho : UnR X (unaryOp op) r) (h : Ok1 G W fa f r o) (ha : PE X a (tE G W fa ma)) : PE X (.UnaryOp op a pos) (tE G W f (m1 o ma)) := by
  refine (pe_un ho ha).weak ?_
  rintro σ H Q ⟨B, ρ, st, stk, S, p⟩
  exact ⟨B, ρ, st, stk, S, p.bind.imp fun dx s1 p1 x H1 S1 => h B ρ s1 stk σ H1 dx x Q S1 p1⟩
/-- a test whose answer is True or False -/
theorem t_test {ta : TE} {h0 : PT X e (tB ta)} (k : ∀ σ H Q, tE G W f ma σ H Q → ta σ H Q) : PT X e (tT G W (mTest ma)) := by
  refine h0.weak ?_
  rintro σ H Q ⟨B, ρ, st, stk, S, p⟩
  refine k σ H _ ⟨B, ρ, st, stk, S, p.bind.imp fun dx s1 p1 x H1 S1 => ?_⟩
  cases dx with
  | bl b =>
    obtain ⟨J, ι, S1'⟩ := S1
    have hx : x = .bl b := S1'.flatAt List.mem_cons_self (fun _ _ z => by cases z)
    exact ⟨b, hx, p1 H1 ⟨J, ι, S1'.sub subc⟩⟩
  | _ => exact p1.elim
theorem c_val (h : PE X e (tE G W f ma)) (he : ∀ whole, isTrue e X.env whole = (do let v ← whole; standAt e.pos; holding [v] (truthy v)) := by intro _; rfl) : PT X e (tT G W (mTest ma)) :=
  t_test (h0 := pt_val h he) fun _ _ _ q => q
theorem c_cmp {op : CmpOp} {r : R2} {o : D → D → Sto → Res D} (ho : OpR X (compareOp op) r) (h : Ok2 G W fa fb f r o) (ha : PE X a (tE G W fa ma)) (hb : PE X b (tE G W fb mb)) (hm : behindInMarks op b = false := by first | exact nomark _ | rfl) :
    PT X (.Compare a [op] [b] pos) (tT G W (mTest (m2 o ma mb))) := by
  have h0 : PT X (.Compare a [op] [b] pos) (tTest (tOp r (tE G W fa ma) (tE G W fb mb))) := pt_cmpR ho ha hb hm
  exact t_test (h0 := h0) (t_op2 h)
variable {mta mtb mtc : MT}
theorem c_and {rest : List Expr} (ha : PT X a (tT G W mta)) (hb : PW X (.BoolOp .And (b :: rest) pos) (tT G W mtb)) : PW X (.BoolOp .And (a :: b :: rest) pos) (tT G W (mAnd mta mtb)) := by
  refine ⟨fun whole pins s σ H Q I h => (pw_and ha hb).run whole pins s σ H Q I ?_⟩
  obtain ⟨B, ρ, st, stk, S, p⟩ := h
  refine ⟨B, ρ, st, stk, S, p.bind.imp fun k s1 p1 H1 S1 => ?_⟩
  cases k with
  | true => exact ⟨B, ρ, s1, stk, S1, p1⟩
  | false => exact p1 H1 S1
theorem c_or {rest : List Expr} (ha : PT X a (tT G W mta)) (hb : PW X (.BoolOp .Or (b :: rest) pos) (tT G W mtb)) : PW X (.BoolOp .Or (a :: b :: rest) pos) (tT G W (mOr mta mtb)) := by
  refine ⟨fun whole pins s σ H Q I h => (pw_or ha hb).run whole pins s σ H Q I ?_⟩
  obtain ⟨B, ρ, st, stk, S, p⟩ := h
  refine ⟨B, ρ, st, stk, S, p.bind.imp fun k s1 p1 H1 S1 => ?_⟩
  cases k with
  | true => exact p1 H1 S1
  | false => exact ⟨B, ρ, s1, stk, S1, p1⟩
theorem c_not (ha : PT X a (tT G W mta)) : PT X (.UnaryOp .Not a pos) (tT G W (mNot mta)) := by
  refine (pt_not ha).weak ?_
  rintro σ H Q ⟨B, ρ, st, stk, S, p⟩
  exact ⟨B, ρ, st, stk, S, p.bind.imp fun k s1 p1 H1 S1 => p1 H1 S1⟩
theorem e_andV {rest : List Expr} (ha : PE X a (tE G W fa ma)) (hb : PE X (.BoolOp .And (b :: rest) pos) (tE G W f mb)) : PE X (.BoolOp .And (a :: b :: rest) pos) (tE G W f (mAndV ma mb)) := by
  refine (pe_and ha hb).weak ?_
  rintro σ H Q ⟨B, ρ, st, stk, S, p⟩
  refine ⟨B, ρ, st, stk, S, p.bind.imp fun dx s1 p1 x H1 S1 => ?_⟩
  obtain ⟨J, ι, S1'⟩ := S1
  have S2 : SX G B ρ s1 stk σ H1 := ⟨J, ι, S1'.sub subc⟩
  cases dx with
  | bl k =>
    have hx : x = .bl k := S1'.flatAt List.mem_cons_self (fun _ _ z => by cases z)
    refine ⟨k, hx, ?_⟩
    cases k with
    | true => exact ⟨B, ρ, s1, stk, S2, p1⟩
    | false => exact p1 (.bl false) H1 ⟨J, ι, (S1'.sub subc).push rfl⟩
  | _ => exact p1.elim
theorem e_orV {rest : List Expr} (ha : PE X a (tE G W fa ma)) (hb : PE X (.BoolOp .Or (b :: rest) pos) (tE G W f mb)) : PE X (.BoolOp .Or (a :: b :: rest) pos) (tE G W f (mOrV ma mb)) := by
  refine (pe_or ha hb).weak ?_
  rintro σ H Q ⟨B, ρ, st, stk, S, p⟩
  refine ⟨B, ρ, st, stk, S, p.bind.imp fun dx s1 p1 x H1 S1 => ?_⟩
  obtain ⟨J, ι, S1'⟩ := S1
  have S2 : SX G B ρ s1 stk σ H1 := ⟨J, ι, S1'.sub subc⟩
  cases dx with
  | bl k =>
    have hx : x = .bl k := S1'.flatAt List.mem_cons_self (fun _ _ z => by cases z)
    refine ⟨k, hx, ?_⟩
    cases k with
    | true => exact p1 (.bl true) H1 ⟨J, ι, (S1'.sub subc).push rfl⟩
    | false => exact ⟨B, ρ, s1, stk, S2, p1⟩
  | _ => exact p1.elim
theorem e_not (ha : PE X a (tE G W fa ma)) : PE X (.UnaryOp .Not a pos) (tE G W f (m1 oNot ma)) := by
  refine (pe_not ha).weak ?_
  rintro σ H Q ⟨B, ρ, st, stk, S, p⟩
  refine ⟨B, ρ, st, stk, S, p.bind.imp fun dx s1 p1 x H1 S1 => ?_⟩
  obtain ⟨J, ι, S1'⟩ := S1
  cases dx with
  | bl k =>
    have hx : x = .bl k := S1'.flatAt List.mem_cons_self (fun _ _ z => by cases z)
    exact ⟨k, hx, p1 (.bl (!k)) H1 ⟨J, ι, (S1'.sub subc).push rfl⟩⟩
  | _ => exact p1.elim
theorem e_ifE (hc : PT X c (tT G W mtc)) (ha : PE X a (tE G W f ma)) (hb : PE X b (tE G W f mb)) : PE X (.IfExp c a b pos) (tE G W f (mIf mtc ma mb)) := by
  refine (pe_ifExp hc ha hb).weak ?_
  rintro σ H Q ⟨B, ρ, st, stk, S, p⟩
  refine ⟨B, ρ, st, stk, S, p.bind.imp fun k s1 p1 H1 S1 => ?_⟩
  cases k with
  | true => exact ⟨B, ρ, s1, stk, S1, p1⟩
  | false => exact ⟨B, ρ, s1, stk, S1, p1⟩
/-- arguments -/
theorem a_nil : PA X [] (tA G W mNil) := by
  refine pa_nil.weak ?_
  rintro σ H Q ⟨B, ρ, st, stk, S, p⟩
  exact p [] H rfl S
theorem a_cons {es : List Expr} {mr : MA} (ha : PE X e (tE G W true ma)) (hr : PA X es (tA G W mr)) (he : starEach (e :: es) X.env = (false, eval e X.env) :: starEach es X.env := by rfl) : PA X (e :: es) (tA G W (mCons ma mr)) := by
  refine (pa_cons ha hr he).weak ?_
  rintro σ H Q ⟨B, ρ, st, stk, S, p⟩
  refine ⟨B, ρ, st, stk, S, p.bind.imp fun dx s1 p1 x H1 S1 => ⟨B, ρ, s1, _, S1, (p1.bind.more subc).imp fun ds s2 p2 vs H2 hl S2 => p2 (x :: vs) H2 (by simp [hl]) (S2.sub ?_)⟩⟩
  intro y hy
  simp only [stkOf, List.zip_cons_cons, List.map_cons, List.cons_append, List.mem_cons, List.mem_append] at hy ⊢
  rcases hy with rfl | hy | hy
  · exact .inr (.inl rfl)
  · exact .inl hy
  · exact .inr (.inr hy)
end
end Sm

end

section
set_option Elab.async false
set_option linter.all false
set_option maxRecDepth 100000
set_option maxHeartbeats 1000000
namespace Sm
open PySem L2
/-- what an operation gives: a thing, or a new object -/
inductive Rr where
  | v (d : D)
  | n (k : Kd) (l : List D)
abbrev MR := En → Sto → Res Rr
def optR {α : Type} (o : Option α) (s : Sto) : Res α := match o with
  | some a => .ok a s
  | none => .bad
def mV (m : MR) : ME := fun ρ st => (m ρ st).bind fun r s => match r with
  | .v d => .ok d s
  | .n k l => .ok (.box k l) s
def mS (m : MR) : ME := fun ρ st => (m ρ st).bind fun r s => match r with
  | .v d => .ok d s
  | .n k l => .ok (.ref s.length) (s ++ [some (k, l)])
def KR (G : Gm) (B : Bs) (ρ : En) (stk : Stk) (σ : L2.St) (Q : VK) : Rr → Sto → Prop
  | .v d, s => ∀ v H', SX G B ρ s ((true, d, v) :: stk) σ H' → Q v H'
  | .n k l, s => ∀ p o H1 vs J ι, SR G B ρ s stk σ H1 J ι → H1 p = none → k.mut = true → Sq G (upd H1 p o) p k vs → RvL G J ι l vs → Q (.ref p) (upd H1 p o)
def tR (G : Gm) (W : WX) (m : MR) : TE := fun σ H Q => ∃ B ρ st stk, SX G B ρ st stk σ H ∧ Post G B ρ stk σ W (m ρ st) (KR G B ρ stk σ Q)
section
variable {X : Cx} {G : Gm} {W : WX} {f fa fb fc : Bool} {a b c e : Expr} {ma mb mc : ME} {mr : MR} {ta : TE} {pos : Pos}
theorem SR.up {G : Gm} {B : Bs} {ρ : En} {st : Sto} {stk : Stk} {σ : L2.St} {H J : Hp} {ι : Nat → Option Addr} {d : D} {v : V} (S : SR G B ρ st ((true, d, v) :: stk) σ H J ι) : SR G B ρ st ((f, d, v) :: stk) σ H J ι :=
  (S.sub subc).push (S.firm List.mem_cons_self)
theorem SX.up {G : Gm} {B : Bs} {ρ : En} {st : Sto} {stk : Stk} {σ : L2.St} {H : Hp} {d : D} {v : V} (S : SX G B ρ st ((true, d, v) :: stk) σ H) : SX G B ρ st ((f, d, v) :: stk) σ H := let ⟨J, ι, q⟩ := S; ⟨J, ι, q.up⟩
theorem sq_upd {G : Gm} {H J : Hp} {p : Addr} {o : HO} {k : Kd} {vs : List V} (m : k.mut = true) (h : Sq G (upd H p o) p k vs) : Sq G (upd J p o) p k vs := h.at m (by rw [upd_same, upd_same])
/-- a new object as a thing that nobody will write -/
theorem e_v (h : PE X e (tR G W mr)) : PE X e (tE G W f (mV mr)) := by
  refine h.weak ?_
  rintro σ H Q ⟨B, ρ, st, stk, S, p⟩
  refine ⟨B, ρ, st, stk, S, p.bind.imp fun r s1 p1 => ?_⟩
  cases r with
  | v d => exact fun v H' S' => p1 v H' S'.up
  | n k l => exact fun p o H1 vs J ι S1 hp m q r => p1 _ _ ⟨_, _, S1.newv (f := f) hp (sq_upd m q) r⟩
/-- a new object in the store -/
theorem e_s (h : PE X e (tR G W mr)) : PE X e (tE G W f (mS mr)) := by
  refine h.weak ?_
  rintro σ H Q ⟨B, ρ, st, stk, S, p⟩
  refine ⟨B, ρ, st, stk, S, p.bind.imp fun r s1 p1 => ?_⟩
  cases r with
  | v d => exact fun v H' S' => p1 v H' S'.up
  | n k l => exact fun p o H1 vs J ι S1 hp m q r => p1 _ _ ⟨_, _, S1.news (f := f) hp m q r⟩
def m1R (o : Sto → D → Option Rr) (a : ME) : MR := fun ρ st => (a ρ st).bind fun x s => optR (o s x) s
def m2R (o : Sto → D → D → Option Rr) (a b : ME) : MR := fun ρ st => (a ρ st).bind fun x s => (b ρ s).bind fun y s => optR (o s x y) s
def Ok2R (G : Gm) (fa fb : Bool) (r : R2) (o : Sto → D → D → Option Rr) : Prop :=
  ∀ B ρ st stk σ H dx x dy y Q rr, SX G B ρ st ((fb, dy, y) :: (fa, dx, x) :: stk) σ H → o st dx dy = some rr → KR G B ρ stk σ Q rr st → r x y H Q
theorem e_binR {op : Operator} {r : R2} {o : Sto → D → D → Option Rr} (ho : OpR X (binaryOp op) r) (h : Ok2R G fa fb r o) (ha : PE X a (tE G W fa ma)) (hb : PE X b (tE G W fb mb)) :
    PE X (.BinOp a op b pos) (tR G W (m2R o ma mb)) := by
  refine (pe_op ho ha hb).weak ?_
  rintro σ H Q ⟨B, ρ, st, stk, S, p⟩
  refine ⟨B, ρ, st, stk, S, p.bind.imp fun dx s1 p1 x H1 S1 => ⟨B, ρ, s1, _, S1, (p1.bind.more subc).imp fun dy s2 p2 y H2 S2 => ?_⟩⟩
  cases e : o s2 dx dy with
  | none => rw [e] at p2; exact p2.elim
  | some rr => rw [e] at p2; exact h B ρ s2 stk σ H2 dx x dy y Q rr S2 e p2
def l1 (g : Sto → D → Option D) : D → Sto → Res D := fun x s => optR (g s x) s
def l2 (g : Sto → D → D → Option D) : D → D → Sto → Res D := fun x y s => optR (g s x y) s
/-- operations that make no object -/
def Ok2V (G : Gm) (fa fb : Bool) (r : R2) (o : Sto → D → D → Option D) : Prop :=
  ∀ B ρ st stk σ H J ι dx x dy y (Q : VK) d, SR G B ρ st ((fb, dy, y) :: (fa, dx, x) :: stk) σ H J ι → o st dx dy = some d → (∀ v, Rv G J ι d v → Q v H) → r x y H Q
theorem Ok2V.ok {r : R2} {o : Sto → D → D → Option D} (h : Ok2V G fa fb r o) : Ok2 G W fa fb f r (l2 o) := by
  rintro B ρ st stk σ H dx x dy y Q ⟨J, ι, S⟩ p
  cases e : o st dx dy with
  | none => unfold l2 at p; rw [e] at p; exact p.elim
  | some d =>
    unfold l2 at p
    rw [e] at p
    exact h B ρ st stk σ H J ι dx x dy y Q d S e fun v r => p v H ⟨J, ι, ((S.sub subc).sub subc).push r⟩
def orO {α : Type} (o o' : Sto → D → D → Option α) : Sto → D → D → Option α := fun s x y => match o s x y with
  | some r => some r
  | none => o' s x y
theorem Ok2V.or {r r' : R2} {o o' : Sto → D → D → Option D} (h : Ok2V G fa fb r o) (h' : Ok2V G fa fb r' o') : Ok2V G fa fb (fun x y H Q => r x y H Q ∨ r' x y H Q) (orO o o') := by
  intro B ρ st stk σ H J ι dx x dy y Q d S e k
  unfold orO at e
  cases e1 : o st dx dy with
  | some d' =>
    rw [e1] at e
    cases (show some d' = some d from e)
    exact .inl (h B ρ st stk σ H J ι dx x dy y Q d S e1 k)
  | none =>
    rw [e1] at e
    exact .inr (h' B ρ st stk σ H J ι dx x dy y Q d S e k)
theorem Ok2R.or {r r' : R2} {o o' : Sto → D → D → Option Rr} (h : Ok2R G fa fb r o) (h' : Ok2R G fa fb r' o') : Ok2R G fa fb (fun x y H Q => r x y H Q ∨ r' x y H Q) (orO o o') := by
  intro B ρ st stk σ H dx x dy y Q d S e k
  unfold orO at e
  cases e1 : o st dx dy with
  | some d' =>
    rw [e1] at e
    cases (show some d' = some d from e)
    exact .inl (h B ρ st stk σ H dx x dy y Q d S e1 k)
  | none =>
    rw [e1] at e
    exact .inr (h' B ρ st stk σ H dx x dy y Q d S e k)
def asR (o : Sto → D → D → Option D) : Sto → D → D → Option Rr := fun s x y => (o s x y).map .v
theorem Ok2V.asR {r : R2} {o : Sto → D → D → Option D} (h : Ok2V G fa fb r o) : Ok2R G fa fb r (asR o) := by
  rintro B ρ st stk σ H dx x dy y Q rr ⟨J, ι, S⟩ e k
  unfold Sm.asR at e
  cases e1 : o st dx dy with
  | none => rw [e1] at e; cases e
  | some d =>
    rw [e1] at e
    cases (show some (Rr.v d) = some rr from e)
    exact h B ρ st stk σ H J ι dx x dy y Q d S e1 fun v r => k v H ⟨J, ι, ((S.sub subc).sub subc).push r⟩

section
variable {B : Bs} {ρ : En} {st : Sto} {stk : Stk} {σ : L2.St} {H J : Hp} {ι : Nat → Option Addr} {v : V}
theorem SR.isInt {i : Int} (S : SR G B ρ st stk σ H J ι) (h : (f, .int i, v) ∈ stk) : v = .int i := S.flatAt h (fun _ _ z => by cases z)
theorem SR.isStr {x : List Nat} (S : SR G B ρ st stk σ H J ι) (h : (f, .str x, v) ∈ stk) : v = .str ⟨x.toArray⟩ := S.flatAt h (fun _ _ z => by cases z)
theorem SR.isBl {x : Bool} (S : SR G B ρ st stk σ H J ι) (h : (f, .bl x, v) ∈ stk) : v = .bl x := S.flatAt h (fun _ _ z => by cases z)
theorem SR.isNon (S : SR G B ρ st stk σ H J ι) (h : (f, D.non, v) ∈ stk) : v = .non := S.flatAt h (fun _ _ z => by cases z)
theorem SR.isCon {u : V} (S : SR G B ρ st stk σ H J ι) (h : (f, D.con u, v) ∈ stk) : v = u := S.flatAt h (fun _ _ z => by cases z)
/-- what a box, or an object of the store, holds -/
def vw (s : Sto) : D → Option (Kd × List D)
  | .box k l => some (k, l)
  | .ref n => (s[n]?).join
  | _ => none
theorem SR.view {d : D} {k : Kd} {l : List D} (S : SR G B ρ st stk σ H J ι) (h : (f, d, v) ∈ stk) (e : vw st d = some (k, l)) : ∃ a vs, v = .ref a ∧ Sq G H a k vs ∧ RvL G J ι l vs := by
  cases d with
  | box k' l' => cases e; exact S.read h
  | ref n =>
    obtain ⟨a, rfl, hi⟩ := S.refAt h
    have e' : st[n]? = some (some (k, l)) := by
      have e1 : (st[n]?).join = some (k, l) := e
      cases q : st[n]? with
      | none => rw [q] at e1; cases e1
      | some o =>
        rw [q] at e1
        have e2 : o = some (k, l) := e1
        rw [e2]
    obtain ⟨m, vs, q, r⟩ := S.good.obj n a k l hi e'
    exact ⟨a, vs, rfl, q, r⟩
  | _ => cases e
end

/-! ### ints -/
def oI (C : Int → Int → Bool) (g : Int → Int → Int) : Sto → D → D → Option D
  | _, .int i, .int j => if C i j = true then some (.int (g i j)) else none
  | _, _, _ => none
theorem ok_I {P : Int → Int → Prop} {C : Int → Int → Bool} {g : Int → Int → Int} (h : ∀ i j, C i j = true → P i j) : Ok2V G fa fb (rI P fun i j => .int (g i j)) (oI C g) := by
  intro B ρ st stk σ H J ι dx x dy y Q d S e k
  cases dx with
  | int i =>
    cases dy with
    | int j =>
      have e : (if C i j = true then some (D.int (g i j)) else none) = some d := e
      by_cases hc : C i j = true
      · rw [if_pos hc] at e
        cases e
        exact ⟨i, j, S.isInt (List.mem_cons_of_mem _ List.mem_cons_self), S.isInt List.mem_cons_self, h i j hc, k _ rfl⟩
      · rw [if_neg hc] at e; cases e
    | _ => cases e
  | _ => cases e
def oI0 (g : Int → Int → D) : Sto → D → D → Option D
  | _, .int i, .int j => some (g i j)
  | _, _, _ => none
theorem ok_I0 {g : Int → Int → D} {g' : Int → Int → V} (h : ∀ i j, Rv G (fun _ => none) (fun _ => none) (g i j) (g' i j)) : Ok2V G fa fb (rI0 g') (oI0 g) := by
  intro B ρ st stk σ H J ι dx x dy y Q d S e k
  cases dx with
  | int i =>
    cases dy with
    | int j =>
      cases (show some (g i j) = some d from e)
      exact ⟨i, j, S.isInt (List.mem_cons_of_mem _ List.mem_cons_self), S.isInt List.mem_cons_self, k _ (Rv.le (fun _ _ z => by cases z) (fun _ _ z => by cases z) _ _ (h i j))⟩
    | _ => cases e
  | _ => cases e
def lim : Nat := 1000000
theorem lim_le {n : Nat} (h : n ≤ lim) : n ≤ sizeLine := Nat.le_trans h (by decide)
theorem lim_lt {n : Nat} (h : n < lim) : n < sizeLine := Nat.lt_of_lt_of_le h (by decide)
def oAddS : Sto → D → D → Option D
  | _, .str x, .str y => if x.length + y.length ≤ lim then some (.str (x ++ y)) else none
  | _, _, _ => none
theorem str_app (x y : List Nat) : (⟨x.toArray⟩ : Str) ++ (⟨y.toArray⟩ : Str) = ⟨(x ++ y).toArray⟩ := by
  show (⟨x.toArray ++ y.toArray⟩ : Str) = _
  rw [List.append_toArray]
theorem str_len (x : List Nat) : (⟨x.toArray⟩ : Str).length = x.length := by
  show x.toArray.size = x.length
  simp
theorem ok_addS : Ok2V G fa fb (fun x y H Q => ∃ i j, x = .str i ∧ y = .str j ∧ i.length + j.length ≤ sizeLine ∧ Q (.str (i ++ j)) H) oAddS := by
  intro B ρ st stk σ H J ι dx x dy y Q d S e k
  cases dx with
  | str i =>
    cases dy with
    | str j =>
      have e : (if i.length + j.length ≤ lim then some (D.str (i ++ j)) else none) = some d := e
      by_cases hc : i.length + j.length ≤ lim
      · rw [if_pos hc] at e
        cases e
        refine ⟨_, _, S.isStr (List.mem_cons_of_mem _ List.mem_cons_self), S.isStr List.mem_cons_self, by rw [str_len, str_len]; exact lim_le hc, k _ ?_⟩
        rw [str_app]
        rfl
      · rw [if_neg hc] at e; cases e
    | _ => cases e
  | _ => cases e
def oCat : Sto → D → D → Option Rr := fun s x y => match vw s x, vw s y with
  | some (.lst, l), some (.lst, m) => if l.length + m.length ≤ lim then some (.n .lst (l ++ m)) else none
  | _, _ => none
theorem ok_cat : Ok2R G fa fb rCat oCat := by
  rintro B ρ st stk σ H dx x dy y Q rr ⟨J, ι, S⟩ e k
  unfold oCat at e
  split at e
  · rename_i l m e1 e2
    obtain ⟨a, vs, rfl, q1, r1⟩ := S.view (List.mem_cons_of_mem _ List.mem_cons_self) e1
    obtain ⟨b, ws, rfl, q2, r2⟩ := S.view List.mem_cons_self e2
    by_cases hc : l.length + m.length ≤ lim
    · rw [if_pos hc] at e
      cases e
      refine ⟨a, b, vs, ws, rfl, rfl, q1, q2, by rw [← r1.length, ← r2.length]; exact lim_le hc, fun p hp => ?_⟩
      exact k p _ H (vs ++ ws) J ι ((S.sub subc).sub subc) hp rfl upd_same (r1.append r2)
    · rw [if_neg hc] at e; cases e
  · cases e
theorem SqT.neH {K : PySem.W.Frag} {H : Hp} {p : Addr} {xs : List V} : SqT K (upd H p (.tup xs)) p xs := SqT.of upd_same
/-- a new tuple -/
theorem SR.newt {B : Bs} {ρ : En} {st : Sto} {stk : Stk} {σ : L2.St} {H J : Hp} {ι : Nat → Option Addr} (S : SR G B ρ st stk σ H J ι) {p : Addr} {l : List D} {vs : List V} (hp : H p = none) (r : RvL G J ι l vs) :
    SX G B ρ st ((f, .box .tup l, .ref p) :: stk) σ (upd H p (.tup vs)) := ⟨_, _, S.newv (k := .tup) hp SqT.neH r⟩
def oCatT : Sto → D → D → Option Rr := fun s x y => match x, y with
  | .box .tup l, .box .tup m => if l.length + m.length ≤ lim then some (.v (.box .tup (l ++ m))) else none
  | _, _ => none
theorem ok_catT {K : PySem.W.Frag} (hK : G.K = K) : Ok2R G fa fb (rCatA K) oCatT := by
  subst hK
  rintro B ρ st stk σ H dx x dy y Q rr ⟨J, ι, S⟩ e k
  unfold oCatT at e
  split at e
  · rename_i l m
    obtain ⟨a, vs, rfl, q1, r1⟩ := S.read (List.mem_cons_of_mem _ List.mem_cons_self)
    obtain ⟨b, ws, rfl, q2, r2⟩ := S.read List.mem_cons_self
    by_cases hc : l.length + m.length ≤ lim
    · rw [if_pos hc] at e
      cases e
      have S0 := (S.sub subc).sub subc
      refine ⟨a, b, vs, ws, rfl, rfl, q1, q2, by rw [← r1.length, ← r2.length]; exact lim_le hc, fun h => ?_, fun h1 h2 => ?_, fun h1 h2 p hp => ?_⟩
      · subst h
        have hl : l = [] := List.length_eq_zero_iff.mp r1.length
        subst hl
        refine k _ H ⟨J, ι, S0.push ?_⟩
        rcases S.sk _ List.mem_cons_self with o | ⟨_, j, k', l', e, z1, z2⟩
        · exact o
        · cases e
          obtain ⟨_, _, _, ow⟩ := S.own _ _ _ z1
          cases ow.mu
      · subst h2
        have hl : m = [] := List.length_eq_zero_iff.mp r2.length
        subst hl
        rw [List.append_nil] at k
        refine k _ H ⟨J, ι, S0.push ?_⟩
        rcases S.sk _ (List.mem_cons_of_mem _ List.mem_cons_self) with o | ⟨_, j, k', l', e, z1, z2⟩
        · exact o
        · cases e
          obtain ⟨_, _, _, ow⟩ := S.own _ _ _ z1
          cases ow.mu
      · exact k _ _ (S0.newt hp (r1.append r2))
    · rw [if_neg hc] at e; cases e
  · cases e
/-- + -/
def oAdd : Sto → D → D → Option Rr := orO (asR (oI0 fun i j => .int (i + j))) (orO (asR oAddS) (orO oCat oCatT))
theorem e_add (hK : G.K = X.K) (ha : PE X a (tE G W fa ma)) (hb : PE X b (tE G W fb mb)) : PE X (.BinOp a .Add b pos) (tR G W (m2R oAdd ma mb)) :=
  e_binR (OpR.or op_add (OpR.or op_add_str (OpR.or op_cat op_catA)))
    (Ok2R.or (ok_I0 (g := fun i j => .int (i + j)) fun _ _ => rfl).asR (Ok2R.or ok_addS.asR (Ok2R.or ok_cat (ok_catT hK)))) ha hb
end
end Sm

end

section
set_option Elab.async false
set_option linter.all false
set_option maxRecDepth 100000
set_option maxHeartbeats 1000000
namespace Sm
open PySem PySem.Spec PyProof.Rows L2
/-- a def's promise where it is known that no repr is under way around the call -/
structure FnG (P : Program) (w : World) (K : PySem.W.Frag) (mg : Str → Option Value) (base : Heap) (k : Nat) (f : Addr) (fd : FuncData) (ps : List Str) (sp : Sp) : Prop where
  len : ∀ vs H Q E, sp vs H Q E → vs.length = ps.length
  run : ∀ (A : Around) (outer : List Env) (s : Shared) (H : Hp) (args : Args) (us : List Value) (vs : List V) (Q : VK) (E : XK), Room k A → A.guards = some [] →
    Env0 P w K mg base A outer s H → BindsTo s fd args (ps.zip us) → Vals vs us → sp vs H Q E → codeAny (model P w) A (.call (.ref f) args) (CR (L2.CX P w) outer P w H s Q E) s
theorem FnG.mono {P : Program} {w : World} {K : PySem.W.Frag} {mg : Str → Option Value} {base : Heap} {j k : Nat} {f : Addr} {fd : FuncData} {ps : List Str} {sp : Sp} (F : FnG P w K mg base j f fd ps sp) (h : j ≤ k) :
    FnG P w K mg base k f fd ps sp := ⟨F.len, fun A o s H args us vs Q E r => F.run A o s H args us vs Q E (r.mono h)⟩

/-- from a body to a promise -/
theorem fnG_of {P : Program} {w : World} {K : PySem.W.Frag} {mg : Str → Option Value} {base : Heap} {k : Nat} {x qual : Str} {st : Stmt} {f : Addr} {fd : FuncData} {N ps : List Str} {sp : Sp}
    (F : Fun K x qual st f fd) (S : FnScope N ps (defScope st)) (len : ∀ vs H Q E, sp vs H Q E → vs.length = ps.length)
    (body : ∀ (cdv : Value) (A : Around) (outer : List Env) (s : Shared) (H : Hp) (vs : List V) (Q : VK) (E : XK), Room k (A.deeper (envOfC qual (defScope st) s.heap.objs.size f cdv)) → A.guards = some [] → sp vs H Q E →
      ∃ t, PSs (cxOf (L2.CX P w) P w K mg base N qual (defScope st) f cdv A outer s H E) (defBody st) t ∧ t { nx := fun _ H' => Q .non H', rt := Q } (start N vs) H) :
    FnG P w K mg base (k + 1) f fd ps sp := by
  obtain ⟨oc, od, kV, doc, pm, an, cdv, ct, osl, rfl, lk, hcd⟩ := F.ex
  constructor
  · exact len
  intro A outer s H args us vs Q E room gd env bnd rv want
  have keep : ∀ b o, base.get? b = some o → s.heap.get? b = some o := fun b o e => (env.bs b o e).1
  have inK : K.In s.heap := env.mod.kin.keeps keep
  have parK : ∀ y ∈ ps.zip us, (defScope st).names.lookup y.1 = some .local ∨ ((defScope st).names.lookup y.1 = some .cell ∧ ((cellsFrom (s.heap.objs.size + 1) (defScope st).names []).lookup y.1).isSome = true) := by
    rintro ⟨n, v⟩ hy
    exact (S.par n (List.of_mem_zip hy).1).imp id fun q => ⟨q, PySem.W.cellsFrom_some _ _ _ (.inl q)⟩
  refine codeAny_call_function room.depth (inK _ _ lk) rfl S.co S.gen rfl
    (PySem.W.codeRec_of inK hcd) (bnd _ _ _ _ (wpAny_newFunctionEnv_cells S.kind parK ?_))
  rintro en rfl s1 ic
  refine ⟨env.mod.nolimit.keeps (fun b o e => ic.toInCall.keep b o (keep b o e)), codeAny_func ?_⟩
  obtain ⟨t, ht, hq⟩ := body cdv A outer s H vs Q E (room.deeper _) gd want
  have I0 := inv_start (CX := L2.CX P w) (E := E) S room.hd env (len _ _ _ _ want) rv ic
  apply wpAny_mono (ht.run [] s1 (start N vs) H _ I0 hq) ?_ (fun e s' hs => hs)
  intro fl s' hs
  match fl, hs with
  | .ret u, ⟨v, σ', H', J, rv', q⟩ => exact ⟨v, H', J.os, J.bare, J.base, J.hok, rv', q⟩
  | .next, ⟨σ', H', J, q⟩ => exact ⟨.non, H', J.os, J.bare, J.base, J.hok, rfl, q⟩
  | .brk, ⟨_, _, _, q⟩ => exact q.elim
  | .cont, ⟨_, _, _, q⟩ => exact q.elim

section
variable {X : Cx} {k : Nat} {f C : Addr} {fd : FuncData} {ps : List Str} {sp : Sp} {W : WX} {dvs : List V} {ds : List Value}
/-- a callee runs in a body -/
theorem run_G {pins : List (Addr × Obj)} {σ : L2.St} {H : Hp} {s : Shared} {Q : VK} {us : List Value} {vs : List V} (F : FnG X.prog X.w X.K X.mg X.base k f fd ps sp) (hr : Room k X.A) (gd : X.A.guards = some []) (hb : Binds X.K fd ps ds) (hd : Vals dvs ds)
    (tk : Takes X W) (I : Inv X pins σ H s) (r : Vals vs us) (h : sp (vs ++ dvs) H Q (WE W σ)) : wpAny (model X.prog X.w) X.A (call (.ref f) us) (EP X pins σ Q) X.xe s := by
  have r2 := r.append hd
  have hl : (us ++ ds).length = ps.length := r2.length.symm.trans (F.len _ _ _ _ h)
  apply wpAny_call
  apply codeAny_mono (F.run X.A X.stack s H ⟨us, []⟩ _ _ Q (WE W σ) hr gd I.env0 (hb s us I.kIn hl) r2 h)
  intro res s' hq
  match res, hq with
  | .error e, hq => exact passAt tk σ pins H s e s' I hq
  | .ok (.ret u), hq => exact I.after hq
  | .ok .next, hq => exact hq.elim
  | .ok .brk, hq => exact hq.elim
  | .ok .cont, hq => exact hq.elim
end

/-- the promise that the machine's function makes for a def -/
def spM (G : Gm) (n : Nat) (F : MF) : Sp := fun vs H Q E => ∃ J ι st l, l.length = n ∧ Good G J ι st H ∧ RvL G J ι l vs ∧ match F l st with
  | .ok d st' => ∀ J' ι' H' v, Ext J ι H J' ι' H' → Good G J' ι' st' H' → Rv G J' ι' d v → Q v H'
  | .exc c m st' => ∀ J' ι' H' dd vs', Ext J ι H J' ι' H' → Good G J' ι' st' H' → RvL G J' ι' m vs' → J' dd = some (.xd ((G.exf c).zip vs')) → E (.ref (G.cls c)) (some dd) H'
  | .bad => False
section
variable {X : Cx} {k : Nat} {f C : Addr} {fd : FuncData} {ps : List Str} {G : Gm} {W : WX} {F : MF} {fl : Bool} {x m : Str} {p pos apos : Pos} {e o : Expr} {es : List Expr} {ma : MA} {mo : ME}
theorem stkOf_rl {G : Gm} {B : Bs} {ρ : En} {st : Sto} {σ : L2.St} {H J : Hp} {ι : Nat → Option Addr} : ∀ {l : List D} {vs : List V} {stk : Stk}, l.length = vs.length → SR G B ρ st (stkOf l vs ++ stk) σ H J ι → RvL G J ι l vs
  | [], [], _, _, _ => rfl
  | d :: l, v :: vs, stk, h, S => ⟨v, vs, rfl, S.firm (by simp [stkOf]), stkOf_rl (stk := stk) (by simpa using h) (S.sub fun x hx => by
      simp only [stkOf, List.zip_cons_cons, List.map_cons, List.cons_append, List.mem_cons] at hx ⊢
      exact .inr hx)⟩
theorem stkOf_sub {l : List D} {vs : List V} {stk : Stk} : ∀ y ∈ stk, y ∈ stkOf l vs ++ stk := fun y hy => List.mem_append_right _ hy
/-- what a call asks, from what stands ahead of it -/
theorem sp_call {B : Bs} {ρ : En} {st : Sto} {stk : Stk} {σ : L2.St} {H J : Hp} {ι : Nat → Option Addr} {l : List D} {vs : List V} {Q : VK} {n : Nat} (S : SR G B ρ st stk σ H J ι) (hl : l.length = n) (r : RvL G J ι l vs)
    (p : Post G B ρ stk σ W (F l st) (KE G B ρ stk σ fl Q)) : spM G n F vs H Q (WE W σ) := by
  refine ⟨J, ι, st, l, hl, S.good, r, ?_⟩
  cases e : F l st with
  | ok d st' =>
    rw [e] at p
    exact fun J' ι' H' v ex g rv => p v H' ⟨J', ι', (S.call ex g).push rv⟩
  | exc c ml st' =>
    rw [e] at p
    exact fun J' ι' H' dd vs' ex g rv hd => p dd H' vs' J' ι' (S.call ex g) rv hd
  | bad => rw [e] at p; exact p.elim
def mCall (F : MF) (dd : List D) (a : MA) : ME := fun ρ st => (a ρ st).bind fun l s => F (l ++ dd) s
theorem e_call {n : Nat} {dvs : List V} {ds : List Value} {dd : List D} (Fn : FnG X.prog X.w X.K X.mg X.base k f fd ps (spM G n F)) (hr : Room k X.A) (gd : X.A.guards = some []) (tk : Takes X W) (hm : X.mg x = some (.ref f)) (hk : PySem.W.keepIn X.K (.ref f) = true)
    (hb : Binds X.K fd ps ds) (hd : Vals dvs ds) (hdd : ∀ J ι, RvL G J ι dd dvs) (ha : PA X (e :: es) (tA G W ma)) (hl : ∀ ρ st l s, ma ρ st = .ok l s → (l ++ dd).length = n) (hg : Gl X x := by rfl) (hdb : (x == ("__debug__" : Str)) = false := by decide)
    (he : starEach (e :: es) X.env = (false, eval e X.env) :: starEach es X.env := by rfl) (hpl : (backTo pos (starEach es X.env)).any (·.1) = false := by rfl) :
    PE X (.Call (.Name x p) (e :: es) [] pos) (tE G W fl (mCall F dd ma)) := by
  refine ⟨fun pins s σ H Q I h => ?_⟩
  obtain ⟨B, ρ, st, stk, S, pp⟩ := h
  apply wpAny_Call_Name_kw (ld_glob I hg hm ?_ hdb)
  have arg : tA G W ma σ H (fun vs H1 => spM G n F (vs ++ dvs) H1 Q (WE W σ)) := by
    refine ⟨B, ρ, st, stk, S, ?_⟩
    have pb := pp.bind
    cases hma : ma ρ st with
    | ok l s1 =>
      rw [hma] at pb
      rintro vs H1 hlv ⟨J, ι, S1⟩
      refine sp_call (fl := fl) (S1.sub stkOf_sub) (hl ρ st l s1 hma) ((stkOf_rl hlv S1).append (hdd J ι)) ?_
      exact pb
    | exc c l s1 => rw [hma] at pb; exact pb
    | bad => rw [hma] at pb; exact pb
  exact PySem.W.callWith_K (h₀ := X.base) I.ok.mod.kin hk (thn (ha.run pos pins s σ H _ I arg) fun us s1 ⟨vs, H1, I1, r, q⟩ => ⟨I1.kIn, run_G Fn hr gd hb hd tk I1 r q⟩) he hpl
theorem e_call0 {n : Nat} {dvs : List V} {ds : List Value} {dd : List D} (Fn : FnG X.prog X.w X.K X.mg X.base k f fd ps (spM G n F)) (hr : Room k X.A) (gd : X.A.guards = some []) (tk : Takes X W) (hm : X.mg x = some (.ref f)) (hk : PySem.W.keepIn X.K (.ref f) = true)
    (hb : Binds X.K fd ps ds) (hd : Vals dvs ds) (hdd : ∀ J ι, RvL G J ι dd dvs) (hl : dd.length = n) (hg : Gl X x := by rfl) (hdb : (x == ("__debug__" : Str)) = false := by decide) :
    PE X (.Call (.Name x p) [] [] pos) (tE G W fl (mCall F dd mNil)) := by
  refine ⟨fun pins s σ H Q I h => ?_⟩
  obtain ⟨B, ρ, st, stk, ⟨J, ι, S⟩, pp⟩ := h
  apply wpAny_Call_Name_kw (ld_glob I hg hm ?_ hdb)
  exact PySem.W.callWith_K0 I.kIn hk (run_G (us := []) (vs := []) Fn hr gd hb hd tk I .nil (sp_call S hl (hdd J ι) pp))
end
end Sm

end

section
set_option Elab.async false
set_option linter.all false
set_option maxRecDepth 100000
set_option maxHeartbeats 1000000
namespace Sm
open PySem PySem.Spec PyProof.Rows L2
def flagged (stk : Stk) : Prop := ∀ x ∈ stk, x.1 = true
def PostS (G : Gm) (B : Bs) (stk : Stk) (W : WX) (r : RS) (D : Ends) : Prop := match r with
  | .nx ρ s => ∀ σ' H', SX G B ρ s stk σ' H' → D.nx σ' H'
  | .ct ρ s => ∀ σ' H', SX G B ρ s stk σ' H' → D.ct σ' H'
  | .bk ρ s => ∀ σ' H', SX G B ρ s stk σ' H' → D.bk σ' H'
  | .rt d s => ∀ ρ σ' v H', SX G B ρ s ((true, d, v) :: stk) σ' H' → D.rt v H'
  | .exc c l ρ s => ∀ σ', ExW G B ρ s stk σ' W c l
  | .bad => False
def tS (G : Gm) (W : WX) (m : MS) : TS := fun D σ H => ∃ B ρ st stk, B.lax = false ∧ flagged stk ∧ SX G B ρ st stk σ H ∧ PostS G B stk W (m ρ st) D

def sNx : MS := fun ρ st => .nx ρ st
def sBad : MS := fun _ _ => .bad
def sBk : MS := fun ρ st => .bk ρ st
def sCt : MS := fun ρ st => .ct ρ st
def RS.then (r : RS) (k : MS) : RS := match r with
  | .nx ρ s => k ρ s
  | r => r
def sSeq (a b : MS) : MS := fun ρ st => (a ρ st).then b
def Res.toS {α : Type} (r : Res α) (ρ : En) (k : α → Sto → RS) : RS := match r with
  | .ok a s => k a s
  | .exc c l s => .exc c l ρ s
  | .bad => .bad
def sRet (m : ME) : MS := fun ρ st => (m ρ st).toS ρ fun d s => .rt d s
def sAsg (i : Nat) (m : ME) : MS := fun ρ st => (m ρ st).toS ρ fun d s => .nx (ρ.set i (.val d)) s
def sAsgO (i : Nat) (m : MR) : MS := fun ρ st => (m ρ st).toS ρ fun r s => match r with
  | .v d => .nx (ρ.set i (.val d)) s
  | .n k l => if i < ρ.length then .nx (ρ.set i (.own k l)) s else .bad
def sExpr (m : ME) : MS := fun ρ st => (m ρ st).toS ρ fun _ s => .nx ρ s
def sIf (c : MT) (a b : MS) : MS := fun ρ st => (c ρ st).toS ρ fun x s => if x = true then a ρ s else b ρ s
/-- slot i gives its object up: a ghost step -/
def sFrz (i : Nat) (a : MS) : MS := fun ρ st => match ρ[i]? with
  | some (.own k l) => a (ρ.set i (.val (.box k l))) st
  | some (.val _) => a ρ st
  | _ => .bad

section
variable {X : Cx} {G : Gm} {W : WX} {f : Bool} {e c : Expr} {m : ME} {mr : MR} {ma mb : MS} {mc : MT} {st0 : Stmt} {rest as bs : List Stmt} {pos : Pos} {t t' : TS}
theorem _root_.L2.PS.weak (h : PS X st0 t) (k : ∀ D σ H, t' D σ H → t D σ H) : PS X st0 t' := ⟨fun pins s σ H D I q => h.run pins s σ H D I (k D σ H q)⟩
theorem _root_.L2.PSs.weak (h : PSs X rest t) (k : ∀ D σ H, t' D σ H → t D σ H) : PSs X rest t' := ⟨fun pins s σ H D I q => h.run pins s σ H D I (k D σ H q)⟩
theorem PostS.imp {B : Bs} {stk : Stk} {r : RS} {D D' : Ends} (p : PostS G B stk W r D) (h1 : ∀ σ H, D.nx σ H → D'.nx σ H) (h2 : ∀ σ H, D.ct σ H → D'.ct σ H) (h3 : ∀ σ H, D.bk σ H → D'.bk σ H) (h4 : ∀ v H, D.rt v H → D'.rt v H) : PostS G B stk W r D' := by
  cases r with
  | nx ρ s => exact fun σ' H' S => h1 _ _ (p σ' H' S)
  | ct ρ s => exact fun σ' H' S => h2 _ _ (p σ' H' S)
  | bk ρ s => exact fun σ' H' S => h3 _ _ (p σ' H' S)
  | rt d s => exact fun ρ σ' v H' S => h4 _ _ (p ρ σ' v H' S)
  | exc c l ρ s => exact p
  | bad => exact p
theorem s_nil : PSs X [] (tS G W sNx) := by
  refine pss_nil.weak ?_
  rintro D σ H ⟨B, ρ, st, stk, hB, hf, S, p⟩
  exact p σ H S
theorem s_cons (h1 : PS X st0 (tS G W ma)) (h2 : PSs X rest (tS G W mb)) : PSs X (st0 :: rest) (tS G W (sSeq ma mb)) := by
  refine (pss_cons h1 h2).weak ?_
  rintro D σ H ⟨B, ρ, st, stk, hB, hf, S, p⟩
  refine ⟨B, ρ, st, stk, hB, hf, S, ?_⟩
  unfold sSeq at p
  cases e : ma ρ st with
  | nx ρ' s => rw [e] at p; exact fun σ' H' S' => ⟨B, ρ', s, stk, hB, hf, S', p⟩
  | ct ρ' s => rw [e] at p; exact p
  | bk ρ' s => rw [e] at p; exact p
  | rt d s => rw [e] at p; exact p
  | exc c l ρ s => rw [e] at p; exact p
  | bad => rw [e] at p; exact p
theorem s_one (h1 : PS X st0 (tS G W ma)) : PSs X [st0] (tS G W ma) := pss_one h1
theorem s_pass : PS X (.Pass pos) (tS G W sNx) := by
  refine ps_pass.weak ?_
  rintro D σ H ⟨B, ρ, st, stk, hB, hf, S, p⟩
  exact p σ H S
theorem s_break : PS X (.Break pos) (tS G W sBk) := by
  refine ps_break.weak ?_
  rintro D σ H ⟨B, ρ, st, stk, hB, hf, S, p⟩
  exact p σ H S
theorem s_cont : PS X (.Continue pos) (tS G W sCt) := by
  refine ps_continue.weak ?_
  rintro D σ H ⟨B, ρ, st, stk, hB, hf, S, p⟩
  exact p σ H S
theorem s_never : PS X st0 (tS G W sBad) := by
  refine ps_never.weak ?_
  rintro D σ H ⟨B, ρ, st, stk, hB, hf, S, p⟩
  exact p
theorem ss_never : PSs X rest (tS G W sBad) := by
  refine pss_never.weak ?_
  rintro D σ H ⟨B, ρ, st, stk, hB, hf, S, p⟩
  exact p
theorem toS_post {α : Type} {B : Bs} {ρ : En} {stk : Stk} {σ : L2.St} {r : Res α} {k : α → Sto → RS} {D : Ends} {K : α → Sto → Prop} (p : PostS G B stk W (r.toS ρ k) D) (h : ∀ a s, PostS G B stk W (k a s) D → K a s) : Post G B ρ stk σ W r K := by
  cases r with
  | ok a s => exact h a s p
  | exc c l s => exact p σ
  | bad => exact p
theorem s_ret (h : PE X e (tE G W true m)) : PS X (.Return (some e) pos) (tS G W (sRet m)) := by
  refine (ps_ret h).weak ?_
  rintro D σ H ⟨B, ρ, st, stk, hB, hf, S, p⟩
  exact ⟨B, ρ, st, stk, S, toS_post p fun d s q v H' S' => q ρ σ v H' S'⟩
theorem s_retN : PS X (.Return none pos) (tS G W (sRet (mC .non))) := by
  refine ps_retN.weak ?_
  rintro D σ H ⟨B, ρ, st, stk, hB, hf, ⟨J, ι, S⟩, p⟩
  exact p ρ σ .non H ⟨J, ι, S.push rfl⟩
theorem s_expr (h : PE X e (tE G W f m)) (hs : swapsWith e none pos.line X.env = pure false := by rfl) : PS X (.Expr e pos) (tS G W (sExpr m)) := by
  refine (ps_expr h hs).weak ?_
  rintro D σ H ⟨B, ρ, st, stk, hB, hf, S, p⟩
  exact ⟨B, ρ, st, stk, S, toS_post p fun d s q v H' S' => q σ H' (S'.sub subc)⟩
theorem s_doc {x : Str} {j pos'} : PS X (.Expr (.Constant (.str x) j pos) pos') (tS G W sNx) := by
  refine ps_doc.weak ?_
  rintro D σ H ⟨B, ρ, st, stk, hB, hf, S, p⟩
  exact p σ H S
theorem s_if (hc : PT X c (tT G W mc)) (ha : PSs X as (tS G W ma)) (hb : PSs X bs (tS G W mb)) : PS X (.If c as bs pos) (tS G W (sIf mc ma mb)) := by
  refine (ps_if hc ha hb).weak ?_
  rintro D σ H ⟨B, ρ, st, stk, hB, hf, S, p⟩
  refine ⟨B, ρ, st, stk, S, toS_post p fun k s q H' S' => ?_⟩
  cases k with
  | true => exact ⟨B, ρ, s, stk, hB, hf, S', q⟩
  | false => exact ⟨B, ρ, s, stk, hB, hf, S', q⟩
theorem sfrz_post {B : Bs} {ρ : En} {st : Sto} {stk : Stk} {σ : L2.St} {H : Hp} {D : Ends} (i : Nat) (hB : B.lax = false) (hf : flagged stk) (S : SX G B ρ st stk σ H) (p : PostS G B stk W (sFrz i ma ρ st) D) :
    ∃ ρ', SX G B ρ' st stk σ H ∧ PostS G B stk W (ma ρ' st) D := by
  unfold sFrz at p
  cases e : ρ[i]? with
  | none => simp only [e] at p; exact p.elim
  | some sl =>
    cases sl with
    | un => simp only [e] at p; exact p.elim
    | val d => simp only [e] at p; exact ⟨ρ, S, p⟩
    | own k l =>
      simp only [e] at p
      obtain ⟨J, ι, S⟩ := S
      obtain ⟨J', _, S'⟩ := S.frzown e hB hf
      exact ⟨_, ⟨J', ι, S'⟩, p⟩
theorem s_frz (i : Nat) (h : PS X st0 (tS G W ma)) : PS X st0 (tS G W (sFrz i ma)) := by
  refine h.weak ?_
  rintro D σ H ⟨B, ρ, st, stk, hB, hf, S, p⟩
  obtain ⟨ρ', S', p'⟩ := sfrz_post i hB hf S p
  exact ⟨B, ρ', st, stk, hB, hf, S', p'⟩
/-- x = e -/
theorem s_asg (i : Nat) {x : Str} {pos' : Pos} (hN : X.N.Nodup) (he : PE X e (tE G W true m)) (hi : X.N[i]? = some x := by rfl) (hx : Loc X.env.scope x := by first | exact Or.inl rfl | exact Or.inr rfl) (hs : swapsWith e (some (.Name x pos')) pos.line X.env = pure false := by rfl)
    (hf : X.fn x = true ∨ X.env.scope.names.lookup x = some .local := by first | exact .inl rfl | exact .inr rfl | assumption) : PS X (.Assign [.Name x pos'] e pos) (tS G W (sAsg i m)) := by
  refine (ps_set hN hi hx he hs hf).weak ?_
  rintro D σ H ⟨B, ρ, st, stk, hB, hf, S, p⟩
  refine ⟨B, ρ, st, stk, S, toS_post p fun d s q v H' S' => ?_⟩
  obtain ⟨J, ι, S'⟩ := S'
  exact q (σ.set i (some v)) H' ⟨J, ι, (S'.sub subc).put i (S'.firm List.mem_cons_self) hf⟩
/-- x = e, x owns the new object -/
theorem s_asgO (i : Nat) {x : Str} {pos' : Pos} (hN : X.N.Nodup) (he : PE X e (tR G W mr)) (hi : X.N[i]? = some x := by rfl) (hx : Loc X.env.scope x := by first | exact Or.inl rfl | exact Or.inr rfl) (hs : swapsWith e (some (.Name x pos')) pos.line X.env = pure false := by rfl)
    (hf : X.fn x = true ∨ X.env.scope.names.lookup x = some .local := by first | exact .inl rfl | exact .inr rfl | assumption) : PS X (.Assign [.Name x pos'] e pos) (tS G W (sAsgO i mr)) := by
  refine (ps_set hN hi hx he hs hf).weak ?_
  rintro D σ H ⟨B, ρ, st, stk, hB, hf, S, p⟩
  refine ⟨B, ρ, st, stk, S, toS_post p fun r s q => ?_⟩
  cases r with
  | v d =>
    rintro v H' ⟨J, ι, S'⟩
    exact q (σ.set i (some v)) H' ⟨J, ι, (S'.sub subc).put i (S'.firm List.mem_cons_self) hf⟩
  | n k l =>
    intro p o H1 vs J ι S1 hp hm hq hr
    by_cases hi : i < ρ.length
    · have q' : PostS G B stk W (if i < ρ.length then RS.nx (ρ.set i (.own k l)) s else .bad) D := q
      rw [if_pos hi] at q'
      exact q' (σ.set i (some (.ref p))) (upd H1 p o) ⟨J, ι, S1.putown i hp hm hq hr hi hf⟩
    · have q' : PostS G B stk W (if i < ρ.length then RS.nx (ρ.set i (.own k l)) s else .bad) D := q
      rw [if_neg hi] at q'
      exact q'.elim
end

/-! ### loops -/
def setAll (σ : L2.St) : List (Nat × V) → L2.St
  | [] => σ
  | (j, v) :: r => setAll (σ.set j (some v)) r
/-- a target of names alone -/
def tGp (G : Gm) (js : List Nat) (T : D → En → Option En) : TG := fun v σ H Q => ∃ B ρ st stk d ρ', flagged stk ∧ SX G B ρ st ((true, d, v) :: stk) σ H ∧ T d ρ = some ρ' ∧
  ∀ us : List (Nat × V), us.map (·.1) = js → SX G B ρ' st stk (setAll σ us) H → Q (setAll σ us) H
def tGsp (G : Gm) (js : List Nat) (T : List D → En → Option En) : TGs := fun vs σ H Q => ∃ B ρ st stk l ρ', flagged stk ∧ SX G B ρ st (stkOf l vs ++ stk) σ H ∧ l.length = vs.length ∧ T l ρ = some ρ' ∧
  ∀ us : List (Nat × V), us.map (·.1) = js → SX G B ρ' st stk (setAll σ us) H → Q (setAll σ us) H
def gpName (j : Nat) : D → En → Option En := fun d ρ => some (ρ.set j (.val d))
def gpNil : List D → En → Option En := fun l ρ => match l with
  | [] => some ρ
  | _ => none
def gpCons (T : D → En → Option En) (U : List D → En → Option En) : List D → En → Option En := fun l ρ => match l with
  | d :: r => (T d ρ).bind (U r)
  | [] => none
def gpTup (n : Nat) (U : List D → En → Option En) : D → En → Option En := fun d ρ => match d with
  | .box .tup l => if l.length = n then U l ρ else none
  | _ => none
section
variable {X : Cx} {G : Gm} {pos : Pos}
theorem _root_.L2.PG.weak {tg : Expr} {t t' : TG} (h : PG X tg t) (k : ∀ v σ H Q, t' v σ H Q → t v σ H Q) : PG X tg t' := ⟨fun pins s σ H v u Q I r q => h.run pins s σ H v u Q I r (k v σ H Q q)⟩
theorem _root_.L2.PGs.weak {tg : List Expr} {t t' : TGs} (h : PGs X tg t) (k : ∀ v σ H Q, t' v σ H Q → t v σ H Q) : PGs X tg t' := ⟨fun pins s σ H v u Q I r q => h.run pins s σ H v u Q I r (k v σ H Q q)⟩
theorem g_name (j : Nat) {x : Str} (hN : X.N.Nodup) (hi : X.N[j]? = some x := by rfl) (hx : Loc X.env.scope x := by first | exact Or.inl rfl | exact Or.inr rfl) (hf : X.fn x = true ∨ X.env.scope.names.lookup x = some .local := by first | exact .inl rfl | exact .inr rfl | assumption) :
    PG X (.Name x pos) (tGp G [j] (gpName j)) := by
  refine (pg_name hN hi hx hf).weak ?_
  rintro v σ H Q ⟨B, ρ, st, stk, d, ρ', hf, ⟨J, ι, S⟩, e, k⟩
  cases e
  exact k [(j, v)] rfl ⟨J, ι, (S.sub subc).put j (S.firm List.mem_cons_self) hf⟩
theorem g_nil : PGs X [] (tGsp G [] gpNil) := by
  refine pgs_nil.weak ?_
  rintro vs σ H Q ⟨B, ρ, st, stk, l, ρ', hf, S, hl, e, k⟩
  cases l with
  | nil =>
    cases e
    have hv : vs = [] := List.length_eq_zero_iff.mp hl.symm
    subst hv
    exact ⟨rfl, k [] rfl S⟩
  | cons d l => cases e
theorem stkOf_cons {d : D} {l : List D} {v : V} {vs : List V} : stkOf (d :: l) (v :: vs) = (true, d, v) :: stkOf l vs := rfl
theorem flagged_stkOf {l : List D} {vs : List V} : flagged (stkOf l vs) := fun x hx => by
  obtain ⟨p, _, e⟩ := List.mem_map.mp hx
  rw [← e]
theorem setAll_append (σ : L2.St) : ∀ (us ws : List (Nat × V)), setAll σ (us ++ ws) = setAll (setAll σ us) ws
  | [], ws => rfl
  | (j, v) :: r, ws => setAll_append (σ.set j (some v)) r ws
theorem g_cons {e : Expr} {es : List Expr} {js ks : List Nat} {T : D → En → Option En} {U : List D → En → Option En} (h1 : PG X e (tGp G js T)) (h2 : PGs X es (tGsp G ks U))
    (hs : (assignEach (e :: es) X.env).map (·.2) = assign e X.env :: (assignEach es X.env).map (·.2) := by rfl) : PGs X (e :: es) (tGsp G (js ++ ks) (gpCons T U)) := by
  refine (pgs_cons h1 h2 hs).weak ?_
  rintro vs σ H Q ⟨B, ρ, st, stk, l, ρ', hf, S, hl, e, k⟩
  cases l with
  | nil => cases e
  | cons d l =>
    cases vs with
    | nil => cases hl
    | cons v vs =>
      have e : (T d ρ).bind (U l) = some ρ' := e
      cases e1 : T d ρ with
      | none => rw [e1] at e; cases e
      | some ρ1 =>
        rw [e1] at e
        have fl : flagged (stkOf l vs ++ stk) := fun x hx => (List.mem_append.mp hx).elim (flagged_stkOf x) (hf x)
        refine ⟨v, vs, rfl, B, ρ, st, stkOf l vs ++ stk, d, ρ1, fl, S, e1, fun us hu S1 => ⟨B, ρ1, st, stk, l, ρ', hf, S1, by simpa using hl, e, fun ws hw S2 => ?_⟩⟩
        rw [← setAll_append] at S2 ⊢
        exact k (us ++ ws) (by rw [List.map_append, hu, hw]) S2
theorem g_tup {es : List Expr} {n k : Nat} {js : List Nat} {U : List D → En → Option En} (hK : G.K = X.K) (hc : X.calm = true) (h : PGs X es (tGsp G js U))
    (hn : (assignEach es X.env).length = n := by rfl) (hst : (assignEach es X.env).findIdx? (·.1) = none := by rfl) : PG X (.Tuple es k pos) (tGp G js (gpTup n U)) := by
  refine (pg_tup hc h hn hst).weak ?_
  rintro v σ H Q ⟨B, ρ, st, stk, d, ρ', hf, ⟨J, ι, S⟩, e, k⟩
  unfold gpTup at e
  split at e
  · rename_i l
    by_cases hl : l.length = n
    · rw [if_pos hl] at e
      obtain ⟨a, vs, rfl, q, r⟩ := S.read List.mem_cons_self
      obtain ⟨a', vs', e', q', r'⟩ := S.firm List.mem_cons_self
      cases e'
      refine ⟨a, vs', rfl, by rw [← hK]; exact SqT_le S.good.jh q', by rw [← r'.length]; exact hl, B, ρ, st, stk, l, ρ', hf, ⟨J, ι, ?_⟩, r'.length, e, k⟩
      have S0 : SR G B ρ st stk σ H J ι := S.sub subc
      have key : ∀ (l : List D) (vs : List V), RvL G J ι l vs → SR G B ρ st (stkOf l vs ++ stk) σ H J ι := by
        intro l
        induction l with
        | nil => intro vs r; cases r; exact S0
        | cons d l ih =>
          intro vs r
          obtain ⟨v, ws, rfl, q, t⟩ := r
          exact (ih ws t).push q
      exact key l vs' r'
    · rw [if_neg hl] at e; cases e
  · cases e
end
def forL (T : D → En → Option En) (body : MS) : List D → En → Sto → RS
  | [], ρ, s => .nx ρ s
  | d :: l, ρ, s => match T d ρ with
    | none => .bad
    | some ρ1 => match body ρ1 s with
      | .nx ρ2 s2 => forL T body l ρ2 s2
      | .ct ρ2 s2 => forL T body l ρ2 s2
      | .bk ρ2 s2 => .nx ρ2 s2
      | r => r
def sRng (lo : Int) (n : Nat) : List D := (List.range n).map fun (i : Nat) => D.int (lo + (i : Int))
def whileM (c : MT) (body : MS) : Nat → MS
  | 0 => fun _ _ => .bad
  | n + 1 => fun ρ st => (c ρ st).toS ρ fun x s => if x = true then (match body ρ s with
      | .nx ρ2 s2 => whileM c body n ρ2 s2
      | .ct ρ2 s2 => whileM c body n ρ2 s2
      | .bk ρ2 s2 => .nx ρ2 s2
      | r => r) else .nx ρ s
section
variable {X : Cx} {G : Gm} {W : WX} {f : Bool} {tg e c : Expr} {m : ME} {ma : MA} {mb : MS} {mc : MT} {body : List Stmt} {pos : Pos} {js : List Nat} {T : D → En → Option En}
theorem _root_.L2.PI.weak {t t' : TI} (h : PI X tg e t) (k : ∀ σ H R, t' σ H R → t σ H R) : PI X tg e t' := ⟨fun pins s σ H R I q => h.run pins s σ H R I (k σ H R q)⟩
theorem PI.or {t t' : TI} (h : PI X tg e t) (h' : PI X tg e t') : PI X tg e (fun σ H R => t σ H R ∨ t' σ H R) := ⟨fun pins s σ H R I q => q.elim (h.run pins s σ H R I) (h'.run pins s σ H R I)⟩
theorem Ext.re {J0 J1 J2 : Hp} {ι0 ι1 ι2 : Nat → Option Addr} {H0 H1 H2 : Hp} (a : Ext J0 ι0 H0 J1 ι1 H1) (b : Ext J1 ι1 H0 J2 ι2 H2) : Ext J0 ι0 H0 J2 ι2 H2 :=
  ⟨a.jj.trans b.jj, a.ii.trans b.ii, fun x o h1 h2 h3 => b.jn x o (a.jn x o h1 h2 h3) h2 (a.key x o h2 h3), fun n x e => (b.ni n x e).elim (a.ni n x) .inr, fun x o h2 h3 => b.fr x o h2 (a.key x o h2 h3), b.lv⟩
abbrev Bs.at (B : Bs) (J : Hp) (ι : Nat → Option Addr) : Bs := ⟨J, ι, B.H, B.lax⟩
theorem SR.rebase {B : Bs} {ρ : En} {st : Sto} {stk : Stk} {σ : L2.St} {H J : Hp} {ι : Nat → Option Addr} (S : SR G B ρ st stk σ H J ι) : SR G (B.at J ι) ρ st stk σ H J ι :=
  { S with ext := ⟨Le.refl _, Li.refl _, fun a o h1 _ _ => h1, fun n a e => .inl e, fun a o h1 h2 => S.ext.fr a o h1 fun n e => h2 n (S.ext.ii n a e), S.ext.lv⟩, own := fun j k l h => let ⟨a, vs, e, o⟩ := S.own j k l h; ⟨a, vs, e, o.mu, o.sq, o.rl, o.nj, o.ni, o.fr⟩ }
theorem SR.unbase {B : Bs} {ρ ρ' : En} {st st' : Sto} {stk stk' : Stk} {σ σ' : L2.St} {H H' J J' : Hp} {ι ι' : Nat → Option Addr} (S0 : SR G B ρ st stk σ H J ι) (S : SR G (B.at J ι) ρ' st' stk' σ' H' J' ι') : SR G B ρ' st' stk' σ' H' J' ι' :=
  { S with ext := S0.ext.re S.ext, own := fun j k l h => let ⟨a, vs, e, o⟩ := S.own j k l h; ⟨a, vs, e, o.mu, o.sq, o.rl, o.nj, o.ni, o.fr⟩ }
theorem PostS.base {B : Bs} {ρ : En} {st : Sto} {stk stk' : Stk} {σ : L2.St} {H J : Hp} {ι : Nat → Option Addr} {r : RS} {Z : Ends} (S0 : SR G B ρ st stk' σ H J ι) (p : PostS G B stk W r Z) : PostS G (B.at J ι) stk W r Z := by
  cases r with
  | nx ρ s => exact fun σ' H' ⟨J', ι', S⟩ => p σ' H' ⟨J', ι', S0.unbase S⟩
  | ct ρ s => exact fun σ' H' ⟨J', ι', S⟩ => p σ' H' ⟨J', ι', S0.unbase S⟩
  | bk ρ s => exact fun σ' H' ⟨J', ι', S⟩ => p σ' H' ⟨J', ι', S0.unbase S⟩
  | rt d s => exact fun ρ σ' v H' ⟨J', ι', S⟩ => p ρ σ' v H' ⟨J', ι', S0.unbase S⟩
  | exc c l ρ s => exact fun σ' dd H' vs J' ι' S => p σ' dd H' vs J' ι' (S0.unbase S)
  | bad => exact p
/-- one turn of a for -/
theorem for_turn {B : Bs} {ρ : En} {st : Sto} {stk : Stk} {σ : L2.St} {H : Hp} {d : D} {v : V} {l : List D} {Z : Ends} {Nx : L2.St → Hp → Prop} (hB : B.lax = false) (hf : flagged stk) (S : SX G B ρ st ((true, d, v) :: stk) σ H)
    (p : PostS G B stk W (forL T mb (d :: l) ρ st) Z) (hN : ∀ ρ' s' σ' H', SX G B ρ' s' stk σ' H' → PostS G B stk W (forL T mb l ρ' s') Z → Nx σ' H') :
    tGp G js T v σ H fun σ2 H2 => tS G W mb { Z with nx := Nx, ct := Nx, bk := Z.nx } σ2 H2 := by
  unfold forL at p
  cases e : T d ρ with
  | none => simp only [e] at p; exact p.elim
  | some ρ1 =>
    simp only [e] at p
    refine ⟨B, ρ, st, stk, d, ρ1, hf, S, e, fun us hu S1 => ⟨B, ρ1, st, stk, hB, hf, S1, ?_⟩⟩
    cases e2 : mb ρ1 st with
    | nx ρ2 s2 => simp only [e2] at p; exact fun σ' H' S' => hN ρ2 s2 σ' H' S' p
    | ct ρ2 s2 => simp only [e2] at p; exact fun σ' H' S' => hN ρ2 s2 σ' H' S' p
    | bk ρ2 s2 => simp only [e2] at p; exact p
    | rt d s => simp only [e2] at p; exact p
    | exc c l ρ s => simp only [e2] at p; exact p
    | bad => simp only [e2] at p; exact p.elim
theorem drop_cons {α : Type} {l : List α} {i : Nat} {x : α} (h : l[i]? = some x) : l.drop i = x :: l.drop (i + 1) := by
  obtain ⟨hi, e⟩ := List.getElem?_eq_some_iff.mp h
  rw [List.drop_eq_getElem_cons hi, e]
/-- what holds between the turns -/
def FInv (G : Gm) (W : WX) (B : Bs) (stk : Stk) (T : D → En → Option En) (mb : MS) (l : List D) (Z : Ends) (i : Nat) (σ : L2.St) (H : Hp) : Prop :=
  ∃ ρ s, SX G B ρ s stk σ H ∧ PostS G B stk W (forL T mb (l.drop i) ρ s) Z
theorem finv_turn {B : Bs} {stk : Stk} {l : List D} {Z : Ends} {i : Nat} {x : V} {d : D} {σ : L2.St} {H : Hp} (hB : B.lax = false) (hf : flagged stk) (hd : l[i]? = some d) (hx : Rv G B.J B.ι d x) (p : FInv G W B stk T mb l Z i σ H) :
    tGp G js T x σ H fun σ2 H2 => tS G W mb { Z with nx := FInv G W B stk T mb l Z (i + 1), ct := FInv G W B stk T mb l Z (i + 1), bk := Z.nx } σ2 H2 := by
  obtain ⟨ρ, s, ⟨J, ι, S⟩, q⟩ := p
  rw [drop_cons hd] at q
  exact for_turn hB hf ⟨J, ι, S.push (Rv.le S.ext.jj S.ext.ii _ _ hx)⟩ q fun ρ' s' σ' H' S' q' => ⟨ρ', s', S', q'⟩
theorem finv_end {B : Bs} {stk : Stk} {l : List D} {Z : Ends} {i : Nat} {σ : L2.St} {H : Hp} (hi : i = l.length) (p : FInv G W B stk T mb l Z i σ H) : Z.nx σ H := by
  obtain ⟨ρ, s, S, q⟩ := p
  rw [hi, List.drop_length] at q
  exact q σ H S
def sWhile (n : Nat) (c : MT) (body : MS) : MS := whileM c body n
theorem s_while (n : Nat) (hp : PassesOwn (model X.prog X.w) X.A X.env X.xe) (hc : PT X c (tT G W mc)) (hb : PSs X body (tS G W mb)) : PS X (.While c body [] pos) (tS G W (sWhile n mc mb)) := by
  refine (ps_while hp hc hb).weak ?_
  rintro Z σ H ⟨B, ρ, st, stk, hB, hf, S, p⟩
  refine ⟨fun m σ' H' => ∃ ρ' s', SX G B ρ' s' stk σ' H' ∧ PostS G B stk W (whileM mc mb m ρ' s') Z, ⟨n, ρ, st, S, p⟩, ?_⟩
  rintro m σ1 H1 ⟨ρ1, s1, S1, q⟩
  cases m with
  | zero => exact q.elim
  | succ m =>
    refine ⟨B, ρ1, s1, stk, S1, toS_post q fun k s q' H' S' => ?_⟩
    cases k with
    | false => exact q' σ1 H' S'
    | true =>
      have q' : PostS G B stk W (match mb ρ1 s with
        | .nx ρ2 s2 => whileM mc mb m ρ2 s2
        | .ct ρ2 s2 => whileM mc mb m ρ2 s2
        | .bk ρ2 s2 => .nx ρ2 s2
        | r => r) Z := q'
      refine ⟨fun σ2 H2 => ∃ ρ2 s2, SX G B ρ2 s2 stk σ2 H2 ∧ PostS G B stk W (whileM mc mb m ρ2 s2) Z, fun σ2 H2 h => ⟨m, Nat.lt_succ_self m, h⟩, B, ρ1, s, stk, hB, hf, S', ?_⟩
      cases e2 : mb ρ1 s with
      | nx ρ2 s2 => simp only [e2] at q'; exact fun σ2 H2 S2 => ⟨ρ2, s2, S2, q'⟩
      | ct ρ2 s2 => simp only [e2] at q'; exact fun σ2 H2 S2 => ⟨ρ2, s2, S2, q'⟩
      | bk ρ2 s2 => simp only [e2] at q'; exact q'
      | rt d s => simp only [e2] at q'; exact q'
      | exc c l ρ s => simp only [e2] at q'; exact q'
      | bad => simp only [e2] at q'; exact q'.elim
end

/-! ### a def -/
def runF (n : Nat) (body : MS) : MF := fun l st => match body (l.map Sl.val ++ List.replicate (n - l.length) Sl.un) st with
  | .nx _ s => .ok .non s
  | .rt d s => .ok d s
  | .exc c l _ s => .exc c l s
  | _ => .bad
section
variable {P : Program} {w : World} {K : PySem.W.Frag} {mg : Str → Option Value} {base : Heap} {k n : Nat} {x qual : Str} {st : Stmt} {f : Addr} {fd : FuncData} {N ps : List Str} {G : Gm} {mb : MS}
abbrev WD (E : XK) : WX := fun cls d _ H => E cls d H
/-- the body of a def, walked by the machine -/
theorem fn_mk (F : Fun K x qual st f fd) (S : FnScope N ps (defScope st)) (hn : ps.length = n)
    (body : ∀ (cdv : Value) (A : Around) (outer : List Env) (s : Shared) (H : Hp) (E : XK), Room k (A.deeper (envOfC qual (defScope st) s.heap.objs.size f cdv)) → (A.deeper (envOfC qual (defScope st) s.heap.objs.size f cdv)).guards = some [] →
      PSs (cxOf (L2.CX P w) P w K mg base N qual (defScope st) f cdv A outer s H E) (defBody st) (tS G (WD E) mb)) :
    FnG P w K mg base (k + 1) f fd ps (spM G n (runF N.length mb)) := by
  refine fnG_of F S ?_ ?_
  · rintro vs H Q E ⟨J, ι, st, l, hl, g, r, _⟩
    rw [← r.length, hl, hn]
  · rintro cdv A outer s H vs Q E hr gd ⟨J, ι, s0, l, hl, g, r, p⟩
    refine ⟨_, body cdv A outer s H E hr gd, ?_⟩
    have hvl : vs.length = l.length := r.length.symm
    have len : (l.map Sl.val ++ List.replicate (N.length - l.length) Sl.un).length = (start N vs).length := by
      unfold L2.start
      simp [hvl]
    refine ⟨⟨J, ι, H, false⟩, l.map Sl.val ++ List.replicate (N.length - l.length) Sl.un, s0, [], rfl, (fun x hx => by cases hx), ⟨J, ι, ⟨g, Ext.refl, len, ?_, ?_, ?_, fun x hx => by cases hx⟩⟩, ?_⟩
    · intro j d hj
      by_cases h : j < l.length
      · rw [List.getElem?_append_left (by simpa using h), List.getElem?_map] at hj
        cases e : l[j]? with
        | none => rw [e] at hj; cases hj
        | some d' =>
          rw [e] at hj
          cases hj
          obtain ⟨v, h1, h2⟩ := r.get e
          refine ⟨v, ?_, h2⟩
          unfold L2.start
          rw [List.getElem?_append_left (by simpa [hvl] using h), List.getElem?_map, h1]
          rfl
      · rw [List.getElem?_append_right (by simpa using h)] at hj
        have hm := List.mem_of_getElem? hj
        have := List.eq_of_mem_replicate hm
        cases this
    · intro j k' l' hj
      by_cases h : j < l.length
      · rw [List.getElem?_append_left (by simpa using h), List.getElem?_map] at hj
        cases e : l[j]? with
        | none => rw [e] at hj; cases hj
        | some d' => rw [e] at hj; cases hj
      · rw [List.getElem?_append_right (by simpa using h)] at hj
        have hm := List.mem_of_getElem? hj
        have := List.eq_of_mem_replicate hm
        cases this
    · intro i j k1 l1 k2 l2 v hi
      by_cases h : i < l.length
      · rw [List.getElem?_append_left (by simpa using h), List.getElem?_map] at hi
        cases e : l[i]? with
        | none => rw [e] at hi; cases hi
        | some d' => rw [e] at hi; cases hi
      · rw [List.getElem?_append_right (by simpa using h)] at hi
        have hm := List.mem_of_getElem? hi
        have := List.eq_of_mem_replicate hm
        cases this
    · unfold runF at p
      cases e : mb (l.map Sl.val ++ List.replicate (N.length - l.length) Sl.un) s0 with
      | nx ρ s1 =>
        rw [e] at p
        exact fun σ' H' ⟨J', ι', S'⟩ => p J' ι' H' .non S'.ext S'.good rfl
      | rt d s1 =>
        rw [e] at p
        exact fun ρ σ' v H' ⟨J', ι', S'⟩ => p J' ι' H' v S'.ext S'.good (S'.firm List.mem_cons_self)
      | exc c m ρ s1 =>
        rw [e] at p
        exact fun σ' dd H' vs' J' ι' S' r' hd => p J' ι' H' dd vs' S'.ext S'.good r' hd
      | bk ρ s1 => rw [e] at p; exact p.elim
      | ct ρ s1 => rw [e] at p; exact p.elim
      | bad => rw [e] at p; exact p.elim
end
end Sm

end

section
set_option Elab.async false
set_option linter.all false
set_option maxRecDepth 100000
set_option maxHeartbeats 1000000
namespace Sm
open PySem PySem.Spec PyProof.Rows L2
section
variable {X : Cx} {G : Gm} {W : WX} {f fa fb fc : Bool} {a b c e : Expr} {ma mb mc : ME} {pos : Pos}
abbrev m2V (o : Sto → D → D → Option D) (a b : ME) : ME := m2 (l2 o) a b
abbrev m1V (o : Sto → D → Option D) (a : ME) : ME := m1 (l1 o) a
def cMul (i j : Int) : Bool := decide (i.natAbs < 18446744073709551616) || decide (j.natAbs < 18446744073709551616)
theorem cMul_ok (i j : Int) (h : cMul i j = true) : CMul i j := by
  unfold cMul at h
  rw [Bool.or_eq_true, decide_eq_true_eq, decide_eq_true_eq] at h
  unfold CMul
  rcases h with h | h
  · left; omega
  · right; omega
def oSub := oI0 fun i j => .int (i - j)
def oMulI := oI cMul fun i j => i * j
def oDiv := oI (fun _ j => decide (0 < j ∧ j < 1073741824)) fun i j => i / j
def oMod := oI (fun _ j => decide (0 < j)) fun i j => i % j
def oPow := oI (fun i j => decide (0 ≤ j ∧ j ≤ 1000000 ∧ i.natAbs < 18446744073709551616)) fun i j => i ^ j.toNat
theorem e_sub (ha : PE X a (tE G W fa ma)) (hb : PE X b (tE G W fb mb)) : PE X (.BinOp a .Sub b pos) (tE G W f (m2V oSub ma mb)) := e_bin op_sub (ok_I0 (g := fun i j => .int (i - j)) fun _ _ => rfl).ok ha hb
theorem e_fdiv (ha : PE X a (tE G W fa ma)) (hb : PE X b (tE G W fb mb)) : PE X (.BinOp a .FloorDiv b pos) (tE G W f (m2V oDiv ma mb)) := e_bin op_fdiv (ok_I fun _ _ h => by simpa [CDiv] using h).ok ha hb
theorem e_mod (ha : PE X a (tE G W fa ma)) (hb : PE X b (tE G W fb mb)) : PE X (.BinOp a .Mod b pos) (tE G W f (m2V oMod ma mb)) := e_bin op_mod (ok_I fun _ _ h => by simpa using h).ok ha hb
theorem e_pow (ha : PE X a (tE G W fa ma)) (hb : PE X b (tE G W fb mb)) : PE X (.BinOp a .Pow b pos) (tE G W f (m2V oPow ma mb)) := e_bin op_pow (ok_I fun _ _ h => by simpa [CPow] using h).ok ha hb
/-- str * int -/
def oMulS : Sto → D → D → Option D
  | _, .str x, .int n => if n ≤ 1000 ∧ -1000 ≤ n ∧ x.length ≤ 1000 then some (.str (List.replicate n.toNat x).flatten) else none
  | _, _, _ => none
theorem fold_flat (z : Array Nat) : ∀ (n : Nat) (acc : Array Nat), (List.replicate n z).foldl (· ++ ·) acc = acc ++ ((List.replicate n z.toList).flatten).toArray
  | 0, acc => by simp
  | n + 1, acc => by
    rw [List.replicate_succ, List.foldl_cons, fold_flat z n, List.replicate_succ, List.flatten_cons, ← List.append_toArray, Array.append_assoc]
theorem txt_mul (z : List Nat) (n : Int) : Txt.mul (⟨z.toArray⟩ : Str) n = ⟨(List.replicate n.toNat z).flatten.toArray⟩ := by
  unfold Txt.mul
  by_cases h : n < 1
  · rw [if_pos h]
    have : n.toNat = 0 := by omega
    rw [this]
    rfl
  · rw [if_neg h]
    by_cases h2 : (n == 1 || (⟨z.toArray⟩ : Str).length == 0) = true
    · rw [if_pos h2]
      rw [Bool.or_eq_true, beq_iff_eq, beq_iff_eq, str_len] at h2
      rcases h2 with h2 | h2
      · have : n.toNat = 1 := by omega
        rw [this]
        simp
      · have hz : z = [] := List.length_eq_zero_iff.mp h2
        subst hz
        simp
    · rw [if_neg h2, fold_flat]
      simp
theorem op_mulS : OpR X (binaryOp .Mult) (fun x y H Q => ∃ (z : List Nat) (n : Int), x = .str ⟨z.toArray⟩ ∧ y = .int n ∧ n ≤ 1000 ∧ -1000 ≤ n ∧ z.length ≤ 1000 ∧ Q (.str ⟨(List.replicate n.toNat z).flatten.toArray⟩) H) := by
  intro pins s σ H x y v u Q I rx ry h
  obtain ⟨z, n, rfl, rfl, h1, h0, h2, q⟩ := h
  obtain ⟨t, rfl⟩ := rx
  obtain ⟨t', rfl⟩ := ry
  have hlen : (⟨z.toArray⟩ : Str).length = z.length := str_len z
  refine SB.mul ?_ fun t' k => ?_
  · refine ⟨?_, fun a b => ?_, fun a b => ?_⟩
    · rw [Bool.or_eq_false_iff, decide_eq_false_iff_not, decide_eq_false_iff_not]
      constructor <;> omega
    · rw [hlen]
      intro hgt
      have : ((2 : Int) ^ 63 - 1) / n ≥ 1000 := by
        have hn : 0 < n := by omega
        exact Int.le_ediv_of_mul_le hn (by omega)
      omega
    · rw [hlen]
      have : z.length * n.toNat ≤ 1000 * 1000 := Nat.mul_le_mul h2 (by omega)
      unfold Builtin.Str.tooLong
      rw [sizeLine_eq]
      exact decide_eq_false (by omega)
  · rw [txt_mul]
    exact ⟨.str _, H, I.tok _, ⟨t', rfl⟩, q⟩
theorem ok_mulS : Ok2V G fa fb (fun x y H Q => ∃ (z : List Nat) (n : Int), x = .str ⟨z.toArray⟩ ∧ y = .int n ∧ n ≤ 1000 ∧ -1000 ≤ n ∧ z.length ≤ 1000 ∧ Q (.str ⟨(List.replicate n.toNat z).flatten.toArray⟩) H) oMulS := by
  intro B ρ st stk σ H J ι dx x dy y Q d S e k
  unfold oMulS at e
  split at e
  · rename_i z n
    by_cases hc : n ≤ 1000 ∧ -1000 ≤ n ∧ z.length ≤ 1000
    · rw [if_pos hc] at e
      cases e
      exact ⟨z, n, S.isStr (List.mem_cons_of_mem _ List.mem_cons_self), S.isInt List.mem_cons_self, hc.1, hc.2.1, hc.2.2, k _ rfl⟩
    · rw [if_neg hc] at e; cases e
  · cases e
/-- list * int -/
def oRep : Sto → D → D → Option Rr := fun s x y => match vw s x, y with
  | some (.lst, l), .int n => if n ≤ 1000 ∧ -1000 ≤ n ∧ l.length ≤ 1000 then some (.n .lst (List.replicate n.toNat l).flatten) else none
  | _, _ => none
theorem RvL.reps {J : Hp} {ι : Nat → Option Addr} {l : List D} {vs : List V} (r : RvL G J ι l vs) : ∀ n : Nat, RvL G J ι (List.replicate n l).flatten (List.replicate n vs).flatten
  | 0 => rfl
  | n + 1 => by
    rw [List.replicate_succ, List.replicate_succ, List.flatten_cons, List.flatten_cons]
    exact r.append (RvL.reps r n)
theorem ok_rep : Ok2R G fa fb rRep oRep := by
  rintro B ρ st stk σ H dx x dy y Q rr ⟨J, ι, S⟩ e k
  unfold oRep at e
  split at e
  · rename_i l n e1
    obtain ⟨a, vs, rfl, q1, r1⟩ := S.view (List.mem_cons_of_mem _ List.mem_cons_self) e1
    by_cases hc : n ≤ 1000 ∧ -1000 ≤ n ∧ l.length ≤ 1000
    · rw [if_pos hc] at e
      cases e
      refine ⟨a, n, vs, rfl, S.isInt List.mem_cons_self, q1, by omega, by omega, ?_, fun p hp => ?_⟩
      · rw [← r1.length, sizeLine_eq]
        have : l.length * n.toNat ≤ 1000 * 1000 := Nat.mul_le_mul hc.2.2 (by omega)
        omega
      · exact k p _ H _ J ι ((S.sub subc).sub subc) hp rfl upd_same (r1.reps _)
    · rw [if_neg hc] at e; cases e
  · cases e
def oMul : Sto → D → D → Option Rr := orO (asR oMulI) (orO (asR oMulS) oRep)
theorem e_mulR (ha : PE X a (tE G W fa ma)) (hb : PE X b (tE G W fb mb)) : PE X (.BinOp a .Mult b pos) (tR G W (m2R oMul ma mb)) :=
  e_binR (OpR.or op_mul (OpR.or op_mulS op_rep)) (Ok2R.or (ok_I cMul_ok).asR (Ok2R.or ok_mulS.asR ok_rep)) ha hb
theorem e_mul (ha : PE X a (tE G W fa ma)) (hb : PE X b (tE G W fb mb)) : PE X (.BinOp a .Mult b pos) (tE G W f (m2V oMulI ma mb)) := e_bin op_mul (ok_I cMul_ok).ok ha hb
def oNeg : Sto → D → Option D
  | _, .int i => some (.int (-i))
  | _, _ => none
theorem e_neg (ha : PE X a (tE G W fa ma)) : PE X (.UnaryOp .USub a pos) (tE G W f (m1V oNeg ma)) := by
  refine e_un un_neg ?_ ha
  rintro B ρ st stk σ H dx x Q ⟨J, ι, S⟩ p
  cases dx with
  | int i => exact ⟨i, S.isInt List.mem_cons_self, p _ H ⟨J, ι, (S.sub subc).push rfl⟩⟩
  | _ => exact p.elim

/-! ### comparisons -/
def oLtI := oI0 fun i j => .bl (decide (i < j))
def oLeI := oI0 fun i j => .bl (decide (i ≤ j))
def oGtI := oI0 fun i j => .bl (decide (j < i))
def oGeI := oI0 fun i j => .bl (decide (j ≤ i))
def oStr2 (g : List Nat → List Nat → D) : Sto → D → D → Option D
  | _, .str x, .str y => some (g x y)
  | _, _, _ => none
theorem ok_str2 {g : List Nat → List Nat → D} {g' : Str → Str → V} (h : ∀ x y, Rv G (fun _ => none) (fun _ => none) (g x y) (g' ⟨x.toArray⟩ ⟨y.toArray⟩)) : Ok2V G fa fb (fun x y H Q => ∃ i j, x = .str i ∧ y = .str j ∧ Q (g' i j) H) (oStr2 g) := by
  intro B ρ st stk σ H J ι dx x dy y Q d S e k
  unfold oStr2 at e
  split at e
  · cases e
    exact ⟨_, _, S.isStr (List.mem_cons_of_mem _ List.mem_cons_self), S.isStr List.mem_cons_self, k _ (Rv.le (fun _ _ z => by cases z) (fun _ _ z => by cases z) _ _ (h _ _))⟩
  · cases e
def oLtS := oStr2 fun x y => .bl (decide (x < y))
def oLeS := oStr2 fun x y => .bl (!decide (y < x))
def oGtS := oStr2 fun x y => .bl (decide (y < x))
def oGeS := oStr2 fun x y => .bl (!decide (x < y))
def oLt := orO oLtI oLtS
def oLe := orO oLeI oLeS
def oGt := orO oGtI oGtS
def oGe := orO oGeI oGeS
def rLt : R2 := fun x y H Q => rI0 (fun i j => .bl (decide (i < j))) x y H Q ∨ ∃ i j, x = .str i ∧ y = .str j ∧ Q (.bl (decide (i.cps.toList < j.cps.toList))) H
def rLe : R2 := fun x y H Q => rI0 (fun i j => .bl (decide (i ≤ j))) x y H Q ∨ ∃ i j, x = .str i ∧ y = .str j ∧ Q (.bl (!decide (j.cps.toList < i.cps.toList))) H
def rGt : R2 := fun x y H Q => rI0 (fun i j => .bl (decide (j < i))) x y H Q ∨ ∃ i j, x = .str i ∧ y = .str j ∧ Q (.bl (decide (j.cps.toList < i.cps.toList))) H
def rGe : R2 := fun x y H Q => rI0 (fun i j => .bl (decide (j ≤ i))) x y H Q ∨ ∃ i j, x = .str i ∧ y = .str j ∧ Q (.bl (!decide (i.cps.toList < j.cps.toList))) H
theorem o_lt : OpR X (compareOp .Lt) rLt := OpR.or op_lt op_lt_str
theorem o_le : OpR X (compareOp .LtE) rLe := OpR.or op_le op_le_str
theorem o_gt : OpR X (compareOp .Gt) rGt := OpR.or op_gt op_gt_str
theorem o_ge : OpR X (compareOp .GtE) rGe := OpR.or op_ge op_ge_str
theorem k_lt : Ok2V G fa fb rLt oLt := Ok2V.or (ok_I0 (g := fun i j => .bl (decide (i < j))) fun _ _ => rfl) (ok_str2 (g' := fun i j => .bl (decide (i.cps.toList < j.cps.toList))) fun _ _ => rfl)
theorem k_le : Ok2V G fa fb rLe oLe := Ok2V.or (ok_I0 (g := fun i j => .bl (decide (i ≤ j))) fun _ _ => rfl) (ok_str2 (g' := fun i j => .bl (!decide (j.cps.toList < i.cps.toList))) fun _ _ => rfl)
theorem k_gt : Ok2V G fa fb rGt oGt := Ok2V.or (ok_I0 (g := fun i j => .bl (decide (j < i))) fun _ _ => rfl) (ok_str2 (g' := fun i j => .bl (decide (j.cps.toList < i.cps.toList))) fun _ _ => rfl)
theorem k_ge : Ok2V G fa fb rGe oGe := Ok2V.or (ok_I0 (g := fun i j => .bl (decide (j ≤ i))) fun _ _ => rfl) (ok_str2 (g' := fun i j => .bl (!decide (i.cps.toList < j.cps.toList))) fun _ _ => rfl)
/-- is None, True, False -/
theorem op_isB : OpR X (compareOp .Is) (fun x y H Q => ∃ k : Bool, y = .bl k ∧ Q (.bl (decide (x = .bl k))) H) := by
  intro pins s σ H x y v u Q I rx ry h
  obtain ⟨k, rfl, q⟩ := h
  cases (show u = Value.bool k from ry)
  by_cases hx : x = .bl k
  · subst hx
    cases (show v = Value.bool k from rx)
    exact wpAny_is_self rfl ⟨.bl true, H, I, rfl, by simpa using q⟩
  · have hne : v ≠ Value.bool k := fun z => by
      subst z
      exact hx (RelV.inj (y := .bl k) rx rfl)
    refine wpAny_is_other ?_ hne ⟨.bl false, H, I, rfl, by simpa [hx] using q⟩
    cases x <;> first
      | (cases rx; rfl)
      | (obtain ⟨t, rfl⟩ := rx; rfl)
theorem op_isnotB : OpR X (compareOp .IsNot) (fun x y H Q => ∃ k : Bool, y = .bl k ∧ Q (.bl (!decide (x = .bl k))) H) := by
  intro pins s σ H x y v u Q I rx ry h
  obtain ⟨k, rfl, q⟩ := h
  cases (show u = Value.bool k from ry)
  by_cases hx : x = .bl k
  · subst hx
    cases (show v = Value.bool k from rx)
    exact wpAny_isNot_self rfl ⟨.bl false, H, I, rfl, by simpa using q⟩
  · have hne : v ≠ Value.bool k := fun z => by
      subst z
      exact hx (RelV.inj (y := .bl k) rx rfl)
    refine wpAny_isNot_other ?_ hne ⟨.bl true, H, I, rfl, by simpa [hx] using q⟩
    cases x <;> first
      | (cases rx; rfl)
      | (obtain ⟨t, rfl⟩ := rx; rfl)
def isNonD : D → Bool
  | .non => true
  | .con v => decide (v = .non)
  | _ => false
def isBlD (k : Bool) : D → Bool
  | .bl j => j == k
  | .con v => decide (v = .bl k)
  | _ => false
theorem SR.isNonD {B : Bs} {ρ : En} {st : Sto} {stk : Stk} {σ : L2.St} {H J : Hp} {ι : Nat → Option Addr} {d : D} {v : V} (S : SR G B ρ st stk σ H J ι) (h : (f, d, v) ∈ stk) : decide (v = .non) = Sm.isNonD d := by
  rcases S.sk _ h with r | ⟨_, j, k, l, rfl, h1, h2⟩
  · cases d with
    | non => cases (show v = .non from r); rfl
    | bl b => cases (show v = .bl b from r); rfl
    | int b => cases (show v = .int b from r); rfl
    | str b => cases (show v = .str _ from r); rfl
    | box k l => obtain ⟨a, vs, e, _⟩ := r; cases e; rfl
    | ref n => obtain ⟨a, e, _⟩ := r; cases e; rfl
    | con u => cases (show v = u from r); rfl
  · obtain ⟨a, vs, h3, _⟩ := S.own _ _ _ h1
    rw [h2] at h3
    cases h3
    rfl
theorem SR.isBlD {B : Bs} {ρ : En} {st : Sto} {stk : Stk} {σ : L2.St} {H J : Hp} {ι : Nat → Option Addr} {d : D} {v : V} {k : Bool} (S : SR G B ρ st stk σ H J ι) (h : (f, d, v) ∈ stk) : decide (v = .bl k) = Sm.isBlD k d := by
  rcases S.sk _ h with r | ⟨_, j, k', l, rfl, h1, h2⟩
  · cases d with
    | non => cases (show v = .non from r); rfl
    | bl b =>
      cases (show v = .bl b from r)
      show decide (V.bl b = V.bl k) = (b == k)
      cases b <;> cases k <;> rfl
    | int b => cases (show v = .int b from r); rfl
    | str b => cases (show v = .str _ from r); rfl
    | box k l => obtain ⟨a, vs, e, _⟩ := r; cases e; rfl
    | ref n => obtain ⟨a, e, _⟩ := r; cases e; rfl
    | con u => cases (show v = u from r); rfl
  · obtain ⟨a, vs, h3, _⟩ := S.own _ _ _ h1
    rw [h2] at h3
    cases h3
    rfl
def oIs : Sto → D → D → Option D
  | _, x, .non => some (.bl (isNonD x))
  | _, x, .bl k => some (.bl (isBlD k x))
  | _, _, _ => none
def oIsNot : Sto → D → D → Option D
  | _, x, .non => some (.bl (!isNonD x))
  | _, x, .bl k => some (.bl (!isBlD k x))
  | _, _, _ => none
def rIs : R2 := fun x y H Q => (y = .non ∧ Q (.bl (decide (x = .non))) H) ∨ ∃ k : Bool, y = .bl k ∧ Q (.bl (decide (x = .bl k))) H
def rIsNot : R2 := fun x y H Q => (y = .non ∧ Q (.bl (!decide (x = .non))) H) ∨ ∃ k : Bool, y = .bl k ∧ Q (.bl (!decide (x = .bl k))) H
theorem o_is : OpR X (compareOp .Is) rIs := OpR.or op_isN op_isB
theorem o_isNot : OpR X (compareOp .IsNot) rIsNot := OpR.or op_notN op_isnotB
theorem k_is : Ok2V G fa fb rIs oIs := by
  intro B ρ st stk σ H J ι dx x dy y Q d S e k
  cases dy with
  | non =>
    cases (show some (D.bl (isNonD dx)) = some d from by cases dx <;> exact e)
    refine .inl ⟨S.isNon List.mem_cons_self, k _ ?_⟩
    rw [S.isNonD (f := fa) (List.mem_cons_of_mem _ List.mem_cons_self)]
    rfl
  | bl q =>
    cases (show some (D.bl (isBlD q dx)) = some d from by cases dx <;> exact e)
    refine .inr ⟨q, S.isBl List.mem_cons_self, k _ ?_⟩
    rw [S.isBlD (f := fa) (List.mem_cons_of_mem _ List.mem_cons_self)]
    rfl
  | _ => cases dx <;> cases e
theorem k_isNot : Ok2V G fa fb rIsNot oIsNot := by
  intro B ρ st stk σ H J ι dx x dy y Q d S e k
  cases dy with
  | non =>
    cases (show some (D.bl (!isNonD dx)) = some d from by cases dx <;> exact e)
    refine .inl ⟨S.isNon List.mem_cons_self, k _ ?_⟩
    rw [S.isNonD (f := fa) (List.mem_cons_of_mem _ List.mem_cons_self)]
    rfl
  | bl q =>
    cases (show some (D.bl (!isBlD q dx)) = some d from by cases dx <;> exact e)
    refine .inr ⟨q, S.isBl List.mem_cons_self, k _ ?_⟩
    rw [S.isBlD (f := fa) (List.mem_cons_of_mem _ List.mem_cons_self)]
    rfl
  | _ => cases dx <;> cases e

/-! ### data as a whole: ==, repr -/
def allO {α : Type} : List (Option α) → Option (List α)
  | [] => some []
  | none :: _ => none
  | some a :: r => (allO r).map (a :: ·)
def py (s : Sto) : Nat → D → Option PyData
  | 0, _ => none
  | n + 1, d => match d with
    | .non => some .none
    | .bl b => some (.bool b)
    | .int i => some (.int i)
    | .str x => some (.str ⟨x.toArray⟩)
    | .con _ => none
    | d => match vw s d with
      | some (.lst, l) => (allO (l.map (py s n))).map .list
      | some (.scr, l) => (allO (l.map (py s n))).map .list
      | some (.tup, l) => (allO (l.map (py s n))).map .tuple
      | _ => none
theorem allO_dp {K : PySem.W.Frag} {H : Hp} {s : Sto} {n : Nat} {J : Hp} {ι : Nat → Option Addr} (ih : ∀ d v p, Rv G J ι d v → py s n d = some p → Dp K H v p) : ∀ (l : List D) (vs : List V) (ps : List PyData), RvL G J ι l vs → allO (l.map (py s n)) = some ps → DpAll K H vs ps
  | [], vs, ps, r, e => by
    cases r
    cases e
    exact .nil
  | d :: l, vs, ps, r, e => by
    obtain ⟨v, ws, rfl, q, t⟩ := r
    rw [List.map_cons] at e
    cases e1 : py s n d with
    | none => rw [e1] at e; cases e
    | some p =>
      rw [e1] at e
      have e : (allO (l.map (py s n))).map (p :: ·) = some ps := e
      cases e2 : allO (l.map (py s n)) with
      | none => rw [e2] at e; cases e
      | some qs =>
        rw [e2] at e
        cases e
        exact .cons (ih d v p q e1) (allO_dp ih l ws qs t e2)
theorem map_some {α β : Type} {o : Option α} {g : α → β} {b : β} (h : o.map g = some b) : ∃ a, o = some a ∧ g a = b := by
  cases o with
  | none => cases h
  | some a => cases h; exact ⟨a, rfl, rfl⟩
/-- of a box or an object of the store -/
theorem dp_view {B : Bs} {ρ : En} {st : Sto} {stk : Stk} {σ : L2.St} {H J : Hp} {ι : Nat → Option Addr} (S : SR G B ρ st stk σ H J ι) {n : Nat} (ih : ∀ d v p, Rv G J ι d v → py st n d = some p → Dp G.K H v p) {k : Kd} {l : List D} {a : Addr} {vs : List V} {p : PyData}
    (q : Sq G H a k vs) (r : RvL G J ι l vs) (e : (match (some (k, l) : Option (Kd × List D)) with
      | some (.lst, l) => (allO (l.map (py st n))).map PyData.list
      | some (.scr, l) => (allO (l.map (py st n))).map .list
      | some (.tup, l) => (allO (l.map (py st n))).map .tuple
      | _ => none) = some p) : Dp G.K H (.ref a) p := by
  cases k with
  | lst =>
    obtain ⟨ps, e1, rfl⟩ := map_some e
    exact .lst (SqL.of q) (allO_dp ih l vs ps r e1)
  | scr =>
    obtain ⟨ps, e1, rfl⟩ := map_some e
    exact .lst q (allO_dp ih l vs ps r e1)
  | tup =>
    obtain ⟨ps, e1, rfl⟩ := map_some e
    exact .tup q (allO_dp ih l vs ps r e1)
  | dct => cases e
  | ins c fs => cases e
theorem SR.dpR {B : Bs} {ρ : En} {st : Sto} {stk : Stk} {σ : L2.St} {H J : Hp} {ι : Nat → Option Addr} (S : SR G B ρ st stk σ H J ι) : ∀ (n : Nat) (d : D) (v : V) (p : PyData), Rv G J ι d v → py st n d = some p → Dp G.K H v p
  | 0, _, _, _, _, e => by cases e
  | n + 1, d, v, p, r, e => by
    cases d with
    | non => cases (show v = .non from r); cases e; exact .non
    | bl b => cases (show v = .bl b from r); cases e; exact .bl b
    | int i => cases (show v = .int i from r); cases e; exact .int i
    | str x => cases (show v = .str _ from r); cases e; exact .str _
    | con u => cases e
    | box k l =>
      obtain ⟨a, vs, rfl, q, t⟩ := r
      exact dp_view S (fun d v p => SR.dpR S n d v p) (q.le S.good.jh) t e
    | ref m =>
      have S2 := S.push (f := true) r
      cases hv : vw st (.ref m) with
      | none =>
        have e' : (match vw st (.ref m) with
          | some (.lst, l) => (allO (l.map (py st n))).map PyData.list
          | some (.scr, l) => (allO (l.map (py st n))).map .list
          | some (.tup, l) => (allO (l.map (py st n))).map .tuple
          | _ => none) = some p := e
        rw [hv] at e'
        cases e'
      | some kl =>
        obtain ⟨k, l⟩ := kl
        obtain ⟨a, vs, rfl, q, t⟩ := S2.view List.mem_cons_self hv
        have e' : (match vw st (.ref m) with
          | some (.lst, l) => (allO (l.map (py st n))).map PyData.list
          | some (.scr, l) => (allO (l.map (py st n))).map .list
          | some (.tup, l) => (allO (l.map (py st n))).map .tuple
          | _ => none) = some p := e
        rw [hv] at e'
        exact dp_view S (fun d v p => SR.dpR S n d v p) q t e'
theorem SR.dp {B : Bs} {ρ : En} {st : Sto} {stk : Stk} {σ : L2.St} {H J : Hp} {ι : Nat → Option Addr} {n : Nat} {d : D} {v : V} {p : PyData} (S : SR G B ρ st stk σ H J ι) (h : (f, d, v) ∈ stk) (e : py st n d = some p) : Dp G.K H v p := by
  rcases S.sk _ h with r | ⟨_, j, k, l, rfl, h1, h2⟩
  · exact S.dpR n d v p r e
  · cases n with
    | zero => cases e
    | succ n =>
      obtain ⟨a, vs, h3, o⟩ := S.own _ _ _ h1
      rw [h2] at h3
      cases h3
      exact dp_view S (fun d v p => S.dpR n d v p) o.sq o.rl e
def oEqS : Sto → D → D → Option Bool
  | _, .int i, .int j => some (decide (i = j))
  | _, .str i, .str j => some (decide (i = j))
  | _, .bl i, .bl j => some (decide (i = j))
  | _, .non, .non => some true
  | _, .non, .int _ => some false
  | _, .int _, .non => some false
  | _, .non, .bl _ => some false
  | _, .bl _, .non => some false
  | _, .non, .str _ => some false
  | _, .str _, .non => some false
  | _, .int _, .str _ => some false
  | _, .str _, .int _ => some false
  | _, .bl _, .str _ => some false
  | _, .str _, .bl _ => some false
  | _, _, _ => none
def fuel : Nat := 64
def oEqD : Sto → D → D → Option Bool := fun s x y => match py s fuel x, py s fuel y with
  | some p, some q => if (SeqAt.shaped p && SeqAt.shaped q) = true then some (PyData.eqv p q) else none
  | _, _ => none
def oEqB : Sto → D → D → Option Bool := orO oEqS oEqD
def oEq : Sto → D → D → Option D := fun s x y => (oEqB s x y).map D.bl
def oNe : Sto → D → D → Option D := fun s x y => (oEqB s x y).map fun b => D.bl (!b)
theorem str_inj {x y : List Nat} (h : (⟨x.toArray⟩ : Str) = ⟨y.toArray⟩) : x = y := by
  have := congrArg (fun z : Str => z.cps.toList) h
  simpa using this
theorem oEqS_ok {B : Bs} {ρ : En} {st : Sto} {stk : Stk} {σ : L2.St} {H J : Hp} {ι : Nat → Option Addr} {dx dy : D} {x y : V} {k : Bool} (S : SR G B ρ st ((fb, dy, y) :: (fa, dx, x) :: stk) σ H J ι) (e : oEqS st dx dy = some k) : scal x y = true ∧ decide (x = y) = k := by
  have hx : ∀ {i}, dx = D.int i → x = .int i := fun h => S.isInt (f := fa) (by rw [← h]; exact List.mem_cons_of_mem _ List.mem_cons_self)
  have hx2 : ∀ {i}, dx = D.str i → x = .str ⟨i.toArray⟩ := fun h => S.isStr (f := fa) (by rw [← h]; exact List.mem_cons_of_mem _ List.mem_cons_self)
  have hx3 : ∀ {i}, dx = D.bl i → x = .bl i := fun h => S.isBl (f := fa) (by rw [← h]; exact List.mem_cons_of_mem _ List.mem_cons_self)
  have hx4 : dx = D.non → x = .non := fun h => S.isNon (f := fa) (by rw [← h]; exact List.mem_cons_of_mem _ List.mem_cons_self)
  have hy : ∀ {i}, dy = D.int i → y = .int i := fun h => S.isInt (f := fb) (by rw [← h]; exact List.mem_cons_self)
  have hy2 : ∀ {i}, dy = D.str i → y = .str ⟨i.toArray⟩ := fun h => S.isStr (f := fb) (by rw [← h]; exact List.mem_cons_self)
  have hy3 : ∀ {i}, dy = D.bl i → y = .bl i := fun h => S.isBl (f := fb) (by rw [← h]; exact List.mem_cons_self)
  have hy4 : dy = D.non → y = .non := fun h => S.isNon (f := fb) (by rw [← h]; exact List.mem_cons_self)
  unfold oEqS at e
  split at e
  · cases e; rw [hx rfl, hy rfl]; exact ⟨rfl, by simp⟩
  · cases e
    rename_i i j
    rw [hx2 rfl, hy2 rfl]
    refine ⟨rfl, ?_⟩
    by_cases h : i = j
    · subst h; simp
    · rw [decide_eq_false h, decide_eq_false]
      intro z
      exact h (str_inj (V.str.inj z))
  · cases e; rw [hx3 rfl, hy3 rfl]; exact ⟨rfl, by simp⟩
  · cases e; rw [hx4 rfl, hy4 rfl]; exact ⟨rfl, by simp⟩
  · cases e; rw [hx4 rfl, hy rfl]; exact ⟨rfl, by simp⟩
  · cases e; rw [hx rfl, hy4 rfl]; exact ⟨rfl, by simp⟩
  · cases e; rw [hx4 rfl, hy3 rfl]; exact ⟨rfl, by simp⟩
  · cases e; rw [hx3 rfl, hy4 rfl]; exact ⟨rfl, by simp⟩
  · cases e; rw [hx4 rfl, hy2 rfl]; exact ⟨rfl, by simp⟩
  · cases e; rw [hx2 rfl, hy4 rfl]; exact ⟨rfl, by simp⟩
  · cases e; rw [hx rfl, hy2 rfl]; exact ⟨rfl, by simp⟩
  · cases e; rw [hx2 rfl, hy rfl]; exact ⟨rfl, by simp⟩
  · cases e; rw [hx3 rfl, hy2 rfl]; exact ⟨rfl, by simp⟩
  · cases e; rw [hx2 rfl, hy3 rfl]; exact ⟨rfl, by simp⟩
  · cases e
theorem oEqD_ok {B : Bs} {ρ : En} {st : Sto} {stk : Stk} {σ : L2.St} {H J : Hp} {ι : Nat → Option Addr} {dx dy : D} {x y : V} {k : Bool} (S : SR G B ρ st ((fb, dy, y) :: (fa, dx, x) :: stk) σ H J ι) (e : oEqD st dx dy = some k) :
    ∃ p q, Dp G.K H x p ∧ Dp G.K H y q ∧ SeqAt.shaped p = true ∧ SeqAt.shaped q = true ∧ PyData.eqv p q = k := by
  unfold oEqD at e
  split at e
  · rename_i p q e1 e2
    by_cases h : (SeqAt.shaped p && SeqAt.shaped q) = true
    · rw [if_pos h] at e
      cases e
      rw [Bool.and_eq_true] at h
      exact ⟨p, q, S.dp (List.mem_cons_of_mem _ List.mem_cons_self) e1, S.dp List.mem_cons_self e2, h.1, h.2, rfl⟩
    · rw [if_neg h] at e; cases e
  · cases e
def rEqA (K : PySem.W.Frag) : R2 := fun x y H Q => rEq x y H Q ∨ rEqD K x y H Q
def rNeA (K : PySem.W.Frag) : R2 := fun x y H Q => rNe x y H Q ∨ rNeD K x y H Q
theorem hu_room {A : Around} {k : Nat} (hr : Room k A) : A.units + 64 < cLine := by have := hr.un; omega
theorem o_eq {k : Nat} (hr : Room k X.A) : OpR X (compareOp .Eq) (rEqA X.K) := OpR.or op_eq (op_eqD (hu_room hr))
theorem o_ne {k : Nat} (hr : Room k X.A) : OpR X (compareOp .NotEq) (rNeA X.K) := OpR.or op_ne (op_neD (hu_room hr))
theorem k_eq (hK : G.K = X.K) : Ok2V G fa fb (rEqA X.K) oEq := by
  intro B ρ st stk σ H J ι dx x dy y Q d S e k
  unfold oEq at e
  obtain ⟨c, e1, rfl⟩ := map_some e
  unfold oEqB orO at e1
  cases e2 : oEqS st dx dy with
  | some c' =>
    rw [e2] at e1
    cases (show some c' = some c from e1)
    obtain ⟨h1, h2⟩ := oEqS_ok S e2
    exact .inl ⟨h1, k _ (by rw [h2]; rfl)⟩
  | none =>
    rw [e2] at e1
    obtain ⟨p, q, h1, h2, h3, h4, h5⟩ := oEqD_ok S e1
    rw [hK] at h1 h2
    exact .inr ⟨p, q, h1, h2, h3, h4, k _ (by rw [h5]; rfl)⟩
theorem k_ne (hK : G.K = X.K) : Ok2V G fa fb (rNeA X.K) oNe := by
  intro B ρ st stk σ H J ι dx x dy y Q d S e k
  unfold oNe at e
  obtain ⟨c, e1, rfl⟩ := map_some e
  unfold oEqB orO at e1
  cases e2 : oEqS st dx dy with
  | some c' =>
    rw [e2] at e1
    cases (show some c' = some c from e1)
    obtain ⟨h1, h2⟩ := oEqS_ok S e2
    exact .inl ⟨h1, k _ (by rw [h2]; rfl)⟩
  | none =>
    rw [e2] at e1
    obtain ⟨p, q, h1, h2, h3, h4, h5⟩ := oEqD_ok S e1
    rw [hK] at h1 h2
    exact .inr ⟨p, q, h1, h2, h3, h4, k _ (by rw [h5]; rfl)⟩
end
end Sm

end

section
set_option Elab.async false
set_option linter.all false
set_option maxRecDepth 100000
set_option maxHeartbeats 1000000
namespace Sm
open PySem PySem.Spec PyProof.Rows L2
section
variable {X : Cx} {G : Gm} {W : WX} {f fa fb fc : Bool} {a b c e : Expr} {ma mb mc : ME} {pos : Pos}
/-! ### in -/
def oInS : Sto → D → D → Option Bool
  | _, .str [c], .str z => some (decide (c ∈ z))
  | _, _, _ => none
def flatD : D → Bool
  | .non => true
  | .bl _ => true
  | .int _ => true
  | .str _ => true
  | _ => false
def eqFD : D → D → Bool
  | .non, .non => true
  | .bl a, .bl b => a == b
  | .bl a, .int b => (if a then 1 else 0) == b
  | .int a, .bl b => a == (if b then 1 else 0)
  | .int a, .int b => a == b
  | .str a, .str b => decide (a = b)
  | _, _ => false
/-- in a list or tuple of flat things; in a list of data -/
def oInL : Sto → D → D → Option Bool := fun s x y => match vw s y with
  | some (.lst, l) => if flatD x && l.all flatD then some (l.any fun z => eqFD z x) else none
  | some (.tup, l) => if flatD x && l.all flatD then some (l.any fun z => eqFD z x) else none
  | _ => none
def oInD : Sto → D → D → Option Bool := fun s x y => match py s fuel x, py s fuel y with
  | some p, some (.list qs) => if (SeqAt.shaped p && SeqAt.shaped (.list qs)) = true then some (qs.any fun z => PyData.eqv z p) else none
  | _, _ => none
def oInT : Sto → D → D → Option Bool
  | _, .str x, .str z => some (!(Builtin.Str.occurrences ⟨z.toArray⟩ ⟨x.toArray⟩ 0 z.length 1).isEmpty)
  | _, _, _ => none
def oInB : Sto → D → D → Option Bool := orO oInS (orO oInT (orO oInL oInD))
def oIn : Sto → D → D → Option D := fun s x y => (oInB s x y).map D.bl
def oNotIn : Sto → D → D → Option D := fun s x y => (oInB s x y).map fun b => D.bl (!b)
def rInA (K : PySem.W.Frag) : R2 := fun x y H Q => (∃ (c : Nat) (z : Str), x = .str ⟨#[c]⟩ ∧ y = .str z ∧ Q (.bl (decide (c ∈ z.cps.toList))) H) ∨
  (∃ i j, x = .str i ∧ y = .str j ∧ Q (.bl (!(Builtin.Str.occurrences j i 0 j.length 1).isEmpty)) H) ∨ rIn K false x y H Q ∨ rInD K x y H Q
theorem hu_room1 {A : Around} {k : Nat} (hr : Room k A) : A.units + 65 < cLine := by have := hr.un; omega
theorem o_in {k : Nat} (hr : Room k X.A) : OpR X (compareOp .In) (rInA X.K) := OpR.or op_in_sign (OpR.or op_in_str (OpR.or op_in_seq (op_inD (hu_room1 hr))))
theorem Rv.flat {J : Hp} {ι : Nat → Option Addr} {d : D} {v : V} (r : Rv G J ι d v) (h : flatD d = true) : flatV v = true := by
  cases d with
  | non => cases (show v = .non from r); rfl
  | bl b => cases (show v = .bl b from r); rfl
  | int b => cases (show v = .int b from r); rfl
  | str b => cases (show v = .str _ from r); rfl
  | _ => cases h
theorem Rv.eqF {J : Hp} {ι : Nat → Option Addr} {d d' : D} {v v' : V} (r : Rv G J ι d v) (r' : Rv G J ι d' v') (h : flatD d = true) (h' : flatD d' = true) : eqV v v' = eqFD d d' := by
  cases d with
  | non =>
    cases (show v = .non from r)
    cases d' with
    | non => cases (show v' = .non from r'); rfl
    | bl b => cases (show v' = .bl b from r'); rfl
    | int b => cases (show v' = .int b from r'); rfl
    | str b => cases (show v' = .str _ from r'); rfl
    | _ => cases h'
  | bl a =>
    cases (show v = .bl a from r)
    cases d' with
    | non => cases (show v' = .non from r'); rfl
    | bl b => cases (show v' = .bl b from r'); rfl
    | int b => cases (show v' = .int b from r'); rfl
    | str b => cases (show v' = .str _ from r'); rfl
    | _ => cases h'
  | int a =>
    cases (show v = .int a from r)
    cases d' with
    | non => cases (show v' = .non from r'); rfl
    | bl b => cases (show v' = .bl b from r'); rfl
    | int b => cases (show v' = .int b from r'); rfl
    | str b => cases (show v' = .str _ from r'); rfl
    | _ => cases h'
  | str a =>
    cases (show v = .str _ from r)
    cases d' with
    | non => cases (show v' = .non from r'); rfl
    | bl b => cases (show v' = .bl b from r'); rfl
    | int b => cases (show v' = .int b from r'); rfl
    | str b =>
      cases (show v' = .str _ from r')
      show ((⟨a.toArray⟩ : Str) == ⟨b.toArray⟩) = decide (a = b)
      by_cases e : a = b
      · subst e; simp
      · rw [decide_eq_false e]
        exact beq_eq_false_iff_ne.mpr fun z => e (str_inj z)
    | _ => cases h'
  | _ => cases h
theorem RvL.flats {J : Hp} {ι : Nat → Option Addr} : ∀ {l : List D} {vs : List V}, RvL G J ι l vs → l.all flatD = true → vs.all flatV = true
  | [], _, r, _ => by cases r; rfl
  | d :: l, _, r, h => by
    obtain ⟨v, ws, rfl, q, t⟩ := r
    rw [List.all_cons, Bool.and_eq_true] at h ⊢
    exact ⟨q.flat h.1, RvL.flats t h.2⟩
theorem RvL.anyF {J : Hp} {ι : Nat → Option Addr} {x : D} {v : V} (r0 : Rv G J ι x v) (h0 : flatD x = true) : ∀ {l : List D} {vs : List V}, RvL G J ι l vs → l.all flatD = true → inV v vs = l.any fun z => eqFD z x
  | [], _, r, _ => by cases r; rfl
  | d :: l, _, r, h => by
    obtain ⟨w, ws, rfl, q, t⟩ := r
    rw [List.all_cons, Bool.and_eq_true] at h
    have ih := RvL.anyF r0 h0 t h.2
    unfold inV at ih ⊢
    rw [List.any_cons, List.any_cons, ih, q.eqF r0 h.1 h0]
theorem flat_firm {B : Bs} {ρ : En} {st : Sto} {stk : Stk} {σ : L2.St} {H J : Hp} {ι : Nat → Option Addr} {d : D} {v : V} (S : SR G B ρ st stk σ H J ι) (h : (f, d, v) ∈ stk) (hd : flatD d = true) : Rv G J ι d v :=
  S.flatAt h fun k l z => by rw [z] at hd; cases hd
theorem inB_ok {B : Bs} {ρ : En} {st : Sto} {stk : Stk} {σ : L2.St} {H J : Hp} {ι : Nat → Option Addr} {dx dy : D} {x y : V} {k : Bool} {Q : VK} (hK : G.K = X.K) (S : SR G B ρ st ((fb, dy, y) :: (fa, dx, x) :: stk) σ H J ι) (e : oInB st dx dy = some k) (q : Q (.bl k) H) : rInA X.K x y H Q := by
  have mx : (fa, dx, x) ∈ (fb, dy, y) :: (fa, dx, x) :: stk := List.mem_cons_of_mem _ List.mem_cons_self
  have my : (fb, dy, y) ∈ (fb, dy, y) :: (fa, dx, x) :: stk := List.mem_cons_self
  unfold oInB orO at e
  cases e1 : oInS st dx dy with
  | some k' =>
    rw [e1] at e
    cases (show some k' = some k from e)
    unfold oInS at e1
    split at e1
    · cases e1
      exact .inl ⟨_, _, S.isStr mx, S.isStr my, q⟩
    · cases e1
  | none =>
    rw [e1] at e
    cases e2 : oInT st dx dy with
    | some k' =>
      simp only [e2] at e
      cases e
      unfold oInT at e2
      split at e2
      · cases e2
        refine .inr (.inl ⟨_, _, S.isStr mx, S.isStr my, ?_⟩)
        rw [str_len]
        exact q
      · cases e2
    | none =>
      simp only [e2] at e
      cases e3 : oInL st dx dy with
      | some k' =>
        simp only [e3] at e
        cases e
        have core : ∀ (kd : Kd) (l : List D), (kd = .lst ∨ kd = .tup) → vw st dy = some (kd, l) → (if flatD dx && l.all flatD then some (l.any fun z => eqFD z dx) else none) = some k → rInA X.K x y H Q := by
          intro kd l hk hv e
          obtain ⟨a, vs, rfl, sq, r⟩ := S.view my hv
          by_cases hc : (flatD dx && l.all flatD) = true
          · rw [if_pos hc] at e
            cases e
            rw [Bool.and_eq_true] at hc
            refine .inr (.inr (.inl ⟨a, vs, rfl, ?_, (flat_firm S mx hc.1).flat hc.1, r.flats hc.2, ?_⟩))
            · rcases hk with rfl | rfl
              · exact .inl (SqL.of sq)
              · exact .inr (by rw [← hK]; exact sq)
            · show Q (.bl (inV x vs)) H
              rw [r.anyF (flat_firm S mx hc.1) hc.1 hc.2]
              exact q
          · rw [if_neg hc] at e; cases e
        unfold oInL at e3
        split at e3
        · rename_i l hv; exact core _ l (.inl rfl) hv e3
        · rename_i l hv; exact core _ l (.inr rfl) hv e3
        · cases e3
      | none =>
        simp only [e3] at e
        unfold oInD at e
        split at e
        · rename_i p qs h1 h2
          by_cases hc : (SeqAt.shaped p && SeqAt.shaped (.list qs)) = true
          · rw [if_pos hc] at e
            cases e
            rw [Bool.and_eq_true] at hc
            have d1 := S.dp mx h1
            have d2 := S.dp my h2
            rw [hK] at d1 d2
            exact .inr (.inr (.inr ⟨p, qs, d1, d2, hc.1, hc.2, q⟩))
          · rw [if_neg hc] at e; cases e
        · cases e
theorem k_in (hK : G.K = X.K) : Ok2V G fa fb (rInA X.K) oIn := by
  intro B ρ st stk σ H J ι dx x dy y Q d S e k
  obtain ⟨c, e1, rfl⟩ := map_some e
  exact inB_ok hK S e1 (k _ rfl)
/-- not in: the rules for in, turned -/
def rNotA (K : PySem.W.Frag) : R2 := fun x y H Q => (∃ (c : Nat) (z : Str), x = .str ⟨#[c]⟩ ∧ y = .str z ∧ Q (.bl (!decide (c ∈ z.cps.toList))) H) ∨
  (∃ i j, x = .str i ∧ y = .str j ∧ Q (.bl (!(!(Builtin.Str.occurrences j i 0 j.length 1).isEmpty))) H) ∨ rIn K true x y H Q
theorem o_notIn : OpR X (compareOp .NotIn) (rNotA X.K) := OpR.or op_notIn_sign (OpR.or op_notIn_str op_notIn_seq)
def oInB0 : Sto → D → D → Option Bool := orO oInS (orO oInT oInL)
def oNotIn0 : Sto → D → D → Option D := fun s x y => (oInB0 s x y).map fun b => D.bl (!b)
theorem k_notIn (hK : G.K = X.K) : Ok2V G fa fb (rNotA X.K) oNotIn0 := by
  intro B ρ st stk σ H J ι dx x dy y Q d S e0 q
  obtain ⟨k, e, rfl⟩ := map_some e0
  have q := q _ rfl
  have mx : (fa, dx, x) ∈ (fb, dy, y) :: (fa, dx, x) :: stk := List.mem_cons_of_mem _ List.mem_cons_self
  have my : (fb, dy, y) ∈ (fb, dy, y) :: (fa, dx, x) :: stk := List.mem_cons_self
  unfold oInB0 orO at e
  cases e1 : oInS st dx dy with
  | some k' =>
    rw [e1] at e
    cases (show some k' = some k from e)
    unfold oInS at e1
    split at e1
    · cases e1
      exact .inl ⟨_, _, S.isStr mx, S.isStr my, q⟩
    · cases e1
  | none =>
    rw [e1] at e
    cases e2 : oInT st dx dy with
    | some k' =>
      simp only [e2] at e
      cases e
      unfold oInT at e2
      split at e2
      · cases e2
        refine .inr (.inl ⟨_, _, S.isStr mx, S.isStr my, ?_⟩)
        rw [str_len]
        exact q
      · cases e2
    | none =>
      simp only [e2] at e
      have core : ∀ (kd : Kd) (l : List D), (kd = .lst ∨ kd = .tup) → vw st dy = some (kd, l) → (if flatD dx && l.all flatD then some (l.any fun z => eqFD z dx) else none) = some k → rNotA X.K x y H Q := by
        intro kd l hk hv e
        obtain ⟨a, vs, rfl, sq, r⟩ := S.view my hv
        by_cases hc : (flatD dx && l.all flatD) = true
        · rw [if_pos hc] at e
          cases e
          rw [Bool.and_eq_true] at hc
          refine .inr (.inr ⟨a, vs, rfl, ?_, (flat_firm S mx hc.1).flat hc.1, r.flats hc.2, ?_⟩)
          · rcases hk with rfl | rfl
            · exact .inl (SqL.of sq)
            · exact .inr (by rw [← hK]; exact sq)
          · show Q (.bl (!inV x vs)) H
            rw [r.anyF (flat_firm S mx hc.1) hc.1 hc.2]
            exact q
        · rw [if_neg hc] at e; cases e
      unfold oInL at e
      split at e
      · rename_i l hv; exact core _ l (.inl rfl) hv e
      · rename_i l hv; exact core _ l (.inr rfl) hv e
      · cases e

/-! ### subscripts, slices, displays -/
def oIx : Sto → D → D → Option D := fun s x y => match x, y with
  | .str z, .int i => if z.length ≤ lim then (atI z i).map fun c => .str [c] else none
  | x, .int i => match vw s x with
    | some (.lst, l) => atI l i
    | some (.tup, l) => atI l i
    | some (.scr, l) => atI l i
    | _ => none
  | _, _ => none
theorem atI_rl {J : Hp} {ι : Nat → Option Addr} {l : List D} {vs : List V} {i : Int} {d : D} (r : RvL G J ι l vs) (h : atI l i = some d) : ∃ v, atI vs i = some v ∧ Rv G J ι d v := by
  unfold atI at h ⊢
  rw [← r.length]
  cases e : ixN l.length i with
  | none => rw [e] at h; cases h
  | some j =>
    rw [e] at h
    exact r.get h
theorem k_ix (hK : G.K = X.K) : Ok2V G fa fb (rIx X.K) oIx := by
  intro B ρ st stk σ H J ι dx x dy y Q d S e k
  have mx : (fa, dx, x) ∈ (fb, dy, y) :: (fa, dx, x) :: stk := List.mem_cons_of_mem _ List.mem_cons_self
  unfold oIx at e
  split at e
  · rename_i z i
    by_cases hc : z.length ≤ lim
    · rw [if_pos hc] at e
      obtain ⟨c, e1, rfl⟩ := map_some e
      refine .inr (.inr ⟨_, i, c, S.isStr mx, S.isInt List.mem_cons_self, by rw [str_len]; exact lim_le hc, by simpa using e1, k _ rfl⟩)
    · rw [if_neg hc] at e; cases e
  · rename_i i _
    split at e
    · rename_i l hv
      obtain ⟨a, vs, rfl, sq, r⟩ := S.view mx hv
      obtain ⟨v, h1, h2⟩ := atI_rl r e
      exact .inl ⟨a, vs, i, v, rfl, S.isInt List.mem_cons_self, SqL.of sq, h1, k _ h2⟩
    · rename_i l hv
      obtain ⟨a, vs, rfl, sq, r⟩ := S.view mx hv
      obtain ⟨v, h1, h2⟩ := atI_rl r e
      exact .inr (.inl ⟨a, vs, i, v, rfl, S.isInt List.mem_cons_self, by rw [← hK]; exact sq, h1, k _ h2⟩)
    · rename_i l hv
      obtain ⟨a, vs, rfl, sq, r⟩ := S.view mx hv
      obtain ⟨v, h1, h2⟩ := atI_rl r e
      exact .inl ⟨a, vs, i, v, rfl, S.isInt List.mem_cons_self, by rw [← hK]; exact sq, h1, k _ h2⟩
    · cases e
  · cases e
theorem e_ix (hK : G.K = X.K) (ha : PE X a (tE G W fa ma)) (hb : PE X b (tE G W fb mb)) (hs : PlainIx b := by exact fun _ _ => rfl) : PE X (.Subscript a b pos) (tE G W f (m2V oIx ma mb)) :=
  (pe_ix ix_seq ha hb hs).weak (t_op2 (k_ix hK).ok)
/-- slices -/
def cut {α : Type} (xs : List α) (lo hi : Option Int) : List α := (xs.drop (HT.sIx xs.length 0 lo)).take (HT.sIx xs.length xs.length hi - HT.sIx xs.length 0 lo)
def oSl : Sto → D → Option Int → Option Int → Option Rr := fun s x lo hi => match x with
  | .str z => if z.length ≤ lim then some (.v (.str (cut z lo hi))) else none
  | .box .tup l => some (.v (.box .tup (cut l lo hi)))
  | x => match vw s x with
    | some (.lst, l) => some (.n .lst (cut l lo hi))
    | _ => none
abbrev MO := En → Sto → Res (Option Int)
def mNoPart : MO := fun _ st => .ok none st
def mPart (m : ME) : MO := fun ρ st => (m ρ st).bind fun d s => match d with
  | .int i => .ok (some i) s
  | _ => .bad
def mSl (a : ME) (lo hi : MO) : MR := fun ρ st => (a ρ st).bind fun x s => (lo ρ s).bind fun l s => (hi ρ s).bind fun h s => optR (oSl s x l h) s
def tO (G : Gm) (W : WX) (m : MO) : TO := fun σ H Q => ∃ B ρ st stk, SX G B ρ st stk σ H ∧ Post G B ρ stk σ W (m ρ st) fun o s => ∀ H', SX G B ρ s stk σ H' → Q o H'
theorem _root_.L2.PO.weak {x : Option Expr} {t t' : TO} (h : PO X x t) (k : ∀ σ H Q, t' σ H Q → t σ H Q) : PO X x t' := ⟨fun pins s σ H Q I q => h.run pins s σ H Q I (k σ H Q q)⟩
theorem p_none : PO X none (tO G W mNoPart) := by
  refine po_none.weak ?_
  rintro σ H Q ⟨B, ρ, st, stk, S, p⟩
  exact p H S
theorem p_some (h : PE X a (tE G W fa ma)) : PO X (some a) (tO G W (mPart ma)) := by
  refine (po_some h).weak ?_
  rintro σ H Q ⟨B, ρ, st, stk, S, p⟩
  refine ⟨B, ρ, st, stk, S, p.bind.imp fun d s q v H' S' => ?_⟩
  cases d with
  | int i =>
    obtain ⟨J, ι, S'⟩ := S'
    exact ⟨i, S'.isInt List.mem_cons_self, q H' ⟨J, ι, S'.sub subc⟩⟩
  | _ => exact q.elim
theorem cut_rl {J : Hp} {ι : Nat → Option Addr} {l : List D} {vs : List V} {lo hi : Option Int} (r : RvL G J ι l vs) : RvL G J ι (cut l lo hi) (cutV vs lo hi) := by
  unfold cut cutV
  rw [← r.length]
  exact (r.drop _).take _
theorem k_sl (hK : G.K = X.K) {B : Bs} {ρ : En} {st : Sto} {stk : Stk} {σ : L2.St} {H : Hp} {d : D} {x : V} {lo hi : Option Int} {Q : VK} {rr : Rr} (S : SX G B ρ st ((fa, d, x) :: stk) σ H) (e : oSl st d lo hi = some rr) (k : KR G B ρ stk σ Q rr st) :
    rSlL X.K x lo hi H Q ∨ rSlS x lo hi H Q ∨ rSlA X.K x lo hi H Q := by
  obtain ⟨J, ι, S⟩ := S
  unfold oSl at e
  split at e
  · rename_i z
    by_cases hc : z.length ≤ lim
    · rw [if_pos hc] at e
      cases e
      refine .inr (.inl ⟨_, S.isStr List.mem_cons_self, by rw [str_len]; exact lim_le hc, k _ H ⟨J, ι, (S.sub subc).push ?_⟩⟩)
      show V.str (cutS ⟨z.toArray⟩ lo hi) = .str ⟨(cut z lo hi).toArray⟩
      unfold cutS cut
      rw [str_len]
    · rw [if_neg hc] at e; cases e
  · rename_i l
    cases e
    obtain ⟨a, vs, rfl, sq, r⟩ := S.read List.mem_cons_self
    have sq' : SqT X.K H a vs := by rw [← hK]; exact sq
    have firm : Rv G J ι (.box .tup l) (.ref a) := by
      rcases S.sk _ List.mem_cons_self with o | ⟨_, j, k', l', e, z1, z2⟩
      · exact o
      · cases e
        obtain ⟨_, _, _, ow⟩ := S.own _ _ _ z1
        cases ow.mu
    refine .inr (.inr ⟨a, vs, rfl, sq', fun h => ?_, fun h p hp => ?_⟩)
    · refine k _ H ⟨J, ι, (S.sub subc).push ?_⟩
      have e : cut l lo hi = l := by
        unfold cut
        rw [r.length, h.1, h.2, List.drop_zero, Nat.sub_zero, ← r.length, List.take_length]
      rw [e]
      exact firm
    · exact k _ _ ((S.sub subc).newt hp (cut_rl r))
  · split at e
    · rename_i l hv
      cases e
      obtain ⟨a, vs, rfl, sq, r⟩ := S.view List.mem_cons_self hv
      exact .inl ⟨a, vs, rfl, SqL.of sq, fun p hp => k p _ H _ J ι (S.sub subc) hp rfl upd_same (cut_rl r)⟩
    · cases e
theorem e_slice {lo hi : Option Expr} {p2 : Pos} {ml mh : MO} (hK : G.K = X.K) (ha : PE X a (tE G W fa ma)) (hl : PO X lo (tO G W ml)) (hh : PO X hi (tO G W mh)) : PE X (.Subscript a (.Slice lo hi none p2) pos) (tR G W (mSl ma ml mh)) := by
  refine (pe_slice (SlR.or sl_list (SlR.or sl_str sl_tupA)) ha hl hh).weak ?_
  rintro σ H Q ⟨B, ρ, st, stk, S, p⟩
  refine ⟨B, ρ, st, stk, S, p.bind.imp fun d s1 p1 x H1 S1 => ⟨B, ρ, s1, _, S1, (p1.bind.more subc).imp fun l s2 p2 H2 S2 => ⟨B, ρ, s2, _, S2, (p2.bind.more subc).imp fun h s3 p3 H3 S3 => ?_⟩⟩⟩
  cases e : oSl s3 d l h with
  | none => rw [e] at p3; exact p3.elim
  | some rr => rw [e] at p3; exact k_sl hK S3 e p3
/-- (a, b, ..) -/
def mTup (m : MA) : ME := fun ρ st => (m ρ st).bind fun l s => if l.length ≤ lim then .ok (.box .tup l) s else .bad
def mLst (m : MA) : MR := fun ρ st => (m ρ st).bind fun l s => if l.length ≤ lim then .ok (.n .lst l) s else .bad
theorem e_tup {es : List Expr} {m : MA} {x1} (h : PA X es (tA G W m)) : PE X (.Tuple es x1 pos) (tE G W f (mTup m)) := by
  refine (pe_tup h).weak ?_
  rintro σ H Q ⟨B, ρ, st, stk, S, p⟩
  refine ⟨B, ρ, st, stk, S, p.bind.imp fun l s q vs H' hl S' => ?_⟩
  by_cases hc : l.length ≤ lim
  · rw [if_pos hc] at q
    obtain ⟨J, ι, S'⟩ := S'
    exact ⟨by rw [← hl]; exact lim_le hc, fun p hp => q _ _ ((S'.sub stkOf_sub).newt hp (stkOf_rl hl S'))⟩
  · rw [if_neg hc] at q; exact q.elim
theorem e_lst {es : List Expr} {m : MA} (h : PA X es (tA G W m)) : PE X (.List es pos) (tR G W (mLst m)) := by
  refine (pe_lst h).weak ?_
  rintro σ H Q ⟨B, ρ, st, stk, S, p⟩
  refine ⟨B, ρ, st, stk, S, p.bind.imp fun l s q vs H' hl S' => ?_⟩
  by_cases hc : l.length ≤ lim
  · rw [if_pos hc] at q
    obtain ⟨J, ι, S'⟩ := S'
    exact ⟨by rw [← hl]; exact lim_le hc, fun p hp => q p _ H' vs J ι (S'.sub stkOf_sub) hp rfl upd_same (stkOf_rl hl S')⟩
  · rw [if_neg hc] at q; exact q.elim
/-- a op b op' c -/
def mChain (o o' : Sto → D → D → Option D) (a b c : ME) : ME := fun ρ st => (a ρ st).bind fun x s => (b ρ s).bind fun y s => match o s x y with
  | some (.bl true) => (c ρ s).bind fun z s => optR (o' s y z) s
  | some (.bl false) => .ok (.bl false) s
  | _ => .bad
theorem t_chain {r r' : R2} {o o' : Sto → D → D → Option D} (h : Ok2V G fa fb r o) (h' : Ok2V G fb fc r' o') : ∀ σ H Q, tE G W f (mChain o o' ma mb mc) σ H Q → tChain r r' (tE G W fa ma) (tE G W fb mb) (tE G W fc mc) σ H Q := by
  rintro σ H Q ⟨B, ρ, st, stk, S, p⟩
  refine ⟨B, ρ, st, stk, S, p.bind.imp fun dx s1 p1 x H1 S1 => ⟨B, ρ, s1, _, S1, (p1.bind.more subc).imp fun dy s2 p2 y H2 S2 => ?_⟩⟩
  obtain ⟨J, ι, S2⟩ := S2
  cases e : o s2 dx dy with
  | none => simp only [e] at p2; exact p2.elim
  | some d =>
    refine h B ρ s2 stk σ H2 J ι dx x dy y _ d S2 e fun v rv => ?_
    cases d with
    | bl k =>
      cases (show v = .bl k from rv)
      refine ⟨k, rfl, ?_⟩
      cases k with
      | true =>
        simp only [e] at p2
        refine ⟨B, ρ, s2, _, ⟨J, ι, S2⟩, (p2.bind.more (fun x hx => List.mem_cons_of_mem _ (List.mem_cons_of_mem _ hx))).imp fun dz s3 p3 z H3 S3 => ?_⟩
        obtain ⟨J3, ι3, S3⟩ := S3
        cases e3 : o' s3 dy dz with
        | none => rw [e3] at p3; exact p3.elim
        | some d3 =>
          rw [e3] at p3
          have S4 : SR G B ρ s3 ((fc, dz, z) :: (fb, dy, y) :: stk) σ H3 J3 ι3 := S3.sub fun x hx => by
            simp only [List.mem_cons] at hx ⊢
            rcases hx with h | h | h
            · exact .inl h
            · exact .inr (.inl h)
            · exact .inr (.inr (.inr h))
          exact h' B ρ s3 stk σ H3 J3 ι3 dy y dz z _ d3 S4 e3 fun v r => p3 v H3 ⟨J3, ι3, ((S4.sub subc).sub subc).push r⟩
      | false =>
        simp only [e] at p2
        exact p2 _ H2 ⟨J, ι, ((S2.sub subc).sub subc).push rfl⟩
    | _ => simp only [e] at p2; exact p2.elim
theorem e_chain {op op' : CmpOp} {r r' : R2} {o o' : Sto → D → D → Option D} (ho : OpR X (compareOp op) r) (ho' : OpR X (compareOp op') r') (h : Ok2V G fa fb r o) (h' : Ok2V G fb fc r' o') (ha : PE X a (tE G W fa ma)) (hb : PE X b (tE G W fb mb)) (hc : PE X c (tE G W fc mc))
    (hm : lastMarks [op, op'] [b, c] = false := by with_unfolding_all rfl) : PE X (.Compare a [op, op'] [b, c] pos) (tE G W f (mChain o o' ma mb mc)) := (pe_chain ho ho' ha hb hc hm).weak (t_chain h h')
theorem c_chain {op op' : CmpOp} {r r' : R2} {o o' : Sto → D → D → Option D} (ho : OpR X (compareOp op) r) (ho' : OpR X (compareOp op') r') (h : Ok2V G fa fb r o) (h' : Ok2V G fb fc r' o') (ha : PE X a (tE G W fa ma)) (hb : PE X b (tE G W fb mb)) (hc : PE X c (tE G W fc mc))
    (hm : lastMarks [op, op'] [b, c] = false := by with_unfolding_all rfl) : PT X (.Compare a [op, op'] [b, c] pos) (tT G W (mTest (mChain o o' ma mb mc))) := by
  have h0 : PT X (.Compare a [op, op'] [b, c] pos) (tTest (tChain r r' (tE G W fa ma) (tE G W fb mb) (tE G W fc mc))) := pt_chain ho ho' ha hb hc hm
  exact t_test (f := true) (h0 := h0) (t_chain h h')
end
end Sm

end

section
set_option Elab.async false
set_option linter.all false
set_option maxRecDepth 100000
set_option maxHeartbeats 1000000
namespace Sm
open PySem PySem.Spec PyProof.Rows L2
/-- an iterator that gives these things, one after another -/
structure GoodIt (G : Gm) (Jt : It) (l : List D) (J0 : Hp) (ι0 : Nat → Option Addr) : Prop where
  stop : ∀ B ρ s stk σ H J ι, SR G B ρ s stk σ H J ι → Le J0 J → Jt.stop l.length H
  go : ∀ i B ρ s stk σ H J ι, i < l.length → SR G B ρ s stk σ H J ι → Le J0 J → Jt.go i H
  yld : ∀ i d B ρ s stk σ H J ι x H', l[i]? = some d → SR G B ρ s stk σ H J ι → Le J0 J → Li ι0 ι → Jt.yld i H x H' → ∃ J', Le J J' ∧ SR G B ρ s ((true, d, x) :: stk) σ H' J' ι
abbrev ML := En → Sto → Res (List D)
def tI (G : Gm) (W : WX) (src : ML) : TI := fun σ H R => ∃ B ρ st stk, SX G B ρ st stk σ H ∧ Post G B ρ stk σ W (src ρ st) fun l s => ∀ Jt H1 J ι, SR G B ρ s stk σ H1 J ι → GoodIt G Jt l J ι → R Jt H1
def sForG (src : ML) (T : D → En → Option En) (body : MS) : MS := fun ρ st => (src ρ st).toS ρ fun l s => forL T body l ρ s
section
variable {X : Cx} {G : Gm} {W : WX} {f fa fb : Bool} {tg e a b c : Expr} {ma mb me : ME} {mA : MA} {ms : MS} {mc : MT} {body : List Stmt} {pos : Pos} {js : List Nat} {T : D → En → Option En} {src : ML}
theorem s_for (hp : PassesOwn (model X.prog X.w) X.A X.env X.xe) (hc : X.calm = true) (he : PI X tg e (tI G W src)) (hg : PG X tg (tGp G js T)) (hb : PSs X body (tS G W ms)) (hs : ∀ x, foldedSetIterable e X.env x = pure x := by intro _; rfl) :
    PS X (.For tg e body [] pos) (tS G W (sForG src T ms)) := by
  refine (ps_for hp hc he hg hb hs).weak ?_
  rintro Z σ H ⟨B, ρ, st, stk, hB, hf, S, p⟩
  refine ⟨B, ρ, st, stk, S, toS_post p fun l s q Jt H1 J ι S1 g => ?_⟩
  refine ⟨fun i m σ' H' => i + m = l.length ∧ (∃ ρ s, SX G (B.at J ι) ρ s stk σ' H' ∧ PostS G (B.at J ι) stk W (forL T ms (l.drop i) ρ s) Z), ⟨l.length, by simp, ρ, s, ⟨J, ι, S1.rebase⟩, q.base S1⟩, ?_⟩
  rintro i m σ2 H2 ⟨hm, ρ2, s2, ⟨J2, ι2, S2⟩, q2⟩
  cases m with
  | zero =>
    obtain rfl : i = l.length := by omega
    rw [List.drop_length] at q2
    exact .inl ⟨g.stop _ _ _ _ _ _ _ _ S2 S2.ext.jj, q2 σ2 H2 ⟨J2, ι2, S2⟩⟩
  | succ m =>
    have hi : i < l.length := by omega
    obtain ⟨d, hd⟩ : ∃ d, l[i]? = some d := ⟨_, List.getElem?_eq_getElem hi⟩
    refine .inr ⟨g.go i _ _ _ _ _ _ _ _ hi S2 S2.ext.jj, fun σ3 H3 => ∃ ρ s, SX G (B.at J ι) ρ s stk σ3 H3 ∧ PostS G (B.at J ι) stk W (forL T ms (l.drop (i + 1)) ρ s) Z, fun σ3 H3 h => ⟨m, Nat.lt_succ_self m, by omega, h⟩, fun x H3 hy => ?_⟩
    obtain ⟨J3, _, S3⟩ := g.yld i d _ _ _ _ _ _ _ _ x H3 hd S2 S2.ext.jj S2.ext.ii hy
    rw [drop_cons hd] at q2
    exact for_turn (B := B.at J ι) hB hf ⟨J3, ι2, S3⟩ q2 fun ρ' s' σ' H' S' q' => ⟨ρ', s', S', q'⟩

/-! ### the sources -/
def lSeq (m : ME) : ML := fun ρ st => (m ρ st).bind fun d s => match d with
  | .box .lst l => .ok l s
  | .box .tup l => .ok l s
  | .str x => .ok (x.map fun c => .str [c]) s
  | _ => .bad
theorem SR.pushE {B : Bs} {ρ : En} {s : Sto} {stk : Stk} {σ : L2.St} {H J : Hp} {ι : Nat → Option Addr} {d : D} {v : V} (S : SR G B ρ s stk σ H J ι) (r : Rv G J ι d v) : ∃ J', Le J J' ∧ SR G B ρ s ((true, d, v) :: stk) σ H J' ι := ⟨J, Le.refl _, S.push r⟩
theorem good_list {J0 : Hp} {ι0 : Nat → Option Addr} {l : List D} {p : Addr} {vs : List V} (sq : J0 p = some (.lst vs)) (r : RvL G J0 ι0 l vs) : GoodIt G (Itl X.K p) l J0 ι0 where
  stop := fun B ρ s stk σ H J ι S h => ⟨vs, SqL.of (S.good.jh _ _ (h _ _ sq)), by rw [r.length]; exact Nat.le_refl _⟩
  go := fun i B ρ s stk σ H J ι hi S h => ⟨vs, vs[i]'(by rw [← r.length]; exact hi), SqL.of (S.good.jh _ _ (h _ _ sq)), List.getElem?_eq_getElem _⟩
  yld := fun i d B ρ s stk σ H J ι x H' hd S h hi hy => by
    obtain ⟨rfl, hx⟩ := hy
    have e := hx vs (SqL.of (S.good.jh _ _ (h _ _ sq)))
    obtain ⟨v, h1, h2⟩ := r.get hd
    rw [h1] at e
    cases e
    exact S.pushE (Rv.le h hi _ _ h2)
theorem good_tup {J0 : Hp} {ι0 : Nat → Option Addr} {l : List D} {p : Addr} {vs : List V} (sq : SqT X.K J0 p vs) (r : RvL G J0 ι0 l vs) : GoodIt G (Itt X.K p) l J0 ι0 where
  stop := fun B ρ s stk σ H J ι S h => ⟨vs, SqT_le S.good.jh (SqT_le h sq), by rw [r.length]; exact Nat.le_refl _⟩
  go := fun i B ρ s stk σ H J ι hi S h => ⟨vs, vs[i]'(by rw [← r.length]; exact hi), SqT_le S.good.jh (SqT_le h sq), List.getElem?_eq_getElem _⟩
  yld := fun i d B ρ s stk σ H J ι x H' hd S h hi hy => by
    obtain ⟨rfl, hx⟩ := hy
    have e := hx vs (SqT_le S.good.jh (SqT_le h sq))
    obtain ⟨v, h1, h2⟩ := r.get hd
    rw [h1] at e
    cases e
    exact S.pushE (Rv.le h hi _ _ h2)
theorem good_str {J0 : Hp} {ι0 : Nat → Option Addr} {z : List Nat} : GoodIt G (Its ⟨z.toArray⟩) (z.map fun c => .str [c]) J0 ι0 where
  stop := fun B ρ s stk σ H J ι S h => by show z.toArray.size ≤ _; simp
  go := fun i B ρ s stk σ H J ι hi S h => by show i < z.toArray.size; simpa using hi
  yld := fun i d B ρ s stk σ H J ι x H' hd S h hi hy => by
    obtain ⟨rfl, c, hc, rfl⟩ := hy
    have hc' : z[i]? = some c := by simpa using hc
    rw [List.getElem?_map, hc'] at hd
    cases hd
    exact S.pushE rfl
theorem good_rng {J0 : Hp} {ι0 : Nat → Option Addr} {lo : Int} {n : Nat} : GoodIt G (Itr lo n) (sRng lo n) J0 ι0 where
  stop := fun B ρ s stk σ H J ι S h => by show n ≤ _; unfold sRng; simp
  go := fun i B ρ s stk σ H J ι hi S h => by show i < n; unfold sRng at hi; simpa using hi
  yld := fun i d B ρ s stk σ H J ι x H' hd S h hi hy => by
    obtain ⟨rfl, rfl⟩ := hy
    have hn : i < n := by
      have := (List.getElem?_eq_some_iff.mp hd).1
      unfold sRng at this
      simpa using this
    unfold sRng at hd
    rw [List.getElem?_map, List.getElem?_range hn] at hd
    cases hd
    exact S.pushE rfl
/-- a list, a tuple, a text -/
theorem i_seq (hK : G.K = X.K) (he : PE X e (tE G W true me)) : PI X tg e (tI G W (lSeq me)) := by
  refine L2.PI.weak (PI.or (pi_list he) (PI.or (pi_tup he) (pi_str he))) ?_
  rintro σ H R ⟨B, ρ, st, stk, S, p⟩
  have p1 := p.bind
  cases em : me ρ st with
  | bad => rw [em] at p1; exact p1.elim
  | exc c l s =>
    rw [em] at p1
    refine .inl ⟨B, ρ, st, stk, S, ?_⟩
    rw [em]
    exact p1
  | ok d s =>
    rw [em] at p1
    cases d with
    | str z =>
      refine .inr (.inr ⟨B, ρ, st, stk, S, ?_⟩)
      rw [em]
      rintro v H1 ⟨J, ι, S1⟩
      exact ⟨_, S1.isStr List.mem_cons_self, p1 _ H1 J ι (S1.sub subc) good_str⟩
    | box k l =>
      cases k with
      | lst =>
        refine .inl ⟨B, ρ, st, stk, S, ?_⟩
        rw [em]
        rintro v H1 ⟨J, ι, S1⟩
        obtain ⟨p, vs, rfl, sq, r⟩ := S1.firm List.mem_cons_self
        exact ⟨p, rfl, ⟨vs, SqL.of (S1.good.jh _ _ sq)⟩, p1 _ H1 J ι (S1.sub subc) (good_list sq r)⟩
      | tup =>
        refine .inr (.inl ⟨B, ρ, st, stk, S, ?_⟩)
        rw [em]
        rintro v H1 ⟨J, ι, S1⟩
        obtain ⟨p, vs, rfl, sq, r⟩ := S1.firm List.mem_cons_self
        have sq : SqT G.K J p vs := sq
        rw [hK] at sq
        exact ⟨p, rfl, ⟨vs, SqT_le S1.good.jh sq⟩, p1 _ H1 J ι (S1.sub subc) (good_tup sq r)⟩
      | _ => exact p1.elim
    | _ => exact p1.elim
def inR (n : Int) : Bool := decide (-4611686018427387904 ≤ n) && decide (n < 4611686018427387904)
theorem inR_ok {n : Int} (h : inR n = true) : -(2 ^ 62) ≤ n ∧ n < 2 ^ 62 := by
  unfold inR at h
  rw [Bool.and_eq_true, decide_eq_true_eq, decide_eq_true_eq] at h
  have e : (2 : Int) ^ 62 = 4611686018427387904 := by simp
  rw [e]
  exact h
def lR1 (a : MA) : ML := fun ρ st => (a ρ st).bind fun l s => match l with
  | [.int n] => if inR n = true then .ok (sRng 0 n.toNat) s else .bad
  | _ => .bad
def lR2 (a : MA) : ML := fun ρ st => (a ρ st).bind fun l s => match l with
  | [.int i, .int j] => if (inR i && inR j) = true then .ok (sRng i (j - i).toNat) s else .bad
  | _ => .bad
theorem i_range1 {p0 p1 : Pos} (hm : X.mg "range" = none) (ha : PA X [a] (tA G W mA)) (hgl : Gl X "range" := by rfl) (hst : starEach [a] X.env = [(false, eval a X.env)] := by rfl) : PI X tg (.Call (.Name "range" p0) [a] [] p1) (tI G W (lR1 mA)) := by
  refine L2.PI.weak (pi_range1 hgl hm ha hst) ?_
  rintro σ H R ⟨B, ρ, st, stk, S, p⟩
  refine ⟨B, ρ, st, stk, S, p.bind.imp fun l s q vs H1 hl S1 => ?_⟩
  split at q
  · rename_i n
    obtain ⟨v, rfl⟩ : ∃ v, vs = [v] := by
      match vs, hl with
      | [v], _ => exact ⟨v, rfl⟩
    by_cases hn : inR n = true
    · rw [if_pos hn] at q
      obtain ⟨J, ι, S1⟩ := S1
      obtain rfl := S1.isInt (f := true) (i := n) (v := v) (by simp [stkOf])
      exact ⟨n, rfl, (inR_ok hn).1, (inR_ok hn).2, q _ H1 J ι (S1.sub stkOf_sub) good_rng⟩
    · rw [if_neg hn] at q; exact q.elim
  · exact q.elim
theorem i_range2 {p0 p1 : Pos} (hm : X.mg "range" = none) (ha : PA X [a, b] (tA G W mA)) (hgl : Gl X "range" := by rfl) (hst : starEach [a, b] X.env = [(false, eval a X.env), (false, eval b X.env)] := by rfl) (hst2 : starEach [b] X.env = [(false, eval b X.env)] := by rfl) :
    PI X tg (.Call (.Name "range" p0) [a, b] [] p1) (tI G W (lR2 mA)) := by
  refine L2.PI.weak (pi_range2 hgl hm ha hst hst2) ?_
  rintro σ H R ⟨B, ρ, st, stk, S, p⟩
  refine ⟨B, ρ, st, stk, S, p.bind.imp fun l s q vs H1 hl S1 => ?_⟩
  split at q
  · rename_i i j
    obtain ⟨v, w, rfl⟩ : ∃ v w, vs = [v, w] := by
      match vs, hl with
      | [v, w], _ => exact ⟨v, w, rfl⟩
    by_cases hn : (inR i && inR j) = true
    · rw [if_pos hn] at q
      obtain ⟨J, ι, S1⟩ := S1
      obtain rfl := S1.isInt (f := true) (i := i) (v := v) (by simp [stkOf])
      obtain rfl := S1.isInt (f := true) (i := j) (v := w) (by simp [stkOf])
      have hh := Bool.and_eq_true_iff.mp hn
      exact ⟨i, j, rfl, ⟨(inR_ok hh.1).1, (inR_ok hh.1).2, (inR_ok hh.2).1, (inR_ok hh.2).2⟩, q _ H1 J ι (S1.sub stkOf_sub) good_rng⟩
    · rw [if_neg hn] at q; exact q.elim
  · exact q.elim

/-! ### list comprehensions -/
def wipeE (ρ : En) : List Nat → En
  | [] => ρ
  | v :: vs => (wipeE ρ vs).set v .un
def lcL (T : D → En → Option En) (tt : MT) (te : ME) (ρ0 : En) : List D → Sto → Res (List D)
  | [], s => .ok [] s
  | d :: l, s => match T d ρ0 with
    | none => .bad
    | some ρ1 => (tt ρ1 s).bind fun k s1 => if k = true then (te ρ1 s1).bind fun y s2 => (lcL T tt te ρ0 l s2).bind fun ys s3 => .ok (y :: ys) s3 else lcL T tt te ρ0 l s1
def mLc (src : ML) (T : D → En → Option En) (vs : List Nat) (tt : MT) (te : ME) : MR := fun ρ st => (src ρ st).bind fun l s => if l.length ≤ lim then (match lcL T tt te (wipeE ρ vs) l s with
  | .ok ys s' => .ok (.n .lst ys) s'
  | _ => .bad) else .bad
def mYes : MT := fun _ st => .ok true st
abbrev W0 : WX := fun _ _ _ _ => False
theorem wipeE_len (ρ : En) : ∀ vs : List Nat, (wipeE ρ vs).length = ρ.length
  | [] => rfl
  | v :: vs => by unfold wipeE; rw [List.length_set, wipeE_len ρ vs]
theorem SR.wipe {B : Bs} {ρ : En} {s : Sto} {stk : Stk} {σ : L2.St} {H J : Hp} {ι : Nat → Option Addr} (S : SR G B ρ s stk σ H J ι) (hf : flagged stk) : ∀ vs : List Nat, SR G B (wipeE ρ vs) s stk (L2.wipe σ vs) H J ι
  | [] => S
  | v :: vs => by
    have ih := SR.wipe S hf vs
    unfold wipeE L2.wipe
    by_cases hi : v < (wipeE ρ vs).length
    · have ih2 := ih.drop v hf
      have nv : ∀ (j : Nat) (x : Sl), ((wipeE ρ vs).set v Sl.un)[j]? = some x → x ≠ .un → v ≠ j := fun j x h hx e => by
        subst e
        rw [List.getElem?_set_self hi] at h
        cases h
        exact hx rfl
      refine { good := ih2.good, ext := ih2.ext, len := by simpa using ih2.len, val := fun j d h => ?_, own := fun j k l h => ?_, od := fun i j k l k' l' w h1 h2 h3 h4 => ?_, sk := fun x hx => ?_ }
      · obtain ⟨w, h1, h2⟩ := ih2.val j d h
        exact ⟨w, by rw [List.getElem?_set_ne (nv j _ h (fun z => by cases z))]; exact h1, h2⟩
      · obtain ⟨a, ws, h1, h2⟩ := ih2.own j k l h
        exact ⟨a, ws, by rw [List.getElem?_set_ne (nv j _ h (fun z => by cases z))]; exact h1, h2⟩
      · rw [List.getElem?_set_ne (nv i _ h1 (fun z => by cases z))] at h3
        rw [List.getElem?_set_ne (nv j _ h2 (fun z => by cases z))] at h4
        exact ih2.od i j k l k' l' w h1 h2 h3 h4
      · rcases ih2.sk x hx with o | ⟨z, _⟩
        · exact .inl o
        · rw [hf x hx] at z; cases z
    · have hi' : (L2.wipe σ vs).length ≤ v := by rw [← ih.len]; omega
      rw [set_none_ge (by omega), set_none_ge hi']
      exact ih
theorem wipe_setAll {vs : List Nat} : ∀ {us : List (Nat × V)} {σ : L2.St}, (∀ u ∈ us, u.1 ∈ vs) → L2.wipe (setAll σ us) vs = L2.wipe σ vs
  | [], σ, _ => rfl
  | (j, v) :: us, σ, h => by
    show L2.wipe (setAll (σ.set j (some v)) us) vs = _
    rw [wipe_setAll (us := us) fun u hu => h u (List.mem_cons_of_mem _ hu)]
    have hj : j ∈ vs := h (j, v) List.mem_cons_self
    clear h us
    have key : ∀ (ws : List Nat), j ∈ ws → L2.wipe (σ.set j (some v)) ws = L2.wipe σ ws := by
      intro ws
      induction ws with
      | nil => intro h; cases h
      | cons w ws ih =>
        intro h
        unfold L2.wipe
        by_cases hw : j ∈ ws
        · rw [ih hw]
        · have e : j = w := by
            rcases List.mem_cons.mp h with e | e
            · exact e
            · exact absurd e hw
          subst e
          have key2 : ∀ zs : List Nat, j ∉ zs → (L2.wipe (σ.set j (some v)) zs).set j none = (L2.wipe σ zs).set j none := by
            intro zs
            induction zs with
            | nil => intro _; show (σ.set j (some v)).set j none = σ.set j none; rw [List.set_set]
            | cons z zs ih2 =>
              intro hz
              have h1 : j ≠ z := fun e => hz (by rw [e]; exact List.mem_cons_self)
              have h2 : j ∉ zs := fun e => hz (List.mem_cons_of_mem _ e)
              unfold L2.wipe
              rw [List.set_comm _ _ (fun e => h1 e.symm), ih2 h2, List.set_comm _ _ h1]
          exact key2 ws hw
    exact key vs hj
theorem wipe_wipe (σ : L2.St) (vs : List Nat) : L2.wipe (L2.wipe σ vs) vs = L2.wipe σ vs := by
  have key : ∀ (ws zs : List Nat), (∀ w ∈ ws, w ∈ zs) → L2.wipe (L2.wipe σ zs) ws = L2.wipe σ zs := by
    intro ws zs
    induction ws with
    | nil => intro _; rfl
    | cons w ws ih =>
      intro h
      rw [L2.wipe, ih fun x hx => h x (List.mem_cons_of_mem _ hx)]
      have hw := h w List.mem_cons_self
      clear ih h
      induction zs with
      | nil => cases hw
      | cons z zs ih2 =>
        unfold L2.wipe
        by_cases e : w = z
        · subst e; rw [List.set_set]
        · rw [List.set_comm _ _ (fun q => e q.symm), ih2]
          rcases List.mem_cons.mp hw with q | q
          · exact absurd q e
          · exact q
  exact key vs vs fun _ h => h
theorem pt_yes : PTs X [] (tT G W mYes) := by
  refine ⟨fun pins s σ H Q I h => pts_nil.run pins s σ H Q I ?_⟩
  obtain ⟨B, ρ, st, stk, S, p⟩ := h
  exact p H S
theorem pt_if (h : PT X c (tT G W mc)) : PTs X [c] (tT G W mc) := pts_one h
theorem SR.agree {B : Bs} {ρ : En} {s : Sto} {stk : Stk} {σ : L2.St} {H H' J : Hp} {ι : Nat → Option Addr} {p : Addr} (S : SR G B ρ s stk σ H J ι) (ag : ∀ b, b ≠ p → H' b = H b) (hJ : J p = none) (hi : ∀ n, ι n ≠ some p) (hB : B.H p = none)
    (ho : ∀ (j : Nat) (k : Kd) (l : List D), ρ[j]? = some (Sl.own k l) → σ[j]? ≠ some (some (.ref p))) : SR G B ρ s stk σ H' J ι := by
  have g := S.good
  have nJ : ∀ {a o}, J a = some o → a ≠ p := fun h e => by rw [e, hJ] at h; cases h
  have ni : ∀ {n a}, ι n = some a → a ≠ p := fun h e => hi _ (e ▸ h)
  have nB : ∀ {a o}, B.H a = some o → a ≠ p := fun h e => by rw [e, hB] at h; cases h
  refine { good := ⟨fun a o h => (ag a (nJ h)).trans (g.jh a o h), g.sep, g.inj, g.dom, g.out, fun n a h => let ⟨o, q⟩ := g.liv n a h; ⟨o, (ag a (ni h)).trans q⟩, fun n a k l h1 h2 => ?_⟩, ext := ⟨S.ext.jj, S.ext.ii, S.ext.jn, S.ext.ni, fun a o h1 h2 => (ag a (nB h1)).trans (S.ext.fr a o h1 h2), fun a h => ?_⟩, len := S.len, val := S.val, own := fun j k l h => ?_, od := S.od, sk := S.sk }
  · obtain ⟨m, vs, q, r⟩ := g.obj n a k l h1 h2
    exact ⟨m, vs, q.at m (ag a (ni h1)), r⟩
  · obtain ⟨o, h⟩ := h
    rw [ag a (nB h)]
    exact S.ext.lv a ⟨o, h⟩
  · obtain ⟨a, vs, e, o⟩ := S.own j k l h
    have ha : a ≠ p := fun z => ho j k l h (z ▸ e)
    exact ⟨a, vs, e, o.mu, o.sq.at o.mu (ag a ha), o.rl, o.nj, o.ni, o.fr⟩
/-- the state as its own ground -/
theorem SR.here {B : Bs} {ρ : En} {s : Sto} {stk : Stk} {σ : L2.St} {H J : Hp} {ι : Nat → Option Addr} (S : SR G B ρ s stk σ H J ι) : SR G ⟨J, ι, H, true⟩ ρ s stk σ H J ι :=
  { S with ext := Ext.refl, own := fun j k l h => let ⟨a, vs, e, o⟩ := S.own j k l h; ⟨a, vs, e, o.mu, o.sq, o.rl, o.nj, o.ni, fun z => by cases z⟩ }
theorem SR.back {B : Bs} {ρ ρ' : En} {s s' : Sto} {stk stk' : Stk} {σ σ' : L2.St} {H H' J J' : Hp} {ι ι' : Nat → Option Addr} (S0 : SR G B ρ s stk σ H J ι) (hB : B.lax = true) (S : SR G ⟨J, ι, H, true⟩ ρ' s' stk' σ' H' J' ι') : SR G B ρ' s' stk' σ' H' J' ι' :=
  { S with ext := S0.ext.trans S.ext, own := fun j k l h => let ⟨a, vs, e, o⟩ := S.own j k l h; ⟨a, vs, e, o.mu, o.sq, o.rl, o.nj, o.ni, fun z => by rw [hB] at z; cases z⟩ }
theorem RvL.snoc {J : Hp} {ι : Nat → Option Addr} {l : List D} {vs : List V} {d : D} {v : V} (r : RvL G J ι l vs) (q : Rv G J ι d v) : RvL G J ι (l ++ [d]) (vs ++ [v]) := r.append (RvL.one q)
/-- what holds between the turns of a comprehension -/
structure LcI (G : Gm) (B : Bs) (ρ : En) (σ : L2.St) (p : Addr) (s : Sto) (done : List D) (H J : Hp) (ι : Nat → Option Addr) (vs : List V) : Prop where
  S : SR G B ρ s [] σ H J ι
  at_ : H p = some (.lst vs)
  nJ : J p = none
  ni : ∀ n, ι n ≠ some p
  rl : RvL G J ι done vs
theorem lcL_len {ρ0 : En} : ∀ {l : List D} {s : Sto} {ys : List D} {s' : Sto}, lcL T mc me ρ0 l s = .ok ys s' → ys.length ≤ l.length
  | [], s, ys, s', h => by cases h; exact Nat.le_refl _
  | d :: l, s, ys, s', h => by
    unfold lcL at h
    cases e1 : T d ρ0 with
    | none => simp only [e1] at h; cases h
    | some ρ1 =>
      simp only [e1] at h
      cases e2 : mc ρ1 s with
      | bad => simp only [e2, Res.bind] at h; cases h
      | exc c m s1 => simp only [e2, Res.bind] at h; cases h
      | ok k s1 =>
        simp only [e2, Res.bind] at h
        cases k with
        | false =>
          have := lcL_len (l := l) (s := s1) (by simpa using h)
          simp only [List.length_cons]
          omega
        | true =>
          simp only [if_pos rfl] at h
          cases e3 : me ρ1 s1 with
          | bad => simp only [e3] at h; cases h
          | exc c m s1 => simp only [e3] at h; cases h
          | ok y s2 =>
            simp only [e3] at h
            cases e4 : lcL T mc me ρ0 l s2 with
            | bad => simp only [e4] at h; cases h
            | exc c m s1 => simp only [e4] at h; cases h
            | ok zs s3 =>
              simp only [e4] at h
              cases h
              have := lcL_len e4
              simp only [List.length_cons]
              omega
/-- the reading of a comprehension -/
theorem t_lc {own : List Nat} (hjs : ∀ j ∈ js, j ∈ own) : ∀ σ H Q, tR G W (mLc src T own mc me) σ H Q → tLc (tI G W src) (tGp G js T) (tT G W0 mc) (tE G W0 true me) own σ H Q := by
  rintro σ H Q ⟨B, ρ, st, stk, S, p⟩
  refine ⟨B, ρ, st, stk, S, p.bind.imp fun l s q Jt H1 J ι S1 g D0 hD => ?_⟩
  by_cases hl : l.length ≤ lim
  · rw [if_pos hl] at q
    cases el : lcL T mc me (wipeE ρ own) l s with
    | bad => rw [el] at q; exact q.elim
    | exc c m s' => rw [el] at q; exact q.elim
    | ok ys s' =>
      rw [el] at q
      have q : KR G B ρ stk σ Q (.n .lst ys) s' := q
      have lenys := lcL_len el
      have S2 : SR G ⟨J, ι, H1, true⟩ (wipeE ρ own) s [] (L2.wipe σ own) H1 J ι := ((S1.sub (stk' := []) fun x hx => by cases hx).wipe (fun x hx => by cases hx) own).here
      have now : ∀ (j : Nat) (k : Kd) (l : List D), (wipeE ρ own)[j]? = some (Sl.own k l) → (L2.wipe σ own)[j]? ≠ some (some (.ref D0)) := fun j k l h e => by
        obtain ⟨a, vs, e1, o⟩ := S2.own j k l h
        rw [e] at e1
        cases e1
        obtain ⟨u, hu⟩ := o.sq.some o.mu
        rw [hu] at hD; cases hD
      refine ⟨fun i m H' => i + m = l.length ∧ ∃ s1 done vs rest J2 ι2, LcI G ⟨J, ι, H1, true⟩ (wipeE ρ own) (L2.wipe σ own) D0 s1 done H' J2 ι2 vs ∧ done.length ≤ i ∧ lcL T mc me (wipeE ρ own) (l.drop i) s1 = .ok rest s' ∧ done ++ rest = ys, ?_, ?_⟩
      · refine ⟨l.length, by simp, s, [], [], ys, J, ι, ⟨S2.newq hD, upd_same, S1.freshJ hD, S1.freshι hD, rfl⟩, Nat.zero_le _, by simpa using el, rfl⟩
      · rintro i m H2 ⟨hm, s1, done, vs, rest, J2, ι2, I, hdn, e1, e2⟩
        cases m with
        | zero =>
          obtain rfl : i = l.length := by omega
          rw [List.drop_length] at e1
          cases e1
          rw [List.append_nil] at e2
          subst e2
          refine .inl ⟨g.stop _ _ _ _ _ _ _ _ I.S I.S.ext.jj, ?_⟩
          have ag : ∀ b, b ≠ D0 → (fun b => if b = D0 then (none : Option HO) else H2 b) b = H2 b := fun b hb => if_neg hb
          have S3 := I.S.agree ag I.nJ I.ni hD now
          have S4 := S1.call S3.ext S3.good
          have eH : upd (fun b => if b = D0 then (none : Option HO) else H2 b) D0 (.lst vs) = H2 := by
            funext b
            by_cases hb : b = D0
            · subst hb; rw [upd_same, I.at_]
            · rw [upd_ne hb]; exact if_neg hb
          have fin := q D0 (.lst vs) _ vs J2 ι2 S4 (if_pos rfl) rfl upd_same I.rl
          rw [eH] at fin
          exact fin
        | succ m =>
          have hi : i < l.length := by omega
          obtain ⟨d, hd⟩ : ∃ d, l[i]? = some d := ⟨_, List.getElem?_eq_getElem hi⟩
          refine .inr ⟨g.go i _ _ _ _ _ _ _ _ hi I.S I.S.ext.jj, fun H3 => ∃ s1 done vs rest J2 ι2, LcI G ⟨J, ι, H1, true⟩ (wipeE ρ own) (L2.wipe σ own) D0 s1 done H3 J2 ι2 vs ∧ done.length ≤ i + 1 ∧ lcL T mc me (wipeE ρ own) (l.drop (i + 1)) s1 = .ok rest s' ∧ done ++ rest = ys,
            fun H3 h => ⟨m, Nat.lt_succ_self m, by omega, h⟩, fun x H3 hy => ?_⟩
          obtain ⟨J3, lj3, S3⟩ := g.yld i d _ _ _ _ _ _ _ _ x H3 hd I.S.here I.S.ext.jj I.S.ext.ii hy
          rw [drop_cons hd] at e1
          unfold lcL at e1
          cases eT : T d (wipeE ρ own) with
          | none => simp only [eT] at e1; cases e1
          | some ρ1 =>
            simp only [eT] at e1
            have w0 : L2.wipe (L2.wipe σ own) own = L2.wipe σ own := wipe_wipe σ own
            refine ⟨⟨J2, ι2, H2, true⟩, wipeE ρ own, s1, [], d, ρ1, (fun x hx => by cases hx), ⟨J3, ι2, S3⟩, eT, fun us hus S4 => ⟨?_, ⟨⟨J2, ι2, H2, true⟩, ρ1, s1, [], S4, ?_⟩⟩⟩
            · exact (wipe_setAll fun u hu => hjs _ (by rw [← hus]; exact List.mem_map_of_mem hu)).trans w0
            · -- from a state of the block back to the ground
              have ret : ∀ {s4 σ4 ρ4 stk4 H4 J4 ι4}, SR G ⟨J2, ι2, H2, true⟩ ρ4 s4 stk4 σ4 H4 J4 ι4 → LcI G ⟨J, ι, H1, true⟩ (wipeE ρ own) (L2.wipe σ own) D0 s4 done H4 J4 ι4 vs := by
                intro s4 σ4 ρ4 stk4 H4 J4 ι4 S5
                exact ⟨I.S.call S5.ext S5.good, S5.ext.fr _ _ I.at_ I.ni, S5.ext.jn _ _ I.nJ I.at_ I.ni, S5.ext.key _ _ I.at_ I.ni, RvL.le S5.ext.jj S5.ext.ii _ _ I.rl⟩
              cases e3 : mc ρ1 s1 with
              | bad => simp only [e3, Res.bind] at e1; cases e1
              | exc c m s4 => simp only [e3, Res.bind] at e1; cases e1
              | ok k s4 =>
                simp only [e3, Res.bind] at e1
                rintro H4 ⟨J4, ι4, S5⟩
                cases k with
                | false =>
                  exact ⟨s4, done, vs, rest, J4, ι4, ret S5, by omega, by simpa using e1, e2⟩
                | true =>
                  simp only [if_pos rfl] at e1
                  show tE G W0 true me _ H4 _
                  refine ⟨⟨J2, ι2, H2, true⟩, ρ1, s4, [], ⟨J4, ι4, S5⟩, ?_⟩
                  cases e4 : me ρ1 s4 with
                  | bad => simp only [e4] at e1; cases e1
                  | exc c m s5 => simp only [e4] at e1; cases e1
                  | ok y s5 =>
                    simp only [e4] at e1
                    rintro v H5 ⟨J5, ι5, S6⟩
                    cases e5 : lcL T mc me (wipeE ρ own) (l.drop (i + 1)) s5 with
                    | bad => simp only [e5] at e1; cases e1
                    | exc c m s5 => simp only [e5] at e1; cases e1
                    | ok zs s6 =>
                      simp only [e5] at e1
                      cases e1
                      have I6 := ret S6
                      have hvl : vs.length < lim := by
                        rw [← I.rl.length]
                        omega
                      refine ⟨vs, I6.at_, lim_lt hvl, s5, done ++ [y], vs ++ [v], zs, J5, ι5, ⟨I6.S.agree (fun b hb => upd_ne hb) I6.nJ I6.ni hD now, upd_same, I6.nJ, I6.ni, I6.rl.snoc (S6.firm List.mem_cons_self)⟩, by simp; omega, e5, by rw [← e2]; simp⟩
  · rw [if_neg hl] at q; exact q.elim
theorem e_lc {scope : Scope} {own : List (Str × Nat)} {ifs : List Expr} (hc : X.calm = true) (hN : X.N.Nodup) (hi : PI X tg e (tI G W src)) (ok : BlkOk X.N X.env.scope scope own) (hjs : ∀ j ∈ js, j ∈ own.map (·.2))
    (hg : ∀ (s : Shared) (H : Hp) (C : Addr) (cl : List (Str × Addr)) (fp : List Addr), PG (X.blk s H scope (compEnvC scope cl C X.env) fp) tg (tGp G js T)) (ht : ∀ (s : Shared) (H : Hp) (C : Addr) (cl : List (Str × Addr)) (fp : List Addr), PTs (X.blk s H scope (compEnvC scope cl C X.env) fp) ifs (tT G W0 mc))
    (he : ∀ (s : Shared) (H : Hp) (C : Addr) (cl : List (Str × Addr)) (fp : List Addr), PE (X.blk s H scope (compEnvC scope cl C X.env) fp) a (tE G W0 true me)) (hs : ∀ x, foldedSetIterable e X.env x = pure x := by intro _; rfl) :
    PE X (.ListComp a [⟨tg, e, ifs, 0⟩] scope pos) (tR G W (mLc src T (own.map (·.2)) mc me)) :=
  (pe_lc hc hN hi ok hg ht he hs).weak (t_lc hjs)
/-- y = [..], on one line -/
theorem s_setLc (i : Nat) {y : Str} {py spos : Pos} {scope : Scope} {own : List (Str × Nat)} {ifs : List Expr} (hc : X.calm = true) (hN : X.N.Nodup) (hi : PI X tg e (tI G W src)) (ok : BlkOk X.N X.env.scope scope own) (hjs : ∀ j ∈ js, j ∈ own.map (·.2))
    (hg : ∀ (s : Shared) (H : Hp) (C : Addr) (cl : List (Str × Addr)) (fp : List Addr), PG (X.blk s H scope (compEnvC scope cl C X.env) fp) tg (tGp G js T)) (ht : ∀ (s : Shared) (H : Hp) (C : Addr) (cl : List (Str × Addr)) (fp : List Addr), PTs (X.blk s H scope (compEnvC scope cl C X.env) fp) ifs (tT G W0 mc))
    (he : ∀ (s : Shared) (H : Hp) (C : Addr) (cl : List (Str × Addr)) (fp : List Addr), PE (X.blk s H scope (compEnvC scope cl C X.env) fp) a (tE G W0 true me)) (hs : ∀ x, foldedSetIterable e X.env x = pure x := by intro _; rfl)
    (hy : X.N[i]? = some y := by rfl) (hyl : X.env.scope.names.lookup y = some .local := by rfl) (hsw : swapsWith (.ListComp a [⟨tg, e, ifs, 0⟩] scope pos) (some (.Name y py)) spos.line X.env = pure true := by exact sw_true rfl rfl rfl (by decide +kernel)) :
    PS X (.Assign [.Name y py] (.ListComp a [⟨tg, e, ifs, 0⟩] scope pos) spos) (tS G W (sAsgO i (mLc src T (own.map (·.2)) mc me))) := by
  refine (ps_setLc hc hN hy hyl hsw hi ok hg ht he hs).weak ?_
  rintro Z σ H ⟨B, ρ, st, stk, hB, hf, S, p⟩
  refine t_lc hjs σ H _ ⟨B, ρ, st, stk, S, toS_post p fun r s q => ?_⟩
  cases r with
  | v d =>
    rintro v H' ⟨J, ι, S'⟩
    exact q (σ.set i (some v)) H' ⟨J, ι, (S'.sub subc).put i (S'.firm List.mem_cons_self) hf⟩
  | n k l =>
    intro p o H1 vs J ι S1 hp hm hq hr
    have q' : PostS G B stk W (if i < ρ.length then RS.nx (ρ.set i (.own k l)) s else .bad) Z := q
    by_cases hi : i < ρ.length
    · rw [if_pos hi] at q'
      exact q' (σ.set i (some (.ref p))) (upd H1 p o) ⟨J, ι, S1.putown i hp hm hq hr hi hf⟩
    · rw [if_neg hi] at q'
      exact q'.elim
end
end Sm

end

section
set_option Elab.async false
set_option linter.all false
set_option maxRecDepth 100000
set_option maxHeartbeats 1000000
namespace Sm
open PySem PySem.Spec PyProof.Rows L2
section
variable {X : Cx} {G : Gm} {W : WX} {f fa fb fc : Bool} {a b c e o : Expr} {ma mb mc : ME} {pos p apos : Pos} {x : Str} {id T : String} {r : List V → Hp → VK → Prop}
def OkB1 (G : Gm) (fa : Bool) (r : List V → Hp → VK → Prop) (o : Sto → D → Option Rr) : Prop := ∀ B ρ st stk σ H J ι dx x Q rr, SR G B ρ st ((fa, dx, x) :: stk) σ H J ι → o st dx = some rr → KR G B ρ stk σ Q rr st → r [x] H Q
def OkB2 (G : Gm) (fa fb : Bool) (r : List V → Hp → VK → Prop) (o : Sto → D → D → Option Rr) : Prop := ∀ B ρ st stk σ H J ι dx x dy y Q rr, SR G B ρ st ((fb, dy, y) :: (fa, dx, x) :: stk) σ H J ι → o st dx dy = some rr → KR G B ρ stk σ Q rr st → r [x, y] H Q
theorem t_b1 {g : Sto → D → Option Rr} (hk : OkB1 G fa r g) : ∀ σ H Q, tR G W (m1R g ma) σ H Q → tCB r (tCons (tE G W fa ma) tNil) σ H Q := by
  rintro σ H Q ⟨B, ρ, st, stk, S, p⟩
  refine ⟨B, ρ, st, stk, S, p.bind.imp fun dx s1 p1 x H1 ⟨J, ι, S1⟩ => ?_⟩
  cases e : g s1 dx with
  | none => rw [e] at p1; exact p1.elim
  | some rr => rw [e] at p1; exact hk B ρ s1 stk σ H1 J ι dx x Q rr S1 e p1
theorem t_b2 {g : Sto → D → D → Option Rr} (hk : OkB2 G fa fb r g) : ∀ σ H Q, tR G W (m2R g ma mb) σ H Q → tCB r (tCons (tE G W fa ma) (tCons (tE G W fb mb) tNil)) σ H Q := by
  rintro σ H Q ⟨B, ρ, st, stk, S, p⟩
  refine ⟨B, ρ, st, stk, S, p.bind.imp fun dx s1 p1 x H1 S1 => ⟨B, ρ, s1, _, S1, (p1.bind.more subc).imp fun dy s2 p2 y H2 ⟨J, ι, S2⟩ => ?_⟩⟩
  cases e : g s2 dx dy with
  | none => rw [e] at p2; exact p2.elim
  | some rr => rw [e] at p2; exact hk B ρ s2 stk σ H2 J ι dx x dy y Q rr S2 e p2
theorem e_b1 {g : Sto → D → Option Rr} (hc : CallR X (.builtin id) r) (hk : OkB1 G fa r g) (hm : X.mg x = none) (hv : bootBuiltins x = some (.builtin id)) (ha : PE X a (tE G W fa ma)) (hg : Gl X x := by rfl) (hn : x ≠ "__name__" := by decide) (hd : (x == ("__debug__" : Str)) = false := by decide)
    (he : starEach [a] X.env = (false, eval a X.env) :: starEach [] X.env := by rfl) : PE X (.Call (.Name x p) [a] [] pos) (tR G W (m1R g ma)) := (pe_callB hc hg hm hv (pa_cons ha pa_nil he) hn hd he).weak (t_b1 hk)
theorem e_t1 {g : Sto → D → Option Rr} (hc : CallR X (.type T) r) (hk : OkB1 G fa r g) (hm : X.mg x = none) (hv : bootBuiltins x = some (.type T)) (ha : PE X a (tE G W fa ma)) (hg : Gl X x := by rfl) (hn : x ≠ "__name__" := by decide) (hd : (x == ("__debug__" : Str)) = false := by decide)
    (he : starEach [a] X.env = (false, eval a X.env) :: starEach [] X.env := by rfl) : PE X (.Call (.Name x p) [a] [] pos) (tR G W (m1R g ma)) := (pe_callTy hc hg hm hv (pa_cons ha pa_nil he) hn hd he).weak (t_b1 hk)
theorem e_b2 {g : Sto → D → D → Option Rr} (hc : CallR X (.builtin id) r) (hk : OkB2 G fa fb r g) (hm : X.mg x = none) (hv : bootBuiltins x = some (.builtin id)) (ha : PE X a (tE G W fa ma)) (hb : PE X b (tE G W fb mb)) (hg : Gl X x := by rfl) (hn : x ≠ "__name__" := by decide) (hd : (x == ("__debug__" : Str)) = false := by decide)
    (he : starEach [a, b] X.env = (false, eval a X.env) :: starEach [b] X.env := by rfl) (he2 : starEach [b] X.env = (false, eval b X.env) :: starEach [] X.env := by rfl) (hpl : (backTo pos (starEach [b] X.env)).any (·.1) = false := by rfl) :
    PE X (.Call (.Name x p) [a, b] [] pos) (tR G W (m2R g ma mb)) := (pe_callB hc hg hm hv (pa_cons ha (pa_cons hb pa_nil he2) he) hn hd he hpl).weak (t_b2 hk)
theorem OkB1.or {r r' : List V → Hp → VK → Prop} {g g' : Sto → D → Option Rr} (h : OkB1 G fa r g) (h' : OkB1 G fa r' g') : OkB1 G fa (fun xs H Q => r xs H Q ∨ r' xs H Q) (fun s x => match g s x with
    | some rr => some rr
    | none => g' s x) := by
  intro B ρ st stk σ H J ι dx x Q rr S e k
  cases e1 : g st dx with
  | some rr' => simp only [e1] at e; cases e; exact .inl (h B ρ st stk σ H J ι dx x Q rr S e1 k)
  | none => simp only [e1] at e; exact .inr (h' B ρ st stk σ H J ι dx x Q rr S e k)
/-- a value is told -/
theorem KR.val {B : Bs} {ρ : En} {st : Sto} {stk : Stk} {σ : L2.St} {H J : Hp} {ι : Nat → Option Addr} {Q : VK} {d : D} {v : V} {y : Bool × D × V} (S : SR G B ρ st (y :: stk) σ H J ι) (k : KR G B ρ stk σ Q (.v d) st) (r : Rv G J ι d v) : Q v H := k v H ⟨J, ι, (S.sub subc).push r⟩
theorem KR.val2 {B : Bs} {ρ : En} {st : Sto} {stk : Stk} {σ : L2.St} {H J : Hp} {ι : Nat → Option Addr} {Q : VK} {d : D} {v : V} {y z : Bool × D × V} (S : SR G B ρ st (y :: z :: stk) σ H J ι) (k : KR G B ρ stk σ Q (.v d) st) (r : Rv G J ι d v) : Q v H := k v H ⟨J, ι, ((S.sub subc).sub subc).push r⟩

/-! ### len -/
def oLen : Sto → D → Option Rr := fun s x => match x with
  | .str z => if z.length ≤ lim then some (.v (.int z.length)) else none
  | x => match vw s x with
    | some (.lst, l) => some (.v (.int l.length))
    | some (.tup, l) => some (.v (.int l.length))
    | some (.scr, l) => some (.v (.int l.length))
    | _ => none
theorem k_len (hK : G.K = X.K) : OkB1 G fa (fun xs H Q => ∃ x n, xs = [x] ∧ LenV X.K x H n ∧ Q (.int n) H) oLen := by
  intro B ρ st stk σ H J ι dx x Q rr S e k
  unfold oLen at e
  split at e
  · rename_i z
    by_cases hc : z.length ≤ lim
    · rw [if_pos hc] at e
      cases e
      obtain rfl := S.isStr List.mem_cons_self
      exact ⟨_, z.length, rfl, ⟨by rw [str_len]; exact lim_le hc, (str_len z).symm⟩, k.val S rfl⟩
    · rw [if_neg hc] at e; cases e
  · split at e
    · rename_i l hv
      cases e
      obtain ⟨a, vs, rfl, sq, r⟩ := S.view List.mem_cons_self hv
      exact ⟨_, l.length, rfl, .inl ⟨vs, SqL.of sq, r.length⟩, k.val S rfl⟩
    · rename_i l hv
      cases e
      obtain ⟨a, vs, rfl, sq, r⟩ := S.view List.mem_cons_self hv
      exact ⟨_, l.length, rfl, .inr ⟨vs, by rw [← hK]; exact sq, r.length⟩, k.val S rfl⟩
    · rename_i l hv
      cases e
      obtain ⟨a, vs, rfl, sq, r⟩ := S.view List.mem_cons_self hv
      exact ⟨_, l.length, rfl, .inl ⟨vs, by rw [← hK]; exact sq, r.length⟩, k.val S rfl⟩
    · cases e
/-! ### max, min of two; int; str; all; sum -/
def oMax2 : Sto → D → D → Option Rr
  | _, .int i, .int j => some (.v (.int (if j > i then j else i)))
  | _, _, _ => none
def oMin2 : Sto → D → D → Option Rr
  | _, .int i, .int j => some (.v (.int (if j < i then j else i)))
  | _, _, _ => none
theorem k_max2 : OkB2 G fa fb (fun xs H Q => ∃ i j, xs = [.int i, .int j] ∧ Q (.int (if j > i then j else i)) H) oMax2 := by
  intro B ρ st stk σ H J ι dx x dy y Q rr S e k
  unfold oMax2 at e
  split at e
  · cases e
    obtain rfl := S.isInt (f := fa) (v := x) (List.mem_cons_of_mem _ List.mem_cons_self)
    obtain rfl := S.isInt (f := fb) (v := y) List.mem_cons_self
    exact ⟨_, _, rfl, k.val2 S rfl⟩
  · cases e
theorem k_min2 : OkB2 G fa fb (fun xs H Q => ∃ i j, xs = [.int i, .int j] ∧ Q (.int (if j < i then j else i)) H) oMin2 := by
  intro B ρ st stk σ H J ι dx x dy y Q rr S e k
  unfold oMin2 at e
  split at e
  · cases e
    obtain rfl := S.isInt (f := fa) (v := x) (List.mem_cons_of_mem _ List.mem_cons_self)
    obtain rfl := S.isInt (f := fb) (v := y) List.mem_cons_self
    exact ⟨_, _, rfl, k.val2 S rfl⟩
  · cases e
def oInt1 : Sto → D → Option Rr
  | _, .int i => some (.v (.int i))
  | _, .bl k => some (.v (.int (if k then 1 else 0)))
  | _, .str z => if z.length ≤ 640 then (PySem.intText? ⟨z.toArray⟩).map fun n => .v (.int n) else none
  | _, _ => none
theorem k_int1 : OkB1 G fa (fun xs H Q => ((∃ i, xs = [.int i] ∧ Q (.int i) H) ∨ ∃ k, xs = [.bl k] ∧ Q (.int (if k then 1 else 0)) H) ∨ (∃ a n, xs = [.str a] ∧ PySem.intText? a = some n ∧ a.length ≤ 640 ∧ Q (.int n) H)) oInt1 := by
  intro B ρ st stk σ H J ι dx x Q rr S e k
  unfold oInt1 at e
  split at e
  · cases e
    obtain rfl := S.isInt List.mem_cons_self
    exact .inl (.inl ⟨_, rfl, k.val S rfl⟩)
  · cases e
    obtain rfl := S.isBl List.mem_cons_self
    exact .inl (.inr ⟨_, rfl, k.val S rfl⟩)
  · rename_i z
    by_cases hc : z.length ≤ 640
    · rw [if_pos hc] at e
      obtain ⟨n, e1, rfl⟩ := map_some e
      obtain rfl := S.isStr List.mem_cons_self
      exact .inr ⟨_, n, rfl, e1, by rw [str_len]; exact hc, k.val S rfl⟩
    · rw [if_neg hc] at e; cases e
  · cases e
def bigI (i : Int) : Bool := decide (i.natAbs.log2 < 1920)
def txt (s : Str) : List Nat := s.cps.toList
theorem txt_str (s : Str) : (⟨(txt s).toArray⟩ : Str) = s := by unfold txt; simp
theorem rv_txt {J : Hp} {ι : Nat → Option Addr} {s : Str} : Rv G J ι (.str (txt s)) (.str s) := by show V.str s = .str ⟨(txt s).toArray⟩; rw [txt_str]
def oStr1 : Sto → D → Option Rr
  | _, .int i => if bigI i = true then some (.v (.str (txt (toString i)))) else none
  | _, .str z => some (.v (.str z))
  | _, _ => none
theorem k_str1 : OkB1 G fa (fun xs H Q => (∃ i, xs = [.int i] ∧ i.natAbs.log2 < 1920 ∧ Q (.str (toString i)) H) ∨ (∃ a, xs = [.str a] ∧ Q (.str a) H)) oStr1 := by
  intro B ρ st stk σ H J ι dx x Q rr S e k
  unfold oStr1 at e
  split at e
  · rename_i i
    by_cases hc : bigI i = true
    · rw [if_pos hc] at e
      cases e
      obtain rfl := S.isInt List.mem_cons_self
      exact .inl ⟨_, rfl, of_decide_eq_true hc, k.val S rv_txt⟩
    · rw [if_neg hc] at e; cases e
  · cases e
    obtain rfl := S.isStr List.mem_cons_self
    exact .inr ⟨_, rfl, k.val S rfl⟩
  · cases e
def blD : D → Option Bool
  | .bl b => some b
  | _ => none
def intD : D → Option Int
  | .int b => some b
  | _ => none
def strD : D → Option (List Nat)
  | .str b => some b
  | _ => none
theorem allO_cons {α : Type} {o : Option α} {l : List (Option α)} {r : List α} (h : allO (o :: l) = some r) : ∃ a t, o = some a ∧ allO l = some t ∧ r = a :: t := by
  cases o with
  | none => cases h
  | some a =>
    obtain ⟨t, e, rfl⟩ := map_some (show (allO l).map (a :: ·) = some r from h)
    exact ⟨a, t, rfl, e, rfl⟩
theorem RvL.bls {J : Hp} {ι : Nat → Option Addr} : ∀ {l : List D} {vs : List V} {bs : List Bool}, RvL G J ι l vs → allO (l.map blD) = some bs → vs = bs.map V.bl
  | [], _, _, r, e => by cases r; cases e; rfl
  | d :: l, _, _, r, e => by
    obtain ⟨v, ws, rfl, q, t⟩ := r
    obtain ⟨b, t', e1, e2, rfl⟩ := allO_cons e
    cases d with
    | bl b' => cases e1; cases (show v = .bl b from q); rw [RvL.bls t e2]; rfl
    | _ => cases e1
theorem RvL.ints {J : Hp} {ι : Nat → Option Addr} : ∀ {l : List D} {vs : List V} {bs : List Int}, RvL G J ι l vs → allO (l.map intD) = some bs → vs = bs.map V.int
  | [], _, _, r, e => by cases r; cases e; rfl
  | d :: l, _, _, r, e => by
    obtain ⟨v, ws, rfl, q, t⟩ := r
    obtain ⟨b, t', e1, e2, rfl⟩ := allO_cons e
    cases d with
    | int b' => cases e1; cases (show v = .int b from q); rw [RvL.ints t e2]; rfl
    | _ => cases e1
def toS (l : List Nat) : Str := ⟨l.toArray⟩
theorem RvL.strs {J : Hp} {ι : Nat → Option Addr} : ∀ {l : List D} {vs : List V} {bs : List (List Nat)}, RvL G J ι l vs → allO (l.map strD) = some bs → vs = (bs.map toS).map V.str
  | [], _, _, r, e => by cases r; cases e; rfl
  | d :: l, _, _, r, e => by
    obtain ⟨v, ws, rfl, q, t⟩ := r
    obtain ⟨b, t', e1, e2, rfl⟩ := allO_cons e
    cases d with
    | str b' => cases e1; cases (show v = .str _ from q); rw [RvL.strs t e2]; rfl
    | _ => cases e1
def oAll : Sto → D → Option Rr := fun s x => match vw s x with
  | some (.lst, l) => (allO (l.map blD)).map fun bs => .v (.bl (bs.all _root_.id))
  | _ => none
def oSum : Sto → D → Option Rr := fun s x => match vw s x with
  | some (.lst, l) => (allO (l.map intD)).map fun bs => .v (.int bs.sum)
  | _ => none
theorem k_all : OkB1 G fa (rAll X.K) oAll := by
  intro B ρ st stk σ H J ι dx x Q rr S e k
  unfold oAll at e
  split at e
  · rename_i l hv
    obtain ⟨bs, e1, rfl⟩ := map_some e
    obtain ⟨a, vs, rfl, sq, r⟩ := S.view List.mem_cons_self hv
    rw [r.bls e1] at sq
    exact ⟨a, bs, rfl, SqL.of sq, k.val S rfl⟩
  · cases e
theorem k_sum : OkB1 G fa (rSum X.K) oSum := by
  intro B ρ st stk σ H J ι dx x Q rr S e k
  unfold oSum at e
  split at e
  · rename_i l hv
    obtain ⟨bs, e1, rfl⟩ := map_some e
    obtain ⟨a, vs, rfl, sq, r⟩ := S.view List.mem_cons_self hv
    rw [r.ints e1] at sq
    exact ⟨a, bs, rfl, SqL.of sq, k.val S rfl⟩
  · cases e
/-! ### divmod -/
def oDivmod : Sto → D → D → Option Rr
  | _, .int i, .int j => if 0 < j ∧ j < 1073741824 then some (.v (.box .tup [.int (i / j), .int (i % j)])) else none
  | _, _, _ => none
theorem k_divmod : OkB2 G fa fb (fun xs H Q => ∃ i j, xs = [.int i, .int j] ∧ CDiv i j ∧ ∀ p, H p = none → Q (.ref p) (upd H p (.tup [.int (i / j), .int (i % j)]))) oDivmod := by
  intro B ρ st stk σ H J ι dx x dy y Q rr S e k
  unfold oDivmod at e
  split at e
  · rename_i i j
    by_cases hc : 0 < j ∧ j < 1073741824
    · rw [if_pos hc] at e
      cases e
      obtain rfl := S.isInt (f := fa) (v := x) (List.mem_cons_of_mem _ List.mem_cons_self)
      obtain rfl := S.isInt (f := fb) (v := y) List.mem_cons_self
      exact ⟨i, j, rfl, hc, fun p hp => k _ _ (((S.sub subc).sub subc).newt hp (RvL.cons rfl (RvL.one rfl)))⟩
    · rw [if_neg hc] at e; cases e
  · cases e
/-! ### list(..), tuple(..) -/
def oList1 : Sto → D → Option Rr := fun s x => match vw s x with
  | some (.lst, l) => some (.n .lst l)
  | some (.tup, l) => some (.n .lst l)
  | some (.scr, l) => some (.n .lst l)
  | _ => none
theorem k_list1 (hK : G.K = X.K) : OkB1 G fa (fun xs H Q => ∃ p ys, xs = [.ref p] ∧ (SqL X.K H p ys ∨ SqT X.K H p ys) ∧ ∀ l, H l = none → Q (.ref l) (upd H l (.lst ys))) oList1 := by
  intro B ρ st stk σ H J ι dx x Q rr S e k
  unfold oList1 at e
  split at e
  · rename_i l hv
    cases e
    obtain ⟨a, vs, rfl, sq, r⟩ := S.view List.mem_cons_self hv
    exact ⟨a, vs, rfl, .inl (SqL.of sq), fun p hp => k p _ H vs J ι (S.sub subc) hp rfl upd_same r⟩
  · rename_i l hv
    cases e
    obtain ⟨a, vs, rfl, sq, r⟩ := S.view List.mem_cons_self hv
    exact ⟨a, vs, rfl, .inr (by rw [← hK]; exact sq), fun p hp => k p _ H vs J ι (S.sub subc) hp rfl upd_same r⟩
  · rename_i l hv
    cases e
    obtain ⟨a, vs, rfl, sq, r⟩ := S.view List.mem_cons_self hv
    exact ⟨a, vs, rfl, .inl (by rw [← hK]; exact sq), fun p hp => k p _ H vs J ι (S.sub subc) hp rfl upd_same r⟩
  · cases e
def oTuple1 : Sto → D → Option Rr := fun s x => match vw s x with
  | some (.lst, l) => some (.v (.box .tup l))
  | _ => none
theorem k_tuple1 : OkB1 G fa (fun xs H Q => ∃ p ys, xs = [.ref p] ∧ ((SqL X.K H p ys ∧ ∀ l, H l = none → Q (.ref l) (upd H l (.tup ys))) ∨ (SqT X.K H p ys ∧ Q (.ref p) H))) oTuple1 := by
  intro B ρ st stk σ H J ι dx x Q rr S e k
  unfold oTuple1 at e
  split at e
  · rename_i l hv
    cases e
    obtain ⟨a, vs, rfl, sq, r⟩ := S.view List.mem_cons_self hv
    exact ⟨a, vs, rfl, .inl ⟨SqL.of sq, fun p hp => k _ _ ((S.sub subc).newt hp r)⟩⟩
  · cases e

/-! ### isinstance -/
/-- the kind of a thing, by name -/
def kindD (s : Sto) : D → Option String
  | .non => some "NoneType"
  | .bl _ => some "bool"
  | .int _ => some "int"
  | .str _ => some "str"
  | .con _ => none
  | d => match vw s d with
    | some (.lst, _) => some "list"
    | some (.tup, _) => some "tuple"
    | some (.dct, _) => some "dict"
    | _ => none
theorem SR.tyX {B : Bs} {ρ : En} {st : Sto} {stk : Stk} {σ : L2.St} {H J : Hp} {ι : Nat → Option Addr} {d : D} {v : V} {t : String} (S : SR G B ρ st stk σ H J ι) (h : (f, d, v) ∈ stk) (e : kindD st d = some t) : TyX G.K H v (.type t) := by
  have box : ∀ {k l}, vw st d = some (k, l) → (match vw st d with
    | some (.lst, _) => some "list"
    | some (.tup, _) => some "tuple"
    | some (.dct, _) => some "dict"
    | _ => none) = some t → TyX G.K H v (.type t) := by
    intro k l hv e
    rw [hv] at e
    obtain ⟨a, vs, rfl, sq, r⟩ := S.view h hv
    cases k with
    | lst => cases e; exact .base (.lst sq)
    | tup =>
      cases e
      rcases sq with (sq | ⟨ob, sq⟩) | ⟨ob, its, n, h1, h2, _⟩
      · exact .base (.tup sq)
      · exact .fTuple sq
      · exact .kTuple h1 h2
    | dct =>
      cases e
      obtain ⟨kvs, sq, _⟩ := sq
      exact .base (.dK sq)
    | _ => cases e
  cases d with
  | non => cases e; obtain rfl := S.isNon h; exact .base .non
  | bl b => cases e; obtain rfl := S.isBl h; exact .base (.bl _)
  | int b => cases e; obtain rfl := S.isInt h; exact .base (.int _)
  | str b => cases e; obtain rfl := S.isStr h; exact .base (.str _)
  | con u => cases e
  | box k l => exact box (k := k) (l := l) rfl e
  | ref n =>
    cases hv : vw st (.ref n) with
    | none =>
      have e' : (match vw st (.ref n) with
        | some (.lst, _) => some "list"
        | some (.tup, _) => some "tuple"
        | some (.dct, _) => some "dict"
        | _ => none) = some t := e
      rw [hv] at e'
      cases e'
    | some kl => exact box (k := kl.1) (l := kl.2) hv e
def isKind (t T : String) : Bool := t == T || (t == "bool" && T == "int")
def kinds : List String := ["NoneType", "bool", "int", "str", "list", "tuple", "dict"]
def asked : List String := ["int", "bool", "str", "list", "tuple", "dict"]
theorem kit_all (K : PySem.W.Frag) : ∀ t ∈ kinds, ∀ T ∈ asked, PySem.W.kitOne K (.type t) (.type T) = some (isKind t T) := by
  intro t ht T hT
  simp only [kinds, asked, List.mem_cons, List.not_mem_nil, or_false] at ht hT
  rcases ht with rfl | rfl | rfl | rfl | rfl | rfl | rfl <;> rcases hT with rfl | rfl | rfl | rfl | rfl | rfl <;> kernel_rfl
theorem kind_mem {s : Sto} {d : D} {t : String} (h : kindD s d = some t) : t ∈ kinds := by
  unfold kindD at h
  split at h
  · cases h; decide
  · cases h; decide
  · cases h; decide
  · cases h; decide
  · cases h
  · split at h
    · cases h; decide
    · cases h; decide
    · cases h; decide
    · cases h
def oIsi (T : String) : Sto → D → Option D := fun s d => (kindD s d).map fun t => .bl (isKind t T)
/-- isinstance(x, T), T a built-in class -/
theorem e_isi {T : String} {y : Str} {p2 : Pos} (hT : T ∈ asked) (hK : G.K = X.K) (hm : X.mg "isinstance" = none) (hmT : X.mg y = none) (hvT : bootBuiltins y = some (.type T)) (ha : PE X a (tE G W fa ma)) (hgT : Gl X y := by rfl) (hg : Gl X "isinstance" := by rfl) (hnT : y ≠ "__name__" := by decide) (hdT : (y == ("__debug__" : Str)) = false := by decide)
    (he : starEach [a, .Name y p2] X.env = (false, eval a X.env) :: starEach [.Name y p2] X.env := by rfl) (he2 : starEach [.Name y p2] X.env = (false, eval (.Name y p2) X.env) :: starEach [] X.env := by rfl) (hpl : (backTo pos (starEach [.Name y p2] X.env)).any (·.1) = false := by rfl)
    (hv : bootBuiltins "isinstance" = some (.builtin "isinstance") := by decide +kernel) : PE X (.Call (.Name "isinstance" p) [a, .Name y p2] [] pos) (tE G W f (m1V (oIsi T) ma)) := by
  have hT' : PE X (.Name y p2) (tC (.ty T)) := pe_bltn hgT hmT hvT (v := .ty T) rfl hnT hdT
  refine (pe_callB call_isi hg hm hv (pa_cons ha (pa_cons hT' pa_nil he2) he) (by decide) (by decide) he hpl).weak ?_
  rintro σ H Q ⟨B, ρ, st, stk, S, p⟩
  refine ⟨B, ρ, st, stk, S, p.bind.imp fun dx s1 p1 x H1 ⟨J, ι, S1⟩ => ?_⟩
  show rIsi X.K [x, .ty T] H1 Q
  unfold l1 oIsi at p1
  cases e : kindD s1 dx with
  | none => rw [e] at p1; exact p1.elim
  | some t =>
    rw [e] at p1
    have ty := S1.tyX List.mem_cons_self e
    rw [hK] at ty
    exact ⟨x, .ty T, .type t, .type T, isKind t T, rfl, .ty T, ty, kit_all X.K t (kind_mem e) T hT, p1 (.bl (isKind t T)) H1 ⟨J, ι, (S1.sub subc).push rfl⟩⟩

/-! ### repr -/
def rRepr (K : PySem.W.Frag) : List V → Hp → VK → Prop := fun xs H Q => ∃ x p, xs = [x] ∧ Dp K H x p ∧ p.showable = true ∧ p.hasDict = false ∧ p.depth ≤ 64 ∧ p.shown.length ≤ lim ∧ Q (.str p.shown) H
theorem call_repr {k : Nat} (hr : Room k X.A) (gd : X.A.guards = some []) : CallR X (.builtin "repr") (rRepr X.K) := by
  intro pins s σ H xs us Q I r h
  obtain ⟨x, p, rfl, d, h1, h2, h3, h4, q⟩ := h
  cases r with
  | cons rx rn =>
    cases rn
    obtain ⟨as, rd⟩ := Dp.reads I p x _ d rx
    cases d with
    | non => cases rx; exact PySem.P.repr_of_none ⟨.str _, H, I.tok _, ⟨_, rfl⟩, q⟩
    | bl b => cases rx; exact PySem.P.repr_of_bool ⟨.str _, H, I.tok _, ⟨_, rfl⟩, by cases b <;> exact q⟩
    | int i =>
      obtain ⟨t, rfl⟩ := rx
      exact PySem.P.repr_of_int (by simpa [PyData.showable] using h1) ⟨.str _, H, I.tok _, ⟨_, rfl⟩, by simpa [PyData.shown] using q⟩
    | str z =>
      obtain ⟨t, rfl⟩ := rx
      exact PySem.P.repr_of_str ⟨.str _, H, I.tok _, ⟨_, rfl⟩, by simpa [PyData.shown] using q⟩ (by simpa [PyData.shown] using lim_le h4)
    | lst sq da =>
      cases rx
      exact repr_of_reads' rd h1 (PyData.noDict_hsm h2) gd (by have := hr.un; omega) (fun _ _ e => e) (fun h' u tk kp => ⟨.str _, H, I.kept (t' := tk) kp, ⟨_, rfl⟩, q⟩) (lim_le h4)
    | tup sq da =>
      cases rx
      exact repr_of_reads' rd h1 (PyData.noDict_hsm h2) gd (by have := hr.un; omega) (fun _ _ e => e) (fun h' u tk kp => ⟨.str _, H, I.kept (t' := tk) kp, ⟨_, rfl⟩, q⟩) (lim_le h4)
def shows (p : PyData) : Bool := p.showable && !p.hasDict && decide (p.depth ≤ 64) && decide (p.shown.length ≤ lim)
def oRepr : Sto → D → Option Rr := fun s d => match py s fuel d with
  | some p => if shows p = true then some (.v (.str (txt p.shown))) else none
  | none => none
theorem k_repr (hK : G.K = X.K) : OkB1 G fa (rRepr X.K) oRepr := by
  intro B ρ st stk σ H J ι dx x Q rr S e k
  unfold oRepr at e
  split at e
  · rename_i p hp
    by_cases hc : shows p = true
    · rw [if_pos hc] at e
      cases e
      unfold shows at hc
      simp only [Bool.and_eq_true, decide_eq_true_eq, Bool.not_eq_true'] at hc
      have d := S.dp List.mem_cons_self hp
      rw [hK] at d
      exact ⟨x, p, rfl, d, hc.1.1.1, hc.1.1.2, hc.1.2, hc.2, k.val S rv_txt⟩
    · rw [if_neg hc] at e; cases e
  · cases e

/-! ### methods of texts -/
def OkM0 (G : Gm) (r : V → List V → Hp → VK → Prop) (g : Sto → List Nat → Option Rr) : Prop := ∀ B ρ st stk σ H J ι z Q rr, SR G B ρ st stk σ H J ι → g st z = some rr → KR G B ρ stk σ Q rr st → r (.str (toS z)) [] H Q
def OkM1 (G : Gm) (fb : Bool) (r : V → List V → Hp → VK → Prop) (g : Sto → List Nat → D → Option Rr) : Prop := ∀ B ρ st stk σ H J ι z dy y Q rr, SR G B ρ st ((fb, dy, y) :: stk) σ H J ι → g st z dy = some rr → KR G B ρ stk σ Q rr st → r (.str (toS z)) [y] H Q
def mSM0 (g : Sto → List Nat → Option Rr) (a : ME) : MR := fun ρ st => (a ρ st).bind fun x s => match x with
  | .str z => optR (g s z) s
  | _ => .bad
def mSM1 (g : Sto → List Nat → D → Option Rr) (a b : ME) : MR := fun ρ st => (a ρ st).bind fun x s => match x with
  | .str z => (b ρ s).bind fun y s => optR (g s z y) s
  | _ => .bad
variable {rm : V → List V → Hp → VK → Prop} {nm : Str} {cpos : Pos}
theorem e_sm0 {g : Sto → List Nat → Option Rr} (hk : OkM0 G rm g) (slot : Slot "str" nm id) (ty : typeOf (.builtin id) = pure (.type "method_descriptor")) (rule : MtR X id rm) (ho : PE X o (tE G W fa ma)) (hbase : attributeBase o nm X.env (eval o X.env) = eval o X.env := by rfl)
    (hline : (apos.endLine == pos.line) = true := by rfl) : PE X (.Call (.Attribute o nm apos) [] [] pos) (tR G W (mSM0 g ma)) := by
  refine (pe_m0 slot ty rule ho hbase hline).weak ?_
  rintro σ H Q ⟨B, ρ, st, stk, S, p⟩
  refine ⟨B, ρ, st, stk, S, p.bind.imp fun dx s1 p1 x H1 ⟨J, ι, S1⟩ => ?_⟩
  cases dx with
  | str z =>
    obtain rfl := S1.isStr List.mem_cons_self
    cases e : g s1 z with
    | none => simp only [e] at p1; exact p1.elim
    | some rr => simp only [e] at p1; exact ⟨⟨_, rfl⟩, hk B ρ s1 stk σ H1 J ι z Q rr (S1.sub subc) e p1⟩
  | _ => exact p1.elim
theorem e_sm1 {g : Sto → List Nat → D → Option Rr} (hk : OkM1 G fb rm g) (slot : Slot "str" nm id) (ty : typeOf (.builtin id) = pure (.type "method_descriptor")) (rule : MtR X id rm) (ho : PE X o (tE G W fa ma)) (hb : PE X b (tE G W fb mb))
    (hs : starEach [b] X.env = [(false, eval b X.env)] := by rfl) (hbase : attributeBase o nm X.env (eval o X.env) = eval o X.env := by rfl) (hline : (apos.endLine == pos.line) = true := by rfl) : PE X (.Call (.Attribute o nm apos) [b] [] pos) (tR G W (mSM1 g ma mb)) := by
  refine (pe_m1 slot ty rule ho hb hs hbase hline).weak ?_
  rintro σ H Q ⟨B, ρ, st, stk, S, p⟩
  refine ⟨B, ρ, st, stk, S, p.bind.imp fun dx s1 p1 x H1 S1 => ?_⟩
  cases dx with
  | str z =>
    obtain ⟨J1, ι1, S1'⟩ := S1
    obtain rfl := S1'.isStr List.mem_cons_self
    refine ⟨⟨_, rfl⟩, B, ρ, s1, _, ⟨J1, ι1, S1'⟩, (Post.bind (r := mb ρ s1) (k := fun y s => optR (g s z y) s) p1 |>.more subc).imp fun dy s2 p2 y H2 ⟨J, ι, S2⟩ => ?_⟩
    cases e : g s2 z dy with
    | none => simp only [e] at p2; exact p2.elim
    | some rr =>
      simp only [e] at p2
      refine hk B ρ s2 stk σ H2 J ι z dy y Q rr (S2.sub fun x hx => ?_) e p2
      rcases List.mem_cons.mp hx with rfl | hx
      · exact List.mem_cons_self
      · exact List.mem_cons_of_mem _ (List.mem_cons_of_mem _ hx)
  | _ => exact p1.elim
def oS1 (g : List Nat → List Nat → D) : Sto → List Nat → D → Option Rr
  | _, z, .str y => some (.v (g z y))
  | _, _, _ => none
theorem k_s1 {g : List Nat → List Nat → D} {g' : Str → Str → V} (h : ∀ z y J ι, Rv G J ι (g z y) (g' (toS z) (toS y))) : OkM1 G fb (fun x xs H Q => ∃ a b, x = .str a ∧ xs = [.str b] ∧ Q (g' a b) H) (oS1 g) := by
  intro B ρ st stk σ H J ι z dy y Q rr S e k
  unfold oS1 at e
  split at e
  · cases e
    obtain rfl := S.isStr List.mem_cons_self
    exact ⟨_, _, rfl, rfl, k.val S (h _ _ J ι)⟩
  · cases e
def oFind := oS1 fun z y => .int (Txt.find (toS z) (toS y))
def oEndswith := oS1 fun z y => .bl (Txt.endswith (toS z) (toS y))
def oCount := oS1 fun z y => .int (Txt.count (toS z) (toS y))
def oJoin : Sto → List Nat → D → Option Rr := fun s z y => match vw s y with
  | some (.lst, l) => match allO (l.map strD) with
    | some ys => if (ys.map (·.length)).sum + ys.length * z.length ≤ lim then some (.v (.str (txt (Txt.join (toS z) (ys.map toS))))) else none
    | none => none
  | _ => none
theorem map_toS_len (ys : List (List Nat)) : ((ys.map toS).map (·.length)) = ys.map (·.length) := by
  rw [List.map_map]
  congr 1
theorem k_join : OkM1 G fb (fun x xs H Q => ∃ a p, ∃ ys : List Str, x = .str a ∧ xs = [.ref p] ∧ (SqL X.K H p (ys.map V.str) ∨ SqT X.K H p (ys.map V.str)) ∧ (ys.map (·.length)).sum + ys.length * a.length ≤ 16777216 ∧ Q (.str (Txt.join a ys)) H) oJoin := by
  intro B ρ st stk σ H J ι z dy y Q rr S e k
  unfold oJoin at e
  split at e
  · rename_i l hv
    split at e
    · rename_i ys hy
      by_cases hc : (ys.map (·.length)).sum + ys.length * z.length ≤ lim
      · rw [if_pos hc] at e
        cases e
        obtain ⟨a, vs, rfl, sq, r⟩ := S.view List.mem_cons_self hv
        rw [r.strs hy] at sq
        refine ⟨toS z, a, ys.map toS, rfl, rfl, .inl (SqL.of sq), ?_, k.val S rv_txt⟩
        rw [map_toS_len, List.length_map, show (toS z).length = z.length from str_len z]
        unfold lim at hc
        omega
      · rw [if_neg hc] at e; cases e
    · cases e
  · cases e
def oSplit : Sto → List Nat → D → Option Rr
  | _, z, .str y => if 0 < y.length ∧ z.length + 2 ≤ lim then some (.n .lst ((Txt.split (toS z) (toS y)).map fun w => .str (txt w))) else none
  | _, _, _ => none
theorem rl_strs {J : Hp} {ι : Nat → Option Addr} : ∀ ws : List Str, RvL G J ι (ws.map fun w => D.str (txt w)) (ws.map V.str)
  | [] => rfl
  | w :: ws => ⟨_, _, rfl, rv_txt, rl_strs ws⟩
theorem k_split : OkM1 G fb (fun x xs H Q => ∃ a b, x = .str a ∧ xs = [.str b] ∧ (b.length == 0) = false ∧ a.length + 2 ≤ sizeLine ∧ rNewStrs (Txt.split a b) H Q) oSplit := by
  intro B ρ st stk σ H J ι z dy y Q rr S e k
  unfold oSplit at e
  split at e
  · rename_i w
    by_cases hc : 0 < w.length ∧ z.length + 2 ≤ lim
    · rw [if_pos hc] at e
      cases e
      obtain rfl := S.isStr List.mem_cons_self
      refine ⟨_, _, rfl, rfl, ?_, by rw [show (toS z).length = z.length from str_len z]; exact lim_le hc.2, fun p hp => k p _ H _ J ι (S.sub subc) hp rfl upd_same (rl_strs _)⟩
      rw [str_len]
      simpa using (by omega : w.length ≠ 0)
    · rw [if_neg hc] at e; cases e
  · cases e
end
end Sm

end

section
set_option Elab.async false
set_option linter.all false
set_option maxRecDepth 100000
set_option maxHeartbeats 1000000
namespace Sm
open PySem PySem.Spec PyProof.Rows L2
section
variable {X : Cx} {G : Gm} {W : WX} {f fa fb fc : Bool} {a b c e o tg : Expr} {ma mb mc me : ME} {mr : MR} {pos p apos cpos : Pos} {x : Str} {js : List Nat} {T : D → En → Option En}
/-- a, b, .. = e -/
def sUnp (T : D → En → Option En) (m : ME) : MS := fun ρ st => (m ρ st).toS ρ fun d s => match T d ρ with
  | some ρ' => .nx ρ' s
  | none => .bad
theorem s_unp (he : PE X e (tE G W true me)) (hg : PG X tg (tGp G js T)) (hs : swapsWithSole [tg] e pos.line X.env = pure false := by rfl) (hw : swappedStores [tg] e X.env = pure none := by rfl)
    (h1 : (assignEach [tg] X.env).map (·.2) = [assign tg X.env] := by rfl) : PS X (.Assign [tg] e pos) (tS G W (sUnp T me)) := by
  refine (ps_asg he hg hs hw h1).weak ?_
  rintro Z σ H ⟨B, ρ, st, stk, hB, hf, S, p⟩
  refine ⟨B, ρ, st, stk, S, toS_post p fun d s q v H' S' => ?_⟩
  cases eT : T d ρ with
  | none => simp only [eT] at q; exact q.elim
  | some ρ' =>
    simp only [eT] at q
    exact ⟨B, ρ, s, stk, d, ρ', hf, S', eT, fun us hu S2 => q _ H' S2⟩
/-- o[i] = e, o an object of the store -/
def setAt (s : Sto) (x i d : D) : Option Sto := match x, i with
  | .ref n, .int k => match s[n]? with
    | some (some (.lst, l)) => (ixN l.length k).map fun j => s.set n (some (.lst, l.set j d))
    | _ => none
  | _, _ => none
def sSetIx (mo mi me : ME) : MS := fun ρ st => (me ρ st).toS ρ fun d s => (mo ρ s).toS ρ fun x s => (mi ρ s).toS ρ fun i s => match setAt s x i d with
  | some s' => .nx ρ s'
  | none => .bad
theorem s_setix {i : Expr} {mi mo : ME} {sp : Pos} (he : PE X e (tE G W true me)) (ho : PE X o (tE G W fa mo)) (hi : PE X i (tE G W fb mi)) 
    (ha : ∀ v, assign (.Subscript o i sp) X.env v = (do
      let ov ← holding [v] (eval o X.env)
      let iv ← holding [v, ov] (eval i X.env)
      standAt sp
      holding [v, ov, iv] (setItem ov iv v)
      release [v, ov, iv] []) := by intro _; rfl)
    (hs : swapsWithSole [.Subscript o i sp] e pos.line X.env = pure false := by rfl) (hw : swappedStores [.Subscript o i sp] e X.env = pure none := by rfl) : PS X (.Assign [.Subscript o i sp] e pos) (tS G W (sSetIx mo mi me)) := by
  refine (ps_asg he (pg_sub ho hi set_list ha) hs hw).weak ?_
  rintro Z σ H ⟨B, ρ, st, stk, hB, hf, S, p⟩
  refine ⟨B, ρ, st, stk, S, toS_post p fun d s q v H1 S1 => ⟨B, ρ, s, _, S1, (toS_post q fun x s2 q2 => q2).more subc |>.imp fun x s2 q2 vx H2 S2 => ⟨B, ρ, s2, _, S2, (toS_post q2 fun i s3 q3 => q3).more (fun y hy => List.mem_cons_of_mem _ (List.mem_cons_of_mem _ hy)) |>.imp fun i s3 q3 vi H3 S3 => ?_⟩⟩⟩
  obtain ⟨J, ι, S3⟩ := S3
  cases e : setAt s3 x i d with
  | none => simp only [e] at q3; exact q3.elim
  | some s4 =>
    simp only [e] at q3
    unfold setAt at e
    split at e
    · rename_i n k
      split at e
      · rename_i l hl
        obtain ⟨j, hj, rfl⟩ := map_some e
        obtain ⟨a, rfl, ha⟩ := S3.refAt (f := fa) (n := n) (v := vx) (List.mem_cons_of_mem _ List.mem_cons_self)
        obtain rfl := S3.isInt (f := fb) (v := vi) List.mem_cons_self
        obtain ⟨m, vs, sq, r⟩ := S3.good.obj n a _ _ ha hl
        have rd : Rv G J ι d v := S3.firm (List.mem_cons_of_mem _ (List.mem_cons_of_mem _ List.mem_cons_self))
        refine ⟨a, vs, k, j, rfl, rfl, sq, by rw [← r.length]; exact hj, ?_⟩
        exact q3 σ _ ⟨J, ι, (S3.sub (fun y hy => List.mem_cons_of_mem _ (List.mem_cons_of_mem _ (List.mem_cons_of_mem _ hy)))).sets hl ha rfl upd_same (r.set j rd)⟩
      · cases e
    · cases e
/-- x[i] = e, x a slot that owns its list -/
def sSetIxO (j : Nat) (mi me : ME) : MS := fun ρ st => (me ρ st).toS ρ fun d s => match ρ[j]? with
  | some (.own .lst l) => (mi ρ s).toS ρ fun i s => match i with
    | .int k => match ixN l.length k with
      | some q => .nx (ρ.set j (.own .lst (l.set q d))) s
      | none => .bad
    | _ => .bad
  | _ => .bad
theorem s_setixO (j : Nat) {i : Expr} {mi : ME} {sp np : Pos} (he : PE X e (tE G W true me)) (hi : PE X i (tE G W true mi)) (hN : X.N[j]? = some x := by rfl) (hv : Vis X.env.scope x := by first | exact Or.inl rfl | exact Or.inr (Or.inl rfl) | exact Or.inr (Or.inr rfl)) (hd : (x == ("__debug__" : Str)) = false := by decide)
    (hcd : (x == ("__classdict__" : Str)) = false := by decide)
    (ha : ∀ v, assign (.Subscript (.Name x np) i sp) X.env v = (do
      let ov ← holding [v] (eval (.Name x np) X.env)
      let iv ← holding [v, ov] (eval i X.env)
      standAt sp
      holding [v, ov, iv] (setItem ov iv v)
      release [v, ov, iv] []) := by intro _; rfl)
    (hs : swapsWithSole [.Subscript (.Name x np) i sp] e pos.line X.env = pure false := by rfl) (hw : swappedStores [.Subscript (.Name x np) i sp] e X.env = pure none := by rfl) : PS X (.Assign [.Subscript (.Name x np) i sp] e pos) (tS G W (sSetIxO j mi me)) := by
  refine (ps_asg he (pg_sub (pv j hN hv hd hcd) hi set_list ha) hs hw).weak ?_
  rintro Z σ H ⟨B, ρ, st, stk, hB, hf, S, p⟩
  refine ⟨B, ρ, st, stk, S, toS_post p fun d s q v H1 ⟨J1, ι1, S1⟩ => ?_⟩
  split at q
  · rename_i l hr
    obtain ⟨a, vs, e1, o⟩ := S1.own j _ l hr
    refine ⟨.ref a, e1, B, ρ, s, _, ⟨J1, ι1, S1⟩, (toS_post q fun i s2 q2 => q2).more subc |>.imp fun i s2 q2 vi H2 ⟨J2, ι2, S2⟩ => ?_⟩
    obtain ⟨a', vs', e1', o'⟩ := S2.own j _ l hr
    rw [e1] at e1'
    cases e1'
    cases i with
    | int k =>
      cases hk : ixN l.length k with
      | none => simp only [hk] at q2; exact q2.elim
      | some n =>
        simp only [hk] at q2
        obtain rfl := S2.isInt (f := true) (v := vi) List.mem_cons_self
        have rd : Rv G J2 ι2 d v := S2.firm (List.mem_cons_of_mem _ List.mem_cons_self)
        have S3 : SR G B ρ s2 stk σ H2 J2 ι2 := S2.sub fun y hy => List.mem_cons_of_mem _ (List.mem_cons_of_mem _ hy)
        exact ⟨a, vs', k, n, rfl, rfl, o'.sq, by rw [← o'.rl.length]; exact hk, q2 σ _ ⟨J2, ι2, S3.mutown hr e1 rfl upd_same (o'.rl.set n rd) hB hf⟩⟩
    | _ => exact q2.elim
  · exact q.elim
/-- x.append(e), x a slot that owns its list -/
def sAppO (j : Nat) (me : ME) : MS := fun ρ st => match ρ[j]? with
  | some (.own .lst l) => (me ρ st).toS ρ fun d s => if l.length < lim then .nx (ρ.set j (.own .lst (l ++ [d]))) s else .bad
  | _ => .bad
theorem s_appO (j : Nat) {np : Pos} (he : PE X e (tE G W true me)) (hN : X.N[j]? = some x := by rfl) (hv : Vis X.env.scope x := by first | exact Or.inl rfl | exact Or.inr (Or.inl rfl) | exact Or.inr (Or.inr rfl)) (hd : (x == ("__debug__" : Str)) = false := by decide)
    (hcd : (x == ("__classdict__" : Str)) = false := by decide) (hbase : attributeBase (.Name x np) "append" X.env (eval (.Name x np) X.env) = eval (.Name x np) X.env := by rfl)
    (hfew : ((backTo cpos (starEach [e] X.env)).all (fun x => !x.1) && (backToKw cpos (keywordEach [] X.env)).all (fun x => x.1.isSome)
      && decide (([e] : List Expr).length + ([] : List Keyword).length + (if ([] : List Keyword).isEmpty then 0 else 1) < 30)) = true := by rfl)
    (hline : (apos.endLine == cpos.line) = true := by rfl) (hst : starEach [e] X.env = (false, eval e X.env) :: starEach [] X.env := by rfl) (hpl : (backTo cpos (starEach [] X.env)).any (·.1) = false := by rfl)
    (hs : swapsWith (.Call (.Attribute (.Name x np) "append" apos) [e] [] cpos) none pos.line X.env = pure false := by rfl) :
    PS X (.Expr (.Call (.Attribute (.Name x np) "append" apos) [e] [] cpos) pos) (tS G W (sAppO j me)) := by
  refine (ps_expr (pe_bm PySem.F.plainAttrs_list PySem.F.slot_list_append PySem.F.type_list_append mt_append (pv j hN hv hd hcd) (pa_cons he pa_nil hst) hbase hfew hline hst hpl) hs).weak ?_
  rintro Z σ H ⟨B, ρ, st, stk, hB, hf, ⟨J0, ι0, S⟩, p⟩
  unfold sAppO at p
  split at p
  · rename_i l hr
    obtain ⟨a, vs, e1, o⟩ := S.own j _ l hr
    refine ⟨.ref a, e1, .inl ⟨rfl, vs, SqL.of o.sq⟩, B, ρ, st, stk, ⟨J0, ι0, S⟩, toS_post p fun d s q v H1 ⟨J, ι, S1⟩ => ?_⟩
    obtain ⟨a', vs', e1', o'⟩ := S1.own j _ l hr
    rw [e1] at e1'
    cases e1'
    by_cases hl : l.length < lim
    · rw [if_pos hl] at q
      exact ⟨a, vs', v, rfl, rfl, o'.sq, by rw [← o'.rl.length]; exact lim_lt hl, q σ _ ⟨J, ι, (S1.sub subc).mutown hr e1 rfl upd_same (o'.rl.snoc (S1.firm List.mem_cons_self)) hB hf⟩⟩
    · rw [if_neg hl] at q; exact q.elim
  · exact p.elim
/-- x += e, x -= e (ints) -/
def sAug (j : Nat) (g : Int → Int → Int) (me : ME) : MS := fun ρ st => match ρ[j]? with
  | some (.val (.int i)) => (me ρ st).toS ρ fun d s => match d with
    | .int k => .nx (ρ.set j (.val (.int (g i k)))) s
    | _ => .bad
  | _ => .bad
theorem s_aug (j : Nat) {op : Operator} {g : Int → Int → Int} {np : Pos} (ho : PIp X op (ipI g)) (hN : X.N.Nodup) (he : PE X e (tE G W true me)) (hi : X.N[j]? = some x := by rfl) (hx : Loc X.env.scope x := by first | exact Or.inl rfl | exact Or.inr rfl)
    (hf : X.fn x = true ∨ X.env.scope.names.lookup x = some .local := by first | exact .inl rfl | exact .inr rfl | assumption) : PS X (.AugAssign (.Name x np) op e pos) (tS G W (sAug j g me)) := by
  refine (ps_aug hN hi hx he ho hf).weak ?_
  rintro Z σ H ⟨B, ρ, st, stk, hB, hf, ⟨J0, ι0, S⟩, p⟩
  unfold sAug at p
  split at p
  · rename_i i hr
    obtain ⟨v0, e1, r1⟩ := S.val j _ hr
    cases (show v0 = .int i from r1)
    refine ⟨.int i, e1, B, ρ, st, stk, ⟨J0, ι0, S⟩, toS_post p fun d s q v H1 ⟨J, ι, S1⟩ => ?_⟩
    cases d with
    | int k =>
      obtain rfl := S1.isInt (f := true) List.mem_cons_self
      exact ⟨i, k, rfl, rfl, q _ H1 ⟨J, ι, (S1.sub subc).put j rfl hf⟩⟩
    | _ => exact q.elim
  · exact p.elim
/-! ### f-strings -/
def oFmt : Sto → D → Option D
  | _, .str z => if z.length ≤ lim then some (.str z) else none
  | _, .int i => if bigI i = true then some (.str (txt (toString i))) else none
  | _, _ => none
theorem e_fmt (ha : PE X a (tE G W fa ma)) : PE X (.FormattedValue a (-1) none pos) (tE G W f (m1V oFmt ma)) := by
  refine (pe_fmt ha).weak ?_
  rintro σ H Q ⟨B, ρ, st, stk, S, p⟩
  refine ⟨B, ρ, st, stk, S, p.bind.imp fun dx s1 p1 x H1 ⟨J, ι, S1⟩ => ?_⟩
  unfold l1 oFmt at p1
  cases dx with
  | str z =>
    obtain rfl := S1.isStr List.mem_cons_self
    by_cases hc : z.length ≤ lim
    · simp only [if_pos hc] at p1
      exact .inl ⟨_, rfl, by rw [str_len]; exact lim_le hc, p1 _ H1 ⟨J, ι, (S1.sub subc).push rfl⟩⟩
    · simp only [if_neg hc] at p1; exact p1.elim
  | int i =>
    obtain rfl := S1.isInt List.mem_cons_self
    by_cases hc : bigI i = true
    · simp only [if_pos hc] at p1
      exact .inr ⟨i, rfl, of_decide_eq_true hc, p1 _ H1 ⟨J, ι, (S1.sub subc).push rv_txt⟩⟩
    · simp only [if_neg hc] at p1; exact p1.elim
  | _ => exact p1.elim
/-- the parts of an f-string, glued from the left -/
def joinM : List ME → List Nat → ME
  | [], acc => fun _ st => .ok (.str acc) st
  | m :: r, acc => fun ρ st => (m ρ st).bind fun x s => match x with
    | .str z => if acc.length + z.length ≤ lim then joinM r (acc ++ z) ρ s else .bad
    | _ => .bad
theorem t_js : ∀ (ms : List ME) (acc : List Nat) (σ : L2.St) (H : Hp) (Q : VK), tE G W f (joinM ms acc) σ H Q → tJs (ms.map fun m => tE G W true m) (toS acc) σ H fun out H1 => Q (.str out) H1
  | [], acc, σ, H, Q, ⟨B, ρ, st, stk, ⟨J, ι, S⟩, p⟩ => p _ H ⟨J, ι, S.push rfl⟩
  | m :: r, acc, σ, H, Q, ⟨B, ρ, st, stk, S, p⟩ => by
    refine ⟨B, ρ, st, stk, S, Post.bind p |>.imp fun dx s1 p1 x H1 ⟨J, ι, S1⟩ => ?_⟩
    cases dx with
    | str z =>
      obtain rfl := S1.isStr List.mem_cons_self
      by_cases hc : acc.length + z.length ≤ lim
      · simp only [if_pos hc] at p1
        refine ⟨_, rfl, ?_, ?_⟩
        · rw [show toS acc ++ (⟨z.toArray⟩ : Str) = toS (acc ++ z) from str_app acc z, show (toS (acc ++ z)).length = (acc ++ z).length from str_len _, List.length_append]
          exact lim_le hc
        · rw [show toS acc ++ (⟨z.toArray⟩ : Str) = toS (acc ++ z) from str_app acc z]
          exact t_js r (acc ++ z) σ H1 Q ⟨B, ρ, s1, stk, ⟨J, ι, S1.sub subc⟩, p1⟩
      · simp only [if_neg hc] at p1; exact p1.elim
    | _ => exact p1.elim
inductive PJm (X : Cx) (G : Gm) (W : WX) : List Expr → List ME → Prop
  | nil : PJm X G W [] []
  | cons {e : Expr} {es : List Expr} {m : ME} {ms : List ME} : PE X e (tE G W true m) → PJm X G W es ms → PJm X G W (e :: es) (m :: ms)
theorem pjm_pj : ∀ {es : List Expr} {ms : List ME}, PJm X G W es ms → PJ X es (ms.map fun m => tE G W true m)
  | _, _, .nil => .nil
  | _, _, .cons h t => .cons h (pjm_pj t)
theorem e_joined {v1 v2 : Expr} {rest : List Expr} {ms : List ME} (h : PJm X G W (v1 :: v2 :: rest) ms) : PE X (.JoinedStr (v1 :: v2 :: rest) pos) (tE G W f (joinM ms [])) :=
  (pe_joined (pjm_pj h)).weak fun σ H Q q => t_js ms [] σ H Q q
end

/-! ### the end: from the law's def to the row -/
section
theorem gm_start {G : Gm} {H : Hp} {a : Addr} {ns : List Int} (hO : Only H) (hS : SqL G.K H a (ns.map V.int)) :
    Good G H (fun _ => none) [] H ∧ RvL G H (fun _ => none) [.box .scr (ns.map D.int)] [.ref a] := by
  refine ⟨⟨Le.refl _, fun n a x h => (nomatch h), fun m n a h => (nomatch h), fun n h => (nomatch h), fun n _ => rfl, fun n a h => (nomatch h), fun n a k l h => (nomatch h)⟩, .ref a, [], rfl, ⟨a, ns.map V.int, rfl, hS, ?_⟩, rfl⟩
  have key : ∀ ns : List Int, RvL G H (fun _ => none) (ns.map D.int) (ns.map V.int) := by
    intro ns
    induction ns with
    | nil => rfl
    | cons n ns ih => exact ⟨_, _, rfl, rfl, ih⟩
  exact key ns
/-- the law's call, over the heap behind the top -/
theorem law_run {P : Program} {w : World} {K : PySem.W.Frag} {mg mb : Str → Option Value} {k : Nat} {fa a : Addr} {fd : FuncData} {x : Str} {G : Gm} {F : MF} {s₁ : Shared} {vs : List Value} {ns : List Int} (hK : G.K = K)
    (inK : K.In s₁.heap) (hmain : s₁.heap.Ns mainGlobals mg) (hbt : s₁.heap.Ns builtinsNs mb) (hbb : ∀ y : Str, y ≠ "__name__" → mb y = bootBuiltins y) (hlim : s₁.heap.NoLimit) (hgen : s₁.gens = #[])
    (hlist : s₁.heap.get? a = some { cls := .type "list", data := .seq vs.toArray }) (hints : IntsAre vs ns) (hsz : ns.length ≤ sizeLine) (room : Room k callerA)
    (Fn : ∀ base : Heap, K.In base → base.Ns mainGlobals mg → FnG P w K mg base k fa fd [x] (spM G 1 F)) (hbind : ∀ (s : Shared) (u : Value), BindsTo s fd ⟨[u], []⟩ [(x, u)])
    (law : ∃ st', F [.box .scr (ns.map D.int)] [] = .ok (.bl true) st') :
    codeAny (model P w) callerA (.call (.ref fa) ⟨[.ref a], []⟩) (fun r s' => r = .ok (.ret (.bool true)) ∧ OldK s₁.heap s'.heap ∧ s'.os = s₁.os ∧ AllBare s'.gens) s₁ := by
  subst hK
  obtain ⟨st', hlaw⟩ := law
  -- any H that tracks at most the script
  suffices main : ∀ H : Hp, Only H → SqL G.K H a (ns.map V.int) → HOk P w H s₁.heap → (∀ b u, H b = some u → b = a ∧ G.K.lookup a = none) → codeAny (model P w) callerA (.call (.ref fa) ⟨[.ref a], []⟩) (fun r s' => r = .ok (.ret (.bool true)) ∧ OldK s₁.heap s'.heap ∧ s'.os = s₁.os ∧ AllBare s'.gens) s₁ by
    rcases Option.eq_none_or_eq_some (G.K.lookup a) with hk | ⟨o, hk⟩
    · let ob : Obj := { cls := .type "list", data := .seq vs.toArray }
      let H : Hp := fun b => if b = a then some (.frz ob (.lst (ns.map V.int))) else none
      have hHa : H a = some (.frz ob (.lst (ns.map V.int))) := if_pos rfl
      have only : ∀ b u, H b = some u → b = a ∧ u = .frz ob (.lst (ns.map V.int)) := fun b u e => by
        by_cases hb : b = a
        · subst hb; rw [hHa] at e; cases e; exact ⟨rfl, rfl⟩
        · have : H b = none := if_neg hb
          rw [this] at e; cases e
      refine main H (fun b => ?_) (.inl (.inr ⟨ob, hHa⟩)) (fun b u e => ?_) (fun b u e => ⟨(only b u e).1, hk⟩)
      · cases e : H b with
        | none => exact .inl rfl
        | some u => rw [(only b u e).2]; exact .inr ⟨_, _, rfl⟩
      · obtain ⟨rfl, rfl⟩ := only b u e
        refine ⟨hlist, ?_⟩
        exact ⟨by simpa using hsz, vs, _, vals_ints hints, hlist⟩
    · have ho := inK a o hk
      rw [hlist] at ho
      cases ho
      refine main (fun _ => none) (fun _ => .inl rfl) (.inr ⟨_, vs.toArray, _, hk, rfl, rfl, rfl, ?_, ?_⟩) (fun b u e => by cases e) (fun b u e => by cases e)
      · have := hints.length
        simp only [List.size_toArray]
        omega
      · simpa using vals_ints hints
  intro H hO hS hok hA
  have keepN : ∀ {b : Addr} {ob : Obj}, s₁.heap.get? b = some ob → (H b ≠ none → False) → (hidT s₁.heap H).get? b = some ob := fun e n => hidT_get e (by
    rcases Option.eq_none_or_eq_some (H _) with z | ⟨u, z⟩
    · exact z
    · exact (n (by rw [z]; simp)).elim)
  have dictN : ∀ {b : Addr} {ob : Obj} {es : Array DictEntry} {ep : Nat}, s₁.heap.get? b = some ob → ob.data = .dict es ep → H b ≠ none → False := by
    intro b ob es ep e d hn
    rcases Option.eq_none_or_eq_some (H b) with z | ⟨u, z⟩
    · exact hn z
    · obtain ⟨rfl, _⟩ := hA b u z
      rw [hlist] at e
      cases e
      simp at d
  have nsN : ∀ {b : Addr} {m : Str → Option Value}, s₁.heap.Ns b m → (hidT s₁.heap H).Ns b m := by
    rintro b m ⟨ob, es, ep, e, d, r⟩
    exact ⟨ob, es, ep, keepN e (dictN e d), d, r⟩
  have inB : G.K.In (hidT s₁.heap H) := fun b ob e => keepN (inK b ob e) fun hn => by
    rcases Option.eq_none_or_eq_some (H b) with z | ⟨u, z⟩
    · exact hn z
    · obtain ⟨rfl, hk⟩ := hA b u z
      rw [hk] at e; cases e
  obtain ⟨mc, hc1, hc2⟩ := hlim
  have env : Env0 P w G.K mg (hidT s₁.heap H) callerA [] s₁ H := {
    frames := rfl
    mod := ⟨inB, nsN hmain, ⟨mb, nsN hbt, hbb⟩, ⟨mc, nsN hc1, hc2⟩⟩
    bs := fun b ob e => of_hidT e
    bsz := Nat.le_of_eq (hidT_size _ _)
    funs := trivial
    frf := fun b hb => by simp [L2.frs] at hb
    hok := hok
    bare := .of_eq hgen }
  obtain ⟨gd, rl⟩ := gm_start hO hS
  have sp : spM G 1 F [.ref a] H (fun v _ => v = .bl true) (fun _ _ _ => False) := by
    refine ⟨H, fun _ => none, [], [.box .scr (ns.map D.int)], rfl, gd, rl, ?_⟩
    rw [hlaw]
    exact fun J' ι' H' v _ _ r => r
  apply codeAny_mono ((Fn _ inB (nsN hmain)).run callerA [] s₁ H ⟨[.ref a], []⟩ [.ref a] [.ref a] _ _ room rfl env (hbind s₁ (.ref a)) (.cons rfl .nil) sp)
  intro r s' h
  match r, h with
  | .error e, h =>
    obtain ⟨_, _, _, _, _, _, _, _, _, _, _, _, z⟩ := h
    exact z.elim
  | .ok .next, h => exact h.elim
  | .ok .brk, h => exact h.elim
  | .ok .cont, h => exact h.elim
  | .ok (.ret u), ⟨v, H', hos, hbare, un, hok', rv, hv⟩ =>
    cases (show v = .bl true from hv)
    cases (show u = Value.bool true from rv)
    refine ⟨rfl, OldK.of_keep fun b ob e => ?_, hos, hbare⟩
    rcases Option.eq_none_or_eq_some (H b) with z | ⟨u, z⟩
    · exact un.keep b ob e z (by simp [L2.frs]) (by simp)
    · rcases hO b with y | ⟨o2, xs, y⟩
      · rw [z] at y; cases y
      · obtain ⟨e1, _⟩ := hok b _ y
        obtain ⟨e2, _⟩ := hok' b _ (un.frzs b o2 _ y)
        rw [e] at e1
        cases e1
        exact e2
/-- what k_head leaves, from the law's def as the machine walks it -/
theorem walk_M {l : PySem.W.OpenLaw} {k : Nat} {q : Program} {loose : List Str} {XP : (Str → Option Value) → Heap → Prop} {YP : World → Heap → Prop} {d : DefRec} {K : Params → PySem.W.Frag} {x : Str} {F : MF}
    (hn : l.most = some 63) (hdf : d.params.defaults = []) (room : Room k callerA) (hY : ∀ (w : World) (h : Heap), YP w h → (K w.params).In h)
    (Fh : ∀ (w : World) (mg : Str → Option Value) (fa : Addr) (h : Heap), (K w.params).In h → h.Ns mainGlobals mg → mg d.name = some (.ref fa) →
      ∃ (fd : FuncData) (G : Gm), G.K = K w.params ∧ (∀ (s : Shared) (u : Value), BindsTo s fd ⟨[u], []⟩ [(x, u)]) ∧ ∀ base : Heap, (K w.params).In base → base.Ns mainGlobals mg → FnG l.prog w (K w.params) mg base k fa fd [x] (spM G 1 F))
    (law : ∀ ns : List Int, ns.length ≤ 63 → ∃ st', F [.box .scr (ns.map D.int)] [] = .ok (.bl true) st') : PySem.W.WalkO q loose XP YP l.row.toRowW d [] (fun f vs => PySem.call f vs) := by
  apply Att.attach_call hn hdf
  intro w s₀ s₁ mg mb fa o pm cd doc a vs ns G Y ho hd hcd hmg hobj hints hlen hg
  obtain ⟨fd, Gm_, hK, hb, hF⟩ := Fh w mg fa _ (hY w _ Y) G.T.g hmg
  exact law_run hK (hY w _ Y) G.T.g G.T.b G.T.builtins G.T.nolimit hg hobj hints (Nat.le_trans hlen (by decide)) room hF hb (law ns hlen)
end
end Sm

end

section
set_option Elab.async false
set_option linter.all false
set_option maxRecDepth 100000
set_option maxHeartbeats 1000000
namespace Sm
open PySem PySem.Spec PyProof.Rows L2
section
variable {X : Cx} {G : Gm} {W : WX} {f fa fb fc : Bool} {pos : Pos} {x : Str}
def LenA (m : MA) (n : Nat) : Prop := ∀ ρ st l s, m ρ st = .ok l s → l.length = n
theorem len_nil : LenA mNil 0 := fun ρ st l s h => by cases h; rfl
theorem len_cons {m : ME} {r : MA} {n : Nat} (h : LenA r n) : LenA (mCons m r) (n + 1) := fun ρ st l s e => by
  unfold mCons at e
  cases e1 : m ρ st with
  | ok d s1 =>
    simp only [e1, Res.bind] at e
    cases e2 : r ρ s1 with
    | ok l2 s2 =>
      simp only [e2] at e
      cases e
      simp [h _ _ _ _ e2]
    | exc c l s => simp only [e2] at e; cases e
    | bad => simp only [e2] at e; cases e
  | exc c l s => simp only [e1, Res.bind] at e; cases e
  | bad => simp only [e1, Res.bind] at e; cases e
theorem len_call {m : MA} {k n : Nat} {dd : List D} (h : LenA m k) (hn : k + dd.length = n) : ∀ ρ st l s, m ρ st = .ok l s → (l ++ dd).length = n := fun ρ st l s e => by
  rw [List.length_append, h _ _ _ _ e, hn]
/-- a module's text, a module's number -/
theorem e_globS {s : Str} {l : List Nat} (hm : ∃ t, X.mg x = some (.str s t)) (h : s = ⟨l.toArray⟩ := by rfl) (hg : Gl X x := by rfl) (hd : (x == ("__debug__" : Str)) = false := by decide) : PE X (.Name x pos) (tE G W f (mC (.str l))) :=
  let ⟨_, q⟩ := hm
  e_glob (v := .str s) q ⟨_, rfl⟩ (fun _ _ => by rw [h]; rfl) hg hd
theorem e_globI {i : Int} (hm : ∃ t, X.mg x = some (.int i t)) (hg : Gl X x := by rfl) (hd : (x == ("__debug__" : Str)) = false := by decide) : PE X (.Name x pos) (tE G W f (mC (.int i))) :=
  let ⟨_, q⟩ := hm
  e_glob (v := .int i) q ⟨_, rfl⟩ (fun _ _ => rfl) hg hd
/-- a module's tuple of whole numbers -/
def TupC (K : PySem.W.Frag) (mg : Str → Option Value) (x : Str) (l : List Int) : Prop := ∃ (a : Addr) (o : Obj) (its : Array Value) (n : Nat), mg x = some (.ref a) ∧ K.lookup a = some o ∧ o.cls = .type "tuple" ∧ o.data = .seq its n ∧ its.size ≤ sizeLine ∧ Vals (l.map V.int) its.toList
theorem e_globT {l : List Int} (hK : G.K = X.K) (h : TupC X.K X.mg x l) (hg : Gl X x := by rfl) (hd : (x == ("__debug__" : Str)) = false := by decide) : PE X (.Name x pos) (tE G W f (mC (.box .tup (l.map D.int)))) := by
  obtain ⟨a, o, its, n, hm, ho, h1, h2, h3, h4⟩ := h
  refine e_glob (v := .ref a) hm rfl (fun J ι => ⟨a, l.map V.int, rfl, .inr ⟨o, its, n, by rw [hK]; exact ho, h1, h2, h3, h4⟩, ?_⟩) hg hd
  clear h4
  induction l with
  | nil => rfl
  | cons i l ih => exact ⟨_, _, rfl, rfl, ih⟩
def absI (its : Array Value) : Option (List Int) := allO (its.toList.map fun v => match v with
  | .int i _ => some i
  | _ => none)
theorem absI_vals {l : List Int} : ∀ {vs : List Value}, allO (vs.map fun v => match v with
  | .int i _ => some i
  | _ => none) = some l → Vals (l.map V.int) vs := by
  intro vs
  induction vs generalizing l with
  | nil => intro h; cases h; exact .nil
  | cons v vs ih =>
    intro h
    obtain ⟨i, t, h1, h2, rfl⟩ := allO_cons h
    refine .cons ?_ (ih h2)
    cases v with
    | int j tk => cases h1; exact ⟨_, rfl⟩
    | _ => cases h1
theorem tupC_mk {K : PySem.W.Frag} {mg : Str → Option Value} {a : Addr} {od : Option Addr} {its : Array Value} {n : Nat} {sl : Array (Option Value)} {l : List Int} (hm : mg x = some (.ref a)) (ho : K.lookup a = some ⟨.type "tuple", od, .seq its n, sl⟩) (h : absI its = some l) (hl : l.length ≤ 1000) : TupC K mg x l :=
  ⟨a, _, its, n, hm, ho, rfl, rfl, by
    have := (absI_vals h).length
    simp at this
    rw [sizeLine_eq]
    omega, absI_vals h⟩
theorem k_endswith : OkM1 G fb (fun x xs H Q => ∃ a b, x = .str a ∧ xs = [.str b] ∧ Q (.bl (Txt.endswith a b)) H) oEndswith := k_s1 fun _ _ _ _ => rfl
theorem k_find : OkM1 G fb (fun x xs H Q => ∃ a b, x = .str a ∧ xs = [.str b] ∧ Q (.int (Txt.find a b)) H) oFind := k_s1 fun _ _ _ _ => rfl
theorem k_count : OkM1 G fb (fun x xs H Q => ∃ a b, x = .str a ∧ xs = [.str b] ∧ Q (.int (Txt.count a b)) H) oCount := k_s1 fun _ _ _ _ => rfl
end
end Sm

end

section
set_option Elab.async false
set_option linter.all false
set_option maxRecDepth 100000
set_option maxHeartbeats 4000000
namespace Sm
open PySem PySem.Spec PyProof.Rows L2
/-! the purse: a list of three whole numbers in the store -/
def purseB : MS := (sRet (mS (mLst (mCons (mV (m2R oMax2 (mC (.int 0)) (m2V oSub (mPeek 0) (m2V oPow (mC (.int 10)) (mC (.int 18)))))) (mCons (m2V oMod (mPeek 0) (mC (.int 2147483629))) (mCons (mC (.int 0)) mNil))))))
def takeB (c : Int) : MS := (sSeq (sIf (mTest (m2V oGt (m2V oIx (mPeek 0) (mC (.int 0))) (mC (.int 0)))) (sSeq (sAsg 4 (m2V oMod (m2V oIx (mPeek 0) (mC (.int 0))) (mPeek 1))) (sSeq (sSetIx (mPeek 0) (mC (.int 0)) (m2V oDiv (m2V oIx (mPeek 0) (mC (.int 0))) (mPeek 1))) (sRet (mVar 4)))) sNx) (sSeq (sSetIx (mPeek 0) (mC (.int 2)) (mV (m2R oAdd (m2V oIx (mPeek 0) (mC (.int 2))) (mC (.int 1))))) (sSeq (sAsg 2 (m2V oMod (m2V oPow (mV (m2R oAdd (mV (m2R oAdd (m2V oIx (mPeek 0) (mC (.int 1))) (m2V oMulI (mC (.int 7919)) (m2V oIx (mPeek 0) (mC (.int 2)))))) (mC (.int c)))) (mC (.int 5))) (mC (.int 2147483647)))) (sSeq (sAsg 3 (m2V oMod (m2V oPow (mV (m2R oAdd (mV (m2R oAdd (m2V oDiv (mPeek 2) (mC (.int 8))) (m2V oMulI (m2V oMulI (mC (.int 104729)) (m2V oIx (mPeek 0) (mC (.int 2)))) (m2V oIx (mPeek 0) (mC (.int 2)))))) (mC (.int 3)))) (mC (.int 3))) (mC (.int 2147483587)))) (sRet (m2V oMod (mV (m2R oAdd (m2V oDiv (mPeek 2) (mC (.int 4))) (m2V oMulI (mC (.int 536870909)) (m2V oDiv (mPeek 3) (mC (.int 4)))))) (mPeek 1)))))))
def cellB (p q : Int) : MS := (sSeq (sIf (mTest (m2V oLt (mPeek 1) (mV (m1R oLen (mPeek 0))))) (sRet (m2V oIx (mPeek 0) (mPeek 1))) sNx) (sRet (mV (m2R oAdd (m2V oMulI (mC (.int p)) (mPeek 1)) (mC (.int q))))))
def Pu (s : Sto) (n : Nat) (m : Nat) : Prop := ∃ a b c : Int, s[n]? = some (some (.lst, [.int a, .int b, .int c])) ∧ 0 ≤ a ∧ 0 ≤ b ∧ b < 2147483629 ∧ 0 ≤ c ∧ c ≤ (m : Int)
structure Fr (n : Nat) (s s' : Sto) : Prop where
  len : s'.length = s.length
  at_ : ∀ k, k ≠ n → s'[k]? = s[k]?
theorem Fr.refl {n : Nat} {s : Sto} : Fr n s s := ⟨rfl, fun _ _ => rfl⟩
theorem Fr.trans {n : Nat} {s s' s'' : Sto} (a : Fr n s s') (b : Fr n s' s'') : Fr n s s'' := ⟨b.len.trans a.len, fun k h => (b.at_ k h).trans (a.at_ k h)⟩
theorem fr_set {n : Nat} {s : Sto} {x : Option Ob} : Fr n s (s.set n x) := ⟨by simp, fun k h => List.getElem?_set_ne (fun z => h z.symm)⟩
theorem Pu.mono {s : Sto} {n m m' : Nat} (p : Pu s n m) (h : m ≤ m') : Pu s n m' := by
  obtain ⟨a, b, c, h1, h2, h3, h4, h5, h6⟩ := p
  exact ⟨a, b, c, h1, h2, h3, h4, h5, by omega⟩
theorem Pu.keep {s s' : Sto} {n k m : Nat} (p : Pu s n m) (f : Fr k s s') (h : n ≠ k) : Pu s' n m := by
  obtain ⟨a, b, c, h1, h2⟩ := p
  exact ⟨a, b, c, (f.at_ n h).trans h1, h2⟩
theorem natAbs_of {i : Int} (h : 0 ≤ i) {n : Nat} (h2 : i < n) : i.natAbs < n := by omega
theorem emod_b (i : Int) {m : Int} (h : 0 < m) : 0 ≤ i % m ∧ i % m < m := ⟨Int.emod_nonneg _ (by omega), Int.emod_lt_of_pos _ h⟩
theorem take_ok {c many : Int} {s : Sto} {n m : Nat} (hc : 0 ≤ c) (hc2 : c < 1000000) (h : 0 < many) (hm : many < 1073741824) (hn : m < 1000000) (p : Pu s n m) :
    ∃ d s', runF 5 (takeB c) [.ref n, .int many] s = .ok (.int d) s' ∧ 0 ≤ d ∧ d < many ∧ Pu s' n (m + 1) ∧ Fr n s s' := by
  obtain ⟨a, b, c0, hs, ha, hb, hb2, hc0, hcm⟩ := p
  have hlt : n < s.length := (List.getElem?_eq_some_iff.mp hs).1
  have hset : ∀ x : Option Ob, (s.set n x)[n]? = some x := fun x => List.getElem?_set_self hlt
  have i0 : ixN 3 0 = some 0 := by decide
  have i1 : ixN 3 1 = some 1 := by decide
  have i2 : ixN 3 2 = some 2 := by decide
  by_cases h0 : 0 < a
  · refine ⟨a % many, s.set n (some (.lst, [.int (a / many), .int b, .int c0])), ?_, (emod_b a h).1, (emod_b a h).2, ⟨a / many, b, c0, List.getElem?_set_self hlt, Int.ediv_nonneg ha (by omega), hb, hb2, hc0, by omega⟩, fr_set⟩
    clear hset hlt
    simp [runF, takeB, sSeq, RS.then, sIf, Res.toS, mTest, Res.bind, m2, l2, optR, mPeek, mC, oIx, vw, hs, atI, oGt, orO, oGtI, oI0, h0, sAsg, sSetIx, setAt, sRet, mVar, oMod, oDiv, oI, h, hm, i0, i1, i2]
  · have e1 : (7919 * (c0 + 1)).natAbs < 18446744073709551616 := by omega
    have e2 : (b + 7919 * (c0 + 1) + c).natAbs < 18446744073709551616 := by omega
    have e7 : (c0 + 1).natAbs < 18446744073709551616 := by omega
    have b1 := emod_b ((b + 7919 * (c0 + 1) + c) ^ 5) (m := 2147483647) (by decide)
    have k1 : (c0 + 1) * (c0 + 1) ≤ 1000001 * 1000001 := Int.mul_le_mul (by omega) (by omega) (by omega) (by decide)
    have k2 : 0 ≤ (c0 + 1) * (c0 + 1) := Int.mul_nonneg (by omega) (by omega)
    have e4 : 0 ≤ (b + 7919 * (c0 + 1) + c) ^ 5 % 2147483647 / 8 := Int.ediv_nonneg b1.1 (by decide)
    have e5 : (b + 7919 * (c0 + 1) + c) ^ 5 % 2147483647 / 8 ≤ 2147483647 := by omega
    have e3 : ((b + 7919 * (c0 + 1) + c) ^ 5 % 2147483647 / 8 + 104729 * (c0 + 1) * (c0 + 1) + 3).natAbs < 18446744073709551616 := by
      rw [Int.mul_assoc]
      omega
    have key : ∃ d, runF 5 (takeB c) [.ref n, .int many] s = .ok (.int (d % many)) (s.set n (some (.lst, [.int a, .int b, .int (c0 + 1)]))) := by
      refine ⟨(b + 7919 * (c0 + 1) + c) ^ 5 % 2147483647 / 4 + 536870909 * (((b + 7919 * (c0 + 1) + c) ^ 5 % 2147483647 / 8 + 104729 * (c0 + 1) * (c0 + 1) + 3) ^ 3 % 2147483587 / 4), ?_⟩
      clear hlt
      simp [runF, takeB, sSeq, RS.then, sIf, Res.toS, mTest, Res.bind, m2, l2, optR, mPeek, mC, oIx, vw, hs, atI, oGt, orO, oGtI, oI0, h0, sAsg, sSetIx, setAt, sRet, mVar, oMod, oDiv, oI, h, hm, i0, i1, i2, hset, m2R, mV, oAdd, asR, sNx, oMulI, cMul, oPow, e2, e3, e7]
    obtain ⟨d, e⟩ := key
    exact ⟨d % many, _, e, (emod_b d h).1, (emod_b d h).2, ⟨a, b, c0 + 1, List.getElem?_set_self hlt, ha, hb, hb2, by omega, by omega⟩, fr_set⟩
theorem purse_ok (z : Int) (s : Sto) : ∃ s', runF 1 purseB [.int z] s = .ok (.ref s.length) s' ∧ Pu s' s.length 0 ∧ s'.length = s.length + 1 ∧ ∀ k, k < s.length → s'[k]? = s[k]? := by
  refine ⟨s ++ [some (.lst, [.int (if z - 10 ^ 18 > 0 then z - 10 ^ 18 else 0), .int (z % 2147483629), .int 0])], ?_, ⟨if z - 10 ^ 18 > 0 then z - 10 ^ 18 else 0, z % 2147483629, 0, by simp, ?_, (emod_b z (by decide)).1, (emod_b z (by decide)).2, by decide, by decide⟩, by simp, fun k h => List.getElem?_append_left h⟩
  · simp [runF, purseB, sRet, mS, mLst, mCons, mV, m2R, oMax2, mC, m2, l2, optR, Res.bind, mPeek, oSub, oPow, oI, oI0, oMod, mNil, lim, Res.toS]
  · split <;> omega
theorem cell_ok {p q : Int} {ns : List Int} {k : Int} {s : Sto} (hp : p.natAbs < 18446744073709551616) (h : 0 ≤ k) : ∃ z, runF 2 (cellB p q) [.box .scr (ns.map D.int), .int k] s = .ok (.int z) s := by
  by_cases hk : k < ns.length
  · obtain ⟨j, rfl⟩ : ∃ j : Nat, k = j := ⟨k.toNat, by omega⟩
    have hj : j < ns.length := by omega
    refine ⟨ns[j], ?_⟩
    simp [runF, cellB, sSeq, RS.then, sIf, Res.toS, mTest, Res.bind, m2, l2, optR, mPeek, mC, oLt, orO, oLtI, oI0, mV, m1R, oLen, vw, hk, sRet, oIx, atI, ixN, hj]
  · refine ⟨p * k + q, ?_⟩
    simp [runF, cellB, sSeq, RS.then, sIf, Res.toS, mTest, Res.bind, m2, l2, optR, mPeek, mC, oLt, orO, oLtI, oI0, mV, m1R, oLen, vw, hk, sRet, sNx, m2R, oAdd, asR, oMulI, oI, cMul, hp]
/-- a loop whose turns all go on -/
theorem forL_nx {T : D → En → Option En} {body : MS} (I : En → Sto → Prop) : ∀ (l : List D) (ρ : En) (s : Sto), I ρ s → (∀ d ∈ l, ∀ ρ s, I ρ s → ∃ ρ1 ρ2 s2, T d ρ = some ρ1 ∧ body ρ1 s = .nx ρ2 s2 ∧ I ρ2 s2) → ∃ ρ' s', forL T body l ρ s = .nx ρ' s' ∧ I ρ' s'
  | [], ρ, s, h, _ => ⟨ρ, s, rfl, h⟩
  | d :: l, ρ, s, h, hb => by
    obtain ⟨ρ1, ρ2, s2, e1, e2, h2⟩ := hb d List.mem_cons_self ρ s h
    obtain ⟨ρ', s', e3, h3⟩ := forL_nx I l ρ2 s2 h2 fun x hx => hb x (List.mem_cons_of_mem _ hx)
    exact ⟨ρ', s', by unfold forL; simp only [e1, e2]; exact e3, h3⟩
theorem mem_sRng {d : D} {lo : Int} {n : Nat} (h : d ∈ sRng lo n) : ∃ i : Nat, i < n ∧ d = .int (lo + i) := by
  unfold sRng at h
  obtain ⟨i, hi, e⟩ := List.mem_map.mp h
  exact ⟨i, List.mem_range.mp hi, e.symm⟩
end Sm
namespace Sm
open PySem PySem.Spec PyProof.Rows L2
/-- the law's own loop over its cells -/
def cellsL (n : Int) (c : Int) : ML := lR1 (mCons (mV (m2R oMax2 (mC (.int c)) (mV (m2R oMin2 (mC (.int n)) (mV (m1R oLen (mPeek 0))))))) mNil)
theorem cells_ok {n c : Int} {ns : List Int} {ρ : En} {s : Sto} (hn : n ≤ 63) (hc0 : 0 ≤ c) (hc : c ≤ 63) (h : ρ[0]? = some (.val (.box .scr (ns.map D.int)))) : ∃ m, cellsL n c ρ s = .ok (sRng 0 m) s ∧ m ≤ 63 := by
  refine ⟨(if (if (ns.length : Int) < n then (ns.length : Int) else n) > c then (if (ns.length : Int) < n then (ns.length : Int) else n) else c).toNat, ?_, by split <;> split <;> omega⟩
  simp [cellsL, lR1, mCons, mV, m2R, m1R, mPeek, h, mC, Res.bind, oLen, vw, oMin2, oMax2, optR, mNil, inR]
  constructor <;> split <;> split <;> omega
theorem law_end {F : MF} {n : Nat} {loop : MS} {l : List D} {st : Sto} (h : F = runF n (sSeq loop (sRet (mC (.bl true))))) (hl : ∃ ρ' s', loop (l.map Sl.val ++ List.replicate (n - l.length) Sl.un) st = .nx ρ' s') : ∃ st', F l st = .ok (.bl true) st' := by
  obtain ⟨ρ', s', e⟩ := hl
  refine ⟨s', ?_⟩
  subst h
  simp [runF, sSeq, e, RS.then, sRet, mC, Res.toS]
/-- a finite question, asked of the kernel at once -/
theorem fin_all {α : Type} {n : Nat} {f : Nat → α} {c : α} (h : (List.range n).map f = List.replicate n c) {i : Nat} (hi : i < n) : f i = c := by
  have e : ((List.range n).map f)[i]? = (List.replicate n c)[i]? := by rw [h]
  simp [hi] at e
  exact e
/-- what an .nx says, as plain data -/
def nxOf (k : Nat) : RS → Option (List Sl × Nat × Sto)
  | .nx ρ s => some (ρ.take k, ρ.length, s)
  | _ => none
theorem nxOf_some {k n : Nat} {r : RS} {p : List Sl} {s : Sto} (h : nxOf k r = some (p, n, s)) : ∃ ρ, r = .nx ρ s ∧ ρ.take k = p ∧ ρ.length = n := by
  cases r with
  | nx ρ s' => cases h; exact ⟨ρ, rfl, rfl, rfl⟩
  | _ => cases h
end Sm

end

section
set_option Elab.async false
set_option linter.all false
set_option maxRecDepth 100000
set_option maxHeartbeats 4000000
namespace Sm
open PySem PySem.Spec PyProof.Rows L2
/-! how long the text of a thing can be -/
mutual
def cost : PyData → Nat
  | .none => 4
  | .bool _ => 5
  | .int i => if i.natAbs < 10 ^ 40 then 41 else lim + 1
  | .str x => if x.cps.toList.all (fun c => decide (c < 4294967296)) = true then 2 + 10 * x.length else lim + 1
  | .list xs => 3 + costAll xs
  | .tuple xs => 3 + costAll xs
  | .dict _ => lim + 1
def costAll : List PyData → Nat
  | [] => 0
  | x :: xs => cost x + 2 + costAll xs
end
theorem int_len (i : Int) (h : i.natAbs < 10 ^ 40) : (toString i : Str).length ≤ 41 ∧ i.natAbs.log2 < 1920 := by
  constructor
  · have nn : ∀ n : Nat, n < 10 ^ 40 → (Str.ofString (toString (n : Int))).length ≤ 40 := fun n hn => by
      rw [SX.num_S, SX.S_len]
      exact TL.numL_len (by decide) hn
    cases i with
    | ofNat n => exact Nat.le_trans (nn n h) (by decide)
    | negSucc n =>
      have e : toString (Int.negSucc n) = "-" ++ toString ((n + 1 : Nat) : Int) := rfl
      have e2 : (Str.ofString (toString (Int.negSucc n))).length = 1 + (Str.ofString (toString ((n + 1 : Nat) : Int))).length := by
        rw [TL.len_tl, TL.len_tl, TL.tl_ofString, TL.tl_ofString, e, String.toList_append, List.map_append, List.length_append]
        rfl
      show (Str.ofString (toString (Int.negSucc n))).length ≤ 41
      rw [e2]
      have := nn (n + 1) h
      omega
  · by_cases h0 : i.natAbs = 0
    · rw [h0]; decide
    · rw [Nat.log2_lt h0]
      exact Nat.lt_trans h (by decide)
theorem str_len_repr (x : Str) (h : x.cps.toList.all (fun c => decide (c < 4294967296)) = true) : (PySem.reprText x).length ≤ 2 + 10 * x.length := by
  have := StrLaws.reprText_len x (fun c hc => by
    have := List.all_eq_true.mp h c hc
    simpa using this)
  omega
mutual
theorem cost_ok : ∀ p : PyData, cost p ≤ lim → p.shown.length ≤ cost p ∧ p.showable = true ∧ p.hasDict = false
  | .none, _ => ⟨by decide, by simp [PyData.showable], by simp [PyData.hasDict]⟩
  | .bool b, _ => ⟨by cases b <;> decide, by simp [PyData.showable], by simp [PyData.hasDict]⟩
  | .int i, h => by
    unfold cost at h ⊢
    by_cases hi : i.natAbs < 10 ^ 40
    · rw [if_pos hi]
      obtain ⟨h1, h2⟩ := int_len i hi
      exact ⟨by simpa [PyData.shown] using h1, by simpa [PyData.showable] using h2, by simp [PyData.hasDict]⟩
    · rw [if_neg hi] at h
      exact absurd h (by unfold lim; decide)
  | .str x, h => by
    unfold cost at h ⊢
    by_cases hx : x.cps.toList.all (fun c => decide (c < 4294967296)) = true
    · rw [if_pos hx]
      exact ⟨by simpa [PyData.shown] using str_len_repr x hx, by simp [PyData.showable], by simp [PyData.hasDict]⟩
    · rw [if_neg hx] at h
      exact absurd h (by unfold lim; decide)
  | .list xs, h => by
    unfold cost at h ⊢
    obtain ⟨h1, h2, h3⟩ := costAll_ok xs (by omega)
    have := listText_len_le (PyData.shownAll xs)
    have e := PyData.shownAll_length xs
    exact ⟨by simp only [PyData.shown]; omega, by simpa [PyData.showable] using h2, by simpa [PyData.hasDict] using h3⟩
  | .tuple xs, h => by
    unfold cost at h ⊢
    obtain ⟨h1, h2, h3⟩ := costAll_ok xs (by omega)
    have := tupleText_len_le (PyData.shownAll xs)
    have e := PyData.shownAll_length xs
    exact ⟨by simp only [PyData.shown]; omega, by simpa [PyData.showable] using h2, by simpa [PyData.hasDict] using h3⟩
  | .dict _, h => by
    unfold cost at h
    exact absurd h (by unfold lim; decide)
theorem costAll_ok : ∀ xs : List PyData, costAll xs ≤ lim → ((PyData.shownAll xs).map (·.length)).sum + 2 * xs.length ≤ costAll xs ∧ PyData.showableAll xs = true ∧ PyData.hasDictAll xs = false
  | [], _ => ⟨by simp [PyData.shownAll, costAll], by simp [PyData.showableAll], by simp [PyData.hasDictAll]⟩
  | x :: xs, h => by
    unfold costAll at h ⊢
    obtain ⟨a1, a2, a3⟩ := cost_ok x (by omega)
    obtain ⟨b1, b2, b3⟩ := costAll_ok xs (by omega)
    refine ⟨?_, by simp [PyData.showableAll, a2, b2], by simp [PyData.hasDictAll, a3, b3]⟩
    simp only [PyData.shownAll, List.map_cons, List.sum_cons, List.length_cons]
    omega
end
theorem shows_of {p : PyData} (h : cost p ≤ lim) (hd : p.depth ≤ 64) : shows p = true := by
  obtain ⟨a, b, c⟩ := cost_ok p h
  have := Nat.le_trans a h
  simp [shows, b, c, hd, this]
theorem repr_of {s : Sto} {d : D} {p : PyData} (e : py s fuel d = some p) (h : cost p ≤ lim) (hd : p.depth ≤ 64) : oRepr s d = some (.v (.str (txt p.shown))) := by
  unfold oRepr
  rw [e]
  simp only [shows_of h hd, if_pos]
end Sm
namespace Sm
open PySem PySem.Spec PyProof.Rows L2
theorem whileM_ok {c : MT} {body : MS} (I : Nat → En → Sto → Prop) (Q : En → Sto → Prop) (step : ∀ k ρ s, I k ρ s → (∃ s1, c ρ s = .ok false s1 ∧ Q ρ s1) ∨ ∃ s1 ρ2 s2 j, c ρ s = .ok true s1 ∧ body ρ s1 = .nx ρ2 s2 ∧ j < k ∧ I j ρ2 s2) :
    ∀ n k ρ s, k < n → I k ρ s → ∃ ρ' s', whileM c body n ρ s = .nx ρ' s' ∧ Q ρ' s'
  | 0, _, _, _, h, _ => absurd h (Nat.not_lt_zero _)
  | n + 1, k, ρ, s, h, hI => by
    rcases step k ρ s hI with ⟨s1, e, q⟩ | ⟨s1, ρ2, s2, j, e, e2, hj, hI2⟩
    · exact ⟨ρ, s1, by simp [whileM, e, Res.toS], q⟩
    · obtain ⟨ρ', s', e3, q⟩ := whileM_ok I Q step n j ρ2 s2 (by omega) hI2
      exact ⟨ρ', s', by simp [whileM, e, Res.toS, e2, e3], q⟩
end Sm
namespace Sm
theorem run_rt {n : Nat} {b : MS} {l : List D} {st s : Sto} {d : D} {ρ0 : En} (h0 : l.map Sl.val ++ List.replicate (n - l.length) Sl.un = ρ0) (h : b ρ0 st = .rt d s) : runF n b l st = .ok d s := by
  unfold runF
  rw [h0, h]
theorem run_nx {n : Nat} {b : MS} {l : List D} {st s : Sto} {ρ0 ρ1 : En} (h0 : l.map Sl.val ++ List.replicate (n - l.length) Sl.un = ρ0) (h : b ρ0 st = .nx ρ1 s) : runF n b l st = .ok .non s := by
  unfold runF
  rw [h0, h]
theorem seq_nx {a b : MS} {ρ ρ1 : En} {st s1 : Sto} {r : RS} (h : a ρ st = .nx ρ1 s1) (h2 : b ρ1 s1 = r) : sSeq a b ρ st = r := by
  unfold sSeq
  rw [h]
  exact h2
theorem seq_rt {a b : MS} {ρ : En} {st s1 : Sto} {d : D} (h : a ρ st = .rt d s1) : sSeq a b ρ st = .rt d s1 := by
  unfold sSeq
  rw [h]
  rfl
theorem bnd {k : Int} (h1 : -100000 ≤ k) (h2 : k < 100000) : inR k = true := by
  unfold inR
  rw [Bool.and_eq_true, decide_eq_true_eq, decide_eq_true_eq]
  constructor <;> omega
theorem lR2_of {a : MA} {ρ : En} {st s : Sto} {i j : Int} {n : Nat} (h : a ρ st = .ok [.int i, .int j] s) (h1 : -100000 ≤ i) (h2 : i < 100000) (h3 : -100000 ≤ j) (h4 : j < 100000) (hn : (j - i).toNat = n) : lR2 a ρ st = .ok (sRng i n) s := by
  have b1 := bnd h1 h2
  have b2 := bnd h3 h4
  unfold lR2
  rw [h]
  show (if _ then _ else _) = _
  rw [if_pos (by rw [b1, b2]; rfl), hn]
theorem lR1_of {a : MA} {ρ : En} {st s : Sto} {j : Int} {n : Nat} (h : a ρ st = .ok [.int j] s) (h3 : -100000 ≤ j) (h4 : j < 100000) (hn : j.toNat = n) : lR1 a ρ st = .ok (sRng 0 n) s := by
  have b2 := bnd h3 h4
  unfold lR1
  rw [h]
  show (if _ then _ else _) = _
  rw [if_pos b2, hn]
end Sm

end

section
set_option Elab.async false
set_option linter.all false
set_option maxRecDepth 100000
set_option maxHeartbeats 4000000
namespace Sm
open PySem PySem.Spec PyProof.Rows L2
section
variable {X : Cx} {G : Gm} {W : WX} {f : Bool} {pos : Pos}
/-! ### dict displays -/
def keyD : D → Option Key
  | .int i => some (Sum.inl i)
  | .str z => some (Sum.inr ⟨z.toArray⟩)
  | _ => none
def keysOf : List D → Option (List Key)
  | [] => some []
  | k :: _ :: r => match keyD k, keysOf r with
    | some a, some l => some (a :: l)
    | _, _ => none
  | _ => none
def flatM : List (ME × ME) → MA
  | [] => mNil
  | (k, v) :: r => mCons k (mCons v (flatM r))
def mDct (m : MA) : MR := fun ρ st => (m ρ st).bind fun l s => match keysOf l with
  | some ks => if ks.Nodup ∧ ks.length ≤ 15 then .ok (.n .dct l) s else .bad
  | none => .bad
def pflat (ps : List (V × V)) : List V := ps.flatMap fun p => [p.1, p.2]
theorem t_pairs : ∀ (ms : List (ME × ME)) (σ : L2.St) (H : Hp) (Q : List V → Hp → Prop), tA G W (flatM ms) σ H Q → tPairs (ms.map fun p => (tE G W true p.1, tE G W true p.2)) σ H fun ps H' => Q (pflat ps) H'
  | [], σ, H, Q, ⟨B, ρ, st, stk, S, p⟩ => p [] H rfl S
  | (k, v) :: r, σ, H, Q, ⟨B, ρ, st, stk, S, p⟩ => by
    refine ⟨B, ρ, st, stk, S, p.bind.imp fun dx s1 p1 x H1 S1 => ⟨B, ρ, s1, _, S1, (p1.bind.more subc).bind.imp fun dy s2 p2 y H2 S2 => ?_⟩⟩
    have key := t_pairs r σ H2 (fun vs H' => Q (x :: y :: vs) H') ⟨B, ρ, s2, _, S2, (Post.more (stk' := (true, dy, y) :: (true, dx, x) :: stk) (stk := (true, dx, x) :: stk) p2.bind subc).imp fun ds s3 p3 vs H3 hl S3 => ?_⟩
    · exact key
    · have p3' : KA G B ρ stk σ Q (dx :: dy :: ds) s3 := p3
      exact p3' (x :: y :: vs) H3 (by simp [hl]) (S3.sub fun z hz => by
        simp only [stkOf, List.zip_cons_cons, List.map_cons, List.cons_append, List.mem_cons, List.mem_append] at hz ⊢
        rcases hz with rfl | rfl | hz | hz
        · exact .inr (.inr (.inl rfl))
        · exact .inr (.inl rfl)
        · exact .inl hz
        · exact .inr (.inr (.inr hz)))
theorem tp_mono : ∀ (ms : List (ME × ME)) (σ : L2.St) (H : Hp) (Q Q' : List (V × V) → Hp → Prop), (∀ ps H', Q ps H' → Q' ps H') → tPairs (ms.map fun p => (tE G W true p.1, tE G W true p.2)) σ H Q → tPairs (ms.map fun p => (tE G W true p.1, tE G W true p.2)) σ H Q'
  | [], σ, H, Q, Q', k, h => k _ _ h
  | (a, b) :: r, σ, H, Q, Q', k, h => tE.mono h fun x H1 h1 => tE.mono h1 fun y H2 h2 => tp_mono r σ H2 _ _ (fun ps H' q => k _ _ q) h2
theorem keyD_v {J : Hp} {ι : Nat → Option Addr} {d : D} {v : V} {k : Key} (r : Rv G J ι d v) (h : keyD d = some k) : v = kV k := by
  cases d with
  | int i => cases h; exact r
  | str z => cases h; exact r
  | _ => cases h
theorem keys_kvs {J : Hp} {ι : Nat → Option Addr} : ∀ (ds : List D) (vs : List V) (ks : List Key), RvL G J ι ds vs → keysOf ds = some ks → ∃ kvs : List (Key × V), vs = flat kvs ∧ kvs.map (·.1) = ks
  | [], vs, ks, r, h => by cases h; cases r; exact ⟨[], rfl, rfl⟩
  | [k], vs, ks, r, h => by cases h
  | k :: d :: ds, vs, ks, r, h => by
    unfold keysOf at h
    obtain ⟨v, ws, rfl, rk, v2, us, rfl, rd, rl⟩ := r
    cases e1 : keyD k with
    | none => simp only [e1] at h; cases h
    | some a =>
      cases e2 : keysOf ds with
      | none => simp only [e1, e2] at h; cases h
      | some l =>
        simp only [e1, e2] at h
        cases h
        obtain ⟨kvs, rfl, rfl⟩ := keys_kvs ds us l rl e2
        exact ⟨(a, v2) :: kvs, by rw [keyD_v rk e1]; rfl, rfl⟩
theorem pflat_kvs : ∀ (ps : List (V × V)) (kvs : List (Key × V)), pflat ps = flat kvs → ps = kvs.map fun kv => (kV kv.1, kv.2)
  | [], [], _ => rfl
  | [], kv :: kvs, h => by cases h
  | p :: ps, [], h => by cases h
  | (a, b) :: ps, (k, v) :: kvs, h => by
    have h : a :: b :: pflat ps = kV k :: v :: flat kvs := h
    injection h with e1 h1
    injection h1 with e2 h2
    subst e1
    subst e2
    rw [pflat_kvs ps kvs h2]
    rfl
theorem putK_new {kvs : List (Key × V)} {k : Key} {v : V} (h : k ∉ kvs.map (·.1)) : putK kvs k v = kvs ++ [(k, v)] := by
  unfold putK
  rw [if_neg]
  intro hc
  obtain ⟨x, hx, e⟩ := List.any_eq_true.mp hc
  exact h (List.mem_map.mpr ⟨x, hx, of_decide_eq_true e⟩)
theorem mergeK_new : ∀ (kvs acc : List (Key × V)), ((acc ++ kvs).map (·.1)).Nodup → mergeK acc kvs = acc ++ kvs
  | [], acc, _ => by simp [mergeK]
  | (k, v) :: kvs, acc, h => by
    have hk : k ∉ acc.map (·.1) := by
      rw [List.map_append, List.nodup_append] at h
      intro hm
      exact h.2.2 k hm k (by simp) rfl
    show mergeK (putK acc k v) kvs = _
    rw [putK_new hk, mergeK_new kvs (acc ++ [(k, v)]) (by simpa using h)]
    simp
theorem e_dct {keys : List (Option Expr)} {values : List Expr} {ms : List (ME × ME)} (h : PPs X pos keys values (ms.map fun p => (tE G W true p.1, tE G W true p.2))) (hall : keys.all (·.isSome) = true) (hl : keys.length = values.length) (h0 : keys ≠ []) (h15 : keys.length ≤ 15) :
    PE X (.Dict keys values pos) (tR G W (mDct (flatM ms))) := by
  refine (pe_disp h hall hl h0 h15).weak ?_
  rintro σ H Q ⟨B, ρ, st, stk, ⟨J, ι, S⟩, p⟩
  intro D0 hD
  have S0 : SR G ⟨J, ι, H, true⟩ ρ st [] σ H J ι := (S.sub (stk' := []) fun x hx => by cases hx).here
  have now : ∀ (j : Nat) (k : Kd) (l : List D), ρ[j]? = some (Sl.own k l) → σ[j]? ≠ some (some (.ref D0)) := fun j k l h e => by
    obtain ⟨a, vs, e1, o⟩ := S0.own j k l h
    rw [e] at e1
    cases e1
    obtain ⟨u, hu⟩ := o.sq.some o.mu
    rw [hu] at hD; cases hD
  have S1 := S0.newq (o := .dK []) hD
  have nJ := S.freshJ hD
  have ni := S.freshι hD
  have pb := Post.bind p
  have key := t_pairs (G := G) (W := W) ms σ (upd H D0 (.dK [])) (fun vs H2 => H2 D0 = some (.dK []) ∧ ∃ kvs : List (Key × V), vs = flat kvs ∧ kvs.length ≤ 15 ∧ Q (.ref D0) (upd H2 D0 (.dK (mergeK [] kvs)))) ⟨⟨J, ι, upd H D0 (.dK []), true⟩, ρ, st, [], ⟨J, ι, S1.here⟩, by
    cases e : flatM ms ρ st with
    | bad => rw [e] at pb; exact pb.elim
    | exc c m s1 =>
      rw [e] at pb
      rintro dd H' vs J' ι' S2 rl hd
      have S4 := S.newq (o := .dK []) hD
      exact pb dd H' vs J' ι' ((S4.call S2.ext S2.good)) rl hd
    | ok ds s1 =>
      rw [e] at pb
      rintro vs H2 hlv ⟨J2, ι2, S2⟩
      rw [List.append_nil] at S2
      have rl : RvL G J2 ι2 ds vs := stkOf_rl (stk := []) hlv (by rw [List.append_nil]; exact S2)
      have at2 : H2 D0 = some (.dK []) := S2.ext.fr _ _ upd_same ni
      have nJ2 : J2 D0 = none := S2.ext.jn _ _ nJ upd_same ni
      have ni2 : ∀ n, ι2 n ≠ some D0 := S2.ext.key _ _ upd_same ni
      refine ⟨at2, ?_⟩
      have pb : Post G B ρ stk σ W (match keysOf ds with
        | some ks => if ks.Nodup ∧ ks.length ≤ 15 then .ok (.n .dct ds) s1 else .bad
        | none => .bad) (KR G B ρ stk σ Q) := pb
      cases ek : keysOf ds with
      | none => rw [ek] at pb; exact pb.elim
      | some ks =>
        rw [ek] at pb
        by_cases hc : ks.Nodup ∧ ks.length ≤ 15
        · have pb : Post G B ρ stk σ W (if ks.Nodup ∧ ks.length ≤ 15 then .ok (.n .dct ds) s1 else .bad) (KR G B ρ stk σ Q) := pb
          rw [if_pos hc] at pb
          have q : KR G B ρ stk σ Q (.n .dct ds) s1 := pb
          obtain ⟨kvs, rfl, rfl⟩ := keys_kvs ds vs ks rl ek
          refine ⟨kvs, rfl, by simpa using hc.2, ?_⟩
          rw [mergeK_new kvs [] (by simpa using hc.1), List.nil_append]
          have ag : ∀ b, b ≠ D0 → (fun b => if b = D0 then (none : Option HO) else H2 b) b = H2 b := fun b hb => if_neg hb
          have S3 := (S1.call S2.ext S2.good).agree ag nJ2 ni2 hD now
          have S4 := S.call S3.ext S3.good
          have eH : upd (fun b => if b = D0 then (none : Option HO) else H2 b) D0 (.dK kvs) = upd H2 D0 (.dK kvs) := by
            funext b
            by_cases hb : b = D0
            · subst hb; rw [upd_same, upd_same]
            · rw [upd_ne hb, upd_ne hb]; exact if_neg hb
          have fin := q D0 (.dK kvs) _ (flat kvs) J2 ι2 S4 (if_pos rfl) rfl ⟨kvs, upd_same, rfl⟩ rl
          rw [eH] at fin
          exact fin
        · have pb : Post G B ρ stk σ W (if ks.Nodup ∧ ks.length ≤ 15 then .ok (.n .dct ds) s1 else .bad) (KR G B ρ stk σ Q) := pb
          rw [if_neg hc] at pb
          exact pb.elim⟩
  exact tp_mono ms σ _ _ _ (fun ps H' ⟨a, kvs, e, hl, q⟩ => ⟨a, kvs, pflat_kvs ps kvs e, hl, q⟩) key
def mDct0 : MR := fun _ st => .ok (.n .dct []) st
theorem e_dct0 : PE X (.Dict [] [] pos) (tR G W mDct0) := by
  refine pe_dnewK.weak ?_
  rintro σ H Q ⟨B, ρ, st, stk, ⟨J, ι, S⟩, p⟩ a ha
  exact p a (.dK []) H [] J ι S ha rfl ⟨[], upd_same, rfl⟩ rfl
end
end Sm

end

section
set_option Elab.async false
set_option linter.all false
set_option maxRecDepth 100000
set_option maxHeartbeats 4000000
namespace Sm
open PySem PySem.Spec PyProof.Rows L2
theorem lcL_filter {T : D → En → Option En} {tt : MT} {te : ME} {ρ0 : En} {s : Sto} {g : D → D} {p : D → Bool} : ∀ (l : List D), (∀ d ∈ l, ∃ ρ1, T d ρ0 = some ρ1 ∧ tt ρ1 s = .ok (p d) s ∧ (p d = true → te ρ1 s = .ok (g d) s)) → lcL T tt te ρ0 l s = .ok ((l.filter p).map g) s
  | [], _ => rfl
  | d :: l, h => by
    obtain ⟨ρ1, e1, e2, e3⟩ := h d List.mem_cons_self
    have ih := lcL_filter l fun x hx => h x (List.mem_cons_of_mem _ hx)
    unfold lcL
    cases hp : p d with
    | true =>
      rw [hp] at e2
      simp [e1, e2, e3 hp, ih, Res.bind, hp]
    | false =>
      rw [hp] at e2
      simp [e1, e2, ih, Res.bind, hp]
theorem lcL_map {T : D → En → Option En} {te : ME} {ρ0 : En} {s : Sto} {g : D → D} (l : List D) (h : ∀ d ∈ l, ∃ ρ1, T d ρ0 = some ρ1 ∧ te ρ1 s = .ok (g d) s) : lcL T mYes te ρ0 l s = .ok (l.map g) s := by
  have := lcL_filter (T := T) (tt := mYes) (te := te) (ρ0 := ρ0) (s := s) (g := g) (p := fun _ => true) l fun d hd => by
    obtain ⟨ρ1, e1, e2⟩ := h d hd
    exact ⟨ρ1, e1, rfl, fun _ => e2⟩
  rw [this, List.filter_eq_self.mpr (fun _ _ => rfl)]
theorem mLc_of {src : ML} {T : D → En → Option En} {own : List Nat} {tt : MT} {te : ME} {ρ : En} {st s s' : Sto} {l ys : List D} (h : src ρ st = .ok l s) (hl : l.length ≤ 1000) (h2 : lcL T tt te (wipeE ρ own) l s = .ok ys s') : mLc src T own tt te ρ st = .ok (.n .lst ys) s' := by
  unfold mLc
  rw [h]
  have : l.length ≤ lim := by unfold lim; omega
  show (if l.length ≤ lim then _ else _) = _
  rw [if_pos this, h2]
theorem bls_all (l : List Bool) : allO ((l.map D.bl).map blD) = some l := by
  induction l with
  | nil => rfl
  | cons i l ih =>
    show (allO ((l.map D.bl).map blD)).map (i :: ·) = _
    rw [ih]
    rfl
theorem strs_all (l : List (List Nat)) : allO ((l.map D.str).map strD) = some l := by
  induction l with
  | nil => rfl
  | cons i l ih =>
    show (allO ((l.map D.str).map strD)).map (i :: ·) = _
    rw [ih]
    rfl
theorem oAll_of {s : Sto} (l : List Bool) : oAll s (.box .lst (l.map D.bl)) = some (.v (.bl (l.all id))) := by
  unfold oAll
  simp only [vw, bls_all, Option.map_some]
theorem oIn_sign {s : Sto} (c : Nat) (z : List Nat) : oIn s (.str [c]) (.str z) = some (.bl (decide (c ∈ z))) := rfl
theorem oLen_str {s : Sto} {z : List Nat} (h : z.length ≤ 1000) : oLen s (.str z) = some (.v (.int z.length)) := by
  have : z.length ≤ lim := by unfold lim; omega
  show (if z.length ≤ lim then _ else _) = _
  rw [if_pos this]
theorem joinL_len (ys : List (List Nat)) : (TL.joinL [] ys).length = (ys.map (·.length)).sum := by
  induction ys with
  | nil => rfl
  | cons y ys ih =>
    cases ys with
    | nil => simp [TL.joinL]
    | cons a r =>
      show (y ++ ([] ++ TL.joinL [] (a :: r))).length = _
      rw [List.length_append, List.nil_append, ih]
      rfl
theorem joinL_flat (ys : List (List Nat)) : TL.joinL [] ys = ys.flatten := by
  induction ys with
  | nil => rfl
  | cons y ys ih =>
    cases ys with
    | nil => simp [TL.joinL]
    | cons a r =>
      show y ++ ([] ++ TL.joinL [] (a :: r)) = _
      rw [ih]
      rfl
/-- ''.join(list of texts) -/
theorem join_of {s : Sto} (ys : List (List Nat)) (h : (ys.map (·.length)).sum ≤ 1000) : oJoin s [] (.box .lst (ys.map D.str)) = some (.v (.str ys.flatten)) := by
  unfold oJoin
  simp only [vw, strs_all]
  have h2 : (ys.map (·.length)).sum + ys.length * ([] : List Nat).length ≤ lim := by
    show _ + ys.length * 0 ≤ lim
    unfold lim
    omega
  rw [if_pos h2]
  have e : Txt.join (toS []) (ys.map toS) = SX.S ys.flatten := (SX.join_S [] ys).trans (by rw [joinL_flat])
  rw [e]
  rfl
/-- letters and figures drawn from a purse -/
theorem lc_draw {P : Nat → Prop} {c : Int} {q : Nat} {te : ME} {ρ0 : En} {i many : Nat} {F : MF} (hF : F = runF 5 (takeB c)) (hc : 0 ≤ c) (hc2 : c < 1000000) (hm : 0 < many) (hm2 : many < 1073741824)
    (hte : ∀ x s d s', F [.ref q, .int many] s = .ok (.int d) s' → 0 ≤ d → d < many → ∃ k : Nat, P k ∧ te (ρ0.set i (.val x)) s = .ok (.str [k]) s') :
    ∀ (l : List D) (s : Sto) (m : Nat), m + l.length < 1000000 → Pu s q m → ∃ (zs : List Nat) (s' : Sto), lcL (gpName i) mYes te ρ0 l s = .ok (zs.map fun k => .str [k]) s' ∧ zs.length = l.length ∧ Pu s' q (m + l.length) ∧ Fr q s s' ∧ ∀ k ∈ zs, P k
  | [], s, m, _, p => ⟨[], s, rfl, rfl, p, Fr.refl, fun _ h => by cases h⟩
  | x :: l, s, m, h, p => by
    simp only [List.length_cons] at h
    obtain ⟨d, s1, e1, lo, hi, p1, f1⟩ := take_ok (c := c) (many := many) hc hc2 (by omega) (by omega) (by omega) p
    obtain ⟨k, hk, e2⟩ := hte x s d s1 (by rw [hF]; exact e1) lo hi
    obtain ⟨zs, s2, e3, hl, p2, f2, hP⟩ := lc_draw hF hc hc2 hm hm2 hte l s1 (m + 1) (by omega) p1
    refine ⟨k :: zs, s2, ?_, by simp [hl], by simp only [List.length_cons]; rw [show m + (l.length + 1) = m + 1 + l.length by omega]; exact p2, f1.trans f2, fun y hy => by
      rcases List.mem_cons.mp hy with rfl | hy
      · exact hk
      · exact hP y hy⟩
    unfold lcL
    simp [gpName, mYes, Res.bind, e2, e3]
theorem flat1 (zs : List Nat) : (zs.map fun k => [k]).flatten = zs := by
  induction zs with
  | nil => rfl
  | cons z zs ih => simpa using ih
theorem sum1 (zs : List Nat) : ((zs.map fun k => [k]).map (·.length)).sum = zs.length := by
  induction zs with
  | nil => rfl
  | cons z zs ih =>
    simp only [List.map_cons, List.sum_cons, ih, List.length_cons, List.length_nil]
    omega
end Sm
namespace Sm
open PySem PySem.Spec PyProof.Rows L2
def strP (z : List Nat) : PyData := .str ⟨z.toArray⟩
theorem py_strs {s : Sto} (n : Nat) (l : List (List Nat)) : allO ((l.map D.str).map (py s (n + 1))) = some (l.map strP) := by
  induction l with
  | nil => rfl
  | cons z l ih =>
    show (allO ((l.map D.str).map (py s (n + 1)))).map (strP z :: ·) = _
    rw [ih]
    rfl
theorem strs_flat (l : List (List Nat)) (h : ∀ z ∈ l, PyData.strOk ⟨z.toArray⟩ = true) : PyData.canLayAll0 (l.map strP) = true ∧ PyData.depthAll (l.map strP) = 0 := by
  induction l with
  | nil => exact ⟨by simp [PyData.canLayAll0], by simp [PyData.depthAll]⟩
  | cons z l ih =>
    have ih := ih fun x hx => h x (List.mem_cons_of_mem _ hx)
    have hz := h z List.mem_cons_self
    exact ⟨by simp [PyData.canLayAll0, PyData.canLay0, strP, ih.1, hz], by simp [PyData.depthAll, PyData.depth, strP, ih.2]⟩
theorem oEq_strs_nil {s : Sto} (l : List (List Nat)) (hl : ∀ z ∈ l, PyData.strOk ⟨z.toArray⟩ = true) : oEq s (.box .lst (l.map D.str)) (.box .lst []) = some (.bl l.isEmpty) := by
  have e1 : py s fuel (.box .lst (l.map D.str)) = some (.list (l.map strP)) := by
    show (allO ((l.map D.str).map (py s 63))).map PyData.list = _
    rw [py_strs 62]
    rfl
  have e2 : py s fuel (.box .lst []) = some (.list []) := rfl
  have h := strs_flat l hl
  have s1 : SeqAt.shaped (.list (l.map strP)) = true := by
    unfold SeqAt.shaped
    simp [PyData.canLay0, PyData.depth, h.1, h.2]
  have s2 : SeqAt.shaped (.list []) = true := by decide
  have e3 : PyData.eqv (.list (l.map strP)) (.list []) = l.isEmpty := by
    cases l with
    | nil => simp [PyData.eqv, PyData.eqvAll]
    | cons z l => simp [PyData.eqv, PyData.eqvAll]
  have e4 : oEqB s (.box .lst (l.map D.str)) (.box .lst []) = some l.isEmpty := by
    show (match oEqS s (.box .lst (l.map D.str)) (.box .lst []) with
      | some r => some r
      | none => oEqD s (.box .lst (l.map D.str)) (.box .lst [])) = _
    have : oEqS s (.box .lst (l.map D.str)) (.box .lst []) = none := rfl
    rw [this]
    show oEqD s (.box .lst (l.map D.str)) (.box .lst []) = _
    unfold oEqD
    rw [e1, e2]
    simp only [s1, s2, Bool.and_self, if_true, e3]
  unfold oEq
  rw [e4]
  rfl
theorem oEq_len {s : Sto} {z : List Nat} (h : z.length ≤ 1000) : z.length ≤ lim := by unfold lim; omega
end Sm
namespace Sm
open PySem PySem.Spec PyProof.Rows L2
theorem lim_of {n : Nat} (h : n ≤ 100000) : n ≤ lim := by unfold lim; omega
theorem add_str {s : Sto} {a b : List Nat} (h : a.length + b.length ≤ 100000) : oAdd s (.str a) (.str b) = some (.v (.str (a ++ b))) := by
  have e : oAddS s (.str a) (.str b) = some (.str (a ++ b)) := by
    show (if a.length + b.length ≤ lim then some (D.str (a ++ b)) else none) = _
    rw [if_pos (lim_of h)]
  simp only [oAdd, orO, asR, oI0, e, Option.map_some, Option.map_none]
theorem add_int {s : Sto} {i j : Int} : oAdd s (.int i) (.int j) = some (.v (.int (i + j))) := rfl
theorem add_lst {s : Sto} {a b : List D} (h : a.length + b.length ≤ 100000) : oAdd s (.box .lst a) (.box .lst b) = some (.n .lst (a ++ b)) := by
  have e : oCat s (.box .lst a) (.box .lst b) = some (.n .lst (a ++ b)) := by
    show (if a.length + b.length ≤ lim then some (Rr.n .lst (a ++ b)) else none) = _
    rw [if_pos (lim_of h)]
  simp only [oAdd, orO, asR, oI0, oAddS, e, Option.map_none]
theorem sl_str {s : Sto} {z : List Nat} {lo hi : Option Int} (h : z.length ≤ 100000) : oSl s (.str z) lo hi = some (.v (.str (cut z lo hi))) := by
  show (if z.length ≤ lim then some (Rr.v (D.str (cut z lo hi))) else none) = _
  rw [if_pos (lim_of h)]
theorem cut_len {α : Type} (z : List α) (lo hi : Option Int) : (cut z lo hi).length ≤ z.length := by
  unfold cut
  rw [List.length_take, List.length_drop]
  omega
theorem cut_mem {α : Type} {z : List α} {lo hi : Option Int} {c : α} (h : c ∈ cut z lo hi) : c ∈ z := by
  unfold cut at h
  exact List.mem_of_mem_drop (List.mem_of_mem_take h)
theorem ix_sign {s : Sto} {z : List Nat} {d : Int} (h0 : 0 ≤ d) (h : d < z.length) (hl : z.length ≤ 100000) : ∃ c ∈ z, oIx s (.str z) (.int d) = some (.str [c]) := by
  have hj : d.toNat < z.length := by omega
  refine ⟨z[d.toNat], List.getElem_mem hj, ?_⟩
  show (if z.length ≤ lim then (atI z d).map fun c => D.str [c] else none) = _
  rw [if_pos (lim_of hl)]
  unfold atI ixN
  rw [if_pos h0, if_pos h]
  simp [hj]
/-- a thing of a list, by its place -/
theorem ix_lst {s : Sto} {l : List D} {d : Int} (h0 : 0 ≤ d) (h : d < l.length) : ∃ x ∈ l, oIx s (.box .lst l) (.int d) = some x := by
  have hj : d.toNat < l.length := by omega
  refine ⟨l[d.toNat], List.getElem_mem hj, ?_⟩
  show atI l d = _
  unfold atI ixN
  rw [if_pos h0, if_pos h]
  simp [hj]
def Tx (n : Nat) (z : List Nat) : Prop := z.length ≤ n ∧ ∀ c ∈ z, c < 1114112
theorem forL_cons {T : D → En → Option En} {body : MS} {d : D} {l : List D} {ρ ρ1 ρ2 : En} {s s2 : Sto} (h : T d ρ = some ρ1) (h2 : body ρ1 s = .nx ρ2 s2) : forL T body (d :: l) ρ s = forL T body l ρ2 s2 := by
  conv => lhs; unfold forL
  simp only [h, h2]
theorem for_of {src : ML} {T : D → En → Option En} {body : MS} {ρ ρ' : En} {st s1 s2 : Sto} {l : List D} (h : src ρ st = .ok l s1) (h2 : forL T body l ρ s1 = .nx ρ' s2) : sForG src T body ρ st = .nx ρ' s2 := by
  unfold sForG
  rw [h]
  exact h2
theorem tx_int {i : Int} (h : i.natAbs < 10 ^ 40) {s : Sto} : ∃ z, oStr1 s (.int i) = some (.v (.str z)) ∧ Tx 41 z := by
  obtain ⟨h1, h2⟩ := int_len i h
  refine ⟨txt (toString i), ?_, ?_, ?_⟩
  · show (if bigI i = true then some (Rr.v (D.str (txt (toString i)))) else none) = _
    have : bigI i = true := decide_eq_true h2
    rw [if_pos this]
  · have e : (txt (toString i)).length = (toString i : Str).length := (TL.len_tl _).symm
    rw [e]
    exact h1
  · intro c hc
    have e : txt (Str.ofString (toString i)) = (toString i : String).toList.map Char.toNat := TL.tl_ofString _
    have hc : c ∈ txt (Str.ofString (toString i)) := hc
    rw [e] at hc
    obtain ⟨ch, _, rfl⟩ := List.mem_map.mp hc
    have := ch.valid
    rcases this with h | ⟨_, h⟩
    · exact Nat.lt_trans h (by decide)
    · exact h
end Sm

end

section
set_option Elab.async false
set_option linter.all false
set_option maxRecDepth 100000
namespace Law
open PySem PySem.Spec PyProof.Rows L2 Sm
def p_law_purse_0 : MS := (sRet (mS (mLst (mCons (mV (m2R oMax2 (mC (.int 0)) (m2V oSub (mPeek 0) (m2V oPow (mC (.int 10)) (mC (.int 18)))))) (mCons (m2V oMod (mPeek 0) (mC (.int 2147483629))) (mCons (mC (.int 0)) mNil))))))
def b_law_purse : MS := p_law_purse_0
def m_law_purse : MF := runF 1 b_law_purse

def p_law_take_0a_0 : MS := (sAsg 4 (m2V oMod (m2V oIx (mPeek 0) (mC (.int 0))) (mPeek 1)))
def p_law_take_0a_1 : MS := (sSetIx (mPeek 0) (mC (.int 0)) (m2V oDiv (m2V oIx (mPeek 0) (mC (.int 0))) (mPeek 1)))
def p_law_take_0a_2 : MS := (sRet (mVar 4))
def p_law_take_0 : MS := (sIf (mTest (m2V oGt (m2V oIx (mPeek 0) (mC (.int 0))) (mC (.int 0)))) (sSeq p_law_take_0a_0 (sSeq p_law_take_0a_1 p_law_take_0a_2)) sNx)
def p_law_take_1 : MS := (sSetIx (mPeek 0) (mC (.int 2)) (mV (m2R oAdd (m2V oIx (mPeek 0) (mC (.int 2))) (mC (.int 1)))))
def p_law_take_2 : MS := (sAsg 2 (m2V oMod (m2V oPow (mV (m2R oAdd (mV (m2R oAdd (m2V oIx (mPeek 0) (mC (.int 1))) (m2V oMulI (mC (.int 7919)) (m2V oIx (mPeek 0) (mC (.int 2)))))) (mC (.int 11)))) (mC (.int 5))) (mC (.int 2147483647))))
def p_law_take_3 : MS := (sAsg 3 (m2V oMod (m2V oPow (mV (m2R oAdd (mV (m2R oAdd (m2V oDiv (mPeek 2) (mC (.int 8))) (m2V oMulI (m2V oMulI (mC (.int 104729)) (m2V oIx (mPeek 0) (mC (.int 2)))) (m2V oIx (mPeek 0) (mC (.int 2)))))) (mC (.int 3)))) (mC (.int 3))) (mC (.int 2147483587))))
def p_law_take_4 : MS := (sRet (m2V oMod (mV (m2R oAdd (m2V oDiv (mPeek 2) (mC (.int 4))) (m2V oMulI (mC (.int 536870909)) (m2V oDiv (mPeek 3) (mC (.int 4)))))) (mPeek 1)))
def b_law_take : MS := (sSeq p_law_take_0 (sSeq p_law_take_1 (sSeq p_law_take_2 (sSeq p_law_take_3 p_law_take_4))))
def m_law_take : MF := runF 5 b_law_take

def p_law_near_0 : MS := (sAsg 2 (mC (.str [32, 33, 34, 35, 36, 38, 39, 40, 41, 42, 43, 44, 45, 46, 47, 48, 49, 50, 51, 52, 53, 54, 55, 56, 57, 58, 59, 60, 61, 62, 63, 64, 65, 66, 67, 90, 91, 92, 93, 94, 95, 96, 97, 98, 99, 100, 101, 102, 103, 104, 105, 106, 107, 108, 109, 110, 111, 112, 113, 114, 115, 116, 117, 118, 119, 120, 121, 122, 123, 124, 125, 126, 10])))
def p_law_near_1_0 : MS := (sAsg 4 (mCall m_law_take [] (mCons (mVar 0) (mCons (mV (m2R oAdd (mV (m1R oLen (mPeek 1))) (mC (.int 1)))) mNil))))
def p_law_near_1_1 : MS := (sAsg 5 (mCall m_law_take [] (mCons (mVar 0) (mCons (mC (.int 4)) mNil))))
def p_law_near_1_2 : MS := (sAsg 6 (m2V oIx (mV (m2R oAdd (mPeek 2) (mC (.str [48, 49, 50, 51, 52, 53, 54, 55, 56, 57, 45, 46, 97, 47])))) (mCall m_law_take [] (mCons (mVar 0) (mCons (mV (m2R oAdd (mV (m1R oLen (mPeek 2))) (mC (.int 14)))) mNil)))))
def p_law_near_1_3a_0 : MS := (sAsg 1 (mV (m2R oAdd (mV (m2R oAdd (mV (mSl (mPeek 1) mNoPart (mPart (mPeek 4)))) (mPeek 6))) (mV (mSl (mPeek 1) (mPart (mPeek 4)) mNoPart)))))
def p_law_near_1_3 : MS := (sIf (mTest (m2V oEq (mPeek 5) (mC (.int 0)))) p_law_near_1_3a_0 sNx)
def p_law_near_1_4a_0 : MS := (sAsg 1 (mV (m2R oAdd (mV (mSl (mPeek 1) mNoPart (mPart (mPeek 4)))) (mV (mSl (mPeek 1) (mPart (mV (m2R oAdd (mPeek 4) (mC (.int 1))))) mNoPart)))))
def p_law_near_1_4 : MS := (sIf (mTest (m2V oEq (mPeek 5) (mC (.int 1)))) p_law_near_1_4a_0 sNx)
def p_law_near_1_5a_0 : MS := (sAsg 1 (mV (m2R oAdd (mV (m2R oAdd (mV (mSl (mPeek 1) mNoPart (mPart (mPeek 4)))) (mPeek 6))) (mV (mSl (mPeek 1) (mPart (mV (m2R oAdd (mPeek 4) (mC (.int 1))))) mNoPart)))))
def p_law_near_1_5 : MS := (sIf (mTest (m2V oGt (mPeek 5) (mC (.int 1)))) p_law_near_1_5a_0 sNx)
def p_law_near_1 : MS := (sForG (lR1 (mCons (mV (m2R oAdd (mC (.int 1)) (mCall m_law_take [] (mCons (mVar 0) (mCons (mC (.int 2)) mNil))))) mNil)) (gpName 3) (sSeq p_law_near_1_0 (sSeq p_law_near_1_1 (sSeq p_law_near_1_2 (sSeq p_law_near_1_3 (sSeq p_law_near_1_4 p_law_near_1_5))))))
def p_law_near_2 : MS := (sRet (mVar 1))
def b_law_near : MS := (sSeq p_law_near_0 (sSeq p_law_near_1 p_law_near_2))
def m_law_near : MF := runF 7 b_law_near

def p_law_text_0 : MS := (sAsg 1 (mCall m_law_take [] (mCons (mVar 0) (mCons (mC (.int 4)) mNil))))
def p_law_text_1 : MS := (sAsg 2 (m2V oIx (mV (mLst (mCons (mCall m_law_take [] (mCons (mVar 0) (mCons (mC (.int 9)) mNil))) (mCons (mV (m2R oAdd (mC (.int 28)) (mCall m_law_take [] (mCons (mVar 0) (mCons (mC (.int 5)) mNil))))) mNil)))) (mCall m_law_take [] (mCons (mVar 0) (mCons (mC (.int 2)) mNil)))))
def p_law_text_2a_0 : MS := (sRet (mV (mSM1 oJoin (mC (.str [])) (mV (mLc (lR1 (mCons (m2V oMod (mPeek 2) (mC (.int 9))) mNil)) (gpName 4) [4] mYes (m2V oIx (mC (.str [97, 98, 99, 100, 101, 102, 103, 104, 105, 106, 107, 108, 109, 110, 111, 112, 113, 114, 115, 116, 117, 118, 119, 120, 121, 122])) (mCall m_law_take [] (mCons (mVar 0) (mCons (mC (.int 26)) mNil)))))))))
def p_law_text_2 : MS := (sIf (mTest (m2V oEq (mPeek 1) (mC (.int 0)))) p_law_text_2a_0 sNx)
def p_law_text_3 : MS := (sAsg 3 (mV (mSM1 oJoin (mC (.str [])) (mV (mLc (lR1 (mCons (mVar 2) mNil)) (gpName 4) [4] mYes (m2V oIx (mC (.str [48, 49, 50, 51, 52, 53, 54, 55, 56, 57])) (mCall m_law_take [] (mCons (mVar 0) (mCons (mC (.int 10)) mNil)))))))))
def p_law_text_4 : MS := (sRet (mIf (mTest (m2V oEq (mPeek 1) (mC (.int 1)))) (mCall m_law_near [] (mCons (mVar 0) (mCons (mVar 3) mNil))) (mVar 3)))
def b_law_text : MS := (sSeq p_law_text_0 (sSeq p_law_text_1 (sSeq p_law_text_2 (sSeq p_law_text_3 p_law_text_4))))
def m_law_text : MF := runF 5 b_law_text

def p_law_cell_0a_0 : MS := (sRet (m2V oIx (mPeek 0) (mPeek 1)))
def p_law_cell_0 : MS := (sIf (mTest (m2V oLt (mPeek 1) (mV (m1R oLen (mPeek 0))))) p_law_cell_0a_0 sNx)
def p_law_cell_1 : MS := (sRet (mV (m2R oAdd (m2V oMulI (mC (.int 15485863)) (mPeek 1)) (mC (.int 11)))))
def b_law_cell : MS := (sSeq p_law_cell_0 p_law_cell_1)
def m_law_cell : MF := runF 2 b_law_cell

def p_law_odd_0 : MS := (sAsg 1 (mV (mLst (mCons (mC .non) (mCons (mC (.bl true)) (mCons (mC (.bl false)) (mCons (mC (.int 0)) (mCons (m1V oNeg (mC (.int 1))) (mCons (mC (.int 80)) (mCons (mC (.int 73049)) (mCons (m2V oPow (mC (.int 10)) (mC (.int 29))) (mCons (m1V oNeg (m2V oPow (mC (.int 10)) (mC (.int 29)))) (mCons (mC (.str [])) (mCons (mC (.str [97])) (mCons (mC (.str [49, 50, 97])) (mCons (mC (.str [49, 57, 55, 50, 45, 48, 51, 45, 48, 53])) (mCons (mV (mLst mNil)) (mCons (mV (mLst (mCons (mC (.int 0)) mNil))) (mCons (mV (mLst (mCons (mC (.str [97])) mNil))) mNil)))))))))))))))))))
def p_law_odd_1 : MS := (sAsg 1 (mV (m2R oAdd (mPeek 1) (mV (mLst (mCons (mTup mNil) (mCons (mTup (mCons (mC (.int 0)) mNil)) (mCons (mTup (mCons (mC (.str [97])) (mCons (mC (.int 5)) mNil))) (mCons (mV mDct0) (mCons (mV (mDct (flatM [((mC (.str [97])), (mC (.int 1)))]))) (mCons (mV (mDct (flatM [((mC (.int 7)), (mC .non))]))) (mCons (mV (mLst (mCons (mV (mLst (mCons (mV (mLst (mCons (mV (mLst (mCons (mV (mLst (mCons (mV (mLst (mCons (mC (.str [97])) mNil))) mNil))) mNil))) mNil))) mNil))) mNil))) (mCons (mC (.str [97, 110, 110, 97])) (mCons (mC (.str [114, 111, 108, 108, 32, 97, 32, 48, 32, 48, 32, 102, 117, 108, 108])) mNil))))))))))))))
def p_law_odd_2 : MS := (sRet (m2V oIx (mPeek 1) (mCall m_law_take [] (mCons (mVar 0) (mCons (mC (.int 25)) mNil)))))
def b_law_odd : MS := (sSeq p_law_odd_0 (sSeq p_law_odd_1 p_law_odd_2))
def m_law_odd : MF := runF 2 b_law_odd

def p_law_is_whole_0 : MS := (sRet (mAndV (m1V (oIsi "int") (mPeek 0)) (mAndV (m1 oNot (m1V (oIsi "bool") (mPeek 0))) (mChain oLe oLe (mPeek 1) (mPeek 0) (mPeek 2)))))
def b_law_is_whole : MS := p_law_is_whole_0
def m_law_is_whole : MF := runF 3 b_law_is_whole

def p_law_is_name_0a_0 : MS := (sRet (mC (.bl false)))
def p_law_is_name_0 : MS := (sIf (mOr (mNot (mTest (m1V (oIsi "str") (mPeek 0)))) (mNot (mTest (mChain oLt oLt (mC (.int 0)) (mV (m1R oLen (mPeek 0))) (mC (.int 7)))))) p_law_is_name_0a_0 sNx)
def p_law_is_name_1 : MS := (sRet (m2V oEq (mV (mLc (lSeq (mVar 0)) (gpName 1) [1] (mNot (mTest (mChain oLe oLe (mC (.str [97])) (mPeek 1) (mC (.str [122]))))) (mVar 1))) (mV (mLst mNil))))
def b_law_is_name : MS := (sSeq p_law_is_name_0 p_law_is_name_1)
def m_law_is_name : MF := runF 2 b_law_is_name

def p_law_number_0a_0 : MS := (sRet (mC .non))
def p_law_number_0 : MS := (sIf (mOr (mNot (mTest (m1V (oIsi "str") (mPeek 0)))) (mOr (mNot (mTest (mChain oLt oLt (mC (.int 0)) (mV (m1R oLen (mPeek 0))) (mC (.int 31))))) (mAnd (mTest (m2V oEq (m2V oIx (mPeek 0) (mC (.int 0))) (mC (.str [48])))) (mTest (m2V oNe (mPeek 0) (mC (.str [48]))))))) p_law_number_0a_0 sNx)
def p_law_number_1 : MS := (sAsg 3 (mC (.int 0)))
def p_law_number_2_0a_0 : MS := (sRet (mC .non))
def p_law_number_2_0 : MS := (sIf (mNot (mTest (mChain oLe oLe (mC (.str [48])) (mPeek 4) (mC (.str [57]))))) p_law_number_2_0a_0 sNx)
def p_law_number_2_1 : MS := (sAsg 3 (mV (m2R oAdd (m2V oMulI (mC (.int 10)) (mPeek 3)) (mV (mSM1 oFind (mC (.str [48, 49, 50, 51, 52, 53, 54, 55, 56, 57])) (mPeek 4))))))
def p_law_number_2 : MS := (sForG (lSeq (mVar 0)) (gpName 4) (sSeq p_law_number_2_0 p_law_number_2_1))
def p_law_number_3 : MS := (sRet (mIf (mTest (mChain oLe oLe (mPeek 1) (mPeek 3) (mPeek 2))) (mVar 3) (mC .non)))
def b_law_number : MS := (sSeq p_law_number_0 (sSeq p_law_number_1 (sSeq p_law_number_2 p_law_number_3)))
def m_law_number : MF := runF 5 b_law_number

def p_is_whole_0 : MS := (sRet (mAndV (m1V (oIsi "int") (mPeek 0)) (mAndV (m1 oNot (m1V (oIsi "bool") (mPeek 0))) (mChain oLe oLe (mPeek 1) (mPeek 0) (mPeek 2)))))
def b_is_whole : MS := p_is_whole_0
def m_is_whole : MF := runF 3 b_is_whole

def p_has_only_0 : MS := (sRet (mV (m1R oAll (mV (mLc (lSeq (mVar 0)) (gpName 2) [2] mYes (m2V oIn (mPeek 2) (mPeek 1)))))))
def b_has_only : MS := p_has_only_0
def m_has_only : MF := runF 3 b_has_only

def p_is_name_0 : MS := (sRet (mAndV (m1V (oIsi "str") (mPeek 0)) (mAndV (mChain oLe oLe (mC (.int 1)) (mV (m1R oLen (mPeek 0))) (mC (.int 6))) (mCall m_has_only [] (mCons (mVar 0) (mCons (mC (.str [97, 98, 99, 100, 101, 102, 103, 104, 105, 106, 107, 108, 109, 110, 111, 112, 113, 114, 115, 116, 117, 118, 119, 120, 121, 122])) mNil))))))
def b_is_name : MS := p_is_name_0
def m_is_name : MF := runF 1 b_is_name

def p_is_plain_0a_0 : MS := (sRet (mC (.bl false)))
def p_is_plain_0 : MS := (sIf (mOr (mNot (mTest (m1V (oIsi "str") (mPeek 0)))) (mOr (mNot (mTest (mChain oLe oLe (mC (.int 1)) (mV (m1R oLen (mPeek 0))) (mC (.int 30))))) (mNot (mTest (mCall m_has_only [] (mCons (mVar 0) (mCons (mC (.str [48, 49, 50, 51, 52, 53, 54, 55, 56, 57])) mNil))))))) p_is_plain_0a_0 sNx)
def p_is_plain_1 : MS := (sRet (mOrV (m2V oEq (mPeek 0) (mC (.str [48]))) (m2V oNe (m2V oIx (mPeek 0) (mC (.int 0))) (mC (.str [48])))))
def b_is_plain : MS := (sSeq p_is_plain_0 p_is_plain_1)
def m_is_plain : MF := runF 1 b_is_plain

def p_number_in_0a_0 : MS := (sRet (mC .non))
def p_number_in_0 : MS := (sIf (mNot (mTest (mCall m_is_plain [] (mCons (mVar 0) mNil)))) p_number_in_0a_0 sNx)
def p_number_in_1 : MS := (sAsg 3 (mV (m1R oInt1 (mPeek 0))))
def p_number_in_2 : MS := (sRet (mIf (mTest (mChain oLe oLe (mPeek 1) (mPeek 3) (mPeek 2))) (mVar 3) (mC .non)))
def b_number_in : MS := (sSeq p_number_in_0 (sSeq p_number_in_1 p_number_in_2))
def m_number_in : MF := runF 4 b_number_in

def p_law_0_0 : MS := (sAsg 2 (mCall m_law_purse [] (mCons (mCall m_law_cell [] (mCons (mVar 0) (mCons (mVar 1) mNil))) mNil)))
def p_law_0_1 : MS := (sAsg 3 (m2V oIx (mV (mLst (mCons (m2V oSub (mCall m_law_take [] (mCons (mVar 2) (mCons (mC (.int 41)) mNil))) (mC (.int 20))) (mCons (mCall m_law_take [] (mCons (mVar 2) (mCons (m2V oPow (mC (.int 10)) (mC (.int 9))) mNil))) (mCons (m2V oPow (mC (.int 10)) (mC (.int 28))) mNil))))) (mCall m_law_take [] (mCons (mVar 2) (mCons (mC (.int 3)) mNil)))))
def p_law_0_2 : MS := (sAsg 4 (mV (m2R oAdd (mPeek 3) (m2V oIx (mV (mLst (mCons (m2V oSub (mCall m_law_take [] (mCons (mVar 2) (mCons (mC (.int 9)) mNil))) (mC (.int 2))) (mCons (mCall m_law_take [] (mCons (mVar 2) (mCons (m2V oPow (mC (.int 10)) (mC (.int 9))) mNil))) (mCons (m2V oPow (mC (.int 10)) (mC (.int 29))) mNil))))) (mCall m_law_take [] (mCons (mVar 2) (mCons (mC (.int 3)) mNil)))))))
def p_law_0_3 : MS := (sAsg 5 (mCall m_law_text [] (mCons (mVar 2) mNil)))
def p_law_0_4 : MS := (sAsg 6 (mV (mLst (mCons (m2V oSub (mPeek 3) (mC (.int 1))) (mCons (mVar 3) (mCons (mVar 4) (mCons (mV (m2R oAdd (mPeek 4) (mC (.int 1)))) (mCons (mCall m_law_odd [] (mCons (mVar 2) mNil)) (mCons (mVar 5) mNil)))))))))
def p_law_0_5 : MS := (sAsg 6 (mV (m2R oAdd (mPeek 6) (mV (mLst (mCons (mV (m1R oStr1 (mPeek 3))) (mCons (mV (m1R oStr1 (mPeek 4))) (mCons (mV (m1R oStr1 (mV (m2R oAdd (mPeek 4) (mC (.int 1)))))) (mCons (mV (m2R oAdd (mC (.str [48])) (mV (m1R oStr1 (mPeek 3))))) mNil)))))))))
def p_law_0_6_0 : MS := (sAsg 8 (mV (mLst (mCons (mCall m_law_is_whole [] (mCons (mVar 7) (mCons (mVar 3) (mCons (mVar 4) mNil)))) (mCons (mCall m_law_is_name [] (mCons (mVar 7) mNil)) (mCons (mCall m_law_number [] (mCons (mVar 7) (mCons (mVar 3) (mCons (mVar 4) mNil)))) mNil))))))
def p_law_0_6_1a_0 : MS := (sRet (mC (.bl false)))
def p_law_0_6_1 : MS := (sIf (mTest (m2V oNe (mV (m1R oRepr (mV (mLst (mCons (mCall m_is_whole [] (mCons (mVar 7) (mCons (mVar 3) (mCons (mVar 4) mNil)))) (mCons (mCall m_is_name [] (mCons (mVar 7) mNil)) (mCons (mCall m_number_in [] (mCons (mVar 7) (mCons (mVar 3) (mCons (mVar 4) mNil)))) mNil))))))) (mV (m1R oRepr (mPeek 8))))) p_law_0_6_1a_0 sNx)
def p_law_0_6 : MS := (sForG (lSeq (mVar 6)) (gpName 7) (sSeq p_law_0_6_0 p_law_0_6_1))
def p_law_0 : MS := (sForG (lR1 (mCons (mV (m2R oMax2 (mC (.int 2)) (mV (m2R oMin2 (mC (.int 30)) (mV (m1R oLen (mPeek 0))))))) mNil)) (gpName 1) (sSeq p_law_0_0 (sSeq p_law_0_1 (sSeq p_law_0_2 (sSeq p_law_0_3 (sSeq p_law_0_4 (sSeq p_law_0_5 p_law_0_6)))))))
def p_law_1 : MS := (sRet (mC (.bl true)))
def b_law : MS := (sSeq p_law_0 p_law_1)
def m_law : MF := runF 9 b_law
end Law

end

section
set_option Elab.async false
set_option linter.all false
set_option maxRecDepth 100000
set_option maxHeartbeats 4000000
namespace Law
open PySem PySem.Spec PyProof.Rows L2 Sm
def topS (i : Nat) : Stmt := PySem.Challenge.pw_filmrolls_k01_kinds_and_numbers.main.body.getD i (.Pass ⟨0, 0, 0, 0⟩)
abbrev s_law_purse : Stmt := topS 12
abbrev s_law_take : Stmt := topS 13
abbrev s_law_near : Stmt := topS 15
abbrev s_law_text : Stmt := topS 16
abbrev s_law_cell : Stmt := topS 11
abbrev s_law_odd : Stmt := topS 14
abbrev s_law_is_whole : Stmt := topS 17
abbrev s_law_is_name : Stmt := topS 18
abbrev s_law_number : Stmt := topS 19
abbrev s_is_whole : Stmt := topS 5
abbrev s_has_only : Stmt := topS 6
abbrev s_is_name : Stmt := topS 7
abbrev s_is_plain : Stmt := topS 8
abbrev s_number_in : Stmt := topS 9
abbrev s_law : Stmt := topS 20
/-! the mirrors -/
structure Ad where
  f_law_purse : Addr
  d_law_purse : FuncData
  f_law_take : Addr
  d_law_take : FuncData
  f_law_near : Addr
  d_law_near : FuncData
  f_law_text : Addr
  d_law_text : FuncData
  f_law_cell : Addr
  d_law_cell : FuncData
  f_law_odd : Addr
  d_law_odd : FuncData
  f_law_is_whole : Addr
  d_law_is_whole : FuncData
  f_law_is_name : Addr
  d_law_is_name : FuncData
  f_law_number : Addr
  d_law_number : FuncData
  f_is_whole : Addr
  d_is_whole : FuncData
  f_has_only : Addr
  d_has_only : FuncData
  f_is_name : Addr
  d_is_name : FuncData
  f_is_plain : Addr
  d_is_plain : FuncData
  f_number_in : Addr
  d_number_in : FuncData
  f_law : Addr
  d_law : FuncData
structure Txt (K : PySem.W.Frag) (mg : Str → Option Value) (A : Ad) : Prop where
  g_law_purse : mg "_law_purse" = some (.ref A.f_law_purse)
  k_law_purse : PySem.W.keepIn K (.ref A.f_law_purse) = true
  F_law_purse : Fun K "_law_purse" "_law_purse" s_law_purse A.f_law_purse A.d_law_purse
  b_law_purse : Binds K A.d_law_purse ["cell"] []
  g_law_take : mg "_law_take" = some (.ref A.f_law_take)
  k_law_take : PySem.W.keepIn K (.ref A.f_law_take) = true
  F_law_take : Fun K "_law_take" "_law_take" s_law_take A.f_law_take A.d_law_take
  b_law_take : Binds K A.d_law_take ["purse", "many"] []
  g_law_near : mg "_law_near" = some (.ref A.f_law_near)
  k_law_near : PySem.W.keepIn K (.ref A.f_law_near) = true
  F_law_near : Fun K "_law_near" "_law_near" s_law_near A.f_law_near A.d_law_near
  b_law_near : Binds K A.d_law_near ["purse", "text"] []
  g_law_text : mg "_law_text" = some (.ref A.f_law_text)
  k_law_text : PySem.W.keepIn K (.ref A.f_law_text) = true
  F_law_text : Fun K "_law_text" "_law_text" s_law_text A.f_law_text A.d_law_text
  b_law_text : Binds K A.d_law_text ["purse"] []
  g_law_cell : mg "_law_cell" = some (.ref A.f_law_cell)
  k_law_cell : PySem.W.keepIn K (.ref A.f_law_cell) = true
  F_law_cell : Fun K "_law_cell" "_law_cell" s_law_cell A.f_law_cell A.d_law_cell
  b_law_cell : Binds K A.d_law_cell ["script", "k"] []
  g_law_odd : mg "_law_odd" = some (.ref A.f_law_odd)
  k_law_odd : PySem.W.keepIn K (.ref A.f_law_odd) = true
  F_law_odd : Fun K "_law_odd" "_law_odd" s_law_odd A.f_law_odd A.d_law_odd
  b_law_odd : Binds K A.d_law_odd ["purse"] []
  g_law_is_whole : mg "_law_is_whole" = some (.ref A.f_law_is_whole)
  k_law_is_whole : PySem.W.keepIn K (.ref A.f_law_is_whole) = true
  F_law_is_whole : Fun K "_law_is_whole" "_law_is_whole" s_law_is_whole A.f_law_is_whole A.d_law_is_whole
  b_law_is_whole : Binds K A.d_law_is_whole ["thing", "low", "high"] []
  g_law_is_name : mg "_law_is_name" = some (.ref A.f_law_is_name)
  k_law_is_name : PySem.W.keepIn K (.ref A.f_law_is_name) = true
  F_law_is_name : Fun K "_law_is_name" "_law_is_name" s_law_is_name A.f_law_is_name A.d_law_is_name
  b_law_is_name : Binds K A.d_law_is_name ["thing"] []
  g_law_number : mg "_law_number" = some (.ref A.f_law_number)
  k_law_number : PySem.W.keepIn K (.ref A.f_law_number) = true
  F_law_number : Fun K "_law_number" "_law_number" s_law_number A.f_law_number A.d_law_number
  b_law_number : Binds K A.d_law_number ["thing", "low", "high"] []
  g_is_whole : mg "is_whole" = some (.ref A.f_is_whole)
  k_is_whole : PySem.W.keepIn K (.ref A.f_is_whole) = true
  F_is_whole : Fun K "is_whole" "is_whole" s_is_whole A.f_is_whole A.d_is_whole
  b_is_whole : Binds K A.d_is_whole ["thing", "low", "high"] []
  g_has_only : mg "has_only" = some (.ref A.f_has_only)
  k_has_only : PySem.W.keepIn K (.ref A.f_has_only) = true
  F_has_only : Fun K "has_only" "has_only" s_has_only A.f_has_only A.d_has_only
  b_has_only : Binds K A.d_has_only ["text", "signs"] []
  g_is_name : mg "is_name" = some (.ref A.f_is_name)
  k_is_name : PySem.W.keepIn K (.ref A.f_is_name) = true
  F_is_name : Fun K "is_name" "is_name" s_is_name A.f_is_name A.d_is_name
  b_is_name : Binds K A.d_is_name ["thing"] []
  g_is_plain : mg "is_plain" = some (.ref A.f_is_plain)
  k_is_plain : PySem.W.keepIn K (.ref A.f_is_plain) = true
  F_is_plain : Fun K "is_plain" "is_plain" s_is_plain A.f_is_plain A.d_is_plain
  b_is_plain : Binds K A.d_is_plain ["thing"] []
  g_number_in : mg "number_in" = some (.ref A.f_number_in)
  k_number_in : PySem.W.keepIn K (.ref A.f_number_in) = true
  F_number_in : Fun K "number_in" "number_in" s_number_in A.f_number_in A.d_number_in
  b_number_in : Binds K A.d_number_in ["thing", "low", "high"] []
  g_law : mg "law" = some (.ref A.f_law)
  k_law : PySem.W.keepIn K (.ref A.f_law) = true
  F_law : Fun K "law" "law" s_law A.f_law A.d_law
  b_law : Binds K A.d_law ["script"] []
  z_all : mg "all" = none
  z_bool : mg "bool" = none
  z_int : mg "int" = none
  z_isinstance : mg "isinstance" = none
  z_len : mg "len" = none
  z_max : mg "max" = none
  z_min : mg "min" = none
  z_range : mg "range" = none
  z_repr : mg "repr" = none
  z_str : mg "str" = none
  c_FIGURES : ∃ t, mg "FIGURES" = some (.str ⟨#[48, 49, 50, 51, 52, 53, 54, 55, 56, 57]⟩ t)
  c_LETTERS : ∃ t, mg "LETTERS" = some (.str ⟨#[97, 98, 99, 100, 101, 102, 103, 104, 105, 106, 107, 108, 109, 110, 111, 112, 113, 114, 115, 116, 117, 118, 119, 120, 121, 122]⟩ t)
  c_LONGEST : ∃ t, mg "LONGEST" = some (.int 6 t)
  c_MOST_FIGURES : ∃ t, mg "MOST_FIGURES" = some (.int 30 t)
section
variable {P : Program} {w : World} {K : PySem.W.Frag} {mg : Str → Option Value} {base : Heap} {G : Gm} {A : Ad}
abbrev N_law_purse : List Str := ["cell"]
theorem sc_law_purse : FnScope N_law_purse ["cell"] (defScope s_law_purse) := ⟨rfl, rfl, rfl, by decide +kernel, rfl, by decide +kernel, by decide +kernel⟩
theorem ok_law_purse (T : Txt K mg A) (hK : G.K = K) : FnG P w K mg base 1 A.f_law_purse A.d_law_purse ["cell"] (spM G 1 m_law_purse) :=
  fn_mk T.F_law_purse sc_law_purse rfl fun cdv Ar outer s H E hr gd => (s_one (s_ret (e_s (e_lst (a_cons (e_v (f := true) (e_b2 (call_max2 rfl) k_max2 T.z_max (by decide +kernel) (e_int (f := false)) (e_sub (f := false) (e_peek 0) (e_pow (f := false) (e_int (f := false)) (e_int (f := false)))))) (a_cons (e_mod (f := true) (e_peek 0) (e_int (f := false))) (a_cons (e_int (f := true)) (a_nil))))))))

abbrev N_law_take : List Str := ["purse", "many", "one", "other", "digit"]
theorem sc_law_take : FnScope N_law_take ["purse", "many"] (defScope s_law_take) := ⟨rfl, rfl, rfl, by decide +kernel, rfl, by decide +kernel, by decide +kernel⟩
theorem ok_law_take (T : Txt K mg A) (hK : G.K = K) : FnG P w K mg base 1 A.f_law_take A.d_law_take ["purse", "many"] (spM G 2 m_law_take) :=
  fn_mk T.F_law_take sc_law_take rfl fun cdv Ar outer s H E hr gd => (s_cons (s_if (c_cmp (f := true) o_gt k_gt.ok (e_ix (f := false) hK (e_peek 0) (e_int (f := false))) (e_int (f := false))) (s_cons (s_asg 4 sc_law_take.nd (e_mod (f := true) (e_ix (f := false) hK (e_peek 0) (e_int (f := false))) (e_peek 1))) (s_cons (s_setix (e_fdiv (f := true) (e_ix (f := false) hK (e_peek 0) (e_int (f := false))) (e_peek 1)) (e_peek 0) (e_int (f := false))) (s_one (s_ret (e_var (f := true) 4))))) (s_nil)) (s_cons (s_setix (e_v (f := true) (e_add hK (e_ix (f := false) hK (e_peek 0) (e_int (f := false))) (e_int (f := false)))) (e_peek 0) (e_int (f := false))) (s_cons (s_asg 2 sc_law_take.nd (e_mod (f := true) (e_pow (f := false) (e_v (f := false) (e_add hK (e_v (f := false) (e_add hK (e_ix (f := false) hK (e_peek 0) (e_int (f := false))) (e_mul (f := false) (e_int (f := false)) (e_ix (f := false) hK (e_peek 0) (e_int (f := false)))))) (e_int (f := false)))) (e_int (f := false))) (e_int (f := false)))) (s_cons (s_asg 3 sc_law_take.nd (e_mod (f := true) (e_pow (f := false) (e_v (f := false) (e_add hK (e_v (f := false) (e_add hK (e_fdiv (f := false) (e_peek 2) (e_int (f := false))) (e_mul (f := false) (e_mul (f := false) (e_int (f := false)) (e_ix (f := false) hK (e_peek 0) (e_int (f := false)))) (e_ix (f := false) hK (e_peek 0) (e_int (f := false)))))) (e_int (f := false)))) (e_int (f := false))) (e_int (f := false)))) (s_one (s_ret (e_mod (f := true) (e_v (f := false) (e_add hK (e_fdiv (f := false) (e_peek 2) (e_int (f := false))) (e_mul (f := false) (e_int (f := false)) (e_fdiv (f := false) (e_peek 3) (e_int (f := false)))))) (e_peek 1))))))))

abbrev N_law_near : List Str := ["purse", "text", "signs", "turn", "at", "way", "sign"]
theorem sc_law_near : FnScope N_law_near ["purse", "text"] (defScope s_law_near) := ⟨rfl, rfl, rfl, by decide +kernel, rfl, by decide +kernel, by decide +kernel⟩
theorem ok_law_near (T : Txt K mg A) (hK : G.K = K) : FnG P w K mg base 2 A.f_law_near A.d_law_near ["purse", "text"] (spM G 2 m_law_near) :=
  fn_mk T.F_law_near sc_law_near rfl fun cdv Ar outer s H E hr gd => (s_cons (s_asg 2 sc_law_near.nd (e_str (f := true) (l := [32, 33, 34, 35, 36, 38, 39, 40, 41, 42, 43, 44, 45, 46, 47, 48, 49, 50, 51, 52, 53, 54, 55, 56, 57, 58, 59, 60, 61, 62, 63, 64, 65, 66, 67, 90, 91, 92, 93, 94, 95, 96, 97, 98, 99, 100, 101, 102, 103, 104, 105, 106, 107, 108, 109, 110, 111, 112, 113, 114, 115, 116, 117, 118, 119, 120, 121, 122, 123, 124, 125, 126, 10]))) (s_cons (s_for (js := [3]) (passes_of rfl) rfl (i_range1 T.z_range (a_cons (e_v (f := true) (e_add hK (e_int (f := false)) (e_call (fl := false) (ok_law_take T hK) (hr.mono (by decide)) gd (takes_of rfl rfl rfl rfl) T.g_law_take T.k_law_take T.b_law_take .nil (fun _ _ => rfl) (a_cons (e_var (f := true) 0) (a_cons (e_int (f := true)) (a_nil))) (len_call (len_cons (len_cons len_nil)) rfl)))) (a_nil))) (g_name 3 sc_law_near.nd) (s_cons (s_asg 4 sc_law_near.nd (e_call (fl := true) (ok_law_take T hK) (hr.mono (by decide)) gd (takes_of rfl rfl rfl rfl) T.g_law_take T.k_law_take T.b_law_take .nil (fun _ _ => rfl) (a_cons (e_var (f := true) 0) (a_cons (e_v (f := true) (e_add hK (e_v (f := false) (e_b1 call_len (k_len hK) T.z_len (by decide +kernel) (e_peek 1))) (e_int (f := false)))) (a_nil))) (len_call (len_cons (len_cons len_nil)) rfl))) (s_cons (s_asg 5 sc_law_near.nd (e_call (fl := true) (ok_law_take T hK) (hr.mono (by decide)) gd (takes_of rfl rfl rfl rfl) T.g_law_take T.k_law_take T.b_law_take .nil (fun _ _ => rfl) (a_cons (e_var (f := true) 0) (a_cons (e_int (f := true)) (a_nil))) (len_call (len_cons (len_cons len_nil)) rfl))) (s_cons (s_asg 6 sc_law_near.nd (e_ix (f := true) hK (e_v (f := false) (e_add hK (e_peek 2) (e_str (f := false) (l := [48, 49, 50, 51, 52, 53, 54, 55, 56, 57, 45, 46, 97, 47])))) (e_call (fl := false) (ok_law_take T hK) (hr.mono (by decide)) gd (takes_of rfl rfl rfl rfl) T.g_law_take T.k_law_take T.b_law_take .nil (fun _ _ => rfl) (a_cons (e_var (f := true) 0) (a_cons (e_v (f := true) (e_add hK (e_v (f := false) (e_b1 call_len (k_len hK) T.z_len (by decide +kernel) (e_peek 2))) (e_int (f := false)))) (a_nil))) (len_call (len_cons (len_cons len_nil)) rfl)))) (s_cons (s_if (c_cmp (f := true) (o_eq hr) (k_eq hK).ok (e_peek 5) (e_int (f := false))) (s_one (s_asg 1 sc_law_near.nd (e_v (f := true) (e_add hK (e_v (f := false) (e_add hK (e_v (f := false) (e_slice hK (e_peek 1) (p_none) (p_some (e_peek 4)))) (e_peek 6))) (e_v (f := false) (e_slice hK (e_peek 1) (p_some (e_peek 4)) (p_none))))))) (s_nil)) (s_cons (s_if (c_cmp (f := true) (o_eq hr) (k_eq hK).ok (e_peek 5) (e_int (f := false))) (s_one (s_asg 1 sc_law_near.nd (e_v (f := true) (e_add hK (e_v (f := false) (e_slice hK (e_peek 1) (p_none) (p_some (e_peek 4)))) (e_v (f := false) (e_slice hK (e_peek 1) (p_some (e_v (f := false) (e_add hK (e_peek 4) (e_int (f := false))))) (p_none))))))) (s_nil)) (s_one (s_if (c_cmp (f := true) o_gt k_gt.ok (e_peek 5) (e_int (f := false))) (s_one (s_asg 1 sc_law_near.nd (e_v (f := true) (e_add hK (e_v (f := false) (e_add hK (e_v (f := false) (e_slice hK (e_peek 1) (p_none) (p_some (e_peek 4)))) (e_peek 6))) (e_v (f := false) (e_slice hK (e_peek 1) (p_some (e_v (f := false) (e_add hK (e_peek 4) (e_int (f := false))))) (p_none))))))) (s_nil))))))))) (s_one (s_ret (e_var (f := true) 1)))))

abbrev N_law_text : List Str := ["purse", "way", "many", "text", "k"]
theorem sc_law_text : FnScope N_law_text ["purse"] (defScope s_law_text) := ⟨rfl, rfl, rfl, by decide +kernel, rfl, by decide +kernel, by decide +kernel⟩
theorem ok_law_text (T : Txt K mg A) (hK : G.K = K) : FnG P w K mg base 3 A.f_law_text A.d_law_text ["purse"] (spM G 1 m_law_text) :=
  fn_mk T.F_law_text sc_law_text rfl fun cdv Ar outer s H E hr gd => (s_cons (s_asg 1 sc_law_text.nd (e_call (fl := true) (ok_law_take T hK) (hr.mono (by decide)) gd (takes_of rfl rfl rfl rfl) T.g_law_take T.k_law_take T.b_law_take .nil (fun _ _ => rfl) (a_cons (e_var (f := true) 0) (a_cons (e_int (f := true)) (a_nil))) (len_call (len_cons (len_cons len_nil)) rfl))) (s_cons (s_asg 2 sc_law_text.nd (e_ix (f := true) hK (e_v (f := false) (e_lst (a_cons (e_call (fl := true) (ok_law_take T hK) (hr.mono (by decide)) gd (takes_of rfl rfl rfl rfl) T.g_law_take T.k_law_take T.b_law_take .nil (fun _ _ => rfl) (a_cons (e_var (f := true) 0) (a_cons (e_int (f := true)) (a_nil))) (len_call (len_cons (len_cons len_nil)) rfl)) (a_cons (e_v (f := true) (e_add hK (e_int (f := false)) (e_call (fl := false) (ok_law_take T hK) (hr.mono (by decide)) gd (takes_of rfl rfl rfl rfl) T.g_law_take T.k_law_take T.b_law_take .nil (fun _ _ => rfl) (a_cons (e_var (f := true) 0) (a_cons (e_int (f := true)) (a_nil))) (len_call (len_cons (len_cons len_nil)) rfl)))) (a_nil))))) (e_call (fl := false) (ok_law_take T hK) (hr.mono (by decide)) gd (takes_of rfl rfl rfl rfl) T.g_law_take T.k_law_take T.b_law_take .nil (fun _ _ => rfl) (a_cons (e_var (f := true) 0) (a_cons (e_int (f := true)) (a_nil))) (len_call (len_cons (len_cons len_nil)) rfl)))) (s_cons (s_if (c_cmp (f := true) (o_eq hr) (k_eq hK).ok (e_peek 1) (e_int (f := false))) (s_one (s_ret (e_v (f := true) (e_sm1 k_join PySem.F.slot_str_join PySem.F.type_str_join mt_join (e_str (f := false) (l := [])) (e_v (f := false) (e_lc (own := [("k", 4)]) (js := [4]) rfl sc_law_text.nd (i_range1 T.z_range (a_cons (e_mod (f := true) (e_peek 2) (e_int (f := false))) (a_nil))) (blkOk_by (own := [("k", 4)]) (N := N_law_text) (sc := defScope s_law_text) (by decide +kernel)) (by decide) (fun _ _ _ _ _ => g_name 4 sc_law_text.nd) (fun _ _ _ _ _ => pt_yes) (fun _ _ _ _ _ => e_ix (f := true) hK (e_str (f := false) (l := [97, 98, 99, 100, 101, 102, 103, 104, 105, 106, 107, 108, 109, 110, 111, 112, 113, 114, 115, 116, 117, 118, 119, 120, 121, 122])) (e_call (fl := false) (ok_law_take T hK) (hr.mono (by decide)) gd takes0 T.g_law_take T.k_law_take T.b_law_take .nil (fun _ _ => rfl) (a_cons (e_var (f := true) 0) (a_cons (e_int (f := true)) (a_nil))) (len_call (len_cons (len_cons len_nil)) rfl))))))))) (s_nil)) (s_cons (s_asg 3 sc_law_text.nd (e_v (f := true) (e_sm1 k_join PySem.F.slot_str_join PySem.F.type_str_join mt_join (e_str (f := false) (l := [])) (e_v (f := false) (e_lc (own := [("k", 4)]) (js := [4]) rfl sc_law_text.nd (i_range1 T.z_range (a_cons (e_var (f := true) 2) (a_nil))) (blkOk_by (own := [("k", 4)]) (N := N_law_text) (sc := defScope s_law_text) (by decide +kernel)) (by decide) (fun _ _ _ _ _ => g_name 4 sc_law_text.nd) (fun _ _ _ _ _ => pt_yes) (fun _ _ _ _ _ => e_ix (f := true) hK (e_str (f := false) (l := [48, 49, 50, 51, 52, 53, 54, 55, 56, 57])) (e_call (fl := false) (ok_law_take T hK) (hr.mono (by decide)) gd takes0 T.g_law_take T.k_law_take T.b_law_take .nil (fun _ _ => rfl) (a_cons (e_var (f := true) 0) (a_cons (e_int (f := true)) (a_nil))) (len_call (len_cons (len_cons len_nil)) rfl)))))))) (s_one (s_ret (e_ifE (f := true) (c_cmp (f := true) (o_eq hr) (k_eq hK).ok (e_peek 1) (e_int (f := false))) (e_call (fl := true) (ok_law_near T hK) (hr.mono (by decide)) gd (takes_of rfl rfl rfl rfl) T.g_law_near T.k_law_near T.b_law_near .nil (fun _ _ => rfl) (a_cons (e_var (f := true) 0) (a_cons (e_var (f := true) 3) (a_nil))) (len_call (len_cons (len_cons len_nil)) rfl)) (e_var (f := true) 3))))))))

abbrev N_law_cell : List Str := ["script", "k"]
theorem sc_law_cell : FnScope N_law_cell ["script", "k"] (defScope s_law_cell) := ⟨rfl, rfl, rfl, by decide +kernel, rfl, by decide +kernel, by decide +kernel⟩
theorem ok_law_cell (T : Txt K mg A) (hK : G.K = K) : FnG P w K mg base 1 A.f_law_cell A.d_law_cell ["script", "k"] (spM G 2 m_law_cell) :=
  fn_mk T.F_law_cell sc_law_cell rfl fun cdv Ar outer s H E hr gd => (s_cons (s_if (c_cmp (f := true) o_lt k_lt.ok (e_peek 1) (e_v (f := false) (e_b1 call_len (k_len hK) T.z_len (by decide +kernel) (e_peek 0)))) (s_one (s_ret (e_ix (f := true) hK (e_peek 0) (e_peek 1)))) (s_nil)) (s_one (s_ret (e_v (f := true) (e_add hK (e_mul (f := false) (e_int (f := false)) (e_peek 1)) (e_int (f := false)))))))

abbrev N_law_odd : List Str := ["purse", "some"]
theorem sc_law_odd : FnScope N_law_odd ["purse"] (defScope s_law_odd) := ⟨rfl, rfl, rfl, by decide +kernel, rfl, by decide +kernel, by decide +kernel⟩
theorem ok_law_odd (T : Txt K mg A) (hK : G.K = K) : FnG P w K mg base 2 A.f_law_odd A.d_law_odd ["purse"] (spM G 1 m_law_odd) :=
  fn_mk T.F_law_odd sc_law_odd rfl fun cdv Ar outer s H E hr gd => (s_cons (s_asg 1 sc_law_odd.nd (e_v (f := true) (e_lst (a_cons (e_non (f := true)) (a_cons (e_bl (f := true)) (a_cons (e_bl (f := true)) (a_cons (e_int (f := true)) (a_cons (e_neg (f := true) (e_int (f := false))) (a_cons (e_int (f := true)) (a_cons (e_int (f := true)) (a_cons (e_pow (f := true) (e_int (f := false)) (e_int (f := false))) (a_cons (e_neg (f := true) (e_pow (f := false) (e_int (f := false)) (e_int (f := false)))) (a_cons (e_str (f := true) (l := [])) (a_cons (e_str (f := true) (l := [97])) (a_cons (e_str (f := true) (l := [49, 50, 97])) (a_cons (e_str (f := true) (l := [49, 57, 55, 50, 45, 48, 51, 45, 48, 53])) (a_cons (e_v (f := true) (e_lst (a_nil))) (a_cons (e_v (f := true) (e_lst (a_cons (e_int (f := true)) (a_nil)))) (a_cons (e_v (f := true) (e_lst (a_cons (e_str (f := true) (l := [97])) (a_nil)))) (a_nil)))))))))))))))))))) (s_cons (s_asg 1 sc_law_odd.nd (e_v (f := true) (e_add hK (e_peek 1) (e_v (f := false) (e_lst (a_cons (e_tup (f := true) (a_nil)) (a_cons (e_tup (f := true) (a_cons (e_int (f := true)) (a_nil))) (a_cons (e_tup (f := true) (a_cons (e_str (f := true) (l := [97])) (a_cons (e_int (f := true)) (a_nil)))) (a_cons (e_v (f := true) (e_dct0)) (a_cons (e_v (f := true) (e_dct (ms := [((mC (.str [97])), (mC (.int 1)))]) (pps_cons (e_str (f := true) (l := [97])) (e_int (f := true)) (pps_nil)) (by rfl) (by rfl) (fun z => by cases z) (by decide))) (a_cons (e_v (f := true) (e_dct (ms := [((mC (.int 7)), (mC .non))]) (pps_cons (e_int (f := true)) (e_non (f := true)) (pps_nil)) (by rfl) (by rfl) (fun z => by cases z) (by decide))) (a_cons (e_v (f := true) (e_lst (a_cons (e_v (f := true) (e_lst (a_cons (e_v (f := true) (e_lst (a_cons (e_v (f := true) (e_lst (a_cons (e_v (f := true) (e_lst (a_cons (e_v (f := true) (e_lst (a_cons (e_str (f := true) (l := [97])) (a_nil)))) (a_nil)))) (a_nil)))) (a_nil)))) (a_nil)))) (a_nil)))) (a_cons (e_str (f := true) (l := [97, 110, 110, 97])) (a_cons (e_str (f := true) (l := [114, 111, 108, 108, 32, 97, 32, 48, 32, 48, 32, 102, 117, 108, 108])) (a_nil))))))))))))))) (s_one (s_ret (e_ix (f := true) hK (e_peek 1) (e_call (fl := false) (ok_law_take T hK) (hr.mono (by decide)) gd (takes_of rfl rfl rfl rfl) T.g_law_take T.k_law_take T.b_law_take .nil (fun _ _ => rfl) (a_cons (e_var (f := true) 0) (a_cons (e_int (f := true)) (a_nil))) (len_call (len_cons (len_cons len_nil)) rfl)))))))

abbrev N_law_is_whole : List Str := ["thing", "low", "high"]
theorem sc_law_is_whole : FnScope N_law_is_whole ["thing", "low", "high"] (defScope s_law_is_whole) := ⟨rfl, rfl, rfl, by decide +kernel, rfl, by decide +kernel, by decide +kernel⟩
theorem ok_law_is_whole (T : Txt K mg A) (hK : G.K = K) : FnG P w K mg base 1 A.f_law_is_whole A.d_law_is_whole ["thing", "low", "high"] (spM G 3 m_law_is_whole) :=
  fn_mk T.F_law_is_whole sc_law_is_whole rfl fun cdv Ar outer s H E hr gd => (s_one (s_ret (e_andV (f := true) (e_isi (f := false) (T := "int") (by decide) hK T.z_isinstance T.z_int rfl (e_peek 0)) (e_andV (f := true) (e_not (f := false) (e_isi (f := false) (T := "bool") (by decide) hK T.z_isinstance T.z_bool rfl (e_peek 0))) (pe_one (e_chain (f := true) o_le o_le k_le k_le (e_peek 1) (e_peek 0) (e_peek 2)))))))

abbrev N_law_is_name : List Str := ["thing", "sign"]
theorem sc_law_is_name : FnScope N_law_is_name ["thing"] (defScope s_law_is_name) := ⟨rfl, rfl, rfl, by decide +kernel, rfl, by decide +kernel, by decide +kernel⟩
theorem ok_law_is_name (T : Txt K mg A) (hK : G.K = K) : FnG P w K mg base 1 A.f_law_is_name A.d_law_is_name ["thing"] (spM G 1 m_law_is_name) :=
  fn_mk T.F_law_is_name sc_law_is_name rfl fun cdv Ar outer s H E hr gd => (s_cons (s_if (PW.pt (c_or (c_not (c_val (e_isi (f := true) (T := "str") (by decide) hK T.z_isinstance T.z_str rfl (e_peek 0)))) (pw_or1 (c_not (c_chain o_lt o_lt k_lt k_lt (e_int (f := false)) (e_v (f := false) (e_b1 call_len (k_len hK) T.z_len (by decide +kernel) (e_peek 0))) (e_int (f := false))))))) (s_one (s_ret (e_bl (f := true)))) (s_nil)) (s_one (s_ret (e_cmp (f := true) (o_eq hr) (k_eq hK).ok (e_v (f := false) (e_lc (own := [("sign", 1)]) (js := [1]) rfl sc_law_is_name.nd (i_seq hK (e_var (f := true) 0)) (blkOk_by (own := [("sign", 1)]) (N := N_law_is_name) (sc := defScope s_law_is_name) (by decide +kernel)) (by decide) (fun _ _ _ _ _ => g_name 1 sc_law_is_name.nd) (fun _ _ _ _ _ => pt_if (c_not (c_chain o_le o_le k_le k_le (e_str (f := false) (l := [97])) (e_peek 1) (e_str (f := false) (l := [122]))))) (fun _ _ _ _ _ => e_var (f := true) 1))) (e_v (f := false) (e_lst (a_nil)))))))

abbrev N_law_number : List Str := ["thing", "low", "high", "total", "sign"]
theorem sc_law_number : FnScope N_law_number ["thing", "low", "high"] (defScope s_law_number) := ⟨rfl, rfl, rfl, by decide +kernel, rfl, by decide +kernel, by decide +kernel⟩
theorem ok_law_number (T : Txt K mg A) (hK : G.K = K) : FnG P w K mg base 1 A.f_law_number A.d_law_number ["thing", "low", "high"] (spM G 3 m_law_number) :=
  fn_mk T.F_law_number sc_law_number rfl fun cdv Ar outer s H E hr gd => (s_cons (s_if (PW.pt (c_or (c_not (c_val (e_isi (f := true) (T := "str") (by decide) hK T.z_isinstance T.z_str rfl (e_peek 0)))) (c_or (c_not (c_chain o_lt o_lt k_lt k_lt (e_int (f := false)) (e_v (f := false) (e_b1 call_len (k_len hK) T.z_len (by decide +kernel) (e_peek 0))) (e_int (f := false)))) (pw_or1 (PW.pt (c_and (c_cmp (f := true) (o_eq hr) (k_eq hK).ok (e_ix (f := false) hK (e_peek 0) (e_int (f := false))) (e_str (f := false) (l := [48]))) (pw_and1 (c_cmp (f := true) (o_ne hr) (k_ne hK).ok (e_peek 0) (e_str (f := false) (l := [48])))))))))) (s_one (s_ret (e_non (f := true)))) (s_nil)) (s_cons (s_asg 3 sc_law_number.nd (e_int (f := true))) (s_cons (s_for (js := [4]) (passes_of rfl) rfl (i_seq hK (e_var (f := true) 0)) (g_name 4 sc_law_number.nd) (s_cons (s_if (c_not (c_chain o_le o_le k_le k_le (e_str (f := false) (l := [48])) (e_peek 4) (e_str (f := false) (l := [57])))) (s_one (s_ret (e_non (f := true)))) (s_nil)) (s_one (s_asg 3 sc_law_number.nd (e_v (f := true) (e_add hK (e_mul (f := false) (e_int (f := false)) (e_peek 3)) (e_v (f := false) (e_sm1 k_find PySem.F.slot_str_find PySem.F.type_str_find mt_find (e_str (f := false) (l := [48, 49, 50, 51, 52, 53, 54, 55, 56, 57])) (e_peek 4))))))))) (s_one (s_ret (e_ifE (f := true) (c_chain o_le o_le k_le k_le (e_peek 1) (e_peek 3) (e_peek 2)) (e_var (f := true) 3) (e_non (f := true))))))))

abbrev N_is_whole : List Str := ["thing", "low", "high"]
theorem sc_is_whole : FnScope N_is_whole ["thing", "low", "high"] (defScope s_is_whole) := ⟨rfl, rfl, rfl, by decide +kernel, rfl, by decide +kernel, by decide +kernel⟩
theorem ok_is_whole (T : Txt K mg A) (hK : G.K = K) : FnG P w K mg base 1 A.f_is_whole A.d_is_whole ["thing", "low", "high"] (spM G 3 m_is_whole) :=
  fn_mk T.F_is_whole sc_is_whole rfl fun cdv Ar outer s H E hr gd => (s_one (s_ret (e_andV (f := true) (e_isi (f := false) (T := "int") (by decide) hK T.z_isinstance T.z_int rfl (e_peek 0)) (e_andV (f := true) (e_not (f := false) (e_isi (f := false) (T := "bool") (by decide) hK T.z_isinstance T.z_bool rfl (e_peek 0))) (pe_one (e_chain (f := true) o_le o_le k_le k_le (e_peek 1) (e_peek 0) (e_peek 2)))))))

abbrev N_has_only : List Str := ["text", "signs", "sign"]
theorem sc_has_only : FnScope N_has_only ["text", "signs"] (defScope s_has_only) := ⟨rfl, rfl, rfl, by decide +kernel, rfl, by decide +kernel, by decide +kernel⟩
theorem ok_has_only (T : Txt K mg A) (hK : G.K = K) : FnG P w K mg base 1 A.f_has_only A.d_has_only ["text", "signs"] (spM G 2 m_has_only) :=
  fn_mk T.F_has_only sc_has_only rfl fun cdv Ar outer s H E hr gd => (s_one (s_ret (e_v (f := true) (e_b1 (cr_all rfl) k_all T.z_all (by decide +kernel) (e_v (f := false) (e_lc (own := [("sign", 2)]) (js := [2]) rfl sc_has_only.nd (i_seq hK (e_var (f := true) 0)) (blkOk_by (own := [("sign", 2)]) (N := N_has_only) (sc := defScope s_has_only) (by decide +kernel)) (by decide) (fun _ _ _ _ _ => g_name 2 sc_has_only.nd) (fun _ _ _ _ _ => pt_yes) (fun _ _ _ _ _ => e_cmp (f := true) (o_in hr) (k_in hK).ok (e_peek 2) (e_peek 1))))))))

abbrev N_is_name : List Str := ["thing"]
theorem sc_is_name : FnScope N_is_name ["thing"] (defScope s_is_name) := ⟨rfl, rfl, rfl, by decide +kernel, rfl, by decide +kernel, by decide +kernel⟩
theorem ok_is_name (T : Txt K mg A) (hK : G.K = K) : FnG P w K mg base 2 A.f_is_name A.d_is_name ["thing"] (spM G 1 m_is_name) :=
  fn_mk T.F_is_name sc_is_name rfl fun cdv Ar outer s H E hr gd => (s_one (s_ret (e_andV (f := true) (e_isi (f := false) (T := "str") (by decide) hK T.z_isinstance T.z_str rfl (e_peek 0)) (e_andV (f := true) (e_chain (f := false) o_le o_le k_le k_le (e_int (f := false)) (e_v (f := false) (e_b1 call_len (k_len hK) T.z_len (by decide +kernel) (e_peek 0))) (e_globI (f := false) T.c_LONGEST)) (pe_one (e_call (fl := true) (ok_has_only T hK) (hr.mono (by decide)) gd (takes_of rfl rfl rfl rfl) T.g_has_only T.k_has_only T.b_has_only .nil (fun _ _ => rfl) (a_cons (e_var (f := true) 0) (a_cons (e_globS (f := true) (l := [97, 98, 99, 100, 101, 102, 103, 104, 105, 106, 107, 108, 109, 110, 111, 112, 113, 114, 115, 116, 117, 118, 119, 120, 121, 122]) T.c_LETTERS) (a_nil))) (len_call (len_cons (len_cons len_nil)) rfl)))))))

abbrev N_is_plain : List Str := ["thing"]
theorem sc_is_plain : FnScope N_is_plain ["thing"] (defScope s_is_plain) := ⟨rfl, rfl, rfl, by decide +kernel, rfl, by decide +kernel, by decide +kernel⟩
theorem ok_is_plain (T : Txt K mg A) (hK : G.K = K) : FnG P w K mg base 2 A.f_is_plain A.d_is_plain ["thing"] (spM G 1 m_is_plain) :=
  fn_mk T.F_is_plain sc_is_plain rfl fun cdv Ar outer s H E hr gd => (s_cons (s_if (PW.pt (c_or (c_not (c_val (e_isi (f := true) (T := "str") (by decide) hK T.z_isinstance T.z_str rfl (e_peek 0)))) (c_or (c_not (c_chain o_le o_le k_le k_le (e_int (f := false)) (e_v (f := false) (e_b1 call_len (k_len hK) T.z_len (by decide +kernel) (e_peek 0))) (e_globI (f := false) T.c_MOST_FIGURES))) (pw_or1 (c_not (c_val (e_call (fl := true) (ok_has_only T hK) (hr.mono (by decide)) gd (takes_of rfl rfl rfl rfl) T.g_has_only T.k_has_only T.b_has_only .nil (fun _ _ => rfl) (a_cons (e_var (f := true) 0) (a_cons (e_globS (f := true) (l := [48, 49, 50, 51, 52, 53, 54, 55, 56, 57]) T.c_FIGURES) (a_nil))) (len_call (len_cons (len_cons len_nil)) rfl)))))))) (s_one (s_ret (e_bl (f := true)))) (s_nil)) (s_one (s_ret (e_orV (f := true) (e_cmp (f := false) (o_eq hr) (k_eq hK).ok (e_peek 0) (e_str (f := false) (l := [48]))) (pe_one (e_cmp (f := true) (o_ne hr) (k_ne hK).ok (e_ix (f := false) hK (e_peek 0) (e_int (f := false))) (e_str (f := false) (l := [48]))))))))

abbrev N_number_in : List Str := ["thing", "low", "high", "number"]
theorem sc_number_in : FnScope N_number_in ["thing", "low", "high"] (defScope s_number_in) := ⟨rfl, rfl, rfl, by decide +kernel, rfl, by decide +kernel, by decide +kernel⟩
theorem ok_number_in (T : Txt K mg A) (hK : G.K = K) : FnG P w K mg base 3 A.f_number_in A.d_number_in ["thing", "low", "high"] (spM G 3 m_number_in) :=
  fn_mk T.F_number_in sc_number_in rfl fun cdv Ar outer s H E hr gd => (s_cons (s_if (c_not (c_val (e_call (fl := true) (ok_is_plain T hK) (hr.mono (by decide)) gd (takes_of rfl rfl rfl rfl) T.g_is_plain T.k_is_plain T.b_is_plain .nil (fun _ _ => rfl) (a_cons (e_var (f := true) 0) (a_nil)) (len_call (len_cons len_nil) rfl)))) (s_one (s_ret (e_non (f := true)))) (s_nil)) (s_cons (s_asg 3 sc_number_in.nd (e_v (f := true) (e_t1 (CallR.or call_int1 call_int_str) k_int1 T.z_int (by decide +kernel) (e_peek 0)))) (s_one (s_ret (e_ifE (f := true) (c_chain o_le o_le k_le k_le (e_peek 1) (e_peek 3) (e_peek 2)) (e_var (f := true) 3) (e_non (f := true)))))))

abbrev N_law : List Str := ["script", "k", "purse", "low", "high", "text", "things", "thing", "due"]
theorem sc_law : FnScope N_law ["script"] (defScope s_law) := ⟨rfl, rfl, rfl, by decide +kernel, rfl, by decide +kernel, by decide +kernel⟩
theorem ok_law (T : Txt K mg A) (hK : G.K = K) : FnG P w K mg base 4 A.f_law A.d_law ["script"] (spM G 1 m_law) :=
  fn_mk T.F_law sc_law rfl fun cdv Ar outer s H E hr gd => (s_cons (s_for (js := [1]) (passes_of rfl) rfl (i_range1 T.z_range (a_cons (e_v (f := true) (e_b2 (call_max2 rfl) k_max2 T.z_max (by decide +kernel) (e_int (f := false)) (e_v (f := false) (e_b2 (call_min2 rfl) k_min2 T.z_min (by decide +kernel) (e_int (f := false)) (e_v (f := false) (e_b1 call_len (k_len hK) T.z_len (by decide +kernel) (e_peek 0))))))) (a_nil))) (g_name 1 sc_law.nd) (s_cons (s_asg 2 sc_law.nd (e_call (fl := true) (ok_law_purse T hK) (hr.mono (by decide)) gd (takes_of rfl rfl rfl rfl) T.g_law_purse T.k_law_purse T.b_law_purse .nil (fun _ _ => rfl) (a_cons (e_call (fl := true) (ok_law_cell T hK) (hr.mono (by decide)) gd (takes_of rfl rfl rfl rfl) T.g_law_cell T.k_law_cell T.b_law_cell .nil (fun _ _ => rfl) (a_cons (e_var (f := true) 0) (a_cons (e_var (f := true) 1) (a_nil))) (len_call (len_cons (len_cons len_nil)) rfl)) (a_nil)) (len_call (len_cons len_nil) rfl))) (s_cons (s_asg 3 sc_law.nd (e_ix (f := true) hK (e_v (f := false) (e_lst (a_cons (e_sub (f := true) (e_call (fl := false) (ok_law_take T hK) (hr.mono (by decide)) gd (takes_of rfl rfl rfl rfl) T.g_law_take T.k_law_take T.b_law_take .nil (fun _ _ => rfl) (a_cons (e_var (f := true) 2) (a_cons (e_int (f := true)) (a_nil))) (len_call (len_cons (len_cons len_nil)) rfl)) (e_int (f := false))) (a_cons (e_call (fl := true) (ok_law_take T hK) (hr.mono (by decide)) gd (takes_of rfl rfl rfl rfl) T.g_law_take T.k_law_take T.b_law_take .nil (fun _ _ => rfl) (a_cons (e_var (f := true) 2) (a_cons (e_pow (f := true) (e_int (f := false)) (e_int (f := false))) (a_nil))) (len_call (len_cons (len_cons len_nil)) rfl)) (a_cons (e_pow (f := true) (e_int (f := false)) (e_int (f := false))) (a_nil)))))) (e_call (fl := false) (ok_law_take T hK) (hr.mono (by decide)) gd (takes_of rfl rfl rfl rfl) T.g_law_take T.k_law_take T.b_law_take .nil (fun _ _ => rfl) (a_cons (e_var (f := true) 2) (a_cons (e_int (f := true)) (a_nil))) (len_call (len_cons (len_cons len_nil)) rfl)))) (s_cons (s_asg 4 sc_law.nd (e_v (f := true) (e_add hK (e_peek 3) (e_ix (f := false) hK (e_v (f := false) (e_lst (a_cons (e_sub (f := true) (e_call (fl := false) (ok_law_take T hK) (hr.mono (by decide)) gd (takes_of rfl rfl rfl rfl) T.g_law_take T.k_law_take T.b_law_take .nil (fun _ _ => rfl) (a_cons (e_var (f := true) 2) (a_cons (e_int (f := true)) (a_nil))) (len_call (len_cons (len_cons len_nil)) rfl)) (e_int (f := false))) (a_cons (e_call (fl := true) (ok_law_take T hK) (hr.mono (by decide)) gd (takes_of rfl rfl rfl rfl) T.g_law_take T.k_law_take T.b_law_take .nil (fun _ _ => rfl) (a_cons (e_var (f := true) 2) (a_cons (e_pow (f := true) (e_int (f := false)) (e_int (f := false))) (a_nil))) (len_call (len_cons (len_cons len_nil)) rfl)) (a_cons (e_pow (f := true) (e_int (f := false)) (e_int (f := false))) (a_nil)))))) (e_call (fl := false) (ok_law_take T hK) (hr.mono (by decide)) gd (takes_of rfl rfl rfl rfl) T.g_law_take T.k_law_take T.b_law_take .nil (fun _ _ => rfl) (a_cons (e_var (f := true) 2) (a_cons (e_int (f := true)) (a_nil))) (len_call (len_cons (len_cons len_nil)) rfl)))))) (s_cons (s_asg 5 sc_law.nd (e_call (fl := true) (ok_law_text T hK) (hr.mono (by decide)) gd (takes_of rfl rfl rfl rfl) T.g_law_text T.k_law_text T.b_law_text .nil (fun _ _ => rfl) (a_cons (e_var (f := true) 2) (a_nil)) (len_call (len_cons len_nil) rfl))) (s_cons (s_asg 6 sc_law.nd (e_v (f := true) (e_lst (a_cons (e_sub (f := true) (e_peek 3) (e_int (f := false))) (a_cons (e_var (f := true) 3) (a_cons (e_var (f := true) 4) (a_cons (e_v (f := true) (e_add hK (e_peek 4) (e_int (f := false)))) (a_cons (e_call (fl := true) (ok_law_odd T hK) (hr.mono (by decide)) gd (takes_of rfl rfl rfl rfl) T.g_law_odd T.k_law_odd T.b_law_odd .nil (fun _ _ => rfl) (a_cons (e_var (f := true) 2) (a_nil)) (len_call (len_cons len_nil) rfl)) (a_cons (e_var (f := true) 5) (a_nil)))))))))) (s_cons (s_asg 6 sc_law.nd (e_v (f := true) (e_add hK (e_peek 6) (e_v (f := false) (e_lst (a_cons (e_v (f := true) (e_t1 (CallR.or call_str_int SkE.call_str_str) k_str1 T.z_str (by decide +kernel) (e_peek 3))) (a_cons (e_v (f := true) (e_t1 (CallR.or call_str_int SkE.call_str_str) k_str1 T.z_str (by decide +kernel) (e_peek 4))) (a_cons (e_v (f := true) (e_t1 (CallR.or call_str_int SkE.call_str_str) k_str1 T.z_str (by decide +kernel) (e_v (f := false) (e_add hK (e_peek 4) (e_int (f := false)))))) (a_cons (e_v (f := true) (e_add hK (e_str (f := false) (l := [48])) (e_v (f := false) (e_t1 (CallR.or call_str_int SkE.call_str_str) k_str1 T.z_str (by decide +kernel) (e_peek 3))))) (a_nil)))))))))) (s_one (s_for (js := [7]) (passes_of rfl) rfl (i_seq hK (e_var (f := true) 6)) (g_name 7 sc_law.nd) (s_cons (s_asg 8 sc_law.nd (e_v (f := true) (e_lst (a_cons (e_call (fl := true) (ok_law_is_whole T hK) (hr.mono (by decide)) gd (takes_of rfl rfl rfl rfl) T.g_law_is_whole T.k_law_is_whole T.b_law_is_whole .nil (fun _ _ => rfl) (a_cons (e_var (f := true) 7) (a_cons (e_var (f := true) 3) (a_cons (e_var (f := true) 4) (a_nil)))) (len_call (len_cons (len_cons (len_cons len_nil))) rfl)) (a_cons (e_call (fl := true) (ok_law_is_name T hK) (hr.mono (by decide)) gd (takes_of rfl rfl rfl rfl) T.g_law_is_name T.k_law_is_name T.b_law_is_name .nil (fun _ _ => rfl) (a_cons (e_var (f := true) 7) (a_nil)) (len_call (len_cons len_nil) rfl)) (a_cons (e_call (fl := true) (ok_law_number T hK) (hr.mono (by decide)) gd (takes_of rfl rfl rfl rfl) T.g_law_number T.k_law_number T.b_law_number .nil (fun _ _ => rfl) (a_cons (e_var (f := true) 7) (a_cons (e_var (f := true) 3) (a_cons (e_var (f := true) 4) (a_nil)))) (len_call (len_cons (len_cons (len_cons len_nil))) rfl)) (a_nil))))))) (s_one (s_if (c_cmp (f := true) (o_ne hr) (k_ne hK).ok (e_v (f := false) (e_b1 (call_repr hr gd) (k_repr hK) T.z_repr (by decide +kernel) (e_v (f := false) (e_lst (a_cons (e_call (fl := true) (ok_is_whole T hK) (hr.mono (by decide)) gd (takes_of rfl rfl rfl rfl) T.g_is_whole T.k_is_whole T.b_is_whole .nil (fun _ _ => rfl) (a_cons (e_var (f := true) 7) (a_cons (e_var (f := true) 3) (a_cons (e_var (f := true) 4) (a_nil)))) (len_call (len_cons (len_cons (len_cons len_nil))) rfl)) (a_cons (e_call (fl := true) (ok_is_name T hK) (hr.mono (by decide)) gd (takes_of rfl rfl rfl rfl) T.g_is_name T.k_is_name T.b_is_name .nil (fun _ _ => rfl) (a_cons (e_var (f := true) 7) (a_nil)) (len_call (len_cons len_nil) rfl)) (a_cons (e_call (fl := true) (ok_number_in T hK) (hr.mono (by decide)) gd (takes_of rfl rfl rfl rfl) T.g_number_in T.k_number_in T.b_number_in .nil (fun _ _ => rfl) (a_cons (e_var (f := true) 7) (a_cons (e_var (f := true) 3) (a_cons (e_var (f := true) 4) (a_nil)))) (len_call (len_cons (len_cons (len_cons len_nil))) rfl)) (a_nil)))))))) (e_v (f := false) (e_b1 (call_repr hr gd) (k_repr hK) T.z_repr (by decide +kernel) (e_peek 8)))) (s_one (s_ret (e_bl (f := true)))) (s_nil))))))))))))) (s_one (s_ret (e_bl (f := true)))))

end
section
theorem all_mk {l : PySem.W.OpenLaw} {w : World} {K : PySem.W.Frag} {h : Heap} {mg : Str → Option Value} {fa : Addr} (X : K.In h) (G : h.Ns mainGlobals mg) (hfa : mg "law" = some (.ref fa))
    {f0 : Addr} {oc0 kV0 dc0 pm0 cd0 ct0 : Value} {od0 an0 : Option Addr} {sl0 : Array (Option Value)}
    {f1 : Addr} {oc1 kV1 dc1 pm1 cd1 ct1 : Value} {od1 an1 : Option Addr} {sl1 : Array (Option Value)}
    {f2 : Addr} {oc2 kV2 dc2 pm2 cd2 ct2 : Value} {od2 an2 : Option Addr} {sl2 : Array (Option Value)}
    {f3 : Addr} {oc3 kV3 dc3 pm3 cd3 ct3 : Value} {od3 an3 : Option Addr} {sl3 : Array (Option Value)}
    {f4 : Addr} {oc4 kV4 dc4 pm4 cd4 ct4 : Value} {od4 an4 : Option Addr} {sl4 : Array (Option Value)}
    {f5 : Addr} {oc5 kV5 dc5 pm5 cd5 ct5 : Value} {od5 an5 : Option Addr} {sl5 : Array (Option Value)}
    {f6 : Addr} {oc6 kV6 dc6 pm6 cd6 ct6 : Value} {od6 an6 : Option Addr} {sl6 : Array (Option Value)}
    {f7 : Addr} {oc7 kV7 dc7 pm7 cd7 ct7 : Value} {od7 an7 : Option Addr} {sl7 : Array (Option Value)}
    {f8 : Addr} {oc8 kV8 dc8 pm8 cd8 ct8 : Value} {od8 an8 : Option Addr} {sl8 : Array (Option Value)}
    {f9 : Addr} {oc9 kV9 dc9 pm9 cd9 ct9 : Value} {od9 an9 : Option Addr} {sl9 : Array (Option Value)}
    {f10 : Addr} {oc10 kV10 dc10 pm10 cd10 ct10 : Value} {od10 an10 : Option Addr} {sl10 : Array (Option Value)}
    {f11 : Addr} {oc11 kV11 dc11 pm11 cd11 ct11 : Value} {od11 an11 : Option Addr} {sl11 : Array (Option Value)}
    {f12 : Addr} {oc12 kV12 dc12 pm12 cd12 ct12 : Value} {od12 an12 : Option Addr} {sl12 : Array (Option Value)}
    {f13 : Addr} {oc13 kV13 dc13 pm13 cd13 ct13 : Value} {od13 an13 : Option Addr} {sl13 : Array (Option Value)}
    {f14 : Addr} {oc14 kV14 dc14 pm14 cd14 ct14 : Value} {od14 an14 : Option Addr} {sl14 : Array (Option Value)}
    {t_FIGURES : Tok}
    {t_LETTERS : Tok}
    {t_LONGEST : Tok}
    {t_MOST_FIGURES : Tok}
    (a0 : PySem.W.nsIn K mainGlobals "_law_purse" = some (some (.ref f0)))
    (l0 : K.lookup f0 = some ⟨oc0, od0, .func (PySem.W.fnOf "_law_purse" "_law_purse" (defArgs s_law_purse) (defBody s_law_purse) (defScope s_law_purse) .none kV0 dc0 pm0 an0 cd0 ct0), sl0⟩)
    (c0 : PySem.W.codeIn K cd0 "_law_purse" = true)
    (k0 : PySem.W.keepIn K (.ref f0) = true)
    (a1 : PySem.W.nsIn K mainGlobals "_law_take" = some (some (.ref f1)))
    (l1 : K.lookup f1 = some ⟨oc1, od1, .func (PySem.W.fnOf "_law_take" "_law_take" (defArgs s_law_take) (defBody s_law_take) (defScope s_law_take) .none kV1 dc1 pm1 an1 cd1 ct1), sl1⟩)
    (c1 : PySem.W.codeIn K cd1 "_law_take" = true)
    (k1 : PySem.W.keepIn K (.ref f1) = true)
    (a2 : PySem.W.nsIn K mainGlobals "_law_near" = some (some (.ref f2)))
    (l2 : K.lookup f2 = some ⟨oc2, od2, .func (PySem.W.fnOf "_law_near" "_law_near" (defArgs s_law_near) (defBody s_law_near) (defScope s_law_near) .none kV2 dc2 pm2 an2 cd2 ct2), sl2⟩)
    (c2 : PySem.W.codeIn K cd2 "_law_near" = true)
    (k2 : PySem.W.keepIn K (.ref f2) = true)
    (a3 : PySem.W.nsIn K mainGlobals "_law_text" = some (some (.ref f3)))
    (l3 : K.lookup f3 = some ⟨oc3, od3, .func (PySem.W.fnOf "_law_text" "_law_text" (defArgs s_law_text) (defBody s_law_text) (defScope s_law_text) .none kV3 dc3 pm3 an3 cd3 ct3), sl3⟩)
    (c3 : PySem.W.codeIn K cd3 "_law_text" = true)
    (k3 : PySem.W.keepIn K (.ref f3) = true)
    (a4 : PySem.W.nsIn K mainGlobals "_law_cell" = some (some (.ref f4)))
    (l4 : K.lookup f4 = some ⟨oc4, od4, .func (PySem.W.fnOf "_law_cell" "_law_cell" (defArgs s_law_cell) (defBody s_law_cell) (defScope s_law_cell) .none kV4 dc4 pm4 an4 cd4 ct4), sl4⟩)
    (c4 : PySem.W.codeIn K cd4 "_law_cell" = true)
    (k4 : PySem.W.keepIn K (.ref f4) = true)
    (a5 : PySem.W.nsIn K mainGlobals "_law_odd" = some (some (.ref f5)))
    (l5 : K.lookup f5 = some ⟨oc5, od5, .func (PySem.W.fnOf "_law_odd" "_law_odd" (defArgs s_law_odd) (defBody s_law_odd) (defScope s_law_odd) .none kV5 dc5 pm5 an5 cd5 ct5), sl5⟩)
    (c5 : PySem.W.codeIn K cd5 "_law_odd" = true)
    (k5 : PySem.W.keepIn K (.ref f5) = true)
    (a6 : PySem.W.nsIn K mainGlobals "_law_is_whole" = some (some (.ref f6)))
    (l6 : K.lookup f6 = some ⟨oc6, od6, .func (PySem.W.fnOf "_law_is_whole" "_law_is_whole" (defArgs s_law_is_whole) (defBody s_law_is_whole) (defScope s_law_is_whole) .none kV6 dc6 pm6 an6 cd6 ct6), sl6⟩)
    (c6 : PySem.W.codeIn K cd6 "_law_is_whole" = true)
    (k6 : PySem.W.keepIn K (.ref f6) = true)
    (a7 : PySem.W.nsIn K mainGlobals "_law_is_name" = some (some (.ref f7)))
    (l7 : K.lookup f7 = some ⟨oc7, od7, .func (PySem.W.fnOf "_law_is_name" "_law_is_name" (defArgs s_law_is_name) (defBody s_law_is_name) (defScope s_law_is_name) .none kV7 dc7 pm7 an7 cd7 ct7), sl7⟩)
    (c7 : PySem.W.codeIn K cd7 "_law_is_name" = true)
    (k7 : PySem.W.keepIn K (.ref f7) = true)
    (a8 : PySem.W.nsIn K mainGlobals "_law_number" = some (some (.ref f8)))
    (l8 : K.lookup f8 = some ⟨oc8, od8, .func (PySem.W.fnOf "_law_number" "_law_number" (defArgs s_law_number) (defBody s_law_number) (defScope s_law_number) .none kV8 dc8 pm8 an8 cd8 ct8), sl8⟩)
    (c8 : PySem.W.codeIn K cd8 "_law_number" = true)
    (k8 : PySem.W.keepIn K (.ref f8) = true)
    (a9 : PySem.W.nsIn K mainGlobals "is_whole" = some (some (.ref f9)))
    (l9 : K.lookup f9 = some ⟨oc9, od9, .func (PySem.W.fnOf "is_whole" "is_whole" (defArgs s_is_whole) (defBody s_is_whole) (defScope s_is_whole) .none kV9 dc9 pm9 an9 cd9 ct9), sl9⟩)
    (c9 : PySem.W.codeIn K cd9 "is_whole" = true)
    (k9 : PySem.W.keepIn K (.ref f9) = true)
    (a10 : PySem.W.nsIn K mainGlobals "has_only" = some (some (.ref f10)))
    (l10 : K.lookup f10 = some ⟨oc10, od10, .func (PySem.W.fnOf "has_only" "has_only" (defArgs s_has_only) (defBody s_has_only) (defScope s_has_only) .none kV10 dc10 pm10 an10 cd10 ct10), sl10⟩)
    (c10 : PySem.W.codeIn K cd10 "has_only" = true)
    (k10 : PySem.W.keepIn K (.ref f10) = true)
    (a11 : PySem.W.nsIn K mainGlobals "is_name" = some (some (.ref f11)))
    (l11 : K.lookup f11 = some ⟨oc11, od11, .func (PySem.W.fnOf "is_name" "is_name" (defArgs s_is_name) (defBody s_is_name) (defScope s_is_name) .none kV11 dc11 pm11 an11 cd11 ct11), sl11⟩)
    (c11 : PySem.W.codeIn K cd11 "is_name" = true)
    (k11 : PySem.W.keepIn K (.ref f11) = true)
    (a12 : PySem.W.nsIn K mainGlobals "is_plain" = some (some (.ref f12)))
    (l12 : K.lookup f12 = some ⟨oc12, od12, .func (PySem.W.fnOf "is_plain" "is_plain" (defArgs s_is_plain) (defBody s_is_plain) (defScope s_is_plain) .none kV12 dc12 pm12 an12 cd12 ct12), sl12⟩)
    (c12 : PySem.W.codeIn K cd12 "is_plain" = true)
    (k12 : PySem.W.keepIn K (.ref f12) = true)
    (a13 : PySem.W.nsIn K mainGlobals "number_in" = some (some (.ref f13)))
    (l13 : K.lookup f13 = some ⟨oc13, od13, .func (PySem.W.fnOf "number_in" "number_in" (defArgs s_number_in) (defBody s_number_in) (defScope s_number_in) .none kV13 dc13 pm13 an13 cd13 ct13), sl13⟩)
    (c13 : PySem.W.codeIn K cd13 "number_in" = true)
    (k13 : PySem.W.keepIn K (.ref f13) = true)
    (a14 : PySem.W.nsIn K mainGlobals "law" = some (some (.ref f14)))
    (l14 : K.lookup f14 = some ⟨oc14, od14, .func (PySem.W.fnOf "law" "law" (defArgs s_law) (defBody s_law) (defScope s_law) .none kV14 dc14 pm14 an14 cd14 ct14), sl14⟩)
    (c14 : PySem.W.codeIn K cd14 "law" = true)
    (k14 : PySem.W.keepIn K (.ref f14) = true)
    (z_all : PySem.W.nsIn K mainGlobals "all" = some none)
    (z_bool : PySem.W.nsIn K mainGlobals "bool" = some none)
    (z_int : PySem.W.nsIn K mainGlobals "int" = some none)
    (z_isinstance : PySem.W.nsIn K mainGlobals "isinstance" = some none)
    (z_len : PySem.W.nsIn K mainGlobals "len" = some none)
    (z_max : PySem.W.nsIn K mainGlobals "max" = some none)
    (z_min : PySem.W.nsIn K mainGlobals "min" = some none)
    (z_range : PySem.W.nsIn K mainGlobals "range" = some none)
    (z_repr : PySem.W.nsIn K mainGlobals "repr" = some none)
    (z_str : PySem.W.nsIn K mainGlobals "str" = some none)
    (y_FIGURES : PySem.W.nsIn K mainGlobals "FIGURES" = some (some (.str ⟨#[48, 49, 50, 51, 52, 53, 54, 55, 56, 57]⟩ t_FIGURES)))
    (y_LETTERS : PySem.W.nsIn K mainGlobals "LETTERS" = some (some (.str ⟨#[97, 98, 99, 100, 101, 102, 103, 104, 105, 106, 107, 108, 109, 110, 111, 112, 113, 114, 115, 116, 117, 118, 119, 120, 121, 122]⟩ t_LETTERS)))
    (y_LONGEST : PySem.W.nsIn K mainGlobals "LONGEST" = some (some (.int 6 t_LONGEST)))
    (y_MOST_FIGURES : PySem.W.nsIn K mainGlobals "MOST_FIGURES" = some (some (.int 30 t_MOST_FIGURES))) :
    ∃ (fd : FuncData) (G : Gm), G.K = K ∧ (∀ (s : Shared) (u : Value), BindsTo s fd ⟨[u], []⟩ [("script", u)]) ∧ ∀ base : Heap, K.In base → base.Ns mainGlobals mg → FnG l.prog w K mg base 4 fa fd ["script"] (spM G 1 m_law) := by
  have e := hfa.symm.trans (PySem.W.mg_of X G a14)
  cases e
  have F0 := fun_mk (st := s_law_purse) l0 c0 k0
  have B0 := F0.binds (ps := ["cell"]) fun _ _ _ _ _ _ us hl => match us, hl with | [_], _ => rfl
  have F1 := fun_mk (st := s_law_take) l1 c1 k1
  have B1 := F1.binds (ps := ["purse", "many"]) fun _ _ _ _ _ _ us hl => match us, hl with | [_, _], _ => rfl
  have F2 := fun_mk (st := s_law_near) l2 c2 k2
  have B2 := F2.binds (ps := ["purse", "text"]) fun _ _ _ _ _ _ us hl => match us, hl with | [_, _], _ => rfl
  have F3 := fun_mk (st := s_law_text) l3 c3 k3
  have B3 := F3.binds (ps := ["purse"]) fun _ _ _ _ _ _ us hl => match us, hl with | [_], _ => rfl
  have F4 := fun_mk (st := s_law_cell) l4 c4 k4
  have B4 := F4.binds (ps := ["script", "k"]) fun _ _ _ _ _ _ us hl => match us, hl with | [_, _], _ => rfl
  have F5 := fun_mk (st := s_law_odd) l5 c5 k5
  have B5 := F5.binds (ps := ["purse"]) fun _ _ _ _ _ _ us hl => match us, hl with | [_], _ => rfl
  have F6 := fun_mk (st := s_law_is_whole) l6 c6 k6
  have B6 := F6.binds (ps := ["thing", "low", "high"]) fun _ _ _ _ _ _ us hl => match us, hl with | [_, _, _], _ => rfl
  have F7 := fun_mk (st := s_law_is_name) l7 c7 k7
  have B7 := F7.binds (ps := ["thing"]) fun _ _ _ _ _ _ us hl => match us, hl with | [_], _ => rfl
  have F8 := fun_mk (st := s_law_number) l8 c8 k8
  have B8 := F8.binds (ps := ["thing", "low", "high"]) fun _ _ _ _ _ _ us hl => match us, hl with | [_, _, _], _ => rfl
  have F9 := fun_mk (st := s_is_whole) l9 c9 k9
  have B9 := F9.binds (ps := ["thing", "low", "high"]) fun _ _ _ _ _ _ us hl => match us, hl with | [_, _, _], _ => rfl
  have F10 := fun_mk (st := s_has_only) l10 c10 k10
  have B10 := F10.binds (ps := ["text", "signs"]) fun _ _ _ _ _ _ us hl => match us, hl with | [_, _], _ => rfl
  have F11 := fun_mk (st := s_is_name) l11 c11 k11
  have B11 := F11.binds (ps := ["thing"]) fun _ _ _ _ _ _ us hl => match us, hl with | [_], _ => rfl
  have F12 := fun_mk (st := s_is_plain) l12 c12 k12
  have B12 := F12.binds (ps := ["thing"]) fun _ _ _ _ _ _ us hl => match us, hl with | [_], _ => rfl
  have F13 := fun_mk (st := s_number_in) l13 c13 k13
  have B13 := F13.binds (ps := ["thing", "low", "high"]) fun _ _ _ _ _ _ us hl => match us, hl with | [_, _, _], _ => rfl
  have F14 := fun_mk (st := s_law) l14 c14 k14
  have B14 := F14.binds (ps := ["script"]) fun _ _ _ _ _ _ us hl => match us, hl with | [_], _ => rfl
  refine ⟨PySem.W.fnOf "law" "law" (defArgs s_law) (defBody s_law) (defScope s_law) .none kV14 dc14 pm14 an14 cd14 ct14, ⟨K, fun _ => fa, fun _ => []⟩, rfl, fun s v => .of_eq rfl, fun base _ _ => ok_law (A := ⟨f0, PySem.W.fnOf "_law_purse" "_law_purse" (defArgs s_law_purse) (defBody s_law_purse) (defScope s_law_purse) .none kV0 dc0 pm0 an0 cd0 ct0, f1, PySem.W.fnOf "_law_take" "_law_take" (defArgs s_law_take) (defBody s_law_take) (defScope s_law_take) .none kV1 dc1 pm1 an1 cd1 ct1, f2, PySem.W.fnOf "_law_near" "_law_near" (defArgs s_law_near) (defBody s_law_near) (defScope s_law_near) .none kV2 dc2 pm2 an2 cd2 ct2, f3, PySem.W.fnOf "_law_text" "_law_text" (defArgs s_law_text) (defBody s_law_text) (defScope s_law_text) .none kV3 dc3 pm3 an3 cd3 ct3, f4, PySem.W.fnOf "_law_cell" "_law_cell" (defArgs s_law_cell) (defBody s_law_cell) (defScope s_law_cell) .none kV4 dc4 pm4 an4 cd4 ct4, f5, PySem.W.fnOf "_law_odd" "_law_odd" (defArgs s_law_odd) (defBody s_law_odd) (defScope s_law_odd) .none kV5 dc5 pm5 an5 cd5 ct5, f6, PySem.W.fnOf "_law_is_whole" "_law_is_whole" (defArgs s_law_is_whole) (defBody s_law_is_whole) (defScope s_law_is_whole) .none kV6 dc6 pm6 an6 cd6 ct6, f7, PySem.W.fnOf "_law_is_name" "_law_is_name" (defArgs s_law_is_name) (defBody s_law_is_name) (defScope s_law_is_name) .none kV7 dc7 pm7 an7 cd7 ct7, f8, PySem.W.fnOf "_law_number" "_law_number" (defArgs s_law_number) (defBody s_law_number) (defScope s_law_number) .none kV8 dc8 pm8 an8 cd8 ct8, f9, PySem.W.fnOf "is_whole" "is_whole" (defArgs s_is_whole) (defBody s_is_whole) (defScope s_is_whole) .none kV9 dc9 pm9 an9 cd9 ct9, f10, PySem.W.fnOf "has_only" "has_only" (defArgs s_has_only) (defBody s_has_only) (defScope s_has_only) .none kV10 dc10 pm10 an10 cd10 ct10, f11, PySem.W.fnOf "is_name" "is_name" (defArgs s_is_name) (defBody s_is_name) (defScope s_is_name) .none kV11 dc11 pm11 an11 cd11 ct11, f12, PySem.W.fnOf "is_plain" "is_plain" (defArgs s_is_plain) (defBody s_is_plain) (defScope s_is_plain) .none kV12 dc12 pm12 an12 cd12 ct12, f13, PySem.W.fnOf "number_in" "number_in" (defArgs s_number_in) (defBody s_number_in) (defScope s_number_in) .none kV13 dc13 pm13 an13 cd13 ct13, fa, PySem.W.fnOf "law" "law" (defArgs s_law) (defBody s_law) (defScope s_law) .none kV14 dc14 pm14 an14 cd14 ct14⟩) ?_ rfl⟩
  exact ⟨PySem.W.mg_of X G a0, k0, F0, B0, PySem.W.mg_of X G a1, k1, F1, B1, PySem.W.mg_of X G a2, k2, F2, B2, PySem.W.mg_of X G a3, k3, F3, B3, PySem.W.mg_of X G a4, k4, F4, B4, PySem.W.mg_of X G a5, k5, F5, B5, PySem.W.mg_of X G a6, k6, F6, B6, PySem.W.mg_of X G a7, k7, F7, B7, PySem.W.mg_of X G a8, k8, F8, B8, PySem.W.mg_of X G a9, k9, F9, B9, PySem.W.mg_of X G a10, k10, F10, B10, PySem.W.mg_of X G a11, k11, F11, B11, PySem.W.mg_of X G a12, k12, F12, B12, PySem.W.mg_of X G a13, k13, F13, B13, PySem.W.mg_of X G a14, k14, F14, B14, PySem.W.mg_none_of X G z_all, PySem.W.mg_none_of X G z_bool, PySem.W.mg_none_of X G z_int, PySem.W.mg_none_of X G z_isinstance, PySem.W.mg_none_of X G z_len, PySem.W.mg_none_of X G z_max, PySem.W.mg_none_of X G z_min, PySem.W.mg_none_of X G z_range, PySem.W.mg_none_of X G z_repr, PySem.W.mg_none_of X G z_str, ⟨_, PySem.W.mg_of X G y_FIGURES⟩, ⟨_, PySem.W.mg_of X G y_LETTERS⟩, ⟨_, PySem.W.mg_of X G y_LONGEST⟩, ⟨_, PySem.W.mg_of X G y_MOST_FIGURES⟩⟩
end
end Law

end

section
set_option Elab.async false
set_option linter.all false
set_option maxRecDepth 100000
set_option maxHeartbeats 4000000
namespace Law
open PySem PySem.Spec PyProof.Rows L2 Sm
theorem take_eq : m_law_take = runF 5 (takeB 11) := rfl
theorem purse_eq : m_law_purse = runF 1 purseB := rfl
theorem cell_eq : m_law_cell = runF 2 (cellB 15485863 11) := rfl
theorem whole_eq : m_law_is_whole = m_is_whole := rfl
def figs : List Nat := [48, 49, 50, 51, 52, 53, 54, 55, 56, 57]
def lets : List Nat := [97, 98, 99, 100, 101, 102, 103, 104, 105, 106, 107, 108, 109, 110, 111, 112, 113, 114, 115, 116, 117, 118, 119, 120, 121, 122]
theorem mem_figs (c : Nat) : c ∈ figs ↔ (48 ≤ c ∧ c ≤ 57) := by
  simp only [figs, List.mem_cons, List.not_mem_nil, or_false]
  omega
theorem mem_lets (c : Nat) : c ∈ lets ↔ (97 ≤ c ∧ c ≤ 122) := by
  simp only [lets, List.mem_cons, List.not_mem_nil, or_false]
  omega
section
variable {s : Sto} {z : List Nat} {lo hi : Int}
theorem has_ok {signs : List Nat} (hz : z.length ≤ 1000) : m_has_only [.str z, .str signs] s = .ok (.bl (z.all fun c => decide (c ∈ signs))) s := by
  have e : mLc (lSeq (mVar 0)) (gpName 2) [2] mYes (m2V oIn (mPeek 2) (mPeek 1)) [.val (.str z), .val (.str signs), .un] s = .ok (.n .lst ((z.map fun c => decide (c ∈ signs)).map D.bl)) s := by
    refine mLc_of (l := z.map fun c => .str [c]) rfl (by simpa using hz) ?_
    have h := lcL_map (T := gpName 2) (te := m2V oIn (mPeek 2) (mPeek 1)) (ρ0 := [.val (.str z), .val (.str signs), .un]) (s := s) (g := fun d => match d with
      | .str [c] => .bl (decide (c ∈ signs))
      | _ => .non) (z.map fun c => .str [c]) (by
      intro d hd
      obtain ⟨c, _, rfl⟩ := List.mem_map.mp hd
      exact ⟨_, rfl, rfl⟩)
    rw [List.map_map] at h
    rw [List.map_map]
    exact h
  have x0 : p_has_only_0 [.val (.str z), .val (.str signs), .un] s = .rt (.bl ((z.map fun c => decide (c ∈ signs)).all id)) s := by
    unfold p_has_only_0
    generalize mLc (lSeq (mVar 0)) (gpName 2) [2] mYes (m2V oIn (mPeek 2) (mPeek 1)) = X at e
    simp only [sRet, mV, m1R, e, Res.bind, oAll_of, optR, Res.toS]
  have := run_rt (n := 3) (b := b_has_only) (l := [.str z, .str signs]) rfl x0
  rw [List.all_map] at this
  exact this
theorem is_name_ok (hz : z.length ≤ 1000) : m_is_name [.str z] s = .ok (.bl (decide (1 ≤ (z.length : Int)) && decide ((z.length : Int) ≤ 6) && z.all fun c => decide (c ∈ lets))) s := by
  have a := has_ok (s := s) (signs := lets) hz
  have b := oLen_str (s := s) hz
  have hl : lets = [97, 98, 99, 100, 101, 102, 103, 104, 105, 106, 107, 108, 109, 110, 111, 112, 113, 114, 115, 116, 117, 118, 119, 120, 121, 122] := rfl
  rw [hl] at a
  by_cases h1 : (1 : Int) ≤ (z.length : Int) <;> by_cases h2 : (z.length : Int) ≤ 6 <;>
    simp only [m_is_name, b_is_name, p_is_name_0, runF, sRet, mAndV, Sm.m1, Sm.l1, mPeek, mChain, mC, mV, m1R, mCall, mCons, mVar, mNil, Res.bind, List.map, List.cons_append, List.nil_append, List.length, List.replicate, List.append_nil, Nat.sub_self, Nat.zero_add, List.getElem?_cons_zero, oIsi, kindD, Option.map_some, optR, isKind, b, oLe, orO, oLeI, oI0, h1, h2, decide_true, decide_false, Bool.and_self, Bool.true_and, Bool.false_and, Bool.and_true, Bool.and_false, a, hl, Res.toS, beq_self_eq_true, Bool.true_or]
theorem filter_nil_all {p : Nat → Bool} (z : List Nat) : (z.filter fun c => !p c).isEmpty = z.all p := by
  induction z with
  | nil => rfl
  | cons c z ih =>
    cases h : p c <;> simp [h, ih]
theorem sign_le {c d : Nat} : oLe s (.str [c]) (.str [d]) = some (.bl (decide (c ≤ d))) := by
  have e : (!decide (([d] : List Nat) < [c])) = decide (c ≤ d) := by
    by_cases h : c ≤ d
    · have : ¬ (([d] : List Nat) < [c]) := by
        rw [List.cons_lt_cons_iff]
        rintro (h1 | ⟨_, h1⟩)
        · omega
        · exact List.not_lt_nil _ h1
      simp [h, this]
    · have : (([d] : List Nat) < [c]) := by
        rw [List.cons_lt_cons_iff]
        exact .inl (by omega)
      simp [h, this]
  show some (D.bl (!decide (([d] : List Nat) < [c]))) = _
  rw [e]
theorem law_name_ok (hz : z.length ≤ 1000) (hc : ∀ c ∈ z, c < 1114112) : m_law_is_name [.str z] s = .ok (.bl (decide (0 < z.length) && decide (z.length < 7) && z.all fun c => decide (97 ≤ c) && decide (c ≤ 122))) s := by
  have hz' : z.length ≤ lim := by unfold lim; omega
  have x0 : p_law_is_name_0 [.val (.str z), .un] s = if (0 < z.length ∧ z.length < 7) then .nx [.val (.str z), .un] s else .rt (.bl false) s := by
    by_cases h1 : 0 < z.length <;> by_cases h2 : z.length < 7
    all_goals simp [p_law_is_name_0, p_law_is_name_0a_0, runF, sSeq, RS.then, sIf, Res.toS, mTest, Res.bind, Sm.m2, Sm.m1, Sm.l1, Sm.l2, optR, mPeek, mC, mVar, mV, m1R, m2R, mCall, mCons, mNil, mAnd, mOr, mNot, mAndV, mOrV, oNot, mIf, sAsg, sRet, sNx, sUnp, sExpr, sAug, mTup, mLst, mChain, gpTup, gpCons, gpName, gpNil, orO, asR, oAdd, oI0, oI, oSub, oMulI, cMul, oDiv, oMod, oLt, oLtI, oLe, oLeI, oGt, oGtI, oGe, oGeI, oEq, oNe, oEqB, oEqS, oIx, vw, atI, ixN, oLen, oMax2, oMin2, oInt1, oIs, isNonD, oIsi, kindD, isKind, hz', h1, h2]
    all_goals omega
  by_cases hcc : 0 < z.length ∧ z.length < 7
  · rw [if_pos hcc] at x0
    have e : mLc (lSeq (mVar 0)) (gpName 1) [1] (mNot (mTest (mChain oLe oLe (mC (.str [97])) (mPeek 1) (mC (.str [122]))))) (mVar 1) [.val (.str z), .un] s = .ok (.n .lst (((z.filter fun c => !(decide (97 ≤ c) && decide (c ≤ 122))).map fun c => [c]).map D.str)) s := by
      refine mLc_of (l := z.map fun c => .str [c]) rfl (by simpa using hz) ?_
      have h := lcL_filter (T := gpName 1) (tt := mNot (mTest (mChain oLe oLe (mC (.str [97])) (mPeek 1) (mC (.str [122]))))) (te := mVar 1) (ρ0 := [.val (.str z), .un]) (s := s) (g := fun d => d) (p := fun d => match d with
        | .str [c] => !(decide (97 ≤ c) && decide (c ≤ 122))
        | _ => false) (z.map fun c => .str [c]) (by
        intro d hd
        obtain ⟨c, _, rfl⟩ := List.mem_map.mp hd
        refine ⟨[.val (.str z), .val (.str [c])], rfl, ?_, fun _ => rfl⟩
        have a1 := sign_le (s := s) (c := 97) (d := c)
        have a2 := sign_le (s := s) (c := c) (d := 122)
        by_cases h1 : 97 ≤ c <;> by_cases h2 : c ≤ 122 <;> simp [mNot, mTest, mChain, mC, mPeek, Res.bind, a1, a2, h1, h2, optR])
      rw [List.filter_map, List.map_map] at h
      rw [List.map_map]
      exact h
    have q : oEq s (.box .lst (((z.filter fun c => !(decide (97 ≤ c) && decide (c ≤ 122))).map fun c => [c]).map D.str)) (.box .lst []) = some (.bl (z.all fun c => decide (97 ≤ c) && decide (c ≤ 122))) := by
      rw [oEq_strs_nil _ (by
        intro y hy
        obtain ⟨c, hm, rfl⟩ := List.mem_map.mp hy
        have := hc c (List.mem_filter.mp hm).1
        simp [PyData.strOk, this]), List.isEmpty_map, filter_nil_all]
    have x1 : p_law_is_name_1 [.val (.str z), .un] s = .rt (.bl (z.all fun c => decide (97 ≤ c) && decide (c ≤ 122))) s := by
      unfold p_law_is_name_1
      generalize mLc (lSeq (mVar 0)) (gpName 1) [1] (mNot (mTest (mChain oLe oLe (mC (.str [97])) (mPeek 1) (mC (.str [122]))))) (mVar 1) = X at e
      have hl : ([] : List D).length ≤ lim := by unfold lim; decide
      simp only [sRet, Sm.m2, mV, e, Res.bind, mLst, mNil, if_pos hl, Sm.l2, q, optR, Res.toS]
    have := run_rt (n := 2) (b := b_law_is_name) (l := [.str z]) rfl (seq_nx x0 x1)
    simp only [hcc.1, hcc.2, decide_true, Bool.and_self, Bool.true_and]
    exact this
  · rw [if_neg hcc] at x0
    have := run_rt (n := 2) (b := b_law_is_name) (l := [.str z]) rfl (seq_rt (b := p_law_is_name_1) x0)
    have e : (decide (0 < z.length) && decide (z.length < 7)) = false := by
      by_cases h1 : 0 < z.length <;> by_cases h2 : z.length < 7 <;> simp [h1, h2]
      exact absurd ⟨h1, h2⟩ hcc
    rw [e, Bool.false_and]
    exact this
theorem names_same (hz : z.length ≤ 1000) (hc : ∀ c ∈ z, c < 1114112) : m_is_name [.str z] s = m_law_is_name [.str z] s := by
  rw [is_name_ok hz, law_name_ok hz hc]
  have e1 : decide (1 ≤ (z.length : Int)) = decide (0 < z.length) := by
    rw [decide_eq_decide]; omega
  have e2 : decide ((z.length : Int) ≤ 6) = decide (z.length < 7) := by
    rw [decide_eq_decide]; omega
  have e3 : (fun c => decide (c ∈ lets)) = fun c => decide (97 ≤ c) && decide (c ≤ 122) := by
    funext c
    rw [← Bool.decide_and, decide_eq_decide]
    exact mem_lets c
  rw [e1, e2, e3]
end
end Law

end

section
set_option Elab.async false
set_option linter.all false
set_option maxRecDepth 100000
set_option maxHeartbeats 4000000
namespace Law
open PySem PySem.Spec PyProof.Rows L2 Sm
def dg (c : Nat) : Bool := decide (48 ≤ c) && decide (c ≤ 57)
def hd0 (z : List Nat) : Bool := decide (z = [48]) || !decide (z.head? = some 48)
def plainB (z : List Nat) : Bool := decide (1 ≤ z.length) && decide (z.length ≤ 30) && z.all dg && hd0 z
def numD (z : List Nat) (lo hi : Int) : D := if plainB z = true then (if lo ≤ (NumText.digitsVal z : Int) ∧ (NumText.digitsVal z : Int) ≤ hi then .int (NumText.digitsVal z) else .non) else .non
section
variable {s : Sto} {z : List Nat} {lo hi : Int}
theorem has_figs (hz : z.length ≤ 1000) : m_has_only [.str z, .str [48, 49, 50, 51, 52, 53, 54, 55, 56, 57]] s = .ok (.bl (z.all dg)) s := by
  have a := has_ok (s := s) (signs := figs) hz
  have e3 : (fun c => decide (c ∈ figs)) = dg := by
    funext c
    unfold dg
    rw [← Bool.decide_and, decide_eq_decide]
    exact mem_figs c
  rw [e3] at a
  exact a
theorem plain_ok (hz : z.length ≤ 1000) : m_is_plain [.str z] s = .ok (.bl (plainB z)) s := by
  have hz' : z.length ≤ lim := by unfold lim; omega
  have a := has_figs (s := s) hz
  by_cases h1 : 1 ≤ z.length
  · by_cases h2 : z.length ≤ 30
    · cases h3 : z.all dg with
      | false =>
        rw [h3] at a
        have g1 : (1 : Int) ≤ (z.length : Int) := by omega
        have g2 : (z.length : Int) ≤ 30 := by omega
        simp [m_is_plain, b_is_plain, p_is_plain_0, p_is_plain_0a_0, runF, sSeq, RS.then, sIf, Res.toS, mTest, Res.bind, Sm.m2, Sm.m1, Sm.l1, Sm.l2, optR, mPeek, mC, mVar, mV, m1R, m2R, mCall, mCons, mNil, mAnd, mOr, mNot, mAndV, mOrV, oNot, mIf, sAsg, sRet, sNx, sUnp, sExpr, sAug, mTup, mLst, mChain, gpTup, gpCons, gpName, gpNil, orO, asR, oAdd, oI0, oI, oSub, oMulI, cMul, oDiv, oMod, oLt, oLtI, oLe, oLeI, oGt, oGtI, oGe, oGeI, oEq, oNe, oEqB, oEqS, oIx, vw, atI, ixN, oLen, oMax2, oMin2, oInt1, oIs, isNonD, oIsi, kindD, isKind, hz', g1, g2, a, plainB, h3]
      | true =>
        rw [h3] at a
        have x0 : p_is_plain_0 [.val (.str z)] s = .nx [.val (.str z)] s := by
          have g1 : (1 : Int) ≤ (z.length : Int) := by omega
          have g2 : (z.length : Int) ≤ 30 := by omega
          simp [p_is_plain_0, runF, sSeq, RS.then, sIf, Res.toS, mTest, Res.bind, Sm.m2, Sm.m1, Sm.l1, Sm.l2, optR, mPeek, mC, mVar, mV, m1R, m2R, mCall, mCons, mNil, mAnd, mOr, mNot, mAndV, mOrV, oNot, mIf, sAsg, sRet, sNx, sUnp, sExpr, sAug, mTup, mLst, mChain, gpTup, gpCons, gpName, gpNil, orO, asR, oAdd, oI0, oI, oSub, oMulI, cMul, oDiv, oMod, oLt, oLtI, oLe, oLeI, oGt, oGtI, oGe, oGeI, oEq, oNe, oEqB, oEqS, oIx, vw, atI, ixN, oLen, oMax2, oMin2, oInt1, oIs, isNonD, oIsi, kindD, isKind, hz', g1, g2, a]
        have x1 : p_is_plain_1 [.val (.str z)] s = .rt (.bl (hd0 z)) s := by
          match z, h1 with
          | c :: r, _ =>
            by_cases h4 : (c :: r) = [48]
            · simp [p_is_plain_1, runF, sSeq, RS.then, sIf, Res.toS, mTest, Res.bind, Sm.m2, Sm.m1, Sm.l1, Sm.l2, optR, mPeek, mC, mVar, mV, m1R, m2R, mCall, mCons, mNil, mAnd, mOr, mNot, mAndV, mOrV, oNot, mIf, sAsg, sRet, sNx, sUnp, sExpr, sAug, mTup, mLst, mChain, gpTup, gpCons, gpName, gpNil, orO, asR, oAdd, oI0, oI, oSub, oMulI, cMul, oDiv, oMod, oLt, oLtI, oLe, oLeI, oGt, oGtI, oGe, oGeI, oEq, oNe, oEqB, oEqS, oIx, vw, atI, ixN, oLen, oMax2, oMin2, oInt1, oIs, isNonD, h4, hd0]
            · by_cases h5 : c = 48
              · subst h5
                have hr : ¬ r = [] := fun q => h4 (by rw [q])
                simp at hz'
                simp [p_is_plain_1, runF, sSeq, RS.then, sIf, Res.toS, mTest, Res.bind, Sm.m2, Sm.m1, Sm.l1, Sm.l2, optR, mPeek, mC, mVar, mV, m1R, m2R, mCall, mCons, mNil, mAnd, mOr, mNot, mAndV, mOrV, oNot, mIf, sAsg, sRet, sNx, sUnp, sExpr, sAug, mTup, mLst, mChain, gpTup, gpCons, gpName, gpNil, orO, asR, oAdd, oI0, oI, oSub, oMulI, cMul, oDiv, oMod, oLt, oLtI, oLe, oLeI, oGt, oGtI, oGe, oGeI, oEq, oNe, oEqB, oEqS, oIx, vw, atI, ixN, oLen, oMax2, oMin2, oInt1, oIs, isNonD, hr, hd0, hz']
              · simp at hz'
                simp [p_is_plain_1, runF, sSeq, RS.then, sIf, Res.toS, mTest, Res.bind, Sm.m2, Sm.m1, Sm.l1, Sm.l2, optR, mPeek, mC, mVar, mV, m1R, m2R, mCall, mCons, mNil, mAnd, mOr, mNot, mAndV, mOrV, oNot, mIf, sAsg, sRet, sNx, sUnp, sExpr, sAug, mTup, mLst, mChain, gpTup, gpCons, gpName, gpNil, orO, asR, oAdd, oI0, oI, oSub, oMulI, cMul, oDiv, oMod, oLt, oLtI, oLe, oLeI, oGt, oGtI, oGe, oGeI, oEq, oNe, oEqB, oEqS, oIx, vw, atI, ixN, oLen, oMax2, oMin2, oInt1, oIs, isNonD, h5, hd0, hz']
        have := run_rt (n := 1) (b := b_is_plain) (l := [.str z]) rfl (seq_nx x0 x1)
        have e : plainB z = hd0 z := by unfold plainB; simp [h1, h2, h3]
        rw [e]
        exact this
    · have e : plainB z = false := by unfold plainB; simp [h2]
      rw [e]
      have g2 : ¬ (z.length : Int) ≤ 30 := by omega
      have g1 : (1 : Int) ≤ (z.length : Int) := by omega
      simp [m_is_plain, b_is_plain, p_is_plain_0, p_is_plain_0a_0, runF, sSeq, RS.then, sIf, Res.toS, mTest, Res.bind, Sm.m2, Sm.m1, Sm.l1, Sm.l2, optR, mPeek, mC, mVar, mV, m1R, m2R, mCall, mCons, mNil, mAnd, mOr, mNot, mAndV, mOrV, oNot, mIf, sAsg, sRet, sNx, sUnp, sExpr, sAug, mTup, mLst, mChain, gpTup, gpCons, gpName, gpNil, orO, asR, oAdd, oI0, oI, oSub, oMulI, cMul, oDiv, oMod, oLt, oLtI, oLe, oLeI, oGt, oGtI, oGe, oGeI, oEq, oNe, oEqB, oEqS, oIx, vw, atI, ixN, oLen, oMax2, oMin2, oInt1, oIs, isNonD, oIsi, kindD, isKind, hz', g1, g2]
  · have e : plainB z = false := by unfold plainB; simp [h1]
    rw [e]
    have g1 : ¬ (1 : Int) ≤ (z.length : Int) := by omega
    simp [m_is_plain, b_is_plain, p_is_plain_0, p_is_plain_0a_0, runF, sSeq, RS.then, sIf, Res.toS, mTest, Res.bind, Sm.m2, Sm.m1, Sm.l1, Sm.l2, optR, mPeek, mC, mVar, mV, m1R, m2R, mCall, mCons, mNil, mAnd, mOr, mNot, mAndV, mOrV, oNot, mIf, sAsg, sRet, sNx, sUnp, sExpr, sAug, mTup, mLst, mChain, gpTup, gpCons, gpName, gpNil, orO, asR, oAdd, oI0, oI, oSub, oMulI, cMul, oDiv, oMod, oLt, oLtI, oLe, oLeI, oGt, oGtI, oGe, oGeI, oEq, oNe, oEqB, oEqS, oIx, vw, atI, ixN, oLen, oMax2, oMin2, oInt1, oIs, isNonD, oIsi, kindD, isKind, hz', g1]
theorem digs (h : z.all dg = true) : NumText.AllDigits z := fun c hc => by
  have := List.all_eq_true.mp h c hc
  unfold dg at this
  simpa using this
theorem int_ok (h : z.all dg = true) (h0 : 1 ≤ z.length) (hl : z.length ≤ 30) : oInt1 s (.str z) = some (.v (.int (NumText.digitsVal z))) := by
  have e : PySem.intText? ⟨z.toArray⟩ = some ((NumText.digitsVal z : Nat) : Int) := PySem.intText_digits (x := ⟨z.toArray⟩) (digs h) (by
    intro q
    have q : z = [] := q
    rw [q] at h0
    exact absurd h0 (by decide)) (by rw [str_len]; omega)
  show (if z.length ≤ 640 then (PySem.intText? ⟨z.toArray⟩).map fun n => Rr.v (D.int n) else none) = _
  rw [if_pos (by omega), e]
  rfl
theorem number_in_ok (hz : z.length ≤ 1000) : m_number_in [.str z, .int lo, .int hi] s = .ok (numD z lo hi) s := by
  have a := plain_ok (s := s) hz
  cases hp : plainB z with
  | false =>
    rw [hp] at a
    simp [m_number_in, b_number_in, p_number_in_0, p_number_in_0a_0, runF, sSeq, RS.then, sIf, Res.toS, mTest, Res.bind, Sm.m2, Sm.m1, Sm.l1, Sm.l2, optR, mPeek, mC, mVar, mV, m1R, m2R, mCall, mCons, mNil, mAnd, mOr, mNot, mAndV, mOrV, oNot, mIf, sAsg, sRet, sNx, sUnp, sExpr, sAug, mTup, mLst, mChain, gpTup, gpCons, gpName, gpNil, orO, asR, oAdd, oI0, oI, oSub, oMulI, cMul, oDiv, oMod, oLt, oLtI, oLe, oLeI, oGt, oGtI, oGe, oGeI, oEq, oNe, oEqB, oEqS, oIx, vw, atI, ixN, oLen, oMax2, oMin2, oInt1, oIs, isNonD, a, numD, hp]
  | true =>
    rw [hp] at a
    have hq := hp
    unfold plainB at hq
    simp only [Bool.and_eq_true, decide_eq_true_eq] at hq
    have b := int_ok (s := s) hq.1.2 hq.1.1.1 hq.1.1.2
    have x0 : p_number_in_0 [.val (.str z), .val (.int lo), .val (.int hi), .un] s = .nx [.val (.str z), .val (.int lo), .val (.int hi), .un] s := by
      simp [p_number_in_0, runF, sSeq, RS.then, sIf, Res.toS, mTest, Res.bind, Sm.m2, Sm.m1, Sm.l1, Sm.l2, optR, mPeek, mC, mVar, mV, m1R, m2R, mCall, mCons, mNil, mAnd, mOr, mNot, mAndV, mOrV, oNot, mIf, sAsg, sRet, sNx, sUnp, sExpr, sAug, mTup, mLst, mChain, gpTup, gpCons, gpName, gpNil, orO, asR, oAdd, oI0, oI, oSub, oMulI, cMul, oDiv, oMod, oLt, oLtI, oLe, oLeI, oGt, oGtI, oGe, oGeI, oEq, oNe, oEqB, oEqS, oIx, vw, atI, ixN, oLen, oMax2, oMin2, oInt1, oIs, isNonD, a]
    have x1 : p_number_in_1 [.val (.str z), .val (.int lo), .val (.int hi), .un] s = .nx [.val (.str z), .val (.int lo), .val (.int hi), .val (.int (NumText.digitsVal z))] s := by
      simp only [p_number_in_1, sAsg, mV, m1R, mPeek, List.getElem?_cons_zero, Res.bind, b, optR, Res.toS, List.set]
    have x2 : p_number_in_2 [.val (.str z), .val (.int lo), .val (.int hi), .val (.int (NumText.digitsVal z))] s = .rt (numD z lo hi) s := by
      have e : numD z lo hi = if lo ≤ (NumText.digitsVal z : Int) ∧ (NumText.digitsVal z : Int) ≤ hi then .int (NumText.digitsVal z) else .non := by unfold numD; rw [if_pos hp]
      rw [e]
      generalize NumText.digitsVal z = v
      by_cases g1 : lo ≤ (v : Int) <;> by_cases g2 : (v : Int) ≤ hi <;> simp [p_number_in_2, runF, sSeq, RS.then, sIf, Res.toS, mTest, Res.bind, Sm.m2, Sm.m1, Sm.l1, Sm.l2, optR, mPeek, mC, mVar, mV, m1R, m2R, mCall, mCons, mNil, mAnd, mOr, mNot, mAndV, mOrV, oNot, mIf, sAsg, sRet, sNx, sUnp, sExpr, sAug, mTup, mLst, mChain, gpTup, gpCons, gpName, gpNil, orO, asR, oAdd, oI0, oI, oSub, oMulI, cMul, oDiv, oMod, oLt, oLtI, oLe, oLeI, oGt, oGtI, oGe, oGeI, oEq, oNe, oEqB, oEqS, oIx, vw, atI, ixN, oLen, oMax2, oMin2, oInt1, oIs, isNonD, g1, g2]
    exact run_rt (n := 4) (b := b_number_in) (l := [.str z, .int lo, .int hi]) rfl (seq_nx x0 (seq_nx x1 x2))
/-! the law's own number -/
def own1 (t : Nat) (w : List Nat) : Nat := w.foldl (fun acc c => acc * 10 + (c - 48)) t
theorem find_all (s : Sto) : (List.range 10).map (fun (n : Nat) => oFind s [48, 49, 50, 51, 52, 53, 54, 55, 56, 57] (.str [48 + n])) = (List.range 10).map (fun (n : Nat) => some (.v (.int (n : Int)))) := by kernel_rfl
theorem find_ok {c : Nat} (h1 : 48 ≤ c) (h2 : c ≤ 57) : oFind s [48, 49, 50, 51, 52, 53, 54, 55, 56, 57] (.str [c]) = some (.v (.int ((c - 48 : Nat) : Int))) := by
  have e := congrArg (·[c - 48]?) (find_all s)
  have hj : c - 48 < 10 := by omega
  simp only [List.getElem?_map, List.getElem?_range hj, Option.map_some, Option.some.injEq] at e
  rw [show 48 + (c - 48) = c by omega] at e
  exact e
theorem loop_ok {x0 x1 x2 : Sl} : ∀ (w : List Nat) (t : Nat) (x4 : Sl), ∃ y, forL (gpName 4) (sSeq p_law_number_2_0 p_law_number_2_1) (w.map fun c => .str [c]) [x0, x1, x2, .val (.int (t : Int)), x4] s =
    if w.all dg = true then .nx [x0, x1, x2, .val (.int (own1 t w : Nat)), y] s else .rt .non s
  | [], t, x4 => ⟨x4, rfl⟩
  | c :: w, t, x4 => by
    have a1 := sign_le (s := s) (c := 48) (d := c)
    have a2 := sign_le (s := s) (c := c) (d := 57)
    by_cases h1 : 48 ≤ c
    · by_cases h2 : c ≤ 57
      · have b := find_ok (s := s) h1 h2
        have w0 : p_law_number_2_0 [x0, x1, x2, .val (.int (t : Int)), .val (.str [c])] s = .nx [x0, x1, x2, .val (.int (t : Int)), .val (.str [c])] s := by
          simp [p_law_number_2_0, sIf, mNot, mTest, mChain, mC, mPeek, Res.bind, a1, a2, h1, h2, optR, Res.toS, sNx]
        have x1' : p_law_number_2_1 [x0, x1, x2, .val (.int (t : Int)), .val (.str [c])] s = .nx [x0, x1, x2, .val (.int ((t * 10 + (c - 48) : Nat) : Int)), .val (.str [c])] s := by
          have e : 10 * (t : Int) + ((c - 48 : Nat) : Int) = ((t * 10 + (c - 48) : Nat) : Int) := by push_cast; omega
          simp only [p_law_number_2_1, sAsg, mV, m2R, Sm.m2, mSM1, mC, mPeek, List.getElem?_cons_zero, List.getElem?_cons_succ, Res.bind, Sm.l2, oMulI, oI, optR, b, oAdd, orO, asR, oI0, Option.map_some, Res.toS, List.set, e, show cMul 10 (t : Int) = true from rfl, if_true]
        obtain ⟨y, ih⟩ := loop_ok w (t * 10 + (c - 48)) (.val (.str [c]))
        refine ⟨y, ?_⟩
        have hd : dg c = true := by unfold dg; simp [h1, h2]
        rw [List.all_cons, hd, Bool.true_and]
        refine Eq.trans ?_ ih
        show (match (sSeq p_law_number_2_0 p_law_number_2_1) [_, _, _, _, .val (.str [c])] s with
          | .nx ρ2 s2 => forL _ _ _ ρ2 s2
          | .ct ρ2 s2 => forL _ _ _ ρ2 s2
          | .bk ρ2 s2 => .nx ρ2 s2
          | r => r) = _
        rw [seq_nx w0 x1']
      · refine ⟨.un, ?_⟩
        have hd : dg c = false := by unfold dg; simp [h2]
        rw [List.all_cons, hd, Bool.false_and]
        have w0 : p_law_number_2_0 [x0, x1, x2, .val (.int (t : Int)), .val (.str [c])] s = .rt .non s := by
          simp [p_law_number_2_0, p_law_number_2_0a_0, sIf, mNot, mTest, mChain, mC, mPeek, Res.bind, a1, a2, h1, h2, optR, Res.toS, sRet]
        show (match (sSeq p_law_number_2_0 p_law_number_2_1) [_, _, _, _, .val (.str [c])] s with
          | .nx ρ2 s2 => forL _ _ _ ρ2 s2
          | .ct ρ2 s2 => forL _ _ _ ρ2 s2
          | .bk ρ2 s2 => .nx ρ2 s2
          | r => r) = _
        rw [seq_rt w0]
        rfl
    · refine ⟨.un, ?_⟩
      have hd : dg c = false := by unfold dg; simp [h1]
      rw [List.all_cons, hd, Bool.false_and]
      have w0 : p_law_number_2_0 [x0, x1, x2, .val (.int (t : Int)), .val (.str [c])] s = .rt .non s := by
        simp [p_law_number_2_0, p_law_number_2_0a_0, sIf, mNot, mTest, mChain, mC, mPeek, Res.bind, a1, a2, h1, optR, Res.toS, sRet]
      show (match (sSeq p_law_number_2_0 p_law_number_2_1) [_, _, _, _, .val (.str [c])] s with
        | .nx ρ2 s2 => forL _ _ _ ρ2 s2
        | .ct ρ2 s2 => forL _ _ _ ρ2 s2
        | .bk ρ2 s2 => .nx ρ2 s2
        | r => r) = _
      rw [seq_rt w0]
      rfl
theorem law_number_ok (hz : z.length ≤ 1000) : m_law_number [.str z, .int lo, .int hi] s = .ok (numD z lo hi) s := by
  have hz' : z.length ≤ lim := by unfold lim; omega
  have bad : ∀ {st : Sto}, p_law_number_0 [.val (.str z), .val (.int lo), .val (.int hi), .un, .un] st = .rt .non st → plainB z = false → m_law_number [.str z, .int lo, .int hi] st = .ok (numD z lo hi) st := fun h hp => by
    have := run_rt (n := 5) (b := b_law_number) (l := [.str z, .int lo, .int hi]) rfl (seq_rt (b := sSeq p_law_number_1 (sSeq p_law_number_2 p_law_number_3)) h)
    unfold numD
    rw [hp]
    exact this
  by_cases h1 : 1 ≤ z.length
  · have g1 : (0 : Int) < (z.length : Int) := by omega
    by_cases h2 : z.length ≤ 30
    · have g2 : (z.length : Int) < 31 := by omega
      cases h4 : hd0 z with
      | false =>
        refine bad ?_ (by unfold plainB; rw [h4, Bool.and_false])
        match z, h1, hz', h4, g1, g2 with
        | c :: r, _, hz', h4, g1, g2 =>
          unfold hd0 at h4
          simp at h4
          obtain ⟨h5, rfl⟩ := h4
          have hr : ¬ r = [] := fun q => h5 rfl q
          simp at hz' g1 g2
          simp [p_law_number_0, p_law_number_0a_0, runF, sSeq, RS.then, sIf, Res.toS, mTest, Res.bind, Sm.m2, Sm.m1, Sm.l1, Sm.l2, optR, mPeek, mC, mVar, mV, m1R, m2R, mCall, mCons, mNil, mAnd, mOr, mNot, mAndV, mOrV, oNot, mIf, sAsg, sRet, sNx, sUnp, sExpr, sAug, mTup, mLst, mChain, gpTup, gpCons, gpName, gpNil, orO, asR, oAdd, oI0, oI, oSub, oMulI, cMul, oDiv, oMod, oLt, oLtI, oLe, oLeI, oGt, oGtI, oGe, oGeI, oEq, oNe, oEqB, oEqS, oIx, vw, atI, ixN, oLen, oMax2, oMin2, oInt1, oIs, isNonD, oIsi, kindD, isKind, hz', g1, g2, hr]
      | true =>
        have w0 : p_law_number_0 [.val (.str z), .val (.int lo), .val (.int hi), .un, .un] s = .nx [.val (.str z), .val (.int lo), .val (.int hi), .un, .un] s := by
          match z, h1, hz', h4, g1, g2 with
          | c :: r, _, hz', h4, g1, g2 =>
            unfold hd0 at h4
            simp at h4
            simp at hz' g1 g2
            by_cases h5 : c = 48
            · subst h5
              simp at h4
              subst h4
              clear bad
              kernel_rfl
            · simp [p_law_number_0, runF, sSeq, RS.then, sIf, Res.toS, mTest, Res.bind, Sm.m2, Sm.m1, Sm.l1, Sm.l2, optR, mPeek, mC, mVar, mV, m1R, m2R, mCall, mCons, mNil, mAnd, mOr, mNot, mAndV, mOrV, oNot, mIf, sAsg, sRet, sNx, sUnp, sExpr, sAug, mTup, mLst, mChain, gpTup, gpCons, gpName, gpNil, orO, asR, oAdd, oI0, oI, oSub, oMulI, cMul, oDiv, oMod, oLt, oLtI, oLe, oLeI, oGt, oGtI, oGe, oGeI, oEq, oNe, oEqB, oEqS, oIx, vw, atI, ixN, oLen, oMax2, oMin2, oInt1, oIs, isNonD, oIsi, kindD, isKind, hz', g1, g2, h5]
        have w1 : p_law_number_1 [.val (.str z), .val (.int lo), .val (.int hi), .un, .un] s = .nx [.val (.str z), .val (.int lo), .val (.int hi), .val (.int ((0 : Nat) : Int)), .un] s := rfl
        obtain ⟨y, w2⟩ := loop_ok (s := s) (x0 := .val (.str z)) (x1 := .val (.int lo)) (x2 := .val (.int hi)) z 0 .un
        have w2' : p_law_number_2 [.val (.str z), .val (.int lo), .val (.int hi), .val (.int ((0 : Nat) : Int)), .un] s = if z.all dg = true then .nx [.val (.str z), .val (.int lo), .val (.int hi), .val (.int (own1 0 z : Nat)), y] s else .rt .non s := w2
        cases h3 : z.all dg with
        | false =>
          rw [h3] at w2'
          have hp : plainB z = false := by unfold plainB; rw [h3, Bool.and_false, Bool.false_and]
          have := run_rt (n := 5) (b := b_law_number) (l := [.str z, .int lo, .int hi]) rfl (seq_nx w0 (seq_nx w1 (seq_rt (b := p_law_number_3) w2')))
          unfold numD
          rw [hp]
          exact this
        | true =>
          rw [h3] at w2'
          have hp : plainB z = true := by unfold plainB; simp [h1, h2, h3, h4]
          have e : numD z lo hi = if lo ≤ (own1 0 z : Int) ∧ (own1 0 z : Int) ≤ hi then .int (own1 0 z) else .non := by unfold numD; rw [if_pos hp]; rfl
          have w3 : p_law_number_3 [.val (.str z), .val (.int lo), .val (.int hi), .val (.int (own1 0 z : Nat)), y] s = .rt (numD z lo hi) s := by
            rw [e]
            generalize own1 0 z = v
            by_cases g1 : lo ≤ (v : Int) <;> by_cases g2 : (v : Int) ≤ hi <;> simp [p_law_number_3, runF, sSeq, RS.then, sIf, Res.toS, mTest, Res.bind, Sm.m2, Sm.m1, Sm.l1, Sm.l2, optR, mPeek, mC, mVar, mV, m1R, m2R, mCall, mCons, mNil, mAnd, mOr, mNot, mAndV, mOrV, oNot, mIf, sAsg, sRet, sNx, sUnp, sExpr, sAug, mTup, mLst, mChain, gpTup, gpCons, gpName, gpNil, orO, asR, oAdd, oI0, oI, oSub, oMulI, cMul, oDiv, oMod, oLt, oLtI, oLe, oLeI, oGt, oGtI, oGe, oGeI, oEq, oNe, oEqB, oEqS, oIx, vw, atI, ixN, oLen, oMax2, oMin2, oInt1, oIs, isNonD, g1, g2]
          exact run_rt (n := 5) (b := b_law_number) (l := [.str z, .int lo, .int hi]) rfl (seq_nx w0 (seq_nx w1 (seq_nx w2' w3)))
    · refine bad ?_ (by unfold plainB; simp [h2])
      have g2 : ¬ (z.length : Int) < 31 := by omega
      have g1n : 0 < z.length := by omega
      have g2n : ¬ z.length < 31 := by omega
      simp [p_law_number_0, p_law_number_0a_0, runF, sSeq, RS.then, sIf, Res.toS, mTest, Res.bind, Sm.m2, Sm.m1, Sm.l1, Sm.l2, optR, mPeek, mC, mVar, mV, m1R, m2R, mCall, mCons, mNil, mAnd, mOr, mNot, mAndV, mOrV, oNot, mIf, sAsg, sRet, sNx, sUnp, sExpr, sAug, mTup, mLst, mChain, gpTup, gpCons, gpName, gpNil, orO, asR, oAdd, oI0, oI, oSub, oMulI, cMul, oDiv, oMod, oLt, oLtI, oLe, oLeI, oGt, oGtI, oGe, oGeI, oEq, oNe, oEqB, oEqS, oIx, vw, atI, ixN, oLen, oMax2, oMin2, oInt1, oIs, isNonD, oIsi, kindD, isKind, hz', g1, g2, g1n, g2n]
  · refine bad ?_ (by unfold plainB; simp [h1])
    have g1 : ¬ (0 : Int) < (z.length : Int) := by omega
    have g1n : ¬ 0 < z.length := by omega
    simp [p_law_number_0, p_law_number_0a_0, runF, sSeq, RS.then, sIf, Res.toS, mTest, Res.bind, Sm.m2, Sm.m1, Sm.l1, Sm.l2, optR, mPeek, mC, mVar, mV, m1R, m2R, mCall, mCons, mNil, mAnd, mOr, mNot, mAndV, mOrV, oNot, mIf, sAsg, sRet, sNx, sUnp, sExpr, sAug, mTup, mLst, mChain, gpTup, gpCons, gpName, gpNil, orO, asR, oAdd, oI0, oI, oSub, oMulI, cMul, oDiv, oMod, oLt, oLtI, oLe, oLeI, oGt, oGtI, oGe, oGeI, oEq, oNe, oEqB, oEqS, oIx, vw, atI, ixN, oLen, oMax2, oMin2, oInt1, oIs, isNonD, oIsi, kindD, isKind, hz', g1, g1n]
/-! any thing -/
inductive Th : D → Prop
  | int (i : Int) : Th (.int i)
  | str (z : List Nat) (h : z.length ≤ 1000) (hc : ∀ c ∈ z, c < 1114112) : Th (.str z)
  | oth (t : D) (k : String) (h : ∀ s, kindD s t = some k) (hk : k = "NoneType" ∨ k = "bool" ∨ k = "list" ∨ k = "tuple" ∨ k = "dict") : Th t
theorem three {t : D} (h : Th t) (s : Sto) : ∃ b1 b2 n, m_is_whole [t, .int lo, .int hi] s = .ok (.bl b1) s ∧ m_is_name [t] s = .ok (.bl b2) s ∧ m_law_is_name [t] s = .ok (.bl b2) s ∧
    m_number_in [t, .int lo, .int hi] s = .ok n s ∧ m_law_number [t, .int lo, .int hi] s = .ok n s ∧ (n = .non ∨ ∃ i : Int, n = .int i ∧ lo ≤ i ∧ i ≤ hi) := by
  cases h with
  | int i =>
    refine ⟨decide (lo ≤ i) && decide (i ≤ hi), false, .non, ?_, ?_, ?_, ?_, ?_, .inl rfl⟩
    · by_cases h : lo ≤ i <;> simp [m_is_whole, b_is_whole, p_is_whole_0, runF, sSeq, RS.then, sIf, Res.toS, mTest, Res.bind, Sm.m2, Sm.m1, Sm.l1, Sm.l2, optR, mPeek, mC, mVar, mV, m1R, m2R, mCall, mCons, mNil, mAnd, mOr, mNot, mAndV, mOrV, oNot, mIf, sAsg, sRet, sNx, sUnp, sExpr, sAug, mTup, mLst, mChain, gpTup, gpCons, gpName, gpNil, orO, asR, oAdd, oI0, oI, oSub, oMulI, cMul, oDiv, oMod, oLt, oLtI, oLe, oLeI, oGt, oGtI, oGe, oGeI, oEq, oNe, oEqB, oEqS, oIx, vw, atI, ixN, oLen, oMax2, oMin2, oInt1, oIs, isNonD, oIsi, kindD, isKind, h]
    · simp [m_is_name, b_is_name, p_is_name_0, runF, sSeq, RS.then, sIf, Res.toS, mTest, Res.bind, Sm.m2, Sm.m1, Sm.l1, Sm.l2, optR, mPeek, mC, mVar, mV, m1R, m2R, mCall, mCons, mNil, mAnd, mOr, mNot, mAndV, mOrV, oNot, mIf, sAsg, sRet, sNx, sUnp, sExpr, sAug, mTup, mLst, mChain, gpTup, gpCons, gpName, gpNil, orO, asR, oAdd, oI0, oI, oSub, oMulI, cMul, oDiv, oMod, oLt, oLtI, oLe, oLeI, oGt, oGtI, oGe, oGeI, oEq, oNe, oEqB, oEqS, oIx, vw, atI, ixN, oLen, oMax2, oMin2, oInt1, oIs, isNonD, oIsi, kindD, isKind]
    · simp [m_law_is_name, b_law_is_name, p_law_is_name_0, p_law_is_name_0a_0, runF, sSeq, RS.then, sIf, Res.toS, mTest, Res.bind, Sm.m2, Sm.m1, Sm.l1, Sm.l2, optR, mPeek, mC, mVar, mV, m1R, m2R, mCall, mCons, mNil, mAnd, mOr, mNot, mAndV, mOrV, oNot, mIf, sAsg, sRet, sNx, sUnp, sExpr, sAug, mTup, mLst, mChain, gpTup, gpCons, gpName, gpNil, orO, asR, oAdd, oI0, oI, oSub, oMulI, cMul, oDiv, oMod, oLt, oLtI, oLe, oLeI, oGt, oGtI, oGe, oGeI, oEq, oNe, oEqB, oEqS, oIx, vw, atI, ixN, oLen, oMax2, oMin2, oInt1, oIs, isNonD, oIsi, kindD, isKind]
    · simp [m_number_in, b_number_in, p_number_in_0, p_number_in_0a_0, m_is_plain, b_is_plain, p_is_plain_0, p_is_plain_0a_0, runF, sSeq, RS.then, sIf, Res.toS, mTest, Res.bind, Sm.m2, Sm.m1, Sm.l1, Sm.l2, optR, mPeek, mC, mVar, mV, m1R, m2R, mCall, mCons, mNil, mAnd, mOr, mNot, mAndV, mOrV, oNot, mIf, sAsg, sRet, sNx, sUnp, sExpr, sAug, mTup, mLst, mChain, gpTup, gpCons, gpName, gpNil, orO, asR, oAdd, oI0, oI, oSub, oMulI, cMul, oDiv, oMod, oLt, oLtI, oLe, oLeI, oGt, oGtI, oGe, oGeI, oEq, oNe, oEqB, oEqS, oIx, vw, atI, ixN, oLen, oMax2, oMin2, oInt1, oIs, isNonD, oIsi, kindD, isKind]
    · simp [m_law_number, b_law_number, p_law_number_0, p_law_number_0a_0, runF, sSeq, RS.then, sIf, Res.toS, mTest, Res.bind, Sm.m2, Sm.m1, Sm.l1, Sm.l2, optR, mPeek, mC, mVar, mV, m1R, m2R, mCall, mCons, mNil, mAnd, mOr, mNot, mAndV, mOrV, oNot, mIf, sAsg, sRet, sNx, sUnp, sExpr, sAug, mTup, mLst, mChain, gpTup, gpCons, gpName, gpNil, orO, asR, oAdd, oI0, oI, oSub, oMulI, cMul, oDiv, oMod, oLt, oLtI, oLe, oLeI, oGt, oGtI, oGe, oGeI, oEq, oNe, oEqB, oEqS, oIx, vw, atI, ixN, oLen, oMax2, oMin2, oInt1, oIs, isNonD, oIsi, kindD, isKind]
  | str z h hc =>
    refine ⟨false, _, numD z lo hi, ?_, is_name_ok h, (names_same h hc).symm.trans (is_name_ok h), number_in_ok h, law_number_ok h, ?_⟩
    · simp [m_is_whole, b_is_whole, p_is_whole_0, runF, sSeq, RS.then, sIf, Res.toS, mTest, Res.bind, Sm.m2, Sm.m1, Sm.l1, Sm.l2, optR, mPeek, mC, mVar, mV, m1R, m2R, mCall, mCons, mNil, mAnd, mOr, mNot, mAndV, mOrV, oNot, mIf, sAsg, sRet, sNx, sUnp, sExpr, sAug, mTup, mLst, mChain, gpTup, gpCons, gpName, gpNil, orO, asR, oAdd, oI0, oI, oSub, oMulI, cMul, oDiv, oMod, oLt, oLtI, oLe, oLeI, oGt, oGtI, oGe, oGeI, oEq, oNe, oEqB, oEqS, oIx, vw, atI, ixN, oLen, oMax2, oMin2, oInt1, oIs, isNonD, oIsi, kindD, isKind]
    · unfold numD
      split
      · split
        · exact .inr ⟨_, rfl, by assumption⟩
        · exact .inl rfl
      · exact .inl rfl
  | oth t k h hk =>
    refine ⟨false, false, .non, ?_, ?_, ?_, ?_, ?_, .inl rfl⟩
    · rcases hk with rfl | rfl | rfl | rfl | rfl <;> simp [m_is_whole, b_is_whole, p_is_whole_0, runF, sSeq, RS.then, sIf, Res.toS, mTest, Res.bind, Sm.m2, Sm.m1, Sm.l1, Sm.l2, optR, mPeek, mC, mVar, mV, m1R, m2R, mCall, mCons, mNil, mAnd, mOr, mNot, mAndV, mOrV, oNot, mIf, sAsg, sRet, sNx, sUnp, sExpr, sAug, mTup, mLst, mChain, gpTup, gpCons, gpName, gpNil, orO, asR, oAdd, oI0, oI, oSub, oMulI, cMul, oDiv, oMod, oLt, oLtI, oLe, oLeI, oGt, oGtI, oGe, oGeI, oEq, oNe, oEqB, oEqS, oIx, vw, atI, ixN, oLen, oMax2, oMin2, oInt1, oIs, isNonD, oIsi, h, isKind]
    · rcases hk with rfl | rfl | rfl | rfl | rfl <;> simp [m_is_name, b_is_name, p_is_name_0, runF, sSeq, RS.then, sIf, Res.toS, mTest, Res.bind, Sm.m2, Sm.m1, Sm.l1, Sm.l2, optR, mPeek, mC, mVar, mV, m1R, m2R, mCall, mCons, mNil, mAnd, mOr, mNot, mAndV, mOrV, oNot, mIf, sAsg, sRet, sNx, sUnp, sExpr, sAug, mTup, mLst, mChain, gpTup, gpCons, gpName, gpNil, orO, asR, oAdd, oI0, oI, oSub, oMulI, cMul, oDiv, oMod, oLt, oLtI, oLe, oLeI, oGt, oGtI, oGe, oGeI, oEq, oNe, oEqB, oEqS, oIx, vw, atI, ixN, oLen, oMax2, oMin2, oInt1, oIs, isNonD, oIsi, h, isKind]
    · rcases hk with rfl | rfl | rfl | rfl | rfl <;> simp [m_law_is_name, b_law_is_name, p_law_is_name_0, p_law_is_name_0a_0, runF, sSeq, RS.then, sIf, Res.toS, mTest, Res.bind, Sm.m2, Sm.m1, Sm.l1, Sm.l2, optR, mPeek, mC, mVar, mV, m1R, m2R, mCall, mCons, mNil, mAnd, mOr, mNot, mAndV, mOrV, oNot, mIf, sAsg, sRet, sNx, sUnp, sExpr, sAug, mTup, mLst, mChain, gpTup, gpCons, gpName, gpNil, orO, asR, oAdd, oI0, oI, oSub, oMulI, cMul, oDiv, oMod, oLt, oLtI, oLe, oLeI, oGt, oGtI, oGe, oGeI, oEq, oNe, oEqB, oEqS, oIx, vw, atI, ixN, oLen, oMax2, oMin2, oInt1, oIs, isNonD, oIsi, h, isKind]
    · rcases hk with rfl | rfl | rfl | rfl | rfl <;> simp [m_number_in, b_number_in, p_number_in_0, p_number_in_0a_0, m_is_plain, b_is_plain, p_is_plain_0, p_is_plain_0a_0, runF, sSeq, RS.then, sIf, Res.toS, mTest, Res.bind, Sm.m2, Sm.m1, Sm.l1, Sm.l2, optR, mPeek, mC, mVar, mV, m1R, m2R, mCall, mCons, mNil, mAnd, mOr, mNot, mAndV, mOrV, oNot, mIf, sAsg, sRet, sNx, sUnp, sExpr, sAug, mTup, mLst, mChain, gpTup, gpCons, gpName, gpNil, orO, asR, oAdd, oI0, oI, oSub, oMulI, cMul, oDiv, oMod, oLt, oLtI, oLe, oLeI, oGt, oGtI, oGe, oGeI, oEq, oNe, oEqB, oEqS, oIx, vw, atI, ixN, oLen, oMax2, oMin2, oInt1, oIs, isNonD, oIsi, h, isKind]
    · rcases hk with rfl | rfl | rfl | rfl | rfl <;> simp [m_law_number, b_law_number, p_law_number_0, p_law_number_0a_0, runF, sSeq, RS.then, sIf, Res.toS, mTest, Res.bind, Sm.m2, Sm.m1, Sm.l1, Sm.l2, optR, mPeek, mC, mVar, mV, m1R, m2R, mCall, mCons, mNil, mAnd, mOr, mNot, mAndV, mOrV, oNot, mIf, sAsg, sRet, sNx, sUnp, sExpr, sAug, mTup, mLst, mChain, gpTup, gpCons, gpName, gpNil, orO, asR, oAdd, oI0, oI, oSub, oMulI, cMul, oDiv, oMod, oLt, oLtI, oLe, oLeI, oGt, oGtI, oGe, oGeI, oEq, oNe, oEqB, oEqS, oIx, vw, atI, ixN, oLen, oMax2, oMin2, oInt1, oIs, isNonD, oIsi, h, isKind]
end
end Law

end

section
set_option Elab.async false
set_option linter.all false
set_option maxRecDepth 100000
set_option maxHeartbeats 4000000
namespace Law
open PySem PySem.Spec PyProof.Rows L2 Sm
theorem take_one {many : Int} {s : Sto} {q m : Nat} (h : 0 < many) (hm : many < 1073741824) (hn : m < 1000000) (p : Pu s q m) : ∃ d s', m_law_take [.ref q, .int many] s = .ok (.int d) s' ∧ 0 ≤ d ∧ d < many ∧ Pu s' q (m + 1) ∧ Fr q s s' :=
  take_ok (c := 11) (by decide) (by decide) h hm hn p
def sg : List Nat := [32, 33, 34, 35, 36, 38, 39, 40, 41, 42, 43, 44, 45, 46, 47, 48, 49, 50, 51, 52, 53, 54, 55, 56, 57, 58, 59, 60, 61, 62, 63, 64, 65, 66, 67, 90, 91, 92, 93, 94, 95, 96, 97, 98, 99, 100, 101, 102, 103, 104, 105, 106, 107, 108, 109, 110, 111, 112, 113, 114, 115, 116, 117, 118, 119, 120, 121, 122, 123, 124, 125, 126, 10]
def sgx : List Nat := sg ++ [48, 49, 50, 51, 52, 53, 54, 55, 56, 57, 45, 46, 97, 47]
theorem sgx_codes : ∀ c ∈ sgx, c < 1114112 := by decide
def nearB : MS := sSeq p_law_near_1_0 (sSeq p_law_near_1_1 (sSeq p_law_near_1_2 (sSeq p_law_near_1_3 (sSeq p_law_near_1_4 p_law_near_1_5))))
theorem near_turn {s : Sto} {q m L : Nat} {z : List Nat} {x3 x4 x5 x6 : Sl} (hm : m < 900000) (hL : L ≤ 1000) (hz : Tx L z) (p : Pu s q m) :
    ∃ z' y4 y5 y6 s', nearB [.val (.ref q), .val (.str z), .val (.str sg), x3, x4, x5, x6] s = .nx [.val (.ref q), .val (.str z'), .val (.str sg), x3, y4, y5, y6] s' ∧ Tx (2 * L + 1) z' ∧ Pu s' q (m + 3) ∧ Fr q s s' := by
  obtain ⟨hz1, hz2⟩ := hz
  have b := oLen_str (s := s) (z := z) (by omega)
  obtain ⟨d1, s1, e1, l1', u1, p1, f1⟩ := take_one (many := (z.length : Int) + 1) (by omega) (by omega) (by omega) p
  obtain ⟨d2, s2, e2, l2', u2, p2, f2⟩ := take_one (many := 4) (by decide) (by decide) (by omega) p1
  obtain ⟨d3, s3, e3, l3', u3, p3, f3⟩ := take_one (many := (sg.length : Int) + 14) (by decide) (by decide) (by omega) p2
  obtain ⟨c, hc, e4⟩ := ix_sign (s := s3) (z := sgx) l3' (by have : (sgx.length : Int) = (sg.length : Int) + 14 := by decide
                                                             omega) (by decide)
  have hcc := sgx_codes c hc
  have b2 := oLen_str (s := s2) (z := sg) (by decide)
  have a1 : oAdd s2 (.str sg) (.str [48, 49, 50, 51, 52, 53, 54, 55, 56, 57, 45, 46, 97, 47]) = some (.v (.str sgx)) := add_str (by decide)
  generalize hR : D.ref q = R at *
  have w0 : p_law_near_1_0 [.val R, .val (.str z), .val (.str sg), x3, x4, x5, x6] s = .nx [.val R, .val (.str z), .val (.str sg), x3, .val (.int d1), x5, x6] s1 := by
    simp only [p_law_near_1_0, sAsg, mCall, mCons, mVar, mV, m2R, m1R, mPeek, mC, mNil, List.getElem?_cons_zero, List.getElem?_cons_succ, Res.bind, b, optR, Sm.add_int, List.append_nil, e1, Res.toS, List.set]
  have w1 : p_law_near_1_1 [.val R, .val (.str z), .val (.str sg), x3, .val (.int d1), x5, x6] s1 = .nx [.val R, .val (.str z), .val (.str sg), x3, .val (.int d1), .val (.int d2), x6] s2 := by
    simp only [p_law_near_1_1, sAsg, mCall, mCons, mVar, mC, mNil, List.getElem?_cons_zero, Res.bind, List.append_nil, e2, Res.toS, List.set]
  have w2 : p_law_near_1_2 [.val R, .val (.str z), .val (.str sg), x3, .val (.int d1), .val (.int d2), x6] s2 = .nx [.val R, .val (.str z), .val (.str sg), x3, .val (.int d1), .val (.int d2), .val (.str [c])] s3 := by
    simp only [p_law_near_1_2, sAsg, Sm.m2, Sm.l2, mCall, mCons, mVar, mV, m2R, m1R, mPeek, mC, mNil, List.getElem?_cons_zero, List.getElem?_cons_succ, Res.bind, b2, optR, a1, Sm.add_int, List.append_nil, e3, e4, Res.toS, List.set]
  have t1 : ∀ {st : Sto} {lo hi : Option Int}, oSl st (.str z) lo hi = some (.v (.str (cut z lo hi))) := fun {st lo hi} => sl_str (by omega)
  have k1 := cut_len z none (some d1)
  have k2 := cut_len z (some d1) none
  have k3 := cut_len z (some (d1 + 1)) none
  have way : d2 = 0 ∨ d2 = 1 ∨ 1 < d2 := by omega
  have mem : ∀ {lo hi : Option Int} {x : Nat}, x ∈ cut z lo hi → x < 1114112 := fun h => hz2 _ (cut_mem h)
  -- what the three ways make
  obtain ⟨z', w3, t'⟩ : ∃ z', sSeq p_law_near_1_3 (sSeq p_law_near_1_4 p_law_near_1_5) [.val R, .val (.str z), .val (.str sg), x3, .val (.int d1), .val (.int d2), .val (.str [c])] s3 = .nx [.val R, .val (.str z'), .val (.str sg), x3, .val (.int d1), .val (.int d2), .val (.str [c])] s3 ∧ Tx (2 * L + 1) z' := by
    rcases way with rfl | rfl | hw
    · have g1 : oAdd s3 (.str (cut z none (some d1))) (.str [c]) = some (.v (.str (cut z none (some d1) ++ [c]))) := add_str (by simp; omega)
      have g2 : oAdd s3 (.str (cut z none (some d1) ++ [c])) (.str (cut z (some d1) none)) = some (.v (.str (cut z none (some d1) ++ [c] ++ cut z (some d1) none))) := add_str (by simp; omega)
      refine ⟨cut z none (some d1) ++ [c] ++ cut z (some d1) none, ?_, by simp; omega, fun x hx => ?_⟩
      · simp [sSeq, RS.then, p_law_near_1_3, p_law_near_1_3a_0, p_law_near_1_4, p_law_near_1_5, sIf, mTest, Sm.m2, Sm.l2, mPeek, mC, Res.bind, oEq, oEqB, orO, oEqS, optR, sAsg, mV, m2R, mSl, mNoPart, mPart, t1, g1, g2, Res.toS, sNx, oGt, oGtI, oI0]
      · simp at hx
        rcases hx with hx | rfl | hx
        · exact mem hx
        · exact hcc
        · exact mem hx
    · have g1 : oAdd s3 (.str (cut z none (some d1))) (.str (cut z (some (d1 + 1)) none)) = some (.v (.str (cut z none (some d1) ++ cut z (some (d1 + 1)) none))) := add_str (by omega)
      refine ⟨cut z none (some d1) ++ cut z (some (d1 + 1)) none, ?_, by simp; omega, fun x hx => ?_⟩
      · simp [sSeq, RS.then, p_law_near_1_3, p_law_near_1_4a_0, p_law_near_1_4, p_law_near_1_5, sIf, mTest, Sm.m2, Sm.l2, mPeek, mC, Res.bind, oEq, oEqB, orO, oEqS, optR, sAsg, mV, m2R, mSl, mNoPart, mPart, t1, g1, Sm.add_int, Res.toS, sNx, oGt, oGtI, oI0]
      · rcases List.mem_append.mp hx with hx | hx
        · exact mem hx
        · exact mem hx
    · have n0 : ¬ d2 = 0 := by omega
      have n1 : ¬ d2 = 1 := by omega
      have g1 : oAdd s3 (.str (cut z none (some d1))) (.str [c]) = some (.v (.str (cut z none (some d1) ++ [c]))) := add_str (by simp; omega)
      have g2 : oAdd s3 (.str (cut z none (some d1) ++ [c])) (.str (cut z (some (d1 + 1)) none)) = some (.v (.str (cut z none (some d1) ++ [c] ++ cut z (some (d1 + 1)) none))) := add_str (by simp; omega)
      refine ⟨cut z none (some d1) ++ [c] ++ cut z (some (d1 + 1)) none, ?_, by simp; omega, fun x hx => ?_⟩
      · simp [sSeq, RS.then, p_law_near_1_3, p_law_near_1_5a_0, p_law_near_1_4, p_law_near_1_5, sIf, mTest, Sm.m2, Sm.l2, mPeek, mC, Res.bind, oEq, oEqB, orO, oEqS, optR, sAsg, mV, m2R, mSl, mNoPart, mPart, t1, g1, g2, Sm.add_int, Res.toS, sNx, oGt, oGtI, oI0, n0, n1, hw]
      · simp at hx
        rcases hx with hx | rfl | hx
        · exact mem hx
        · exact hcc
        · exact mem hx
  exact ⟨z', _, _, _, s3, seq_nx w0 (seq_nx w1 (seq_nx w2 w3)), t', p3, (f1.trans f2).trans f3⟩
end Law

end

section
set_option Elab.async false
set_option linter.all false
set_option maxRecDepth 100000
set_option maxHeartbeats 4000000
namespace Law
open PySem PySem.Spec PyProof.Rows L2 Sm
theorem Tx.mono {a b : Nat} {z : List Nat} (h : Tx a z) (hab : a ≤ b) : Tx b z := ⟨Nat.le_trans h.1 hab, h.2⟩
theorem near_ok {s : Sto} {q m : Nat} {z : List Nat} (hm : m < 800000) (hz : Tx 40 z) (p : Pu s q m) : ∃ z' s', m_law_near [.ref q, .str z] s = .ok (.str z') s' ∧ Tx 200 z' ∧ Pu s' q (m + 7) ∧ Fr q s s' := by
  obtain ⟨d, s1, e1, lo, up, p1, f1⟩ := take_one (many := 2) (by decide) (by decide) (by omega) p
  have w0 : p_law_near_0 [.val (.ref q), .val (.str z), .un, .un, .un, .un, .un] s = .nx [.val (.ref q), .val (.str z), .val (.str sg), .un, .un, .un, .un] s := rfl
  have hs : lR1 (mCons (mV (m2R oAdd (mC (.int 1)) (mCall m_law_take [] (mCons (mVar 0) (mCons (mC (.int 2)) mNil))))) mNil) [.val (.ref q), .val (.str z), .val (.str sg), .un, .un, .un, .un] s = .ok (sRng 0 (1 + d).toNat) s1 := by
    refine lR1_of (j := 1 + d) ?_ (by omega) (by omega) rfl
    simp only [mCons, mV, m2R, mC, mCall, mVar, mNil, List.getElem?_cons_zero, Res.bind, List.append_nil, e1, optR, Sm.add_int]
  obtain ⟨z1, y4, y5, y6, s2, e2, t2, p2, f2⟩ := near_turn (s := s1) (q := q) (z := z) (x3 := .val (.int (0 + ((0 : Nat) : Int)))) (x4 := .un) (x5 := .un) (x6 := .un) (L := 40) (by omega) (by decide) hz p1
  have c : d = 0 ∨ d = 1 := by omega
  rcases c with rfl | rfl
  · have w1 : p_law_near_1 [.val (.ref q), .val (.str z), .val (.str sg), .un, .un, .un, .un] s = .nx [.val (.ref q), .val (.str z1), .val (.str sg), .val (.int (0 + ((0 : Nat) : Int))), y4, y5, y6] s2 := by
      unfold p_law_near_1
      refine for_of (l := [.int (0 + ((0 : Nat) : Int))]) hs ?_
      exact (forL_cons (T := gpName 3) (body := nearB) (ρ1 := [.val (.ref q), .val (.str z), .val (.str sg), .val (.int (0 + ((0 : Nat) : Int))), .un, .un, .un]) rfl e2).trans rfl
    exact ⟨z1, s2, run_rt (n := 7) (b := b_law_near) (l := [.ref q, .str z]) rfl (seq_nx w0 (seq_nx w1 rfl)), Tx.mono t2 (by decide), Pu.mono p2 (by omega), f1.trans f2⟩
  · obtain ⟨z2, u4, u5, u6, s3, e3, t3, p3, f3⟩ := near_turn (s := s2) (q := q) (z := z1) (x3 := .val (.int (0 + ((1 : Nat) : Int)))) (x4 := y4) (x5 := y5) (x6 := y6) (by omega) (by decide) t2 p2
    have w1 : p_law_near_1 [.val (.ref q), .val (.str z), .val (.str sg), .un, .un, .un, .un] s = .nx [.val (.ref q), .val (.str z2), .val (.str sg), .val (.int (0 + ((1 : Nat) : Int))), u4, u5, u6] s3 := by
      unfold p_law_near_1
      refine for_of (l := [.int (0 + ((0 : Nat) : Int)), .int (0 + ((1 : Nat) : Int))]) hs ?_
      exact (forL_cons (T := gpName 3) (body := nearB) (ρ1 := [.val (.ref q), .val (.str z), .val (.str sg), .val (.int (0 + ((0 : Nat) : Int))), .un, .un, .un]) rfl e2).trans
        ((forL_cons (T := gpName 3) (body := nearB) (ρ1 := [.val (.ref q), .val (.str z1), .val (.str sg), .val (.int (0 + ((1 : Nat) : Int))), y4, y5, y6]) rfl e3).trans rfl)
    exact ⟨z2, s3, run_rt (n := 7) (b := b_law_near) (l := [.ref q, .str z]) rfl (seq_nx w0 (seq_nx w1 rfl)), Tx.mono t3 (by decide), Pu.mono p3 (by omega), (f1.trans f2).trans f3⟩
/-- ''.join([signs[take(n)] for k in range(j)]) -/
theorem draw_ok {signs : List Nat} {j : Int} {s : Sto} {q m : Nat} {x1 x2 x3 : Sl} {src : ML} (h0 : 0 ≤ j) (h1 : j ≤ 40) (hs : signs.length ≤ 100) (hn : 0 < signs.length) (hcs : ∀ c ∈ signs, c < 1114112) (hm : m < 800000) (p : Pu s q m)
    (hsrc : src [.val (.ref q), x1, x2, x3, .un] s = .ok (sRng 0 j.toNat) s) :
    ∃ z s', mSM1 oJoin (mC (.str [])) (mV (mLc src (gpName 4) [4] mYes (m2V oIx (mC (.str signs)) (mCall m_law_take [] (mCons (mVar 0) (mCons (mC (.int (signs.length : Nat))) mNil)))))) [.val (.ref q), x1, x2, x3, .un] s = .ok (.v (.str z)) s' ∧ Tx 40 z ∧ Pu s' q (m + 40) ∧ Fr q s s' := by
  have hl : (sRng 0 j.toNat).length = j.toNat := by simp [sRng]
  obtain ⟨zs, s', e, hz, p', f, hP⟩ := lc_draw (P := fun k => k < 1114112) (c := 11) (q := q) (te := m2V oIx (mC (.str signs)) (mCall m_law_take [] (mCons (mVar 0) (mCons (mC (.int (signs.length : Nat))) mNil)))) (ρ0 := [.val (.ref q), x1, x2, x3, .un]) (i := 4) (many := signs.length) take_eq (by decide) (by decide) hn (by omega) (by
    intro x st d st' e lo hi
    obtain ⟨c, hc, e2⟩ := ix_sign (s := st') (z := signs) lo hi (by omega)
    refine ⟨c, hcs c hc, ?_⟩
    simp only [Sm.m2, mC, mCall, mCons, mVar, mNil, List.set, List.getElem?_cons_zero, Res.bind, List.append_nil, e, Sm.l2, e2, optR]) (sRng 0 j.toNat) s m (by omega) p
  have e2 := mLc_of (own := [4]) (ρ := [.val (.ref q), x1, x2, x3, .un]) hsrc (by omega) e
  have e3 : (zs.map fun k => D.str [k]) = (zs.map fun k => [k]).map D.str := by rw [List.map_map]; rfl
  have e4 := join_of (s := s') (zs.map fun k => [k]) (by rw [sum1]; omega)
  rw [flat1] at e4
  refine ⟨zs, s', ?_, ⟨by omega, fun c hc => hP c hc⟩, Pu.mono p' (by omega), f⟩
  generalize mLc src (gpName 4) [4] mYes (m2V oIx (mC (.str signs)) (mCall m_law_take [] (mCons (mVar 0) (mCons (mC (.int (signs.length : Nat))) mNil)))) = X at e2
  rw [e3] at e2
  simp only [mSM1, mC, mV, Res.bind, e2, e4, optR]
theorem text_ok {s : Sto} {q m : Nat} (hm : m < 700000) (p : Pu s q m) : ∃ z s', m_law_text [.ref q] s = .ok (.str z) s' ∧ Tx 200 z ∧ Pu s' q (m + 60) ∧ Fr q s s' := by
  obtain ⟨way, s1, e1, lo1, up1, p1, f1⟩ := take_one (many := 4) (by decide) (by decide) (by omega) p
  obtain ⟨da, s2, e2, lo2, up2, p2, f2⟩ := take_one (many := 9) (by decide) (by decide) (by omega) p1
  obtain ⟨db, s3, e3, lo3, up3, p3, f3⟩ := take_one (many := 5) (by decide) (by decide) (by omega) p2
  obtain ⟨dc, s4, e4, lo4, up4, p4, f4⟩ := take_one (many := 2) (by decide) (by decide) (by omega) p3
  have fr4 := ((f1.trans f2).trans f3).trans f4
  have w0 : p_law_text_0 [.val (.ref q), .un, .un, .un, .un] s = .nx [.val (.ref q), .val (.int way), .un, .un, .un] s1 := by
    simp only [p_law_text_0, sAsg, mCall, mCons, mVar, mC, mNil, List.getElem?_cons_zero, Res.bind, List.append_nil, e1, Res.toS, List.set]
  obtain ⟨mn, w1, lo5, up5⟩ : ∃ mn : Int, p_law_text_1 [.val (.ref q), .val (.int way), .un, .un, .un] s1 = .nx [.val (.ref q), .val (.int way), .val (.int mn), .un, .un] s4 ∧ 0 ≤ mn ∧ mn ≤ 32 := by
    have c : dc = 0 ∨ dc = 1 := by omega
    have hl : ([.int da, .int (28 + db)] : List D).length ≤ lim := show 2 ≤ lim by unfold lim; decide
    rcases c with rfl | rfl
    · refine ⟨da, ?_, lo2, by omega⟩
      simp only [p_law_text_1, sAsg, Sm.m2, mV, mLst, m2R, mCall, mCons, mVar, mC, mNil, List.getElem?_cons_zero, Res.bind, List.append_nil, e2, e3, e4, optR, Sm.add_int, if_pos hl, Sm.l2, show oIx s4 (.box .lst [.int da, .int (28 + db)]) (.int 0) = some (.int da) from rfl, Res.toS, List.set]
    · refine ⟨28 + db, ?_, by omega, by omega⟩
      simp only [p_law_text_1, sAsg, Sm.m2, mV, mLst, m2R, mCall, mCons, mVar, mC, mNil, List.getElem?_cons_zero, Res.bind, List.append_nil, e2, e3, e4, optR, Sm.add_int, if_pos hl, Sm.l2, show oIx s4 (.box .lst [.int da, .int (28 + db)]) (.int 1) = some (.int (28 + db)) from rfl, Res.toS, List.set]
  by_cases hw : way = 0
  · subst hw
    have hsrc : lR1 (mCons (m2V oMod (mPeek 2) (mC (.int 9))) mNil) [.val (.ref q), .val (.int 0), .val (.int mn), .un, .un] s4 = .ok (sRng 0 (mn % 9).toNat) s4 :=
      lR1_of (j := mn % 9) (by simp [mCons, Sm.m2, mPeek, mC, mNil, Res.bind, Sm.l2, oMod, oI, optR]) (by omega) (by omega) rfl
    obtain ⟨z, s5, e5, t5, p5, f5⟩ := draw_ok (signs := lets) (j := mn % 9) (x1 := .val (.int 0)) (x2 := .val (.int mn)) (x3 := .un) (by omega) (by omega) (by decide) (by decide) (by decide) (by omega) p4 hsrc
    have w2 : p_law_text_2 [.val (.ref q), .val (.int 0), .val (.int mn), .un, .un] s4 = .rt (.str z) s5 := by
      have hx : p_law_text_2a_0 [.val (.ref q), .val (.int 0), .val (.int mn), .un, .un] s4 = .rt (.str z) s5 := by
        show ((mV (mSM1 oJoin _ _) [.val (.ref q), .val (.int 0), .val (.int mn), .un, .un] s4).toS _ _) = _
        refine (congrArg (fun r : Res Rr => ((r.bind fun r s => match r with
          | .v d => Res.ok d s
          | .n k l => .ok (.box k l) s).toS _ _)) e5).trans ?_
        rfl
      have ht : mTest (m2V oEq (mPeek 1) (mC (.int 0))) [.val (.ref q), .val (.int 0), .val (.int mn), .un, .un] s4 = .ok true s4 := rfl
      unfold p_law_text_2 sIf
      rw [ht]
      exact hx
    exact ⟨z, s5, run_rt (n := 5) (b := b_law_text) (l := [.ref q]) rfl (seq_nx w0 (seq_nx w1 (seq_rt w2))), Tx.mono t5 (by decide), Pu.mono p5 (by omega), fr4.trans f5⟩
  · have w2 : p_law_text_2 [.val (.ref q), .val (.int way), .val (.int mn), .un, .un] s4 = .nx [.val (.ref q), .val (.int way), .val (.int mn), .un, .un] s4 := by
      have ht : mTest (m2V oEq (mPeek 1) (mC (.int 0))) [.val (.ref q), .val (.int way), .val (.int mn), .un, .un] s4 = .ok false s4 := by
        simp [mTest, Sm.m2, mPeek, mC, Res.bind, Sm.l2, oEq, oEqB, orO, oEqS, optR, hw]
      unfold p_law_text_2 sIf
      rw [ht]
      rfl
    have hsrc : lR1 (mCons (mVar 2) mNil) [.val (.ref q), .val (.int way), .val (.int mn), .un, .un] s4 = .ok (sRng 0 mn.toNat) s4 :=
      lR1_of (j := mn) (by simp [mCons, mVar, mNil, Res.bind]) (by omega) (by omega) rfl
    obtain ⟨z, s5, e5, t5, p5, f5⟩ := draw_ok (signs := figs) (j := mn) (x1 := .val (.int way)) (x2 := .val (.int mn)) (x3 := .un) (by omega) (by omega) (by decide) (by decide) (by decide) (by omega) p4 hsrc
    have w3 : p_law_text_3 [.val (.ref q), .val (.int way), .val (.int mn), .un, .un] s4 = .nx [.val (.ref q), .val (.int way), .val (.int mn), .val (.str z), .un] s5 := by
      show ((mV (mSM1 oJoin _ _) [.val (.ref q), .val (.int way), .val (.int mn), .un, .un] s4).toS _ _) = _
      refine (congrArg (fun r : Res Rr => ((r.bind fun r s => match r with
        | .v d => Res.ok d s
        | .n k l => .ok (.box k l) s).toS _ _)) e5).trans ?_
      rfl
    by_cases hw1 : way = 1
    · subst hw1
      obtain ⟨z', s6, e6, t6, p6, f6⟩ := near_ok (by omega) t5 p5
      have w4 : p_law_text_4 [.val (.ref q), .val (.int 1), .val (.int mn), .val (.str z), .un] s5 = .rt (.str z') s6 := by
        simp [p_law_text_4, sRet, mIf, mTest, Sm.m2, mPeek, mC, Res.bind, Sm.l2, oEq, oEqB, orO, oEqS, optR, mCall, mCons, mVar, mNil, e6, Res.toS]
      exact ⟨z', s6, run_rt (n := 5) (b := b_law_text) (l := [.ref q]) rfl (seq_nx w0 (seq_nx w1 (seq_nx w2 (seq_nx w3 w4)))), t6, Pu.mono p6 (by omega), (fr4.trans f5).trans f6⟩
    · have w4 : p_law_text_4 [.val (.ref q), .val (.int way), .val (.int mn), .val (.str z), .un] s5 = .rt (.str z) s5 := by
        simp [p_law_text_4, sRet, mIf, mTest, Sm.m2, mPeek, mC, Res.bind, Sm.l2, oEq, oEqB, orO, oEqS, optR, mVar, hw1, Res.toS]
      exact ⟨z, s5, run_rt (n := 5) (b := b_law_text) (l := [.ref q]) rfl (seq_nx w0 (seq_nx w1 (seq_nx w2 (seq_nx w3 w4)))), Tx.mono t5 (by decide), Pu.mono p5 (by omega), fr4.trans f5⟩
end Law

end

section
set_option Elab.async false
set_option linter.all false
set_option maxRecDepth 100000
set_option maxHeartbeats 4000000
namespace Law
open PySem PySem.Spec PyProof.Rows L2 Sm
def odd1 : List D := [.non, .bl true, .bl false, .int 0, .int (-1), .int 80, .int 73049, .int (10 ^ 29), .int (-(10 ^ 29)), .str [], .str [97], .str [49, 50, 97], .str [49, 57, 55, 50, 45, 48, 51, 45, 48, 53], .box .lst [], .box .lst [.int 0], .box .lst [.str [97]]]
def odd2 : List D := [.box .tup [], .box .tup [.int 0], .box .tup [.str [97], .int 5], .box .dct [], .box .dct [.str [97], .int 1], .box .dct [.int 7, .non], .box .lst [.box .lst [.box .lst [.box .lst [.box .lst [.box .lst [.str [97]]]]]]], .str [97, 110, 110, 97], .str [114, 111, 108, 108, 32, 97, 32, 48, 32, 48, 32, 102, 117, 108, 108]]
theorem th_str {z : List Nat} (h : (decide (z.length ≤ 1000) && z.all fun c => decide (c < 1114112)) = true) : Th (.str z) := by
  simp only [Bool.and_eq_true, decide_eq_true_eq] at h
  refine .str z h.1 fun c hc => ?_
  have := List.all_eq_true.mp h.2 c hc
  simpa using this
theorem odd_th : ∀ x ∈ odd1 ++ odd2, Th x := by
  intro x hx
  simp only [odd1, odd2, List.cons_append, List.nil_append, List.mem_cons, List.not_mem_nil, or_false] at hx
  rcases hx with rfl | rfl | rfl | rfl | rfl | rfl | rfl | rfl | rfl | rfl | rfl | rfl | rfl | rfl | rfl | rfl | rfl | rfl | rfl | rfl | rfl | rfl | rfl | rfl | rfl
  all_goals first
    | exact .int _
    | exact th_str (by decide)
    | exact .oth _ "NoneType" (fun _ => rfl) (.inl rfl)
    | exact .oth _ "bool" (fun _ => rfl) (.inr (.inl rfl))
    | exact .oth _ "list" (fun _ => rfl) (.inr (.inr (.inl rfl)))
    | exact .oth _ "tuple" (fun _ => rfl) (.inr (.inr (.inr (.inl rfl))))
    | exact .oth _ "dict" (fun _ => rfl) (.inr (.inr (.inr (.inr rfl))))
theorem odd_ok {s : Sto} {q m : Nat} (hm : m < 700000) (p : Pu s q m) : ∃ x s', m_law_odd [.ref q] s = .ok x s' ∧ Th x ∧ Pu s' q (m + 1) ∧ Fr q s s' := by
  obtain ⟨d, s1, e1, lo, up, p1, f1⟩ := take_one (many := 25) (by decide) (by decide) (by omega) p
  obtain ⟨x, hx, e2⟩ := ix_lst (s := s1) (l := odd1 ++ odd2) lo (by
    have : ((odd1 ++ odd2).length : Int) = 25 := by decide
    omega)
  have w0 : p_law_odd_0 [.val (.ref q), .un] s = .nx [.val (.ref q), .val (.box .lst odd1)] s := by kernel_rfl
  have w1 : p_law_odd_1 [.val (.ref q), .val (.box .lst odd1)] s = .nx [.val (.ref q), .val (.box .lst (odd1 ++ odd2))] s := by kernel_rfl
  have w2 : p_law_odd_2 [.val (.ref q), .val (.box .lst (odd1 ++ odd2))] s = .rt x s1 := by
    simp only [p_law_odd_2, sRet, Sm.m2, mPeek, mCall, mCons, mVar, mC, mNil, List.getElem?_cons_zero, List.getElem?_cons_succ, Res.bind, List.append_nil, e1, Sm.l2, e2, optR, Res.toS]
  exact ⟨x, s1, run_rt (n := 2) (b := b_law_odd) (l := [.ref q]) rfl (seq_nx w0 (seq_nx w1 w2)), odd_th x hx, p1, f1⟩
/-! one thing asked -/
theorem one_ok {S P T2 : Sl} {k7 k8 kk : Sl} {lo hi : Int} {tx : Sl} {t : D} {s : Sto} (h : Th t) (h1 : -(10 ^ 39) ≤ lo) (h2 : hi ≤ 10 ^ 39) :
    ∃ y, (sSeq p_law_0_6_0 p_law_0_6_1) [S, kk, P, .val (.int lo), .val (.int hi), tx, T2, .val t, k8] s = .nx [S, kk, P, .val (.int lo), .val (.int hi), tx, T2, .val t, y] s := by
  obtain ⟨b1, b2, n, a1, a2, a3, a4, a5, hn⟩ := three (lo := lo) (hi := hi) h s
  have hl : ([.bl b1, .bl b2, n] : List D).length ≤ lim := show 3 ≤ lim by unfold lim; decide
  have w0 : p_law_0_6_0 [S, kk, P, .val (.int lo), .val (.int hi), tx, T2, .val t, k8] s = .nx [S, kk, P, .val (.int lo), .val (.int hi), tx, T2, .val t, .val (.box .lst [.bl b1, .bl b2, n])] s := by
    have a1' : m_law_is_whole [t, .int lo, .int hi] s = .ok (.bl b1) s := a1
    simp only [p_law_0_6_0, sAsg, mV, mLst, mCall, mCons, mVar, mNil, List.getElem?_cons_zero, List.getElem?_cons_succ, Res.bind, List.append_nil, a1', a3, a5, if_pos hl, Res.toS, List.set]
  obtain ⟨r, hr⟩ : ∃ r, oRepr s (.box .lst [.bl b1, .bl b2, n]) = some (.v (.str r)) := by
    rcases hn with rfl | ⟨i, rfl, g1, g2⟩
    · exact ⟨_, repr_of (p := .list [.bool b1, .bool b2, .none]) rfl (by simp only [cost, costAll]; unfold lim; decide) (by simp [PyData.depth, PyData.depthAll])⟩
    · have gi : i.natAbs < 10 ^ 40 := by omega
      exact ⟨_, repr_of (p := .list [.bool b1, .bool b2, .int i]) rfl (by simp only [cost, costAll, if_pos gi]; unfold lim; decide) (by simp [PyData.depth, PyData.depthAll])⟩
  have w1 : p_law_0_6_1 [S, kk, P, .val (.int lo), .val (.int hi), tx, T2, .val t, .val (.box .lst [.bl b1, .bl b2, n])] s = .nx [S, kk, P, .val (.int lo), .val (.int hi), tx, T2, .val t, .val (.box .lst [.bl b1, .bl b2, n])] s := by
    have hq : oNe s (.str r) (.str r) = some (.bl false) := by simp [oNe, oEqB, orO, oEqS]
    simp only [p_law_0_6_1, sIf, mTest, Sm.m2, mV, m1R, mLst, mCall, mCons, mVar, mPeek, mNil, List.getElem?_cons_zero, List.getElem?_cons_succ, Res.bind, List.append_nil, a1, a2, a4, if_pos hl, hr, optR, Sm.l2, hq, Res.toS, Bool.false_eq_true, if_false, sNx]
  exact ⟨_, seq_nx w0 w1⟩
theorem things_ok {S P T2 kk tx : Sl} {lo hi : Int} {s : Sto} (h1 : -(10 ^ 39) ≤ lo) (h2 : hi ≤ 10 ^ 39) : ∀ (l : List D), (∀ t ∈ l, Th t) → ∀ x7 x8 : Sl, ∃ y7 y8, forL (gpName 7) (sSeq p_law_0_6_0 p_law_0_6_1) l [S, kk, P, .val (.int lo), .val (.int hi), tx, T2, x7, x8] s = .nx [S, kk, P, .val (.int lo), .val (.int hi), tx, T2, y7, y8] s
  | [], _, x7, x8 => ⟨x7, x8, rfl⟩
  | t :: l, h, x7, x8 => by
    obtain ⟨y, e⟩ := one_ok (S := S) (P := P) (T2 := T2) (k8 := x8) (kk := kk) (tx := tx) (s := s) (lo := lo) (hi := hi) (k7 := x7) (h t List.mem_cons_self) h1 h2
    obtain ⟨y7, y8, ih⟩ := things_ok (s := s) h1 h2 l (fun z hz => h z (List.mem_cons_of_mem _ hz)) (.val t) y
    exact ⟨y7, y8, (forL_cons rfl e).trans ih⟩
def bodyB : MS := (sSeq p_law_0_0 (sSeq p_law_0_1 (sSeq p_law_0_2 (sSeq p_law_0_3 (sSeq p_law_0_4 (sSeq p_law_0_5 p_law_0_6))))))
theorem pick3 {s : Sto} {a b c : Int} {d : Int} (h0 : 0 ≤ d) (h3 : d < 3) : ∃ v, oIx s (.box .lst [.int a, .int b, .int c]) (.int d) = some (.int v) ∧ (v = a ∨ v = b ∨ v = c) := by
  have q : d = 0 ∨ d = 1 ∨ d = 2 := by omega
  rcases q with rfl | rfl | rfl
  · exact ⟨a, rfl, .inl rfl⟩
  · exact ⟨b, rfl, .inr (.inl rfl)⟩
  · exact ⟨c, rfl, .inr (.inr rfl)⟩
theorem pow9 {s : Sto} : l2 oPow (.int 10) (.int 9) s = .ok (.int 1000000000) s := by kernel_rfl
theorem pow28 {s : Sto} : l2 oPow (.int 10) (.int 28) s = .ok (.int (10 ^ 28)) s := by kernel_rfl
theorem pow29 {s : Sto} : l2 oPow (.int 10) (.int 29) s = .ok (.int (10 ^ 29)) s := by kernel_rfl
theorem turn {ns : List Int} {k : Int} (hk : 0 ≤ k) {a2 a3 a4 a5 a6 a7 a8 : Sl} {s : Sto} : ∃ ρ2 s2, bodyB [.val (.box .scr (ns.map D.int)), .val (.int k), a2, a3, a4, a5, a6, a7, a8] s = .nx ρ2 s2 ∧ ∃ b1 b2 b3 b4 b5 b6 b7 b8, ρ2 = [.val (.box .scr (ns.map D.int)), b1, b2, b3, b4, b5, b6, b7, b8] := by
  generalize hS : D.box .scr (ns.map D.int) = S
  obtain ⟨z, e1⟩ := cell_ok (p := 15485863) (q := 11) (ns := ns) (s := s) (by decide) hk
  obtain ⟨s1, e2, p1, _, _⟩ := purse_ok z s
  rw [← cell_eq, hS] at e1
  rw [← purse_eq] at e2
  have w0 : p_law_0_0 [.val S, .val (.int k), a2, a3, a4, a5, a6, a7, a8] s = .nx [.val S, .val (.int k), .val (.ref s.length), a3, a4, a5, a6, a7, a8] s1 := by
    simp only [p_law_0_0, sAsg, mCall, mCons, mVar, mNil, List.getElem?_cons_zero, List.getElem?_cons_succ, Res.bind, List.append_nil, e1, e2, Res.toS, List.set]
  generalize s.length = q at *
  obtain ⟨d1, s2, e3, lo1, u1, p2, _⟩ := take_one (many := 41) (by decide) (by decide) (by omega) p1
  obtain ⟨d2, s3, e4, lo2, u2, p3, _⟩ := take_one (many := 1000000000) (by decide) (by decide) (by omega) p2
  obtain ⟨d3, s4, e5, lo3, u3, p4, _⟩ := take_one (many := 3) (by decide) (by decide) (by omega) p3
  obtain ⟨lo, e6, hlo⟩ := pick3 (s := s4) (a := d1 - 20) (b := d2) (c := 10 ^ 28) lo3 u3
  have hl3 : ∀ a b c : D, ([a, b, c] : List D).length ≤ lim := fun _ _ _ => show 3 ≤ lim by unfold lim; decide
  have hsub : ∀ {st : Sto} {i j : Int}, l2 oSub (.int i) (.int j) st = .ok (.int (i - j)) st := rfl
  have w1 : p_law_0_1 [.val S, .val (.int k), .val (.ref q), a3, a4, a5, a6, a7, a8] s1 = .nx [.val S, .val (.int k), .val (.ref q), .val (.int lo), a4, a5, a6, a7, a8] s4 := by
    have hx : l2 oIx (.box .lst [.int (d1 - 20), .int d2, .int (10 ^ 28)]) (.int d3) s4 = .ok (.int lo) s4 := by unfold Sm.l2; rw [e6]; rfl
    simp only [p_law_0_1, sAsg, mV, mLst, mCall, mCons, mVar, mC, mNil, Sm.m2, List.getElem?_cons_zero, List.getElem?_cons_succ, Res.bind, List.append_nil, e3, e4, e5, hsub, pow9, pow28, if_pos (hl3 _ _ _), hx, Res.toS, List.set]
  obtain ⟨d4, s5, e7, lo4, u4, p5, _⟩ := take_one (many := 9) (by decide) (by decide) (by omega) p4
  obtain ⟨d5, s6, e8, lo5, u5, p6, _⟩ := take_one (many := 1000000000) (by decide) (by decide) (by omega) p5
  obtain ⟨d6, s7, e9, lo6, u6, p7, _⟩ := take_one (many := 3) (by decide) (by decide) (by omega) p6
  obtain ⟨dh, e10, hdh⟩ := pick3 (s := s7) (a := d4 - 2) (b := d5) (c := 10 ^ 29) lo6 u6
  have w2 : p_law_0_2 [.val S, .val (.int k), .val (.ref q), .val (.int lo), a4, a5, a6, a7, a8] s4 = .nx [.val S, .val (.int k), .val (.ref q), .val (.int lo), .val (.int (lo + dh)), a5, a6, a7, a8] s7 := by
    have hx : l2 oIx (.box .lst [.int (d4 - 2), .int d5, .int (10 ^ 29)]) (.int d6) s7 = .ok (.int dh) s7 := by unfold Sm.l2; rw [e10]; rfl
    simp only [p_law_0_2, sAsg, mV, m2R, mLst, mCall, mCons, mVar, mPeek, mC, mNil, Sm.m2, List.getElem?_cons_zero, List.getElem?_cons_succ, Res.bind, List.append_nil, e7, e8, e9, hsub, pow9, pow29, if_pos (hl3 _ _ _), hx, Sm.add_int, optR, Res.toS, List.set]
  have blo : -(10 ^ 39) ≤ lo ∧ lo ≤ 10 ^ 28 := by omega
  have bhi : -(10 ^ 39) + 1 ≤ lo + dh ∧ lo + dh + 1 ≤ 10 ^ 39 := by omega
  generalize lo + dh = hi at *
  obtain ⟨tz, s8, e11, t8, p8, _⟩ := text_ok (by omega) p7
  have w3 : p_law_0_3 [.val S, .val (.int k), .val (.ref q), .val (.int lo), .val (.int hi), a5, a6, a7, a8] s7 = .nx [.val S, .val (.int k), .val (.ref q), .val (.int lo), .val (.int hi), .val (.str tz), a6, a7, a8] s8 := by
    simp only [p_law_0_3, sAsg, mCall, mCons, mVar, mNil, List.getElem?_cons_zero, List.getElem?_cons_succ, Res.bind, List.append_nil, e11, Res.toS, List.set]
  obtain ⟨od, s9, e12, t9, p9, _⟩ := odd_ok (by omega) p8
  have w4 : p_law_0_4 [.val S, .val (.int k), .val (.ref q), .val (.int lo), .val (.int hi), .val (.str tz), a6, a7, a8] s8 = .nx [.val S, .val (.int k), .val (.ref q), .val (.int lo), .val (.int hi), .val (.str tz), .val (.box .lst [.int (lo - 1), .int lo, .int hi, .int (hi + 1), od, .str tz]), a7, a8] s9 := by
    have hl6 : ([.int (lo - 1), .int lo, .int hi, .int (hi + 1), od, .str tz] : List D).length ≤ lim := show 6 ≤ lim by unfold lim; decide
    simp only [p_law_0_4, sAsg, mV, m2R, mLst, mCall, mCons, mVar, mPeek, mC, mNil, Sm.m2, List.getElem?_cons_zero, List.getElem?_cons_succ, Res.bind, List.append_nil, hsub, Sm.add_int, optR, e12, if_pos hl6, Res.toS, List.set]
  obtain ⟨t1, f1, x1⟩ := tx_int (i := lo) (s := s9) (by omega)
  obtain ⟨t2, f2, x2⟩ := tx_int (i := hi) (s := s9) (by omega)
  obtain ⟨t3, f3, x3⟩ := tx_int (i := hi + 1) (s := s9) (by omega)
  have x4 : oAdd s9 (.str [48]) (.str t1) = some (.v (.str ([48] ++ t1))) := add_str (by have := x1.1; simp; omega)
  have w5 : p_law_0_5 [.val S, .val (.int k), .val (.ref q), .val (.int lo), .val (.int hi), .val (.str tz), .val (.box .lst [.int (lo - 1), .int lo, .int hi, .int (hi + 1), od, .str tz]), a7, a8] s9 =
      .nx [.val S, .val (.int k), .val (.ref q), .val (.int lo), .val (.int hi), .val (.str tz), .val (.box .lst [.int (lo - 1), .int lo, .int hi, .int (hi + 1), od, .str tz, .str t1, .str t2, .str t3, .str ([48] ++ t1)]), a7, a8] s9 := by
    have hl4 : ([.str t1, .str t2, .str t3, .str ([48] ++ t1)] : List D).length ≤ lim := show 4 ≤ lim by unfold lim; decide
    have hc : oAdd s9 (.box .lst [.int (lo - 1), .int lo, .int hi, .int (hi + 1), od, .str tz]) (.box .lst [.str t1, .str t2, .str t3, .str ([48] ++ t1)]) = some (.n .lst [.int (lo - 1), .int lo, .int hi, .int (hi + 1), od, .str tz, .str t1, .str t2, .str t3, .str ([48] ++ t1)]) := add_lst (show 10 ≤ 100000 by decide)
    simp only [p_law_0_5, sAsg, mV, m2R, m1R, mLst, mCons, mPeek, mC, mNil, List.getElem?_cons_zero, List.getElem?_cons_succ, Res.bind, f1, f2, f3, x4, Sm.add_int, optR, if_pos hl4, hc, Res.toS, List.set]
  have txh : ∀ {z : List Nat} {n : Nat}, Tx n z → n ≤ 1000 → Th (.str z) := fun h hn => .str _ (by have := h.1; omega) h.2
  obtain ⟨y7, y8, e13⟩ := things_ok (S := .val S) (kk := .val (.int k)) (P := .val (.ref q)) (T2 := .val (.box .lst [.int (lo - 1), .int lo, .int hi, .int (hi + 1), od, .str tz, .str t1, .str t2, .str t3, .str ([48] ++ t1)])) (tx := .val (.str tz)) (s := s9) (lo := lo) (hi := hi) blo.1 (by omega)
    [.int (lo - 1), .int lo, .int hi, .int (hi + 1), od, .str tz, .str t1, .str t2, .str t3, .str ([48] ++ t1)] (by
      intro t ht
      simp only [List.mem_cons, List.not_mem_nil, or_false] at ht
      rcases ht with rfl | rfl | rfl | rfl | rfl | rfl | rfl | rfl | rfl | rfl
      · exact .int _
      · exact .int _
      · exact .int _
      · exact .int _
      · exact t9
      · exact txh t8 (by decide)
      · exact txh x1 (by decide)
      · exact txh x2 (by decide)
      · exact txh x3 (by decide)
      · refine .str _ (by have := x1.1; simp; omega) fun c hc => ?_
        rcases List.mem_append.mp hc with hc | hc
        · simp at hc; omega
        · exact x1.2 c hc) a7 a8
  have w6 : p_law_0_6 [.val S, .val (.int k), .val (.ref q), .val (.int lo), .val (.int hi), .val (.str tz), .val (.box .lst [.int (lo - 1), .int lo, .int hi, .int (hi + 1), od, .str tz, .str t1, .str t2, .str t3, .str ([48] ++ t1)]), a7, a8] s9 = .nx _ s9 := for_of rfl e13
  exact ⟨_, s9, seq_nx w0 (seq_nx w1 (seq_nx w2 (seq_nx w3 (seq_nx w4 (seq_nx w5 w6))))), _, _, _, _, _, _, _, _, rfl⟩
theorem law_true : ∀ ns : List Int, ns.length ≤ 63 → ∃ st', m_law [.box .scr (ns.map D.int)] [] = .ok (.bl true) st' := by
  intro ns _
  generalize hS : D.box .scr (ns.map D.int) = S
  obtain ⟨m, e, hm⟩ := cells_ok (n := 30) (c := 2) (ns := ns) (ρ := [.val S, .un, .un, .un, .un, .un, .un, .un, .un]) (s := []) (by decide) (by decide) (by decide) (by rw [hS]; rfl)
  obtain ⟨ρ', s', e2, _⟩ := forL_nx (T := gpName 1) (body := bodyB) (fun ρ s => ∃ b1 b2 b3 b4 b5 b6 b7 b8, ρ = [.val S, b1, b2, b3, b4, b5, b6, b7, b8]) (sRng 0 m) [.val S, .un, .un, .un, .un, .un, .un, .un, .un] [] ⟨_, _, _, _, _, _, _, _, rfl⟩ (by
    rintro d hd ρ s ⟨b1, b2, b3, b4, b5, b6, b7, b8, rfl⟩
    obtain ⟨i, hi, rfl⟩ := mem_sRng hd
    obtain ⟨ρ2, s2, e3, h⟩ := turn (ns := ns) (k := 0 + (i : Int)) (by omega) (a2 := b2) (a3 := b3) (a4 := b4) (a5 := b5) (a6 := b6) (a7 := b7) (a8 := b8) (s := s)
    rw [hS] at e3 h
    exact ⟨_, ρ2, s2, rfl, e3, h⟩)
  have x2 : p_law_0 [.val S, .un, .un, .un, .un, .un, .un, .un, .un] [] = .nx ρ' s' := for_of (src := cellsL 30 2) e e2
  exact ⟨s', run_rt (n := 9) (b := b_law) rfl (seq_nx x2 rfl)⟩
end Law

end

section
set_option maxRecDepth 100000
open PySem PySem.W PyProof.Rows
set_option maxRecDepth 100000 in
set_option maxHeartbeats 0 in
theorem PySem.Challenge.cw_filmrolls_k01_kinds_and_numbers_holds : PySem.Challenge.rw_filmrolls_k01_kinds_and_numbers.Holds := by
  w_on; o_law; k_head; (case hw => w_witness2)
  k_fill
  refine Sm.walk_M (l := PySem.Challenge.rw_filmrolls_k01_kinds_and_numbers) (k := 4) (x := "script") (F := Law.m_law) rfl rfl ⟨rfl, by decide, by decide⟩ (fun w h Y => PySem.W.kIn_of Y) ?F ?L
  case F =>
    intro w mg fa h KX G hmg
    refine' Law.all_mk KX G hmg ?a0 ?l0 ?c0 ?k0 ?a1 ?l1 ?c1 ?k1 ?a2 ?l2 ?c2 ?k2 ?a3 ?l3 ?c3 ?k3 ?a4 ?l4 ?c4 ?k4 ?a5 ?l5 ?c5 ?k5 ?a6 ?l6 ?c6 ?k6 ?a7 ?l7 ?c7 ?k7 ?a8 ?l8 ?c8 ?k8 ?a9 ?l9 ?c9 ?k9 ?a10 ?l10 ?c10 ?k10 ?a11 ?l11 ?c11 ?k11 ?a12 ?l12 ?c12 ?k12 ?a13 ?l13 ?c13 ?k13 ?a14 ?l14 ?c14 ?k14 ?z_all ?z_bool ?z_int ?z_isinstance ?z_len ?z_max ?z_min ?z_range ?z_repr ?z_str ?y_FIGURES ?y_LETTERS ?y_LONGEST ?y_MOST_FIGURES
    (case a0 => k_is)
    (case l0 => k_is)
    (case c0 => k_is)
    (case k0 => k_is)
    (case a1 => k_is)
    (case l1 => k_is)
    (case c1 => k_is)
    (case k1 => k_is)
    (case a2 => k_is)
    (case l2 => k_is)
    (case c2 => k_is)
    (case k2 => k_is)
    (case a3 => k_is)
    (case l3 => k_is)
    (case c3 => k_is)
    (case k3 => k_is)
    (case a4 => k_is)
    (case l4 => k_is)
    (case c4 => k_is)
    (case k4 => k_is)
    (case a5 => k_is)
    (case l5 => k_is)
    (case c5 => k_is)
    (case k5 => k_is)
    (case a6 => k_is)
    (case l6 => k_is)
    (case c6 => k_is)
    (case k6 => k_is)
    (case a7 => k_is)
    (case l7 => k_is)
    (case c7 => k_is)
    (case k7 => k_is)
    (case a8 => k_is)
    (case l8 => k_is)
    (case c8 => k_is)
    (case k8 => k_is)
    (case a9 => k_is)
    (case l9 => k_is)
    (case c9 => k_is)
    (case k9 => k_is)
    (case a10 => k_is)
    (case l10 => k_is)
    (case c10 => k_is)
    (case k10 => k_is)
    (case a11 => k_is)
    (case l11 => k_is)
    (case c11 => k_is)
    (case k11 => k_is)
    (case a12 => k_is)
    (case l12 => k_is)
    (case c12 => k_is)
    (case k12 => k_is)
    (case a13 => k_is)
    (case l13 => k_is)
    (case c13 => k_is)
    (case k13 => k_is)
    (case a14 => k_is)
    (case l14 => k_is)
    (case c14 => k_is)
    (case k14 => k_is)
    (case z_all => k_is)
    (case z_bool => k_is)
    (case z_int => k_is)
    (case z_isinstance => k_is)
    (case z_len => k_is)
    (case z_max => k_is)
    (case z_min => k_is)
    (case z_range => k_is)
    (case z_repr => k_is)
    (case z_str => k_is)
    (case y_FIGURES => k_is)
    (case y_LETTERS => k_is)
    (case y_LONGEST => k_is)
    (case y_MOST_FIGURES => k_is)
  case L => exact Law.law_true
#print axioms PySem.Challenge.cw_filmrolls_k01_kinds_and_numbers_holds

end
