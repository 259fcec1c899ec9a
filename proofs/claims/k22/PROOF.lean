import PyProof.Rows.All
import HandS.ForMost
import HandS.TupAny
import HandS.Deep
import HandS.Exc
import HandS.WordsExc
import HandS.Wide
import HandS.TupMul
import HandS.TupLe
import HandS.Style
import KE.GoesNew
import KE.GoesEnum
import HandS.SortInts
import HandS.TupSets
import HandS.IsInst
import PyProof.SumWalk
import PyProof.ListOps
import PyProof.ReprReads
import PyProof.ReprRoads
import PyProof.ReprBulk
import HandS.Defaults
import HandS.HeadHook2
import HandS.HeadEnd
import PyProof.FitsInt
import PyProof.ReprLen
import HandS.Codes
import HandS.Head2
import PySem.Challenge.RW_sumshall_k22_whole_free_lots_of_great_gr
set_option Elab.async false
set_option linter.all false
set_option maxRecDepth 100000
set_option maxHeartbeats 4000000
/-! Zf: data without addresses, and what a piece of the text does with them -/
namespace Zf
open PySem L2

/-- data -/
inductive D where
  | non | bl (b : Bool) | int (i : Int) | str (x : Str)
  | tup (l : List D) | lst (l : List D) | scr (l : List D)
  | dK (ks : List Key) (l : List D) | dT (ks : List (List Key)) (l : List D)
  | ins (C : Addr) (ns : List Str) (l : List D)
  /-- the list, the instance at a -/
  | lstA (a : Addr) (l : List D)
  | insA (a C : Addr) (ns : List Str) (l : List D)
  | hand | fn (a : Addr)

/-- an error of a class of the text: its class, its fields -/
structure Err where
  C : Addr
  ns : List Str
  l : List D

/-- what must hold so that a run ends well -/
structure M (α : Type) where
  wp : (α → Prop) → (Err → Prop) → Prop
  mono : ∀ {Q Q' : α → Prop} {E E' : Err → Prop}, (∀ a, Q a → Q' a) → (∀ e, E e → E' e) → wp Q E → wp Q' E'

namespace M
def pure {α : Type} (a : α) : M α := ⟨fun Q _ => Q a, fun h _ q => h _ q⟩
def bind {α β : Type} (m : M α) (k : α → M β) : M β := ⟨fun Q E => m.wp (fun a => (k a).wp Q E) E, fun h h' q => m.mono (fun a => (k a).mono h h') h' q⟩
def stuck {α : Type} : M α := ⟨fun _ _ => False, fun _ _ q => q⟩
def raise {α : Type} (e : Err) : M α := ⟨fun _ E => E e, fun _ h q => h _ q⟩
def any {α : Type} (p : α → Prop) : M α := ⟨fun Q _ => ∀ a, p a → Q a, fun h _ q a pa => h a (q a pa)⟩
/-- a fact that is asked -/
def ask {α : Type} (p : Prop) (m : M α) : M α := ⟨fun Q E => p ∧ m.wp Q E, fun h h' q => ⟨q.1, m.mono h h' q.2⟩⟩
def ite {α : Type} (b : Bool) (m n : M α) : M α := match b with | true => m | false => n
def of {α : Type} : Option α → M α
  | some a => pure a
  | none => stuck
end M

section
variable (K : PySem.W.Frag) (hd : Option Addr) (G : Hp)
mutual
inductive Rep : D → V → Prop
  | non : Rep .non .non
  | bl (b : Bool) : Rep (.bl b) (.bl b)
  | int (i : Int) : Rep (.int i) (.int i)
  | str (x : Str) : Rep (.str x) (.str x)
  | tup {a : Addr} {l : List D} {vs : List V} : SqT K G a vs → Reps l vs → Rep (.tup l) (.ref a)
  | lst {a : Addr} {l : List D} {vs : List V} : G a = some (.lst vs) → Reps l vs → Rep (.lst l) (.ref a)
  | lstA {a : Addr} {l : List D} {vs : List V} : G a = some (.lst vs) → Reps l vs → Rep (.lstA a l) (.ref a)
  | scr {a : Addr} {l : List D} {vs : List V} : SqL K G a vs → Reps l vs → Rep (.scr l) (.ref a)
  | dK {a : Addr} {ks : List Key} {l : List D} {vs : List V} : G a = some (.dK (ks.zip vs)) → ks.length = vs.length → Reps l vs → Rep (.dK ks l) (.ref a)
  | dT {a : Addr} {ks : List (List Key)} {l : List D} {vs : List V} : G a = some (.dT (ks.zip vs)) → ks.length = vs.length → Reps l vs → Rep (.dT ks l) (.ref a)
  | ins {a C dx : Addr} {ns : List Str} {l : List D} {vs : List V} : G a = some (.ins C dx (ns.zip vs)) → ns.length = vs.length → Reps l vs → Rep (.ins C ns l) (.ref a)
  | insA {a C dx : Addr} {ns : List Str} {l : List D} {vs : List V} : G a = some (.ins C dx (ns.zip vs)) → ns.length = vs.length → Reps l vs → Rep (.insA a C ns l) (.ref a)
  | hand {a : Addr} : hd = some a → Rep .hand (.ref a)
  | fn (a : Addr) : Rep (.fn a) (.ref a)
inductive Reps : List D → List V → Prop
  | nil : Reps [] []
  | cons {d : D} {l : List D} {v : V} {vs : List V} : Rep d v → Reps l vs → Reps (d :: l) (v :: vs)
end
end

section
variable {K : PySem.W.Frag} {hd : Option Addr} {G G' : Hp}
theorem Reps.length : ∀ {l : List D} {vs : List V}, Reps K hd G l vs → l.length = vs.length
  | _, _, .nil => rfl
  | _, _, .cons _ t => by simp [t.length]
theorem Reps.get : ∀ {l : List D} {vs : List V} {i : Nat} {d : D}, Reps K hd G l vs → l[i]? = some d → ∃ v, vs[i]? = some v ∧ Rep K hd G d v
  | _, _, _, _, .nil, e => by simp at e
  | _, _, 0, _, .cons r _, e => by simp at e; subst e; exact ⟨_, rfl, r⟩
  | _, _, i + 1, d, .cons _ t, e => by
    obtain ⟨v, h1, h2⟩ := Reps.get (i := i) (d := d) t (by simpa using e)
    exact ⟨v, by simpa using h1, h2⟩
theorem Reps.getV : ∀ {l : List D} {vs : List V} {i : Nat} {v : V}, Reps K hd G l vs → vs[i]? = some v → ∃ d, l[i]? = some d ∧ Rep K hd G d v
  | _, _, _, _, .nil, e => by simp at e
  | _, _, 0, _, .cons r _, e => by simp at e; subst e; exact ⟨_, rfl, r⟩
  | _, _, i + 1, v, .cons _ t, e => by
    obtain ⟨d, h1, h2⟩ := Reps.getV (i := i) (v := v) t (by simpa using e)
    exact ⟨d, by simpa using h1, h2⟩
theorem Reps.append : ∀ {l m : List D} {vs ws : List V}, Reps K hd G l vs → Reps K hd G m ws → Reps K hd G (l ++ m) (vs ++ ws)
  | _, _, _, _, .nil, s => s
  | _, _, _, _, .cons r t, s => .cons r (Reps.append t s)
theorem Reps.take : ∀ {l : List D} {vs : List V} (n : Nat), Reps K hd G l vs → Reps K hd G (l.take n) (vs.take n)
  | _, _, 0, _ => .nil
  | _, _, _ + 1, .nil => .nil
  | _, _, n + 1, .cons r t => .cons r (Reps.take n t)
theorem Reps.drop : ∀ {l : List D} {vs : List V} (n : Nat), Reps K hd G l vs → Reps K hd G (l.drop n) (vs.drop n)
  | _, _, 0, r => r
  | _, _, _ + 1, .nil => .nil
  | _, _, n + 1, .cons _ t => Reps.drop n t
theorem Reps.set {d : D} {v : V} (r : Rep K hd G d v) : ∀ {l : List D} {vs : List V} (i : Nat), Reps K hd G l vs → Reps K hd G (l.set i d) (vs.set i v)
  | _, _, _, .nil => .nil
  | _, _, 0, .cons _ t => .cons r t
  | _, _, i + 1, .cons q t => .cons q (Reps.set r i t)
theorem Reps.reverse : ∀ {l : List D} {vs : List V}, Reps K hd G l vs → Reps K hd G l.reverse vs.reverse
  | _, _, .nil => .nil
  | _, _, .cons r t => by
    rw [List.reverse_cons, List.reverse_cons]
    exact (Reps.reverse t).append (.cons r .nil)

theorem Same.rd {H H' : Hp} {a : Addr} {u : HO} (e : Same H H') (h : Rd H a u) : Rd H' a u := by
  rcases h with h | ⟨o, h⟩
  · exact .inl (e _ _ h)
  · exact .inr ⟨o, e _ _ h⟩
theorem Same.seqT {H H' : Hp} {a : Addr} {xs : List V} (e : Same H H') (h : SqT K H a xs) : SqT K H' a xs := by
  rcases h with h | h
  · exact .inl (Same.rd e h)
  · exact .inr h
mutual
theorem Rep.mono (s : Same G G') : ∀ {d : D} {v : V}, Rep K hd G d v → Rep K hd G' d v
  | _, _, .non => .non
  | _, _, .bl b => .bl b
  | _, _, .int i => .int i
  | _, _, .str x => .str x
  | _, _, .tup h r => .tup (Same.seqT s h) (Reps.mono s r)
  | _, _, .lst h r => .lst (s _ _ h) (Reps.mono s r)
  | _, _, .lstA h r => .lstA (s _ _ h) (Reps.mono s r)
  | _, _, .scr h r => .scr (s.seq h) (Reps.mono s r)
  | _, _, .dK h e r => .dK (s _ _ h) e (Reps.mono s r)
  | _, _, .dT h e r => .dT (s _ _ h) e (Reps.mono s r)
  | _, _, .ins h e r => .ins (s _ _ h) e (Reps.mono s r)
  | _, _, .insA h e r => .insA (s _ _ h) e (Reps.mono s r)
  | _, _, .hand h => .hand h
  | _, _, .fn a => .fn a
theorem Reps.mono (s : Same G G') : ∀ {l : List D} {vs : List V}, Reps K hd G l vs → Reps K hd G' l vs
  | _, _, .nil => .nil
  | _, _, .cons r t => .cons (Rep.mono s r) (Reps.mono s t)
end
end

/-! ### the hand: the one list that every draw changes -/
def HandOk (K : PySem.W.Frag) (hd : Option Addr) (G H : Hp) : Prop := ∀ a, hd = some a → G a = none ∧
  ∃ (c : Addr) (cells : List Int) (p l m n : Int), H a = some (.lst [.ref c, .int p, .int l, .int m, .int n]) ∧ SqL K G c (cells.map V.int) ∧ 0 ≤ p

/-- the heap has grown, nothing that was known has changed but the hand -/
structure Ext (hd : Option Addr) (G H G' H' : Hp) : Prop where
  g : Same G G'
  h : ∀ b o, hd ≠ some b → H b = some o → H' b = some o
  s : Same G' H'
  old : ∀ b, H b ≠ none → G' b = G b
section
variable {K : PySem.W.Frag} {hd : Option Addr} {G H G' H' G1 H1 G2 H2 : Hp}
theorem Ext.refl (s : Same G H) : Ext hd G H G H := ⟨Same.refl _, fun _ _ _ e => e, s, fun _ _ => rfl⟩
theorem Ext.trans (a : Ext hd G H G1 H1) (b : Ext hd G1 H1 G2 H2) (h1 : HandOk K hd G1 H1) : Ext hd G H G2 H2 where
  g := a.g.trans b.g
  h := fun c o n e => b.h c o n (a.h c o n e)
  s := b.s
  old := fun c n => by
    have n1 : H1 c ≠ none := by
      by_cases e : hd = some c
      · obtain ⟨_, _, _, _, _, _, _, e1, _⟩ := h1 c e
        rw [e1]; simp
      · cases q : H c with
        | none => exact absurd q n
        | some o => rw [a.h c o e q]; simp
    rw [b.old c n1, a.old c n]
/-- a new object is laid: tracked for good -/
theorem Ext.new {p : Addr} {o : HO} (s : Same G H) (hp : H p = none) : Ext hd G H (upd G p o) (upd H p o) where
  g := fun b u e => by
    rw [upd_ne (ne_of_none (s b u e) hp)]; exact e
  h := fun b u _ e => by rw [upd_ne (ne_of_none e hp)]; exact e
  s := fun b u e => by
    by_cases hb : b = p
    · subst hb; rw [upd_same] at e ⊢; exact e
    · rw [upd_ne hb] at e ⊢; exact s b u e
  old := fun b n => by
    rw [upd_ne]; rintro rfl; exact n hp
theorem HandOk.new {p : Addr} {o : HO} (h : HandOk K hd G H) (s : Same G H) (hp : H p = none) : HandOk K hd (upd G p o) (upd H p o) := fun a e => by
  obtain ⟨n, c, cells, p1, l, m, k, e1, e2, r⟩ := h a e
  have ne : a ≠ p := ne_of_none e1 hp
  refine ⟨by rw [upd_ne ne]; exact n, c, cells, p1, l, m, k, by rw [upd_ne ne]; exact e1, ?_, r⟩
  exact (Ext.new (hd := hd) s hp).g.seq e2
/-- .. or not for good -/
theorem Ext.newH {p : Addr} {o : HO} (s : Same G H) (hp : H p = none) : Ext hd G H G (upd H p o) where
  g := Same.refl _
  h := fun b u _ e => by rw [upd_ne (ne_of_none e hp)]; exact e
  s := fun b u e => by rw [upd_ne (ne_of_none (s b u e) hp)]; exact s b u e
  old := fun _ _ => rfl
theorem HandOk.newH {p : Addr} {o : HO} (h : HandOk K hd G H) (hp : H p = none) : HandOk K hd G (upd H p o) := fun a e => by
  obtain ⟨n, c, cells, p1, l, m, k, e1, r⟩ := h a e
  exact ⟨n, c, cells, p1, l, m, k, by rw [upd_ne (ne_of_none e1 hp)]; exact e1, r⟩
/-- nothing but growth: the hand too stands as it was -/
structure Grow (G H G' H' : Hp) : Prop where
  g : Same G G'
  h : Same H H'
  s : Same G' H'
  old : ∀ b, H b ≠ none → G' b = G b
theorem Grow.refl (s : Same G H) : Grow G H G H := ⟨Same.refl _, Same.refl _, s, fun _ _ => rfl⟩
theorem Grow.ext (x : Grow G H G' H') : Ext hd G H G' H' := ⟨x.g, fun b o _ e => x.h b o e, x.s, x.old⟩
theorem Grow.hand (x : Grow G H G' H') (h : HandOk K hd G H) : HandOk K hd G' H' := fun a e => by
  obtain ⟨n, c, cells, p1, l, m, k, e1, e2, r⟩ := h a e
  refine ⟨?_, c, cells, p1, l, m, k, x.h _ _ e1, x.g.seq e2, r⟩
  rw [x.old a (by rw [e1]; simp)]; exact n
theorem Grow.new {p : Addr} {o : HO} (s : Same G H) (hp : H p = none) : Grow G H (upd G p o) (upd H p o) :=
  let x : Ext none G H _ _ := Ext.new s hp
  ⟨x.g, fun b u e => x.h b u (by simp) e, x.s, x.old⟩
end

/-! ### the names of a def -/
/-- a name's slot: nothing known; data that stand for good; data of which the name alone holds the object -/
inductive Slot where
  | no | frz (d : D) | own (d : D)
abbrev Env := List Slot

/-- an object that is held by one name alone -/
def OwnAt (K : PySem.W.Frag) (hd : Option Addr) (G H : Hp) (p : Addr) : D → Prop
  | .lst l => ∃ vs, H p = some (.lst vs) ∧ Reps K hd G l vs
  | .lstA a l => p = a ∧ ∃ vs, H p = some (.lst vs) ∧ Reps K hd G l vs
  | .dK ks l => ∃ vs, H p = some (.dK (ks.zip vs)) ∧ ks.length = vs.length ∧ Reps K hd G l vs
  | .dT ks l => ∃ vs, H p = some (.dT (ks.zip vs)) ∧ ks.length = vs.length ∧ Reps K hd G l vs
  | .ins C ns l => ∃ dx vs, H p = some (.ins C dx (ns.zip vs)) ∧ ns.length = vs.length ∧ Reps K hd G l vs
  | .insA a C ns l => p = a ∧ ∃ dx vs, H p = some (.ins C dx (ns.zip vs)) ∧ ns.length = vs.length ∧ Reps K hd G l vs
  | _ => False

structure Sta (K : PySem.W.Frag) (hd : Option Addr) (G H : Hp) (env : Env) (σ : St) : Prop where
  sub : Same G H
  hand : HandOk K hd G H
  len : env.length = σ.length
  frz : ∀ (i : Nat) d, env[i]? = some (.frz d) → ∃ v, σ[i]? = some (some v) ∧ Rep K hd G d v
  own : ∀ (i : Nat) d, env[i]? = some (.own d) → ∃ p, σ[i]? = some (some (.ref p)) ∧ G p = none ∧ hd ≠ some p ∧ OwnAt K hd G H p d
  sep : ∀ (i j : Nat) d e p, env[i]? = some (.own d) → env[j]? = some (.own e) → σ[i]? = some (some (.ref p)) → σ[j]? = some (some (.ref p)) → i = j

section
variable {K : PySem.W.Frag} {hd : Option Addr} {G H G' H' : Hp} {env : Env} {σ : St}
theorem OwnAt.ex {p : Addr} : ∀ {d : D}, OwnAt K hd G H p d → ∃ o, H p = some o
  | .lst _, ⟨_, h, _⟩ => ⟨_, h⟩
  | .lstA _ _, ⟨_, _, h, _⟩ => ⟨_, h⟩
  | .dK _ _, ⟨_, h, _⟩ => ⟨_, h⟩
  | .dT _ _, ⟨_, h, _⟩ => ⟨_, h⟩
  | .ins _ _ _, ⟨_, _, h, _⟩ => ⟨_, h⟩
  | .insA _ _ _ _, ⟨_, _, _, h, _⟩ => ⟨_, h⟩
theorem OwnAt.mono {p : Addr} (s : Same G G') (h : ∀ o, H p = some o → H' p = some o) : ∀ {d : D}, OwnAt K hd G H p d → OwnAt K hd G' H' p d
  | .lst _, ⟨vs, e, r⟩ => ⟨vs, h _ e, r.mono s⟩
  | .lstA _ _, ⟨q, vs, e, r⟩ => ⟨q, vs, h _ e, r.mono s⟩
  | .dK _ _, ⟨vs, e, l, r⟩ => ⟨vs, h _ e, l, r.mono s⟩
  | .dT _ _, ⟨vs, e, l, r⟩ => ⟨vs, h _ e, l, r.mono s⟩
  | .ins _ _ _, ⟨dx, vs, e, l, r⟩ => ⟨dx, vs, h _ e, l, r.mono s⟩
  | .insA _ _ _ _, ⟨q, dx, vs, e, l, r⟩ => ⟨q, dx, vs, h _ e, l, r.mono s⟩
theorem Sta.ext (S : Sta K hd G H env σ) (x : Ext hd G H G' H') (hh : HandOk K hd G' H') : Sta K hd G' H' env σ where
  sub := x.s
  hand := hh
  len := S.len
  frz := fun i d e => let ⟨v, h1, h2⟩ := S.frz i d e; ⟨v, h1, h2.mono x.g⟩
  own := fun i d e => by
    obtain ⟨p, h1, h2, h3, h4⟩ := S.own i d e
    refine ⟨p, h1, ?_, h3, h4.mono x.g fun o q => x.h p o h3 q⟩
    obtain ⟨o, q⟩ := h4.ex
    rw [x.old p (by rw [q]; simp)]; exact h2
  sep := S.sep
end
end Zf

/-! Zf: expressions -/
namespace Zf
open PySem L2

theorem _root_.L2.PE.imp {X : Cx} {e : Expr} {t t' : TE} (h : PE X e t) (w : ∀ σ H Q, t' σ H Q → t σ H Q) : PE X e t' := ⟨fun pins s σ H Q I q => h.run pins s σ H Q I (w σ H Q q)⟩
theorem _root_.L2.PT.imp {X : Cx} {e : Expr} {t t' : TT} (h : PT X e t) (w : ∀ σ H Q, t' σ H Q → t σ H Q) : PT X e t' := ⟨fun pins s σ H Q I q => h.run pins s σ H Q I (w σ H Q q)⟩
theorem _root_.L2.PW.imp {X : Cx} {e : Expr} {t t' : TT} (h : PW X e t) (w : ∀ σ H Q, t' σ H Q → t σ H Q) : PW X e t' := ⟨fun wh pins s σ H Q I q => h.run wh pins s σ H Q I (w σ H Q q)⟩
theorem _root_.L2.PA.imp {X : Cx} {es : List Expr} {t t' : TA} (h : PA X es t) (w : ∀ σ H Q, t' σ H Q → t σ H Q) : PA X es t' := ⟨fun pos pins s σ H Q I q => h.run pos pins s σ H Q I (w σ H Q q)⟩

/-- how an error lies in the heap -/
def ErrAt (K : PySem.W.Frag) (hd : Option Addr) (G H : Hp) (e : Err) (oa : Option Addr) : Prop := ∃ d vs, oa = some d ∧ H d = some (.xd (e.ns.zip vs)) ∧ e.ns.length = vs.length ∧ Reps K hd G e.l vs
/-- what is wanted of an error -/
def EOk (K : PySem.W.Frag) (E : XK) (hd : Option Addr) (G H : Hp) (e : Err) : Prop := ∀ oa G' H', Ext hd G H G' H' → HandOk K hd G' H' → ErrAt K hd G' H' e oa → E (.ref e.C) oa H'
section
variable {K : PySem.W.Frag} {E : XK} {hd : Option Addr} {G H G' H' G1 H1 : Hp}
theorem EOk.ext {e : Err} (x : Ext hd G H G1 H1) (h1 : HandOk K hd G1 H1) (h : EOk K E hd G H e) : EOk K E hd G1 H1 e := fun oa G' H' x' h' r => h oa G' H' (x.trans x' h1) h' r
end

/-- how a value may lie: for good; for good or held by a name; new for the one who asked (a list, a dict) -/
abbrev Mode := PySem.W.Frag → Option Addr → Hp → Hp → Hp → D → V → Prop
def mE : Mode := fun K hd _ G' _ d v => Rep K hd G' d v
def RepB (K : PySem.W.Frag) (hd : Option Addr) (G H : Hp) (d : D) (v : V) : Prop := Rep K hd G d v ∨ ∃ p, v = .ref p ∧ G p = none ∧ hd ≠ some p ∧ OwnAt K hd G H p d
def mB : Mode := fun K hd _ G' H' d v => RepB K hd G' H' d v
def isOwn : D → Bool
  | .lst _ => true
  | .dK _ _ => true
  | .dT _ _ => true
  | _ => false
def mN : Mode := fun K hd H G' H' d v => (isOwn d = false ∧ Rep K hd G' d v) ∨ (isOwn d = true ∧ ∃ p, v = .ref p ∧ H p = none ∧ G' p = none ∧ hd ≠ some p ∧ OwnAt K hd G' H' p d)
/-- a mode asks no more of an earlier start -/
def MLe (R : Mode) : Prop := ∀ K hd G H G1 H1 G' H' d v, Ext hd G H G1 H1 → HandOk K hd G1 H1 → R K hd H1 G' H' d v → R K hd H G' H' d v
theorem mE_le : MLe mE := fun _ _ _ _ _ _ _ _ _ _ _ _ r => r
theorem mB_le : MLe mB := fun _ _ _ _ _ _ _ _ _ _ _ _ r => r
theorem none_back {K : PySem.W.Frag} {hd : Option Addr} {G H G1 H1 : Hp} {p : Addr} (x : Ext hd G H G1 H1) (n : H1 p = none) (h : hd ≠ some p) : H p = none := by
  cases q : H p with
  | none => rfl
  | some o => rw [x.h p o h q] at n; cases n
theorem mN_le : MLe mN := fun K hd G H G1 H1 G' H' d v x h r => by
  rcases r with r | ⟨o, p, e, n, r2, r3, r4⟩
  · exact .inl r
  · exact .inr ⟨o, p, e, none_back (K := K) x n r3, r2, r3, r4⟩
theorem RepB.ext {K : PySem.W.Frag} {hd : Option Addr} {G H G' H' : Hp} {d : D} {v : V} (x : Ext hd G H G' H') (r : RepB K hd G H d v) : RepB K hd G' H' d v := by
  rcases r with r | ⟨p, e, n, h, o⟩
  · exact .inl (r.mono x.g)
  · obtain ⟨ob, q⟩ := o.ex
    exact .inr ⟨p, e, by rw [x.old p (by rw [q]; simp)]; exact n, h, o.mono x.g fun o q => x.h p o h q⟩

/-- the reading of an expression whose meaning is f -/
def tR (K : PySem.W.Frag) (E : XK) (R : Mode) (f : Env → M D) : TE := fun σ H Q => ∃ hd G env, Sta K hd G H env σ ∧
  (f env).wp (fun d => ∀ v G' H', Ext hd G H G' H' → HandOk K hd G' H' → R K hd H G' H' d v → Q v H') (EOk K E hd G H)
def tTst (K : PySem.W.Frag) (E : XK) (f : Env → M Bool) : TT := fun σ H Q => ∃ hd G env, Sta K hd G H env σ ∧
  (f env).wp (fun b => ∀ G' H', Ext hd G H G' H' → HandOk K hd G' H' → Q b H') (EOk K E hd G H)
def RAll (R : Mode) (K : PySem.W.Frag) (hd : Option Addr) (H G' H' : Hp) : List D → List V → Prop
  | [], vs => vs = []
  | d :: l, vs => ∃ v r, vs = v :: r ∧ R K hd H G' H' d v ∧ RAll R K hd H G' H' l r
def tArgs (K : PySem.W.Frag) (E : XK) (R : Mode) (f : Env → M (List D)) : TA := fun σ H Q => ∃ hd G env, Sta K hd G H env σ ∧
  (f env).wp (fun l => ∀ vs G' H', Ext hd G H G' H' → HandOk K hd G' H' → RAll R K hd H G' H' l vs → Q vs H') (EOk K E hd G H)
abbrev SE (X : Cx) (E : XK) (R : Mode) (e : Expr) (f : Env → M D) : Prop := PE X e (tR X.K E R f)
abbrev ST (X : Cx) (E : XK) (e : Expr) (f : Env → M Bool) : Prop := PT X e (tTst X.K E f)
abbrev SW (X : Cx) (E : XK) (e : Expr) (f : Env → M Bool) : Prop := PW X e (tTst X.K E f)
abbrev SA (X : Cx) (E : XK) (R : Mode) (es : List Expr) (f : Env → M (List D)) : Prop := PA X es (tArgs X.K E R f)

section
variable {X : Cx} {E : XK} {e a b c : Expr} {f fa fb fc : Env → M D} {es : List Expr} {pos : Pos}

/-- what is new may be frozen -/
theorem freeze {K : PySem.W.Frag} {hd : Option Addr} {G H G' H' : Hp} {d : D} {v : V} (x : Ext hd G H G' H') (h : HandOk K hd G' H') (r : mN K hd H G' H' d v) : ∃ G'', Ext hd G H G'' H' ∧ HandOk K hd G'' H' ∧ Rep K hd G'' d v := by
  rcases r with ⟨_, r⟩ | ⟨io, p, rfl, n, gn, hn, o⟩
  · exact ⟨G', x, h, r⟩
  · obtain ⟨ob, q⟩ := o.ex
    have sm : Same G' (upd G' p ob) := fun b u z => by rw [upd_ne (ne_of_none z gn)]; exact z
    refine ⟨upd G' p ob, ⟨x.g.trans sm, x.h, fun b u z => ?_, fun b m => ?_⟩, fun a ea => ?_, ?_⟩
    · by_cases hb : b = p
      · subst hb; rw [upd_same] at z; cases z; exact q
      · rw [upd_ne hb] at z; exact x.s b u z
    · rw [upd_ne (by rintro rfl; exact m n)]; exact x.old b m
    · obtain ⟨n1, c, cells, p1, l, m, k, e1, e2, r⟩ := h a ea
      refine ⟨by rw [upd_ne (by rintro rfl; exact hn ea)]; exact n1, c, cells, p1, l, m, k, e1, sm.seq e2, r⟩
    · cases d with
      | lst l => obtain ⟨vs, e1, r1⟩ := o; rw [q] at e1; cases e1; exact .lst upd_same (r1.mono sm)
      | lstA a l => obtain ⟨pa, vs, e1, r1⟩ := o; subst pa; rw [q] at e1; cases e1; exact .lstA upd_same (r1.mono sm)
      | dK ks l => obtain ⟨vs, e1, l1, r1⟩ := o; rw [q] at e1; cases e1; exact .dK upd_same l1 (r1.mono sm)
      | dT ks l => obtain ⟨vs, e1, l1, r1⟩ := o; rw [q] at e1; cases e1; exact .dT upd_same l1 (r1.mono sm)
      | ins C ns l => obtain ⟨dx, vs, e1, l1, r1⟩ := o; rw [q] at e1; cases e1; exact .ins upd_same l1 (r1.mono sm)
      | insA a C ns l => obtain ⟨pa, dx, vs, e1, l1, r1⟩ := o; subst pa; rw [q] at e1; cases e1; exact .insA upd_same l1 (r1.mono sm)
      | _ => exact False.elim o
theorem se_of_n (h : SE X E mN e f) : SE X E mE e f := h.imp fun σ H Q ⟨hd, G, env, S, w⟩ => ⟨hd, G, env, S, (f env).mono (fun d q v G' H' x hh r => let ⟨G'', x', h', r'⟩ := freeze x hh r; q v G'' H' x' h' r') (fun _ q => q) w⟩
theorem sb_of (h : SE X E mE e f) : SE X E mB e f := h.imp fun σ H Q ⟨hd, G, env, S, w⟩ => ⟨hd, G, env, S, (f env).mono (fun d q v G' H' x hh r => q v G' H' x hh (.inl r)) (fun _ q => q) w⟩
theorem sb_of_n (h : SE X E mN e f) : SE X E mB e f := sb_of (se_of_n h)

/-! ### names and constants -/
def eVar (i : Nat) : Env → M D := fun env => match env[i]? with
  | some (.frz d) => .pure d
  | _ => .stuck
def bVar (i : Nat) : Env → M D := fun env => match env[i]? with
  | some (.frz d) => .pure d
  | some (.own d) => .pure d
  | _ => .stuck
def eC (d : D) : Env → M D := fun _ => .pure d
theorem se_var (i : Nat) {x : Str} {pos : Pos} (hN : X.N[i]? = some x := by rfl) (hv : Vis X.env.scope x := by first | exact Or.inl rfl | exact Or.inr (Or.inl rfl) | exact Or.inr (Or.inr rfl)) (hd : (x == ("__debug__" : Str)) = false := by decide)
    (hcd : (x == ("__classdict__" : Str)) = false := by decide) : SE X E mE (.Name x pos) (eVar i) := (pe_var hN hv hd hcd).imp fun σ H Q ⟨hd, G, env, S, w⟩ => by
  unfold eVar at w
  split at w
  · rename_i d e
    obtain ⟨v, h1, h2⟩ := S.frz i d e
    exact ⟨v, h1, w v G H (Ext.refl S.sub) S.hand h2⟩
  · exact False.elim w
theorem sb_var (i : Nat) {x : Str} {pos : Pos} (hN : X.N[i]? = some x := by rfl) (hv : Vis X.env.scope x := by first | exact Or.inl rfl | exact Or.inr (Or.inl rfl) | exact Or.inr (Or.inr rfl)) (hd : (x == ("__debug__" : Str)) = false := by decide)
    (hcd : (x == ("__classdict__" : Str)) = false := by decide) : SE X E mB (.Name x pos) (bVar i) := (pe_var hN hv hd hcd).imp fun σ H Q ⟨hd, G, env, S, w⟩ => by
  unfold bVar at w
  split at w
  · rename_i d e
    obtain ⟨v, h1, h2⟩ := S.frz i d e
    exact ⟨v, h1, w v G H (Ext.refl S.sub) S.hand (.inl h2)⟩
  · rename_i d e
    obtain ⟨p, h1, h2, h3, h4⟩ := S.own i d e
    exact ⟨_, h1, w _ G H (Ext.refl S.sub) S.hand (.inr ⟨p, rfl, h2, h3, h4⟩)⟩
  · exact False.elim w
theorem sc_of {d : D} {v : V} (h : PE X e (tC v)) (r : ∀ K hd G, Rep K hd G d v) (o : isOwn d = false) : SE X E mN e (eC d) := h.imp fun σ H Q ⟨hd, G, env, S, w⟩ => w v G H (Ext.refl S.sub) S.hand (.inl ⟨o, r _ _ _⟩)
theorem sn_int {i : Int} {j pos} : SE X E mN (.Constant (.int i) j pos) (eC (.int i)) := sc_of pe_int (fun _ _ _ => .int i) rfl
theorem sn_bl {b j pos} : SE X E mN (.Constant (.bool b) j pos) (eC (.bl b)) := sc_of pe_bl (fun _ _ _ => .bl b) rfl
theorem sn_non {j pos} : SE X E mN (.Constant .none j pos) (eC .non) := sc_of pe_non (fun _ _ _ => .non) rfl
theorem sn_str {x j pos} : SE X E mN (.Constant (.str x) j pos) (eC (.str x)) := sc_of pe_str (fun _ _ _ => .str x) rfl
/-- a module's constant -/
theorem sn_globI {x : Str} {i : Int} {t : Tok} {pos : Pos} (hg : Gl X x) (hm : X.mg x = some (.int i t)) (hd : (x == ("__debug__" : Str)) = false := by decide) : SE X E mN (.Name x pos) (eC (.int i)) :=
  sc_of (v := .int i) (pe_glob hg hm ⟨t, rfl⟩ hd) (fun _ _ _ => .int i) rfl

/-! ### several in a row -/
def bind2 (fa fb : Env → M D) (op : D → D → M D) : Env → M D := fun env => (fa env).bind fun x => (fb env).bind fun y => op x y
/-- an operation on values that does what op says of data -/
def OpD (X : Cx) (E : XK) (R : Mode) (r : R2) (op : D → D → M D) : Prop := ∀ hd G H x y v u Q, Same G H → HandOk X.K hd G H → RepB X.K hd G H x v → RepB X.K hd G H y u →
  (op x y).wp (fun d => ∀ w G' H', Ext hd G H G' H' → HandOk X.K hd G' H' → R X.K hd H G' H' d w → Q w H') (EOk X.K E hd G H) → r v u H Q
theorem two {R : Mode} {r : R2} {op : D → D → M D} (hR : MLe R) (ho : OpD X E R r op) {σ : St} {H : Hp} {Q : VK} (h : tR X.K E R (bind2 fa fb op) σ H Q) : tOp r (tR X.K E mB fa) (tR X.K E mB fb) σ H Q := by
  obtain ⟨hd, G, env, S, w⟩ := h
  refine ⟨hd, G, env, S, (fa env).mono (fun x q v G1 H1 x1 h1 r1 => ?_) (fun _ q => q) w⟩
  refine ⟨hd, G1, env, S.ext x1 h1, (fb env).mono (fun y q u G2 H2 x2 h2 r2 => ?_) (fun _ q => q.ext x1 h1) q⟩
  refine ho hd G2 H2 x y v u Q x2.s h2 (r1.ext x2) r2 ((op x y).mono (fun d q w G' H' x' h' r' => q w G' H' ((x1.trans x2 h1).trans x' h2) h' ?_) (fun _ q => (q.ext (x1.trans x2 h1) h2)) q)
  exact hR _ _ _ _ _ _ _ _ _ _ (x1.trans x2 h1) h2 r'
theorem se_op {R : Mode} {o : Operator} {r : R2} {op : D → D → M D} (hR : MLe R) (hr : OpR X (binaryOp o) r) (ho : OpD X E R r op) (ha : SE X E mB a fa) (hb : SE X E mB b fb) : SE X E R (.BinOp a o b pos) (bind2 fa fb op) :=
  (pe_op hr ha hb).imp fun _ _ _ h => two hR ho h
theorem se_cmpR {R : Mode} {o : CmpOp} {r : R2} {op : D → D → M D} (hR : MLe R) (hr : OpR X (compareOp o) r) (ho : OpD X E R r op) (ha : SE X E mB a fa) (hb : SE X E mB b fb) (hm : behindInMarks o b = false) : SE X E R (.Compare a [o] [b] pos) (bind2 fa fb op) :=
  (pe_cmpR hr ha hb hm).imp fun _ _ _ h => two hR ho h
def UnD (X : Cx) (E : XK) (R : Mode) (r : V → Hp → VK → Prop) (op : D → M D) : Prop := ∀ hd G H x v Q, Same G H → HandOk X.K hd G H → RepB X.K hd G H x v →
  (op x).wp (fun d => ∀ w G' H', Ext hd G H G' H' → HandOk X.K hd G' H' → R X.K hd H G' H' d w → Q w H') (EOk X.K E hd G H) → r v H Q
def bind1 (fa : Env → M D) (op : D → M D) : Env → M D := fun env => (fa env).bind op
theorem one {R : Mode} {r : V → Hp → VK → Prop} {op : D → M D} (hR : MLe R) (ho : UnD X E R r op) {σ : St} {H : Hp} {Q : VK} (h : tR X.K E R (bind1 fa op) σ H Q) : tR X.K E mB fa σ H fun v H1 => r v H1 Q := by
  obtain ⟨hd, G, env, S, w⟩ := h
  refine ⟨hd, G, env, S, (fa env).mono (fun x q v G1 H1 x1 h1 r1 => ?_) (fun _ q => q) w⟩
  refine ho hd G1 H1 x v Q x1.s h1 r1 ((op x).mono (fun d q w G' H' x' h' r' => q w G' H' (x1.trans x' h1) h' ?_) (fun _ q => (q.ext x1 h1)) q)
  exact hR _ _ _ _ _ _ _ _ _ _ x1 h1 r'
theorem se_un {R : Mode} {o : UnaryOp} {r : V → Hp → VK → Prop} {op : D → M D} (hR : MLe R) (hr : UnR X (unaryOp o) r) (ho : UnD X E R r op) (ha : SE X E mB a fa) : SE X E R (.UnaryOp o a pos) (bind1 fa op) :=
  (pe_un hr ha).imp fun _ _ _ h => one hR ho h

/-! ### arguments -/
def aNil : Env → M (List D) := fun _ => .pure []
def aCons (fa : Env → M D) (fr : Env → M (List D)) : Env → M (List D) := fun env => (fa env).bind fun x => (fr env).bind fun xs => .pure (x :: xs)
theorem RAll.ext {R : Mode} {K : PySem.W.Frag} {hd : Option Addr} {H0 G H G' H' : Hp} (hm : ∀ d v, R K hd H0 G H d v → R K hd H0 G' H' d v) : ∀ {l : List D} {vs : List V}, RAll R K hd H0 G H l vs → RAll R K hd H0 G' H' l vs
  | [], _, h => h
  | _ :: _, _, ⟨v, r, e, h1, h2⟩ => ⟨v, r, e, hm _ _ h1, RAll.ext hm h2⟩
theorem RAll.le {R : Mode} {K : PySem.W.Frag} {hd : Option Addr} {H0 H1 G H : Hp} (hm : ∀ d v, R K hd H1 G H d v → R K hd H0 G H d v) : ∀ {l : List D} {vs : List V}, RAll R K hd H1 G H l vs → RAll R K hd H0 G H l vs
  | [], _, h => h
  | _ :: _, _, ⟨v, r, e, h1, h2⟩ => ⟨v, r, e, hm _ _ h1, RAll.le hm h2⟩
theorem RAll.reps {K : PySem.W.Frag} {hd : Option Addr} {H0 G H : Hp} : ∀ {l : List D} {vs : List V}, RAll mE K hd H0 G H l vs → Reps K hd G l vs
  | [], _, h => by cases h; exact .nil
  | _ :: _, _, ⟨v, r, e, h1, h2⟩ => by cases e; exact .cons h1 h2.reps
/-- a mode that is kept when the heap grows -/
def MKeep (R : Mode) : Prop := ∀ K hd H0 G H G' H' d v, Ext hd G H G' H' → R K hd H0 G H d v → R K hd H0 G' H' d v
theorem mE_keep : MKeep mE := fun _ _ _ _ _ _ _ _ _ x r => Rep.mono x.g r
theorem mB_keep : MKeep mB := fun _ _ _ _ _ _ _ _ _ x r => RepB.ext x r
theorem sa_nil {R : Mode} : SA X E R [] aNil := pa_nil.imp fun σ H Q ⟨hd, G, env, S, w⟩ => w [] G H (Ext.refl S.sub) S.hand rfl
theorem sa_cons {R : Mode} {fr : Env → M (List D)} (hR : MLe R) (hk : MKeep R) (ha : SE X E R e fa) (hr : SA X E R es fr) (hs : starEach (e :: es) X.env = (false, eval e X.env) :: starEach es X.env := by rfl) : SA X E R (e :: es) (aCons fa fr) :=
  (pa_cons ha hr hs).imp fun σ H Q ⟨hd, G, env, S, w⟩ => by
    refine ⟨hd, G, env, S, (fa env).mono (fun x q v G1 H1 x1 h1 r1 => ?_) (fun _ q => q) w⟩
    refine ⟨hd, G1, env, S.ext x1 h1, (fr env).mono (fun l q vs G2 H2 x2 h2 r2 => q _ G2 H2 (x1.trans x2 h1) h2 ⟨v, vs, rfl, hk _ _ _ _ _ _ _ _ _ x2 r1, ?_⟩) (fun _ q => q.ext x1 h1) q⟩
    exact r2.le fun d v r => hR _ _ _ _ _ _ _ _ _ _ x1 h1 r
abbrev saE {fr : Env → M (List D)} (ha : SE X E mE e fa) (hr : SA X E mE es fr) (hs : starEach (e :: es) X.env = (false, eval e X.env) :: starEach es X.env := by rfl) : SA X E mE (e :: es) (aCons fa fr) := sa_cons mE_le mE_keep ha hr hs
abbrev saB {fr : Env → M (List D)} (ha : SE X E mB e fa) (hr : SA X E mB es fr) (hs : starEach (e :: es) X.env = (false, eval e X.env) :: starEach es X.env := by rfl) : SA X E mB (e :: es) (aCons fa fr) := sa_cons mB_le mB_keep ha hr hs

/-! ### displays -/
def eTup (fs : Env → M (List D)) : Env → M D := fun env => (fs env).bind fun l => .ask (l.length ≤ sizeLine) (.pure (.tup l))
def eLst (fs : Env → M (List D)) : Env → M D := fun env => (fs env).bind fun l => .ask (l.length ≤ sizeLine) (.pure (.lst l))
theorem sn_tup {fs : Env → M (List D)} {k} (h : SA X E mE es fs) : SE X E mN (.Tuple es k pos) (eTup fs) := (pe_tup h).imp fun σ H Q ⟨hd, G, env, S, w⟩ =>
  ⟨hd, G, env, S, (fs env).mono (fun l ⟨z, q⟩ vs G1 H1 x1 h1 r1 => by
    have rr := r1.reps
    refine ⟨by rw [← rr.length]; exact z, fun p hp => q _ (upd G1 p (.tup vs)) _ (x1.trans (Ext.new x1.s hp) h1) (h1.new x1.s hp) (.inl ⟨rfl, .tup (SqT.of upd_same) (rr.mono (Ext.new (hd := hd) x1.s hp).g)⟩)⟩) (fun _ q => q) w⟩
theorem sn_lst {fs : Env → M (List D)} (h : SA X E mE es fs) : SE X E mN (.List es pos) (eLst fs) := (pe_lst h).imp fun σ H Q ⟨hd, G, env, S, w⟩ =>
  ⟨hd, G, env, S, (fs env).mono (fun l ⟨z, q⟩ vs G1 H1 x1 h1 r1 => by
    have rr := r1.reps
    refine ⟨by rw [← rr.length]; exact z, fun p hp => ?_⟩
    have gn : G1 p = none := by
      cases e : G1 p with
      | none => rfl
      | some o => rw [x1.s _ _ e] at hp; cases hp
    have hn : hd ≠ some p := fun e => by
      obtain ⟨_, _, _, _, _, _, _, e1, _⟩ := h1 p e
      rw [e1] at hp; cases hp
    exact q _ G1 _ (x1.trans (Ext.newH x1.s hp) h1) (h1.newH hp) (.inr ⟨rfl, p, rfl, none_back (K := X.K) x1 hp hn, gn, hn, vs, upd_same, rr⟩)) (fun _ q => q) w⟩
end
end Zf

/-! Zf: what the operators do -/
namespace Zf
open PySem L2

section
variable {K : PySem.W.Frag} {hd : Option Addr} {G H G' H' : Hp} {v : V}
theorem RepB.int {i : Int} (h : RepB K hd G H (.int i) v) : v = .int i := by
  rcases h with h | ⟨_, _, _, _, o⟩
  · cases h; rfl
  · exact False.elim o
theorem RepB.bl {i : Bool} (h : RepB K hd G H (.bl i) v) : v = .bl i := by
  rcases h with h | ⟨_, _, _, _, o⟩
  · cases h; rfl
  · exact False.elim o
theorem RepB.str {i : Str} (h : RepB K hd G H (.str i) v) : v = .str i := by
  rcases h with h | ⟨_, _, _, _, o⟩
  · cases h; rfl
  · exact False.elim o
theorem RepB.non (h : RepB K hd G H .non v) : v = .non := by
  rcases h with h | ⟨_, _, _, _, o⟩
  · cases h; rfl
  · exact False.elim o
theorem RepB.tup {l : List D} (h : RepB K hd G H (.tup l) v) : ∃ a vs, v = .ref a ∧ SqT K G a vs ∧ Reps K hd G l vs := by
  rcases h with h | ⟨_, _, _, _, o⟩
  · cases h with
    | tup h r => exact ⟨_, _, rfl, h, r⟩
  · exact False.elim o
theorem RepB.lst {l : List D} (s : Same G H) (h : RepB K hd G H (.lst l) v) : ∃ a vs, v = .ref a ∧ H a = some (.lst vs) ∧ Reps K hd G l vs := by
  rcases h with h | ⟨p, e, _, _, vs, h, r⟩
  · cases h with
    | lst h r => exact ⟨_, _, rfl, s _ _ h, r⟩
  · exact ⟨p, vs, e, h, r⟩
theorem RepB.ins {C : Addr} {ns : List Str} {l : List D} (s : Same G H) (h : RepB K hd G H (.ins C ns l) v) : ∃ a dx vs, v = .ref a ∧ H a = some (.ins C dx (ns.zip vs)) ∧ ns.length = vs.length ∧ Reps K hd G l vs := by
  rcases h with h | ⟨p, e, _, _, dx, vs, h, l, r⟩
  · cases h with
    | ins h e r => exact ⟨_, _, _, rfl, s _ _ h, e, r⟩
  · exact ⟨p, dx, vs, e, h, l, r⟩
/-- a new list | a new tuple as a result -/
theorem new_lst {p : Addr} {l : List D} {vs : List V} (s : Same G H) (hh : HandOk K hd G H) (hp : H p = none) (r : Reps K hd G l vs) :
    Ext hd G H G (upd H p (.lst vs)) ∧ HandOk K hd G (upd H p (.lst vs)) ∧ mN K hd H G (upd H p (.lst vs)) (.lst l) (.ref p) := by
  have gn : G p = none := by
    cases e : G p with
    | none => rfl
    | some o => rw [s _ _ e] at hp; cases hp
  have hn : hd ≠ some p := fun e => by
    obtain ⟨_, _, _, _, _, _, _, e1, _⟩ := hh p e
    rw [e1] at hp; cases hp
  exact ⟨Ext.newH s hp, hh.newH hp, .inr ⟨rfl, p, rfl, hp, gn, hn, vs, upd_same, r⟩⟩
theorem new_tup {p : Addr} {l : List D} {vs : List V} (s : Same G H) (hh : HandOk K hd G H) (hp : H p = none) (r : Reps K hd G l vs) :
    Ext hd G H (upd G p (.tup vs)) (upd H p (.tup vs)) ∧ HandOk K hd (upd G p (.tup vs)) (upd H p (.tup vs)) ∧ Rep K hd (upd G p (.tup vs)) (.tup l) (.ref p) :=
  ⟨Ext.new s hp, hh.new s hp, .tup (SqT.of upd_same) (r.mono (Ext.new (hd := hd) s hp).g)⟩
end

/-! ### data that compare and print -/
mutual
def toPy : D → PyData
  | .non => .none
  | .bl b => .bool b
  | .int i => .int i
  | .str x => .str x
  | .tup l => .tuple (toPys l)
  | .lst l => .list (toPys l)
  | .lstA _ _ | .scr _ | .dK _ _ | .dT _ _ | .ins _ _ _ | .insA _ _ _ _ | .hand | .fn _ => .none
def toPys : List D → List PyData
  | [] => []
  | d :: l => toPy d :: toPys l
end
/-- data of lists and tuples at most so deep -/
def okD : Nat → D → Bool
  | _, .non => true
  | _, .bl _ => true
  | _, .int _ => true
  | _, .str x => PyData.strOk x
  | n + 1, .tup l => l.all (okD n)
  | n + 1, .lst l => l.all (okD n)
  | _, _ => false
def deq (a b : D) : Bool := PyData.eqv (toPy a) (toPy b)
theorem okD_py : ∀ (n : Nat) (d : D), okD n d = true → (toPy d).canLay0 = true ∧ (toPy d).depth ≤ n
  | _, .non, _ => ⟨rfl, by simp [toPy, PyData.depth]⟩
  | _, .bl _, _ => ⟨rfl, by simp [toPy, PyData.depth]⟩
  | _, .int _, _ => ⟨rfl, by simp [toPy, PyData.depth]⟩
  | _, .str _, h => ⟨by simpa [okD, toPy, PyData.canLay0] using h, by simp [toPy, PyData.depth]⟩
  | 0, .tup _, h => by simp [okD] at h
  | 0, .lst _, h => by simp [okD] at h
  | n + 1, .tup l, h => by
    have key : ∀ l : List D, l.all (okD n) = true → PyData.canLayAll0 (toPys l) = true ∧ PyData.depthAll (toPys l) ≤ n := by
      intro l
      induction l with
      | nil => intro _; simp [toPys, PyData.canLayAll0, PyData.depthAll]
      | cons d l ih =>
        intro h
        rw [List.all_cons, Bool.and_eq_true] at h
        obtain ⟨h1, h2⟩ := okD_py n d h.1
        obtain ⟨h3, h4⟩ := ih h.2
        simp only [toPys, PyData.canLayAll0, PyData.depthAll, h1, h3, Bool.and_self, true_and]
        omega
    obtain ⟨h1, h2⟩ := key l (by simpa [okD] using h)
    simp only [toPy, PyData.canLay0, PyData.depth]
    exact ⟨h1, by omega⟩
  | n + 1, .lst l, h => by
    have key : ∀ l : List D, l.all (okD n) = true → PyData.canLayAll0 (toPys l) = true ∧ PyData.depthAll (toPys l) ≤ n := by
      intro l
      induction l with
      | nil => intro _; simp [toPys, PyData.canLayAll0, PyData.depthAll]
      | cons d l ih =>
        intro h
        rw [List.all_cons, Bool.and_eq_true] at h
        obtain ⟨h1, h2⟩ := okD_py n d h.1
        obtain ⟨h3, h4⟩ := ih h.2
        simp only [toPys, PyData.canLayAll0, PyData.depthAll, h1, h3, Bool.and_self, true_and]
        omega
    obtain ⟨h1, h2⟩ := key l (by simpa [okD] using h)
    simp only [toPy, PyData.canLay0, PyData.depth]
    exact ⟨h1, by omega⟩
  | _, .scr _, h => by simp [okD] at h
  | _, .lstA _ _, h => by simp [okD] at h
  | _, .dK _ _, h => by simp [okD] at h
  | _, .dT _ _, h => by simp [okD] at h
  | _, .ins _ _ _, h => by simp [okD] at h
  | _, .insA _ _ _ _, h => by simp [okD] at h
  | _, .hand, h => by simp [okD] at h
  | _, .fn _, h => by simp [okD] at h
theorem okD_shaped {d : D} (h : okD 16 d = true) : SeqAt.shaped (toPy d) = true := by
  obtain ⟨h1, h2⟩ := okD_py 16 d h
  unfold SeqAt.shaped
  rw [h1, decide_eq_true (by omega)]; rfl
section
variable {K : PySem.W.Frag} {hd : Option Addr} {G H : Hp}
theorem Rep.dp (s : Same G H) : ∀ (n : Nat) (d : D) (v : V), okD n d = true → Rep K hd G d v → Dp K H v (toPy d)
  | _, .non, _, _, r => by cases r; exact .non
  | _, .bl b, _, _, r => by cases r; exact .bl b
  | _, .int i, _, _, r => by cases r; exact .int i
  | _, .str x, _, _, r => by cases r; exact .str x
  | 0, .tup _, _, h, _ => by simp [okD] at h
  | 0, .lst _, _, h, _ => by simp [okD] at h
  | n + 1, .tup l, _, h, r => by
    have key : ∀ (l : List D) (vs : List V), l.all (okD n) = true → Reps K hd G l vs → DpAll K H vs (toPys l) := by
      intro l
      induction l with
      | nil => intro vs _ r; cases r; exact .nil
      | cons d l ih =>
        intro vs h r
        cases r with
        | cons r1 r2 =>
          rw [List.all_cons, Bool.and_eq_true] at h
          exact .cons (Rep.dp s n d _ h.1 r1) (ih _ h.2 r2)
    cases r with
    | tup q r => exact .tup (Same.seqT s q) (key l _ (by simpa [okD] using h) r)
  | n + 1, .lst l, _, h, r => by
    have key : ∀ (l : List D) (vs : List V), l.all (okD n) = true → Reps K hd G l vs → DpAll K H vs (toPys l) := by
      intro l
      induction l with
      | nil => intro vs _ r; cases r; exact .nil
      | cons d l ih =>
        intro vs h r
        cases r with
        | cons r1 r2 =>
          rw [List.all_cons, Bool.and_eq_true] at h
          exact .cons (Rep.dp s n d _ h.1 r1) (ih _ h.2 r2)
    cases r with
    | lst q r => exact .lst (SqL.of (s _ _ q)) (key l _ (by simpa [okD] using h) r)
  | _, .scr _, _, h, _ => by simp [okD] at h
  | _, .lstA _ _, _, h, _ => by simp [okD] at h
  | _, .dK _ _, _, h, _ => by simp [okD] at h
  | _, .dT _ _, _, h, _ => by simp [okD] at h
  | _, .ins _ _ _, _, h, _ => by simp [okD] at h
  | _, .insA _ _ _ _, _, h, _ => by simp [okD] at h
  | _, .hand, _, h, _ => by simp [okD] at h
  | _, .fn _, _, h, _ => by simp [okD] at h
theorem RepB.dp (s : Same G H) {n : Nat} {d : D} {v : V} (h : okD n d = true) (r : RepB K hd G H d v) : Dp K H v (toPy d) := by
  rcases r with r | ⟨p, rfl, gn, hn, o⟩
  · exact Rep.dp s n d v h r
  · cases d with
    | lst l =>
      obtain ⟨vs, e, r⟩ := o
      -- as if it were frozen
      have sm : Same G (upd G p (.lst vs)) := fun b u z => by rw [upd_ne (ne_of_none z gn)]; exact z
      refine Rep.dp (hd := hd) (G := upd G p (.lst vs)) (fun b u z => ?_) n (.lst l) _ h (.lst upd_same (r.mono sm))
      by_cases hb : b = p
      · subst hb; rw [upd_same] at z; cases z; exact e
      · rw [upd_ne hb] at z; exact s b u z
    | dK _ _ => cases n <;> simp [okD] at h
    | lstA _ _ => cases n <;> simp [okD] at h
    | dT _ _ => cases n <;> simp [okD] at h
    | ins _ _ _ => cases n <;> simp [okD] at h
    | insA _ _ _ _ => cases n <;> simp [okD] at h
    | _ => exact False.elim o
end

/-! ### the operators on data -/
def addD : D → D → M D
  | .int i, .int j => .pure (.int (i + j))
  | .tup l, .tup m => .ask (l.length + m.length ≤ sizeLine) (.pure (.tup (l ++ m)))
  | .lst l, .lst m => .ask (l.length + m.length ≤ sizeLine) (.pure (.lst (l ++ m)))
  | .str x, .str y => .ask (x.length + y.length ≤ sizeLine) (.pure (.str (x ++ y)))
  | _, _ => .stuck
def subD : D → D → M D
  | .int i, .int j => .pure (.int (i - j))
  | _, _ => .stuck
/-- int * int, tuple * int, list * int -/
def mulD : D → D → M D
  | .int i, .int j => .ask (CMul i j ∨ CMulW i j) (.pure (.int (i * j)))
  | .tup l, .int k => .ask (l ≠ [] ∧ 1 ≤ k ∧ k ≤ 1000 ∧ l.length ≤ 1000) (.pure (.tup (List.replicate k.toNat l).flatten))
  | .lst l, .int k => .ask (-(2 ^ 63) ≤ k ∧ k < 2 ^ 63 ∧ l.length * k.toNat ≤ sizeLine) (.pure (.lst (List.replicate k.toNat l).flatten))
  | _, _ => .stuck
def fdivD : D → D → M D
  | .int i, .int j => .ask (CDivW i j) (.pure (.int (i / j)))
  | _, _ => .stuck
def modD : D → D → M D
  | .int i, .int j => .ask (0 < j) (.pure (.int (i % j)))
  | _, _ => .stuck
def powD : D → D → M D
  | .int i, .int j => .ask (CPow i j) (.pure (.int (i ^ j.toNat)))
  | _, _ => .stuck
def negD : D → M D
  | .int i => .pure (.int (-i))
  | _ => .stuck

theorem vals_out {K : PySem.W.Frag} {hd : Option Addr} {G : Hp} {l : List D} {vs : List V} (r : Reps K hd G l vs) : ∀ n : Nat, Reps K hd G (List.replicate n l).flatten (List.replicate n vs).flatten
  | 0 => .nil
  | n + 1 => by
    rw [List.replicate_succ, List.replicate_succ, List.flatten_cons, List.flatten_cons]
    exact r.append (vals_out r n)

/-- t * 1 is t -/
theorem tuple_mul1 (l : Addr) (items : Array Value) (n : Nat) (dd : Option Addr) (sl : Array (Option Value)) (u : Tok) :
    Meets (Builtin.«tuple.__mul__» ⟨[.ref l, .int 1 u], []⟩) (fun _ R s => s.heap.get? l = some { cls := .type "tuple", dict := dd, data := .seq items n, slots := sl } ∧ R (.ok (.ret (.ref l))) s) :=
  .of_wp fun prog w A R s h => by
    obtain ⟨hp, g, d, tk, os⟩ := s
    obtain ⟨hl, h⟩ := h
    have f1 := AutoSeq1.idx_int
    wp_walk using PySem.AutoSeq1.wpAny_loadPart' hl
    repeat (first
      | (refine wpAny_ite_false (decide_eq_false (by decide)) ?_; wp_walk using PySem.AutoSeq1.wpAny_loadPart' hl)
      | (refine wpAny_ite_true (decide_eq_true (by simp)) ?_; wp_walk using PySem.AutoSeq1.wpAny_loadPart' hl))
    exact ⟨_, rfl, h⟩
end Zf

/-! Zf: operators and comparisons as rules -/
namespace Zf
open PySem L2
section
variable {X : Cx} {E : XK} {e a b c : Expr} {f fa fb fc : Env → M D} {g ga gb : Env → M Bool} {es : List Expr} {pos : Pos}

def rAddA (K : PySem.W.Frag) : R2 := fun x y H Q => rI0 (fun i j => .int (i + j)) x y H Q ∨ (rCatA K x y H Q ∨ (rCat x y H Q ∨ ∃ i j, x = .str i ∧ y = .str j ∧ i.length + j.length ≤ sizeLine ∧ Q (.str (i ++ j)) H))
theorem opr_add : OpR X (binaryOp .Add) (rAddA X.K) := op_add.or (op_catA.or (op_cat.or op_add_str))
theorem opd_add : OpD X E mN (rAddA X.K) addD := by
  intro hd G H x y v u Q s hh rx ry w
  unfold addD at w
  split at w
  · exact .inl ⟨_, _, rx.int, ry.int, w _ G H (Ext.refl s) hh (.inl ⟨rfl, .int _⟩)⟩
  · obtain ⟨a, vs, rfl, h1, r1⟩ := rx.tup
    obtain ⟨b, us, rfl, h2, r2⟩ := ry.tup
    obtain ⟨z, w⟩ := w
    refine .inr (.inl ⟨a, b, vs, us, rfl, rfl, Same.seqT s h1, Same.seqT s h2, by rw [← r1.length, ← r2.length]; exact z, fun n => ?_, fun n m => ?_, fun n m p hp => ?_⟩)
    · subst n
      cases r1
      exact w _ G H (Ext.refl s) hh (.inl ⟨rfl, .tup h2 r2⟩)
    · subst m
      cases r2
      rw [List.append_nil] at w
      exact w _ G H (Ext.refl s) hh (.inl ⟨rfl, .tup h1 r1⟩)
    · obtain ⟨x1, h3, r3⟩ := new_tup s hh hp (r1.append r2)
      exact w _ _ _ x1 h3 (.inl ⟨rfl, r3⟩)
  · obtain ⟨a, vs, rfl, h1, r1⟩ := rx.lst s
    obtain ⟨b, us, rfl, h2, r2⟩ := ry.lst s
    obtain ⟨z, w⟩ := w
    refine .inr (.inr (.inl ⟨a, b, vs, us, rfl, rfl, h1, h2, by rw [← r1.length, ← r2.length]; exact z, fun p hp => ?_⟩))
    obtain ⟨x1, h3, r3⟩ := new_lst s hh hp (r1.append r2)
    exact w _ _ _ x1 h3 r3
  · obtain ⟨z, w⟩ := w
    exact .inr (.inr (.inr ⟨_, _, rx.str, ry.str, z, w _ G H (Ext.refl s) hh (.inl ⟨rfl, .str _⟩)⟩))
  · exact False.elim w
theorem sn_add (ha : SE X E mB a fa) (hb : SE X E mB b fb) : SE X E mN (.BinOp a .Add b pos) (bind2 fa fb addD) := se_op mN_le opr_add opd_add ha hb
theorem opd_sub : OpD X E mN (rI0 fun i j => .int (i - j)) subD := by
  intro hd G H x y v u Q s hh rx ry w
  unfold subD at w
  split at w
  · exact ⟨_, _, rx.int, ry.int, w _ G H (Ext.refl s) hh (.inl ⟨rfl, .int _⟩)⟩
  · exact False.elim w
theorem sn_sub (ha : SE X E mB a fa) (hb : SE X E mB b fb) : SE X E mN (.BinOp a .Sub b pos) (bind2 fa fb subD) := se_op mN_le op_sub opd_sub ha hb

/-- t * 1 -/
def rRep1 (K : PySem.W.Frag) : R2 := fun x y H Q => ∃ l xs, x = .ref l ∧ y = .int 1 ∧ SqT K H l xs ∧ Q (.ref l) H
theorem op_rep1 : OpR X (binaryOp .Mult) (rRep1 X.K) := by
  intro pins s σ H x y v u Q I rx ry h
  obtain ⟨l, xs, rfl, rfl, hT, q⟩ := h
  cases rx
  obtain ⟨t, rfl⟩ := ry
  obtain ⟨its, r, ⟨⟨cls, dd, data, sl⟩, ho, hc, n, hdt⟩, hs⟩ := I.tuple hT
  simp only at hc hdt
  subst hc hdt
  exact wpAny_binaryOp_repeat_ref (T := "tuple") (U := "int") (by decide) ⟨_, ho, rfl⟩ (fun s' => typeIs_int s' 1 t) noFill_tuple_mul F.fills_int_mul F.slot_int_rmul repeat_tuple F.slot_int_index.lookup
    (call_meets F.slot_int_rmul (typeIs_int s 1 t) F.entry_int_rmul (F.args_int_rmul_2 _ _) (int_rmul_tuple 1 t l its.toArray n dd sl)
      ⟨ho, rfl, ⟨_, ho, rfl⟩, call_meets F.slot_tuple_mul ⟨_, ho, rfl⟩ F.entry_tuple_mul (F.args_tuple_mul_2 _ _) (tuple_mul1 l its.toArray n dd sl t) ⟨ho, .ref l, H, I, rfl, q⟩⟩)
def rMulA (K : PySem.W.Frag) : R2 := fun x y H Q => rI CMul (fun i j => .int (i * j)) x y H Q ∨ (rI CMulW (fun i j => .int (i * j)) x y H Q ∨ (rRepT K x y H Q ∨ (rRep1 K x y H Q ∨ rRep x y H Q)))
theorem opr_mul : OpR X (binaryOp .Mult) (rMulA X.K) := op_mul.or (op_mulW.or (op_repT.or (op_rep1.or op_rep)))
theorem opd_mul : OpD X E mN (rMulA X.K) mulD := by
  intro hd G H x y v u Q s hh rx ry w
  unfold mulD at w
  split at w
  · obtain ⟨z | z, w⟩ := w
    · exact .inl ⟨_, _, rx.int, ry.int, z, w _ G H (Ext.refl s) hh (.inl ⟨rfl, .int _⟩)⟩
    · exact .inr (.inl ⟨_, _, rx.int, ry.int, z, w _ G H (Ext.refl s) hh (.inl ⟨rfl, .int _⟩)⟩)
  · rename_i l k
    obtain ⟨a, vs, rfl, h1, r1⟩ := rx.tup
    obtain ⟨⟨z1, z2, z3, z4⟩, w⟩ := w
    have hn : vs ≠ [] := fun e => z1 (by have := r1.length; rw [e] at this; exact List.eq_nil_of_length_eq_zero this)
    by_cases hk : k = 1
    · subst hk
      refine .inr (.inr (.inr (.inl ⟨a, vs, rfl, ry.int, Same.seqT s h1, ?_⟩)))
      have e : (List.replicate (1 : Int).toNat l).flatten = l := by simp
      rw [e] at w
      exact w _ G H (Ext.refl s) hh (.inl ⟨rfl, .tup h1 r1⟩)
    · refine .inr (.inr (.inl ⟨a, k, vs, rfl, ry.int, Same.seqT s h1, hn, by omega, z3, by rw [← r1.length]; exact z4, fun p hp => ?_⟩))
      obtain ⟨x1, h3, r3⟩ := new_tup s hh hp (vals_out r1 k.toNat)
      exact w _ _ _ x1 h3 (.inl ⟨rfl, r3⟩)
  · rename_i l k
    obtain ⟨a, vs, rfl, h1, r1⟩ := rx.lst s
    obtain ⟨⟨z1, z2, z3⟩, w⟩ := w
    refine .inr (.inr (.inr (.inr ⟨a, k, vs, rfl, ry.int, h1, z1, z2, by rw [← r1.length]; exact z3, fun p hp => ?_⟩)))
    obtain ⟨x1, h3, r3⟩ := new_lst s hh hp (vals_out r1 k.toNat)
    exact w _ _ _ x1 h3 r3
  · exact False.elim w
theorem sn_mul (ha : SE X E mB a fa) (hb : SE X E mB b fb) : SE X E mN (.BinOp a .Mult b pos) (bind2 fa fb mulD) := se_op mN_le opr_mul opd_mul ha hb
theorem opd_fdiv : OpD X E mN (rI CDivW fun i j => .int (i / j)) fdivD := by
  intro hd G H x y v u Q s hh rx ry w
  unfold fdivD at w
  split at w
  · exact ⟨_, _, rx.int, ry.int, w.1, w.2 _ G H (Ext.refl s) hh (.inl ⟨rfl, .int _⟩)⟩
  · exact False.elim w
theorem sn_fdiv (ha : SE X E mB a fa) (hb : SE X E mB b fb) : SE X E mN (.BinOp a .FloorDiv b pos) (bind2 fa fb fdivD) := se_op mN_le op_fdivW opd_fdiv ha hb
theorem opd_mod : OpD X E mN (rI (fun _ j => 0 < j) fun i j => .int (i % j)) modD := by
  intro hd G H x y v u Q s hh rx ry w
  unfold modD at w
  split at w
  · exact ⟨_, _, rx.int, ry.int, w.1, w.2 _ G H (Ext.refl s) hh (.inl ⟨rfl, .int _⟩)⟩
  · exact False.elim w
theorem sn_mod (ha : SE X E mB a fa) (hb : SE X E mB b fb) : SE X E mN (.BinOp a .Mod b pos) (bind2 fa fb modD) := se_op mN_le op_mod opd_mod ha hb
theorem opd_pow : OpD X E mN (rI CPow fun i j => .int (i ^ j.toNat)) powD := by
  intro hd G H x y v u Q s hh rx ry w
  unfold powD at w
  split at w
  · exact ⟨_, _, rx.int, ry.int, w.1, w.2 _ G H (Ext.refl s) hh (.inl ⟨rfl, .int _⟩)⟩
  · exact False.elim w
theorem sn_pow (ha : SE X E mB a fa) (hb : SE X E mB b fb) : SE X E mN (.BinOp a .Pow b pos) (bind2 fa fb powD) := se_op mN_le op_pow opd_pow ha hb
theorem und_neg : UnD X E mN (rU fun i => .int (-i)) negD := by
  intro hd G H x v Q s hh rx w
  unfold negD at w
  split at w
  · exact ⟨_, rx.int, w _ G H (Ext.refl s) hh (.inl ⟨rfl, .int _⟩)⟩
  · exact False.elim w
theorem sn_neg (ha : SE X E mB a fa) : SE X E mN (.UnaryOp .USub a pos) (bind1 fa negD) := se_un mN_le un_neg und_neg ha

/-! ### comparisons -/
def intsOf : List D → Option (List Int)
  | [] => some []
  | .int i :: l => (intsOf l).map (i :: ·)
  | _ :: _ => none
theorem intsOf_map (ns : List Int) : intsOf (ns.map D.int) = some ns := by
  induction ns with
  | nil => rfl
  | cons n ns ih => simp [intsOf, ih]
theorem intsOf_reps {K : PySem.W.Frag} {hd : Option Addr} {G : Hp} : ∀ {l : List D} {ns : List Int} {vs : List V}, intsOf l = some ns → Reps K hd G l vs → vs = ns.map V.int
  | [], _, _, e, r => by cases r; cases e; rfl
  | .int i :: l, ns, _, e, r => by
    cases r with
    | cons r1 r2 =>
      cases r1
      cases h : intsOf l with
      | none => simp [intsOf, h] at e
      | some ms =>
        simp [intsOf, h] at e
        subst e
        rw [intsOf_reps h r2]; rfl
  | .non :: _, _, _, e, _ => by cases e
  | .bl _ :: _, _, _, e, _ => by cases e
  | .str _ :: _, _, _, e, _ => by cases e
  | .tup _ :: _, _, _, e, _ => by cases e
  | .lst _ :: _, _, _, e, _ => by cases e
  | .scr _ :: _, _, _, e, _ => by cases e
  | .lstA _ _ :: _, _, _, e, _ => by cases e
  | .dK _ _ :: _, _, _, e, _ => by cases e
  | .dT _ _ :: _, _, _, e, _ => by cases e
  | .ins _ _ _ :: _, _, _, e, _ => by cases e
  | .insA _ _ _ _ :: _, _, _, e, _ => by cases e
  | .hand :: _, _, _, e, _ => by cases e
  | .fn _ :: _, _, _, e, _ => by cases e
/-- a < b of ints, of tuples of ints -/
def ltD : D → D → M D
  | .int i, .int j => .pure (.bl (decide (i < j)))
  | .tup l, .tup m => match intsOf l, intsOf m with
    | some ns, some ms => .pure (.bl (HT.lexLt ns ms))
    | _, _ => .stuck
  | _, _ => .stuck
def leD : D → D → M D
  | .int i, .int j => .pure (.bl (decide (i ≤ j)))
  | _, _ => .stuck
def gtD : D → D → M D
  | .int i, .int j => .pure (.bl (decide (j < i)))
  | _, _ => .stuck
def geD : D → D → M D
  | .int i, .int j => .pure (.bl (decide (j ≤ i)))
  | _, _ => .stuck
def eqD : D → D → M D
  | .str x, .str y => .pure (.bl (decide (x = y)))
  | a, b => .ask (okD 16 a = true ∧ okD 16 b = true) (.pure (.bl (deq a b)))
def neD : D → D → M D
  | .str x, .str y => .pure (.bl (!decide (x = y)))
  | a, b => .ask (okD 16 a = true ∧ okD 16 b = true) (.pure (.bl (!deq a b)))
def inD : D → D → M D
  | x, .lst l => .ask (okD 16 x = true ∧ okD 16 (.lst l) = true) (.pure (.bl (l.any fun z => deq z x)))
  | x, .tup l => .ask (okD 16 x = true ∧ okD 16 (.tup l) = true) (.pure (.bl (l.any fun z => deq z x)))
  | _, _ => .stuck
def notInD : D → D → M D
  | x, .lst l => .ask (okD 16 x = true ∧ okD 16 (.lst l) = true) (.pure (.bl (!l.any fun z => deq z x)))
  | x, .tup l => .ask (okD 16 x = true ∧ okD 16 (.tup l) = true) (.pure (.bl (!l.any fun z => deq z x)))
  | _, _ => .stuck
def isNon : D → Bool
  | .non => true
  | _ => false
def isNonD : D → D → M D
  | x, .non => .pure (.bl (isNon x))
  | .bl a, .bl b => .pure (.bl (a == b))
  | _, _ => .stuck
def notNonD : D → D → M D
  | x, .non => .pure (.bl (!isNon x))
  | .bl a, .bl b => .pure (.bl (!(a == b)))
  | _, _ => .stuck
def rLtA (K : PySem.W.Frag) : R2 := fun x y H Q => rI0 (fun i j => .bl (decide (i < j))) x y H Q ∨ rLtT K x y H Q
theorem opr_lt (hu : X.A.units < cLine) : OpR X (compareOp .Lt) (rLtA X.K) := op_lt.or (op_ltT hu)
theorem opd_lt : OpD X E mN (rLtA X.K) ltD := by
  intro hd G H x y v u Q s hh rx ry w
  unfold ltD at w
  split at w
  · exact .inl ⟨_, _, rx.int, ry.int, w _ G H (Ext.refl s) hh (.inl ⟨rfl, .bl _⟩)⟩
  · split at w
    · rename_i h1 h2
      obtain ⟨a, vs, rfl, q1, r1⟩ := rx.tup
      obtain ⟨b, us, rfl, q2, r2⟩ := ry.tup
      have e1 := intsOf_reps h1 r1
      have e2 := intsOf_reps h2 r2
      subst e1 e2
      exact .inr ⟨_, _, _, _, rfl, rfl, Same.seqT s q1, Same.seqT s q2, w _ G H (Ext.refl s) hh (.inl ⟨rfl, .bl _⟩)⟩
    · exact False.elim w
  · exact False.elim w
theorem opd_le : OpD X E mN (rI0 fun i j => .bl (decide (i ≤ j))) leD := by
  intro hd G H x y v u Q s hh rx ry w
  unfold leD at w
  split at w
  · exact ⟨_, _, rx.int, ry.int, w _ G H (Ext.refl s) hh (.inl ⟨rfl, .bl _⟩)⟩
  · exact False.elim w
theorem opd_gt : OpD X E mN (rI0 fun i j => .bl (decide (j < i))) gtD := by
  intro hd G H x y v u Q s hh rx ry w
  unfold gtD at w
  split at w
  · exact ⟨_, _, rx.int, ry.int, w _ G H (Ext.refl s) hh (.inl ⟨rfl, .bl _⟩)⟩
  · exact False.elim w
theorem opd_ge : OpD X E mN (rI0 fun i j => .bl (decide (j ≤ i))) geD := by
  intro hd G H x y v u Q s hh rx ry w
  unfold geD at w
  split at w
  · exact ⟨_, _, rx.int, ry.int, w _ G H (Ext.refl s) hh (.inl ⟨rfl, .bl _⟩)⟩
  · exact False.elim w
def rEqA (K : PySem.W.Frag) : R2 := fun x y H Q => rEq x y H Q ∨ rEqD K x y H Q
def rNeA (K : PySem.W.Frag) : R2 := fun x y H Q => rNe x y H Q ∨ rNeD K x y H Q
theorem opr_eq (hu : X.A.units + 64 < cLine) : OpR X (compareOp .Eq) (rEqA X.K) := op_eq.or (op_eqD hu)
theorem opr_ne (hu : X.A.units + 64 < cLine) : OpR X (compareOp .NotEq) (rNeA X.K) := op_ne.or (op_neD hu)
theorem dec_str {x y : Str} : decide (V.str x = V.str y) = decide (x = y) := decide_eq_decide.mpr ⟨fun h => V.str.inj h, fun h => by rw [h]⟩
theorem opd_eq : OpD X E mN (rEqA X.K) eqD := by
  intro hd G H x y v u Q s hh rx ry w
  unfold eqD at w
  split at w
  · cases rx.str
    cases ry.str
    refine .inl ⟨rfl, ?_⟩
    rw [dec_str]
    exact w _ G H (Ext.refl s) hh (.inl ⟨rfl, .bl _⟩)
  · obtain ⟨⟨h1, h2⟩, w⟩ := w
    exact .inr ⟨_, _, rx.dp s h1, ry.dp s h2, okD_shaped h1, okD_shaped h2, w _ G H (Ext.refl s) hh (.inl ⟨rfl, .bl _⟩)⟩
theorem opd_ne : OpD X E mN (rNeA X.K) neD := by
  intro hd G H x y v u Q s hh rx ry w
  unfold neD at w
  split at w
  · cases rx.str
    cases ry.str
    refine .inl ⟨rfl, ?_⟩
    rw [dec_str]
    exact w _ G H (Ext.refl s) hh (.inl ⟨rfl, .bl _⟩)
  · obtain ⟨⟨h1, h2⟩, w⟩ := w
    exact .inr ⟨_, _, rx.dp s h1, ry.dp s h2, okD_shaped h1, okD_shaped h2, w _ G H (Ext.refl s) hh (.inl ⟨rfl, .bl _⟩)⟩

/-- x in t, t a tuple of data -/
theorem room_in {A : Around} {d : PyData} {n : Nat} (h : d.depth ≤ 64) (hu : A.units + 65 < cLine) : A.units + 1 + min n d.depth < cLine := by
  have := Nat.min_le_right n d.depth
  omega
def rInT (K : PySem.W.Frag) (neg : Bool) : R2 := fun x y H Q => ∃ d ds, Dp K H x d ∧ Dp K H y (.tuple ds) ∧ SeqAt.shaped d = true ∧ SeqAt.shaped (.tuple ds) = true ∧ Q (.bl (if neg then !ds.any (fun z => PyData.eqv z d) else ds.any fun z => PyData.eqv z d)) H
theorem op_inT (hu : X.A.units + 65 < cLine) : OpR X (compareOp .In) (rInT X.K false) := by
  intro pins s σ H x y v u Q I rx ry h
  obtain ⟨d, ds, hd, he, sd, se, q⟩ := h
  obtain ⟨as, r1⟩ := Dp.reads I d x v hd rx
  obtain ⟨bs, r2⟩ := Dp.reads I (.tuple ds) y u he ry
  exact SeqAt.in_tuple_reads r2 r1 (SeqAt.canLay_of_shaped se) (SeqAt.canLay_of_shaped sd) (room_in (SeqAt.depth_of_shaped sd) hu) ⟨.bl _, H, I, rfl, q⟩
theorem op_notInT (hu : X.A.units + 65 < cLine) : OpR X (compareOp .NotIn) (rInT X.K true) := by
  intro pins s σ H x y v u Q I rx ry h
  obtain ⟨d, ds, hd, he, sd, se, q⟩ := h
  obtain ⟨as, r1⟩ := Dp.reads I d x v hd rx
  obtain ⟨bs, r2⟩ := Dp.reads I (.tuple ds) y u he ry
  exact SeqAt.notIn_tuple_reads r2 r1 (SeqAt.canLay_of_shaped se) (SeqAt.canLay_of_shaped sd) (room_in (SeqAt.depth_of_shaped sd) hu) ⟨.bl _, H, I, rfl, q⟩
theorem any_py (l : List D) (x : D) : (toPys l).any (fun z => PyData.eqv z (toPy x)) = l.any fun z => deq z x := by
  induction l with
  | nil => rfl
  | cons d l ih => simp only [toPys, List.any_cons, ih]; rfl
def rInA (K : PySem.W.Frag) : R2 := fun x y H Q => rInD K x y H Q ∨ rInT K false x y H Q
def rNotInA (K : PySem.W.Frag) : R2 := fun x y H Q => rNotInD K x y H Q ∨ rInT K true x y H Q
theorem opd_in : OpD X E mN (rInA X.K) inD := by
  intro hd G H x y v u Q s hh rx ry w
  unfold inD at w
  split at w
  · obtain ⟨⟨h1, h2⟩, w⟩ := w
    refine .inl ⟨_, _, rx.dp s h1, ry.dp s h2, okD_shaped h1, okD_shaped h2, ?_⟩
    rw [any_py]
    exact w _ G H (Ext.refl s) hh (.inl ⟨rfl, .bl _⟩)
  · obtain ⟨⟨h1, h2⟩, w⟩ := w
    refine .inr ⟨_, _, rx.dp s h1, ry.dp s h2, okD_shaped h1, okD_shaped h2, ?_⟩
    rw [if_neg (by decide), any_py]
    exact w _ G H (Ext.refl s) hh (.inl ⟨rfl, .bl _⟩)
  · exact False.elim w
theorem opd_notIn : OpD X E mN (rNotInA X.K) notInD := by
  intro hd G H x y v u Q s hh rx ry w
  unfold notInD at w
  split at w
  · obtain ⟨⟨h1, h2⟩, w⟩ := w
    refine .inl ⟨_, _, rx.dp s h1, ry.dp s h2, okD_shaped h1, okD_shaped h2, ?_⟩
    rw [any_py]
    exact w _ G H (Ext.refl s) hh (.inl ⟨rfl, .bl _⟩)
  · obtain ⟨⟨h1, h2⟩, w⟩ := w
    refine .inr ⟨_, _, rx.dp s h1, ry.dp s h2, okD_shaped h1, okD_shaped h2, ?_⟩
    rw [if_pos rfl, any_py]
    exact w _ G H (Ext.refl s) hh (.inl ⟨rfl, .bl _⟩)
  · exact False.elim w
/-- what is None -/
theorem RepB.non_iff {K : PySem.W.Frag} {hd : Option Addr} {G H : Hp} {x : D} {v : V} (h : RepB K hd G H x v) : decide (v = .non) = isNon x := by
  rcases h with h | ⟨p, rfl, _, _, o⟩
  · cases h <;> rfl
  · cases x <;> first | rfl | exact False.elim o
def rIsA (K : PySem.W.Frag) : R2 := fun x y H Q => (y = .non ∧ Q (.bl (decide (x = .non))) H) ∨ ∃ a b, x = .bl a ∧ y = .bl b ∧ Q (.bl (decide (a = b))) H
def rNotA (K : PySem.W.Frag) : R2 := fun x y H Q => (y = .non ∧ Q (.bl (!decide (x = .non))) H) ∨ ∃ a b, x = .bl a ∧ y = .bl b ∧ Q (.bl (!decide (a = b))) H
theorem opd_is : OpD X E mN (rIsA X.K) isNonD := by
  intro hd G H x y v u Q s hh rx ry w
  unfold isNonD at w
  split at w
  · refine .inl ⟨ry.non, ?_⟩
    rw [rx.non_iff]
    exact w _ G H (Ext.refl s) hh (.inl ⟨rfl, .bl _⟩)
  · rename_i a b
    refine .inr ⟨_, _, rx.bl, ry.bl, ?_⟩
    rw [show decide (a = b) = (a == b) by cases a <;> cases b <;> rfl]
    exact w _ G H (Ext.refl s) hh (.inl ⟨rfl, .bl _⟩)
  · exact False.elim w
theorem opd_isnot : OpD X E mN (rNotA X.K) notNonD := by
  intro hd G H x y v u Q s hh rx ry w
  unfold notNonD at w
  split at w
  · refine .inl ⟨ry.non, ?_⟩
    rw [rx.non_iff]
    exact w _ G H (Ext.refl s) hh (.inl ⟨rfl, .bl _⟩)
  · rename_i a b
    refine .inr ⟨_, _, rx.bl, ry.bl, ?_⟩
    rw [show decide (a = b) = (a == b) by cases a <;> cases b <;> rfl]
    exact w _ G H (Ext.refl s) hh (.inl ⟨rfl, .bl _⟩)
  · exact False.elim w
/-- one comparison as a value; as a test by st_val -/
theorem sn_lt (hr : Room 0 X.A) (ha : SE X E mB a fa) (hb : SE X E mB b fb) : SE X E mN (.Compare a [.Lt] [b] pos) (bind2 fa fb ltD) := se_cmpR mN_le (opr_lt hr.units0) opd_lt ha hb (nomark _)
theorem sn_le (ha : SE X E mB a fa) (hb : SE X E mB b fb) : SE X E mN (.Compare a [.LtE] [b] pos) (bind2 fa fb leD) := se_cmpR mN_le op_le opd_le ha hb (nomark _)
theorem sn_gt (ha : SE X E mB a fa) (hb : SE X E mB b fb) : SE X E mN (.Compare a [.Gt] [b] pos) (bind2 fa fb gtD) := se_cmpR mN_le op_gt opd_gt ha hb (nomark _)
theorem sn_ge (ha : SE X E mB a fa) (hb : SE X E mB b fb) : SE X E mN (.Compare a [.GtE] [b] pos) (bind2 fa fb geD) := se_cmpR mN_le op_ge opd_ge ha hb (nomark _)
theorem sn_eq (hr : Room 0 X.A) (ha : SE X E mB a fa) (hb : SE X E mB b fb) : SE X E mN (.Compare a [.Eq] [b] pos) (bind2 fa fb eqD) := se_cmpR mN_le (opr_eq hr.units) opd_eq ha hb (nomark _)
theorem sn_ne (hr : Room 0 X.A) (ha : SE X E mB a fa) (hb : SE X E mB b fb) : SE X E mN (.Compare a [.NotEq] [b] pos) (bind2 fa fb neD) := se_cmpR mN_le (opr_ne hr.units) opd_ne ha hb (nomark _)
theorem room65 (hr : Room 0 X.A) : X.A.units + 65 < cLine := by have := hr.un; omega
theorem sn_in (hr : Room 0 X.A) (ha : SE X E mB a fa) (hb : SE X E mB b fb) (hm : behindInMarks .In b = false := by rfl) : SE X E mN (.Compare a [.In] [b] pos) (bind2 fa fb inD) := se_cmpR mN_le ((op_inD (room65 hr)).or (op_inT (room65 hr))) opd_in ha hb hm
theorem sn_notIn (hr : Room 0 X.A) (ha : SE X E mB a fa) (hb : SE X E mB b fb) (hm : behindInMarks .NotIn b = false := by rfl) : SE X E mN (.Compare a [.NotIn] [b] pos) (bind2 fa fb notInD) := se_cmpR mN_le ((op_notInD (room65 hr)).or (op_notInT (room65 hr))) opd_notIn ha hb hm
theorem sn_is (ha : SE X E mB a fa) (hb : SE X E mB b fb) : SE X E mN (.Compare a [.Is] [b] pos) (bind2 fa fb isNonD) := se_cmpR mN_le (op_isN.or op_is_bl) opd_is ha hb (nomark _)
theorem sn_isnot (ha : SE X E mB a fa) (hb : SE X E mB b fb) : SE X E mN (.Compare a [.IsNot] [b] pos) (bind2 fa fb notNonD) := se_cmpR mN_le (op_notN.or op_isnot_bl) opd_isnot ha hb (nomark _)

/-! ### a < b < c -/
def boolD : D → M Bool
  | .bl b => .pure b
  | _ => .stuck
def chain (fa fb fc : Env → M D) (op op' : D → D → M D) : Env → M D := fun env => (fa env).bind fun x => (fb env).bind fun y => (op x y).bind fun z => (boolD z).bind fun k => .ite k ((fc env).bind fun w => op' y w) (.pure (.bl false))
theorem sn_chain {o o' : CmpOp} {r r' : R2} {op op' : D → D → M D} (h1 : OpR X (compareOp o) r) (h2 : OpR X (compareOp o') r') (d1 : OpD X E mN r op) (d2 : OpD X E mN r' op') (ha : SE X E mB a fa) (hb : SE X E mB b fb) (hc : SE X E mB c fc)
    (hm : lastMarks [o, o'] [b, c] = false := by with_unfolding_all rfl) : SE X E mN (.Compare a [o, o'] [b, c] pos) (chain fa fb fc op op') := (pe_chain h1 h2 ha hb hc hm).imp fun σ H Q ⟨hd, G, env, S, w⟩ => by
  refine ⟨hd, G, env, S, (fa env).mono (fun x q v G1 H1 x1 k1 r1 => ?_) (fun _ q => q) w⟩
  refine ⟨hd, G1, env, S.ext x1 k1, (fb env).mono (fun y q u G2 H2 x2 k2 r2 => ?_) (fun _ q => q.ext x1 k1) q⟩
  have x12 := x1.trans x2 k1
  refine d1 hd G2 H2 x y v u _ x2.s k2 (r1.ext x2) r2 ((op x y).mono (fun d q w G3 H3 x3 k3 r3 => ?_) (fun _ q => q.ext x12 k2) q)
  have x13 := x12.trans x3 k2
  cases d with
  | bl k =>
    have e : w = .bl k := by
      rcases r3 with ⟨_, r⟩ | ⟨io, _⟩
      · cases r; rfl
      · cases io
    subst e
    refine ⟨k, rfl, ?_⟩
    cases k with
    | true =>
      rw [if_pos rfl]
      refine ⟨hd, G3, env, S.ext x13 k3, (fc env).mono (fun z q w' G4 H4 x4 k4 r4 => ?_) (fun _ q => q.ext x13 k3) q⟩
      have x14 := x13.trans x4 k3
      exact d2 hd G4 H4 y z u w' Q x4.s k4 ((r2.ext x3).ext x4) r4 ((op' y z).mono (fun d q w G' H' x' h' r' => q w G' H' (x14.trans x' k4) h' (mN_le _ _ _ _ _ _ _ _ _ _ x14 k4 r')) (fun _ q => q.ext x14 k4) q)
    | false =>
      rw [if_neg (by decide)]
      exact q _ G3 H3 x13 k3 (.inl ⟨rfl, .bl _⟩)
  | _ => exact False.elim q

/-! ### tests -/
theorem st_val (h : SE X E mB e f) (he : ∀ whole, isTrue e X.env whole = (do let v ← whole; standAt e.pos; holding [v] (truthy v)) := by intro _; rfl) : ST X E e (fun env => (f env).bind boolD) := (pt_val h he).imp fun σ H Q ⟨hd, G, env, S, w⟩ =>
  ⟨hd, G, env, S, (f env).mono (fun d q v G' H' x hh r => by
    cases d with
    | bl k => exact ⟨k, r.bl, q G' H' x hh⟩
    | _ => exact False.elim q) (fun _ q => q) w⟩
theorem isTrue_cmp {o : CmpOp} (hm : behindInMarks o b = false) : True := True.intro
/-- one comparison as a test -/
theorem st_cmp {o : CmpOp} {r : R2} {op : D → D → M D} (hr : OpR X (compareOp o) r) (ho : OpD X E mN r op) (ha : SE X E mB a fa) (hb : SE X E mB b fb) (hm : behindInMarks o b = false) : ST X E (.Compare a [o] [b] pos) (fun env => (bind2 fa fb op env).bind boolD) :=
  (pt_cmpR hr ha hb hm).imp fun σ H Q ⟨hd, G, env, S, w⟩ => by
    refine two (Q := fun x H' => ∃ k, x = .bl k ∧ Q k H') mN_le ho ⟨hd, G, env, S, (bind2 fa fb op env).mono (fun d q v G' H' x hh r => ?_) (fun _ q => q) w⟩
    cases d with
    | bl k =>
      rcases r with ⟨_, r⟩ | ⟨io, _⟩
      · cases r; exact ⟨k, rfl, q G' H' x hh⟩
      · cases io
    | _ => exact False.elim q
theorem st_lt (hr : Room 0 X.A) (ha : SE X E mB a fa) (hb : SE X E mB b fb) : ST X E (.Compare a [.Lt] [b] pos) (fun env => (bind2 fa fb ltD env).bind boolD) := st_cmp (opr_lt hr.units0) opd_lt ha hb (nomark _)
theorem st_le (ha : SE X E mB a fa) (hb : SE X E mB b fb) : ST X E (.Compare a [.LtE] [b] pos) (fun env => (bind2 fa fb leD env).bind boolD) := st_cmp op_le opd_le ha hb (nomark _)
theorem st_gt (ha : SE X E mB a fa) (hb : SE X E mB b fb) : ST X E (.Compare a [.Gt] [b] pos) (fun env => (bind2 fa fb gtD env).bind boolD) := st_cmp op_gt opd_gt ha hb (nomark _)
theorem st_ge (ha : SE X E mB a fa) (hb : SE X E mB b fb) : ST X E (.Compare a [.GtE] [b] pos) (fun env => (bind2 fa fb geD env).bind boolD) := st_cmp op_ge opd_ge ha hb (nomark _)
theorem st_eq (hr : Room 0 X.A) (ha : SE X E mB a fa) (hb : SE X E mB b fb) : ST X E (.Compare a [.Eq] [b] pos) (fun env => (bind2 fa fb eqD env).bind boolD) := st_cmp (opr_eq hr.units) opd_eq ha hb (nomark _)
theorem st_ne (hr : Room 0 X.A) (ha : SE X E mB a fa) (hb : SE X E mB b fb) : ST X E (.Compare a [.NotEq] [b] pos) (fun env => (bind2 fa fb neD env).bind boolD) := st_cmp (opr_ne hr.units) opd_ne ha hb (nomark _)
theorem st_in (hr : Room 0 X.A) (ha : SE X E mB a fa) (hb : SE X E mB b fb) (hm : behindInMarks .In b = false := by rfl) : ST X E (.Compare a [.In] [b] pos) (fun env => (bind2 fa fb inD env).bind boolD) := st_cmp ((op_inD (room65 hr)).or (op_inT (room65 hr))) opd_in ha hb hm
theorem st_notIn (hr : Room 0 X.A) (ha : SE X E mB a fa) (hb : SE X E mB b fb) (hm : behindInMarks .NotIn b = false := by rfl) : ST X E (.Compare a [.NotIn] [b] pos) (fun env => (bind2 fa fb notInD env).bind boolD) := st_cmp ((op_notInD (room65 hr)).or (op_notInT (room65 hr))) opd_notIn ha hb hm
theorem st_is (ha : SE X E mB a fa) (hb : SE X E mB b fb) : ST X E (.Compare a [.Is] [b] pos) (fun env => (bind2 fa fb isNonD env).bind boolD) := st_cmp (op_isN.or op_is_bl) opd_is ha hb (nomark _)
theorem st_isnot (ha : SE X E mB a fa) (hb : SE X E mB b fb) : ST X E (.Compare a [.IsNot] [b] pos) (fun env => (bind2 fa fb notNonD env).bind boolD) := st_cmp (op_notN.or op_isnot_bl) opd_isnot ha hb (nomark _)
theorem st_chain {o o' : CmpOp} {r r' : R2} {op op' : D → D → M D} (h1 : OpR X (compareOp o) r) (h2 : OpR X (compareOp o') r') (d1 : OpD X E mN r op) (d2 : OpD X E mN r' op') (ha : SE X E mB a fa) (hb : SE X E mB b fb) (hc : SE X E mB c fc)
    (hm : lastMarks [o, o'] [b, c] = false := by with_unfolding_all rfl) : ST X E (.Compare a [o, o'] [b, c] pos) (fun env => (chain fa fb fc op op' env).bind boolD) := (pt_chain h1 h2 ha hb hc hm).imp fun σ H Q ⟨hd, G, env, S, w⟩ => by
  refine ⟨hd, G, env, S, (fa env).mono (fun x q v G1 H1 x1 k1 r1 => ?_) (fun _ q => q) w⟩
  refine ⟨hd, G1, env, S.ext x1 k1, (fb env).mono (fun y q u G2 H2 x2 k2 r2 => ?_) (fun _ q => q.ext x1 k1) q⟩
  have x12 := x1.trans x2 k1
  refine d1 hd G2 H2 x y v u _ x2.s k2 (r1.ext x2) r2 ((op x y).mono (fun d q w G3 H3 x3 k3 r3 => ?_) (fun _ q => q.ext x12 k2) q)
  have x13 := x12.trans x3 k2
  cases d with
  | bl k =>
    have e : w = .bl k := by
      rcases r3 with ⟨_, r⟩ | ⟨io, _⟩
      · cases r; rfl
      · cases io
    subst e
    refine ⟨k, rfl, ?_⟩
    cases k with
    | true =>
      rw [if_pos rfl]
      refine ⟨hd, G3, env, S.ext x13 k3, (fc env).mono (fun z q w' G4 H4 x4 k4 r4 => ?_) (fun _ q => q.ext x13 k3) q⟩
      have x14 := x13.trans x4 k3
      refine d2 hd G4 H4 y z u w' _ x4.s k4 ((r2.ext x3).ext x4) r4 ((op' y z).mono (fun d q w G' H' x' h' r' => ?_) (fun _ q => q.ext x14 k4) q)
      cases d with
      | bl k =>
        rcases r' with ⟨_, r⟩ | ⟨io, _⟩
        · cases r; exact ⟨k, rfl, q G' H' (x14.trans x' k4) h'⟩
        · cases io
      | _ => exact False.elim q
    | false =>
      rw [if_neg (by decide)]
      exact ⟨false, rfl, q G3 H3 x13 k3⟩
  | _ => exact False.elim q
/-- and, or, not as tests -/
def tAndD (ga gb : Env → M Bool) : Env → M Bool := fun env => (ga env).bind fun c => .ite c (gb env) (.pure false)
def tOrD (ga gb : Env → M Bool) : Env → M Bool := fun env => (ga env).bind fun c => .ite c (.pure true) (gb env)
def tNotD (ga : Env → M Bool) : Env → M Bool := fun env => (ga env).bind fun c => .pure (!c)
variable {rest : List Expr}
theorem sw_and1 (ha : ST X E a ga) : SW X E (.BoolOp .And [a] pos) ga := pw_and1 ha
theorem sw_or1 (ha : ST X E a ga) : SW X E (.BoolOp .Or [a] pos) ga := pw_or1 ha
theorem sw_and (ha : ST X E a ga) (hb : SW X E (.BoolOp .And (b :: rest) pos) gb) : SW X E (.BoolOp .And (a :: b :: rest) pos) (tAndD ga gb) := (pw_and ha hb).imp fun σ H Q ⟨hd, G, env, S, w⟩ =>
  ⟨hd, G, env, S, (ga env).mono (fun c q G1 H1 x1 h1 => by
    cases c with
    | true =>
      rw [if_pos rfl]
      exact ⟨hd, G1, env, S.ext x1 h1, (gb env).mono (fun b q G' H' x h => q G' H' (x1.trans x h1) h) (fun _ q => q.ext x1 h1) q⟩
    | false =>
      rw [if_neg (by decide)]
      exact q G1 H1 x1 h1) (fun _ q => q) w⟩
theorem sw_or (ha : ST X E a ga) (hb : SW X E (.BoolOp .Or (b :: rest) pos) gb) : SW X E (.BoolOp .Or (a :: b :: rest) pos) (tOrD ga gb) := (pw_or ha hb).imp fun σ H Q ⟨hd, G, env, S, w⟩ =>
  ⟨hd, G, env, S, (ga env).mono (fun c q G1 H1 x1 h1 => by
    cases c with
    | false =>
      rw [if_neg (by decide)]
      exact ⟨hd, G1, env, S.ext x1 h1, (gb env).mono (fun b q G' H' x h => q G' H' (x1.trans x h1) h) (fun _ q => q.ext x1 h1) q⟩
    | true =>
      rw [if_pos rfl]
      exact q G1 H1 x1 h1) (fun _ q => q) w⟩
theorem st_not (ha : ST X E a ga) : ST X E (.UnaryOp .Not a pos) (tNotD ga) := (pt_not ha).imp fun σ H Q ⟨hd, G, env, S, w⟩ =>
  ⟨hd, G, env, S, (ga env).mono (fun c q G1 H1 x1 h1 => q G1 H1 x1 h1) (fun _ q => q) w⟩
/-- .. as values (all but the last are flags) -/
def vAnd (fa fb : Env → M D) : Env → M D := fun env => (fa env).bind fun x => (boolD x).bind fun c => .ite c (fb env) (.pure (.bl false))
def vOr (fa fb : Env → M D) : Env → M D := fun env => (fa env).bind fun x => (boolD x).bind fun c => .ite c (.pure (.bl true)) (fb env)
def vNot (fa : Env → M D) : Env → M D := fun env => (fa env).bind fun x => (boolD x).bind fun c => .pure (.bl (!c))
theorem sv_one {o} {R : Mode} (ha : SE X E R a fa) : SE X E R (.BoolOp o [a] pos) fa := pe_one ha
theorem sv_and (ha : SE X E mB a fa) (hb : SE X E mN (.BoolOp .And (b :: rest) pos) fb) : SE X E mN (.BoolOp .And (a :: b :: rest) pos) (vAnd fa fb) := (pe_and ha hb).imp fun σ H Q ⟨hd, G, env, S, w⟩ =>
  ⟨hd, G, env, S, (fa env).mono (fun d q v G1 H1 x1 h1 r1 => by
    cases d with
    | bl c =>
      refine ⟨c, r1.bl, ?_⟩
      cases c with
      | true =>
        rw [if_pos rfl]
        exact ⟨hd, G1, env, S.ext x1 h1, (fb env).mono (fun b q v G' H' x h r => q v G' H' (x1.trans x h1) h (mN_le _ _ _ _ _ _ _ _ _ _ x1 h1 r)) (fun _ q => q.ext x1 h1) q⟩
      | false =>
        rw [if_neg (by decide)]
        exact q _ G1 H1 x1 h1 (.inl ⟨rfl, .bl _⟩)
    | _ => exact False.elim q) (fun _ q => q) w⟩
theorem sv_or (ha : SE X E mB a fa) (hb : SE X E mN (.BoolOp .Or (b :: rest) pos) fb) : SE X E mN (.BoolOp .Or (a :: b :: rest) pos) (vOr fa fb) := (pe_or ha hb).imp fun σ H Q ⟨hd, G, env, S, w⟩ =>
  ⟨hd, G, env, S, (fa env).mono (fun d q v G1 H1 x1 h1 r1 => by
    cases d with
    | bl c =>
      refine ⟨c, r1.bl, ?_⟩
      cases c with
      | false =>
        rw [if_neg (by decide)]
        exact ⟨hd, G1, env, S.ext x1 h1, (fb env).mono (fun b q v G' H' x h r => q v G' H' (x1.trans x h1) h (mN_le _ _ _ _ _ _ _ _ _ _ x1 h1 r)) (fun _ q => q.ext x1 h1) q⟩
      | true =>
        rw [if_pos rfl]
        exact q _ G1 H1 x1 h1 (.inl ⟨rfl, .bl _⟩)
    | _ => exact False.elim q) (fun _ q => q) w⟩
theorem sv_not (ha : SE X E mB a fa) : SE X E mN (.UnaryOp .Not a pos) (vNot fa) := (pe_not ha).imp fun σ H Q ⟨hd, G, env, S, w⟩ =>
  ⟨hd, G, env, S, (fa env).mono (fun d q v G1 H1 x1 h1 r1 => by
    cases d with
    | bl c => exact ⟨c, r1.bl, q _ G1 H1 x1 h1 (.inl ⟨rfl, .bl _⟩)⟩
    | _ => exact False.elim q) (fun _ q => q) w⟩
/-- a if t else b -/
def vIf (g : Env → M Bool) (fa fb : Env → M D) : Env → M D := fun env => (g env).bind fun c => .ite c (fa env) (fb env)
theorem sv_if {R : Mode} (hR : MLe R) (hc : ST X E c g) (ha : SE X E R a fa) (hb : SE X E R b fb) : SE X E R (.IfExp c a b pos) (vIf g fa fb) := (pe_ifExp hc ha hb).imp fun σ H Q ⟨hd, G, env, S, w⟩ =>
  ⟨hd, G, env, S, (g env).mono (fun c q G1 H1 x1 h1 => by
    cases c with
    | true =>
      rw [if_pos rfl]
      exact ⟨hd, G1, env, S.ext x1 h1, (fa env).mono (fun d q v G' H' x h r => q v G' H' (x1.trans x h1) h (hR _ _ _ _ _ _ _ _ _ _ x1 h1 r)) (fun _ q => q.ext x1 h1) q⟩
    | false =>
      rw [if_neg (by decide)]
      exact ⟨hd, G1, env, S.ext x1 h1, (fb env).mono (fun d q v G' H' x h r => q v G' H' (x1.trans x h1) h (hR _ _ _ _ _ _ _ _ _ _ x1 h1 r)) (fun _ q => q.ext x1 h1) q⟩) (fun _ q => q) w⟩
end
end Zf

/-! Zf: subscripts, slices, fields, calls -/
namespace Zf
open PySem L2
section
variable {X : Cx} {E : XK} {e a b c : Expr} {f fa fb fc : Env → M D} {g ga gb : Env → M Bool} {es : List Expr} {pos p2 : Pos}

/-! ### x[i] -/
theorem Reps.atI {K : PySem.W.Frag} {hd : Option Addr} {G : Hp} {l : List D} {vs : List V} {i : Int} {d : D} (r : Reps K hd G l vs) (h : L2.atI l i = some d) : ∃ v, L2.atI vs i = some v ∧ Rep K hd G d v := by
  unfold L2.atI at h ⊢
  rw [← r.length]
  cases e : ixN l.length i with
  | none => rw [e] at h; cases h
  | some j =>
    rw [e] at h
    exact r.get h
def ixD : D → D → M D
  | .lst l, .int i => .of (atI l i)
  | .tup l, .int i => .of (atI l i)
  | .scr l, .int i => .of (atI l i)
  | .lstA _ l, .int i => .of (atI l i)
  | .str x, .int i => .ask (x.length ≤ sizeLine) (.of ((atI x.cps.toList i).map fun c => .str ⟨#[c]⟩))
  | _, _ => .stuck
theorem of_wp {α : Type} {o : Option α} {Q : α → Prop} {E : Err → Prop} (h : (M.of o).wp Q E) : ∃ a, o = some a ∧ Q a := by
  cases o with
  | none => exact False.elim h
  | some a => exact ⟨a, rfl, h⟩
theorem opd_ix : OpD X E mE (rIx X.K) ixD := by
  intro hd G H x y v u Q s hh rx ry w
  unfold ixD at w
  split at w
  · obtain ⟨d, e, w⟩ := of_wp w
    obtain ⟨a, vs, rfl, h1, r1⟩ := rx.lst s
    obtain ⟨z, h2, r2⟩ := r1.atI e
    exact .inl ⟨a, vs, _, z, rfl, ry.int, SqL.of h1, h2, w z G H (Ext.refl s) hh r2⟩
  · obtain ⟨d, e, w⟩ := of_wp w
    obtain ⟨a, vs, rfl, h1, r1⟩ := rx.tup
    obtain ⟨z, h2, r2⟩ := r1.atI e
    exact .inr (.inl ⟨a, vs, _, z, rfl, ry.int, Same.seqT s h1, h2, w z G H (Ext.refl s) hh r2⟩)
  · obtain ⟨d, e, w⟩ := of_wp w
    rcases rx with rx | ⟨_, _, _, _, o⟩
    · cases rx with
      | @scr a _ vs h1 r1 =>
        obtain ⟨z, h2, r2⟩ := r1.atI e
        exact .inl ⟨a, vs, _, z, rfl, ry.int, s.seq h1, h2, w z G H (Ext.refl s) hh r2⟩
    · exact False.elim o
  · rename_i q0 l i
    obtain ⟨d, e, w⟩ := of_wp w
    have key : ∃ a vs, v = .ref a ∧ H a = some (.lst vs) ∧ Reps X.K hd G l vs := by
      rcases rx with rx | ⟨p, e1, _, _, e2, vs, h, r⟩
      · cases rx with
        | lstA h r => exact ⟨_, _, rfl, s _ _ h, r⟩
      · exact ⟨p, vs, e1, h, r⟩
    obtain ⟨a, vs, rfl, h1, r1⟩ := key
    obtain ⟨z, h2, r2⟩ := r1.atI e
    exact .inl ⟨a, vs, _, z, rfl, ry.int, SqL.of h1, h2, w z G H (Ext.refl s) hh r2⟩
  · rename_i x i
    obtain ⟨z, w⟩ := w
    obtain ⟨d, e, w⟩ := of_wp w
    cases h : L2.atI x.cps.toList i with
    | none => rw [h] at e; cases e
    | some c =>
      rw [h] at e
      cases e
      exact .inr (.inr ⟨x, i, c, rx.str, ry.int, z, h, w _ G H (Ext.refl s) hh (.str _)⟩)
  · exact False.elim w
theorem se_ix (ha : SE X E mB a fa) (hb : SE X E mB b fb) (hs : PlainIx b := by intro _ _; rfl) : SE X E mE (.Subscript a b pos) (bind2 fa fb ixD) := (pe_ix ix_seq ha hb hs).imp fun _ _ _ h => two mE_le opd_ix h

/-! ### x[i:j] -/
def tOpt (K : PySem.W.Frag) (E : XK) (f : Env → M (Option Int)) : TO := fun σ H Q => ∃ hd G env, Sta K hd G H env σ ∧
  (f env).wp (fun o => ∀ G' H', Ext hd G H G' H' → HandOk K hd G' H' → Q o H') (EOk K E hd G H)
abbrev SO (X : Cx) (E : XK) (e : Option Expr) (f : Env → M (Option Int)) : Prop := PO X e (tOpt X.K E f)
theorem _root_.L2.PO.imp {X : Cx} {e : Option Expr} {t t' : TO} (h : PO X e t) (w : ∀ σ H Q, t' σ H Q → t σ H Q) : PO X e t' := ⟨fun pins s σ H Q I q => h.run pins s σ H Q I (w σ H Q q)⟩
def oNone : Env → M (Option Int) := fun _ => .pure none
def intD : D → M Int
  | .int i => .pure i
  | _ => .stuck
def oSome (f : Env → M D) : Env → M (Option Int) := fun env => (f env).bind fun d => (intD d).bind fun i => .pure (some i)
theorem so_none : SO X E none oNone := po_none.imp fun σ H Q ⟨hd, G, env, S, w⟩ => w G H (Ext.refl S.sub) S.hand
theorem so_some (h : SE X E mB e f) : SO X E (some e) (oSome f) := (po_some h).imp fun σ H Q ⟨hd, G, env, S, w⟩ => ⟨hd, G, env, S, (f env).mono (fun d q v G' H' x hh r => by
  cases d with
  | int i => exact ⟨i, r.int, q G' H' x hh⟩
  | _ => exact False.elim q) (fun _ q => q) w⟩
/-- a cut, as of any list -/
def cutD {α : Type} (xs : List α) (lo hi : Option Int) : List α := (xs.drop (HT.sIx xs.length 0 lo)).take (HT.sIx xs.length xs.length hi - HT.sIx xs.length 0 lo)
def slD (d : D) (lo hi : Option Int) : M D := match d with
  | .lst l => .pure (.lst (cutD l lo hi))
  | .scr l => .pure (.lst (cutD l lo hi))
  | .tup l => .pure (.tup (cutD l lo hi))
  | _ => .stuck
def vSl (f : Env → M D) (fl fh : Env → M (Option Int)) : Env → M D := fun env => (f env).bind fun d => (fl env).bind fun lo => (fh env).bind fun hi => slD d lo hi
theorem Reps.cut {K : PySem.W.Frag} {hd : Option Addr} {G : Hp} {l : List D} {vs : List V} (lo hi : Option Int) (r : Reps K hd G l vs) : Reps K hd G (cutD l lo hi) (cutV vs lo hi) := by
  unfold cutD cutV
  rw [← r.length]
  exact (r.drop _).take _
theorem RepB.scr {K : PySem.W.Frag} {hd : Option Addr} {G H : Hp} {v : V} {l : List D} (h : RepB K hd G H (.scr l) v) : ∃ a vs, v = .ref a ∧ SqL K G a vs ∧ Reps K hd G l vs := by
  rcases h with h | ⟨_, _, _, _, o⟩
  · cases h with
    | scr h r => exact ⟨_, _, rfl, h, r⟩
  · exact False.elim o
theorem cut_whole {α : Type} (l : List α) (lo hi : Option Int) (h1 : HT.sIx l.length 0 lo = 0) (h2 : HT.sIx l.length l.length hi = l.length) : cutD l lo hi = l := by
  unfold cutD
  rw [h1, h2, List.drop_zero, Nat.sub_zero, List.take_length]
theorem sn_slice {lo hi : Option Expr} {fl fh : Env → M (Option Int)} (he : SE X E mB e f) (hl : SO X E lo fl) (hh : SO X E hi fh) : SE X E mN (.Subscript e (.Slice lo hi none p2) pos) (vSl f fl fh) :=
  (pe_slice (sl_list.or sl_tupA) he hl hh).imp fun σ H Q ⟨hd, G, env, S, w⟩ => by
    refine ⟨hd, G, env, S, (f env).mono (fun d q v G1 H1 x1 k1 r1 => ?_) (fun _ q => q) w⟩
    refine ⟨hd, G1, env, S.ext x1 k1, (fl env).mono (fun l q G2 H2 x2 k2 => ?_) (fun _ q => q.ext x1 k1) q⟩
    have x12 := x1.trans x2 k1
    refine ⟨hd, G2, env, S.ext x12 k2, (fh env).mono (fun h q G3 H3 x3 k3 => ?_) (fun _ q => q.ext x12 k2) q⟩
    have x13 := x12.trans x3 k2
    have r3 := (r1.ext x2).ext x3
    unfold slD at q
    split at q
    · obtain ⟨a, vs, rfl, h1, r⟩ := r3.lst x3.s
      refine .inl ⟨a, vs, rfl, SqL.of h1, fun p hp => ?_⟩
      obtain ⟨x4, k4, r4⟩ := new_lst x3.s k3 hp (r.cut l h)
      exact q _ _ _ (x13.trans x4 k3) k4 (mN_le _ _ _ _ _ _ _ _ _ _ x13 k3 r4)
    · obtain ⟨a, vs, rfl, h1, r⟩ := r3.scr
      refine .inl ⟨a, vs, rfl, x3.s.seq h1, fun p hp => ?_⟩
      obtain ⟨x4, k4, r4⟩ := new_lst x3.s k3 hp (r.cut l h)
      exact q _ _ _ (x13.trans x4 k3) k4 (mN_le _ _ _ _ _ _ _ _ _ _ x13 k3 r4)
    · obtain ⟨a, vs, rfl, h1, r⟩ := r3.tup
      refine .inr ⟨a, vs, rfl, Same.seqT x3.s h1, fun ⟨z1, z2⟩ => ?_, fun _ p hp => ?_⟩
      · rw [← r.length] at z1 z2
        have q : (M.pure (D.tup (cutD _ l h))).wp _ _ := q
        rw [cut_whole _ _ _ z1 z2] at q
        exact q _ G3 H3 x13 k3 (.inl ⟨rfl, .tup h1 r⟩)
      · obtain ⟨x4, k4, r4⟩ := new_tup x3.s k3 hp (r.cut l h)
        exact q _ _ _ (x13.trans x4 k3) k4 (.inl ⟨rfl, r4⟩)
    · exact False.elim q
/-- l[::-1] of a list -/
def revD : D → M D
  | .lst l => .pure (.lst l.reverse)
  | _ => .stuck
theorem sn_revL {k : Nat} {p1 p3 : Pos} (he : SE X E mB e f) : SE X E mN (.Subscript e (.Slice none none (some (.UnaryOp .USub (.Constant (.int 1) k p1) p2)) p3) pos) (bind1 f revD) :=
  (pe_revL he).imp fun σ H Q h => one (r := fun v H1 Q => ∃ a xs, v = .ref a ∧ SqL X.K H1 a xs ∧ ∀ p, H1 p = none → Q (.ref p) (upd H1 p (.lst xs.reverse))) mN_le (by
    intro hd G H x v Q s hh rx w
    unfold revD at w
    split at w
    · obtain ⟨a, vs, rfl, h1, r⟩ := rx.lst s
      refine ⟨a, vs, rfl, SqL.of h1, fun p hp => ?_⟩
      obtain ⟨x4, k4, r4⟩ := new_lst s hh hp r.reverse
      exact w _ _ _ x4 k4 r4
    · exact False.elim w) h

/-! ### o.f -/
def fldOf (n : Str) : List Str → List D → Option D
  | m :: ms, d :: ds => if n = m then some d else fldOf n ms ds
  | _, _ => none
def fldD (n : Str) : D → M D
  | .ins _ ns l => .of (fldOf n ns l)
  | _ => .stuck
theorem fld_reps {K : PySem.W.Frag} {hd : Option Addr} {G : Hp} {n : Str} : ∀ {ns : List Str} {l : List D} {vs : List V} {d : D}, fldOf n ns l = some d → Reps K hd G l vs → ∃ v, (ns.zip vs).lookup n = some v ∧ Rep K hd G d v
  | [], _, _, _, e, _ => by simp [fldOf] at e
  | _ :: _, [], _, _, e, _ => by simp [fldOf] at e
  | m :: ms, x :: xs, _, d, e, .cons r t => by
    unfold fldOf at e
    rw [List.zip_cons_cons, List.lookup_cons]
    by_cases h : n = m
    · rw [if_pos h] at e
      cases e
      have : (n == m) = true := by simpa using h
      rw [this]
      exact ⟨_, rfl, r⟩
    · rw [if_neg h] at e
      have : (n == m) = false := by simpa using h
      rw [this]
      exact fld_reps e t
/-- the class of an instance that is read: C alone -/
def fldC (C : Addr) (n : Str) : D → M D := fun d => .ask (∃ ns l, d = .ins C ns l) (fldD n d)
theorem se_fld {C : Addr} {n : Str} (c : Cls X.K C) (hn : NoAttr X.K C n) (he : SE X E mB e f) (hb : attributeBase e n X.env (eval e X.env) = eval e X.env := by rfl) : SE X E mE (.Attribute e n pos) (bind1 f (fldC C n)) :=
  (pe_fld he hb).imp fun σ H Q h => one (r := fun v H1 Q => ∃ a C dx fs v', v = .ref a ∧ H1 a = some (.ins C dx fs) ∧ Cls X.K C ∧ NoAttr X.K C n ∧ fs.lookup n = some v' ∧ Q v' H1) mE_le (by
    intro hd G H x v Q s hh rx w
    obtain ⟨⟨ns, l, rfl⟩, w⟩ := w
    obtain ⟨d, e1, w⟩ := of_wp w
    obtain ⟨a, dx, vs, rfl, h1, hl, r⟩ := rx.ins s
    obtain ⟨z, h2, r2⟩ := fld_reps e1 r
    exact ⟨a, C, dx, _, z, rfl, h1, c, hn, h2, w z G H (Ext.refl s) hh r2⟩) h

/-! ### built-in functions -/
def FnD (X : Cx) (E : XK) (R : Mode) (r : List V → Hp → VK → Prop) (op : List D → M D) : Prop := ∀ hd G H l vs Q, Same G H → HandOk X.K hd G H → RAll mB X.K hd H G H l vs →
  (op l).wp (fun d => ∀ w G' H', Ext hd G H G' H' → HandOk X.K hd G' H' → R X.K hd H G' H' d w → Q w H') (EOk X.K E hd G H) → r vs H Q
def bindA (fs : Env → M (List D)) (op : List D → M D) : Env → M D := fun env => (fs env).bind op
theorem args {R : Mode} {r : List V → Hp → VK → Prop} {op : List D → M D} {fs : Env → M (List D)} (hR : MLe R) (ho : FnD X E R r op) {σ : St} {H : Hp} {Q : VK} (h : tR X.K E R (bindA fs op) σ H Q) : tArgs X.K E mB fs σ H fun vs H1 => r vs H1 Q := by
  obtain ⟨hd, G, env, S, w⟩ := h
  refine ⟨hd, G, env, S, (fs env).mono (fun l q vs G1 H1 x1 h1 r1 => ?_) (fun _ q => q) w⟩
  exact ho hd G1 H1 l vs Q x1.s h1 (RAll.le (H0 := H1) (H1 := H) (fun _ _ r => r) r1) ((op l).mono (fun d q w G' H' x' h' r' => q w G' H' (x1.trans x' h1) h' (hR _ _ _ _ _ _ _ _ _ _ x1 h1 r')) (fun _ q => q.ext x1 h1) q)
theorem se_callB {R : Mode} {x : Str} {p : Pos} {id : String} {r : List V → Hp → VK → Prop} {op : List D → M D} {fs : Env → M (List D)} (hR : MLe R) (hc : CallR X (.builtin id) r) (ho : FnD X E R r op) (hg : Gl X x) (hm : X.mg x = none) (hv : bootBuiltins x = some (.builtin id)) (ha : SA X E mB (e :: es) fs)
    (hn : x ≠ "__name__" := by decide) (hdb : (x == ("__debug__" : Str)) = false := by decide) (he : starEach (e :: es) X.env = (false, eval e X.env) :: starEach es X.env := by rfl) (hpl : (backTo pos (starEach es X.env)).any (·.1) = false := by rfl) :
    SE X E R (.Call (.Name x p) (e :: es) [] pos) (bindA fs op) := (pe_callB hc hg hm hv ha hn hdb he hpl).imp fun _ _ _ h => args hR ho h
theorem se_callTy {R : Mode} {x : Str} {p : Pos} {T : String} {r : List V → Hp → VK → Prop} {op : List D → M D} {fs : Env → M (List D)} (hR : MLe R) (hc : CallR X (.type T) r) (ho : FnD X E R r op) (hg : Gl X x) (hm : X.mg x = none) (hv : bootBuiltins x = some (.type T)) (ha : SA X E mB (e :: es) fs)
    (hn : x ≠ "__name__" := by decide) (hdb : (x == ("__debug__" : Str)) = false := by decide) (he : starEach (e :: es) X.env = (false, eval e X.env) :: starEach es X.env := by rfl) (hpl : (backTo pos (starEach es X.env)).any (·.1) = false := by rfl) :
    SE X E R (.Call (.Name x p) (e :: es) [] pos) (bindA fs op) := (pe_callTy hc hg hm hv ha hn hdb he hpl).imp fun _ _ _ h => args hR ho h
theorem RAll.one {R : Mode} {K : PySem.W.Frag} {hd : Option Addr} {H0 G H : Hp} {d : D} {vs : List V} (h : RAll R K hd H0 G H [d] vs) : ∃ v, vs = [v] ∧ R K hd H0 G H d v := by
  obtain ⟨v, r, e, h1, h2⟩ := h
  cases h2
  exact ⟨v, e, h1⟩
theorem RAll.two {R : Mode} {K : PySem.W.Frag} {hd : Option Addr} {H0 G H : Hp} {d d' : D} {vs : List V} (h : RAll R K hd H0 G H [d, d'] vs) : ∃ v v', vs = [v, v'] ∧ R K hd H0 G H d v ∧ R K hd H0 G H d' v' := by
  obtain ⟨v, r, e, h1, h2⟩ := h
  obtain ⟨v', rfl, h3⟩ := RAll.one h2
  exact ⟨v, v', e, h1, h3⟩
/-- len -/
def lenD : List D → M D
  | [.lst l] => .pure (.int l.length)
  | [.tup l] => .pure (.int l.length)
  | [.scr l] => .pure (.int l.length)
  | [.str x] => .ask (x.length ≤ sizeLine) (.pure (.int x.length))
  | _ => .stuck
theorem fn_len : FnD X E mN (fun xs H Q => (∃ p ys, xs = [.ref p] ∧ (SqL X.K H p ys ∨ SqT X.K H p ys) ∧ Q (.int ys.length) H) ∨ ∃ z, xs = [.str z] ∧ z.length ≤ sizeLine ∧ Q (.int z.length) H) lenD := by
  intro hd G H l vs Q s hh r w
  unfold lenD at w
  split at w
  · obtain ⟨v, rfl, rr⟩ := r.one
    obtain ⟨a, vs, rfl, h1, r1⟩ := RepB.lst s rr
    rw [r1.length] at w
    exact .inl ⟨a, vs, rfl, .inl (SqL.of h1), w _ G H (Ext.refl s) hh (.inl ⟨rfl, .int _⟩)⟩
  · obtain ⟨v, rfl, rr⟩ := r.one
    obtain ⟨a, vs, rfl, h1, r1⟩ := RepB.tup rr
    rw [r1.length] at w
    exact .inl ⟨a, vs, rfl, .inr (Same.seqT s h1), w _ G H (Ext.refl s) hh (.inl ⟨rfl, .int _⟩)⟩
  · obtain ⟨v, rfl, rr⟩ := r.one
    obtain ⟨a, vs, rfl, h1, r1⟩ := RepB.scr rr
    rw [r1.length] at w
    exact .inl ⟨a, vs, rfl, .inl (s.seq h1), w _ G H (Ext.refl s) hh (.inl ⟨rfl, .int _⟩)⟩
  · obtain ⟨v, rfl, rr⟩ := r.one
    cases RepB.str rr
    exact .inr ⟨_, rfl, w.1, w.2 _ G H (Ext.refl s) hh (.inl ⟨rfl, .int _⟩)⟩
  · exact False.elim w
theorem sn_len {p : Pos} {fs : Env → M (List D)} (hg : Gl X "len") (hm : X.mg "len" = none) (ha : SA X E mB [e] fs) (he : starEach [e] X.env = (false, eval e X.env) :: starEach [] X.env := by rfl) : SE X E mN (.Call (.Name "len" p) [e] [] pos) (bindA fs lenD) :=
  se_callB mN_le (call_len_seq.or call_len_str) fn_len hg hm PySem.boot_len ha (by decide) (by decide) he rfl
/-- abs, int -/
def absD : List D → M D
  | [.int i] => .pure (.int (if i < 0 then -i else i))
  | _ => .stuck
theorem fn_abs : FnD X E mN (fun xs H Q => ∃ i, xs = [.int i] ∧ Q (.int (if i < 0 then -i else i)) H) absD := by
  intro hd G H l vs Q s hh r w
  unfold absD at w
  split at w
  · obtain ⟨v, rfl, rr⟩ := r.one
    cases RepB.int rr
    exact ⟨_, rfl, w _ G H (Ext.refl s) hh (.inl ⟨rfl, .int _⟩)⟩
  · exact False.elim w
theorem sn_abs {p : Pos} {fs : Env → M (List D)} (hg : Gl X "abs") (hm : X.mg "abs" = none) (ha : SA X E mB [e] fs) (he : starEach [e] X.env = (false, eval e X.env) :: starEach [] X.env := by rfl) : SE X E mN (.Call (.Name "abs" p) [e] [] pos) (bindA fs absD) :=
  se_callB mN_le call_abs fn_abs hg hm (by decide +kernel) ha (by decide) (by decide) he rfl
def toIntD : List D → M D
  | [.int i] => .pure (.int i)
  | [.bl k] => .pure (.int (if k then 1 else 0))
  | _ => .stuck
theorem fn_int : FnD X E mN (fun xs H Q => (∃ i, xs = [.int i] ∧ Q (.int i) H) ∨ ∃ k, xs = [.bl k] ∧ Q (.int (if k then 1 else 0)) H) toIntD := by
  intro hd G H l vs Q s hh r w
  unfold toIntD at w
  split at w
  · obtain ⟨v, rfl, rr⟩ := r.one
    cases RepB.int rr
    exact .inl ⟨_, rfl, w _ G H (Ext.refl s) hh (.inl ⟨rfl, .int _⟩)⟩
  · obtain ⟨v, rfl, rr⟩ := r.one
    cases RepB.bl rr
    exact .inr ⟨_, rfl, w _ G H (Ext.refl s) hh (.inl ⟨rfl, .int _⟩)⟩
  · exact False.elim w
theorem sn_int1 {p : Pos} {fs : Env → M (List D)} (hg : Gl X "int") (hm : X.mg "int" = none) (ha : SA X E mB [e] fs) (he : starEach [e] X.env = (false, eval e X.env) :: starEach [] X.env := by rfl) : SE X E mN (.Call (.Name "int" p) [e] [] pos) (bindA fs toIntD) :=
  se_callTy mN_le call_int1 fn_int hg hm (by decide +kernel) ha (by decide) (by decide) he rfl
/-- tuple(x), list(x) -/
def tupleD : List D → M D
  | [.lst l] => .pure (.tup l)
  | [.tup l] => .pure (.tup l)
  | [.scr l] => .pure (.tup l)
  | _ => .stuck
def listD : List D → M D
  | [.lst l] => .pure (.lst l)
  | [.tup l] => .pure (.lst l)
  | [.scr l] => .pure (.lst l)
  | _ => .stuck
theorem fn_tuple : FnD X E mN (fun xs H Q => ∃ p ys, xs = [.ref p] ∧ ((SqL X.K H p ys ∧ ∀ l, H l = none → Q (.ref l) (upd H l (.tup ys))) ∨ (SqT X.K H p ys ∧ Q (.ref p) H))) tupleD := by
  intro hd G H l vs Q s hh r w
  unfold tupleD at w
  split at w
  · obtain ⟨v, rfl, rr⟩ := r.one
    obtain ⟨a, vs, rfl, h1, r1⟩ := RepB.lst s rr
    refine ⟨a, vs, rfl, .inl ⟨SqL.of h1, fun p hp => ?_⟩⟩
    obtain ⟨x1, h3, r3⟩ := new_tup s hh hp r1
    exact w _ _ _ x1 h3 (.inl ⟨rfl, r3⟩)
  · obtain ⟨v, rfl, rr⟩ := r.one
    obtain ⟨a, vs, rfl, h1, r1⟩ := RepB.tup rr
    exact ⟨a, vs, rfl, .inr ⟨Same.seqT s h1, w _ G H (Ext.refl s) hh (.inl ⟨rfl, .tup h1 r1⟩)⟩⟩
  · obtain ⟨v, rfl, rr⟩ := r.one
    obtain ⟨a, vs, rfl, h1, r1⟩ := RepB.scr rr
    refine ⟨a, vs, rfl, .inl ⟨s.seq h1, fun p hp => ?_⟩⟩
    obtain ⟨x1, h3, r3⟩ := new_tup s hh hp r1
    exact w _ _ _ x1 h3 (.inl ⟨rfl, r3⟩)
  · exact False.elim w
theorem sn_tuple {p : Pos} {fs : Env → M (List D)} (hg : Gl X "tuple") (hm : X.mg "tuple" = none) (ha : SA X E mB [e] fs) (he : starEach [e] X.env = (false, eval e X.env) :: starEach [] X.env := by rfl) : SE X E mN (.Call (.Name "tuple" p) [e] [] pos) (bindA fs tupleD) :=
  se_callTy mN_le call_tuple_of fn_tuple hg hm (by decide +kernel) ha (by decide) (by decide) he rfl
theorem fn_list : FnD X E mN (fun xs H Q => ∃ p ys, xs = [.ref p] ∧ (SqL X.K H p ys ∨ SqT X.K H p ys) ∧ ∀ l, H l = none → Q (.ref l) (upd H l (.lst ys))) listD := by
  intro hd G H l vs Q s hh r w
  unfold listD at w
  split at w
  · obtain ⟨v, rfl, rr⟩ := r.one
    obtain ⟨a, vs, rfl, h1, r1⟩ := RepB.lst s rr
    refine ⟨a, vs, rfl, .inl (SqL.of h1), fun p hp => ?_⟩
    obtain ⟨x1, h3, r3⟩ := new_lst s hh hp r1
    exact w _ _ _ x1 h3 r3
  · obtain ⟨v, rfl, rr⟩ := r.one
    obtain ⟨a, vs, rfl, h1, r1⟩ := RepB.tup rr
    refine ⟨a, vs, rfl, .inr (Same.seqT s h1), fun p hp => ?_⟩
    obtain ⟨x1, h3, r3⟩ := new_lst s hh hp r1
    exact w _ _ _ x1 h3 r3
  · obtain ⟨v, rfl, rr⟩ := r.one
    obtain ⟨a, vs, rfl, h1, r1⟩ := RepB.scr rr
    refine ⟨a, vs, rfl, .inl (s.seq h1), fun p hp => ?_⟩
    obtain ⟨x1, h3, r3⟩ := new_lst s hh hp r1
    exact w _ _ _ x1 h3 r3
  · exact False.elim w
theorem sn_list {p : Pos} {fs : Env → M (List D)} (hg : Gl X "list") (hm : X.mg "list" = none) (ha : SA X E mB [e] fs) (he : starEach [e] X.env = (false, eval e X.env) :: starEach [] X.env := by rfl) : SE X E mN (.Call (.Name "list" p) [e] [] pos) (bindA fs listD) :=
  se_callTy mN_le call_list_of fn_list hg hm (by decide +kernel) ha (by decide) (by decide) he rfl
/-- all, any of flags; sum of ints -/
def blsOf : List D → Option (List Bool)
  | [] => some []
  | .bl i :: l => (blsOf l).map (i :: ·)
  | _ :: _ => none
theorem blsOf_map (ns : List Bool) : blsOf (ns.map D.bl) = some ns := by
  induction ns with
  | nil => rfl
  | cons n ns ih => simp [blsOf, ih]
theorem blsOf_reps {K : PySem.W.Frag} {hd : Option Addr} {G : Hp} : ∀ {l : List D} {ns : List Bool} {vs : List V}, blsOf l = some ns → Reps K hd G l vs → vs = ns.map V.bl := by
  intro l
  induction l with
  | nil => intro ns vs e r; cases r; cases e; rfl
  | cons d l ih =>
    intro ns vs e r
    cases r with
    | cons r1 r2 =>
      cases d with
      | bl b =>
        cases r1
        cases h : blsOf l with
        | none => simp [blsOf, h] at e
        | some ms =>
          simp [blsOf, h] at e
          subst e
          rw [ih h r2]; rfl
      | _ => cases e
def allD : List D → M D
  | [.lst l] => (M.of (blsOf l)).bind fun bs => .pure (.bl (bs.all id))
  | _ => .stuck
def anyD : List D → M D
  | [.lst l] => (M.of (blsOf l)).bind fun bs => .pure (.bl (bs.any id))
  | _ => .stuck
def sumD : List D → M D
  | [.lst l] => (M.of (intsOf l)).bind fun ns => .pure (.int ns.sum)
  | _ => .stuck
theorem fn_all : FnD X E mN (rAll X.K) allD := by
  intro hd G H l vs Q s hh r w
  unfold allD at w
  split at w
  · obtain ⟨bs, e, w⟩ := of_wp w
    obtain ⟨v, rfl, rr⟩ := r.one
    obtain ⟨a, vs, rfl, h1, r1⟩ := RepB.lst s rr
    have := blsOf_reps e r1
    subst this
    exact ⟨a, bs, rfl, SqL.of h1, w _ G H (Ext.refl s) hh (.inl ⟨rfl, .bl _⟩)⟩
  · exact False.elim w
theorem fn_any : FnD X E mN (rAny X.K) anyD := by
  intro hd G H l vs Q s hh r w
  unfold anyD at w
  split at w
  · obtain ⟨bs, e, w⟩ := of_wp w
    obtain ⟨v, rfl, rr⟩ := r.one
    obtain ⟨a, vs, rfl, h1, r1⟩ := RepB.lst s rr
    have := blsOf_reps e r1
    subst this
    exact ⟨a, bs, rfl, SqL.of h1, w _ G H (Ext.refl s) hh (.inl ⟨rfl, .bl _⟩)⟩
  · exact False.elim w
theorem fn_sum : FnD X E mN (rSum X.K) sumD := by
  intro hd G H l vs Q s hh r w
  unfold sumD at w
  split at w
  · obtain ⟨bs, e, w⟩ := of_wp w
    obtain ⟨v, rfl, rr⟩ := r.one
    obtain ⟨a, vs, rfl, h1, r1⟩ := RepB.lst s rr
    have := intsOf_reps e r1
    subst this
    exact ⟨a, bs, rfl, SqL.of h1, w _ G H (Ext.refl s) hh (.inl ⟨rfl, .int _⟩)⟩
  · exact False.elim w
theorem sn_all {p : Pos} {fs : Env → M (List D)} (hc : X.calm = true) (hg : Gl X "all") (hm : X.mg "all" = none) (ha : SA X E mB [e] fs) (he : starEach [e] X.env = (false, eval e X.env) :: starEach [] X.env := by rfl) : SE X E mN (.Call (.Name "all" p) [e] [] pos) (bindA fs allD) :=
  se_callB mN_le (cr_all hc) fn_all hg hm (by decide +kernel) ha (by decide) (by decide) he rfl
theorem sn_any {p : Pos} {fs : Env → M (List D)} (hc : X.calm = true) (hg : Gl X "any") (hm : X.mg "any" = none) (ha : SA X E mB [e] fs) (he : starEach [e] X.env = (false, eval e X.env) :: starEach [] X.env := by rfl) : SE X E mN (.Call (.Name "any" p) [e] [] pos) (bindA fs anyD) :=
  se_callB mN_le (cr_any hc) fn_any hg hm (by decide +kernel) ha (by decide) (by decide) he rfl
theorem sn_sum {p : Pos} {fs : Env → M (List D)} (hc : X.calm = true) (hg : Gl X "sum") (hm : X.mg "sum" = none) (ha : SA X E mB [e] fs) (he : starEach [e] X.env = (false, eval e X.env) :: starEach [] X.env := by rfl) : SE X E mN (.Call (.Name "sum" p) [e] [] pos) (bindA fs sumD) :=
  se_callB mN_le (cr_sum hc) fn_sum hg hm (by decide +kernel) ha (by decide) (by decide) he rfl
/-- min, max of two ints -/
def max2D : List D → M D
  | [.int i, .int j] => .pure (.int (if j > i then j else i))
  | _ => .stuck
def min2D : List D → M D
  | [.int i, .int j] => .pure (.int (if j < i then j else i))
  | _ => .stuck
theorem fn_max2 : FnD X E mN (fun xs H Q => ∃ i j, xs = [.int i, .int j] ∧ Q (.int (if j > i then j else i)) H) max2D := by
  intro hd G H l vs Q s hh r w
  unfold max2D at w
  split at w
  · obtain ⟨v, v', rfl, rr, rr'⟩ := r.two
    cases RepB.int rr
    cases RepB.int rr'
    exact ⟨_, _, rfl, w _ G H (Ext.refl s) hh (.inl ⟨rfl, .int _⟩)⟩
  · exact False.elim w
theorem fn_min2 : FnD X E mN (fun xs H Q => ∃ i j, xs = [.int i, .int j] ∧ Q (.int (if j < i then j else i)) H) min2D := by
  intro hd G H l vs Q s hh r w
  unfold min2D at w
  split at w
  · obtain ⟨v, v', rfl, rr, rr'⟩ := r.two
    cases RepB.int rr
    cases RepB.int rr'
    exact ⟨_, _, rfl, w _ G H (Ext.refl s) hh (.inl ⟨rfl, .int _⟩)⟩
  · exact False.elim w
end
end Zf

/-! Zf: what a loop walks, comprehensions -/
namespace Zf
open PySem L2 PySem.Spec PyProof.Rows

/-- how far the heap may go while it is walked -/
abbrev Far := PySem.W.Frag → Option Addr → Hp → Hp → Hp → Hp → Prop
def kE : Far := fun _ _ G _ G1 H1 => Same G G1 ∧ Same G1 H1
def kB : Far := fun K hd G H G1 H1 => Ext hd G H G1 H1 ∧ HandOk K hd G1 H1
structure Kpt (R : Mode) (Kp : Far) : Prop where
  keep : ∀ {K hd H0 G H G1 H1 d v}, R K hd H0 G H d v → Kp K hd G H G1 H1 → RepB K hd G1 H1 d v
  same : ∀ {K hd G H G1 H1}, Kp K hd G H G1 H1 → Same G1 H1
  refl : ∀ {K hd G H}, Same G H → HandOk K hd G H → Kp K hd G H G H
theorem kptE : Kpt mE kE := ⟨fun r k => .inl (r.mono k.1), fun k => k.2, fun s _ => ⟨Same.refl _, s⟩⟩
theorem kptB : Kpt mB kB := ⟨fun r k => RepB.ext k.1 r, fun k => k.1.s, fun s h => ⟨Ext.refl s, h⟩⟩
/-- J walks ds, as long as the heap goes no farther -/
def ItOk (K : PySem.W.Frag) (Kp : Far) (hd : Option Addr) (G H : Hp) (J : It) (ds : List D) : Prop := ∀ G1 H1, Kp K hd G H G1 H1 →
  (∀ i, i < ds.length → J.go i H1) ∧ J.stop ds.length H1 ∧ ∀ i v H2, J.go i H1 → J.yld i H1 v H2 → ∃ d G2, ds[i]? = some d ∧ Grow G1 H1 G2 H2 ∧ Rep K hd G2 d v
def tI (K : PySem.W.Frag) (E : XK) (Kp : Far) (f : Env → M (List D)) : TI := fun σ H R => ∃ hd G env, Sta K hd G H env σ ∧
  (f env).wp (fun ds => ∀ J G' H', Ext hd G H G' H' → HandOk K hd G' H' → ItOk K Kp hd G' H' J ds → R J H') (EOk K E hd G H)
abbrev SI (X : Cx) (E : XK) (Kp : Far) (tg it : Expr) (f : Env → M (List D)) : Prop := PI X tg it (tI X.K E Kp f)

theorem _root_.L2.PI.imp {X : Cx} {tg it : Expr} {t t' : TI} (h : PI X tg it t) (w : ∀ σ H R, t' σ H R → t σ H R) : PI X tg it t' := ⟨fun pins s σ H R I q => h.run pins s σ H R I (w σ H R q)⟩

section
variable {X : Cx} {E : XK} {e a b c tg : Expr} {f fa fb fc : Env → M D} {g ga gb : Env → M Bool} {es : List Expr} {pos p2 : Pos} {R : Mode} {Kp : Far}

/-- a list or a tuple, walked -/
def iSeq (K : PySem.W.Frag) (tl : TE) : TI := fun σ H R => tl σ H fun x H1 => ∃ a, x = .ref a ∧ (((∃ xs, SqL K H1 a xs) ∧ R (Itl K a) H1) ∨ ((∃ xs, SqT K H1 a xs) ∧ R (Itt K a) H1))
theorem pi_seq {l : Expr} {tl : TE} (hl : PE X l tl) : PI X tg l (iSeq X.K tl) := ⟨fun pins s σ H R I h => by
  refine thn (hl.run pins s σ H _ I h) fun v s1 ⟨x, H1, I1, r1, a, ex, q1⟩ => ?_
  subst ex
  cases r1
  have fresh : ∀ b ∈ [s1.heap.objs.size], FpOk X pins H1 b := fun b hb => by
    have z : b = s1.heap.objs.size := by simpa using hb
    rw [z]
    exact I1.fpOk (Nat.le_refl _) (I1.hok.fresh (Nat.le_refl _))
  rcases q1 with ⟨⟨xs, hq⟩, q⟩ | ⟨⟨xs, hq⟩, q⟩
  · obtain ⟨its, _, pl, _⟩ := I1.list hq
    exact wpAny_pyIter_list pl.isList ⟨_, _, _, _, H1, rfl, I1.kept (t' := s1.toks) fun _ _ z => Heap.get?_push_of_some _ z, turn_list a s1.heap.objs.size, ⟨_, Heap.get?_push_size _ rfl, rfl, rfl⟩, fresh, q⟩
  · obtain ⟨its, _, pl, _⟩ := I1.tuple hq
    exact wpAny_pyIter_tuple (show s1.heap.IsTuple a its.toArray from pl) ⟨_, _, _, _, H1, rfl, I1.kept (t' := s1.toks) fun _ _ z => Heap.get?_push_of_some _ z, turn_tuple a s1.heap.objs.size, ⟨_, Heap.get?_push_size _ rfl, rfl, rfl⟩, fresh, q⟩⟩
def itemsD : D → M (List D)
  | .lst l => .pure l
  | .tup l => .pure l
  | .scr l => .pure l
  | _ => .stuck
def iterD (f : Env → M D) : Env → M (List D) := fun env => (f env).bind itemsD
theorem itl_ok {K : PySem.W.Frag} {Kp : Far} {hd : Option Addr} {G H : Hp} {a : Addr} {l : List D} (h : ∀ G1 H1, Kp K hd G H G1 H1 → Same G1 H1 ∧ ∃ vs, SqL K H1 a vs ∧ Reps K hd G1 l vs) : ItOk K Kp hd G H (Itl K a) l := fun G1 H1 k => by
  obtain ⟨s, vs, h1, r⟩ := h G1 H1 k
  have hl := r.length
  refine ⟨fun i hi => ?_, ⟨vs, h1, by omega⟩, fun i v H2 _ y => ?_⟩
  · obtain ⟨v, h2, _⟩ := r.get (List.getElem?_eq_getElem hi)
    exact ⟨vs, v, h1, h2⟩
  · obtain ⟨e, y⟩ := y
    obtain ⟨d, h2, h3⟩ := r.getV (y vs h1)
    subst e
    exact ⟨d, G1, h2, Grow.refl s, h3⟩
theorem itt_ok {K : PySem.W.Frag} {Kp : Far} {hd : Option Addr} {G H : Hp} {a : Addr} {l : List D} (h : ∀ G1 H1, Kp K hd G H G1 H1 → Same G1 H1 ∧ ∃ vs, SqT K H1 a vs ∧ Reps K hd G1 l vs) : ItOk K Kp hd G H (Itt K a) l := fun G1 H1 k => by
  obtain ⟨s, vs, h1, r⟩ := h G1 H1 k
  have hl := r.length
  refine ⟨fun i hi => ?_, ⟨vs, h1, by omega⟩, fun i v H2 _ y => ?_⟩
  · obtain ⟨v, h2, _⟩ := r.get (List.getElem?_eq_getElem hi)
    exact ⟨vs, v, h1, h2⟩
  · obtain ⟨e, y⟩ := y
    obtain ⟨d, h2, h3⟩ := r.getV (y vs h1)
    subst e
    exact ⟨d, G1, h2, Grow.refl s, h3⟩
/-- a list or a tuple of data as it lies, and stays -/
theorem seq_at {K : PySem.W.Frag} {hd : Option Addr} {G H H0 : Hp} {d : D} {v : V} {l : List D} (hk : Kpt R Kp) (s : Same G H) (hh : HandOk K hd G H) (w : (itemsD d).wp (fun x => x = l) (fun _ => False)) (r : R K hd H0 G H d v) :
    ∃ a, v = .ref a ∧ (((∃ xs, SqL K H a xs) ∧ ItOk K Kp hd G H (Itl K a) l) ∨ ((∃ xs, SqT K H a xs) ∧ ItOk K Kp hd G H (Itt K a) l)) := by
  have r0 := hk.keep r (hk.refl s hh)
  unfold itemsD at w
  split at w
  · cases w
    obtain ⟨a, vs, rfl, h1, r1⟩ := r0.lst s
    refine ⟨a, rfl, .inl ⟨⟨vs, SqL.of h1⟩, itl_ok fun G1 H1 k => ?_⟩⟩
    obtain ⟨b, us, e, h2, r2⟩ := (hk.keep r k).lst (hk.same k)
    cases e
    exact ⟨hk.same k, us, SqL.of h2, r2⟩
  · cases w
    obtain ⟨a, vs, rfl, h1, r1⟩ := r0.tup
    refine ⟨a, rfl, .inr ⟨⟨vs, Same.seqT s h1⟩, itt_ok fun G1 H1 k => ?_⟩⟩
    obtain ⟨b, us, e, h2, r2⟩ := (hk.keep r k).tup
    cases e
    exact ⟨hk.same k, us, Same.seqT (hk.same k) h2, r2⟩
  · cases w
    obtain ⟨a, vs, rfl, h1, r1⟩ := r0.scr
    refine ⟨a, rfl, .inl ⟨⟨vs, s.seq h1⟩, itl_ok fun G1 H1 k => ?_⟩⟩
    obtain ⟨b, us, e, h2, r2⟩ := (hk.keep r k).scr
    cases e
    exact ⟨hk.same k, us, (hk.same k).seq h2, r2⟩
  · exact False.elim w

theorem si_seq (hk : Kpt R Kp) (he : SE X E R e f) : SI X E Kp tg e (iterD f) := (pi_seq he).imp fun σ H Q ⟨hd, G, env, S, w⟩ => by
  refine ⟨hd, G, env, S, (f env).mono (fun d q v G1 H1 x1 h1 r1 => ?_) (fun _ q => q) w⟩
  have q' : ∃ l, (itemsD d).wp (fun x => x = l) (fun _ => False) ∧ ∀ J G' H', Ext hd G H G' H' → HandOk X.K hd G' H' → ItOk X.K Kp hd G' H' J l → Q J H' := by
    unfold itemsD at q ⊢
    split at q
    · exact ⟨_, rfl, q⟩
    · exact ⟨_, rfl, q⟩
    · exact ⟨_, rfl, q⟩
    · exact False.elim q
  obtain ⟨l, hl, q⟩ := q'
  obtain ⟨a, rfl, ⟨z, k⟩ | ⟨z, k⟩⟩ := seq_at hk x1.s h1 hl r1
  · exact ⟨a, rfl, .inl ⟨z, q _ _ _ x1 h1 k⟩⟩
  · exact ⟨a, rfl, .inr ⟨z, q _ _ _ x1 h1 k⟩⟩
/-- range -/
def rngD (lo : Int) (n : Nat) : List D := (List.range n).map fun (k : Nat) => .int (lo + k)
def iRange1D : List D → M (List D)
  | [.int j] => .ask (-(2 ^ 62) ≤ j ∧ j < 2 ^ 62) (.pure (rngD 0 j.toNat))
  | _ => .stuck
def iRange2D : List D → M (List D)
  | [.int i, .int j] => .ask (-(2 ^ 62) ≤ i ∧ i < 2 ^ 62 ∧ -(2 ^ 62) ≤ j ∧ j < 2 ^ 62) (.pure (rngD i (j - i).toNat))
  | _ => .stuck
theorem itr_ok {K : PySem.W.Frag} {hd : Option Addr} {G H : Hp} {lo : Int} {n : Nat} (hk : ∀ {G1 H1}, Kp K hd G H G1 H1 → Same G1 H1) : ItOk K Kp hd G H (Itr lo n) (rngD lo n) := fun G1 H1 k => by
  refine ⟨fun i hi => (show i < n by simpa [rngD] using hi), (show n ≤ (rngD lo n).length by simp [rngD]), fun i v H2 hi y => ?_⟩
  obtain ⟨e, y⟩ := y
  have hi : i < n := hi
  subst e y
  exact ⟨.int (lo + i), G1, by unfold rngD; rw [List.getElem?_map, List.getElem?_range hi]; rfl, Grow.refl (hk k), .int _⟩
theorem si_range1 {p : Pos} {fs : Env → M (List D)} (hk : Kpt R Kp) (hg : Gl X "range") (hm : X.mg "range" = none) (ha : SA X E mB [a] fs) (hs : starEach [a] X.env = [(false, eval a X.env)] := by rfl) : SI X E Kp tg (.Call (.Name "range" p) [a] [] pos) (fun env => (fs env).bind iRange1D) :=
  (pi_range1 hg hm ha hs).imp fun σ H Q ⟨hd, G, env, S, w⟩ => by
    refine ⟨hd, G, env, S, (fs env).mono (fun l q vs G1 H1 x1 h1 r1 => ?_) (fun _ q => q) w⟩
    unfold iRange1D at q
    split at q
    · obtain ⟨v, rfl, r⟩ := r1.one
      cases RepB.int r
      obtain ⟨⟨z1, z2⟩, q⟩ := q
      exact ⟨_, rfl, z1, z2, q _ _ _ x1 h1 (itr_ok hk.same)⟩
    · exact False.elim q
theorem si_range2 {p : Pos} {fs : Env → M (List D)} (hk : Kpt R Kp) (hg : Gl X "range") (hm : X.mg "range" = none) (ha : SA X E mB [a, b] fs) (hs : starEach [a, b] X.env = [(false, eval a X.env), (false, eval b X.env)] := by rfl) (hs2 : starEach [b] X.env = [(false, eval b X.env)] := by rfl) : SI X E Kp tg (.Call (.Name "range" p) [a, b] [] pos) (fun env => (fs env).bind iRange2D) :=
  (pi_range2 hg hm ha hs hs2).imp fun σ H Q ⟨hd, G, env, S, w⟩ => by
    refine ⟨hd, G, env, S, (fs env).mono (fun l q vs G1 H1 x1 h1 r1 => ?_) (fun _ q => q) w⟩
    unfold iRange2D at q
    split at q
    · obtain ⟨v, v', rfl, r, r'⟩ := r1.two
      cases RepB.int r
      cases RepB.int r'
      obtain ⟨z, q⟩ := q
      exact ⟨_, _, rfl, z, q _ _ _ x1 h1 (itr_ok hk.same)⟩
    · exact False.elim q

/-! ### targets -/
/-- no name holds an object that it did not hold -/
def OwnLe (env' : Env) (σ' : L2.St) (env : Env) (σ : L2.St) : Prop := ∀ (i : Nat) d, env'[i]? = some (.own d) → env[i]? = some (.own d) ∧ σ'[i]? = σ[i]?
theorem OwnLe.set {env : Env} {σ : L2.St} (i : Nat) (d : D) (v : V) : OwnLe (env.set i (.frz d)) (σ.set i (some v)) env σ := fun j e h => by
  by_cases hi : i = j
  · subst hi
    by_cases hl : i < env.length
    · rw [List.getElem?_set_self hl] at h; cases h
    · rw [List.getElem?_eq_none (by simpa using hl)] at h; cases h
  · rw [List.getElem?_set_ne hi] at h
    exact ⟨h, List.getElem?_set_ne hi⟩
def tG (K : PySem.W.Frag) (E : XK) (vs : List Nat) (t : D → Env → M Env) : TG := fun v σ H Q => ∃ hd G env d, Sta K hd G H env σ ∧ Rep K hd G d v ∧
  (t d env).wp (fun env' => ∀ σ', Sta K hd G H env' σ' → OwnLe env' σ' env σ → σ'.length = σ.length → (∀ j, j ∉ vs → σ'[j]? = σ[j]?) → Q σ' H) (fun _ => False)
def tGs (K : PySem.W.Frag) (E : XK) (vs : List Nat) (t : List D → Env → M Env) : TGs := fun us σ H Q => ∃ hd G env ds, Sta K hd G H env σ ∧ Reps K hd G ds us ∧
  (t ds env).wp (fun env' => ∀ σ', Sta K hd G H env' σ' → OwnLe env' σ' env σ → σ'.length = σ.length → (∀ j, j ∉ vs → σ'[j]? = σ[j]?) → Q σ' H) (fun _ => False)
abbrev SG (X : Cx) (E : XK) (vs : List Nat) (tg : Expr) (t : D → Env → M Env) : Prop := PG X tg (tG X.K E vs t)
abbrev SGs (X : Cx) (E : XK) (vs : List Nat) (tgs : List Expr) (t : List D → Env → M Env) : Prop := PGs X tgs (tGs X.K E vs t)
theorem _root_.L2.PG.imp {X : Cx} {tg : Expr} {t t' : TG} (h : PG X tg t) (w : ∀ v σ H Q, t' v σ H Q → t v σ H Q) : PG X tg t' := ⟨fun pins s σ H v u Q I r q => h.run pins s σ H v u Q I r (w v σ H Q q)⟩
theorem _root_.L2.PGs.imp {X : Cx} {tg : List Expr} {t t' : TGs} (h : PGs X tg t) (w : ∀ v σ H Q, t' v σ H Q → t v σ H Q) : PGs X tg t' := ⟨fun pins s σ H v u Q I r q => h.run pins s σ H v u Q I r (w v σ H Q q)⟩
/-- a slot is stored -/
theorem Sta.set {K : PySem.W.Frag} {hd : Option Addr} {G H : Hp} {env : Env} {σ : L2.St} {d : D} {v : V} (S : Sta K hd G H env σ) (r : Rep K hd G d v) (i : Nat) : Sta K hd G H (env.set i (.frz d)) (σ.set i (some v)) where
  sub := S.sub
  hand := S.hand
  len := by rw [List.length_set, List.length_set]; exact S.len
  frz := fun j d' e => by
    by_cases h : i = j
    · subst h
      by_cases hl : i < env.length
      · rw [List.getElem?_set_self hl] at e
        cases e
        exact ⟨v, by rw [List.getElem?_set_self (by rw [← S.len]; exact hl)], r⟩
      · rw [List.getElem?_eq_none (by simpa using hl)] at e; cases e
    · rw [List.getElem?_set_ne h] at e ⊢
      exact S.frz j d' e
  own := fun j d' e => by
    by_cases h : i = j
    · subst h
      by_cases hl : i < env.length
      · rw [List.getElem?_set_self hl] at e; cases e
      · rw [List.getElem?_eq_none (by simpa using hl)] at e; cases e
    · rw [List.getElem?_set_ne h] at e ⊢
      exact S.own j d' e
  sep := fun j k d1 d2 p e1 e2 s1 s2 => by
    have ne : ∀ {j : Nat} {d1 : D}, (env.set i (.frz d))[j]? = some (.own d1) → i ≠ j ∧ env[j]? = some (.own d1) := fun {j d1} e1 => by
      by_cases h : i = j
      · subst h
        by_cases hl : i < env.length
        · rw [List.getElem?_set_self hl] at e1; cases e1
        · rw [List.getElem?_eq_none (by simpa using hl)] at e1; cases e1
      · rw [List.getElem?_set_ne h] at e1
        exact ⟨h, e1⟩
    obtain ⟨n1, e1⟩ := ne e1
    obtain ⟨n2, e2⟩ := ne e2
    rw [List.getElem?_set_ne n1] at s1
    rw [List.getElem?_set_ne n2] at s2
    exact S.sep j k d1 d2 p e1 e2 s1 s2
def gNm (i : Nat) : D → Env → M Env := fun d env => .pure (env.set i (.frz d))
theorem sg_name {vs : List Nat} (i : Nat) {x : Str} (hN : X.N.Nodup) (hi : X.N[i]? = some x := by rfl) (hx : Loc X.env.scope x := by first | exact Or.inl rfl | exact Or.inr rfl) (hv : i ∈ vs := by decide)
    (hf : X.fn x = true ∨ X.env.scope.names.lookup x = some .local := by first | exact .inl rfl | exact .inr rfl | assumption) : SG X E vs (.Name x pos) (gNm i) := (pg_name hN hi hx hf).imp fun v σ H Q ⟨hd, G, env, d, S, r, w⟩ =>
  w _ (S.set r i) (OwnLe.set i d v) (by rw [List.length_set]) fun j hj => by rw [List.getElem?_set_ne (fun z : i = j => hj (by rw [← z]; exact hv))]
def gNo : List D → Env → M Env := fun l env => match l with
  | [] => .pure env
  | _ => .stuck
def gCo (t : D → Env → M Env) (ts : List D → Env → M Env) : List D → Env → M Env := fun l env => match l with
  | d :: r => (t d env).bind fun env' => ts r env'
  | [] => .stuck
theorem sgs_nil {vs : List Nat} : SGs X E vs [] gNo := pgs_nil.imp fun us σ H Q ⟨hd, G, env, ds, S, r, w⟩ => by
  unfold gNo at w
  split at w
  · cases r
    exact ⟨rfl, w σ S (fun _ _ z => ⟨z, rfl⟩) rfl fun _ _ => rfl⟩
  · exact False.elim w
theorem sgs_cons {vs : List Nat} {t : D → Env → M Env} {ts : List D → Env → M Env} (h1 : SG X E vs e t) (h2 : SGs X E vs es ts) (hs : (assignEach (e :: es) X.env).map (·.2) = assign e X.env :: (assignEach es X.env).map (·.2) := by rfl) : SGs X E vs (e :: es) (gCo t ts) := (pgs_cons h1 h2 hs).imp fun us σ H Q ⟨hd, G, env, ds, S, r, w⟩ => by
  unfold gCo at w
  split at w
  · cases r with
    | cons r1 r2 =>
      refine ⟨_, _, rfl, hd, G, env, _, S, r1, (t _ env).mono (fun env' q σ1 S1 o1 l1 k1 => ?_) (fun _ q => q) w⟩
      exact ⟨hd, G, env', _, S1, r2, (ts _ env').mono (fun env2 q σ2 S2 o2 l2 k2 => q σ2 S2 (fun i d z => let ⟨a, b⟩ := o2 i d z; let ⟨a', b'⟩ := o1 i d a; ⟨a', b.trans b'⟩) (l2.trans l1) fun j hj => (k2 j hj).trans (k1 j hj)) (fun _ q => q) q⟩
  · exact False.elim w
def gTu (n : Nat) (ts : List D → Env → M Env) : D → Env → M Env := fun d env => match d with
  | .tup l => .ask (l.length = n) (ts l env)
  | _ => .stuck
theorem sg_tup {vs : List Nat} {ts : List D → Env → M Env} {k n : Nat} (hc : X.calm = true) (h : SGs X E vs es ts) (hn : (assignEach es X.env).length = n := by rfl) (hst : (assignEach es X.env).findIdx? (·.1) = none := by rfl) : SG X E vs (.Tuple es k pos) (gTu n ts) := (pg_tup hc h hn hst).imp fun v σ H Q ⟨hd, G, env, d, S, r, w⟩ => by
  unfold gTu at w
  split at w
  · cases r with
    | tup h1 r1 =>
      exact ⟨_, _, rfl, Same.seqT S.sub h1, by rw [← r1.length]; exact w.1, hd, G, env, _, S, r1, w.2⟩
  · exact False.elim w
end
end Zf

/-! Zf: comprehensions -/
namespace Zf
open PySem L2

def M.noErr {α : Type} (m : M α) : M α := ⟨fun Q _ => m.wp Q fun _ => False, fun h _ q => m.mono h (fun _ z => z) q⟩

theorem wipe_at {σ : St} {j : Nat} : ∀ {vs : List Nat}, j ∉ vs → (wipe σ vs)[j]? = σ[j]?
  | [], _ => rfl
  | v :: vs, h => by
    unfold wipe
    rw [List.getElem?_set_ne (fun z : v = j => h (by rw [z]; exact List.mem_cons_self))]
    exact wipe_at fun z => h (List.mem_cons_of_mem _ z)
theorem wipe_in {σ : St} {j : Nat} : ∀ {vs : List Nat}, j ∈ vs → (wipe σ vs)[j]? = if j < σ.length then some none else none
  | [], h => by cases h
  | v :: vs, h => by
    unfold wipe
    by_cases e : v = j
    · subst e
      by_cases hl : v < σ.length
      · rw [List.getElem?_set_self (by rw [wipe_length]; exact hl), if_pos hl]
      · rw [List.getElem?_eq_none (by rw [List.length_set, wipe_length]; omega), if_neg hl]
    · rw [List.getElem?_set_ne e]
      rcases List.mem_cons.mp h with z | z
      · exact absurd z.symm e
      · exact wipe_in z
theorem wipe_same {σ σ' : St} {vs : List Nat} (hl : σ'.length = σ.length) (h : ∀ j, j ∉ vs → σ'[j]? = σ[j]?) : wipe σ' vs = wipe σ vs := by
  apply List.ext_getElem?
  intro j
  by_cases hj : j ∈ vs
  · rw [wipe_in hj, wipe_in hj, hl]
  · rw [wipe_at hj, wipe_at hj, h j hj]
def wipeE (env : Env) : List Nat → Env
  | [] => env
  | v :: vs => (wipeE env vs).set v .no
theorem wipeE_length (env : Env) : ∀ vs : List Nat, (wipeE env vs).length = env.length
  | [] => rfl
  | v :: vs => by unfold wipeE; rw [List.length_set, wipeE_length env vs]
theorem wipeE_some {env : Env} {i : Nat} {x : Slot} (hx : x ≠ .no) : ∀ {vs : List Nat}, (wipeE env vs)[i]? = some x → env[i]? = some x ∧ i ∉ vs
  | [], h => ⟨h, by simp⟩
  | v :: vs, h => by
    unfold wipeE at h
    by_cases hi : v = i
    · subst hi
      by_cases hv : v < (wipeE env vs).length
      · rw [List.getElem?_set_self hv] at h
        exact absurd (Option.some.inj h).symm hx
      · rw [List.getElem?_eq_none (by simpa using hv)] at h; cases h
    · rw [List.getElem?_set_ne hi] at h
      obtain ⟨h1, h2⟩ := wipeE_some hx h
      exact ⟨h1, by simp only [List.mem_cons, not_or]; exact ⟨fun e => hi e.symm, h2⟩⟩
theorem Sta.wipe {K : PySem.W.Frag} {hd : Option Addr} {G H : Hp} {env : Env} {σ : St} (S : Sta K hd G H env σ) (vs : List Nat) : Sta K hd G H (wipeE env vs) (L2.wipe σ vs) where
  sub := S.sub
  hand := S.hand
  len := by rw [wipeE_length, wipe_length]; exact S.len
  frz := fun i d e => by
    obtain ⟨e1, n⟩ := wipeE_some (by intro z; cases z) e
    rw [wipe_at n]
    exact S.frz i d e1
  own := fun i d e => by
    obtain ⟨e1, n⟩ := wipeE_some (by intro z; cases z) e
    rw [wipe_at n]
    exact S.own i d e1
  sep := fun i j d d' p e1 e2 s1 s2 => by
    obtain ⟨e1, n1⟩ := wipeE_some (by intro z; cases z) e1
    obtain ⟨e2, n2⟩ := wipeE_some (by intro z; cases z) e2
    rw [wipe_at n1] at s1
    rw [wipe_at n2] at s2
    exact S.sep i j d d' p e1 e2 s1 s2

/-- a comprehension over ds: what it makes, in a row -/
def lcRun (t : D → Env → M Env) (c : Env → M Bool) (f : Env → M D) (env : Env) : List D → M (List D)
  | [] => .pure []
  | d :: r => (t d env).bind fun env1 => (c env1).bind fun b => .ite b ((f env1).bind fun y => (lcRun t c f env r).bind fun ys => .pure (y :: ys)) (lcRun t c f env r)
def vLc (fi : Env → M (List D)) (t : D → Env → M Env) (c : Env → M Bool) (f : Env → M D) (vs : List Nat) : Env → M D := fun env => (fi env).bind fun ds => .ask (ds.length ≤ sizeLine) ((lcRun t c f (wipeE env vs) ds).noErr.bind fun ys => .pure (.lst ys))
def tTs (K : PySem.W.Frag) (E : XK) (g : Env → M Bool) : TT := tTst K E g
def cYes : Env → M Bool := fun _ => .pure true
abbrev STs (X : Cx) (E : XK) (ifs : List Expr) (g : Env → M Bool) : Prop := PTs X ifs (tTst X.K E g)
theorem _root_.L2.PTs.imp {X : Cx} {ifs : List Expr} {t t' : TT} (h : PTs X ifs t) (w : ∀ σ H Q, t' σ H Q → t σ H Q) : PTs X ifs t' := ⟨fun pins s σ H Q I q => h.run pins s σ H Q I (w σ H Q q)⟩
section
variable {X : Cx} {E : XK} {e a b c tg : Expr} {f fa fb fc : Env → M D} {g ga gb : Env → M Bool} {es : List Expr} {pos p2 : Pos} {R : Mode} {Kp : Far}
theorem sts_nil : STs X E [] cYes := pts_nil.imp fun σ H Q ⟨hd, G, env, S, w⟩ => w G H (Ext.refl S.sub) S.hand
theorem sts_one (h : ST X E c g) : STs X E [c] g := pts_one h

/-- the far of a comprehension: growth -/
def FarX (Kp : Far) : Prop := ∀ {K hd G H G1 H1}, Ext hd G H G1 H1 → HandOk K hd G1 H1 → Kp K hd G H G1 H1
theorem farE : FarX kE := fun x _ => ⟨x.g, x.s⟩
theorem farB : FarX kB := fun x h => ⟨x, h⟩

theorem lc_read {wi : Env → M (List D)} {t : D → Env → M Env} {vs : List Nat} (hk : Kpt R Kp) (hf : FarX Kp) {σ : St} {H : Hp} {Q : VK} (h : tR X.K E mN (vLc wi t g f vs) σ H Q) :
    tLc (tI X.K E Kp wi) (tG X.K E0 vs t) (tTst X.K E0 g) (tR X.K E0 mE f) vs σ H Q := by
  obtain ⟨hd, G, env, S, w⟩ := h
  refine ⟨hd, G, env, S, (wi env).mono (fun ds ⟨hz, q⟩ J G1 H1 x1 h1 it p hp => ?_) (fun _ q => q) w⟩
  have S1 := (S.ext x1 h1).wipe vs
  have gp : G1 p = none := by
    cases z : G1 p with
    | none => rfl
    | some o => rw [x1.s _ _ z] at hp; cases hp
  have np : hd ≠ some p := fun z => by
    obtain ⟨_, _, _, _, _, _, _, e1, _⟩ := h1 p z
    rw [e1] at hp; cases hp
  have hp0 : H p = none := none_back (K := X.K) x1 hp np
  -- what is wanted of the rest
  let Fin : List D → Prop := fun ys => (M.pure (D.lst ys)).wp (fun d => ∀ v G' H', Ext hd G H G' H' → HandOk X.K hd G' H' → mN X.K hd H G' H' d v → Q v H') (EOk X.K E hd G H)
  let W : Nat → Nat → Hp → Prop := fun i m H2 => m = ds.length - i ∧ i ≤ ds.length ∧ ∃ G2 ys vs2, Ext hd G1 H1 G2 H2 ∧ HandOk X.K hd G2 H2 ∧ G2 p = none ∧ H2 p = some (.lst vs2) ∧ Reps X.K hd G2 ys vs2 ∧ ys.length ≤ i ∧
    (lcRun t g f (wipeE env vs) (ds.drop i)).wp (fun r => Fin (ys ++ r)) fun _ => False
  refine ⟨W, ⟨ds.length, rfl, Nat.zero_le _, G1, [], [], Ext.newH x1.s hp, h1.newH hp, gp, upd_same, .nil, Nat.le_refl _, q⟩, fun i m H2 hW => ?_⟩
  obtain ⟨rfl, hi, G2, ys, vs2, x2, h2, g2, e2, r2, l2, w2⟩ := hW
  obtain ⟨i1, i2, i3⟩ := it G2 H2 (hf x2 h2)
  by_cases hlt : i < ds.length
  · refine .inr ⟨i1 i hlt, W (i + 1) (ds.length - (i + 1)), fun H' n => ⟨_, by omega, n⟩, fun v H3 y => ?_⟩
    obtain ⟨d, G3, ed, gr, rd⟩ := i3 i v H3 (i1 i hlt) y
    rw [List.drop_eq_getElem_cons hlt] at w2
    have ed' : ds[i] = d := by rw [List.getElem?_eq_getElem hlt] at ed; exact Option.some.inj ed
    rw [ed'] at w2
    have x3 := x2.trans gr.ext h2
    have h3 := gr.hand h2
    have e3 := gr.h _ _ e2
    have g3 : G3 p = none := by rw [gr.old p (by rw [e2]; simp)]; exact g2
    refine ⟨hd, G3, wipeE env vs, d, S1.ext x3 h3, rd, (t d (wipeE env vs)).mono (fun env1 q1 σ1 S3 _ l1 k3 => ?_) (fun _ z => z) w2⟩
    refine ⟨by rw [wipe_same l1 k3]; exact wipe_same (by rw [wipe_length]) fun j hj => wipe_at hj, ?_⟩
    refine ⟨hd, G3, env1, S3, (g env1).mono (fun b q2 G4 H4 x4 h4 => ?_) (fun _ z => z.elim) q1⟩
    have x14 := x3.trans x4 h3
    have e4 : H4 p = some (.lst vs2) := x4.h p _ np e3
    have g4 : G4 p = none := by rw [x4.old p (by rw [e3]; simp)]; exact g3
    have r4 := (r2.mono gr.g).mono x4.g
    cases b with
    | false =>
      refine iteF ?_
      exact ⟨rfl, hlt, G4, ys, vs2, x14, h4, g4, e4, r4, by omega, q2⟩
    | true =>
      refine iteT ?_
      refine ⟨hd, G4, env1, S3.ext x4 h4, (f env1).mono (fun y q5 v5 G5 H5 x5 h5 r5 => ?_) (fun _ z => z.elim) q2⟩
      have e5 : H5 p = some (.lst vs2) := x5.h p _ np e4
      have g5 : G5 p = none := by rw [x5.old p (by rw [e4]; simp)]; exact g4
      have r6 : Reps X.K hd G5 (ys ++ [y]) (vs2 ++ [v5]) := (r4.mono x5.g).append (.cons r5 .nil)
      have x15 := x14.trans x5 h4
      have nu : ∀ b o, H1 b = some o → b ≠ p := fun b o z e => by rw [e, hp] at z; cases z
      have ng : ∀ b o, G5 b = some o → b ≠ p := fun b o z e => by rw [e, g5] at z; cases z
      refine ⟨vs2, e5, by rw [← r4.length]; omega, rfl, hlt, G5, ys ++ [y], vs2 ++ [v5], ⟨x15.g, fun b o n z => ?_, fun b o z => ?_, x15.old⟩, fun a ea => ?_, g5, upd_same, r6, by rw [List.length_append]; simp only [List.length_cons, List.length_nil]; omega, ?_⟩
      · rw [upd_ne (nu b o z)]; exact x15.h b o n z
      · rw [upd_ne (ng b o z)]; exact x15.s b o z
      · obtain ⟨n1, c1, cells, p1, l, m, k, z1, z2, z3⟩ := h5 a ea
        exact ⟨n1, c1, cells, p1, l, m, k, by rw [upd_ne (fun z => np (by rw [← z]; exact ea))]; exact z1, z2, z3⟩
      · refine (lcRun t g f (wipeE env vs) (ds.drop (i + 1))).mono (fun r z => ?_) (fun _ z => z) q5
        have z : Fin (ys ++ (y :: r)) := z
        rw [List.append_assoc]
        exact z
  · have e : i = ds.length := by omega
    subst e
    rw [List.drop_length] at w2
    have w2 : Fin (ys ++ []) := w2
    rw [List.append_nil] at w2
    exact .inl ⟨i2, w2 _ G2 H2 (x1.trans x2 h1) h2 (.inr ⟨rfl, p, rfl, hp0, g2, np, vs2, e2, r2⟩)⟩
/-- [elt for target in iter if ..] -/
theorem sn_lc {elt iter : Expr} {ifs : List Expr} {scope : Scope} {own : List (Str × Nat)} {wi : Env → M (List D)} {t : D → Env → M Env} (hk : Kpt R Kp) (hf : FarX Kp) (hc : X.calm = true) (hN : X.N.Nodup) (hi : SI X E Kp tg iter wi) (ok : BlkOk X.N X.env.scope scope own)
    (hg : ∀ (s : Shared) (H : Hp) (C : Addr) (cl : List (Str × Addr)) (fp : List Addr), SG (X.blk s H scope (compEnvC scope cl C X.env) fp) E0 (own.map (·.2)) tg t)
    (ht : ∀ (s : Shared) (H : Hp) (C : Addr) (cl : List (Str × Addr)) (fp : List Addr), STs (X.blk s H scope (compEnvC scope cl C X.env) fp) E0 ifs g)
    (he : ∀ (s : Shared) (H : Hp) (C : Addr) (cl : List (Str × Addr)) (fp : List Addr), SE (X.blk s H scope (compEnvC scope cl C X.env) fp) E0 mE elt f) (hs : ∀ x, foldedSetIterable iter X.env x = pure x := by intro _; rfl) :
    SE X E mN (.ListComp elt [⟨tg, iter, ifs, 0⟩] scope pos) (vLc wi t g f (own.map (·.2))) := (pe_lc hc hN hi ok hg ht he hs).imp fun _ _ _ h => lc_read hk hf h
end
end Zf

/-! Zf: statements -/
namespace Zf
open PySem L2

inductive Fl where
  | nx (env : Env) | rt (d : D) | ro (d : D) | rte (d : D) (env : Env) | bk (env : Env) | ct (env : Env)

/-- the state within a def, that was entered at G0, H0 -/
structure StaB (K : PySem.W.Frag) (hd : Option Addr) (G0 H0 G H : Hp) (env : Env) (σ : St) : Prop where
  sta : Sta K hd G H env σ
  ext : Ext hd G0 H0 G H
  new : ∀ (i : Nat) d p, env[i]? = some (.own d) → σ[i]? = some (some (.ref p)) → H0 p = none
def Post (K : PySem.W.Frag) (hd : Option Addr) (G0 H0 : Hp) (T : Ends) : Fl → Prop
  | .nx env => ∀ σ G H, StaB K hd G0 H0 G H env σ → T.nx σ H
  | .rt d => ∀ v G H, Ext hd G0 H0 G H → HandOk K hd G H → Rep K hd G d v → T.rt v H
  | .ro d => ∀ v G H, Ext hd G0 H0 G H → HandOk K hd G H → mN K hd H0 G H d v → T.rt v H
  | .rte d env => ∀ v σ G H, StaB K hd G0 H0 G H env σ → Rep K hd G d v → T.rt v H
  | .bk env => ∀ σ G H, StaB K hd G0 H0 G H env σ → T.bk σ H
  | .ct env => ∀ σ G H, StaB K hd G0 H0 G H env σ → T.ct σ H
def tT (K : PySem.W.Frag) (E : XK) (F : Env → M Fl) : TS := fun T σ H => ∃ hd G0 H0 G env, StaB K hd G0 H0 G H env σ ∧ (F env).wp (Post K hd G0 H0 T) (EOk K E hd G0 H0)
abbrev SS (X : Cx) (E : XK) (st : Stmt) (F : Env → M Fl) : Prop := PS X st (tT X.K E F)
abbrev SSs (X : Cx) (E : XK) (st : List Stmt) (F : Env → M Fl) : Prop := PSs X st (tT X.K E F)
theorem _root_.L2.PS.imp {X : Cx} {e : Stmt} {t t' : TS} (h : PS X e t) (w : ∀ T σ H, t' T σ H → t T σ H) : PS X e t' := ⟨fun pins s σ H T I q => h.run pins s σ H T I (w T σ H q)⟩
theorem _root_.L2.PSs.imp {X : Cx} {e : List Stmt} {t t' : TS} (h : PSs X e t) (w : ∀ T σ H, t' T σ H → t T σ H) : PSs X e t' := ⟨fun pins s σ H T I q => h.run pins s σ H T I (w T σ H q)⟩

section
variable {K : PySem.W.Frag} {hd : Option Addr} {G0 H0 G H G' H' : Hp} {env : Env} {σ : St}
theorem StaB.grow (S : StaB K hd G0 H0 G H env σ) (x : Ext hd G H G' H') (h : HandOk K hd G' H') : StaB K hd G0 H0 G' H' env σ := ⟨S.sta.ext x h, S.ext.trans x S.sta.hand, S.new⟩
theorem StaB.eok {E : XK} {e : Err} (S : StaB K hd G0 H0 G H env σ) (h : EOk K E hd G0 H0 e) : EOk K E hd G H e := h.ext S.ext S.sta.hand
end

/-- what a name gets from a value of that mode -/
def slE : D → Slot := .frz
def slN (d : D) : Slot := match isOwn d with
  | true => .own d
  | false => .frz d
def Stor (R : Mode) (sl : D → Slot) : Prop := ∀ ⦃K hd G0 H0 G H G' H' env σ i d v⦄, StaB K hd G0 H0 G H env σ → Ext hd G H G' H' → StaB K hd G0 H0 G' H' env σ → R K hd H G' H' d v → StaB K hd G0 H0 G' H' (env.set i (sl d)) (σ.set i (some v))
theorem storE : Stor mE slE := fun K hd G0 H0 G H G' H' env σ i d v S x S' r => ⟨S'.sta.set r i, S'.ext, fun j e p z y => by
  obtain ⟨z1, z2⟩ := OwnLe.set i d v j e z
  exact S'.new j e p z1 (by rw [← z2]; exact y)⟩
theorem storN : Stor mN slN := fun K hd G0 H0 G H G' H' env σ i d v S x S' r => by
  unfold slN
  rcases r with ⟨o, r⟩ | ⟨io, p, rfl, hp, gp, np, oa⟩
  · rw [o]
    exact storE S x S' r
  · rw [io]
    -- where a name's own object lies
    have other : ∀ {j : Nat} {e : D}, i ≠ j → env[j]? = some (.own e) → ∃ q, σ[j]? = some (some (.ref q)) ∧ q ≠ p := fun {j e} _ z => by
      obtain ⟨q, z1, _, _, z4⟩ := S.sta.own j e z
      obtain ⟨ob, z5⟩ := z4.ex
      exact ⟨q, z1, fun y => by rw [y, hp] at z5; cases z5⟩
    have hin : ∀ {j : Nat} {e : D}, (env.set i (Slot.own d))[j]? = some (.own e) → (i = j ∧ e = d ∧ i < env.length) ∨ (i ≠ j ∧ env[j]? = some (.own e)) := fun {j e} z => by
      by_cases hi : i = j
      · subst hi
        by_cases hl : i < env.length
        · rw [List.getElem?_set_self hl] at z
          cases z
          exact .inl ⟨rfl, rfl, hl⟩
        · rw [List.getElem?_eq_none (by simpa using hl)] at z; cases z
      · rw [List.getElem?_set_ne hi] at z
        exact .inr ⟨hi, z⟩
    have hi' : ∀ {j : Nat}, i = j → i < env.length → (σ.set i (some (V.ref p)))[j]? = some (some (.ref p)) := fun {j} e hl => by
      rw [← e, List.getElem?_set_self (by rw [← S'.sta.len]; exact hl)]
    refine ⟨⟨S'.sta.sub, S'.sta.hand, by rw [List.length_set, List.length_set]; exact S'.sta.len, fun j e z => ?_, fun j e z => ?_, fun j k d1 d2 q z1 z2 y1 y2 => ?_⟩, S'.ext, fun j e q z y => ?_⟩
    · by_cases hi : i = j
      · subst hi
        by_cases hl : i < env.length
        · rw [List.getElem?_set_self hl] at z; cases z
        · rw [List.getElem?_eq_none (by simpa using hl)] at z; cases z
      · rw [List.getElem?_set_ne hi] at z ⊢
        exact S'.sta.frz j e z
    · rcases hin z with ⟨e1, e2, hl⟩ | ⟨n, z⟩
      · subst e2
        exact ⟨p, hi' e1 hl, gp, np, oa⟩
      · obtain ⟨q, z1, z2⟩ := S'.sta.own j e z
        exact ⟨q, by rw [List.getElem?_set_ne n]; exact z1, z2⟩
    · rcases hin z1 with ⟨e1, _, hl⟩ | ⟨n1, z1⟩ <;> rcases hin z2 with ⟨e2, _, _⟩ | ⟨n2, z2⟩
      · rw [← e1, ← e2]
      · rw [hi' e1 hl] at y1
        cases y1
        obtain ⟨q', z3, z4⟩ := other n2 z2
        rw [List.getElem?_set_ne n2, z3] at y2
        cases y2
        exact absurd rfl z4
      · rw [hi' e2 (by assumption)] at y2
        cases y2
        obtain ⟨q', z3, z4⟩ := other n1 z1
        rw [List.getElem?_set_ne n1, z3] at y1
        cases y1
        exact absurd rfl z4
      · rw [List.getElem?_set_ne n1] at y1
        rw [List.getElem?_set_ne n2] at y2
        exact S'.sta.sep j k d1 d2 q z1 z2 y1 y2
    · rcases hin z with ⟨e1, _, hl⟩ | ⟨n, z⟩
      · rw [hi' e1 hl] at y
        cases y
        exact none_back (K := K) S.ext hp np
      · rw [List.getElem?_set_ne n] at y
        exact S'.new j e q z y

section
variable {X : Cx} {E : XK} {e a b c tg : Expr} {f fa fb fc : Env → M D} {g ga gb : Env → M Bool} {es : List Expr} {pos p2 : Pos} {R : Mode} {Kp : Far} {st : Stmt} {rest body : List Stmt} {F F' : Env → M Fl}

/-! ### in a row -/
def andThen (m : M Fl) (G : Env → M Fl) : M Fl := m.bind fun fl => match fl with
  | .nx env => G env
  | .rt d => .pure (.rt d)
  | .ro d => .pure (.ro d)
  | .rte d env => .pure (.rte d env)
  | .bk env => .pure (.bk env)
  | .ct env => .pure (.ct env)
def sSeq (F G : Env → M Fl) : Env → M Fl := fun env => andThen (F env) G
def sNil : Env → M Fl := fun env => .pure (.nx env)
theorem ss_nil : SSs X E [] sNil := pss_nil.imp fun T σ H ⟨hd, G0, H0, G, env, S, w⟩ => w σ G H S
theorem ss_cons (h1 : SS X E st F) (h2 : SSs X E rest F') : SSs X E (st :: rest) (sSeq F F') := (pss_cons h1 h2).imp fun T σ H ⟨hd, G0, H0, G, env, S, w⟩ =>
  ⟨hd, G0, H0, G, env, S, (F env).mono (fun fl q => by
    cases fl with
    | nx env' => exact fun σ' G' H' S' => ⟨hd, G0, H0, G', env', S', q⟩
    | rt d => exact q
    | ro d => exact q
    | rte d env => exact q
    | bk env' => exact q
    | ct env' => exact q) (fun _ q => q) w⟩
theorem ss_one (h1 : SS X E st F) : SSs X E [st] F := pss_one h1
theorem ss_pass : SS X E (.Pass pos) sNil := ps_pass.imp fun T σ H ⟨hd, G0, H0, G, env, S, w⟩ => w σ G H S
theorem ss_break : SS X E (.Break pos) (fun env => .pure (.bk env)) := ps_break.imp fun T σ H ⟨hd, G0, H0, G, env, S, w⟩ => w σ G H S
theorem ss_continue : SS X E (.Continue pos) (fun env => .pure (.ct env)) := ps_continue.imp fun T σ H ⟨hd, G0, H0, G, env, S, w⟩ => w σ G H S
theorem ss_never : SS X E st (fun _ => .stuck) := ps_never.imp fun T σ H ⟨hd, G0, H0, G, env, S, w⟩ => w
theorem ss_doc {x j p2} : SS X E (.Expr (.Constant (.str x) j p2) pos) sNil := ps_doc.imp fun T σ H ⟨hd, G0, H0, G, env, S, w⟩ => w σ G H S
/-- an expression within the state of a def -/
theorem expr_in {K : PySem.W.Frag} {hd : Option Addr} {G0 H0 G H : Hp} {env : Env} {σ : St} {R : Mode} {f : Env → M D} {Q : VK} (S : StaB K hd G0 H0 G H env σ) (w : (f env).wp (fun d => ∀ v G' H', StaB K hd G0 H0 G' H' env σ → Ext hd G H G' H' → R K hd H G' H' d v → Q v H') (EOk K E hd G0 H0)) : tR K E R f σ H Q :=
  ⟨hd, G, env, S.sta, (f env).mono (fun d q v G' H' x h r => q v G' H' (S.grow x h) x r) (fun _ q => S.eok q) w⟩
theorem test_in {K : PySem.W.Frag} {hd : Option Addr} {G0 H0 G H : Hp} {env : Env} {σ : St} {g : Env → M Bool} {Q : Bool → Hp → Prop} (S : StaB K hd G0 H0 G H env σ) (w : (g env).wp (fun b => ∀ G' H', StaB K hd G0 H0 G' H' env σ → Q b H') (EOk K E hd G0 H0)) : tTst K E g σ H Q :=
  ⟨hd, G, env, S.sta, (g env).mono (fun d q G' H' x h => q G' H' (S.grow x h)) (fun _ q => S.eok q) w⟩
/-! ### names stored -/
def sSet (sl : D → Slot) (i : Nat) (f : Env → M D) : Env → M Fl := fun env => (f env).bind fun d => .pure (.nx (env.set i (sl d)))
theorem ss_setR {sl : D → Slot} (hs : Stor R sl) (i : Nat) {x : Str} {p2 : Pos} (hN : X.N.Nodup) (he : SE X E R e f) (hi : X.N[i]? = some x := by rfl) (hx : Loc X.env.scope x := by first | exact Or.inl rfl | exact Or.inr rfl) (hsw : swapsWith e (some (.Name x p2)) pos.line X.env = pure false := by rfl)
    (hf : X.fn x = true ∨ X.env.scope.names.lookup x = some .local := by first | exact .inl rfl | exact .inr rfl | assumption) : SS X E (.Assign [.Name x p2] e pos) (sSet sl i f) := (ps_set hN hi hx he hsw hf).imp fun T σ H ⟨hd, G0, H0, G, env, S, w⟩ =>
  expr_in S ((f env).mono (fun d q v G' H' S' x' r => q _ G' H' (hs S x' S' r)) (fun _ q => q) w)
theorem ss_set (i : Nat) {x : Str} {p2 : Pos} (hN : X.N.Nodup) (he : SE X E mE e f) (hi : X.N[i]? = some x := by rfl) (hx : Loc X.env.scope x := by first | exact Or.inl rfl | exact Or.inr rfl) (hsw : swapsWith e (some (.Name x p2)) pos.line X.env = pure false := by rfl)
    (hf : X.fn x = true ∨ X.env.scope.names.lookup x = some .local := by first | exact .inl rfl | exact .inr rfl | assumption) : SS X E (.Assign [.Name x p2] e pos) (sSet slE i f) := ss_setR storE i hN he hi hx hsw hf
theorem ss_setN (i : Nat) {x : Str} {p2 : Pos} (hN : X.N.Nodup) (he : SE X E mN e f) (hi : X.N[i]? = some x := by rfl) (hx : Loc X.env.scope x := by first | exact Or.inl rfl | exact Or.inr rfl) (hsw : swapsWith e (some (.Name x p2)) pos.line X.env = pure false := by rfl)
    (hf : X.fn x = true ∨ X.env.scope.names.lookup x = some .local := by first | exact .inl rfl | exact .inr rfl | assumption) : SS X E (.Assign [.Name x p2] e pos) (sSet slN i f) := ss_setR storN i hN he hi hx hsw hf
/-- y = [.. for ..], y a plain local -/
theorem ss_setLc (i : Nat) {y : Str} {py p4 : Pos} {elt iter : Expr} {ifs : List Expr} {scope : Scope} {own : List (Str × Nat)} {wi : Env → M (List D)} {t : D → Env → M Env} (hN : X.N.Nodup) (hk : Kpt R Kp) (hf : FarX Kp) (hc : X.calm = true)
    (hsw : swapsWith (.ListComp elt [⟨tg, iter, ifs, 0⟩] scope p4) (some (.Name y py)) pos.line X.env = pure true) (hi : SI X E Kp tg iter wi) (ok : BlkOk X.N X.env.scope scope own)
    (hg : ∀ (s : Shared) (H : Hp) (C : Addr) (cl : List (Str × Addr)) (fp : List Addr), SG (X.blk s H scope (compEnvC scope cl C X.env) fp) E0 (own.map (·.2)) tg t)
    (ht : ∀ (s : Shared) (H : Hp) (C : Addr) (cl : List (Str × Addr)) (fp : List Addr), STs (X.blk s H scope (compEnvC scope cl C X.env) fp) E0 ifs g)
    (he : ∀ (s : Shared) (H : Hp) (C : Addr) (cl : List (Str × Addr)) (fp : List Addr), SE (X.blk s H scope (compEnvC scope cl C X.env) fp) E0 mE elt f) (hy : X.N[i]? = some y := by rfl) (hyl : X.env.scope.names.lookup y = some .local := by rfl) (hs : ∀ x, foldedSetIterable iter X.env x = pure x := by intro _; rfl) :
    SS X E (.Assign [.Name y py] (.ListComp elt [⟨tg, iter, ifs, 0⟩] scope p4) pos) (sSet slN i (vLc wi t g f (own.map (·.2)))) := (ps_setLc hc hN hy hyl hsw hi ok hg ht he hs).imp fun T σ H ⟨hd, G0, H0, G, env, S, w⟩ => by
  show tLc _ _ _ _ _ σ H (fun x H1 => gName i x σ H1 T.nx)
  exact lc_read hk hf (expr_in S (M.mono (vLc wi t g f _ env) (fun d q v G' H' S' x' r => q _ G' H' (storN S x' S' r)) (fun _ q => q) w))
/-- a tuple's items to names -/
def sAsg (f : Env → M D) (t : D → Env → M Env) : Env → M Fl := fun env => (f env).bind fun d => (t d env).noErr.bind fun env' => .pure (.nx env')
theorem ss_asg {vs : List Nat} {t : D → Env → M Env} (he : SE X E mE e f) (hg : SG X E vs tg t) (hs : swapsWithSole [tg] e pos.line X.env = pure false := by rfl) (hw : swappedStores [tg] e X.env = pure none := by rfl)
    (h1 : (assignEach [tg] X.env).map (·.2) = [assign tg X.env] := by rfl) : SS X E (.Assign [tg] e pos) (sAsg f t) := (ps_asg he hg hs hw h1).imp fun T σ H ⟨hd, G0, H0, G, env, S, w⟩ =>
  expr_in S ((f env).mono (fun d q v G' H' S' x' r => ⟨hd, G', env, d, S'.sta, r, (t d env).mono (fun env' q σ' S2 o2 _ _ => q σ' G' H' ⟨S2, S'.ext, fun i d p z y => by
    obtain ⟨z1, z2⟩ := o2 i d z
    exact S'.new i d p z1 (by rw [← z2]; exact y)⟩) (fun _ z => z) q⟩) (fun _ q => q) w)
/-- a, b = x, y -/
def sPar (sl sl' : D → Slot) (i j : Nat) (fa fb : Env → M D) : Env → M Fl := fun env => (fa env).bind fun x => (fb env).bind fun y => .pure (.nx ((env.set i (sl x)).set j (sl' y)))
theorem ss_par {R' : Mode} {sl sl' : D → Slot} (hs : Stor R sl) (hs' : Stor R' sl') (hk : MKeep R) (i j : Nat) {x y : Str} {px py pt : Pos} {kt k2 pt2} (hc : X.calm = true) (hN : X.N.Nodup) (ha : SE X E R a fa) (hb : SE X E R' b fb)
    (hi : X.N[i]? = some x := by rfl) (hj : X.N[j]? = some y := by rfl) (hij : i ≠ j := by decide) (hx : X.env.scope.names.lookup x = some .local := by rfl) (hy : X.env.scope.names.lookup y = some .local := by rfl)
    (hw : swappedStores [.Tuple [.Name x px, .Name y py] kt pt] (.Tuple [a, b] k2 pt2) X.env = pure (some [x, y]) := by rfl) (hsw : swapsWithSole [.Tuple [.Name x px, .Name y py] kt pt] (.Tuple [a, b] k2 pt2) pos.line X.env = pure false := by rfl)
    (h1 : starEach [a, b] X.env = (false, eval a X.env) :: starEach [b] X.env := by rfl) (h2 : starEach [b] X.env = (false, eval b X.env) :: starEach [] X.env := by rfl) :
    SS X E (.Assign [.Tuple [.Name x px, .Name y py] kt pt] (.Tuple [a, b] k2 pt2) pos) (sPar sl sl' i j fa fb) := (ps_par hc hN hi hj hij hx hy (pa_cons ha (pa_cons hb pa_nil h2) h1) hw hsw).imp fun T σ H ⟨hd, G0, H0, G, env, S, w⟩ => by
  refine expr_in S ((fa env).mono (fun x q v G1 H1 S1 x1 r1 => ?_) (fun _ q => q) w)
  refine expr_in S1 ((fb env).mono (fun y q u G2 H2 S2 x2 r2 => ?_) (fun _ q => q) q)
  refine ⟨v, u, rfl, q _ G2 H2 ?_⟩
  refine hs' (hs S x1 S1 r1) x2 (hs S (x1.trans x2 S1.sta.hand) S2 (hk _ _ _ _ _ _ _ _ _ x2 r1)) r2
theorem mN_keep : MKeep mN := fun K hd H0 G H G' H' d v x r => by
  rcases r with ⟨o, r⟩ | ⟨io, p, rfl, hp, gp, np, oa⟩
  · exact .inl ⟨o, r.mono x.g⟩
  · obtain ⟨ob, q⟩ := oa.ex
    exact .inr ⟨io, p, rfl, hp, by rw [x.old p (by rw [q]; simp)]; exact gp, np, oa.mono x.g fun o z => x.h p o np z⟩
/-! ### return, if, an expression alone -/
def sRet (f : Env → M D) : Env → M Fl := fun env => (f env).bind fun d => .pure (.rt d)
theorem ss_ret (he : SE X E mE e f) : SS X E (.Return (some e) pos) (sRet f) := (ps_ret he).imp fun T σ H ⟨hd, G0, H0, G, env, S, w⟩ =>
  expr_in S ((f env).mono (fun d q v G' H' S' x' r => q v G' H' S'.ext S'.sta.hand r) (fun _ q => q) w)
/-- .. and the names are still known -/
def sRetE (f : Env → M D) : Env → M Fl := fun env => (f env).bind fun d => .pure (.rte d env)
theorem ss_retE (he : SE X E mE e f) : SS X E (.Return (some e) pos) (sRetE f) := (ps_ret he).imp fun T σ H ⟨hd, G0, H0, G, env, S, w⟩ =>
  expr_in S ((f env).mono (fun d q v G' H' S' x' r => q v σ G' H' S' r) (fun _ q => q) w)
/-- .. a new list, a new dict: the caller's own -/
def sRetO (f : Env → M D) : Env → M Fl := fun env => (f env).bind fun d => .pure (.ro d)
theorem ss_retO (he : SE X E mN e f) : SS X E (.Return (some e) pos) (sRetO f) := (ps_ret he).imp fun T σ H ⟨hd, G0, H0, G, env, S, w⟩ =>
  expr_in S ((f env).mono (fun d q v G' H' S' x' r => q v G' H' S'.ext S'.sta.hand (mN_le _ _ _ _ _ _ _ _ _ _ S.ext S.sta.hand r)) (fun _ q => q) w)
theorem ss_retN : SS X E (.Return none pos) (fun _ => .pure (.rt .non)) := ps_retN.imp fun T σ H ⟨hd, G0, H0, G, env, S, w⟩ => w .non G H S.ext S.sta.hand .non
def sIf (g : Env → M Bool) (F F' : Env → M Fl) : Env → M Fl := fun env => (g env).bind fun b => .ite b (F env) (F' env)
theorem ss_if {orelse : List Stmt} (hc : ST X E c g) (ha : SSs X E body F) (hb : SSs X E orelse F') : SS X E (.If c body orelse pos) (sIf g F F') := (ps_if hc ha hb).imp fun T σ H ⟨hd, G0, H0, G, env, S, w⟩ =>
  test_in S ((g env).mono (fun b q G' H' S' => by
    cases b with
    | true => exact iteT ⟨hd, G0, H0, G', env, S', q⟩
    | false => exact iteF ⟨hd, G0, H0, G', env, S', q⟩) (fun _ q => q) w)
def sDrop (f : Env → M D) : Env → M Fl := fun env => (f env).bind fun _ => .pure (.nx env)
theorem ss_expr (he : SE X E mE e f) (hs : swapsWith e none pos.line X.env = pure false := by rfl) : SS X E (.Expr e pos) (sDrop f) := (ps_expr he hs).imp fun T σ H ⟨hd, G0, H0, G, env, S, w⟩ =>
  expr_in S ((f env).mono (fun d q v G' H' S' x' r => q σ G' H' S') (fun _ q => q) w)
/-- a name's object is known for good from here on (nothing happens) -/
def frzE (i : Nat) (env : Env) : Env := match env[i]? with
  | some (.own d) => env.set i (.frz d)
  | _ => env
theorem StaB.frz {K : PySem.W.Frag} {hd : Option Addr} {G0 H0 G H : Hp} {env : Env} {σ : St} (S : StaB K hd G0 H0 G H env σ) (i : Nat) : ∃ G', StaB K hd G0 H0 G' H (frzE i env) σ := by
  unfold frzE
  split
  · rename_i d e
    obtain ⟨p, h1, h2, h3, h4⟩ := S.sta.own i d e
    have hi : i < env.length := (List.getElem?_eq_some_iff.mp e).1
    obtain ⟨ob, q⟩ := h4.ex
    have hp0 := S.new i d p e h1
    have G'' : ∃ G', Same G G' ∧ Same G' H ∧ HandOk K hd G' H ∧ Rep K hd G' d (.ref p) ∧ Ext hd G0 H0 G' H ∧ ∀ b, b ≠ p → G' b = G b := by
      have sm : Same G (upd G p ob) := fun b u z => by rw [upd_ne (ne_of_none z h2)]; exact z
      refine ⟨upd G p ob, sm, fun b u z => ?_, fun a ea => ?_, ?_, ⟨S.ext.g.trans sm, S.ext.h, fun b u z => ?_, fun b m => ?_⟩, fun b hb => upd_ne hb⟩
      · by_cases hb : b = p
        · subst hb; rw [upd_same] at z; cases z; exact q
        · rw [upd_ne hb] at z; exact S.sta.sub b u z
      · obtain ⟨n1, c, cells, p1, l, m, k, e1, e2, r⟩ := S.sta.hand a ea
        refine ⟨by rw [upd_ne (by rintro rfl; exact h3 ea)]; exact n1, c, cells, p1, l, m, k, e1, sm.seq e2, r⟩
      · cases d with
        | lst l => obtain ⟨vs, e1, r1⟩ := h4; rw [q] at e1; cases e1; exact .lst upd_same (r1.mono sm)
        | lstA a l => obtain ⟨pa, vs, e1, r1⟩ := h4; subst pa; rw [q] at e1; cases e1; exact .lstA upd_same (r1.mono sm)
        | dK ks l => obtain ⟨vs, e1, l1, r1⟩ := h4; rw [q] at e1; cases e1; exact .dK upd_same l1 (r1.mono sm)
        | dT ks l => obtain ⟨vs, e1, l1, r1⟩ := h4; rw [q] at e1; cases e1; exact .dT upd_same l1 (r1.mono sm)
        | ins C ns l => obtain ⟨dx, vs, e1, l1, r1⟩ := h4; rw [q] at e1; cases e1; exact .ins upd_same l1 (r1.mono sm)
        | insA a C ns l => obtain ⟨pa, dx, vs, e1, l1, r1⟩ := h4; subst pa; rw [q] at e1; cases e1; exact .insA upd_same l1 (r1.mono sm)
        | _ => exact False.elim h4
      · by_cases hb : b = p
        · subst hb; rw [upd_same] at z; cases z; exact q
        · rw [upd_ne hb] at z; exact S.sta.sub b u z
      · rw [upd_ne (by rintro rfl; exact m hp0)]; exact S.ext.old b m
    obtain ⟨G', sm, sb, hh, r, x', oth⟩ := G''
    have inv : ∀ {j : Nat} {d' : D}, (env.set i (Slot.frz d))[j]? = some (.own d') → i ≠ j ∧ env[j]? = some (.own d') := fun {j d'} z => by
      by_cases hij : i = j
      · subst hij; rw [List.getElem?_set_self hi] at z; cases z
      · rw [List.getElem?_set_ne hij] at z; exact ⟨hij, z⟩
    refine ⟨G', ⟨sb, hh, by rw [List.length_set]; exact S.sta.len, fun j d' z => ?_, fun j d' z => ?_, fun j k d1 d2 q z1 z2 y1 y2 => S.sta.sep j k d1 d2 q (inv z1).2 (inv z2).2 y1 y2⟩, x', fun j d' q z y => S.new j d' q (inv z).2 y⟩
    · by_cases hij : i = j
      · subst hij
        rw [List.getElem?_set_self hi] at z
        cases z
        exact ⟨_, h1, r⟩
      · rw [List.getElem?_set_ne hij] at z
        obtain ⟨v, z1, z2⟩ := S.sta.frz j d' z
        exact ⟨v, z1, z2.mono sm⟩
    · obtain ⟨n, z⟩ := inv z
      obtain ⟨q', z1, z2, z3, z4⟩ := S.sta.own j d' z
      refine ⟨q', z1, ?_, z3, z4.mono sm fun _ z => z⟩
      rw [oth q' fun y => n (S.sta.sep i j d d' p e z h1 (by rw [← y]; exact z1))]
      exact z2
  · exact ⟨G, S⟩
theorem ss_frz (i : Nat) (h : SSs X E body F) : SSs X E body (fun env => F (frzE i env)) := h.imp fun T σ H ⟨hd, G0, H0, G, env, S, w⟩ => by
  obtain ⟨G', S'⟩ := S.frz i
  exact ⟨hd, G0, H0, G', frzE i env, S', w⟩
end
end Zf

/-! Zf: loops, lists that change -/
namespace Zf
open PySem L2
section
variable {X : Cx} {E : XK} {e a b c tg : Expr} {f fa fb fc : Env → M D} {g ga gb : Env → M Bool} {es : List Expr} {pos p2 : Pos} {R : Mode} {Kp : Far} {st : Stmt} {rest body : List Stmt} {F F' : Env → M Fl}

theorem bind_of {α β : Type} {o : Option α} {k : α → M β} {Q : β → Prop} {E : Err → Prop} (h : ((M.of o).bind k).wp Q E) : ∃ a, o = some a ∧ (k a).wp Q E := by
  cases o with
  | none => exact False.elim h
  | some a => exact ⟨a, rfl, h⟩

/-! ### another start -/
theorem StaB.rebase {K : PySem.W.Frag} {hd : Option Addr} {G0 H0 G H : Hp} {env : Env} {σ : St} (S : StaB K hd G0 H0 G H env σ) : ∃ H1, Ext hd G0 H0 G H1 ∧ HandOk K hd G H1 ∧ StaB K hd G H1 G H env σ := by
  classical
  -- all that no name holds
  let own : Addr → Prop := fun p => ∃ (i : Nat) (d : D), env[i]? = some (.own d) ∧ σ[i]? = some (some (.ref p))
  let H1 : Hp := fun b => if own b then none else H b
  have yes : ∀ {b}, ¬ own b → H1 b = H b := fun {b} h => if_neg h
  have no : ∀ {b}, own b → H1 b = none := fun {b} h => if_pos h
  have sub : ∀ {b o}, H1 b = some o → H b = some o := fun {b o} h => by
    by_cases q : own b
    · rw [no q] at h; cases h
    · rw [yes q] at h; exact h
  have gown : ∀ {b o}, G b = some o → ¬ own b := fun {b o} z ⟨i, d, e, y⟩ => by
    obtain ⟨p, h1, h2, _⟩ := S.sta.own i d e
    rw [y] at h1
    cases h1
    rw [h2] at z; cases z
  have hown : ∀ {b o}, H0 b = some o → ¬ own b := fun {b o} z ⟨i, d, e, y⟩ => by
    rw [S.new i d b e y] at z; cases z
  have hand : HandOk K hd G H1 := fun a ea => by
    obtain ⟨n1, c, cells, p1, l, m, k, e1, r⟩ := S.sta.hand a ea
    refine ⟨n1, c, cells, p1, l, m, k, ?_, r⟩
    rw [yes]; exact e1
    rintro ⟨i, d, e, y⟩
    obtain ⟨p, h1, _, h3, _⟩ := S.sta.own i d e
    rw [y] at h1; cases h1
    exact h3 ea
  have sg : Same G H1 := fun b o z => by rw [yes (gown z)]; exact S.sta.sub b o z
  refine ⟨H1, ⟨S.ext.g, fun b o n z => by rw [yes (hown z)]; exact S.ext.h b o n z, sg, S.ext.old⟩, hand, S.sta, ⟨Same.refl _, fun b o _ z => sub z, S.sta.sub, fun _ _ => rfl⟩, fun i d p e y => no ⟨i, d, e, y⟩⟩
theorem StaB.trans {K : PySem.W.Frag} {hd : Option Addr} {G0 H0 G1 H1 G H : Hp} {env : Env} {σ : St} (x : Ext hd G0 H0 G1 H1) (h : HandOk K hd G1 H1) (S : StaB K hd G1 H1 G H env σ) : StaB K hd G0 H0 G H env σ :=
  ⟨S.sta, x.trans S.ext h, fun i d p e y => none_back (K := K) x (S.new i d p e y) (by
    obtain ⟨q, h1, _, h3, _⟩ := S.sta.own i d e
    rw [y] at h1; cases h1
    exact h3)⟩
theorem post_trans {K : PySem.W.Frag} {hd : Option Addr} {G0 H0 G1 H1 : Hp} {T : Ends} (x : Ext hd G0 H0 G1 H1) (h : HandOk K hd G1 H1) : ∀ {fl : Fl}, Post K hd G0 H0 T fl → Post K hd G1 H1 T fl
  | .nx _, q => fun σ G H S => q σ G H (S.trans x h)
  | .rt _, q => fun v G H x' h' r => q v G H (x.trans x' h) h' r
  | .ro _, q => fun v G H x' h' r => q v G H (x.trans x' h) h' (mN_le _ _ _ _ _ _ _ _ _ _ x h r)
  | .rte _ _, q => fun v σ G H S r => q v σ G H (S.trans x h) r
  | .bk _, q => fun σ G H S => q σ G H (S.trans x h)
  | .ct _, q => fun σ G H S => q σ G H (S.trans x h)

/-! ### for -/
def loopEnd (m : M Fl) (k : Env → M Fl) : M Fl := m.bind fun fl => match fl with
  | .nx env => k env
  | .ct env => k env
  | .bk env => .pure (.nx env)
  | .ro d => .pure (.ro d)
  | .rte d env => .pure (.rte d env)
  | .rt d => .pure (.rt d)
def forRun (t : D → Env → M Env) (F : Env → M Fl) : List D → Env → M Fl
  | [], env => .pure (.nx env)
  | d :: r, env => (t d env).noErr.bind fun env1 => loopEnd (F env1) (forRun t F r)
def sFor (fi : Env → M (List D)) (t : D → Env → M Env) (F : Env → M Fl) : Env → M Fl := fun env => (fi env).bind fun ds => forRun t F ds env
theorem ss_for {iter : Expr} {vs : List Nat} {wi : Env → M (List D)} {t : D → Env → M Env} (hp : PassesOwn (model X.prog X.w) X.A X.env X.xe) (hc : X.calm = true) (hi : SI X E kE tg iter wi) (hg : SG X E vs tg t) (hb : SSs X E body F)
    (hs : ∀ x, foldedSetIterable iter X.env x = pure x := by intro _; rfl) : SS X E (.For tg iter body [] pos) (sFor wi t F) := (ps_for hp hc hi hg hb hs).imp fun T σ H ⟨hd, G0, H0, G, env, S, w⟩ => by
  refine ⟨hd, G, env, S.sta, (wi env).mono (fun ds q J G1 H1 x1 h1 it => ?_) (fun _ q => S.eok q) w⟩
  have S1 := S.grow x1 h1
  let W : Nat → Nat → St → Hp → Prop := fun i m σ H => m = ds.length - i ∧ i ≤ ds.length ∧ ∃ G2 env2, StaB X.K hd G0 H0 G2 H env2 σ ∧ Same G1 G2 ∧ (forRun t F (ds.drop i) env2).wp (Post X.K hd G0 H0 T) (EOk X.K E hd G0 H0)
  refine ⟨W, ⟨ds.length, rfl, Nat.zero_le _, G1, env, S1, Same.refl _, q⟩, fun i m σ2 H2 hW => ?_⟩
  obtain ⟨rfl, hi, G2, env2, S2, sm, w2⟩ := hW
  obtain ⟨i1, i2, i3⟩ := it G2 H2 ⟨sm, S2.sta.sub⟩
  by_cases hlt : i < ds.length
  · refine .inr ⟨i1 i hlt, W (i + 1) (ds.length - (i + 1)), fun σ' H' n => ⟨_, by omega, n⟩, fun v H3 y => ?_⟩
    obtain ⟨d, G3, ed, gr, rd⟩ := i3 i v H3 (i1 i hlt) y
    rw [List.drop_eq_getElem_cons hlt] at w2
    have ed' : ds[i] = d := by rw [List.getElem?_eq_getElem hlt] at ed; exact Option.some.inj ed
    rw [ed'] at w2
    have S3 := S2.grow gr.ext (gr.hand S2.sta.hand)
    refine ⟨hd, G3, env2, d, S3.sta, rd, (t d env2).mono (fun env1 q1 σ1 S4 o4 _ _ => ?_) (fun _ z => z) w2⟩
    have S5 : StaB X.K hd G0 H0 G3 H3 env1 σ1 := ⟨S4, S3.ext, fun i d p z y => by
      obtain ⟨z1, z2⟩ := o4 i d z
      exact S3.new i d p z1 (by rw [← z2]; exact y)⟩
    obtain ⟨H5, x5, h5, S6⟩ := S5.rebase
    refine ⟨hd, G3, H5, G3, env1, S6, (F env1).mono (fun fl z => ?_) (fun _ z => z.ext x5 h5) q1⟩
    have go : ∀ {env' : Env}, (forRun t F (ds.drop (i + 1)) env').wp (Post X.K hd G0 H0 T) (EOk X.K E hd G0 H0) → ∀ σ' G' H', StaB X.K hd G3 H5 G' H' env' σ' → W (i + 1) (ds.length - (i + 1)) σ' H' :=
      fun w' σ' G' H' S' => ⟨rfl, hlt, G', _, S'.trans x5 h5, (sm.trans gr.g).trans S'.ext.g, w'⟩
    cases fl with
    | nx env' => exact go z
    | ct env' => exact go z
    | bk env' => exact fun σ' G' H' S' => z σ' G' H' (S'.trans x5 h5)
    | rt d => exact fun v G' H' x' h' r => z v G' H' (x5.trans x' h5) h' r
    | ro d => exact fun v G' H' x' h' r => z v G' H' (x5.trans x' h5) h' (mN_le _ _ _ _ _ _ _ _ _ _ x5 h5 r)
    | rte d env => exact fun v σ' G' H' S' r => z v σ' G' H' (S'.trans x5 h5) r
  · have e : i = ds.length := by omega
    subst e
    rw [List.drop_length] at w2
    exact .inl ⟨i2, w2 σ2 G2 H2 S2⟩

/-! ### while -/
def sWhile (g : Env → M Bool) (F : Env → M Fl) : Env → M Fl := fun env => ⟨fun Q E => ∃ W : Nat → Env → Prop, (∃ m, W m env) ∧ ∀ m env, W m env → (g env).wp (fun b => match b with
    | true => (F env).wp (fun fl => match fl with
      | .nx env' => ∃ m', m' < m ∧ W m' env'
      | .ct env' => ∃ m', m' < m ∧ W m' env'
      | .bk env' => Q (.nx env')
      | .ro d => Q (.ro d)
      | .rte d env => Q (.rte d env)
      | .rt d => Q (.rt d)) E
    | false => Q (.nx env)) E, fun {Q Q' E E'} h h' ⟨W, w0, turn⟩ => ⟨W, w0, fun m env w => (g env).mono (fun b q => by
      cases b with
      | true => exact (F env).mono (fun fl z => by
          cases fl with
          | nx _ => exact z
          | ct _ => exact z
          | bk _ => exact h _ z
          | ro _ => exact h _ z
          | rte _ _ => exact h _ z
          | rt _ => exact h _ z) h' q
      | false => exact h _ q) h' (turn m env w)⟩⟩
theorem ss_while (hp : PassesOwn (model X.prog X.w) X.A X.env X.xe) (hc : ST X E c g) (hb : SSs X E body F) : SS X E (.While c body [] pos) (sWhile g F) := (ps_while hp hc hb).imp fun T σ H ⟨hd, G0, H0, G, env, S, w⟩ => by
  obtain ⟨W, ⟨m0, w0⟩, turn⟩ := w
  refine ⟨fun m σ H => ∃ G env, StaB X.K hd G0 H0 G H env σ ∧ W m env, ⟨m0, G, env, S, w0⟩, fun m σ1 H1 ⟨G1, env1, S1, w1⟩ => ?_⟩
  refine test_in S1 ((g env1).mono (fun b q G2 H2 S2 => ?_) (fun _ q => q) (turn m env1 w1))
  cases b with
  | true =>
    refine iteT ⟨fun σ H => ∃ m', m' < m ∧ ∃ G env, StaB X.K hd G0 H0 G H env σ ∧ W m' env, fun σ' H' ⟨m', h, z⟩ => ⟨m', h, z⟩, hd, G0, H0, G2, env1, S2, (F env1).mono (fun fl z => ?_) (fun _ z => z) q⟩
    cases fl with
    | nx env' => exact fun σ' G' H' S' => let ⟨m', h, z⟩ := z; ⟨m', h, G', env', S', z⟩
    | ct env' => exact fun σ' G' H' S' => let ⟨m', h, z⟩ := z; ⟨m', h, G', env', S', z⟩
    | bk env' => exact z
    | rt d => exact z
    | ro d => exact z
    | rte d env => exact z
  | false => exact iteF (q σ1 G2 H2 S2)

/-! ### a list that a name holds -/
def ownL (i : Nat) (env : Env) : M (List D) := match env[i]? with
  | some (.own (.lst l)) => .pure l
  | _ => .stuck
theorem own_at {K : PySem.W.Frag} {hd : Option Addr} {G0 H0 G H : Hp} {env : Env} {σ : St} {i : Nat} {l : List D} (S : StaB K hd G0 H0 G H env σ) (e : env[i]? = some (.own (.lst l))) :
    ∃ p vs, σ[i]? = some (some (.ref p)) ∧ H p = some (.lst vs) ∧ Reps K hd G l vs ∧ ∀ G' H' l' vs', StaB K hd G0 H0 G' H' env σ → Reps K hd G' l' vs' → StaB K hd G0 H0 G' (upd H' p (.lst vs')) (env.set i (.own (.lst l'))) σ := by
  obtain ⟨p, h1, h2, h3, vs, h4, h5⟩ := S.sta.own i _ e
  have hi : i < env.length := (List.getElem?_eq_some_iff.mp e).1
  refine ⟨p, vs, h1, h4, h5, fun G' H' l' vs' S' r' => ?_⟩
  obtain ⟨p', h1', h2', h3', _⟩ := S'.sta.own i _ e
  rw [h1] at h1'
  cases h1'
  have hp0 := S'.new i _ p e h1
  have ng : ∀ b o, G' b = some o → b ≠ p := fun b o z y => by rw [y, h2'] at z; cases z
  have inv : ∀ {j : Nat} {d' : D}, (env.set i (Slot.own (.lst l')))[j]? = some (.own d') → (i = j ∧ d' = .lst l') ∨ (i ≠ j ∧ env[j]? = some (.own d')) := fun {j d'} z => by
    by_cases hij : i = j
    · subst hij
      rw [List.getElem?_set_self hi] at z
      cases z
      exact .inl ⟨rfl, rfl⟩
    · rw [List.getElem?_set_ne hij] at z
      exact .inr ⟨hij, z⟩
  have old : ∀ {j : Nat} {d' : D}, (env.set i (Slot.own (.lst l')))[j]? = some (.own d') → ∃ d2, env[j]? = some (.own d2) := fun {j d'} z => by
    rcases inv z with ⟨e1, _⟩ | ⟨_, z⟩
    · exact ⟨_, by rw [← e1]; exact e⟩
    · exact ⟨_, z⟩
  refine ⟨⟨fun b o z => ?_, fun a ea => ?_, by rw [List.length_set]; exact S'.sta.len, fun j d' z => ?_, fun j d' z => ?_, fun j k d1 d2 q z1 z2 y1 y2 => ?_⟩, ⟨S'.ext.g, fun b o n z => ?_, fun b o z => ?_, S'.ext.old⟩, fun j d' q z y => ?_⟩
  · rw [upd_ne (ng b o z)]; exact S'.sta.sub b o z
  · obtain ⟨n1, c1, cells, p1, l, m, k, z1, z2⟩ := S'.sta.hand a ea
    exact ⟨n1, c1, cells, p1, l, m, k, by rw [upd_ne (fun z => h3 (by rw [← z]; exact ea))]; exact z1, z2⟩
  · by_cases hij : i = j
    · subst hij
      rw [List.getElem?_set_self hi] at z; cases z
    · rw [List.getElem?_set_ne hij] at z
      exact S'.sta.frz j d' z
  · rcases inv z with ⟨e1, e2⟩ | ⟨n, z⟩
    · subst e1 e2
      exact ⟨p, h1, h2', h3, vs', upd_same, r'⟩
    · obtain ⟨q, y1, y2, y3, y4⟩ := S'.sta.own j d' z
      have nq : q ≠ p := fun y => n (S'.sta.sep i j _ d' p e z h1 (by rw [← y]; exact y1))
      exact ⟨q, y1, y2, y3, y4.mono (Same.refl _) fun o z => by rw [upd_ne nq]; exact z⟩
  · obtain ⟨d1', z1⟩ := old z1
    obtain ⟨d2', z2⟩ := old z2
    exact S'.sta.sep j k d1' d2' q z1 z2 y1 y2
  · rw [upd_ne (fun y => by rw [y, hp0] at z; cases z)]; exact S'.ext.h b o n z
  · rw [upd_ne (ng b o z)]; exact S'.ext.s b o z
  · obtain ⟨d2, z⟩ := old z
    exact S'.new j d2 q z y
theorem ownL_wp {i : Nat} {env : Env} {Q : List D → Prop} {E : Err → Prop} (w : (ownL i env).wp Q E) : ∃ l, env[i]? = some (.own (.lst l)) ∧ Q l := by
  unfold ownL at w
  split at w
  · rename_i l e
    exact ⟨l, e, w⟩
  · exact False.elim w
def sAppend (i : Nat) (f : Env → M D) : Env → M Fl := fun env => (ownL i env).bind fun l => (f env).bind fun d => .ask (l.length < sizeLine) (.pure (.nx (env.set i (.own (.lst (l ++ [d]))))))
theorem ss_append (i : Nat) {x : Str} {p1 p3 p4 : Pos} (he : SE X E mE e f) (hN : X.N[i]? = some x := by rfl) (hv : Vis X.env.scope x := by first | exact Or.inl rfl | exact Or.inr (Or.inl rfl) | exact Or.inr (Or.inr rfl)) (hd : (x == ("__debug__" : Str)) = false := by decide)
    (hcd : (x == ("__classdict__" : Str)) = false := by decide) (hl : (p3.endLine == p4.line) = true := by rfl) (hs : starEach [e] X.env = (false, eval e X.env) :: starEach [] X.env := by rfl)
    (hfew : ((backTo p4 (starEach [e] X.env)).all (fun x => !x.1) && (backToKw p4 (keywordEach [] X.env)).all (fun x => x.1.isSome) && decide ([e].length + ([] : List Keyword).length + (if ([] : List Keyword).isEmpty then 0 else 1) < 30)) = true := by rfl)
    (hsw : swapsWith (.Call (.Attribute (.Name x p1) "append" p3) [e] [] p4) none pos.line X.env = pure false := by rfl) (hb : attributeBase (.Name x p1) "append" X.env (eval (.Name x p1) X.env) = eval (.Name x p1) X.env := by rfl) :
    SS X E (.Expr (.Call (.Attribute (.Name x p1) "append" p3) [e] [] p4) pos) (sAppend i f) :=
  (ps_expr (pe_bm PySem.F.plainAttrs_list PySem.F.slot_list_append PySem.F.type_list_append mt_append (pe_var hN hv hd hcd) (pa_cons he pa_nil hs) hb hfew hl hs) hsw).imp fun T σ H ⟨hd', G0, H0, G, env, S, w⟩ => by
    obtain ⟨l, el, w⟩ := ownL_wp w
    obtain ⟨p, vs, h1, h2, h3, _⟩ := own_at S el
    refine ⟨.ref p, h1, .inl ⟨rfl, vs, SqL.of h2⟩, ?_⟩
    refine expr_in S ((f env).mono (fun d ⟨q1, q2⟩ v G' H' S' x' r => ?_) (fun _ q => q) w)
    obtain ⟨p', vs', h1', h2', h3', st⟩ := own_at S' el
    rw [h1] at h1'
    cases h1'
    exact ⟨p, vs', v, rfl, rfl, h2', by rw [← h3'.length]; exact q1, q2 σ G' _ (st G' H' _ _ S' (h3'.append (.cons r .nil)))⟩
/-- x.extend(list) -/
def lstD : D → M (List D)
  | .lst l => .pure l
  | _ => .stuck
def sExtend (i : Nat) (f : Env → M D) : Env → M Fl := fun env => (ownL i env).bind fun l => (f env).bind fun d => (lstD d).bind fun m => .ask (l.length + m.length ≤ sizeLine) (.pure (.nx (env.set i (.own (.lst (l ++ m))))))
theorem ss_extend (i : Nat) {x : Str} {p1 p3 p4 : Pos} (he : SE X E mB e f) (hN : X.N[i]? = some x := by rfl) (hv : Vis X.env.scope x := by first | exact Or.inl rfl | exact Or.inr (Or.inl rfl) | exact Or.inr (Or.inr rfl)) (hd : (x == ("__debug__" : Str)) = false := by decide)
    (hcd : (x == ("__classdict__" : Str)) = false := by decide) (hl : (p3.endLine == p4.line) = true := by rfl) (hs : starEach [e] X.env = (false, eval e X.env) :: starEach [] X.env := by rfl)
    (hfew : ((backTo p4 (starEach [e] X.env)).all (fun x => !x.1) && (backToKw p4 (keywordEach [] X.env)).all (fun x => x.1.isSome) && decide ([e].length + ([] : List Keyword).length + (if ([] : List Keyword).isEmpty then 0 else 1) < 30)) = true := by rfl)
    (hsw : swapsWith (.Call (.Attribute (.Name x p1) "extend" p3) [e] [] p4) none pos.line X.env = pure false := by rfl) (hb : attributeBase (.Name x p1) "extend" X.env (eval (.Name x p1) X.env) = eval (.Name x p1) X.env := by rfl) :
    SS X E (.Expr (.Call (.Attribute (.Name x p1) "extend" p3) [e] [] p4) pos) (sExtend i f) :=
  (ps_expr (pe_bm PySem.F.plainAttrs_list PySem.F.slot_list_extend PySem.F.type_list_extend mt_extend (pe_var hN hv hd hcd) (pa_cons he pa_nil hs) hb hfew hl hs) hsw).imp fun T σ H ⟨hd', G0, H0, G, env, S, w⟩ => by
    obtain ⟨l, el, w⟩ := ownL_wp w
    obtain ⟨p, vs, h1, h2, h3, _⟩ := own_at S el
    refine ⟨.ref p, h1, .inl ⟨rfl, vs, SqL.of h2⟩, ?_⟩
    refine expr_in S ((f env).mono (fun d q v G' H' S' x' r => ?_) (fun _ q => q) w)
    cases d with
    | lst m =>
      obtain ⟨q1, q2⟩ := q
      obtain ⟨p', vs', h1', h2', h3', st⟩ := own_at S' el
      rw [h1] at h1'
      cases h1'
      obtain ⟨b, us, rfl, hb, rb⟩ := RepB.lst S'.sta.sub r
      exact ⟨p, b, vs', us, rfl, rfl, h2', hb, by rw [← h3'.length, ← rb.length]; exact q1, q2 σ G' _ (st G' H' _ _ S' (h3'.append rb))⟩
    | _ => exact False.elim q
/-- x[k] = e -/
def sSetItem (i : Nat) (f fk : Env → M D) : Env → M Fl := fun env => (ownL i env).bind fun l => (f env).bind fun d => (fk env).bind fun k => (intD k).bind fun k => (M.of (ixN l.length k)).bind fun j => .pure (.nx (env.set i (.own (.lst (l.set j d)))))
theorem ss_setItem (i : Nat) {x : Str} {p1 p3 : Pos} {k : Expr} {fk : Env → M D} (he : SE X E mE e f) (hk : SE X E mB k fk) (hN : X.N[i]? = some x := by rfl) (hv : Vis X.env.scope x := by first | exact Or.inl rfl | exact Or.inr (Or.inl rfl) | exact Or.inr (Or.inr rfl)) (hd : (x == ("__debug__" : Str)) = false := by decide)
    (hcd : (x == ("__classdict__" : Str)) = false := by decide)
    (ha : ∀ v, assign (.Subscript (.Name x p1) k p3) X.env v = (do
      let ov ← holding [v] (eval (.Name x p1) X.env)
      let iv ← holding [v, ov] (eval k X.env)
      standAt p3
      holding [v, ov, iv] (setItem ov iv v)
      release [v, ov, iv] []) := by intro _; rfl)
    (hs : swapsWithSole [.Subscript (.Name x p1) k p3] e pos.line X.env = pure false := by rfl) (hw : swappedStores [.Subscript (.Name x p1) k p3] e X.env = pure none := by rfl) (h1 : (assignEach [.Subscript (.Name x p1) k p3] X.env).map (·.2) = [assign (.Subscript (.Name x p1) k p3) X.env] := by rfl) :
    SS X E (.Assign [.Subscript (.Name x p1) k p3] e pos) (sSetItem i f fk) := (ps_asg he (pg_sub (pe_var hN hv hd hcd) hk set_list ha) hs hw h1).imp fun T σ H ⟨hd', G0, H0, G, env, S, w⟩ => by
  obtain ⟨l, el, w⟩ := ownL_wp w
  refine expr_in S ((f env).mono (fun d q v G1 H1 S1 x1 r1 => ?_) (fun _ q => q) w)
  obtain ⟨p, vs, h1, h2, h3, _⟩ := own_at S1 el
  refine ⟨.ref p, h1, expr_in S1 ((fk env).mono (fun kd q u G2 H2 S2 x2 r2 => ?_) (fun _ q => q) q)⟩
  cases kd with
  | int k =>
    obtain ⟨j, ej, q⟩ := bind_of q
    obtain ⟨p', vs', h1', h2', h3', st⟩ := own_at S2 el
    rw [h1] at h1'
    cases h1'
    cases RepB.int r2
    exact ⟨p, vs', k, j, rfl, rfl, h2', by rw [← h3'.length]; exact ej, q σ G2 _ (st G2 H2 _ _ S2 (h3'.set (r1.mono x2.g) j))⟩
  | _ => exact False.elim q
/-- y = x.pop(), y = x.pop(k) -/
def sPop (sl : D → Slot) (y i : Nat) : Env → M Fl := fun env => (ownL i env).bind fun l => (M.of l.getLast?).bind fun d => .pure (.nx ((env.set i (.own (.lst l.dropLast))).set y (sl d)))
theorem reps_last {K : PySem.W.Frag} {hd : Option Addr} {G : Hp} {l : List D} {vs : List V} {d : D} (r : Reps K hd G l vs) (h : l.getLast? = some d) : ∃ v, vs[vs.length - 1]? = some v ∧ Rep K hd G d v := by
  rw [List.getLast?_eq_getElem?, r.length] at h
  exact r.get h
theorem reps_init {K : PySem.W.Frag} {hd : Option Addr} {G : Hp} {l : List D} {vs : List V} (r : Reps K hd G l vs) : Reps K hd G l.dropLast vs.dropLast := by
  rw [List.dropLast_eq_take, List.dropLast_eq_take, r.length]
  exact r.take _
theorem ss_pop (y i : Nat) {x z : Str} {p1 p3 p4 : Pos} (hnd : X.N.Nodup) (hN : X.N[i]? = some x := by rfl) (hv : Vis X.env.scope x := by first | exact Or.inl rfl | exact Or.inr (Or.inl rfl) | exact Or.inr (Or.inr rfl)) (hd : (x == ("__debug__" : Str)) = false := by decide)
    (hcd : (x == ("__classdict__" : Str)) = false := by decide) (hl : (p3.endLine == p4.line) = true := by rfl) (hy : X.N[y]? = some z := by rfl) (hx : Loc X.env.scope z := by first | exact Or.inl rfl | exact Or.inr rfl)
    (hsw : swapsWith (.Call (.Attribute (.Name x p1) "pop" p3) [] [] p4) (some (.Name z p2)) pos.line X.env = pure false := by rfl) (hf : X.fn z = true ∨ X.env.scope.names.lookup z = some .local := by first | exact .inl rfl | exact .inr rfl | assumption)
    (hb : attributeBase (.Name x p1) "pop" X.env (eval (.Name x p1) X.env) = eval (.Name x p1) X.env := by rfl) :
    SS X E (.Assign [.Name z p2] (.Call (.Attribute (.Name x p1) "pop" p3) [] [] p4) pos) (sPop slE y i) :=
  (ps_set hnd hy hx (pe_bm0 PySem.F.plainAttrs_list PySem.F.slot_list_pop PySem.F.type_list_pop mt_pop (pe_var hN hv hd hcd) hb hl) hsw hf).imp fun T σ H ⟨hd', G0, H0, G, env, S, w⟩ => by
    obtain ⟨l, el, w⟩ := ownL_wp w
    obtain ⟨d, ed, w⟩ := bind_of w
    obtain ⟨p, vs, h1, h2, h3, st⟩ := own_at S el
    obtain ⟨v, hv', rv⟩ := reps_last h3 ed
    refine ⟨.ref p, h1, .inl ⟨rfl, vs, SqL.of h2⟩, p, vs, v, rfl, rfl, h2, hv', ?_⟩
    have S1 := st G H _ _ S (reps_init h3)
    exact w _ G _ (storE S1 (Ext.refl S1.sta.sub) S1 (show mE X.K hd' (upd H p (.lst vs.dropLast)) G (upd H p (.lst vs.dropLast)) d v from rv))
/-- x += e of ints -/
def sAug (i : Nat) (f : Env → M D) (op : D → D → M D) : Env → M Fl := fun env => (eVar i env).bind fun x => (f env).bind fun y => (op x y).bind fun d => .pure (.nx (env.set i (.frz d)))
def addI : D → D → M D
  | .int i, .int j => .pure (.int (i + j))
  | _, _ => .stuck
theorem ss_augAdd (i : Nat) {x : Str} {p2 : Pos} (hnd : X.N.Nodup) (he : SE X E mB e f) (hi : X.N[i]? = some x := by rfl) (hx : Loc X.env.scope x := by first | exact Or.inl rfl | exact Or.inr rfl)
    (hf : X.fn x = true ∨ X.env.scope.names.lookup x = some .local := by first | exact .inl rfl | exact .inr rfl | assumption) : SS X E (.AugAssign (.Name x p2) .Add e pos) (sAug i f addI) := (ps_aug hnd hi hx he ip_add hf).imp fun T σ H ⟨hd, G0, H0, G, env, S, w⟩ => by
  have w : (eVar i env).wp _ _ := w
  unfold eVar at w
  split at w
  · rename_i d ed
    obtain ⟨v, h1, h2⟩ := S.sta.frz i d ed
    refine ⟨v, h1, expr_in S ((f env).mono (fun y q u G' H' S' x' r => ?_) (fun _ q => q) w)⟩
    have q : (addI d y).wp _ _ := q
    unfold addI at q
    split at q
    · cases h2
      cases RepB.int r
      exact ⟨_, _, rfl, rfl, q _ G' H' (storE S' (Ext.refl S'.sta.sub) S' (show mE X.K hd H' G' H' _ _ from .int _))⟩
    · exact False.elim q
  · exact False.elim w
end
end Zf

/-! Zf: defs and their calls -/
namespace Zf
open PySem L2 PySem.Spec PyProof.Rows

/-- where code may stand: room for so many calls one in another, nothing that prints is on its way -/
class Cz (X : Cx) (k : outParam Nat) : Prop where
  room : Room k X.A
  quiet : X.A.guards = some []
  calm : X.calm = true
  nd : X.N.Nodup
instance {X : Cx} {k : Nat} [c : Cz X k] {s : Shared} {H : Hp} {scope : Scope} {env : PySem.Env} {fp : List Addr} : Cz (X.blk s H scope env fp) k := ⟨c.room, c.quiet, c.calm, c.nd⟩
instance {X : Cx} {k : Nat} [c : Cz X k] {E : Value → Shared → Prop} : Cz (X.wish E) k := ⟨c.room, c.quiet, c.calm, c.nd⟩
theorem Cz.r0 {X : Cx} {k : Nat} (c : Cz X k) : Room 0 X.A := c.room.mono (Nat.zero_le _)

/-- a def keeps a promise, wherever nothing that prints is on its way -/
structure FnZ (P : Program) (w : World) (K : PySem.W.Frag) (mg : Str → Option Value) (base : Heap) (CX : CXT) (k : Nat) (f : Addr) (fd : FuncData) (ps : List Str) (sp : Sp) : Prop where
  len : ∀ vs H Q E, sp vs H Q E → vs.length = ps.length
  run : ∀ (A : Around) (fr : List PySem.Env) (s : Shared) (H : Hp) (ar : Args) (us : List Value) (vs : List V) (Q : VK) (E : XK), Room k A → A.guards = some [] → Env0 P w K mg base A fr s H →
    BindsTo s fd ar (ps.zip us) → Vals vs us → sp vs H Q E → codeAny (model P w) A (.call (.ref f) ar) (CR CX fr P w H s Q E) s
section
variable {P : Program} {w : World} {K : PySem.W.Frag} {mg : Str → Option Value} {base : Heap} {CX : CXT} {k : Nat} {f : Addr} {fd : FuncData} {ps : List Str} {sp sp' : Sp}
theorem FnZ.mono {j : Nat} (F : FnZ P w K mg base CX j f fd ps sp) (h : j ≤ k) : FnZ P w K mg base CX k f fd ps sp := ⟨F.len, fun A fr s H ar us vs Q E hr => F.run A fr s H ar us vs Q E (hr.mono h)⟩
theorem FnZ.imp (F : FnZ P w K mg base CX k f fd ps sp) (h : ∀ vs H Q E, sp' vs H Q E → sp vs H Q E) : FnZ P w K mg base CX k f fd ps sp' :=
  ⟨fun vs H Q E q => F.len vs H Q E (h _ _ _ _ q), fun A fr s H ar us vs Q E hr hg he hb hv hs => F.run A fr s H ar us vs Q E hr hg he hb hv (h _ _ _ _ hs)⟩
/-- by its body -/
theorem FnZ.of {x qual : Str} {st : Stmt} {N : List Str} (F : Fun K x qual st f fd) (S : FnScope N ps (defScope st)) (len : ∀ vs H Q E, sp vs H Q E → vs.length = ps.length)
    (body : ∀ (cdv : Value) (A : Around) (fr : List PySem.Env) (s : Shared) (H : Hp) (vs : List V) (Q : VK) (E : XK), Cz (cxOf CX P w K mg base N qual (defScope st) f cdv A fr s H E) k → sp vs H Q E →
      ∃ t, PSs (cxOf CX P w K mg base N qual (defScope st) f cdv A fr s H E) (defBody st) t ∧ t { nx := fun _ H' => Q .non H', rt := Q } (start N vs) H) : FnZ P w K mg base CX (k + 1) f fd ps sp := by
  obtain ⟨oc, od, kV, doc, pm, an, cdv, ct, osl, rfl, lk, hcd⟩ := F.ex
  refine ⟨len, fun A fr s H ar us vs Q E hr hg e0 hb r hsp => ?_⟩
  have hl : vs.length = ps.length := len _ _ _ _ hsp
  have kin : K.In s.heap := e0.mod.kin.keeps fun b o z => (e0.bs b o z).1
  have nl : s.heap.NoLimit := e0.mod.nolimit.keeps fun b o z => (e0.bs b o z).1
  have kinds : ∀ y ∈ ps.zip us, (defScope st).names.lookup y.1 = some .local ∨ ((defScope st).names.lookup y.1 = some .cell ∧ ((cellsFrom (s.heap.objs.size + 1) (defScope st).names []).lookup y.1).isSome = true) := by
    rintro ⟨n, v⟩ hy
    rcases S.par n (List.of_mem_zip hy).1 with z | z
    · exact Or.inl z
    · exact Or.inr ⟨z, PySem.W.cellsFrom_some _ _ _ (Or.inl z)⟩
  refine codeAny_call_function hr.depth (kin _ _ lk) rfl S.co S.gen rfl (PySem.W.codeRec_of kin hcd) (hb _ _ _ _ ?_)
  refine wpAny_newFunctionEnv_cells S.kind kinds fun env he s1 x => ?_
  subst he
  refine ⟨nl.keeps x.toInCall.keep, codeAny_func ?_⟩
  have cz : Cz (cxOf CX P w K mg base N qual (defScope st) f cdv A fr s H E) k := ⟨hr.deeper _, hg, rfl, S.nd⟩
  obtain ⟨t, ht, q0⟩ := body cdv A fr s H vs Q E cz hsp
  have I := inv_start (CX := CX) (E := E) (f := f) (qual := qual) (cd := cdv) S hr.hd e0 hl r x
  refine wpAny_mono (ht.run [] s1 (start N vs) H _ I q0) (fun fl s2 q => ?_) fun _ _ z => z
  cases fl with
  | next =>
    obtain ⟨σ2, H2, J, q⟩ := q
    exact ⟨.non, H2, J.os, J.bare, J.base, J.hok, rfl, q⟩
  | ret u =>
    obtain ⟨v, σ2, H2, J, rv, q⟩ := q
    exact ⟨v, H2, J.os, J.bare, J.base, J.hok, rv, q⟩
  | brk => exact (let ⟨_, _, _, q⟩ := q; False.elim q)
  | cont => exact (let ⟨_, _, _, q⟩ := q; False.elim q)
end

/-! ### calls -/
section
variable {X : Cx} {CX : CXT} {k j : Nat} {f : Addr} {fd : FuncData} {ps : List Str} {sp : Sp} {E : XK} {x : Str} {p pos : Pos} {e : Expr} {es : List Expr} {t : TA}
theorem run_z {pins : List (Addr × Obj)} {σ : L2.St} {H : Hp} {s : Shared} {Q : VK} {us : List Value} {vs : List V} (F : FnZ X.prog X.w X.K X.mg X.base CX j f fd ps sp) (c : Cz X k) (hj : j ≤ k) (hb : Binds X.K fd ps []) (hx : Passes CX X E)
    (I : Inv X pins σ H s) (r : Vals vs us) (h : sp vs H Q E) : wpAny (model X.prog X.w) X.A (call (.ref f) us) (EP X pins σ Q) X.xe s := by
  have hl : (us ++ ([] : List Value)).length = ps.length := by rw [List.append_nil, ← r.length]; exact F.len _ _ _ _ h
  have hb' := hb s us I.kIn hl
  rw [List.append_nil] at hb'
  refine wpAny_call (codeAny_mono (F.run X.A X.stack s H ⟨us, []⟩ us vs Q E (c.room.mono hj) c.quiet I.env0 hb' r h) fun r s2 q => ?_)
  match r, q with
  | .error e, q => exact hx pins σ H s e s2 I q
  | .ok (.ret _), q => exact I.after q
  | .ok .next, q => exact False.elim q
  | .ok .brk, q => exact False.elim q
  | .ok .cont, q => exact False.elim q
theorem pe_callZ (F : FnZ X.prog X.w X.K X.mg X.base CX j f fd ps sp) (c : Cz X k) (hj : j ≤ k) (hg : Gl X x) (hm : X.mg x = some (.ref f)) (hk : PySem.W.keepIn X.K (.ref f) = true) (hb : Binds X.K fd ps []) (hx : Passes CX X E) (ha : PA X (e :: es) t)
    (hd : (x == ("__debug__" : Str)) = false := by decide) (he : starEach (e :: es) X.env = (false, eval e X.env) :: starEach es X.env := by rfl) (hpl : (backTo pos (starEach es X.env)).any (·.1) = false := by rfl) :
    PE X (.Call (.Name x p) (e :: es) [] pos) (fun σ H Q => t σ H fun vs H1 => sp vs H1 Q E) :=
  ⟨fun pins s σ H Q I h => wpAny_Call_Name_kw (ld_glob I hg hm (PySem.W.callWith_K (h₀ := X.base) I.ok.mod.kin hk (thn (ha.run pos pins s σ H _ I h) fun us s1 ⟨vs, H1, I1, r, q⟩ => ⟨I1.kIn, run_z F c hj hb hx I1 r q⟩) he hpl) hd)⟩
theorem pe_callZ0 (F : FnZ X.prog X.w X.K X.mg X.base CX j f fd ps sp) (c : Cz X k) (hj : j ≤ k) (hg : Gl X x) (hm : X.mg x = some (.ref f)) (hk : PySem.W.keepIn X.K (.ref f) = true) (hb : Binds X.K fd ps []) (hx : Passes CX X E) (hd : (x == ("__debug__" : Str)) = false := by decide) :
    PE X (.Call (.Name x p) [] [] pos) (fun _ H Q => sp [] H Q E) :=
  ⟨fun pins s σ H Q I h => wpAny_Call_Name_kw (ld_glob I hg hm (PySem.W.callWith_K0 I.kIn hk (run_z (us := []) F c hj hb hx I .nil h)) hd)⟩
end

/-! ### what a def is worth -/
/-- called with data for which S stands, it hands back what S says -/
def spF (K : PySem.W.Frag) (n : Nat) (S : List D → M D) : Sp := fun vs H Q E => ∃ hd G ds, Same G H ∧ HandOk K hd G H ∧ Reps K hd G ds vs ∧ ds.length = n ∧
  (S ds).wp (fun d => ∀ v G' H', Ext hd G H G' H' → HandOk K hd G' H' → Rep K hd G' d v → Q v H') (EOk K E hd G H)
section
variable {X : Cx} {CX : CXT} {k j n : Nat} {f : Addr} {fd : FuncData} {ps : List Str} {S : List D → M D} {E : XK} {x : Str} {p pos : Pos} {e : Expr} {es : List Expr} {fs : Env → M (List D)}
theorem spF_args {σ : L2.St} {H : Hp} {Q : VK} (h : tR X.K E mE (fun env => (fs env).bind fun l => .ask (l.length = n) (S l)) σ H Q) : tArgs X.K E mE fs σ H fun vs H1 => spF X.K n S vs H1 Q E := by
  obtain ⟨hd, G, env, St, w⟩ := h
  refine ⟨hd, G, env, St, (fs env).mono (fun l ⟨hn, q⟩ vs G1 H1 x1 h1 r1 => ?_) (fun _ q => q) w⟩
  exact ⟨hd, G1, l, x1.s, h1, r1.reps, hn, (S l).mono (fun d q v G' H' x' h' r' => q v G' H' (x1.trans x' h1) h' r') (fun _ q => q.ext x1 h1) q⟩
/-- f(..) -/
def vCall (n : Nat) (S : List D → M D) (fs : Env → M (List D)) : Env → M D := fun env => (fs env).bind fun l => .ask (l.length = n) (S l)
theorem se_call (F : FnZ X.prog X.w X.K X.mg X.base CX j f fd ps (spF X.K n S)) [c : Cz X k] (hm : X.mg x = some (.ref f)) (hk : PySem.W.keepIn X.K (.ref f) = true) (hb : Binds X.K fd ps []) (hx : Passes CX X E) (ha : SA X E mE (e :: es) fs) (hj : j ≤ k := by decide) (hg : Gl X x := by rfl)
    (hd : (x == ("__debug__" : Str)) = false := by decide) (he : starEach (e :: es) X.env = (false, eval e X.env) :: starEach es X.env := by rfl) (hpl : (backTo pos (starEach es X.env)).any (·.1) = false := by rfl) :
    SE X E mE (.Call (.Name x p) (e :: es) [] pos) (vCall n S fs) := (pe_callZ F c hj hg hm hk hb hx ha hd he hpl).imp fun σ H Q h => spF_args h
/-- the names at the entry -/
def startE (N : List Str) (ds : List D) : Env := ds.map .frz ++ List.replicate (N.length - ds.length) .no
theorem sta_start {K : PySem.W.Frag} {hd : Option Addr} {G H : Hp} {N : List Str} {ds : List D} {vs : List V} (s : Same G H) (h : HandOk K hd G H) (r : Reps K hd G ds vs) : StaB K hd G H G H (startE N ds) (L2.start N vs) := by
  have hl := r.length
  have none_own : ∀ (i : Nat) d, (startE N ds)[i]? ≠ some (.own d) := fun i d z => by
    unfold startE at z
    by_cases hi : i < ds.length
    · rw [List.getElem?_append_left (by simpa using hi), List.getElem?_map] at z
      cases e : ds[i]? with
      | none => rw [e] at z; cases z
      | some x => rw [e] at z; cases z
    · rw [List.getElem?_append_right (by simpa using hi), List.getElem?_replicate] at z
      split at z <;> cases z
  refine ⟨⟨s, h, ?_, fun i d z => ?_, fun i d z => absurd z (none_own i d), fun i j d e p z => absurd z (none_own i d)⟩, Ext.refl s, fun i d p z => absurd z (none_own i d)⟩
  · unfold startE L2.start
    simp only [List.length_append, List.length_map, List.length_replicate]
    omega
  · unfold startE at z
    unfold L2.start
    by_cases hi : i < ds.length
    · rw [List.getElem?_append_left (by simpa using hi), List.getElem?_map] at z
      rw [List.getElem?_append_left (by simpa using (by omega : i < vs.length)), List.getElem?_map]
      cases e : ds[i]? with
      | none => rw [e] at z; cases z
      | some x =>
        rw [e] at z
        cases z
        obtain ⟨v, h1, h2⟩ := r.get e
        exact ⟨v, by rw [h1]; rfl, h2⟩
    · rw [List.getElem?_append_right (by simpa using hi), List.getElem?_replicate] at z
      split at z <;> cases z
/-- what a body hands back -/
def retD (m : M Fl) : M D := m.bind fun fl => match fl with
  | .rt d => .pure d
  | .nx _ => .pure .non
  | _ => .stuck
/-- THE RULE for a def of the text -/
theorem fnz {P : Program} {w : World} {K : PySem.W.Frag} {mg : Str → Option Value} {base : Heap} {q : Str} {st : Stmt} {N : List Str} (F : Fun K x q st f fd) (SC : FnScope N ps (defScope st)) (hn : ps.length = n)
    (hs : ∀ ds, ds.length = n → ∀ Q (E : Err → Prop), (S ds).wp Q E → ∀ (cdv : Value) (A : Around) (fr : List PySem.Env) (s : Shared) (H : Hp) (E0 : XK), Cz (cxOf CX P w K mg base N q (defScope st) f cdv A fr s H E0) k →
      ∃ B, SSs (cxOf CX P w K mg base N q (defScope st) f cdv A fr s H E0) E0 (defBody st) B ∧ (retD (B (startE N ds))).wp Q E) : FnZ P w K mg base CX (k + 1) f fd ps (spF K n S) := by
  refine FnZ.of F SC (fun vs H Q E ⟨hd, G, ds, _, _, r, l, _⟩ => by rw [← r.length, l, hn]) fun cdv A fr s H vs Q E0 c ⟨hd, G, ds, sm, hh, r, l, w⟩ => ?_
  obtain ⟨B, hB, z⟩ := hs ds l _ _ w cdv A fr s H E0 c
  refine ⟨_, hB, hd, G, H, G, startE N ds, sta_start sm hh r, (B (startE N ds)).mono (fun fl q => ?_) (fun _ q => q) z⟩
  cases fl with
  | nx env => exact fun σ G' H' S' => q .non G' H' S'.ext S'.sta.hand .non
  | rt d => exact q
  | ro d => exact False.elim q
  | rte d env => exact False.elim q
  | bk env => exact False.elim q
  | ct env => exact False.elim q
end
end Zf

/-! Zf: zip of two and of three, enumerate, over lists and tuples in any mix -/
namespace Zf
open PySem L2 PySem.Spec PyProof.Rows

inductive Sk where
  | l | t
def SqK (K : PySem.W.Frag) (H : Hp) (a : Addr) (xs : List V) : Sk → Prop
  | .l => SqL K H a xs
  | .t => SqT K H a xs
/-- its iterator at it, as it stands; its items; the iterator as it begins -/
def itK (h : Heap) (it a : Addr) (i : Nat) : Sk → Prop
  | .l => h.IsListIter it a i
  | .t => h.IsTupleIter it a i
def dkK (h : Heap) (a : Addr) (its : Array Value) : Sk → Prop
  | .l => h.IsList a its
  | .t => h.IsTuple a its
def ioK (a : Addr) : Sk → Obj
  | .l => { cls := .type "list_iterator", data := .fields #[.ref a, .int 0 0] }
  | .t => { cls := .type "tuple_iterator", data := .fields #[.ref a, .int 0 0] }
theorem begK (a : Addr) (its : Array Value) : ∀ k : Sk, Begins (.ref a) (ioK a k) (fun h => dkK h a its k)
  | .l => begins_list a its
  | .t => begins_tuple a its
theorem drwK {P : Program} {w : World} {A : Around} (hh : A.handled = none) (it a : Addr) (hne : a ≠ it) (its : Array Value) : ∀ k : Sk, Draws P w A it [it, a] its.size (fun i v => its[i]? = some v) (fun i h => itK h it a i k ∧ dkK h a its k)
  | .l => Draws.list hh it a hne its
  | .t => Draws.tuple hh it a hne its
theorem itK_at {h h' : Heap} {it a : Addr} {i : Nat} (e : ∀ o, h.get? it = some o → h'.get? it = some o) : ∀ {k : Sk}, itK h it a i k → itK h' it a i k
  | .l, x => Heap.IsListIter.at x e
  | .t, x => Heap.IsTupleIter.at x e
theorem itK_obj {h : Heap} {it a : Addr} {i : Nat} : ∀ {k : Sk}, itK h it a i k → ∃ o, h.get? it = some o ∧ ∀ v, o.data ≠ .cell v
  | .l, ⟨o, e, _, d⟩ => ⟨o, e, fun v z => by rw [d] at z; cases z⟩
  | .t, ⟨o, e, _, d⟩ => ⟨o, e, fun v z => by rw [d] at z; cases z⟩
theorem itK_new {h : Heap} {it a : Addr} : ∀ {k : Sk}, h.get? it = some (ioK a k) → itK h it a 0 k
  | .l, e => ⟨_, e, rfl, rfl⟩
  | .t, e => ⟨_, e, rfl, rfl⟩
theorem sqK_get {X : Cx} {pins : List (Addr × Obj)} {σ : L2.St} {H : Hp} {s : Shared} {a : Addr} {xs : List V} (I : Inv X pins σ H s) : ∀ {k : Sk}, SqK X.K H a xs k → ∃ its : List Value, Vals xs its ∧ dkK s.heap a its.toArray k ∧ (∃ o, s.heap.get? a = some o)
  | .l, h => let ⟨its, r, p, _⟩ := I.list h; ⟨its, r, p.isList, let ⟨o, e, _⟩ := p.isList; ⟨o, e⟩⟩
  | .t, h => let ⟨its, r, p, _⟩ := I.tuple h; ⟨its, r, p, let ⟨o, e, _⟩ := p; ⟨o, e⟩⟩
theorem sqK_inj {X : Cx} {pins : List (Addr × Obj)} {σ : L2.St} {H : Hp} {s : Shared} {a : Addr} {xs ys : List V} (I : Inv X pins σ H s) : ∀ {k : Sk}, SqK X.K H a xs k → SqK X.K H a ys k → xs = ys
  | .l, h, h' => I.list_inj h h'
  | .t, h, h' => I.tuple_inj h h'

/-! ### three -/
def ItZ3 (K : PySem.W.Frag) (k1 k2 k3 : Sk) (a b c : Addr) : It :=
  ⟨fun i H => ∃ xs ys zs : List V, SqK K H a xs k1 ∧ SqK K H b ys k2 ∧ SqK K H c zs k3 ∧ i < min (min xs.length ys.length) zs.length,
    fun i H v H' => ∃ T x y z, v = .ref T ∧ H T = none ∧ H' = upd H T (.tup [x, y, z]) ∧ (∀ xs, SqK K H a xs k1 → xs[i]? = some x) ∧ (∀ ys, SqK K H b ys k2 → ys[i]? = some y) ∧ ∀ zs, SqK K H c zs k3 → zs[i]? = some z,
    fun i H => ∃ xs ys zs : List V, SqK K H a xs k1 ∧ SqK K H b ys k2 ∧ SqK K H c zs k3 ∧ i = min (min xs.length ys.length) zs.length⟩
theorem turn_z3 {P : Program} {w : World} {K : PySem.W.Frag} {elts : List Expr} {kk : Nat} {tpos : Pos} {k1 k2 k3 : Sk} {a b c z TI TO i1 i2 i3 : Addr} (D : ZipSep3 z TI TO i1 i2 i3 [i1, a] [i2, b] [i3, c]) (na : a ≠ i1) (nb : b ≠ i2) (nc : c ≠ i3) :
    Turn P w K (.Tuple elts kk tpos) (ItZ3 K k1 k2 k3 a b c) [z, TI, TO, i1, i2, i3] z (fun i h => IsZip h z TI TO .none ∧ IsTupOf3 h TI (.ref i1) (.ref i2) (.ref i3) ∧ (∃ x y u, IsTupOf3 h TO x y u) ∧ itK h i1 a i k1 ∧ itK h i2 b i k2 ∧ itK h i3 c i k3) where
  mem := by simp
  obj := fun i h ⟨hz, hTI, ⟨x, y, u, hTO⟩, h1, h2, h3⟩ q hq => by
    have e' : q = z ∨ q = TI ∨ q = TO ∨ q = i1 ∨ q = i2 ∨ q = i3 := by simpa using hq
    rcases e' with e | e | e | e | e | e
    · rw [e]; exact ⟨_, hz, fun v y => nomatch y⟩
    · rw [e]; exact ⟨_, hTI, fun v y => nomatch y⟩
    · rw [e]; exact ⟨_, hTO, fun v y => nomatch y⟩
    · rw [e]; exact itK_obj h1
    · rw [e]; exact itK_obj h2
    · rw [e]; exact itK_obj h3
  keep := fun i h h' ⟨hz, hTI, ⟨x, y, u, hTO⟩, h1, h2, h3⟩ k =>
    ⟨k z (by simp) _ hz, k TI (by simp) _ hTI, ⟨x, y, u, k TO (by simp) _ hTO⟩, itK_at (fun o e => k i1 (by simp) o e) h1, itK_at (fun o e => k i2 (by simp) o e) h2, itK_at (fun o e => k i3 (by simp) o e) h3⟩
  item := by
    intro X hP hw hK hc i pins s σ H E I hf ⟨hz, hTI, hTO, h1, h2, h3⟩ ⟨xs, ys, zs, q1, q2, q3, hi⟩
    subst hP hw hK
    obtain ⟨j1, r1, d1, _⟩ := sqK_get I q1
    obtain ⟨j2, r2, d2, _⟩ := sqK_get I q2
    obtain ⟨j3, r3, d3, _⟩ := sqK_get I q3
    have hh : X.A.in1.handled = none := I.ok.hd hc
    have G := GoesN.zip3 (elts := elts) (x1 := kk) (pos := tpos) D (drwK (P := X.prog) (w := X.w) hh i1 a na j1.toArray k1) (drwK hh i2 b nb j2.toArray k2) (drwK hh i3 c nc j3.toArray k3)
    have hn : i < min (min j1.toArray.size j2.toArray.size) j3.toArray.size := by
      rw [List.size_toArray, List.size_toArray, List.size_toArray, ← r1.length, ← r2.length, ← r3.length]; exact hi
    refine G.goes i s _ E hn ⟨hz, hTI, hTO, ⟨h1, d1⟩, ⟨h2, d2⟩, ⟨h3, d3⟩⟩ fun v h' tk ⟨T, x, y, u, ev, hT, p1, p2, p3, ht⟩ ⟨hz', hTI', hTO', ⟨h1', _⟩, ⟨h2', _⟩, ⟨h3', _⟩⟩ hk htk => ?_
    subst ev
    have back : ∀ {j : List Value} {xs : List V} {x : Value}, Vals xs j → j.toArray[i]? = some x → ∃ v, xs[i]? = some v ∧ RelV v x := fun {j xs x} r e => by
      have e : j[i]? = some x := by simpa using e
      cases q : xs[i]? with
      | none =>
        rw [r.none_of q] at e; cases e
      | some v =>
        obtain ⟨u, e1, e2⟩ := r.get q
        rw [e] at e1; cases e1
        exact ⟨v, rfl, e2⟩
    obtain ⟨vx, ex, rx⟩ := back r1 p1
    obtain ⟨vy, ey, ry⟩ := back r2 p2
    obtain ⟨vu, eu, ru⟩ := back r3 p3
    have keep : ∀ q o, q ∉ [z, TO, i1, i2, i3] → s.heap.get? q = some o → h'.get? q = some o := hk
    have new : ObjOk X.prog X.w (upd H T (.tup [vx, vy, vu])) h' T (.tup [vx, vy, vu]) := ⟨by show 3 ≤ sizeLine; decide, [x, y, u], .cons rx (.cons ry (.cons ru .nil)), ht⟩
    have hn' : H T = none := I.hok.fresh hT
    refine ⟨.ref T, _, I.turnedNew (t' := tk) (ch := [z, TO, i1, i2, i3]) keep (fun q hq => hf q (by
      have e' : q = z ∨ q = TO ∨ q = i1 ∨ q = i2 ∨ q = i3 := by simpa using hq
      simp only [List.mem_cons, List.not_mem_nil, or_false]
      rcases e' with e | e | e | e | e <;> simp [e])) hT new, rfl, ⟨T, vx, vy, vu, rfl, hn', rfl, fun l hl => by rw [sqK_inj I hl q1]; exact ex, fun l hl => by rw [sqK_inj I hl q2]; exact ey, fun l hl => by rw [sqK_inj I hl q3]; exact eu⟩,
      ⟨hz', hTI', hTO', h1', h2', h3'⟩, fun q hq => ?_⟩
    have old : q ≠ T := by
      have ob : ∃ o, s.heap.get? q = some o := by
        have e' : q = z ∨ q = TI ∨ q = TO ∨ q = i1 ∨ q = i2 ∨ q = i3 := by simpa using hq
        rcases e' with e | e | e | e | e | e
        · rw [e]; exact ⟨_, hz⟩
        · rw [e]; exact ⟨_, hTI⟩
        · rw [e]; obtain ⟨_, _, _, z⟩ := hTO; exact ⟨_, z⟩
        · rw [e]; obtain ⟨o, z, _⟩ := itK_obj h1; exact ⟨o, z⟩
        · rw [e]; obtain ⟨o, z, _⟩ := itK_obj h2; exact ⟨o, z⟩
        · rw [e]; obtain ⟨o, z, _⟩ := itK_obj h3; exact ⟨o, z⟩
      obtain ⟨o, z⟩ := ob
      exact Nat.ne_of_lt (Nat.lt_of_lt_of_le (Heap.lt_size z) hT)
    rw [upd_ne old]
    exact (hf q hq).1
  done := by
    intro X hP hw hK hc i pins s σ H E I hf ⟨hz, hTI, hTO, h1, h2, h3⟩ ⟨xs, ys, zs, q1, q2, q3, hi⟩
    subst hP hw hK
    obtain ⟨j1, r1, d1, _⟩ := sqK_get I q1
    obtain ⟨j2, r2, d2, _⟩ := sqK_get I q2
    obtain ⟨j3, r3, d3, _⟩ := sqK_get I q3
    have hh : X.A.in1.handled = none := I.ok.hd hc
    have G := GoesN.zip3 (elts := elts) (x1 := kk) (pos := tpos) D (drwK (P := X.prog) (w := X.w) hh i1 a na j1.toArray k1) (drwK hh i2 b nb j2.toArray k2) (drwK hh i3 c nc j3.toArray k3)
    have hn : i = min (min j1.toArray.size j2.toArray.size) j3.toArray.size := by
      rw [List.size_toArray, List.size_toArray, List.size_toArray, ← r1.length, ← r2.length, ← r3.length]; exact hi
    subst hn
    refine G.stops s _ E ⟨hz, hTI, hTO, ⟨h1, d1⟩, ⟨h2, d2⟩, ⟨h3, d3⟩⟩ fun h' tk hk htk => ?_
    exact I.turnedL (t' := tk) (ch := [z, TO, i1, i2, i3]) (fun q o n e => hk q o n e) fun q hq => hf q (by
      have e' : q = z ∨ q = TO ∨ q = i1 ∨ q = i2 ∨ q = i3 := by simpa using hq
      simp only [List.mem_cons, List.not_mem_nil, or_false]
      rcases e' with e | e | e | e | e <;> simp [e])
  self := fun A i s Q E st h => wpAny_pyIter_zip st.1 h
end Zf

/-! Zf: zip and enumerate as what a loop walks -/
namespace Zf
open PySem L2 PySem.Spec PyProof.Rows

/-- a list or a tuple that stays, as far as the heap may go -/
def SqAt (K : PySem.W.Frag) (Kp : Far) (hd : Option Addr) (G H : Hp) (a : Addr) (k : Sk) (l : List D) : Prop := ∀ G1 H1, Kp K hd G H G1 H1 → Same G1 H1 ∧ ∃ vs, SqK K H1 a vs k ∧ Reps K hd G1 l vs
theorem sq_at {R : Mode} {Kp : Far} {K : PySem.W.Frag} {hd : Option Addr} {G H H0 : Hp} {d : D} {v : V} {l : List D} (hk : Kpt R Kp) (s : Same G H) (hh : HandOk K hd G H) (w : (itemsD d).wp (fun x => x = l) (fun _ => False)) (r : R K hd H0 G H d v) : ∃ a k, v = .ref a ∧ SqAt K Kp hd G H a k l := by
  have r0 := hk.keep r (hk.refl s hh)
  unfold itemsD at w
  split at w
  · cases w
    obtain ⟨a, vs, rfl, h1, r1⟩ := r0.lst s
    refine ⟨a, .l, rfl, fun G1 H1 k => ?_⟩
    obtain ⟨b, us, e, h2, r2⟩ := (hk.keep r k).lst (hk.same k)
    cases e
    exact ⟨hk.same k, us, SqL.of h2, r2⟩
  · cases w
    obtain ⟨a, vs, rfl, h1, r1⟩ := r0.tup
    refine ⟨a, .t, rfl, fun G1 H1 k => ?_⟩
    obtain ⟨b, us, e, h2, r2⟩ := (hk.keep r k).tup
    cases e
    exact ⟨hk.same k, us, Same.seqT (hk.same k) h2, r2⟩
  · cases w
    obtain ⟨a, vs, rfl, h1, r1⟩ := r0.scr
    refine ⟨a, .l, rfl, fun G1 H1 k => ?_⟩
    obtain ⟨b, us, e, h2, r2⟩ := (hk.keep r k).scr
    cases e
    exact ⟨hk.same k, us, (hk.same k).seq h2, r2⟩
  · exact False.elim w
theorem items_one {d : D} {Q : List D → Prop} {E : Err → Prop} (w : (itemsD d).wp Q E) : ∃ l, (itemsD d).wp (fun x => x = l) (fun _ => False) ∧ Q l := by
  unfold itemsD at w ⊢
  split at w
  · exact ⟨_, rfl, w⟩
  · exact ⟨_, rfl, w⟩
  · exact ⟨_, rfl, w⟩
  · exact False.elim w
theorem none_in {K : PySem.W.Frag} {hd : Option Addr} {G H : Hp} {d : D} {l : List D} {i : Nat} {v : V} {vs : List V} (r : Reps K hd G l vs) (h : vs[i]? = some v) : ∃ d, l[i]? = some d ∧ Rep K hd G d v := r.getV h

/-! ### three -/
def zip3L : List D → List D → List D → List D
  | a :: l, b :: m, c :: n => .tup [a, b, c] :: zip3L l m n
  | _, _, _ => []
theorem zip3L_length : ∀ l m n : List D, (zip3L l m n).length = min (min l.length m.length) n.length
  | a :: l, b :: m, c :: n => by
    show (zip3L l m n).length + 1 = min (min (l.length + 1) (m.length + 1)) (n.length + 1)
    rw [zip3L_length l m n]; omega
  | [], m, n => by simp [zip3L]
  | _ :: _, [], n => by simp [zip3L]
  | _ :: _, _ :: _, [] => by simp [zip3L]
theorem zip3L_get : ∀ (l m n : List D) (i : Nat) (x y z : D), l[i]? = some x → m[i]? = some y → n[i]? = some z → (zip3L l m n)[i]? = some (.tup [x, y, z])
  | a :: l, b :: m, c :: n, 0, x, y, z, h1, h2, h3 => by
    simp at h1 h2 h3
    subst h1 h2 h3
    rfl
  | a :: l, b :: m, c :: n, i + 1, x, y, z, h1, h2, h3 => by
    simp at h1 h2 h3
    exact zip3L_get l m n i x y z h1 h2 h3
  | [], _, _, _, _, _, _, h1, _, _ => by simp at h1
  | _ :: _, [], _, _, _, _, _, _, h2, _ => by simp at h2
  | _ :: _, _ :: _, [], _, _, _, _, _, _, h3 => by simp at h3
def zip3D : List D → M (List D)
  | [a, b, c] => (itemsD a).bind fun l => (itemsD b).bind fun m => (itemsD c).bind fun n => .pure (zip3L l m n)
  | _ => .stuck
def zip2L : List D → List D → List D
  | a :: l, b :: m => .tup [a, b] :: zip2L l m
  | _, _ => []
theorem zip2L_length : ∀ l m : List D, (zip2L l m).length = min l.length m.length
  | a :: l, b :: m => by
    show (zip2L l m).length + 1 = min (l.length + 1) (m.length + 1)
    rw [zip2L_length l m]; omega
  | [], m => by simp [zip2L]
  | _ :: _, [] => by simp [zip2L]
theorem zip2L_get : ∀ (l m : List D) (i : Nat) (x y : D), l[i]? = some x → m[i]? = some y → (zip2L l m)[i]? = some (.tup [x, y])
  | a :: l, b :: m, 0, x, y, h1, h2 => by
    simp at h1 h2
    subst h1 h2
    rfl
  | a :: l, b :: m, i + 1, x, y, h1, h2 => by
    simp at h1 h2
    exact zip2L_get l m i x y h1 h2
  | [], _, _, _, _, h1, _ => by simp at h1
  | _ :: _, [], _, _, _, _, h2 => by simp at h2
def zip2D : List D → M (List D)
  | [a, b] => (itemsD a).bind fun l => (itemsD b).bind fun m => .pure (zip2L l m)
  | _ => .stuck
def enumL : Nat → List D → List D
  | _, [] => []
  | i, d :: l => .tup [.int i, d] :: enumL (i + 1) l
theorem enumL_length : ∀ (i : Nat) (l : List D), (enumL i l).length = l.length
  | _, [] => rfl
  | i, d :: l => by
    show (enumL (i + 1) l).length + 1 = _
    rw [enumL_length (i + 1) l]; rfl
theorem enumL_get : ∀ (l : List D) (k i : Nat) (x : D), l[i]? = some x → (enumL k l)[i]? = some (.tup [.int ((k + i : Nat) : Int), x])
  | [], _, _, _, h => by simp at h
  | d :: l, k, 0, x, h => by
    simp at h
    subst h
    rfl
  | d :: l, k, i + 1, x, h => by
    simp at h
    have := enumL_get l (k + 1) i x h
    show (enumL (k + 1) l)[i]? = _
    rw [this]
    rw [show k + 1 + i = k + (i + 1) by omega]
def enumD : List D → M (List D)
  | [a] => (itemsD a).bind fun l => .pure (enumL 0 l)
  | _ => .stuck

section
variable {X : Cx} {E : XK} {e a b c e1 e2 e3 tg : Expr} {f fa fb fc : Env → M D} {es : List Expr} {p pos p2 tpos : Pos} {R : Mode} {Kp : Far} {elts : List Expr} {kk : Nat} {ta : TA}

theorem growT {K : PySem.W.Frag} {hd : Option Addr} {G H : Hp} {T : Addr} {ds : List D} {vs : List V} (s : Same G H) (hT : H T = none) (r : Reps K hd G ds vs) : ∃ G2, Grow G H G2 (upd H T (.tup vs)) ∧ Rep K hd G2 (.tup ds) (.ref T) :=
  ⟨upd G T (.tup vs), Grow.new s hT, .tup (SqT.of upd_same) (r.mono (Grow.new s hT).g)⟩
theorem itz3_ok {K : PySem.W.Frag} {hd : Option Addr} {G H : Hp} {a b c : Addr} {k1 k2 k3 : Sk} {l m n : List D} (h1 : SqAt K Kp hd G H a k1 l) (h2 : SqAt K Kp hd G H b k2 m) (h3 : SqAt K Kp hd G H c k3 n) : ItOk K Kp hd G H (ItZ3 K k1 k2 k3 a b c) (zip3L l m n) := fun G1 H1 k => by
  obtain ⟨s, xs, q1, r1⟩ := h1 G1 H1 k
  obtain ⟨_, ys, q2, r2⟩ := h2 G1 H1 k
  obtain ⟨_, zs, q3, r3⟩ := h3 G1 H1 k
  have el : (zip3L l m n).length = min (min xs.length ys.length) zs.length := by rw [zip3L_length, r1.length, r2.length, r3.length]
  refine ⟨fun i hi => ⟨xs, ys, zs, q1, q2, q3, by omega⟩, ⟨xs, ys, zs, q1, q2, q3, el⟩, fun i v H2 hg y => ?_⟩
  obtain ⟨T, x, y, z, rfl, hT, rfl, f1, f2, f3⟩ := y
  obtain ⟨dx, g1, s1⟩ := r1.getV (f1 xs q1)
  obtain ⟨dy, g2, s2⟩ := r2.getV (f2 ys q2)
  obtain ⟨dz, g3, s3⟩ := r3.getV (f3 zs q3)
  obtain ⟨G2, gr, rr⟩ := growT s hT (.cons s1 (.cons s2 (.cons s3 .nil)))
  exact ⟨_, G2, zip3L_get l m n i _ _ _ g1 g2 g3, gr, rr⟩

def iZip3 (K : PySem.W.Frag) (ta : TA) : TI := fun σ H R => ta σ H fun vs H1 => ∃ a b c k1 k2 k3 xs ys zs, vs = [.ref a, .ref b, .ref c] ∧ SqK K H1 a xs k1 ∧ SqK K H1 b ys k2 ∧ SqK K H1 c zs k3 ∧ R (ItZ3 K k1 k2 k3 a b c) H1
theorem pi_zip3 (hg : Gl X "zip") (hm : X.mg "zip" = none) (ha : PA X [e1, e2, e3] ta)
    (hs : starEach [e1, e2, e3] X.env = (false, eval e1 X.env) :: starEach [e2, e3] X.env := by rfl) (hpl : (backTo pos (starEach [e2, e3] X.env)).any (·.1) = false := by rfl) :
    PI X (.Tuple elts kk tpos) (.Call (.Name "zip" p) [e1, e2, e3] [] pos) (iZip3 X.K ta) := by
  refine ⟨fun pins s σ H R I h => ?_⟩
  refine Call_ (ld_blt I hg hm PyProof.Rows.boot_zip (PyProof.Rows.callWith_type1 (thn (ha.run pos pins s σ H _ I h) fun us s1 ⟨vs, H1, I1, r1, q1⟩ => ?_) hs hpl))
  obtain ⟨a, b, c, k1, k2, k3, xs, ys, zs, ex, s1', s2', s3', q⟩ := q1
  subst ex
  cases r1 with
  | cons r rr => cases rr with
    | cons r' rr => cases rr with
      | cons r'' rr =>
        cases rr
        cases r
        cases r'
        cases r''
        obtain ⟨j1, _, d1, o1, x1⟩ := sqK_get I1 s1'
        obtain ⟨j2, _, d2, o2, x2⟩ := sqK_get I1 s2'
        obtain ⟨j3, _, d3, o3, x3⟩ := sqK_get I1 s3'
        refine zip_begins3 (begK a j1.toArray k1) (begK b j2.toArray k2) (begK c j3.toArray k3) d1 d2 d3 fun h' hz hTI hTO g1 g2 g3 hsz hk => wpAny_pyIter_zip hz ?_
        have I2 : Inv X pins σ H1 { s1 with heap := h' } := I1.kept (t' := s1.toks) hk
        have la := Heap.lt_size x1
        have lb := Heap.lt_size x2
        have lc := Heap.lt_size x3
        have one : ∀ {q : Addr}, q < s1.heap.objs.size → ∀ z ∈ [q], z < s1.heap.objs.size := fun {q} h z hz => by
          rw [List.mem_singleton.mp hz]; exact h
        refine ⟨s1.heap.objs.size + 5, [s1.heap.objs.size + 5, s1.heap.objs.size + 3, s1.heap.objs.size + 4, s1.heap.objs.size, s1.heap.objs.size + 1, s1.heap.objs.size + 2], _, _, H1, rfl, I2,
          turn_z3 (zip_sep3 (one la) (one lb) (one lc)) (Nat.ne_of_lt la) (Nat.ne_of_lt (Nat.lt_succ_of_lt lb)) (Nat.ne_of_lt (Nat.lt_succ_of_lt (Nat.lt_succ_of_lt lc))), ⟨hz, hTI, ⟨_, _, _, hTO⟩, itK_new g1, itK_new g2, itK_new g3⟩, fun q hq => ?_, q⟩
        have hle : s1.heap.objs.size ≤ q := by
          have e' : q = s1.heap.objs.size + 5 ∨ q = s1.heap.objs.size + 3 ∨ q = s1.heap.objs.size + 4 ∨ q = s1.heap.objs.size ∨ q = s1.heap.objs.size + 1 ∨ q = s1.heap.objs.size + 2 := by simpa using hq
          rcases e' with z | z | z | z | z | z <;> rw [z] <;> first | exact Nat.le_add_right _ _ | exact Nat.le_refl _
        exact I1.fpOk hle (I1.hok.fresh hle)
theorem RAll.three {R : Mode} {K : PySem.W.Frag} {hd : Option Addr} {H0 G H : Hp} {d d' d2 : D} {vs : List V} (h : RAll R K hd H0 G H [d, d', d2] vs) : ∃ v v' v2, vs = [v, v', v2] ∧ R K hd H0 G H d v ∧ R K hd H0 G H d' v' ∧ R K hd H0 G H d2 v2 := by
  obtain ⟨v, r, e, h1, h2⟩ := h
  obtain ⟨v', v2, rfl, h3, h4⟩ := RAll.two h2
  exact ⟨v, v', v2, e, h1, h3, h4⟩
theorem sqk_now {K : PySem.W.Frag} {hd : Option Addr} {G H : Hp} {q : Addr} {k : Sk} {l : List D} (hk : Kpt R Kp) (s : Same G H) (hh : HandOk K hd G H) (h : SqAt K Kp hd G H q k l) : ∃ xs, SqK K H q xs k := let ⟨_, xs, h, _⟩ := h G H (hk.refl s hh); ⟨xs, h⟩
theorem si_zip3 {fs : Env → M (List D)} (hk : Kpt R Kp) (hg : Gl X "zip") (hm : X.mg "zip" = none) (ha : SA X E R [e1, e2, e3] fs)
    (hs : starEach [e1, e2, e3] X.env = (false, eval e1 X.env) :: starEach [e2, e3] X.env := by rfl) (hpl : (backTo pos (starEach [e2, e3] X.env)).any (·.1) = false := by rfl) :
    SI X E Kp (.Tuple elts kk tpos) (.Call (.Name "zip" p) [e1, e2, e3] [] pos) (fun env => (fs env).bind zip3D) :=
  (pi_zip3 hg hm ha hs hpl).imp fun σ H Q ⟨hd, G, env, S, w⟩ => by
    refine ⟨hd, G, env, S, (fs env).mono (fun l q vs G1 H1 x1 h1 r1 => ?_) (fun _ q => q) w⟩
    unfold zip3D at q
    split at q
    · obtain ⟨v, v', v2, rfl, r, r', r2⟩ := r1.three
      obtain ⟨l1, w1, q⟩ := items_one q
      obtain ⟨l2, w2, q⟩ := items_one q
      obtain ⟨l3, w3, q⟩ := items_one q
      obtain ⟨a, k1, rfl, z1⟩ := sq_at hk x1.s h1 w1 r
      obtain ⟨b, k2, rfl, z2⟩ := sq_at hk x1.s h1 w2 r'
      obtain ⟨c, k3, rfl, z3⟩ := sq_at hk x1.s h1 w3 r2
      obtain ⟨xs, y1⟩ := sqk_now hk x1.s h1 z1
      obtain ⟨ys, y2⟩ := sqk_now hk x1.s h1 z2
      obtain ⟨zs, y3⟩ := sqk_now hk x1.s h1 z3
      exact ⟨a, b, c, k1, k2, k3, xs, ys, zs, rfl, y1, y2, y3, q _ _ _ x1 h1 (itz3_ok z1 z2 z3)⟩
    · exact False.elim q
end
end Zf

/-! Zf: zip of two, enumerate -/
namespace Zf
open PySem L2 PySem.Spec PyProof.Rows

/-! ### two -/
def ItZ2 (K : PySem.W.Frag) (k1 k2 : Sk) (a b : Addr) : It :=
  ⟨fun i H => ∃ xs ys : List V, SqK K H a xs k1 ∧ SqK K H b ys k2 ∧ i < min xs.length ys.length,
    fun i H v H' => ∃ T x y, v = .ref T ∧ H T = none ∧ H' = upd H T (.tup [x, y]) ∧ (∀ xs, SqK K H a xs k1 → xs[i]? = some x) ∧ ∀ ys, SqK K H b ys k2 → ys[i]? = some y,
    fun i H => ∃ xs ys : List V, SqK K H a xs k1 ∧ SqK K H b ys k2 ∧ i = min xs.length ys.length⟩
theorem vals_back {xs : List V} {j : List Value} {i : Nat} {x : Value} (r : Vals xs j) (e : j.toArray[i]? = some x) : ∃ v, xs[i]? = some v ∧ RelV v x := by
  have e : j[i]? = some x := by simpa using e
  cases q : xs[i]? with
  | none =>
    rw [r.none_of q] at e; cases e
  | some v =>
    obtain ⟨u, e1, e2⟩ := r.get q
    rw [e] at e1; cases e1
    exact ⟨v, rfl, e2⟩
theorem turn_z2 {P : Program} {w : World} {K : PySem.W.Frag} {elts : List Expr} {kk : Nat} {tpos : Pos} {k1 k2 : Sk} {a b z TI TO i1 i2 : Addr} (D : ZipSep2 z TI TO i1 i2 [i1, a] [i2, b]) (na : a ≠ i1) (nb : b ≠ i2) :
    Turn P w K (.Tuple elts kk tpos) (ItZ2 K k1 k2 a b) [z, TI, TO, i1, i2] z (fun i h => IsZip h z TI TO .none ∧ IsTupOf2 h TI (.ref i1) (.ref i2) ∧ (∃ x y, IsTupOf2 h TO x y) ∧ itK h i1 a i k1 ∧ itK h i2 b i k2) where
  mem := by simp
  obj := fun i h ⟨hz, hTI, ⟨x, y, hTO⟩, h1, h2⟩ q hq => by
    have e' : q = z ∨ q = TI ∨ q = TO ∨ q = i1 ∨ q = i2 := by simpa using hq
    rcases e' with e | e | e | e | e
    · rw [e]; exact ⟨_, hz, fun v y => nomatch y⟩
    · rw [e]; exact ⟨_, hTI, fun v y => nomatch y⟩
    · rw [e]; exact ⟨_, hTO, fun v y => nomatch y⟩
    · rw [e]; exact itK_obj h1
    · rw [e]; exact itK_obj h2
  keep := fun i h h' ⟨hz, hTI, ⟨x, y, hTO⟩, h1, h2⟩ k =>
    ⟨k z (by simp) _ hz, k TI (by simp) _ hTI, ⟨x, y, k TO (by simp) _ hTO⟩, itK_at (fun o e => k i1 (by simp) o e) h1, itK_at (fun o e => k i2 (by simp) o e) h2⟩
  item := by
    intro X hP hw hK hc i pins s σ H E I hf ⟨hz, hTI, hTO, h1, h2⟩ ⟨xs, ys, q1, q2, hi⟩
    subst hP hw hK
    obtain ⟨j1, r1, d1, _⟩ := sqK_get I q1
    obtain ⟨j2, r2, d2, _⟩ := sqK_get I q2
    have hh : X.A.in1.handled = none := I.ok.hd hc
    have G := GoesN.zip2 (elts := elts) (x1 := kk) (pos := tpos) D (drwK (P := X.prog) (w := X.w) hh i1 a na j1.toArray k1) (drwK hh i2 b nb j2.toArray k2)
    have hn : i < min j1.toArray.size j2.toArray.size := by
      rw [List.size_toArray, List.size_toArray, ← r1.length, ← r2.length]; exact hi
    refine G.goes i s _ E hn ⟨hz, hTI, hTO, ⟨h1, d1⟩, ⟨h2, d2⟩⟩ fun v h' tk ⟨T, x, y, ev, hT, p1, p2, ht⟩ ⟨hz', hTI', hTO', ⟨h1', _⟩, ⟨h2', _⟩⟩ hk htk => ?_
    subst ev
    obtain ⟨vx, ex, rx⟩ := vals_back r1 p1
    obtain ⟨vy, ey, ry⟩ := vals_back r2 p2
    have keep : ∀ q o, q ∉ [z, TO, i1, i2] → s.heap.get? q = some o → h'.get? q = some o := hk
    have new : ObjOk X.prog X.w (upd H T (.tup [vx, vy])) h' T (.tup [vx, vy]) := ⟨by show 2 ≤ sizeLine; decide, [x, y], .cons rx (.cons ry .nil), ht⟩
    have hn' : H T = none := I.hok.fresh hT
    refine ⟨.ref T, _, I.turnedNew (t' := tk) (ch := [z, TO, i1, i2]) keep (fun q hq => hf q (by
      have e' : q = z ∨ q = TO ∨ q = i1 ∨ q = i2 := by simpa using hq
      simp only [List.mem_cons, List.not_mem_nil, or_false]
      rcases e' with e | e | e | e <;> simp [e])) hT new, rfl, ⟨T, vx, vy, rfl, hn', rfl, fun l hl => by rw [sqK_inj I hl q1]; exact ex, fun l hl => by rw [sqK_inj I hl q2]; exact ey⟩,
      ⟨hz', hTI', hTO', h1', h2'⟩, fun q hq => ?_⟩
    have old : q ≠ T := by
      have ob : ∃ o, s.heap.get? q = some o := by
        have e' : q = z ∨ q = TI ∨ q = TO ∨ q = i1 ∨ q = i2 := by simpa using hq
        rcases e' with e | e | e | e | e
        · rw [e]; exact ⟨_, hz⟩
        · rw [e]; exact ⟨_, hTI⟩
        · rw [e]; obtain ⟨_, _, z⟩ := hTO; exact ⟨_, z⟩
        · rw [e]; obtain ⟨o, z, _⟩ := itK_obj h1; exact ⟨o, z⟩
        · rw [e]; obtain ⟨o, z, _⟩ := itK_obj h2; exact ⟨o, z⟩
      obtain ⟨o, z⟩ := ob
      exact Nat.ne_of_lt (Nat.lt_of_lt_of_le (Heap.lt_size z) hT)
    rw [upd_ne old]
    exact (hf q hq).1
  done := by
    intro X hP hw hK hc i pins s σ H E I hf ⟨hz, hTI, hTO, h1, h2⟩ ⟨xs, ys, q1, q2, hi⟩
    subst hP hw hK
    obtain ⟨j1, r1, d1, _⟩ := sqK_get I q1
    obtain ⟨j2, r2, d2, _⟩ := sqK_get I q2
    have hh : X.A.in1.handled = none := I.ok.hd hc
    have G := GoesN.zip2 (elts := elts) (x1 := kk) (pos := tpos) D (drwK (P := X.prog) (w := X.w) hh i1 a na j1.toArray k1) (drwK hh i2 b nb j2.toArray k2)
    have hn : i = min j1.toArray.size j2.toArray.size := by
      rw [List.size_toArray, List.size_toArray, ← r1.length, ← r2.length]; exact hi
    subst hn
    refine G.stops s _ E ⟨hz, hTI, hTO, ⟨h1, d1⟩, ⟨h2, d2⟩⟩ fun h' tk hk htk => ?_
    exact I.turnedL (t' := tk) (ch := [z, TO, i1, i2]) (fun q o n e => hk q o n e) fun q hq => hf q (by
      have e' : q = z ∨ q = TO ∨ q = i1 ∨ q = i2 := by simpa using hq
      simp only [List.mem_cons, List.not_mem_nil, or_false]
      rcases e' with e | e | e | e <;> simp [e])
  self := fun A i s Q E st h => wpAny_pyIter_zip st.1 h

/-! ### enumerate -/
def ItE (K : PySem.W.Frag) (k : Sk) (a : Addr) : It :=
  ⟨fun i H => ∃ xs : List V, SqK K H a xs k ∧ i < xs.length,
    fun i H v H' => ∃ T x, v = .ref T ∧ H T = none ∧ H' = upd H T (.tup [.int (i : Nat), x]) ∧ ∀ xs, SqK K H a xs k → xs[i]? = some x,
    fun i H => ∃ xs : List V, SqK K H a xs k ∧ i = xs.length⟩
theorem turn_en {P : Program} {w : World} {K : PySem.W.Frag} {elts : List Expr} {kk : Nat} {tpos : Pos} {k : Sk} {a e it : Addr} (na : a ≠ it) (ne : e ≠ it) (nea : e ≠ a) :
    Turn P w K (.Tuple elts kk tpos) (ItE K k a) [e, it] e (fun i h => (∃ old, IsEnum h e it (0 + (i : Int)) old) ∧ itK h it a i k) where
  mem := by simp
  obj := fun i h ⟨⟨old, he⟩, h1⟩ q hq => by
    have e' : q = e ∨ q = it := by simpa using hq
    rcases e' with z | z
    · rw [z]; exact ⟨_, he, fun v y => nomatch y⟩
    · rw [z]; exact itK_obj h1
  keep := fun i h h' ⟨⟨old, he⟩, h1⟩ k => ⟨⟨old, k e (by simp) _ he⟩, itK_at (fun o z => k it (by simp) o z) h1⟩
  item := by
    intro X hP hw hK hc i pins s σ H E I hf ⟨⟨old, he⟩, h1⟩ ⟨xs, q1, hi⟩
    subst hP hw hK
    obtain ⟨j1, r1, d1, _⟩ := sqK_get I q1
    have hh : X.A.in1.handled = none := I.ok.hd hc
    have G := GoesN.enumFrom (elts := elts) (x1 := kk) (pos := tpos) 0 (drwK (P := X.prog) (w := X.w) hh it a na j1.toArray k) e ne (by simp [ne, nea]) (by simp)
    have hn : i < j1.toArray.size := by
      rw [List.size_toArray, ← r1.length]; exact hi
    refine G.goes i s _ E hn ⟨⟨old, he⟩, ⟨h1, d1⟩⟩ fun v h' tk ⟨T, t, x, ev, hT, p1, ht⟩ ⟨⟨old', he'⟩, ⟨h1', _⟩⟩ hk htk => ?_
    subst ev
    obtain ⟨vx, ex, rx⟩ := vals_back r1 p1
    have new : ObjOk X.prog X.w (upd H T (.tup [.int (i : Nat), vx])) h' T (.tup [.int (i : Nat), vx]) := ⟨by show 2 ≤ sizeLine; decide, [.int (0 + (i : Int)) t, x], .cons ⟨t, by rw [Int.zero_add]⟩ (.cons rx .nil), ht⟩
    have hn' : H T = none := I.hok.fresh hT
    refine ⟨.ref T, _, I.turnedNew (t' := tk) (ch := [e, it]) (fun q o n z => hk q o n z) (fun q hq => hf q hq) hT new, rfl, ⟨T, vx, rfl, hn', rfl, fun l hl => by rw [sqK_inj I hl q1]; exact ex⟩, ⟨⟨old', ?_⟩, h1'⟩, fun q hq => ?_⟩
    · exact he'
    have old : q ≠ T := by
      have ob : ∃ o, s.heap.get? q = some o := by
        have e' : q = e ∨ q = it := by simpa using hq
        rcases e' with z | z
        · rw [z]; exact ⟨_, he⟩
        · rw [z]; obtain ⟨o, z, _⟩ := itK_obj h1; exact ⟨o, z⟩
      obtain ⟨o, z⟩ := ob
      exact Nat.ne_of_lt (Nat.lt_of_lt_of_le (Heap.lt_size z) hT)
    rw [upd_ne old]
    exact (hf q hq).1
  done := by
    intro X hP hw hK hc i pins s σ H E I hf ⟨⟨old, he⟩, h1⟩ ⟨xs, q1, hi⟩
    subst hP hw hK
    obtain ⟨j1, r1, d1, _⟩ := sqK_get I q1
    have hh : X.A.in1.handled = none := I.ok.hd hc
    have G := GoesN.enumFrom (elts := elts) (x1 := kk) (pos := tpos) 0 (drwK (P := X.prog) (w := X.w) hh it a na j1.toArray k) e ne (by simp [ne, nea]) (by simp)
    have hn : i = j1.toArray.size := by
      rw [List.size_toArray, ← r1.length]; exact hi
    subst hn
    refine G.stops s _ E ⟨⟨old, he⟩, ⟨h1, d1⟩⟩ fun h' tk hk htk => ?_
    exact I.turnedL (t' := tk) (ch := [e, it]) (fun q o n z => hk q o n z) hf
  self := fun A i s Q E st h => let ⟨⟨_, he⟩, _⟩ := st; wpAny_pyIter_enum he h

theorem enum_new1 {v : Value} {o : Obj} {H : Heap → Prop} (B : Begins v o H) :
    Meets (Builtin.«enumerate.__new__» ⟨[.type "enumerate", v], []⟩) (fun _ R s => H s.heap ∧
      R (.ok (.ret (.ref (s.heap.push o).objs.size))) { s with heap := (s.heap.push o).push { cls := .type "enumerate", data := .fields #[.none, .bool false, .ref s.heap.objs.size, rawInt 0, .none, .none] } }) :=
  .of_wp fun prog w A R s h => by
    obtain ⟨hp, g, d, tk, os⟩ := s; obtain ⟨h1, h⟩ := h
    have hsub := sub_enumerate
    have q1 : ∀ {A' : Around} {E : Value → Shared → Prop} {Q : Value → Shared → Prop}, Q (.ref hp.objs.size) ⟨hp.push o, g, d, tk, os⟩ → wpAny (model prog w) A' (pyIter v) Q E ⟨hp, g, d, tk, os⟩ :=
      fun q => B.iter prog w _ _ ⟨hp, g, d, tk, os⟩ _ h1 q
    wp_walk using q1
    refine wpAny_stack_any fun st => wpAny_pure ?_
    split
    · rename_i c _ _ _ _ _
      cases (c == Value.type "enumerate")
      · wp_walk using q1
        exact ⟨_, rfl, h⟩
      · wp_walk using q1
        exact ⟨_, rfl, h⟩
    · wp_walk using q1
      exact ⟨_, rfl, h⟩
section
variable {prog : Program} {w : World} {A : Around} {E : Value → Shared → Prop} {s : Shared}
theorem enum_begin1 {v : Value} {o : Obj} {H : Heap → Prop} {Q : Value → Shared → Prop} (B : Begins v o H) (h1 : H s.heap)
    (h : ∀ h', IsEnum h' (s.heap.objs.size + 1) s.heap.objs.size 0 .none → h'.get? s.heap.objs.size = some o → h'.objs.size = s.heap.objs.size + 2 →
      (∀ b o, s.heap.get? b = some o → h'.get? b = some o) → Q (.ref (s.heap.objs.size + 1)) { s with heap := h' }) :
    wpAny (model prog w) A (call (.type "enumerate") [v]) Q E s := by
  refine callType_new F.called_enumerate (by decide) (F.typeCall_enumerate_1 _) (F.newCall_enumerate_1 _) (fun obj => F.args_object_init_2 obj _) F.entry_enumerate_new (enum_new1 B) ⟨h1, ?_⟩
  have hz : (s.heap.push o).objs.size = s.heap.objs.size + 1 := Heap.size_push ..
  show _ ∧ _
  rw [hz]
  have he : IsEnum ((s.heap.push o).push { cls := .type "enumerate", data := .fields #[.none, .bool false, .ref s.heap.objs.size, rawInt 0, .none, .none] }) (s.heap.objs.size + 1) s.heap.objs.size 0 .none := by
    have := Heap.get?_push_size (s.heap.push o) (o := { cls := .type "enumerate", data := .fields #[.none, .bool false, .ref s.heap.objs.size, rawInt 0, .none, .none] }) rfl
    rw [hz] at this; exact this
  exact ⟨⟨_, he, rfl⟩, h _ he (Heap.get?_push_of_some _ (Heap.get?_push_size _ B.free)) (by rw [Heap.size_push, hz]) fun b o x => Heap.get?_push_of_some _ (Heap.get?_push_of_some _ x)⟩
end

section
variable {X : Cx} {E : XK} {e a b c e1 e2 e3 tg : Expr} {f fa fb fc : Env → M D} {es : List Expr} {p pos p2 tpos : Pos} {R : Mode} {Kp : Far} {elts : List Expr} {kk : Nat} {ta : TA}
theorem itz2_ok {K : PySem.W.Frag} {hd : Option Addr} {G H : Hp} {a b : Addr} {k1 k2 : Sk} {l m : List D} (h1 : SqAt K Kp hd G H a k1 l) (h2 : SqAt K Kp hd G H b k2 m) : ItOk K Kp hd G H (ItZ2 K k1 k2 a b) (zip2L l m) := fun G1 H1 k => by
  obtain ⟨s, xs, q1, r1⟩ := h1 G1 H1 k
  obtain ⟨_, ys, q2, r2⟩ := h2 G1 H1 k
  have el : (zip2L l m).length = min xs.length ys.length := by rw [zip2L_length, r1.length, r2.length]
  refine ⟨fun i hi => ⟨xs, ys, q1, q2, by omega⟩, ⟨xs, ys, q1, q2, el⟩, fun i v H2 hg y => ?_⟩
  obtain ⟨T, x, y, rfl, hT, rfl, f1, f2⟩ := y
  obtain ⟨dx, g1, s1⟩ := r1.getV (f1 xs q1)
  obtain ⟨dy, g2, s2⟩ := r2.getV (f2 ys q2)
  obtain ⟨G2, gr, rr⟩ := growT s hT (.cons s1 (.cons s2 .nil))
  exact ⟨_, G2, zip2L_get l m i _ _ g1 g2, gr, rr⟩
theorem iten_ok {K : PySem.W.Frag} {hd : Option Addr} {G H : Hp} {a : Addr} {k1 : Sk} {l : List D} (h1 : SqAt K Kp hd G H a k1 l) : ItOk K Kp hd G H (ItE K k1 a) (enumL 0 l) := fun G1 H1 k => by
  obtain ⟨s, xs, q1, r1⟩ := h1 G1 H1 k
  have el : (enumL 0 l).length = xs.length := by rw [enumL_length, r1.length]
  refine ⟨fun i hi => ⟨xs, q1, by omega⟩, ⟨xs, q1, el⟩, fun i v H2 hg y => ?_⟩
  obtain ⟨T, x, rfl, hT, rfl, f1⟩ := y
  obtain ⟨dx, g1, s1⟩ := r1.getV (f1 xs q1)
  obtain ⟨G2, gr, rr⟩ := growT s hT (.cons (.int (i : Nat)) (.cons s1 .nil))
  exact ⟨_, G2, by rw [enumL_get l 0 i _ g1, Nat.zero_add], gr, rr⟩
def iZip2 (K : PySem.W.Frag) (ta : TA) : TI := fun σ H R => ta σ H fun vs H1 => ∃ a b k1 k2 xs ys, vs = [.ref a, .ref b] ∧ SqK K H1 a xs k1 ∧ SqK K H1 b ys k2 ∧ R (ItZ2 K k1 k2 a b) H1
theorem pi_zip2 (hg : Gl X "zip") (hm : X.mg "zip" = none) (ha : PA X [e1, e2] ta)
    (hs : starEach [e1, e2] X.env = (false, eval e1 X.env) :: starEach [e2] X.env := by rfl) (hpl : (backTo pos (starEach [e2] X.env)).any (·.1) = false := by rfl) :
    PI X (.Tuple elts kk tpos) (.Call (.Name "zip" p) [e1, e2] [] pos) (iZip2 X.K ta) := by
  refine ⟨fun pins s σ H R I h => ?_⟩
  refine Call_ (ld_blt I hg hm PyProof.Rows.boot_zip (PyProof.Rows.callWith_type1 (thn (ha.run pos pins s σ H _ I h) fun us s1 ⟨vs, H1, I1, r1, q1⟩ => ?_) hs hpl))
  obtain ⟨a, b, k1, k2, xs, ys, ex, s1', s2', q⟩ := q1
  subst ex
  cases r1 with
  | cons r rr => cases rr with
    | cons r' rr =>
      cases rr
      cases r
      cases r'
      obtain ⟨j1, _, d1, o1, x1⟩ := sqK_get I1 s1'
      obtain ⟨j2, _, d2, o2, x2⟩ := sqK_get I1 s2'
      refine zip_begins2 (begK a j1.toArray k1) (begK b j2.toArray k2) d1 d2 fun h' hz hTI hTO g1 g2 hsz hk => wpAny_pyIter_zip hz ?_
      have I2 : Inv X pins σ H1 { s1 with heap := h' } := I1.kept (t' := s1.toks) hk
      have la := Heap.lt_size x1
      have lb := Heap.lt_size x2
      have one : ∀ {q : Addr}, q < s1.heap.objs.size → ∀ z ∈ [q], z < s1.heap.objs.size := fun {q} h z hz => by
        rw [List.mem_singleton.mp hz]; exact h
      refine ⟨s1.heap.objs.size + 4, [s1.heap.objs.size + 4, s1.heap.objs.size + 2, s1.heap.objs.size + 3, s1.heap.objs.size, s1.heap.objs.size + 1], _, _, H1, rfl, I2,
        turn_z2 (zip_sep2 (one la) (one lb)) (Nat.ne_of_lt la) (Nat.ne_of_lt (Nat.lt_succ_of_lt lb)), ⟨hz, hTI, ⟨_, _, hTO⟩, itK_new g1, itK_new g2⟩, fun q hq => ?_, q⟩
      have hle : s1.heap.objs.size ≤ q := by
        have e' : q = s1.heap.objs.size + 4 ∨ q = s1.heap.objs.size + 2 ∨ q = s1.heap.objs.size + 3 ∨ q = s1.heap.objs.size ∨ q = s1.heap.objs.size + 1 := by simpa using hq
        rcases e' with z | z | z | z | z <;> rw [z] <;> first | exact Nat.le_add_right _ _ | exact Nat.le_refl _
      exact I1.fpOk hle (I1.hok.fresh hle)
theorem si_zip2 {fs : Env → M (List D)} (hk : Kpt R Kp) (hg : Gl X "zip") (hm : X.mg "zip" = none) (ha : SA X E R [e1, e2] fs)
    (hs : starEach [e1, e2] X.env = (false, eval e1 X.env) :: starEach [e2] X.env := by rfl) (hpl : (backTo pos (starEach [e2] X.env)).any (·.1) = false := by rfl) :
    SI X E Kp (.Tuple elts kk tpos) (.Call (.Name "zip" p) [e1, e2] [] pos) (fun env => (fs env).bind zip2D) :=
  (pi_zip2 hg hm ha hs hpl).imp fun σ H Q ⟨hd, G, env, S, w⟩ => by
    refine ⟨hd, G, env, S, (fs env).mono (fun l q vs G1 H1 x1 h1 r1 => ?_) (fun _ q => q) w⟩
    unfold zip2D at q
    split at q
    · obtain ⟨v, v', rfl, r, r'⟩ := r1.two
      obtain ⟨l1, w1, q⟩ := items_one q
      obtain ⟨l2, w2, q⟩ := items_one q
      obtain ⟨a, k1, rfl, z1⟩ := sq_at hk x1.s h1 w1 r
      obtain ⟨b, k2, rfl, z2⟩ := sq_at hk x1.s h1 w2 r'
      obtain ⟨xs, y1⟩ := sqk_now hk x1.s h1 z1
      obtain ⟨ys, y2⟩ := sqk_now hk x1.s h1 z2
      exact ⟨a, b, k1, k2, xs, ys, rfl, y1, y2, q _ _ _ x1 h1 (itz2_ok z1 z2)⟩
    · exact False.elim q
def iEn (K : PySem.W.Frag) (ta : TA) : TI := fun σ H R => ta σ H fun vs H1 => ∃ a k1 xs, vs = [.ref a] ∧ SqK K H1 a xs k1 ∧ R (ItE K k1 a) H1
theorem pi_en (hg : Gl X "enumerate") (hm : X.mg "enumerate" = none) (ha : PA X [e1] ta)
    (hs : starEach [e1] X.env = [(false, eval e1 X.env)] := by rfl) :
    PI X (.Tuple elts kk tpos) (.Call (.Name "enumerate" p) [e1] [] pos) (iEn X.K ta) := by
  refine ⟨fun pins s σ H R I h => ?_⟩
  refine Call_ (ld_blt I hg hm boot_enumerate (PyProof.Rows.callWith_type1 (thn (ha.run pos pins s σ H _ I h) fun us s1 ⟨vs, H1, I1, r1, q1⟩ => ?_) hs rfl))
  obtain ⟨a, k1, xs, ex, s1', q⟩ := q1
  subst ex
  cases r1 with
  | cons r rr =>
    cases rr
    cases r
    obtain ⟨j1, _, d1, o1, x1⟩ := sqK_get I1 s1'
    refine enum_begin1 (begK a j1.toArray k1) d1 fun h' he g1 hsz hk => wpAny_pyIter_enum he ?_
    have I2 : Inv X pins σ H1 { s1 with heap := h' } := I1.kept (t' := s1.toks) hk
    have la := Heap.lt_size x1
    refine ⟨s1.heap.objs.size + 1, [s1.heap.objs.size + 1, s1.heap.objs.size], _, _, H1, rfl, I2,
      turn_en (Nat.ne_of_lt la) (Nat.succ_ne_self _) (Nat.ne_of_gt (Nat.lt_succ_of_lt la)), ⟨⟨.none, he⟩, itK_new g1⟩, fun q hq => ?_, q⟩
    have hle : s1.heap.objs.size ≤ q := by
      have e' : q = s1.heap.objs.size + 1 ∨ q = s1.heap.objs.size := by simpa using hq
      rcases e' with z | z <;> rw [z] <;> first | exact Nat.le_add_right _ _ | exact Nat.le_refl _
    exact I1.fpOk hle (I1.hok.fresh hle)
theorem si_en {fs : Env → M (List D)} (hk : Kpt R Kp) (hg : Gl X "enumerate") (hm : X.mg "enumerate" = none) (ha : SA X E R [e1] fs)
    (hs : starEach [e1] X.env = [(false, eval e1 X.env)] := by rfl) :
    SI X E Kp (.Tuple elts kk tpos) (.Call (.Name "enumerate" p) [e1] [] pos) (fun env => (fs env).bind enumD) :=
  (pi_en hg hm ha hs).imp fun σ H Q ⟨hd, G, env, S, w⟩ => by
    refine ⟨hd, G, env, S, (fs env).mono (fun l q vs G1 H1 x1 h1 r1 => ?_) (fun _ q => q) w⟩
    unfold enumD at q
    split at q
    · obtain ⟨v, rfl, r⟩ := r1.one
      obtain ⟨l1, w1, q⟩ := items_one q
      obtain ⟨a, k1, rfl, z1⟩ := sq_at hk x1.s h1 w1 r
      obtain ⟨xs, y1⟩ := sqk_now hk x1.s h1 z1
      exact ⟨a, k1, xs, rfl, y1, q _ _ _ x1 h1 (iten_ok z1)⟩
    · exact False.elim q
end
end Zf

/-! Zf: sorted(..) of tuples of ints, however many -/
namespace SrtO
open PySem PyProof.Rows Srt TS
abbrev lx := HT.lexLt
theorem lx_irr : ∀ x : List Int, lx x x = false
  | [] => rfl
  | i :: l => by unfold lx HT.lexLt; rw [if_pos rfl]; exact lx_irr l
theorem lx_asym : ∀ x y : List Int, lx x y = true → lx y x = false
  | [], [], _ => rfl
  | [], _ :: _, _ => rfl
  | _ :: _, [], h => by cases h
  | i :: l, j :: m, h => by
    unfold lx HT.lexLt at h ⊢
    by_cases e : i = j
    · subst e
      rw [if_pos rfl] at h ⊢
      exact lx_asym l m h
    · rw [if_neg e] at h
      rw [if_neg fun z => e z.symm]
      have h := of_decide_eq_true h
      exact decide_eq_false (by omega)
theorem lx_tr : ∀ x y z : List Int, lx y x = false → lx z y = false → lx z x = false
  | [], _, [], _, _ => rfl
  | [], [], _ :: _, _, h => h
  | [], _ :: _, _ :: _, _, _ => rfl
  | _ :: _, [], _, h, _ => by cases h
  | _ :: _, _ :: _, [], _, h => by cases h
  | i :: l, j :: m, k :: n, h, h' => by
    unfold lx HT.lexLt at h h' ⊢
    by_cases e : j = i
    · subst e
      rw [if_pos rfl] at h
      by_cases e' : k = j
      · subst e'
        rw [if_pos rfl] at h' ⊢
        exact lx_tr l m n h h'
      · rw [if_neg e'] at h' ⊢
        exact h'
    · rw [if_neg e] at h
      have h := of_decide_eq_false h
      by_cases e' : k = j
      · subst e'
        rw [if_neg e]
        exact decide_eq_false h
      · rw [if_neg e'] at h'
        have h' := of_decide_eq_false h'
        rw [if_neg (by omega)]
        exact decide_eq_false (by omega)
theorem lx_tot : ∀ x y : List Int, lx x y = false → lx y x = false → x = y
  | [], [], _, _ => rfl
  | [], _ :: _, h, _ => by cases h
  | _ :: _, [], _, h => by cases h
  | i :: l, j :: m, h, h' => by
    unfold lx HT.lexLt at h h'
    by_cases e : i = j
    · subst e
      rw [if_pos rfl] at h h'
      rw [lx_tot l m h h']
    · rw [if_neg e] at h
      rw [if_neg fun z => e z.symm] at h'
      have h := of_decide_eq_false h
      have h' := of_decide_eq_false h'
      omega
section
variable {prog : Program} {w : World} {A : Around} {E : Value → Shared → Prop} {s : Shared}
theorem lex_any {Q : Bool → Shared → Prop} {b : Bool} {xs ys : List Value} {ns ms : List Int} (i : Nat) (hx : IntsAre xs ns) (hy : IntsAre ys ms) (h : Q (lx ns ms) s) : PySem.W.KatLex prog w A b (decide (ns.length < ms.length)) Q (xs.zip ys) i s := by
  -- the last word: by the lengths
  have key : ∀ (xs ys : List Value) (ns ms : List Int) (i : Nat) (fin : Bool), IntsAre xs ns → IntsAre ys ms → Q (lx ns ms) s → fin = decide (ns.length < ms.length) → PySem.W.KatLex prog w A b fin Q (xs.zip ys) i s := by
    intro xs ys ns ms i fin hx
    induction hx generalizing ys ms i with
    | nil =>
      intro hy h e
      cases hy with
      | nil =>
        have e2 : fin = false := e
        subst e2
        exact PySem.W.kat_nil h
      | cons q u hy =>
        have e2 : fin = true := by rw [e]; simp
        subst e2
        exact PySem.W.kat_nil h
    | @cons p t xs ns hx ih =>
      intro hy h e
      cases hy with
      | nil =>
        have e2 : fin = false := by rw [e]; simp
        subst e2
        exact PySem.W.kat_nil h
      | @cons q u ys ms hy =>
        show PySem.W.KatLex prog w A b fin Q ((Value.int p t, Value.int q u) :: xs.zip ys) i s
        refine PySem.W.kat_cons (wpAny_eqBool_int ?_)
        unfold lx HT.lexLt at h
        by_cases z : p = q
        · subst z
          rw [if_pos rfl] at h
          rw [beq_self_eq_true]
          exact PySem.W.kat_yes (ih ys ms (i + 1) hy h (by rw [e, List.length_cons, List.length_cons]; exact decide_eq_decide.mpr (by omega)))
        · rw [if_neg z] at h
          rw [show (p == q) = false from beq_eq_false_iff_ne.mpr z]
          exact PySem.W.kat_no (oneLt_ints _ h)
  exact key xs ys ns ms i _ hx hy h rfl
theorem ints_len : ∀ {vs : List Value} {ns : List Int}, IntsAre vs ns → vs.length = ns.length
  | _, _, .nil => rfl
  | _, _, .cons _ _ r => congrArg Nat.succ (ints_len r)
theorem swo_lx (k : Value → List Int) : Swo fun v u => lx (k v) (k u) := ⟨fun x y h => lx_asym _ _ h, fun x y z h h' => lx_tr _ _ _ h h'⟩
theorem tup_cmp {vs : List Value} {k : Value → List Int} (hp : ∀ v ∈ vs, TupInts s.heap v (k v)) : Cmp prog w A s (tuples' true) (fun p => p.1 ∈ vs) (lt2 fun v u => lx (k v) (k u)) := by
  intro p q hm hm'
  obtain ⟨a, xs, e, ⟨o, ho, hc, n, hd⟩, i1⟩ := hp _ hm
  obtain ⟨a', xs', e', ⟨o', ho', hc', n', hd'⟩, i2⟩ := hp _ hm'
  show wpAny (model prog w) A (keyLt' (tuples' true) p.1 q.1) (fun r s' => s' = s ∧ r = lx (k p.1) (k q.1)) (fun _ _ => False) s
  generalize k p.1 = ns at i1 ⊢
  generalize k q.1 = ms at i2 ⊢
  rw [e, e']
  refine PySem.W.kat_lt ho hd ho' hd' ?_
  have l1 : xs.size = ns.length := by rw [← Array.length_toList, ints_len i1]
  have l2 : xs'.size = ms.length := by rw [← Array.length_toList, ints_len i2]
  rw [l1, l2]
  exact lex_any 0 i1 i2 ⟨rfl, rfl⟩
theorem tups_first {h : Heap} {k : Value → List Int} : ∀ {vs : List Value}, (∀ v ∈ vs, TupInts h v (k v) ∧ k v ≠ []) → ∃ fs : List Value, PySem.W.KatTups h vs fs ∧ fs.length = vs.length ∧ ∀ f ∈ fs, ∃ x t, f = Value.int x t
  | [], _ => ⟨[], PySem.W.KatTups.nil, rfl, fun _ hm => by simp at hm⟩
  | v :: vs, hp => by
    obtain ⟨fs, h1, h2, h3⟩ := tups_first (vs := vs) fun v' hm => hp v' (List.mem_cons_of_mem _ hm)
    obtain ⟨⟨a, xs, e, ⟨o, ho, hc, n, hd⟩, i1⟩, ne⟩ := hp v (List.mem_cons_self ..)
    cases kv : k v with
    | nil => exact absurd kv ne
    | cons x r =>
      rw [kv] at i1
      obtain ⟨t, ys, e2⟩ : ∃ t ys, xs.toList = Value.int x t :: ys := by
        cases q : xs.toList with
        | nil => rw [q] at i1; cases i1
        | cons y ys =>
          rw [q] at i1
          cases i1 with
          | cons _ t _ => exact ⟨t, ys, rfl⟩
      refine ⟨.int x t :: fs, by
        rw [e]
        exact PySem.W.KatTups.cons ho hc hd (by rw [← Array.getElem?_toList, e2]; rfl) h1, by rw [List.length_cons, List.length_cons, h2], fun f hm => ?_⟩
      rcases List.mem_cons.mp hm with rfl | hm
      · exact ⟨x, t, rfl⟩
      · exact h3 f hm
theorem tups_sortable {a : Addr} {vs : List Value} {k : Value → List Int} (h0 : 0 < vs.length) (hp : ∀ v ∈ vs, TupInts s.heap v (k v) ∧ k v ≠ []) (ha : ∀ o, s.heap.get? a = some o → o.cls ≠ .type "tuple") : SortableO prog w A s a vs fun v u => lx (k v) (k u) := by
  intro h' keep
  have hp' : ∀ v ∈ vs, TupInts h' v (k v) ∧ k v ≠ [] := fun v hm => ⟨(hp v hm).1.keeps fun b o e c => keep b o (fun z => by subst z; exact ha o e c) e, (hp v hm).2⟩
  obtain ⟨fs, h1, h2, h3⟩ := tups_first hp'
  refine ⟨tuples' true, fun Q E hq => ?_, tup_cmp fun v hm => (hp' v hm).1⟩
  refine PySem.W.kat_kind (T := .type "int") h1 (by omega) (fun f hm => ?_) (by rfl) ?_
  · obtain ⟨x, t, rfl⟩ := h3 f hm
    exact PySem.W.Looks.now
  · have e : (Value.type "int" != Value.type "tuple") = true := by decide +kernel
    rw [e]
    exact hq
theorem sorted_tupsO {l : Addr} {vs : List Value} {k : Value → List Int} {Q : Value → Shared → Prop} (hl : s.heap.IsList l vs.toArray) (hz : vs.length ≤ sizeLine) (hp : ∀ v ∈ vs, TupInts s.heap v (k v) ∧ k v ≠ [])
    (h : ∀ (h' : Heap) (d : Addr) (out : List Value), Srtd (fun v u => lx (k v) (k u)) out → Stb (fun v u => lx (k v) (k u)) out vs → (∀ b o, s.heap.get? b = some o → h'.get? b = some o) → s.heap.objs.size ≤ d → (∃ n, h'.get? d = some (seqObj "list" out.toArray n)) → Q (.ref d) { s with heap := h' }) :
    wpAny (model prog w) A (call (.builtin "sorted") [.ref l]) Q E s := by
  refine sorted_ord (swo_lx k) hl hz (fun h2 h₁ a ha kk => ?_) fun out hs hb => ?_
  · refine tups_sortable (s := { s with heap := h₁ }) (by omega) (fun v hm => ⟨(hp v hm).1.keeps fun b o e _ => (kk b o e).2, (hp v hm).2⟩) fun o e => ?_
    have e' : some o = some (seqObj "list" vs.toArray 0) := e.symm.trans ha
    cases e'
    intro c
    exact absurd (Value.type.inj c) (by decide)
  · exact h _ _ out hs hb (fun b o e => sortedAll_old e) (Nat.le_succ _) (sortedAll_at s.heap vs out.toArray)
end
end SrtO

namespace Zf
open PySem L2 PySem.Spec PyProof.Rows
/-- sorted(xs), xs a list of tuples of ints, none of them empty -/
def rSortTup (K : PySem.W.Frag) : List V → Hp → VK → Prop := fun vs H Q => ∃ (a : Addr) (l : List (V × List Int)), vs = [V.ref a] ∧ SqL K H a (l.map (·.1)) ∧ (∀ p ∈ l, TupI K H p.1 p.2 ∧ p.2 ≠ []) ∧
  ∀ (l' : List (V × List Int)) (p : Addr), l'.Perm l → l'.Pairwise (fun x y => HT.lexLt y.2 x.2 = false) → H p = none → Q (.ref p) (upd H p (.lst (l'.map (·.1))))
theorem tupI_inj {X : Cx} {pins : List (Addr × Obj)} {σ : L2.St} {H : Hp} {s : Shared} (I : Inv X pins σ H s) {x : V} {ns ms : List Int} (h : TupI X.K H x ns) (h' : TupI X.K H x ms) : ns = ms := by
  obtain ⟨t, rfl, h⟩ := h
  obtain ⟨t', e, h'⟩ := h'
  cases e
  rw [← (tupI_raw I h).ints, (tupI_raw I h').ints]
theorem cr_sortTup {X : Cx} : CallR X (.builtin "sorted") (rSortTup X.K) := by
  intro pins s σ H vs us Q I r h
  obtain ⟨a, l, rfl, hs, hx, q⟩ := h
  obtain ⟨its, rv, hl, hz⟩ := I.list hs
  rw [Vals.ref1 r]
  obtain ⟨e1, e2⟩ := bkV_refs rv fun x m => by
    obtain ⟨p, hp, rfl⟩ := List.mem_map.mp m
    obtain ⟨⟨t, e, _⟩, _⟩ := hx p hp
    exact ⟨t, e⟩
  have tp : ∀ v ∈ its, ∃ p ∈ l, p.1 = bkV v ∧ TS.TupInts s.heap v p.2 := fun v hv => by
    obtain ⟨t, rfl⟩ := e2 v hv
    have hm : V.ref t ∈ l.map (·.1) := by
      rw [e1]; exact List.mem_map.mpr ⟨_, hv, rfl⟩
    obtain ⟨p, hp, ep⟩ := List.mem_map.mp hm
    obtain ⟨⟨t', e, ht⟩, _⟩ := hx p hp
    rw [ep] at e
    cases e
    exact ⟨p, hp, ep, tupI_raw I ht⟩
  refine SrtO.sorted_tupsO (k := fun v => TS.intsOf s.heap v) hl.isList (by rw [← rv.length]; exact hz) (fun v hv => ?_) fun h' d out h1 h2 kp hd hn => ?_
  · obtain ⟨p, hp, ep, tt⟩ := tp v hv
    show TS.TupInts s.heap v (TS.intsOf s.heap v) ∧ TS.intsOf s.heap v ≠ []
    rw [tt.ints]
    exact ⟨tt, (hx p hp).2⟩
  · have h3 : ∀ u ∈ out, ∃ a, u = Value.ref a := fun u hu => e2 u (h2.perm.mem_iff.mp hu)
    obtain ⟨n, hn⟩ := hn
    -- the pairs in their new order
    have el : l = its.map fun v => (bkV v, TS.intsOf s.heap v) := by
      refine List.ext_getElem? fun i => ?_
      have ei : (l.map (·.1))[i]? = (its.map bkV)[i]? := by rw [e1]
      rw [List.getElem?_map, List.getElem?_map] at ei
      rw [List.getElem?_map]
      cases q1 : l[i]? with
      | none =>
        rw [q1] at ei
        cases q2 : its[i]? with
        | none => rfl
        | some v => rw [q2] at ei; cases ei
      | some p =>
        rw [q1] at ei
        cases q2 : its[i]? with
        | none => rw [q2] at ei; cases ei
        | some v =>
          rw [q2] at ei
          have ev : p.1 = bkV v := Option.some.inj ei
          have hp := List.mem_of_getElem? q1
          obtain ⟨⟨t, et, ht⟩, _⟩ := hx p hp
          have ev2 : v = .ref t := bkV_ref (by rw [← ev]; exact et)
          have := (tupI_raw I ht).ints
          show some p = some (bkV v, TS.intsOf s.heap v)
          rw [ev2, this, ← ev2, ← ev]
    have hp : (out.map fun v => (bkV v, TS.intsOf s.heap v)).Perm l := by
      rw [el]; exact h2.perm.map _
    have e3 : (out.map fun v => (bkV v, TS.intsOf s.heap v)).map (·.1) = out.map bkV := by
      rw [List.map_map]; rfl
    have ln : (out.map bkV).length ≤ sizeLine := by
      rw [List.length_map, h2.perm.length_eq, ← rv.length]; exact hz
    have fin := q (out.map fun v => (bkV v, TS.intsOf s.heap v)) d hp (List.pairwise_map.mpr h1) (I.hok.fresh hd)
    rw [e3] at fin
    exact ⟨.ref d, upd H d (.lst (out.map bkV)), I.laid (t' := s.toks) kp hd ⟨ln, out, n, bkV_vals h3, hn⟩, rfl, fin⟩
end Zf

/-! Zf: sum(lists, []) -/
namespace Zf
open PySem L2 PySem.Spec PyProof.Rows
/-- a list object as new ones are -/
abbrev PL (h : Heap) (l : Addr) (its : List Value) : Prop := ∃ n, PySem.IsL h l its.toArray n
section
variable {prog : Program} {w : World} {A : Around} {R : Result → Shared → Prop} {I : Addr} {fp : List Addr} {n : Nat} {Pr : Nat → Value → Prop} {St : Nat → Heap → Prop}
theorem sum_loop_lists (W : Walks prog w A.in1 I fp [I] n Pr St) (hI : ∀ i h, St i h → ∃ o, h.get? I = some o) (L : Nat → List Value) (h0 : Heap) (S : Addr) (hSf : S ∉ fp) (hP : ∀ i v, Pr i v → ∃ b, v = .ref b ∧ PL h0 b (L i) ∧ b ≠ I ∧ b ≠ S)
    (hz : ∀ i, i < n → ((List.range (i + 1)).map fun j => (L j).length).sum ≤ sizeLine) :
    ∀ (k i : Nat) (s : Shared) (t : Addr) (acc : List Value) (c : Nat), n - i = k → i ≤ n → St i s.heap → s.heap.get? S = some { cls := .type "list", dict := none, data := .seq #[.ref t] c, slots := #[] } →
    PL s.heap t acc → t ≠ I → t ≠ S → acc = ((List.range i).map L).flatten → (∀ b o, b ≠ I → b ≠ S → h0.get? b = some o → s.heap.get? b = some o) →
    (∀ h' tk t', (∀ b o, b ≠ I → b ≠ S → s.heap.get? b = some o → h'.get? b = some o) → PL h' t' ((List.range n).map L).flatten → ((n = i ∧ t' = t) ∨ S < t') → R (.ok (.ret (.ref t'))) { s with heap := h', toks := tk }) →
    codeAny (model prog w) A (.builtin "sum.loop" ⟨[.ref I, .ref S, rawInt 2, rawInt 0], []⟩) R s := by
  have hIf : I ∈ fp := W.sub _ (by simp)
  have hSI : S ≠ I := fun h => hSf (by rw [h]; exact hIf)
  intro k
  induction k with
  | zero =>
    intro i s t acc c hk hi hst hS ht htw htS hl h0k hR
    have hin : i = n := by omega
    subst hin
    refine codeAny_builtin F.entry_sum_loop ?_
    rw [Around.under_plainId F.plain_sum_loop _]
    show wpAny _ A.in1 (seqItems? (.ref S) >>= _) _ _ s
    refine wpAny_bind (wpAny_seqItems hS rfl ?_)
    show wpAny _ A.in1 (tryCatch (pyNext (.ref I)) _ >>= _) _ _ s
    refine wpAny_bind (wpAny_tryCatch (W.done s _ _ hst fun h' tk hk' => ?_))
    subst hl
    obtain ⟨m, q⟩ := ht
    exact wpAny_pure (hR h' tk t (fun b o hbw _ e => hk' b o (by simp [hbw]) e) ⟨m, hk' t _ (by simp [htw]) q⟩ (.inl ⟨rfl, rfl⟩))
  | succ k ih =>
    intro i s t acc c hk hi hst hS ht htw htS hl h0k hR
    have hlt : i < n := by omega
    refine codeAny_builtin F.entry_sum_loop ?_
    rw [Around.under_plainId F.plain_sum_loop _]
    show wpAny _ A.in1 (seqItems? (.ref S) >>= _) _ _ s
    refine wpAny_bind (wpAny_seqItems hS rfl ?_)
    show wpAny _ A.in1 (tryCatch (pyNext (.ref I)) _ >>= _) _ _ s
    refine wpAny_bind (wpAny_tryCatch (W.item i s _ _ hlt hst fun v h' tk hPv hst' hk' => ?_))
    obtain ⟨b, rfl, ⟨nb, eb⟩, hbw, hbS⟩ := hP i v hPv
    have hS' := hk' S _ (by simp [hSI]) hS
    obtain ⟨nt, et⟩ := ht
    have et' := hk' t _ (by simp [htw]) et
    have eb' := hk' b _ (by simp [hbw]) (h0k b _ hbw hbS eb)
    have el : ((List.range (i + 1)).map L).flatten = acc ++ L i := by
      rw [List.range_succ, List.map_append, List.flatten_append, hl]; simp
    have hz' : acc.toArray.size + (L i).toArray.size ≤ sizeLine := by
      have e1 : ((List.range (i + 1)).map fun j => (L j).length).sum = (((List.range (i + 1)).map L).flatten).length := by
        rw [List.length_flatten, List.map_map]; rfl
      have z := hz i hlt
      rw [e1, el, List.length_append] at z
      rw [List.size_toArray, List.size_toArray]; exact z
    show wpAny _ A.in1 ((holding [.ref b] (binaryOp .Add (.ref t) (.ref b))).attempt >>= _) _ _ _
    refine wpAny_bind (wpAny_attempt (wpAny_holding (PySem.P.add_list et' eb' ?_ hz')))
    show wpAny _ A.in1 (updateSeq S (fun _ => #[.ref h'.objs.size]) >>= _) _ _ _
    have hSl : S < h'.objs.size := Heap.lt_size hS'
    have ea : acc.toArray ++ (L i).toArray = (acc ++ L i).toArray := by simp
    rw [ea]
    have hS2 : (h'.push { cls := .type "list", data := .seq (acc ++ L i).toArray }).get? S = some { cls := .type "list", dict := none, data := .seq #[.ref t] c, slots := #[] } := Heap.get?_push_of_some _ hS'
    have neS : h'.objs.size ≠ S := Nat.ne_of_gt hSl
    refine wpAny_bind (wpAny_updateSeq hS2 rfl (wpAny_bind (wpAny_letGo ?_)))
    have hS3 := Heap.get?_update_self (Obj.mapSeq fun _ => #[Value.ref h'.objs.size]) hS2 rfl
    show wpAny _ A.in1 (updateSeq S (fun _ => #[.ref h'.objs.size]) >>= _) _ _ _
    refine wpAny_bind (wpAny_updateSeq hS3 rfl ?_)
    have hS4 := Heap.get?_update_self (Obj.mapSeq fun _ => #[Value.ref h'.objs.size]) hS3 rfl
    have keep : ∀ q o, q ≠ S → h'.get? q = some o → (((h'.push { cls := .type "list", data := .seq (acc ++ L i).toArray }).update S (Obj.mapSeq fun _ => #[.ref h'.objs.size])).update S (Obj.mapSeq fun _ => #[.ref h'.objs.size])).get? q = some o := fun q o hq e =>
      (Heap.get?_update_other _ _ (Ne.symm hq)).trans ((Heap.get?_update_other _ _ (Ne.symm hq)).trans (Heap.get?_push_of_some _ e))
    have new : (((h'.push { cls := .type "list", data := .seq (acc ++ L i).toArray }).update S (Obj.mapSeq fun _ => #[.ref h'.objs.size])).update S (Obj.mapSeq fun _ => #[.ref h'.objs.size])).get? h'.objs.size = some { cls := .type "list", data := .seq (acc ++ L i).toArray } :=
      (Heap.get?_update_other _ _ neS.symm).trans ((Heap.get?_update_other _ _ neS.symm).trans (Heap.get?_push_size _ rfl))
    obtain ⟨oI, eI⟩ := hI _ _ hst'
    have neI : h'.objs.size ≠ I := Nat.ne_of_gt (Heap.lt_size eI)
    refine wpAny_pure ⟨plainId_quiet F.plain_sum_loop _, ih (i + 1) _ h'.objs.size (acc ++ L i) _ (by omega) hlt (W.frame _ _ _ hst' fun q hq o e => keep q o (fun z => hSf (by rw [← z]; exact hq)) e) hS4 ⟨_, new⟩ neI neS el.symm
      (fun q o h1 h2 e => keep q o h2 (hk' q o (by simp [h1]) (h0k q o h1 h2 e))) fun h2 tk2 t2 hk2 ht2 hn2 => ?_⟩
    refine hR h2 tk2 t2 (fun q o h1 h2 e => hk2 q o h1 h2 (keep q o h2 (hk' q o (by simp [h1]) e))) ht2 (.inr ?_)
    rcases hn2 with ⟨_, rfl⟩ | h
    · exact hSl
    · exact h
end
theorem args_sum2 (a b : Value) : argsOk "sum" ⟨[a, b], []⟩ := by unfold argsOk; kernel_rfl
theorem sub_list_str : isSubtype (.type "list") (.type "str") = pure false := by rw [isSubtype_type]; kernel_rfl
theorem sub_list_bytes : isSubtype (.type "list") (.type "bytes") = pure false := by rw [isSubtype_type]; kernel_rfl
theorem sub_list_ba : isSubtype (.type "list") (.type "bytearray") = pure false := by rw [isSubtype_type]; kernel_rfl
section
variable {prog : Program} {w : World} {A : Around} {E : Value → Shared → Prop} {s : Shared}
/-- sum(l, st): l a list of lists, st a list -/
theorem sum_lists {l st : Addr} {its acc : List Value} {L : Nat → List Value} {Q : Value → Shared → Prop} (hh : A.handled = none) (hl : s.heap.IsList l its.toArray) (hst : PL s.heap st acc) (ha : acc = [])
    (hP : ∀ i v, its[i]? = some v → ∃ b, v = .ref b ∧ PL s.heap b (L i)) (hz : ((List.range its.length).map fun j => (L j).length).sum ≤ sizeLine)
    (h : ∀ h' tk t', (∀ b o, s.heap.get? b = some o → h'.get? b = some o) → PL h' t' ((List.range its.length).map L).flatten → ((its = [] ∧ t' = st) ∨ s.heap.objs.size ≤ t') → Q (.ref t') { s with heap := h', toks := tk }) :
    wpAny (model prog w) A (call (.builtin "sum") [.ref l, .ref st]) Q E s := by
  refine call_function_tree F.kind_sum F.plain_sum F.entry_sum (args_sum2 _ _) ?_
  unfold Builtin.«sum»
  simp only [List.length_cons, List.length_nil]
  rw [if_neg (by decide)]
  refine wpAny_bind (wpAny_of_eq (show Builtin.Builtins.bindParams "sum" ["start"] 0 ⟨[.ref st], []⟩ = pure [some (.ref st)] from rfl) ?_)
  refine wpAny_bind (wpAny_pyIter_list hl ?_)
  refine wpAny_bind (wpAny_pure ?_)
  obtain ⟨nst, est⟩ := hst
  have est1 : (s.heap.push { cls := .type "list_iterator", data := .fields #[.ref l, .int 0 0] }).get? st = some { cls := .type "list", dict := none, data := .seq acc.toArray nst, slots := #[] } := Heap.get?_push_of_some _ est
  have ty : ({ s with heap := s.heap.push { cls := .type "list_iterator", data := .fields #[.ref l, .int 0 0] } } : Shared).TypeIs (.ref st) "list" := ⟨_, est1, rfl⟩
  simp only [List.forIn_cons, List.forIn_nil]
  refine wpAny_bind (wpAny_bind (wpAny_bind (wpAny_isInstance (T := "list") (b := false) ty sub_list_str ?_)))
  simp only [Bool.false_eq_true, if_false]
  refine wpAny_pure (wpAny_bind (wpAny_bind (wpAny_isInstance (T := "list") (b := false) ty sub_list_bytes ?_)))
  simp only [Bool.false_eq_true, if_false]
  refine wpAny_pure (wpAny_bind (wpAny_bind (wpAny_isInstance (T := "list") (b := false) ty sub_list_ba ?_)))
  simp only [Bool.false_eq_true, if_false]
  refine wpAny_pure (wpAny_pure ?_)
  refine wpAny_bind (wpAny_newObj_type ?_)
  have hlt : l < s.heap.objs.size := by obtain ⟨_, e, _⟩ := hl; exact Heap.lt_size e
  have e1 : (s.heap.push { cls := .type "list_iterator", data := .fields #[.ref l, .int 0 0] }).objs.size = s.heap.objs.size + 1 := Heap.size_push ..
  have W := Walks.list (prog := prog) (w := w) (A := A.in1) hh s.heap.objs.size l (Nat.ne_of_lt hlt) its.toArray
  have hstl := Heap.lt_size est
  refine wpAny_pure ⟨plainId_quiet F.plain_sum_loop _, ?_⟩
  refine sum_loop_lists W (fun i h st => let ⟨o, e, _⟩ := st.1; ⟨o, e⟩) L s.heap ((s.heap.push { cls := .type "list_iterator", data := .fields #[.ref l, .int 0 0] }).objs.size) (fun hm => by
      rw [e1] at hm
      rcases List.mem_cons.mp hm with z | z
      · exact absurd z (Nat.succ_ne_self _)
      · exact absurd (List.mem_singleton.mp z) (Nat.ne_of_gt (Nat.lt_succ_of_lt hlt)))
    (fun i v hv => ?_) (fun i hi => ?_) _ 0 _ st acc 0 rfl (Nat.zero_le _) ⟨⟨_, Heap.get?_push_of_some _ (Heap.get?_push_size _ rfl), rfl, rfl⟩, ?_⟩ (Heap.get?_push_size _ rfl) ⟨nst, Heap.get?_push_of_some _ est1⟩ (Nat.ne_of_lt hstl) (by rw [e1]; exact Nat.ne_of_lt (Nat.lt_succ_of_lt hstl)) (by rw [ha]; rfl)
    (fun b o h1 h2 e => Heap.get?_push_of_some _ (Heap.get?_push_of_some _ e)) fun h' tk t' hk hp hn => ?_
  · obtain ⟨b, e, n, q⟩ := hP i v (by simpa using hv)
    have := Heap.lt_size q
    exact ⟨b, e, ⟨n, q⟩, Nat.ne_of_lt this, by rw [e1]; exact Nat.ne_of_lt (Nat.lt_succ_of_lt this)⟩
  · refine Nat.le_trans ?_ hz
    have hi' : i + 1 ≤ its.length := Nat.succ_le_of_lt (by simpa using hi)
    have : ∀ (f : Nat → Nat) (a b : Nat), a ≤ b → ((List.range a).map f).sum ≤ ((List.range b).map f).sum := fun f a b hab => by
      induction hab with
      | refl => exact Nat.le_refl _
      | step _ ih => rw [List.range_succ, List.map_append, List.sum_append]; omega
    exact this _ _ _ hi'
  · obtain ⟨o, e, r⟩ := hl
    exact ⟨o, Heap.get?_push_of_some _ (Heap.get?_push_of_some _ e), r⟩
  · have keep : ∀ b o, s.heap.get? b = some o → h'.get? b = some o := fun b o e => by
      have := Heap.lt_size e
      exact hk b o (Nat.ne_of_lt this) (by rw [e1]; exact Nat.ne_of_lt (Nat.lt_succ_of_lt this)) (Heap.get?_push_of_some _ (Heap.get?_push_of_some _ e))
    have z : its.toArray.size = its.length := List.size_toArray ..
    rw [z] at hp hn
    refine h h' tk t' keep hp ?_
    rcases hn with ⟨n0, r⟩ | r
    · exact .inl ⟨List.eq_nil_of_length_eq_zero n0, r⟩
    · rw [e1] at r
      exact .inr (Nat.le_of_lt (Nat.lt_of_succ_lt r))
end
def rSumL (K : PySem.W.Frag) : List V → Hp → VK → Prop := fun xs H Q => ∃ (l st : Addr) (ls : List (Addr × List V)), xs = [.ref l, .ref st] ∧ SqL K H l (ls.map fun p => V.ref p.1) ∧ H st = some (.lst []) ∧ (∀ p ∈ ls, H p.1 = some (.lst p.2)) ∧ ((ls.map (·.2)).flatten).length ≤ sizeLine ∧
  (ls = [] → Q (.ref st) H) ∧ ∀ p, H p = none → Q (.ref p) (upd H p (.lst (ls.map (·.2)).flatten))
theorem cr_sumL {X : Cx} (hc : X.calm = true) : CallR X (.builtin "sum") (rSumL X.K) := by
  intro pins s σ H vs us Q I r h
  obtain ⟨l, st, ls, rfl, hs, hst, hls, hz, q0, q⟩ := h
  obtain ⟨its, rv, hl, _⟩ := I.list hs
  obtain ⟨u1, u2, rfl, r1, r2⟩ := vals2 r
  cases (show u1 = Value.ref l from r1)
  cases (show u2 = Value.ref st from r2)
  obtain ⟨_, j0, n0, rr0, _, e0⟩ := I.lstM hst
  cases rr0
  -- the items' values
  have hlen : its.length = ls.length := by rw [← rv.length, List.length_map]
  have hval : ∀ p ∈ ls, ∃ js : List Value, Vals p.2 js ∧ PL s.heap p.1 js := fun p hp => by
    obtain ⟨_, js, n, rr, _, e⟩ := I.lstM (hls p hp)
    exact ⟨js, rr, n, e⟩
  classical
  let L : Nat → List Value := fun i => if h : i < ls.length then (hval ls[i] (List.getElem_mem h)).choose else []
  have hL : ∀ i (h : i < ls.length), Vals ls[i].2 (L i) ∧ PL s.heap ls[i].1 (L i) := fun i h => by
    show Vals ls[i].2 (if h : i < ls.length then (hval ls[i] (List.getElem_mem h)).choose else []) ∧ PL s.heap ls[i].1 (if h : i < ls.length then (hval ls[i] (List.getElem_mem h)).choose else [])
    rw [dif_pos h]
    exact (hval ls[i] (List.getElem_mem h)).choose_spec
  have hall : ∀ n, n ≤ ls.length → Vals ((ls.take n).map (·.2)).flatten ((List.range n).map L).flatten := fun n => by
    induction n with
    | zero => intro _; exact .nil
    | succ n ih =>
      intro h
      have h' : n < ls.length := h
      rw [List.range_succ, List.map_append, List.flatten_append, List.take_add_one, List.getElem?_eq_getElem h', List.map_append, List.flatten_append]
      refine (ih (by omega)).append ?_
      have := (hL n h').1
      simpa using this
  have hfin : Vals (ls.map (·.2)).flatten ((List.range its.length).map L).flatten := by
    rw [hlen]
    have := hall ls.length (Nat.le_refl _)
    rw [List.take_length] at this
    exact this
  refine sum_lists (L := L) (I.ok.hd hc) hl.isList ⟨n0, e0⟩ rfl (fun i v hv => ?_) ?_ fun h' tk t' hk ⟨n, hp⟩ hn => ?_
  · have hi : i < ls.length := by
      rw [← hlen]
      exact (List.getElem?_eq_some_iff.mp hv).1
    have e : (ls.map fun p => V.ref p.1)[i]? = some (V.ref ls[i].1) := by rw [List.getElem?_map, List.getElem?_eq_getElem hi]; rfl
    obtain ⟨u, e1, e2⟩ := rv.get e
    rw [hv] at e1
    cases e1
    cases (show v = Value.ref _ from e2)
    exact ⟨_, rfl, (hL i hi).2⟩
  · have e : ((List.range its.length).map fun j => (L j).length).sum = (((List.range its.length).map L).flatten).length := by
      rw [List.length_flatten, List.map_map]; rfl
    rw [e, ← hfin.length]
    exact hz
  · rcases hn with ⟨e1, e2⟩ | hn
    · have e3 : ls = [] := List.eq_nil_of_length_eq_zero (by rw [← hlen, e1]; rfl)
      subst e2
      exact ⟨.ref t', H, I.kept (t' := tk) hk, rfl, q0 e3⟩
    · exact ⟨.ref t', upd H t' (.lst (ls.map (·.2)).flatten), I.laid (t' := tk) hk hn ⟨hz, _, n, hfin, hp⟩, rfl, q t' (I.hok.fresh hn)⟩
/-! ### as data -/
def lstsOf : List D → Option (List (List D))
  | [] => some []
  | .lst l :: r => (lstsOf r).map (l :: ·)
  | _ :: _ => none
theorem lstsOf_map (ls : List (List D)) : lstsOf (ls.map D.lst) = some ls := by
  induction ls with
  | nil => rfl
  | cons n ns ih => simp [lstsOf, ih]
theorem lstsOf_reps {K : PySem.W.Frag} {hd : Option Addr} {G : Hp} : ∀ {l : List D} {ls : List (List D)} {vs : List V}, lstsOf l = some ls → Reps K hd G l vs → ∃ qs : List (Addr × List V), vs = (qs.map fun p => V.ref p.1) ∧ (∀ p ∈ qs, G p.1 = some (.lst p.2)) ∧ qs.length = ls.length ∧ Reps K hd G ls.flatten (qs.map (·.2)).flatten := by
  intro l
  induction l with
  | nil => intro ls vs e r; cases r; cases e; exact ⟨[], rfl, fun _ h => (by cases h), rfl, .nil⟩
  | cons d l ih =>
    intro ls vs e r
    cases r with
    | cons r1 r2 =>
      cases d with
      | lst b =>
        cases h : lstsOf l with
        | none => simp [lstsOf, h] at e
        | some ms =>
          simp [lstsOf, h] at e
          subst e
          obtain ⟨qs, e1, e2, e4, e3⟩ := ih h r2
          cases r1 with
          | @lst a _ us ea ra =>
            refine ⟨(a, us) :: qs, by rw [e1]; rfl, fun p hp => ?_, by simp [e4], by simpa using ra.append e3⟩
            rcases List.mem_cons.mp hp with z | z
            · rw [z]; exact ea
            · exact e2 p z
      | _ => cases e
def sumLD : D → M D
  | .lst l => (M.of (lstsOf l)).bind fun ls => .ask (ls.flatten.length ≤ sizeLine) (.pure (.lst ls.flatten))
  | _ => .stuck
section
variable {X : Cx} {E : XK} {e : Expr} {f : Env → M D} {p p2 pos : Pos}
theorem sn_sumL (hc : X.calm = true) (hg : Gl X "sum") (hm : X.mg "sum" = none) (he : SE X E mB e f) (h1 : starEach [e, .List [] p2] X.env = (false, eval e X.env) :: starEach [.List [] p2] X.env := by rfl) (h2 : starEach [.List [] p2] X.env = (false, eval (.List [] p2) X.env) :: starEach [] X.env := by rfl)
    (hpl : (backTo pos (starEach [.List [] p2] X.env)).any (·.1) = false := by rfl) : SE X E mN (.Call (.Name "sum" p) [e, .List [] p2] [] pos) (bind1 f sumLD) :=
  (pe_callB (cr_sumL hc) hg hm (by decide +kernel) (pa_cons he (pa_cons (pe_lst pa_nil) pa_nil h2) h1) (by decide) (by decide) h1 hpl).imp fun σ H Q ⟨hd, G, env, S, w⟩ => by
    refine ⟨hd, G, env, S, (f env).mono (fun d q v G1 H1 x1 k1 r1 => ?_) (fun _ q => q) w⟩
    refine ⟨by show (0 : Nat) ≤ sizeLine; decide, fun st hst => ?_⟩
    obtain ⟨x2, k2, r2⟩ := new_lst (l := []) x1.s k1 hst .nil
    have q : (sumLD d).wp _ _ := q
    unfold sumLD at q
    split at q
    · obtain ⟨ls, el, q⟩ := bind_of q
      obtain ⟨hz, q⟩ := q
      obtain ⟨a, vs, rfl, h1, rr⟩ := (r1.ext x2).lst x2.s
      obtain ⟨qs, e1, e2, e4, e3⟩ := lstsOf_reps el rr
      subst e1
      have x12 := x1.trans x2 k1
      refine ⟨a, st, qs, rfl, SqL.of h1, upd_same, fun p hp => x2.s _ _ (e2 p hp), by rw [← e3.length]; exact hz, fun e => ?_, fun p hp => ?_⟩
      · subst e
        have e0 : ls = [] := List.eq_nil_of_length_eq_zero e4.symm
        subst e0
        exact q _ G1 _ x12 k2 (mN_le _ _ _ _ _ _ _ _ _ _ x1 k1 r2)
      · obtain ⟨x3, k3, r3⟩ := new_lst x2.s k2 hp e3
        exact q _ G1 _ (x12.trans x3 k2) k3 (mN_le _ _ _ _ _ _ _ _ _ _ x12 k2 r3)
    · exact False.elim q
end
end Zf

/-! Zf: sorted of a tuple too; isinstance, min, max, repr -/
namespace SrtO
open PySem PyProof.Rows Srt TS
section
variable {prog : Program} {w : World} {A : Around} {E : Value → Shared → Prop} {s : Shared}
theorem collect_tup {l : Addr} {vs : List Value} {Q : List Value → Shared → Prop} (hl : s.heap.IsTuple l vs.toArray)
    (h : Q vs { s with heap := (s.heap.push (seqObj "list" #[] 0)).update s.heap.objs.size (Obj.mapSeq (· ++ vs.toArray)) }) (hsz : vs.length ≤ sizeLine) : wpAny (model prog w) A (collect (.ref l)) Q E s := by
  obtain ⟨o, ho, hc, n, hd⟩ := id hl
  unfold collect
  refine wpAny_bind (wpAny_runValue (codeAny_builtin entry_proto_collect' ?_))
  show wpAny _ _ (do again (.builtin "list.__iadd__" ⟨[← newList [], .ref l], []⟩)) _ _ s
  refine wpAny_bind (wpAny_newList (wpAny_pure ⟨Code.quiet_builtin _ (by decide +kernel), codeAny_builtin entry_list_iadd' ?_⟩))
  show wpAny _ _ (Builtin.List.listExtendWith (.ref s.heap.objs.size) (.ref l) (.ref s.heap.objs.size)) _ _ { s with heap := s.heap.push (seqObj "list" #[] 0) }
  unfold Builtin.List.listExtendWith
  have ho' : (s.heap.push (seqObj "list" #[] 0)).get? l = some o := Heap.get?_push_of_some _ ho
  refine wpAny_bind (wpAny_typeOf (T := "tuple") ⟨o, ho', hc⟩ ?_)
  have ht : (Value.type "tuple" == Value.type "tuple") = true := by rfl
  rw [if_pos (by rw [ht]; simp)]
  refine wpAny_bind (listItems_at ho' hd ?_)
  refine wpAny_bind (listItems_at (xs := #[]) (n := 0) (Heap.get?_push_size _ rfl) rfl ?_)
  rw [if_neg (by simp)]
  refine wpAny_bind (listUpdate_at (xs := #[]) (n := 0) (Heap.get?_push_size _ rfl) rfl ?_ (Nat.zero_le _) (by show (#[] ++ vs.toArray).size ≤ sizeLine + 1; simp only [Array.size_append, List.size_toArray, List.length_nil]; omega))
  refine wpAny_pure ?_
  show wpAny (model prog w) A (do
      let o ← load s.heap.objs.size
      match o.data with
      | .seq xs _ => pure xs.toList
      | _ => unsupported "internal:collect") Q E { s with heap := (s.heap.push (seqObj "list" #[] 0)).update s.heap.objs.size (Obj.mapSeq (· ++ vs.toArray)) }
  refine wpAny_bind (wpAny_load (get?_update_seq (Heap.get?_push_size _ rfl) _) ?_)
  show wpAny _ _ (pure ((#[] : Array Value) ++ vs.toArray).toList) Q E _
  rw [show ((#[] : Array Value) ++ vs.toArray).toList = vs by simp]
  exact wpAny_pure h
/-- sorted(t), t a tuple -/
theorem sorted_ordT {l : Addr} {vs : List Value} {ltv : Value → Value → Bool} {Q : Value → Shared → Prop} (O : Swo ltv) (hl : s.heap.IsTuple l vs.toArray) (hz : vs.length ≤ sizeLine)
    (hS : 2 ≤ vs.length → ∀ (h₁ : Heap) (a : Addr), h₁.get? a = some (seqObj "list" vs.toArray 0) → (∀ b o, s.heap.get? b = some o → b ≠ a ∧ h₁.get? b = some o) → SortableO prog w A.in1.in1 { s with heap := h₁ } a vs ltv)
    (h : ∀ out : List Value, Srtd ltv out → Stb ltv out vs → Q (.ref (s.heap.objs.size + 1)) { s with heap := sortedAll s.heap vs out.toArray }) :
    wpAny (model prog w) A (call (.builtin "sorted") [.ref l]) Q E s := by
  refine Calls.call_function_entry kind_sorted plain_sorted entry_sorted (args_sorted1 _) ?_
  unfold Builtin.«sorted»
  refine wpAny_bind (m := checkCount "sorted" 1 1 _) (wpAny_pure ?_)
  refine wpAny_bind (collect_tup hl ?_ hz)
  refine wpAny_bind (wpAny_newList ?_ hz)
  have hsz : ((s.heap.push (seqObj "list" #[] 0)).update s.heap.objs.size (Obj.mapSeq (· ++ vs.toArray))).objs.size = s.heap.objs.size + 1 := by
    rw [Heap.size_update, size_push']
  have hoL : (((s.heap.push (seqObj "list" #[] 0)).update s.heap.objs.size (Obj.mapSeq (· ++ vs.toArray))).push (seqObj "list" vs.toArray 0)).get? (s.heap.objs.size + 1) = some (seqObj "list" vs.toArray 0) := by
    rw [← hsz]; exact Heap.get?_push_size _ rfl
  have keep : ∀ b o, s.heap.get? b = some o → b ≠ s.heap.objs.size + 1 ∧ (((s.heap.push (seqObj "list" #[] 0)).update s.heap.objs.size (Obj.mapSeq (· ++ vs.toArray))).push (seqObj "list" vs.toArray 0)).get? b = some o := fun b o q => by
    have hlt : b < s.heap.objs.size := Heap.lt_size q
    refine ⟨Nat.ne_of_lt (Nat.lt_succ_of_lt hlt), Heap.get?_push_of_some _ ?_⟩
    rw [Heap.get?_update_ne _ _ _ _ (Nat.ne_of_lt hlt)]
    exact Heap.get?_push_of_some _ q
  show wpAny _ _ _ _ _ { s with heap := ((s.heap.push (seqObj "list" #[] 0)).update s.heap.objs.size (Obj.mapSeq (· ++ vs.toArray))).push (seqObj "list" vs.toArray 0) }
  rw [hsz]
  refine wpAny_bind (wpAny_holding (wpAny_call_entry slot_list_sort ⟨_, hoL, rfl⟩ entry_list_sort (list_sort_ord O hoL hz (fun h2 => hS h2 _ _ hoL keep) fun out hs hb => ⟨_, rfl, ?_⟩) (args_list_sort _)))
  exact wpAny_pure ⟨_, rfl, h out hs hb⟩
theorem sorted_tupsT {l : Addr} {vs : List Value} {k : Value → List Int} {Q : Value → Shared → Prop} (hl : s.heap.IsTuple l vs.toArray) (hz : vs.length ≤ sizeLine) (hp : ∀ v ∈ vs, TupInts s.heap v (k v) ∧ k v ≠ [])
    (h : ∀ (h' : Heap) (d : Addr) (out : List Value), Srtd (fun v u => lx (k v) (k u)) out → Stb (fun v u => lx (k v) (k u)) out vs → (∀ b o, s.heap.get? b = some o → h'.get? b = some o) → s.heap.objs.size ≤ d → (∃ n, h'.get? d = some (seqObj "list" out.toArray n)) → Q (.ref d) { s with heap := h' }) :
    wpAny (model prog w) A (call (.builtin "sorted") [.ref l]) Q E s := by
  refine sorted_ordT (swo_lx k) hl hz (fun h2 h₁ a ha kk => ?_) fun out hs hb => ?_
  · refine tups_sortable (s := { s with heap := h₁ }) (by omega) (fun v hm => ⟨(hp v hm).1.keeps fun b o e _ => (kk b o e).2, (hp v hm).2⟩) fun o e => ?_
    have e' : some o = some (seqObj "list" vs.toArray 0) := e.symm.trans ha
    cases e'
    intro c
    exact absurd (Value.type.inj c) (by decide)
  · exact h _ _ out hs hb (fun b o e => sortedAll_old e) (Nat.le_succ _) (sortedAll_at s.heap vs out.toArray)
theorem sorted_intsT {l : Addr} {its : List Value} {ns : List Int} {Q : Value → Shared → Prop} (hl : s.heap.IsTuple l its.toArray) (hz : its.length ≤ sizeLine) (hi : IntsAre its ns)
    (h : ∀ (h' : Heap) (d : Addr) (out : List Value) (ns' : List Int), IntsAre out ns' → ns'.Perm ns → ns'.Pairwise (· ≤ ·) → (∀ b o, s.heap.get? b = some o → h'.get? b = some o) → s.heap.objs.size ≤ d → (∃ n, h'.get? d = some (seqObj "list" out.toArray n)) → Q (.ref d) { s with heap := h' }) :
    wpAny (model prog w) A (call (.builtin "sorted") [.ref l]) Q E s := by
  refine sorted_ordT swo_int hl hz (fun h2 h₁ a' _ _ => ints_sortable hi h2) fun out h1 h2 => ?_
  obtain ⟨k1, k2, k3⟩ := ints_out hi h1 h2
  exact h _ _ out _ k1 k2 k3 (fun b o e => sortedAll_old e) (Nat.le_succ _) (sortedAll_at s.heap its out.toArray)
end
end SrtO

namespace Zf
open PySem L2 PySem.Spec PyProof.Rows
/-- as rSortTup, of a tuple -/
def rSortTT (K : PySem.W.Frag) : List V → Hp → VK → Prop := fun vs H Q => ∃ (a : Addr) (l : List (V × List Int)), vs = [V.ref a] ∧ SqT K H a (l.map (·.1)) ∧ (∀ p ∈ l, TupI K H p.1 p.2 ∧ p.2 ≠ []) ∧
  ∀ (l' : List (V × List Int)) (p : Addr), l'.Perm l → l'.Pairwise (fun x y => HT.lexLt y.2 x.2 = false) → H p = none → Q (.ref p) (upd H p (.lst (l'.map (·.1))))
theorem sort_pairs {X : Cx} {pins : List (Addr × Obj)} {σ : L2.St} {H : Hp} {s : Shared} (I : Inv X pins σ H s) {l : List (V × List Int)} {its : List Value} (rv : Vals (l.map (·.1)) its) (hx : ∀ p ∈ l, TupI X.K H p.1 p.2 ∧ p.2 ≠ []) :
    (∀ v ∈ its, TS.TupInts s.heap v (TS.intsOf s.heap v) ∧ TS.intsOf s.heap v ≠ []) ∧ l = (its.map fun v => (bkV v, TS.intsOf s.heap v)) ∧ ∀ u ∈ its, ∃ a, u = Value.ref a := by
  obtain ⟨e1, e2⟩ := bkV_refs rv fun x m => by
    obtain ⟨p, hp, rfl⟩ := List.mem_map.mp m
    obtain ⟨⟨t, e, _⟩, _⟩ := hx p hp
    exact ⟨t, e⟩
  refine ⟨fun v hv => ?_, ?_, e2⟩
  · obtain ⟨t, rfl⟩ := e2 v hv
    have hm : V.ref t ∈ l.map (·.1) := by
      rw [e1]; exact List.mem_map.mpr ⟨_, hv, rfl⟩
    obtain ⟨p, hp, ep⟩ := List.mem_map.mp hm
    obtain ⟨⟨t', e, ht⟩, ne⟩ := hx p hp
    rw [ep] at e
    cases e
    have tt := tupI_raw I ht
    rw [tt.ints]
    exact ⟨tt, ne⟩
  · refine List.ext_getElem? fun i => ?_
    have ei : (l.map (·.1))[i]? = (its.map bkV)[i]? := by rw [e1]
    rw [List.getElem?_map, List.getElem?_map] at ei
    rw [List.getElem?_map]
    cases q1 : l[i]? with
    | none =>
      rw [q1] at ei
      cases q2 : its[i]? with
      | none => rfl
      | some v => rw [q2] at ei; cases ei
    | some p =>
      rw [q1] at ei
      cases q2 : its[i]? with
      | none => rw [q2] at ei; cases ei
      | some v =>
        rw [q2] at ei
        have ev : p.1 = bkV v := Option.some.inj ei
        have hp := List.mem_of_getElem? q1
        obtain ⟨⟨t, et, ht⟩, _⟩ := hx p hp
        have ev2 : v = .ref t := bkV_ref (by rw [← ev]; exact et)
        have := (tupI_raw I ht).ints
        show some p = some (bkV v, TS.intsOf s.heap v)
        rw [ev2, this, ← ev2, ← ev]
theorem cr_sortTT {X : Cx} : CallR X (.builtin "sorted") (rSortTT X.K) := by
  intro pins s σ H vs us Q I r h
  obtain ⟨a, l, rfl, hs, hx, q⟩ := h
  obtain ⟨its, rv, hl, hz⟩ := I.tuple hs
  rw [Vals.ref1 r]
  obtain ⟨z1, z2, z3⟩ := sort_pairs I rv hx
  refine SrtO.sorted_tupsT (k := fun v => TS.intsOf s.heap v) hl (by rw [← rv.length]; exact hz) z1 fun h' d out h1 h2 kp hd hn => ?_
  have h3 : ∀ u ∈ out, ∃ a, u = Value.ref a := fun u hu => z3 u (h2.perm.mem_iff.mp hu)
  obtain ⟨n, hn⟩ := hn
  have hp : (out.map fun v => (bkV v, TS.intsOf s.heap v)).Perm l := by
    rw [z2]; exact h2.perm.map _
  have e3 : (out.map fun v => (bkV v, TS.intsOf s.heap v)).map (·.1) = out.map bkV := by
    rw [List.map_map]; rfl
  have ln : (out.map bkV).length ≤ sizeLine := by
    rw [List.length_map, h2.perm.length_eq, ← rv.length]; exact hz
  have fin := q (out.map fun v => (bkV v, TS.intsOf s.heap v)) d hp (List.pairwise_map.mpr h1) (I.hok.fresh hd)
  rw [e3] at fin
  exact ⟨.ref d, upd H d (.lst (out.map bkV)), I.laid (t' := s.toks) kp hd ⟨ln, out, n, bkV_vals h3, hn⟩, rfl, fin⟩
def rSortIT (K : PySem.W.Frag) : List V → Hp → VK → Prop := fun vs H Q => ∃ (a : Addr) (ns : List Int), vs = [V.ref a] ∧ SqT K H a (ns.map V.int) ∧
  ∀ (ns' : List Int) (p : Addr), ns'.Perm ns → ns'.Pairwise (· ≤ ·) → H p = none → Q (.ref p) (upd H p (.lst (ns'.map V.int)))
theorem cr_sortIT {X : Cx} : CallR X (.builtin "sorted") (rSortIT X.K) := by
  intro pins s σ H vs us Q I r h
  obtain ⟨a, ns, rfl, hs, q⟩ := h
  obtain ⟨its, rv, hl, hz⟩ := I.tuple hs
  rw [Vals.ref1 r]
  refine SrtO.sorted_intsT hl (by rw [← rv.length]; exact hz) rv.ints fun h' d out ns' h1 h2 h3 kp hd hn => ?_
  obtain ⟨n, hn⟩ := hn
  have ln : (ns'.map V.int).length ≤ sizeLine := by
    rw [List.length_map, h2.length_eq]
    rw [List.length_map] at hz
    exact hz
  exact ⟨.ref d, upd H d (.lst (ns'.map V.int)), I.laid (t' := s.toks) kp hd ⟨ln, out, n, vals_of_ints h1, hn⟩, rfl, q _ d h2 h3 (I.hok.fresh hd)⟩

/-! ### sorted as data -/
def tpI (l : List Int) : D := .tup (l.map D.int)
def leI (a b : Int) : Bool := decide (a ≤ b)
def leT (a b : List Int) : Bool := !HT.lexLt b a
def sortI (l : List Int) : List Int := l.mergeSort leI
def sortT (l : List (List Int)) : List (List Int) := l.mergeSort leT
/-- tuples of ints, none empty -/
def tupsOf : List D → Option (List (List Int))
  | [] => some []
  | .tup t :: r => match intsOf t, tupsOf r with
    | some (i :: ns), some l => some ((i :: ns) :: l)
    | _, _ => none
  | _ :: _ => none
theorem tupsOf_map : ∀ (ls : List (List Int)), (∀ t ∈ ls, t ≠ []) → tupsOf (ls.map tpI) = some ls
  | [], _ => rfl
  | [] :: _, h => absurd rfl (h [] (by simp))
  | (i :: t) :: r, h => by
    show tupsOf (.tup ((i :: t).map D.int) :: r.map tpI) = _
    unfold tupsOf
    rw [intsOf_map, tupsOf_map r fun t ht => h t (by simp [ht])]
theorem tupsOf_spec : ∀ {l : List D} {ls : List (List Int)}, tupsOf l = some ls → l = ls.map tpI ∧ ∀ t ∈ ls, t ≠ []
  | [], ls, e => by cases e; exact ⟨rfl, fun _ h => (by cases h)⟩
  | .tup t :: r, ls, e => by
    unfold tupsOf at e
    split at e
    · rename_i i ns l h1 h2
      cases e
      obtain ⟨q1, q2⟩ := tupsOf_spec h2
      have q3 : t = (i :: ns).map D.int := by
        have : ∀ {t : List D} {ns : List Int}, intsOf t = some ns → t = ns.map D.int := by
          intro t
          induction t with
          | nil => intro ns e; cases e; rfl
          | cons d t ih =>
            intro ns e
            cases d with
            | int i =>
              cases h : intsOf t with
              | none => simp [intsOf, h] at e
              | some ms =>
                simp [intsOf, h] at e
                subst e
                rw [ih h]; rfl
            | _ => cases e
        exact this h1
      refine ⟨by rw [q1, q3]; rfl, fun x hx => ?_⟩
      rcases List.mem_cons.mp hx with z | z
      · rw [z]; simp
      · exact q2 x z
    · cases e
  | .non :: _, _, e => by cases e
  | .bl _ :: _, _, e => by cases e
  | .int _ :: _, _, e => by cases e
  | .str _ :: _, _, e => by cases e
  | .lst _ :: _, _, e => by cases e
  | .scr _ :: _, _, e => by cases e
  | .lstA _ _ :: _, _, e => by cases e
  | .dK _ _ :: _, _, e => by cases e
  | .dT _ _ :: _, _, e => by cases e
  | .ins _ _ _ :: _, _, e => by cases e
  | .insA _ _ _ _ :: _, _, e => by cases e
  | .hand :: _, _, e => by cases e
  | .fn _ :: _, _, e => by cases e
theorem sortI_eq {l l' : List Int} (p : l'.Perm l) (h : l'.Pairwise (· ≤ ·)) : l' = sortI l := by
  have h2 : (sortI l).Pairwise (· ≤ ·) := by
    have := List.pairwise_mergeSort (le := leI) (fun a b c h1 h2 => by
      unfold leI at *
      exact decide_eq_true (Int.le_trans (of_decide_eq_true h1) (of_decide_eq_true h2))) (fun a b => by
      unfold leI
      rcases Int.le_total a b with z | z
      · simp [z]
      · simp [z]) l
    exact this.imp fun h => of_decide_eq_true h
  exact (p.trans (List.mergeSort_perm l leI).symm).eq_of_pairwise (fun a b _ _ h1 h2 => Int.le_antisymm h1 h2) h h2
theorem sortT_eq {l l' : List (List Int)} (p : l'.Perm l) (h : l'.Pairwise (fun x y => HT.lexLt y x = false)) : l' = sortT l := by
  have h2 : (sortT l).Pairwise (fun x y => HT.lexLt y x = false) := by
    have := List.pairwise_mergeSort (le := leT) (fun a b c h1 h2 => by
      unfold leT at *
      rw [Bool.not_eq_true'] at *
      exact SrtO.lx_tr a b c h1 h2) (fun a b => by
      unfold leT
      cases h : HT.lexLt b a with
      | false => rfl
      | true =>
        have e : HT.lexLt a b = false := SrtO.lx_asym b a h
        rw [e]; rfl) l
    exact this.imp fun h => by
      unfold leT at h
      rw [Bool.not_eq_true'] at h
      exact h
  exact (p.trans (List.mergeSort_perm l leT).symm).eq_of_pairwise (fun a b _ _ h1 h2 => SrtO.lx_tot a b h2 h1) h h2
def sortedD : List D → M D
  | [.lst l] => match intsOf l, tupsOf l with
    | some ns, _ => .pure (.lst ((sortI ns).map D.int))
    | _, some ls => .pure (.lst ((sortT ls).map tpI))
    | _, _ => .stuck
  | [.tup l] => match intsOf l, tupsOf l with
    | some ns, _ => .pure (.lst ((sortI ns).map D.int))
    | _, some ls => .pure (.lst ((sortT ls).map tpI))
    | _, _ => .stuck
  | _ => .stuck
section
variable {K : PySem.W.Frag} {hd : Option Addr} {G H : Hp}
theorem reps_tI {l : List Int} {v : V} (s : Same G H) (r : Rep K hd G (tpI l) v) : TupI K H v l := by
  cases r with
  | tup h r =>
    have := intsOf_reps (intsOf_map l) r
    subst this
    exact ⟨_, rfl, Same.seqT s h⟩
theorem reps_ints : ∀ ns : List Int, Reps K hd G (ns.map D.int) (ns.map V.int)
  | [] => .nil
  | n :: ns => .cons (.int n) (reps_ints ns)
theorem reps_pairs (s : Same G H) : ∀ {ls : List (List Int)} {vs : List V}, (∀ t ∈ ls, t ≠ []) → Reps K hd G (ls.map tpI) vs → ∃ l : List (V × List Int), l.map (·.1) = vs ∧ l.map (·.2) = ls ∧ (∀ p ∈ l, TupI K H p.1 p.2 ∧ p.2 ≠ []) ∧ ∀ p ∈ l, Rep K hd G (tpI p.2) p.1
  | [], _, _, r => by cases r; exact ⟨[], rfl, rfl, fun _ h => (by cases h), fun _ h => (by cases h)⟩
  | t :: ls, _, h, r => by
    cases r with
    | @cons _ _ v vs r1 r2 =>
      obtain ⟨l, e1, e2, h1, h2⟩ := reps_pairs s (fun t ht => h t (by simp [ht])) r2
      refine ⟨(v, t) :: l, by simp [e1], by simp [e2], fun p hp => ?_, fun p hp => ?_⟩
      · rcases List.mem_cons.mp hp with z | z
        · rw [z]; exact ⟨reps_tI s r1, h t (by simp)⟩
        · exact h1 p z
      · rcases List.mem_cons.mp hp with z | z
        · rw [z]; exact r1
        · exact h2 p z
theorem pairs_reps : ∀ {l : List (V × List Int)}, (∀ p ∈ l, Rep K hd G (tpI p.2) p.1) → Reps K hd G ((l.map (·.2)).map tpI) (l.map (·.1))
  | [], _ => .nil
  | p :: l, h => .cons (h p (by simp)) (pairs_reps fun q hq => h q (by simp [hq]))
end
section
variable {X : Cx} {E : XK} {e e2 : Expr} {f : Env → M D} {p p2 pos : Pos} {fs : Env → M (List D)}
def rSortA (K : PySem.W.Frag) : List V → Hp → VK → Prop := fun xs H Q => rSortedI K xs H Q ∨ (rSortTup K xs H Q ∨ (rSortIT K xs H Q ∨ rSortTT K xs H Q))
theorem fn_sorted : FnD X E mN (rSortA X.K) sortedD := by
  intro hd G H l vs Q s hh r w
  unfold sortedD at w
  split at w
  · rename_i l
    obtain ⟨v, rfl, rr⟩ := r.one
    obtain ⟨a, vs, rfl, h1, r1⟩ := RepB.lst s rr
    split at w
    · rename_i ns e1
      have := intsOf_reps e1 r1
      subst this
      refine .inl ⟨a, ns, rfl, SqL.of h1, fun ns' p hp hs hn => ?_⟩
      obtain ⟨x1, h3, r3⟩ := new_lst s hh hn (reps_ints ns')
      rw [← sortI_eq hp hs] at w
      exact w _ G _ x1 h3 r3
    · rename_i ls e2 _
      obtain ⟨q1, q2⟩ := tupsOf_spec e2
      subst q1
      obtain ⟨l, z1, z2, z3, z4⟩ := reps_pairs s q2 r1
      subst z1
      refine .inr (.inl ⟨a, l, rfl, SqL.of h1, z3, fun l' p hp hs hn => ?_⟩)
      obtain ⟨x1, h3, r3⟩ := new_lst s hh hn (pairs_reps fun q hq => z4 q (hp.mem_iff.mp hq))
      have e3 : l'.map (·.2) = sortT ls := sortT_eq (by rw [← z2]; exact hp.map _) (List.pairwise_map.mpr hs)
      rw [e3] at r3
      exact w _ G _ x1 h3 r3
    · exact False.elim w
  · rename_i l
    obtain ⟨v, rfl, rr⟩ := r.one
    obtain ⟨a, vs, rfl, h1, r1⟩ := RepB.tup rr
    split at w
    · rename_i ns e1
      have := intsOf_reps e1 r1
      subst this
      refine .inr (.inr (.inl ⟨a, ns, rfl, Same.seqT s h1, fun ns' p hp hs hn => ?_⟩))
      obtain ⟨x1, h3, r3⟩ := new_lst s hh hn (reps_ints ns')
      rw [← sortI_eq hp hs] at w
      exact w _ G _ x1 h3 r3
    · rename_i ls e2 _
      obtain ⟨q1, q2⟩ := tupsOf_spec e2
      subst q1
      obtain ⟨l, z1, z2, z3, z4⟩ := reps_pairs s q2 r1
      subst z1
      refine .inr (.inr (.inr ⟨a, l, rfl, Same.seqT s h1, z3, fun l' p hp hs hn => ?_⟩))
      obtain ⟨x1, h3, r3⟩ := new_lst s hh hn (pairs_reps fun q hq => z4 q (hp.mem_iff.mp hq))
      have e3 : l'.map (·.2) = sortT ls := sortT_eq (by rw [← z2]; exact hp.map _) (List.pairwise_map.mpr hs)
      rw [e3] at r3
      exact w _ G _ x1 h3 r3
    · exact False.elim w
  · exact False.elim w
theorem sn_sorted (hg : Gl X "sorted") (hm : X.mg "sorted" = none) (ha : SA X E mB [e] fs) (he : starEach [e] X.env = (false, eval e X.env) :: starEach [] X.env := by rfl) : SE X E mN (.Call (.Name "sorted" p) [e] [] pos) (bindA fs sortedD) :=
  se_callB mN_le (cr_sortedI.or (cr_sortTup.or (cr_sortIT.or cr_sortTT))) fn_sorted hg hm (by decide +kernel) ha (by decide) (by decide) he rfl
/-- min, max of two -/
theorem sn_max2 (hc : X.calm = true) (hg : Gl X "max") (hm : X.mg "max" = none) (ha : SA X E mB [e, e2] fs) (he : starEach [e, e2] X.env = (false, eval e X.env) :: starEach [e2] X.env := by rfl) (hpl : (backTo pos (starEach [e2] X.env)).any (·.1) = false := by rfl) : SE X E mN (.Call (.Name "max" p) [e, e2] [] pos) (bindA fs max2D) :=
  se_callB mN_le (call_max2 hc) fn_max2 hg hm (by decide +kernel) ha (by decide) (by decide) he hpl
theorem sn_min2 (hc : X.calm = true) (hg : Gl X "min") (hm : X.mg "min" = none) (ha : SA X E mB [e, e2] fs) (he : starEach [e, e2] X.env = (false, eval e X.env) :: starEach [e2] X.env := by rfl) (hpl : (backTo pos (starEach [e2] X.env)).any (·.1) = false := by rfl) : SE X E mN (.Call (.Name "min" p) [e, e2] [] pos) (bindA fs min2D) :=
  se_callB mN_le (call_min2 hc) fn_min2 hg hm (by decide +kernel) ha (by decide) (by decide) he hpl
/-- max, min of a list of ints, not empty -/
def maxLD : List D → M D
  | [.lst l] => match intsOf l with
    | some (n :: ns) => .pure (.int (ns.foldl max n))
    | _ => .stuck
  | _ => .stuck
def minLD : List D → M D
  | [.lst l] => match intsOf l with
    | some (n :: ns) => .pure (.int (ns.foldl min n))
    | _ => .stuck
  | _ => .stuck
theorem foldl_max : ∀ (ns : List Int) (n : Int), (ns.foldl max n = n ∨ ns.foldl max n ∈ ns) ∧ n ≤ ns.foldl max n ∧ ∀ y ∈ ns, y ≤ ns.foldl max n
  | [], n => ⟨.inl rfl, Int.le_refl _, fun _ h => (by cases h)⟩
  | m :: ns, n => by
    obtain ⟨h1, h2, h3⟩ := foldl_max ns (max n m)
    rw [List.foldl_cons]
    refine ⟨?_, by omega, fun y hy => ?_⟩
    · rcases h1 with h1 | h1
      · rw [h1]
        rcases Int.le_total n m with z | z
        · right; rw [Int.max_eq_right z]; simp
        · left; exact Int.max_eq_left z
      · right; simp [h1]
    · rcases List.mem_cons.mp hy with z | z
      · subst z; omega
      · exact h3 y z
theorem foldl_min : ∀ (ns : List Int) (n : Int), (ns.foldl min n = n ∨ ns.foldl min n ∈ ns) ∧ ns.foldl min n ≤ n ∧ ∀ y ∈ ns, ns.foldl min n ≤ y
  | [], n => ⟨.inl rfl, Int.le_refl _, fun _ h => (by cases h)⟩
  | m :: ns, n => by
    obtain ⟨h1, h2, h3⟩ := foldl_min ns (min n m)
    rw [List.foldl_cons]
    refine ⟨?_, by omega, fun y hy => ?_⟩
    · rcases h1 with h1 | h1
      · rw [h1]
        rcases Int.le_total n m with z | z
        · left; exact Int.min_eq_left z
        · right; rw [Int.min_eq_right z]; simp
      · right; simp [h1]
    · rcases List.mem_cons.mp hy with z | z
      · subst z; omega
      · exact h3 y z
theorem fn_maxL : FnD X E mN (rMax X.K) maxLD := by
  intro hd G H l vs Q s hh r w
  unfold maxLD at w
  split at w
  · split at w
    · rename_i n ns e
      obtain ⟨v, rfl, rr⟩ := r.one
      obtain ⟨a, vs, rfl, h1, r1⟩ := RepB.lst s rr
      have := intsOf_reps e r1
      subst this
      refine ⟨a, n :: ns, rfl, SqL.of h1, by simp, fun m hm hy => ?_⟩
      obtain ⟨z1, z2, z3⟩ := foldl_max ns n
      have em : m = ns.foldl max n := by
        refine Int.le_antisymm ?_ (hy _ ?_)
        · rcases List.mem_cons.mp hm with z | z
          · rw [z]; exact z2
          · exact z3 m z
        · rcases z1 with z | z
          · rw [z]; simp
          · simp [z]
      subst em
      exact w _ G H (Ext.refl s) hh (.inl ⟨rfl, .int _⟩)
    · exact False.elim w
  · exact False.elim w
theorem fn_minL : FnD X E mN (rMin X.K) minLD := by
  intro hd G H l vs Q s hh r w
  unfold minLD at w
  split at w
  · split at w
    · rename_i n ns e
      obtain ⟨v, rfl, rr⟩ := r.one
      obtain ⟨a, vs, rfl, h1, r1⟩ := RepB.lst s rr
      have := intsOf_reps e r1
      subst this
      refine ⟨a, n :: ns, rfl, SqL.of h1, by simp, fun m hm hy => ?_⟩
      obtain ⟨z1, z2, z3⟩ := foldl_min ns n
      have em : m = ns.foldl min n := by
        refine Int.le_antisymm (hy _ ?_) ?_
        · rcases z1 with z | z
          · rw [z]; simp
          · simp [z]
        · rcases List.mem_cons.mp hm with z | z
          · rw [z]; exact z2
          · exact z3 m z
      subst em
      exact w _ G H (Ext.refl s) hh (.inl ⟨rfl, .int _⟩)
    · exact False.elim w
  · exact False.elim w
theorem sn_maxL (hc : X.calm = true) (hg : Gl X "max") (hm : X.mg "max" = none) (ha : SA X E mB [e] fs) (he : starEach [e] X.env = (false, eval e X.env) :: starEach [] X.env := by rfl) : SE X E mN (.Call (.Name "max" p) [e] [] pos) (bindA fs maxLD) :=
  se_callB mN_le (cr_max hc) fn_maxL hg hm (by decide +kernel) ha (by decide) (by decide) he rfl
theorem sn_minL (hc : X.calm = true) (hg : Gl X "min") (hm : X.mg "min" = none) (ha : SA X E mB [e] fs) (he : starEach [e] X.env = (false, eval e X.env) :: starEach [] X.env := by rfl) : SE X E mN (.Call (.Name "min" p) [e] [] pos) (bindA fs minLD) :=
  se_callB mN_le (cr_min hc) fn_minL hg hm (by decide +kernel) ha (by decide) (by decide) he rfl
end
end Zf

/-! Zf: isinstance, repr -/
namespace Zf
open PySem L2 PySem.Spec PyProof.Rows
/-! ### isinstance(x, a built-in type) -/
inductive Ty where
  | non | int | bl | str | tup | lst | dct
def Ty.s : Ty → String
  | .non => "NoneType"
  | .int => "int"
  | .bl => "bool"
  | .str => "str"
  | .tup => "tuple"
  | .lst => "list"
  | .dct => "dict"
def isTy : Ty → Ty → Bool
  | .non, .non => true
  | .int, .int => true
  | .bl, .bl => true
  | .bl, .int => true
  | .str, .str => true
  | .tup, .tup => true
  | .lst, .lst => true
  | .dct, .dct => true
  | _, _ => false
theorem kit_isTy : ∀ a b : Ty, kitB a.s b.s = some (isTy a b) := by
  intro a b
  cases a <;> cases b <;> decide +kernel
def tyD : D → Option Ty
  | .non => some .non
  | .bl _ => some .bl
  | .int _ => some .int
  | .str _ => some .str
  | .tup _ => some .tup
  | .lst _ => some .lst
  | .scr _ => some .lst
  | .dK _ _ => some .dct
  | .dT _ _ => some .dct
  | .ins _ _ _ => none
  | .lstA _ _ => none
  | .insA _ _ _ _ => none
  | .hand => none
  | .fn _ => none
section
variable {K : PySem.W.Frag} {hd : Option Addr} {G H : Hp} {v : V} {d : D} {a : Ty}
theorem tyx_seqL {p : Addr} {xs : List V} (h : SqL K H p xs) : TyX K H (.ref p) (.type "list") := by
  rcases h with (h | ⟨o, h⟩) | ⟨o, its, n, hk, hc, _⟩
  · exact .base (.lst h)
  · exact .base (.frz h)
  · exact .kList hk hc
theorem tyx_seqT {p : Addr} {xs : List V} (h : SqT K H p xs) : TyX K H (.ref p) (.type "tuple") := by
  rcases h with (h | ⟨o, h⟩) | ⟨o, its, n, hk, hc, _⟩
  · exact .base (.tup h)
  · exact .fTuple h
  · exact .kTuple hk hc
theorem rep_tyx (s : Same G H) (e : tyD d = some a) (r : RepB K hd G H d v) : TyX K H v (.type a.s) := by
  cases d with
  | non => cases e; cases r.non; exact .base .non
  | bl b => cases e; cases r.bl; exact .base (.bl b)
  | int i => cases e; cases r.int; exact .base (.int i)
  | str x => cases e; cases r.str; exact .base (.str x)
  | tup l => cases e; obtain ⟨p, vs, rfl, h, _⟩ := r.tup; exact tyx_seqT (Same.seqT s h)
  | lst l => cases e; obtain ⟨p, vs, rfl, h, _⟩ := r.lst s; exact .base (.lst h)
  | scr l => cases e; obtain ⟨p, vs, rfl, h, _⟩ := r.scr; exact tyx_seqL (s.seq h)
  | dK ks l =>
    cases e
    rcases r with r | ⟨p, rfl, _, _, vs, h, _⟩
    · cases r with
      | dK h _ _ => exact .base (.dK (s _ _ h))
    · exact .base (.dK h)
  | dT ks l =>
    cases e
    rcases r with r | ⟨p, rfl, _, _, vs, h, _⟩
    · cases r with
      | dT h _ _ => exact .base (.dT (s _ _ h))
    · exact .base (.dT h)
  | ins _ _ _ => cases e
  | lstA _ _ => cases e
  | insA _ _ _ _ => cases e
  | hand => cases e
  | fn _ => cases e
end
def isiD (t : Ty) : D → M D := fun d => (M.of (tyD d)).bind fun a => .pure (.bl (isTy a t))
def isi2D (t t' : Ty) : D → M D := fun d => (M.of (tyD d)).bind fun a => .pure (.bl (isTy a t || isTy a t'))
section
variable {X : Cx} {E : XK} {e : Expr} {f : Env → M D} {p p2 p3 p4 pos : Pos} {fs : Env → M (List D)}
theorem sn_isi (t : Ty) {x : Str} (hg : Gl X "isinstance") (hm : X.mg "isinstance" = none) (hgx : Gl X x) (hmx : X.mg x = none) (he : SE X E mB e f) (hv : bootBuiltins x = some (.type t.s) := by decide +kernel) (hn : x ≠ "__name__" := by decide) (hdb : (x == ("__debug__" : Str)) = false := by decide)
    (h1 : starEach [e, .Name x p2] X.env = (false, eval e X.env) :: starEach [.Name x p2] X.env := by rfl) (h2 : starEach [.Name x p2] X.env = (false, eval (.Name x p2) X.env) :: starEach [] X.env := by rfl) (hpl : (backTo pos (starEach [.Name x p2] X.env)).any (·.1) = false := by rfl) :
    SE X E mN (.Call (.Name "isinstance" p) [e, .Name x p2] [] pos) (bind1 f (isiD t)) :=
  (pe_callB call_isi hg hm (by decide +kernel) (pa_cons he (pa_cons (pe_bltn (v := .ty t.s) hgx hmx hv rfl hn hdb) pa_nil h2) h1) (by decide) (by decide) h1 hpl).imp fun σ H Q ⟨hd, G, env, S, w⟩ => by
    refine ⟨hd, G, env, S, (f env).mono (fun d q v G1 H1 x1 k1 r1 => ?_) (fun _ q => q) w⟩
    obtain ⟨a, ea, q⟩ := bind_of q
    exact ⟨v, .ty t.s, _, _, isTy a t, rfl, .ty _, rep_tyx x1.s ea r1, kit_ty (kit_isTy a t), q _ G1 H1 x1 k1 (.inl ⟨rfl, .bl _⟩)⟩
theorem sn_isi2 (t t' : Ty) {x x' : Str} {k : Nat} (hg : Gl X "isinstance") (hm : X.mg "isinstance" = none) (hgx : Gl X x) (hmx : X.mg x = none) (hgx' : Gl X x') (hmx' : X.mg x' = none) (he : SE X E mB e f) (hv : bootBuiltins x = some (.type t.s) := by decide +kernel) (hv' : bootBuiltins x' = some (.type t'.s) := by decide +kernel)
    (hn : x ≠ "__name__" := by decide) (hdb : (x == ("__debug__" : Str)) = false := by decide) (hn' : x' ≠ "__name__" := by decide) (hdb' : (x' == ("__debug__" : Str)) = false := by decide)
    (h1 : starEach [e, .Tuple [.Name x p2, .Name x' p3] k p4] X.env = (false, eval e X.env) :: starEach [.Tuple [.Name x p2, .Name x' p3] k p4] X.env := by rfl) (h2 : starEach [.Tuple [.Name x p2, .Name x' p3] k p4] X.env = (false, eval (.Tuple [.Name x p2, .Name x' p3] k p4) X.env) :: starEach [] X.env := by rfl)
    (h3 : starEach [.Name x p2, .Name x' p3] X.env = (false, eval (.Name x p2) X.env) :: starEach [.Name x' p3] X.env := by rfl) (h4 : starEach [.Name x' p3] X.env = (false, eval (.Name x' p3) X.env) :: starEach [] X.env := by rfl)
    (hpl : (backTo pos (starEach [.Tuple [.Name x p2, .Name x' p3] k p4] X.env)).any (·.1) = false := by rfl) :
    SE X E mN (.Call (.Name "isinstance" p) [e, .Tuple [.Name x p2, .Name x' p3] k p4] [] pos) (bind1 f (isi2D t t')) :=
  (pe_callB call_isiT hg hm (by decide +kernel) (pa_cons he (pa_cons (pe_tup (pa_cons (pe_bltn (v := .ty t.s) hgx hmx hv rfl hn hdb) (pa_cons (pe_bltn (v := .ty t'.s) hgx' hmx' hv' rfl hn' hdb') pa_nil h4) h3)) pa_nil h2) h1) (by decide) (by decide) h1 hpl).imp fun σ H Q ⟨hd, G, env, S, w⟩ => by
    refine ⟨hd, G, env, S, (f env).mono (fun d q v G1 H1 x1 k1 r1 => ?_) (fun _ q => q) w⟩
    obtain ⟨a, ea, q⟩ := bind_of q
    refine ⟨by show (2 : Nat) ≤ sizeLine; decide, fun p hp => ?_⟩
    have x2 : Ext hd G1 H1 G1 (upd H1 p (.tup [.ty t.s, .ty t'.s])) := Ext.newH x1.s hp
    have ty := rep_tyx (x2.s) ea (r1.ext x2)
    refine ⟨v, p, [.ty t.s, .ty t'.s], _, [.type t.s, .type t'.s], isTy a t || isTy a t', rfl, upd_same, .cons (.ty _) (.cons (.ty _) .nil), ty, ?_, q _ G1 _ (x1.trans x2 k1) (k1.newH hp) (.inl ⟨rfl, .bl _⟩)⟩
    refine kitAny_cons (kit_ty (kit_isTy a t)) (fun e1 => ?_) (fun e1 => by rw [e1]; rfl)
    rw [e1, Bool.false_or]
    exact kitAny_cons (kit_ty (kit_isTy a t')) (fun e2 => by rw [e2]; exact kitAny_nil) fun e2 => e2
end
/-! ### repr -/
structure OkR (d : D) : Prop where
  lay : okD 16 d = true
  sh : (toPy d).showable = true
  len : (toPy d).shown.length ≤ sizeLine
def reprD : List D → M D
  | [d] => .ask (OkR d) (.pure (.str (toPy d).shown))
  | _ => .stuck
def rRepr (K : PySem.W.Frag) : List V → Hp → VK → Prop := fun xs H Q => ∃ x d, xs = [x] ∧ Dp K H x d ∧ d.canLay0 = true ∧ d.depth ≤ 16 ∧ d.showable = true ∧ d.shown.length ≤ sizeLine ∧ Q (.str d.shown) H
theorem cr_repr {X : Cx} (hg : X.A.guards = some []) (hr : Room 0 X.A) : CallR X (.builtin "repr") (rRepr X.K) := by
  intro pins s σ H vs us Q I r h
  obtain ⟨x, d, rfl, hd, hl, hdp, hs, hz, q⟩ := h
  obtain ⟨u, rfl, rx⟩ := vals1 r
  obtain ⟨as, rr⟩ := Dp.reads I d x u hd rx
  have hu := hr.un
  have fin : ∀ h' tk tk', (∀ b o, s.heap.get? b = some o → h'.get? b = some o) → EP X pins σ Q (.str d.shown tk') { s with heap := h', toks := tk } := fun h' tk tk' hk => ⟨.str d.shown, H, I.kept (t' := tk) hk, ⟨_, rfl⟩, q⟩
  cases d with
  | none => cases hd; cases rx; exact PySem.P.repr_of_none (fin s.heap _ _ fun _ _ e => e)
  | bool b =>
    cases hd; cases rx
    refine PySem.P.repr_of_bool ?_
    cases b
    · exact fin s.heap _ _ fun _ _ e => e
    · exact fin s.heap _ _ fun _ _ e => e
  | int i =>
    cases hd
    obtain ⟨t, rfl⟩ := rx
    refine PySem.P.repr_of_int (by simpa [PyData.showable] using hs) ?_
    exact fin s.heap _ _ fun _ _ e => e
  | str y =>
    cases hd
    obtain ⟨t, rfl⟩ := rx
    exact PySem.P.repr_of_str (fin s.heap _ _ fun _ _ e => e) hz
  | list l =>
    have hud : X.A.units + ((PyData.list l).depth + 1) < cLine := by omega
    cases hd with
    | lst q1 q2 =>
      cases rx
      exact repr_of_reads' rr hs (PyData.noDict_hsm (PyData.hasDict_of_canLay _ hl)) hg hud (fun _ _ e => e) (fun h' u tk hk => fin h' tk u hk) hz
  | tuple l =>
    have hud : X.A.units + ((PyData.tuple l).depth + 1) < cLine := by omega
    cases hd with
    | tup q1 q2 =>
      cases rx
      exact repr_of_reads' rr hs (PyData.noDict_hsm (PyData.hasDict_of_canLay _ hl)) hg hud (fun _ _ e => e) (fun h' u tk hk => fin h' tk u hk) hz
  | dict l => exact absurd hl (by simp [PyData.canLay0])
section
variable {X : Cx} {E : XK} {e : Expr} {f : Env → M D} {p p2 p3 p4 pos : Pos} {fs : Env → M (List D)} {k : Nat}
theorem fn_repr : FnD X E mN (rRepr X.K) reprD := by
  intro hd G H l vs Q s hh r w
  unfold reprD at w
  split at w
  · obtain ⟨⟨z1, z2, z3⟩, w⟩ := w
    obtain ⟨v, rfl, rr⟩ := r.one
    obtain ⟨y1, y2⟩ := okD_py 16 _ z1
    exact ⟨v, _, rfl, RepB.dp s z1 rr, y1, y2, z2, z3, w _ G H (Ext.refl s) hh (.inl ⟨rfl, .str _⟩)⟩
  · exact False.elim w
theorem sn_repr [c : Cz X k] (hg : Gl X "repr") (hm : X.mg "repr" = none) (ha : SA X E mB [e] fs) (he : starEach [e] X.env = (false, eval e X.env) :: starEach [] X.env := by rfl) : SE X E mN (.Call (.Name "repr" p) [e] [] pos) (bindA fs reprD) :=
  se_callB mN_le (cr_repr c.quiet c.r0) fn_repr hg hm (by decide +kernel) ha (by decide) (by decide) he rfl
end
end Zf

/-! Zf: instances: their making, their fields -/
namespace Zf
open PySem L2 PySem.Spec PyProof.Rows
/-- the object of a name of its own, put anew -/
theorem own_put {K : PySem.W.Frag} {hd : Option Addr} {G0 H0 G H : Hp} {env : Env} {σ : L2.St} {i : Nat} {d d' : D} {p : Addr} {o : HO} (S : StaB K hd G0 H0 G H env σ) (e : env[i]? = some (.own d)) (h1 : σ[i]? = some (some (.ref p))) (h : OwnAt K hd G (upd H p o) p d') :
    StaB K hd G0 H0 G (upd H p o) (env.set i (.own d')) σ := by
  have hi : i < env.length := (List.getElem?_eq_some_iff.mp e).1
  obtain ⟨p', h1', h2, h3, _⟩ := S.sta.own i _ e
  rw [h1] at h1'
  cases h1'
  have hp0 := S.new i _ p e h1
  have ng : ∀ b o, G b = some o → b ≠ p := fun b o z y => by rw [y, h2] at z; cases z
  have inv : ∀ {j : Nat} {e' : D}, (env.set i (Slot.own d'))[j]? = some (.own e') → (i = j ∧ e' = d') ∨ (i ≠ j ∧ env[j]? = some (.own e')) := fun {j e'} z => by
    by_cases hij : i = j
    · subst hij
      rw [List.getElem?_set_self hi] at z
      cases z
      exact .inl ⟨rfl, rfl⟩
    · rw [List.getElem?_set_ne hij] at z
      exact .inr ⟨hij, z⟩
  have old : ∀ {j : Nat} {e' : D}, (env.set i (Slot.own d'))[j]? = some (.own e') → ∃ d2, env[j]? = some (.own d2) := fun {j e'} z => by
    rcases inv z with ⟨e1, _⟩ | ⟨_, z⟩
    · exact ⟨_, by rw [← e1]; exact e⟩
    · exact ⟨_, z⟩
  refine ⟨⟨fun b u z => ?_, fun a ea => ?_, by rw [List.length_set]; exact S.sta.len, fun j e' z => ?_, fun j e' z => ?_, fun j k d1 d2 q z1 z2 y1 y2 => ?_⟩, ⟨S.ext.g, fun b u n z => ?_, fun b u z => ?_, S.ext.old⟩, fun j e' q z y => ?_⟩
  · rw [upd_ne (ng b u z)]; exact S.sta.sub b u z
  · obtain ⟨n1, c1, cells, p1, l, m, k, z1, z2⟩ := S.sta.hand a ea
    exact ⟨n1, c1, cells, p1, l, m, k, by rw [upd_ne (fun z => h3 (by rw [← z]; exact ea))]; exact z1, z2⟩
  · by_cases hij : i = j
    · subst hij
      rw [List.getElem?_set_self hi] at z; cases z
    · rw [List.getElem?_set_ne hij] at z
      exact S.sta.frz j e' z
  · rcases inv z with ⟨e1, e2⟩ | ⟨n, z⟩
    · subst e1 e2
      exact ⟨p, h1, h2, h3, h⟩
    · obtain ⟨q, y1, y2, y3, y4⟩ := S.sta.own j e' z
      have nq : q ≠ p := fun y => n (S.sta.sep i j _ e' p e z h1 (by rw [← y]; exact y1))
      exact ⟨q, y1, y2, y3, y4.mono (Same.refl _) fun o z => by rw [upd_ne nq]; exact z⟩
  · obtain ⟨d1', z1⟩ := old z1
    obtain ⟨d2', z2⟩ := old z2
    exact S.sta.sep j k d1' d2' q z1 z2 y1 y2
  · rw [upd_ne (fun y => by rw [y, hp0] at z; cases z)]; exact S.ext.h b u n z
  · rw [upd_ne (ng b u z)]; exact S.ext.s b u z
  · obtain ⟨d2, z⟩ := old z
    exact S.new j d2 q z y
/-- what one name alone holds, frozen -/
theorem freeze_at {K : PySem.W.Frag} {hd : Option Addr} {G H G' H' : Hp} {d : D} {p : Addr} (x : Ext hd G H G' H') (h : HandOk K hd G' H') (n : H p = none) (gn : G' p = none) (hn : hd ≠ some p) (o : OwnAt K hd G' H' p d) : ∃ G'', Ext hd G H G'' H' ∧ HandOk K hd G'' H' ∧ Rep K hd G'' d (.ref p) := by
  obtain ⟨ob, q⟩ := o.ex
  have sm : Same G' (upd G' p ob) := fun b u z => by rw [upd_ne (ne_of_none z gn)]; exact z
  refine ⟨upd G' p ob, ⟨x.g.trans sm, x.h, fun b u z => ?_, fun b m => ?_⟩, fun a ea => ?_, ?_⟩
  · by_cases hb : b = p
    · subst hb; rw [upd_same] at z; cases z; exact q
    · rw [upd_ne hb] at z; exact x.s b u z
  · rw [upd_ne (by rintro rfl; exact m n)]; exact x.old b m
  · obtain ⟨n1, c, cells, p1, l, m, k, e1, e2, r⟩ := h a ea
    refine ⟨by rw [upd_ne (by rintro rfl; exact hn ea)]; exact n1, c, cells, p1, l, m, k, e1, sm.seq e2, r⟩
  · cases d with
    | lst l => obtain ⟨vs, e1, r1⟩ := o; rw [q] at e1; cases e1; exact .lst upd_same (r1.mono sm)
    | lstA a l => obtain ⟨pa, vs, e1, r1⟩ := o; subst pa; rw [q] at e1; cases e1; exact .lstA upd_same (r1.mono sm)
    | dK ks l => obtain ⟨vs, e1, l1, r1⟩ := o; rw [q] at e1; cases e1; exact .dK upd_same l1 (r1.mono sm)
    | dT ks l => obtain ⟨vs, e1, l1, r1⟩ := o; rw [q] at e1; cases e1; exact .dT upd_same l1 (r1.mono sm)
    | ins C ns l => obtain ⟨dx, vs, e1, l1, r1⟩ := o; rw [q] at e1; cases e1; exact .ins upd_same l1 (r1.mono sm)
    | insA a C ns l => obtain ⟨pa, dx, vs, e1, l1, r1⟩ := o; subst pa; rw [q] at e1; cases e1; exact .insA upd_same l1 (r1.mono sm)
    | _ => exact False.elim o

/-! ### o.f, o.g = e -/
def gAt (K : PySem.W.Frag) (to : TE) (f : Str) : TG := fun v σ H Q => to σ H fun x H1 => ∃ a C dx fs, x = .ref a ∧ H1 a = some (.ins C dx fs) ∧ Cls K C ∧ NoAttr K C f ∧ fs.length < 1000 ∧ Q σ (upd H1 a (.ins C dx (putF f v fs)))
theorem pg_attr {X : Cx} {o : Expr} {f : Str} {pos : Pos} {to : TE} (ho : PE X o to) : PG X (.Attribute o f pos) (gAt X.K to f) := by
  refine ⟨fun pins s σ H v u Q I r h => ?_⟩
  rw [assign_Attribute]
  refine wpAny_bind (wpAny_holding (thn (ho.run pins s σ H _ I h) fun ov s1 ⟨x, H1, I1, r1, a, C, dx, fs, ex, ea, c, n, l, q⟩ => ?_))
  subst ex
  cases r1
  refine wpAny_bind (wpAny_standAt (wpAny_bind (wpAny_holding (setattr_ok I1 ea c n l r fun s2 I2 => ?_))))
  exact wpAny_release ⟨σ, _, I2, q⟩
section
variable {X : Cx} {E : XK} {e : Expr} {f : Env → M D} {p p1 p2 p3 p4 pos : Pos} {fs : Env → M (List D)} {x : Str}
/-- x.f, x.g = (a, b): x a name of its own, without fields yet -/
def fld2M (C : Addr) (i : Nat) (n1 n2 : Str) (env : Env) (d : D) : M Fl := match d, env[i]? with
  | .tup [a, b], some (Slot.own (.insA y C' [] [])) => .ask (C' = C) (.pure (.nx (env.set i (.own (.insA y C [n1, n2] [a, b])))))
  | _, _ => .stuck
def sFld2 (C : Addr) (i : Nat) (n1 n2 : Str) (f : Env → M D) : Env → M Fl := fun env => (f env).bind fun d => fld2M C i n1 n2 env d
theorem ss_fld2 {C : Addr} {n1 n2 : Str} {kt : Nat} (i : Nat) (cl : Cls X.K C) (a1 : NoAttr X.K C n1) (a2 : NoAttr X.K C n2) (hc : X.calm = true) (he : SE X E mE e f) (hne : (n1 = n2) = False := by decide) (hN : X.N[i]? = some x := by rfl) (hv : Vis X.env.scope x := by first | exact Or.inl rfl | exact Or.inr (Or.inl rfl) | exact Or.inr (Or.inr rfl)) (hd : (x == ("__debug__" : Str)) = false := by decide)
    (hcd : (x == ("__classdict__" : Str)) = false := by decide)
    (hs : swapsWithSole [.Tuple [.Attribute (.Name x p1) n1 p2, .Attribute (.Name x p3) n2 p4] kt p] e pos.line X.env = pure false := by rfl) (hw : swappedStores [.Tuple [.Attribute (.Name x p1) n1 p2, .Attribute (.Name x p3) n2 p4] kt p] e X.env = pure none := by rfl)
    (h1 : (assignEach [.Tuple [.Attribute (.Name x p1) n1 p2, .Attribute (.Name x p3) n2 p4] kt p] X.env).map (·.2) = [assign (.Tuple [.Attribute (.Name x p1) n1 p2, .Attribute (.Name x p3) n2 p4] kt p) X.env] := by rfl)
    (h2 : (assignEach [.Attribute (.Name x p1) n1 p2, .Attribute (.Name x p3) n2 p4] X.env).map (·.2) = assign (.Attribute (.Name x p1) n1 p2) X.env :: (assignEach [.Attribute (.Name x p3) n2 p4] X.env).map (·.2) := by rfl)
    (h3 : (assignEach [.Attribute (.Name x p3) n2 p4] X.env).map (·.2) = assign (.Attribute (.Name x p3) n2 p4) X.env :: (assignEach [] X.env).map (·.2) := by rfl)
    (hn : (assignEach [.Attribute (.Name x p1) n1 p2, .Attribute (.Name x p3) n2 p4] X.env).length = 2 := by rfl) (hst : (assignEach [.Attribute (.Name x p1) n1 p2, .Attribute (.Name x p3) n2 p4] X.env).findIdx? (·.1) = none := by rfl) :
    SS X E (.Assign [.Tuple [.Attribute (.Name x p1) n1 p2, .Attribute (.Name x p3) n2 p4] kt p] e pos) (sFld2 C i n1 n2 f) :=
  (ps_asg he (pg_tup hc (pgs_cons (pg_attr (pe_var hN hv hd hcd)) (pgs_cons (pg_attr (pe_var hN hv hd hcd)) pgs_nil h3) h2) hn hst) hs hw h1).imp fun T σ H ⟨hd, G0, H0, G, env, S, w⟩ => by
    refine expr_in S ((f env).mono (fun d q v G1 H1 S1 x1 r1 => ?_) (fun _ q => q) w)
    replace q : (fld2M C i n1 n2 env d).wp (Post X.K hd G0 H0 T) (EOk X.K E hd G0 H0) := q
    unfold fld2M at q
    split at q
    · rename_i a b y' C' e0
      obtain ⟨ec, q⟩ := q
      subst ec
      obtain ⟨y, h1, h2, h3, ey, dx, vs0, ho, hl0, rr0⟩ := S1.sta.own i _ e0
      subst ey
      cases rr0
      obtain ⟨t, us, rfl, ht, rt⟩ := RepB.tup (.inl r1 : RepB X.K hd G1 H1 _ v)
      cases rt with
      | cons ra rb => cases rb with
        | cons rb rc =>
          cases rc
          rename_i va vb
          refine ⟨t, _, rfl, Same.seqT S1.sta.sub ht, rfl, va, _, rfl, .ref y, h1, y, C', dx, _, rfl, ho, cl, a1, by decide, vb, _, rfl, .ref y, h1, y, C', dx, _, rfl, upd_same, cl, a2, (by show (1 : Nat) < 1000; decide), rfl, ?_⟩
          rw [upd_upd]
          refine q σ G1 _ ?_
          have := own_put (o := .ins C' dx (putF n2 vb (putF n1 va []))) (d' := .insA y C' [n1, n2] [a, b]) S1 e0 h1 ?_
          · exact this
          · refine ⟨rfl, dx, [va, vb], ?_, rfl, .cons ra (.cons rb .nil)⟩
            rw [upd_same]
            show some (HO.ins C' dx (if n1 = n2 then _ else _)) = _
            rw [if_neg (by rw [hne]; exact id)]
            rfl
    · exact False.elim q
/-! ### __init__, and the class called -/
/-- what an __init__ leaves of the instance at y -/
def retI (y : Addr) (m : M Fl) : M D := m.bind fun fl => match fl with
  | .nx env => (match env[0]? with
    | some (Slot.own (.insA a C ns l)) => .ask (a = y) (.pure (.ins C ns l))
    | _ => .stuck)
  | _ => .stuck
def spN (K : PySem.W.Frag) (C : Addr) (n : Nat) (S : List D → M D) : Sp := fun vs H Q E => ∃ hd G H0 y dx ds us, vs = .ref y :: us ∧ H = upd H0 y (.ins C dx []) ∧ H0 y = none ∧ G y = none ∧ hd ≠ some y ∧ Same G H0 ∧ HandOk K hd G H0 ∧ Reps K hd G ds us ∧ ds.length = n ∧
  (S ds).wp (fun d => ∀ G' H', Ext hd G H0 G' H' → HandOk K hd G' H' → G' y = none → OwnAt K hd G' H' y d → Q .non H') (EOk K E hd G H0)
/-- the names at the entry of an __init__ -/
def startI (y C : Addr) (N : List Str) (ds : List D) : Env := Slot.own (.insA y C [] []) :: (ds.map .frz ++ List.replicate (N.length - (ds.length + 1)) .no)
theorem sta_startI {K : PySem.W.Frag} {hd : Option Addr} {G H0 : Hp} {C dx y : Addr} {N : List Str} {ds : List D} {us : List V} (s : Same G H0) (h : HandOk K hd G H0) (n : H0 y = none) (gn : G y = none) (hn : hd ≠ some y) (r : Reps K hd G ds us) :
    StaB K hd G H0 G (upd H0 y (.ins C dx [])) (startI y C N ds) (L2.start N (.ref y :: us)) := by
  have hl := r.length
  have at_ : ∀ (i : Nat) sl, (startI y C N ds)[i]? = some sl → (i = 0 ∧ sl = Slot.own (.insA y C [] [])) ∨ (∃ j d, i = j + 1 ∧ ds[j]? = some d ∧ sl = .frz d) ∨ sl = .no := fun i sl z => by
    unfold startI at z
    cases i with
    | zero => simp at z; exact .inl ⟨rfl, z.symm⟩
    | succ j =>
      rw [List.getElem?_cons_succ] at z
      by_cases hi : j < ds.length
      · rw [List.getElem?_append_left (by simpa using hi), List.getElem?_map] at z
        cases e : ds[j]? with
        | none => rw [e] at z; cases z
        | some x => rw [e] at z; cases z; exact .inr (.inl ⟨j, x, rfl, e, rfl⟩)
      · rw [List.getElem?_append_right (by simpa using hi), List.getElem?_replicate] at z
        split at z
        · cases z; exact .inr (.inr rfl)
        · cases z
  have x : Ext hd G H0 G (upd H0 y (.ins C dx [])) := Ext.newH s n
  have s0 : (L2.start N (.ref y :: us))[0]? = some (some (.ref y)) := rfl
  refine ⟨⟨x.s, h.newH n, ?_, fun i d z => ?_, fun i d z => ?_, fun i j d e p z1 z2 y1 y2 => ?_⟩, x, fun i d p z q => ?_⟩
  · unfold startI L2.start
    simp only [List.length_append, List.length_map, List.length_replicate, List.length_cons]
    omega
  · rcases at_ i _ z with ⟨_, e⟩ | ⟨j, d', e1, e2, e3⟩ | e
    · cases e
    · cases e3
      subst e1
      obtain ⟨v, h1, h2⟩ := r.get e2
      refine ⟨v, ?_, h2⟩
      unfold L2.start
      have hj : j < us.length := (List.getElem?_eq_some_iff.mp h1).1
      rw [List.getElem?_append_left (by simp; omega), List.map_cons, List.getElem?_cons_succ, List.getElem?_map, h1]; rfl
    · cases e
  · rcases at_ i _ z with ⟨e0, e⟩ | ⟨j, d', e1, e2, e3⟩ | e
    · cases e
      subst e0
      exact ⟨y, s0, gn, hn, rfl, dx, [], upd_same, rfl, .nil⟩
    · cases e3
    · cases e
  · rcases at_ i _ z1 with ⟨e0, e⟩ | ⟨_, _, _, _, e3⟩ | e
    · rcases at_ j _ z2 with ⟨e0', e'⟩ | ⟨_, _, _, _, e3⟩ | e
      · rw [e0, e0']
      · cases e3
      · cases e
    · cases e3
    · cases e
  · rcases at_ i _ z with ⟨e0, e⟩ | ⟨_, _, _, _, e3⟩ | e
    · subst e0
      rw [s0] at q
      cases q
      exact n
    · cases e3
    · cases e
end
section
variable {X : Cx} {CX : CXT} {k j n : Nat} {f C : Addr} {fd : FuncData} {ps : List Str} {S : List D → M D} {E : XK} {x : Str} {p pos : Pos} {e : Expr} {es : List Expr} {fs : Env → M (List D)}
/-- by a def as FunD tells it -/
theorem FnZ.ofD {P : Program} {w : World} {K : PySem.W.Frag} {mg : Str → Option Value} {base : Heap} {qual : Str} {params : Arguments} {body : List Stmt} {scope : Scope} {dvs : List V} {kws : List (Str × V)} {sp : Sp} {N : List Str}
    (F : FunD K x qual params body scope dvs kws f fd) (S : FnScope N ps scope) (len : ∀ vs H Q E, sp vs H Q E → vs.length = ps.length)
    (hb : ∀ (cdv : Value) (A : Around) (fr : List PySem.Env) (s : Shared) (H : Hp) (vs : List V) (Q : VK) (E : XK), Cz (cxOf CX P w K mg base N qual scope f cdv A fr s H E) k → sp vs H Q E →
      ∃ t, PSs (cxOf CX P w K mg base N qual scope f cdv A fr s H E) body t ∧ t { nx := fun _ H' => Q .non H', rt := Q } (start N vs) H) : FnZ P w K mg base CX (k + 1) f fd ps sp := by
  obtain ⟨oc, od, dV, kV, doc, pm, an, cdv, ct, osl, rfl, lk, hcd, _, _⟩ := F.ex
  refine ⟨len, fun A fr s H ar us vs Q E hr hg e0 hbi r hsp => ?_⟩
  have hl : vs.length = ps.length := len _ _ _ _ hsp
  have kin : K.In s.heap := e0.mod.kin.keeps fun b o z => (e0.bs b o z).1
  have nl : s.heap.NoLimit := e0.mod.nolimit.keeps fun b o z => (e0.bs b o z).1
  have kinds : ∀ y ∈ ps.zip us, scope.names.lookup y.1 = some .local ∨ (scope.names.lookup y.1 = some .cell ∧ ((cellsFrom (s.heap.objs.size + 1) scope.names []).lookup y.1).isSome = true) := by
    rintro ⟨n, v⟩ hy
    rcases S.par n (List.of_mem_zip hy).1 with z | z
    · exact Or.inl z
    · exact Or.inr ⟨z, PySem.W.cellsFrom_some _ _ _ (Or.inl z)⟩
  refine codeAny_call_function hr.depth (kin _ _ lk) rfl S.co S.gen rfl (PySem.W.codeRec_of kin hcd) (hbi _ _ _ _ ?_)
  refine wpAny_newFunctionEnv_cells S.kind kinds fun env he s1 x => ?_
  subst he
  refine ⟨nl.keeps x.toInCall.keep, codeAny_func ?_⟩
  have cz : Cz (cxOf CX P w K mg base N qual scope f cdv A fr s H E) k := ⟨hr.deeper _, hg, rfl, S.nd⟩
  obtain ⟨t, ht, q0⟩ := hb cdv A fr s H vs Q E cz hsp
  have I := inv_start (CX := CX) (E := E) (f := f) (qual := qual) (cd := cdv) S hr.hd e0 hl r x
  refine wpAny_mono (ht.run [] s1 (start N vs) H _ I q0) (fun fl s2 q => ?_) fun _ _ z => z
  cases fl with
  | next =>
    obtain ⟨σ2, H2, J, q⟩ := q
    exact ⟨.non, H2, J.os, J.bare, J.base, J.hok, rfl, q⟩
  | ret u =>
    obtain ⟨v, σ2, H2, J, rv, q⟩ := q
    exact ⟨v, H2, J.os, J.bare, J.base, J.hok, rv, q⟩
  | brk => exact (let ⟨_, _, _, q⟩ := q; False.elim q)
  | cont => exact (let ⟨_, _, _, q⟩ := q; False.elim q)
/-- THE RULE for a def, as FunD tells it -/
theorem fnd {P : Program} {w : World} {K : PySem.W.Frag} {mg : Str → Option Value} {base : Heap} {qual : Str} {params : Arguments} {body : List Stmt} {scope : Scope} {N : List Str} {B : Env → M Fl} (F : FunD K x qual params body scope [] [] f fd) (SC : FnScope N ps scope) (hn : ps.length = n)
    (hB : ∀ (cdv : Value) (A : Around) (fr : List PySem.Env) (s : Shared) (H : Hp) (E0 : XK), Cz (cxOf CX P w K mg base N qual scope f cdv A fr s H E0) k → SSs (cxOf CX P w K mg base N qual scope f cdv A fr s H E0) E0 body B)
    (hs : ∀ ds, ds.length = n → ∀ Q (E : Err → Prop), (S ds).wp Q E → (retD (B (startE N ds))).wp Q E) : FnZ P w K mg base CX (k + 1) f fd ps (spF K n S) := by
  refine FnZ.ofD F SC (fun vs H Q E ⟨hd, G, ds, _, _, r, l, _⟩ => by rw [← r.length, l, hn]) fun cdv A fr s H vs Q E0 c ⟨hd, G, ds, sm, hh, r, l, w⟩ => ?_
  have z := hs ds l _ _ w
  refine ⟨_, hB cdv A fr s H E0 c, hd, G, H, G, startE N ds, sta_start sm hh r, (B (startE N ds)).mono (fun fl q => ?_) (fun _ q => q) z⟩
  cases fl with
  | nx env => exact fun σ G' H' S' => q .non G' H' S'.ext S'.sta.hand .non
  | rt d => exact q
  | ro d => exact False.elim q
  | rte d env => exact False.elim q
  | bk env => exact False.elim q
  | ct env => exact False.elim q
/-- .. for an __init__ -/
theorem fndI {P : Program} {w : World} {K : PySem.W.Frag} {mg : Str → Option Value} {base : Heap} {qual : Str} {params : Arguments} {body : List Stmt} {scope : Scope} {N : List Str} {B : Env → M Fl} (F : FunD K x qual params body scope [] [] f fd) (SC : FnScope N ps scope) (hn : ps.length = n + 1)
    (hB : ∀ (cdv : Value) (A : Around) (fr : List PySem.Env) (s : Shared) (H : Hp) (E0 : XK), Cz (cxOf CX P w K mg base N qual scope f cdv A fr s H E0) k → SSs (cxOf CX P w K mg base N qual scope f cdv A fr s H E0) E0 body B)
    (hs : ∀ ds, ds.length = n → ∀ Q (E : Err → Prop), (S ds).wp Q E → ∀ y, (retI y (B (startI y C N ds))).wp Q E) : FnZ P w K mg base CX (k + 1) f fd ps (spN K C n S) := by
  refine FnZ.ofD F SC (fun vs H Q E ⟨hd, G, H0, y, dx, ds, us, e, _, _, _, _, _, _, r, l, _⟩ => by rw [e, List.length_cons, ← r.length, l, hn]) fun cdv A fr s H vs Q E0 c ⟨hd, G, H0, y, dx, ds, us, e, eH, n0, g0, hy, sm, hh, r, l, w⟩ => ?_
  subst e eH
  have z := hs ds l _ _ w y
  refine ⟨_, hB cdv A fr s _ E0 c, hd, G, H0, G, startI y C N ds, sta_startI sm hh n0 g0 hy r, (B (startI y C N ds)).mono (fun fl q => ?_) (fun _ q => q) z⟩
  cases fl with
  | nx env =>
    intro σ' G' H' S'
    replace q : (match env[0]? with
    | some (Slot.own (.insA a C ns l)) => M.ask (a = y) (M.pure (D.ins C ns l))
    | _ => .stuck).wp _ _ := q
    split at q
    · rename_i a C' ns l e0
      obtain ⟨ea, q⟩ := q
      subst ea
      obtain ⟨p, h1, h2, h3, h4⟩ := S'.sta.own 0 _ e0
      obtain ⟨ep, h4⟩ := h4
      subst ep
      exact q G' H' S'.ext S'.sta.hand h2 h4
    · exact False.elim q
  | rt d => exact False.elim q
  | ro d => exact False.elim q
  | rte d env => exact False.elim q
  | bk env => exact False.elim q
  | ct env => exact False.elim q
theorem run_makeZ {pins : List (Addr × Obj)} {σ : L2.St} {H : Hp} {s : Shared} {Q : VK} {us : List Value} {vs : List V} {sp : Sp} (M : Mk X.K C f) (F : FnZ X.prog X.w X.K X.mg X.base CX j f fd ps sp) (hr : Room (j + 1) X.A) (hq : X.A.guards = some []) (hb : Binds X.K fd ps [])
    (hx : Passes CX X E) (I : Inv X pins σ H s) (r : Vals vs us)
    (h : ∀ x dx, H x = none → H dx = none → dx ≠ x → sp (.ref x :: vs) (upd (upd H dx (.own x)) x (.ins C dx [])) (fun v H2 => v = .non ∧ Q (.ref x) H2) E) :
    wpAny (model X.prog X.w) X.A (call (.ref C) us) (EP X pins σ Q) X.xe s := by
  have hq' := h (s.heap.objs.size + 1) s.heap.objs.size (I.hok.fresh (Nat.le_succ _)) (I.hok.fresh (Nat.le_refl _)) (Nat.ne_of_lt (Nat.lt_succ_self _))
  have I2 := Inv.made (C := C) I
  have r2 : Vals (V.ref (s.heap.objs.size + 1) :: vs) (Value.ref (s.heap.objs.size + 1) :: us) := .cons rfl r
  have hl : (Value.ref (s.heap.objs.size + 1) :: us ++ []).length = ps.length := by
    have e := r2.length
    rw [F.len _ _ _ _ hq'] at e
    rw [List.append_nil]
    exact e.symm
  have hb' := hb _ (Value.ref (s.heap.objs.size + 1) :: us) I2.kIn hl
  rw [List.append_nil] at hb'
  refine wpAny_call (make_map (f := f) I.kIn M.makes M.init (beq_iff_eq.mp M.fn) (codeAny_mono (F.run _ X.stack _ _ ⟨Value.ref (s.heap.objs.size + 1) :: us, []⟩ (Value.ref (s.heap.objs.size + 1) :: us) _ _ E (hr.make C us []) hq
    (I2.env0.make C us []) hb' r2 hq') fun r s' hq' => ?_))
  cases r with
  | error e => exact hx pins σ _ _ e s' I2 hq'
  | ok fl =>
    cases fl with
    | ret u =>
      obtain ⟨v, H', I3, rv, ev, q3⟩ := I2.after hq'
      subst ev
      exact ⟨rv, ⟨V.ref (s.heap.objs.size + 1), H', I3, rfl, q3⟩⟩
    | next => exact False.elim hq'
    | brk => exact False.elim hq'
    | cont => exact False.elim hq'
/-- C(..) -/
theorem se_make (M : Mk X.K C f) (F : FnZ X.prog X.w X.K X.mg X.base CX j f fd ps (spN X.K C n S)) [c : Cz X k] (hm : X.mg x = some (.ref C)) (hb : Binds X.K fd ps []) (hx : Passes CX X E) (ha : SA X E mE (e :: es) fs) (hj : j + 1 ≤ k := by decide) (hg : Gl X x := by rfl)
    (hd : (x == ("__debug__" : Str)) = false := by decide) (he : starEach (e :: es) X.env = (false, eval e X.env) :: starEach es X.env := by rfl) (hpl : (backTo pos (starEach es X.env)).any (·.1) = false := by rfl) :
    SE X E mE (.Call (.Name x p) (e :: es) [] pos) (vCall n S fs) := by
  have base : PE X (.Call (.Name x p) (e :: es) [] pos) (fun σ H Q => tArgs X.K E mE fs σ H fun vs H1 => ∀ x dx, H1 x = none → H1 dx = none → dx ≠ x → spN X.K C n S (.ref x :: vs) (upd (upd H1 dx (.own x)) x (.ins C dx [])) (fun v H2 => v = .non ∧ Q (.ref x) H2) E) := by
    refine ⟨fun pins s σ H Q I h => ?_⟩
    refine wpAny_Call_Name_kw (ld_glob I hg hm ?_ hd)
    refine PySem.W.callWith_K (h₀ := X.base) I.ok.mod.kin M.kp (thn (ha.run pos pins s σ H _ I h) fun us s1 ⟨vs, H1, I1, r, q⟩ => ⟨I1.kIn, ?_⟩) he hpl
    exact run_makeZ M F (c.room.mono hj) c.quiet hb hx I1 r q
  refine base.imp fun σ H Q ⟨hd, G, env, S0, w⟩ => ?_
  refine ⟨hd, G, env, S0, (fs env).mono (fun l ⟨hn, q⟩ vs G1 H1 x1 h1 r1 y dx ny nd ne => ?_) (fun _ q => q) w⟩
  have x2 : Ext hd G1 H1 G1 (upd H1 dx (.own y)) := Ext.newH x1.s nd
  have h2 := h1.newH (o := .own y) nd
  have hyn : hd ≠ some y := fun e => by
    obtain ⟨_, _, _, _, _, _, _, e1, _⟩ := h1 y e
    rw [e1] at ny; cases ny
  have gy : G1 y = none := by
    cases z : G1 y with
    | none => rfl
    | some o => rw [x1.s _ _ z] at ny; cases ny
  have ny2 : upd H1 dx (.own y) y = none := by rw [upd_ne ne.symm]; exact ny
  have x12 := x1.trans x2 h1
  refine ⟨hd, G1, upd H1 dx (.own y), y, dx, l, vs, rfl, rfl, ny2, gy, hyn, x2.s, h2, r1.reps, hn, (S l).mono (fun d q G' H' x3 h3 g3 o3 => ?_) (fun _ q => q.ext x12 h2) q⟩
  obtain ⟨G'', x4, h4, r4⟩ := freeze_at x3 h3 ny2 g3 hyn o3
  exact ⟨rfl, q _ G'' H' (x12.trans x4 h2) h4 r4⟩
end
end Zf

/-! Zf: what is handed back as one's own; the hand that draws -/
namespace Zf
open PySem L2 PySem.Spec PyProof.Rows
/-! ### a def that hands back a new list, a new dict -/
def spO (K : PySem.W.Frag) (n : Nat) (S : List D → M D) : Sp := fun vs H Q E => ∃ hd G ds, Same G H ∧ HandOk K hd G H ∧ Reps K hd G ds vs ∧ ds.length = n ∧
  (S ds).wp (fun d => ∀ v G' H', Ext hd G H G' H' → HandOk K hd G' H' → mN K hd H G' H' d v → Q v H') (EOk K E hd G H)
def retO (m : M Fl) : M D := m.bind fun fl => match fl with
  | .ro d => .pure d
  | .rt d => .ask (isOwn d = false) (.pure d)
  | .nx _ => .pure .non
  | _ => .stuck
section
variable {X : Cx} {CX : CXT} {k j n : Nat} {f C : Addr} {fd : FuncData} {ps : List Str} {S : List D → M D} {E : XK} {x : Str} {p pos : Pos} {e : Expr} {es : List Expr} {fs : Env → M (List D)}
theorem fndO {P : Program} {w : World} {K : PySem.W.Frag} {mg : Str → Option Value} {base : Heap} {qual : Str} {params : Arguments} {body : List Stmt} {scope : Scope} {N : List Str} {B : Env → M Fl} (F : FunD K x qual params body scope [] [] f fd) (SC : FnScope N ps scope) (hn : ps.length = n)
    (hB : ∀ (cdv : Value) (A : Around) (fr : List PySem.Env) (s : Shared) (H : Hp) (E0 : XK), Cz (cxOf CX P w K mg base N qual scope f cdv A fr s H E0) k → SSs (cxOf CX P w K mg base N qual scope f cdv A fr s H E0) E0 body B)
    (hs : ∀ ds, ds.length = n → ∀ Q (E : Err → Prop), (S ds).wp Q E → (retO (B (startE N ds))).wp Q E) : FnZ P w K mg base CX (k + 1) f fd ps (spO K n S) := by
  refine FnZ.ofD F SC (fun vs H Q E ⟨hd, G, ds, _, _, r, l, _⟩ => by rw [← r.length, l, hn]) fun cdv A fr s H vs Q E0 c ⟨hd, G, ds, sm, hh, r, l, w⟩ => ?_
  have z := hs ds l _ _ w
  refine ⟨_, hB cdv A fr s H E0 c, hd, G, H, G, startE N ds, sta_start sm hh r, (B (startE N ds)).mono (fun fl q => ?_) (fun _ q => q) z⟩
  cases fl with
  | nx env => exact fun σ G' H' S' => q .non G' H' S'.ext S'.sta.hand (.inl ⟨rfl, .non⟩)
  | rt d => exact fun v G' H' x' h' r => q.2 v G' H' x' h' (.inl ⟨q.1, r⟩)
  | ro d => exact q
  | rte d env => exact False.elim q
  | bk env => exact False.elim q
  | ct env => exact False.elim q
theorem se_callO (F : FnZ X.prog X.w X.K X.mg X.base CX j f fd ps (spO X.K n S)) [c : Cz X k] (hm : X.mg x = some (.ref f)) (hk : PySem.W.keepIn X.K (.ref f) = true) (hb : Binds X.K fd ps []) (hx : Passes CX X E) (ha : SA X E mE (e :: es) fs) (hj : j ≤ k := by decide) (hg : Gl X x := by rfl)
    (hd : (x == ("__debug__" : Str)) = false := by decide) (he : starEach (e :: es) X.env = (false, eval e X.env) :: starEach es X.env := by rfl) (hpl : (backTo pos (starEach es X.env)).any (·.1) = false := by rfl) :
    SE X E mN (.Call (.Name x p) (e :: es) [] pos) (vCall n S fs) := (pe_callZ F c hj hg hm hk hb hx ha hd he hpl).imp fun σ H Q ⟨hd, G, env, S0, w⟩ => by
  refine ⟨hd, G, env, S0, (fs env).mono (fun l ⟨hn, q⟩ vs G1 H1 x1 h1 r1 => ?_) (fun _ q => q) w⟩
  exact ⟨hd, G1, l, x1.s, h1, r1.reps, hn, (S l).mono (fun d q v G' H' x' h' r' => q v G' H' (x1.trans x' h1) h' (mN_le _ _ _ _ _ _ _ _ _ _ x1 h1 r')) (fun _ q => q.ext x1 h1) q⟩

/-! ### x[k] = e, x the list at a known place -/
def ownA (i : Nat) (env : Env) : M (Addr × List D) := match env[i]? with
  | some (Slot.own (.lstA a l)) => .pure (a, l)
  | _ => .stuck
theorem ownA_wp {i : Nat} {env : Env} {Q : Addr × List D → Prop} {E : Err → Prop} (w : (ownA i env).wp Q E) : ∃ a l, env[i]? = some (Slot.own (.lstA a l)) ∧ Q (a, l) := by
  unfold ownA at w
  split at w
  · rename_i a l e
    exact ⟨a, l, e, w⟩
  · exact False.elim w
def sSetItemA (i : Nat) (f fk : Env → M D) : Env → M Fl := fun env => (ownA i env).bind fun al => (f env).bind fun d => (fk env).bind fun k => (intD k).bind fun k => (M.of (ixN al.2.length k)).bind fun j => .pure (.nx (env.set i (.own (.lstA al.1 (al.2.set j d)))))
theorem ss_setItemA (i : Nat) {p1 p3 : Pos} {k : Expr} {f fk : Env → M D} (he : SE X E mE e f) (hk : SE X E mB k fk) (hN : X.N[i]? = some x := by rfl) (hv : Vis X.env.scope x := by first | exact Or.inl rfl | exact Or.inr (Or.inl rfl) | exact Or.inr (Or.inr rfl)) (hd : (x == ("__debug__" : Str)) = false := by decide)
    (hcd : (x == ("__classdict__" : Str)) = false := by decide)
    (ha : ∀ v, assign (.Subscript (.Name x p1) k p3) X.env v = (do
      let ov ← holding [v] (eval (.Name x p1) X.env)
      let iv ← holding [v, ov] (eval k X.env)
      standAt p3
      holding [v, ov, iv] (setItem ov iv v)
      release [v, ov, iv] []) := by intro _; rfl)
    (hs : swapsWithSole [.Subscript (.Name x p1) k p3] e pos.line X.env = pure false := by rfl) (hw : swappedStores [.Subscript (.Name x p1) k p3] e X.env = pure none := by rfl) (h1 : (assignEach [.Subscript (.Name x p1) k p3] X.env).map (·.2) = [assign (.Subscript (.Name x p1) k p3) X.env] := by rfl) :
    SS X E (.Assign [.Subscript (.Name x p1) k p3] e pos) (sSetItemA i f fk) := (ps_asg he (pg_sub (pe_var hN hv hd hcd) hk set_list ha) hs hw h1).imp fun T σ H ⟨hd', G0, H0, G, env, S, w⟩ => by
  obtain ⟨a, l, el, w⟩ := ownA_wp w
  refine expr_in S ((f env).mono (fun d q v G1 H1 S1 x1 r1 => ?_) (fun _ q => q) w)
  obtain ⟨p, h1, h2, h3, _⟩ := S1.sta.own i _ el
  refine ⟨.ref p, h1, expr_in S1 ((fk env).mono (fun kd q u G2 H2 S2 x2 r2 => ?_) (fun _ q => q) q)⟩
  cases kd with
  | int k =>
    obtain ⟨j, ej, q⟩ := bind_of q
    obtain ⟨p', h1', h2', h3', ep, vs, hv', rv⟩ := S2.sta.own i _ el
    rw [h1] at h1'
    cases h1'
    cases RepB.int r2
    refine ⟨p, vs, k, j, rfl, rfl, hv', by rw [← rv.length]; exact ej, q σ G2 _ (own_put S2 el h1 ⟨ep, _, upd_same, rv.set (r1.mono x2.g) j⟩)⟩
  | _ => exact False.elim q
end

/-! ### the draw -/
def drawD : List D → M D
  | [.hand, .int many] => .ask (0 < many ∧ many < 2 ^ 4000) ((M.any fun d : Int => 0 ≤ d ∧ d < many).bind fun d => .pure (.int d))
  | _ => .stuck
def drOk (a : Addr) (many : Int) : Fl → Prop
  | .rte (.int d) env => 0 ≤ d ∧ d < many ∧ ∃ (cells : List Int) (p l m n : Int), env[0]? = some (Slot.own (.lstA a [.scr (cells.map D.int), .int p, .int l, .int m, .int n])) ∧ 0 ≤ p
  | _ => False
def startDr (a : Addr) (N : List Str) (cells : List Int) (p l m n many : Int) : Env := Slot.own (.lstA a [.scr (cells.map D.int), .int p, .int l, .int m, .int n]) :: Slot.frz (.int many) :: List.replicate (N.length - 2) .no
def retDr (a : Addr) (many : Int) (m : M Fl) : Prop := m.wp (drOk a many) fun _ => False
theorem fnDraw {P : Program} {w : World} {K : PySem.W.Frag} {mg : Str → Option Value} {base : Heap} {x qual : Str} {params : Arguments} {body : List Stmt} {scope : Scope} {N ps : List Str} {B : Env → M Fl} {CX : CXT} {k : Nat} {f : Addr} {fd : FuncData} (F : FunD K x qual params body scope [] [] f fd) (SC : FnScope N ps scope) (hn : ps.length = 2) (hN : 2 ≤ N.length)
    (hB : ∀ (cdv : Value) (A : Around) (fr : List PySem.Env) (s : Shared) (H : Hp) (E0 : XK), Cz (cxOf CX P w K mg base N qual scope f cdv A fr s H E0) k → SSs (cxOf CX P w K mg base N qual scope f cdv A fr s H E0) E0 body B)
    (hs : ∀ a cells p l m n many, 0 ≤ p → 0 < many → many < 2 ^ 4000 → retDr a many (B (startDr a N cells p l m n many))) : FnZ P w K mg base CX (k + 1) f fd ps (spF K 2 drawD) := by
  refine FnZ.ofD F SC (fun vs H Q E ⟨hd, G, ds, _, _, r, l, _⟩ => by rw [← r.length, l, hn]) fun cdv A fr s H vs Q E0 c ⟨hd, G, ds, sm, hh, r, l, w⟩ => ?_
  unfold drawD at w
  split at w
  · rename_i many
    obtain ⟨⟨m0, m1⟩, w⟩ := w
    cases r with
    | cons ra rb => cases rb with
      | cons rb rc =>
        cases rc
        cases rb
        cases ra with
        | @hand a ea =>
          obtain ⟨n1, c1, cells, p1, l1, m1', k1, e1, e2, hp1⟩ := hh a ea
          subst ea
          -- the heap without the hand
          let Hm : Hp := fun b => if b = a then none else H b
          have hm_ne : ∀ {b}, b ≠ a → Hm b = H b := fun {b} h => if_neg h
          have hm_a : Hm a = none := if_pos rfl
          have ga : ∀ {b o}, G b = some o → b ≠ a := fun {b o} z y => by rw [y, n1] at z; cases z
          have at_ : ∀ (i : Nat) sl, (startDr a N cells p1 l1 m1' k1 many)[i]? = some sl → (i = 0 ∧ sl = Slot.own (.lstA a [.scr (cells.map D.int), .int p1, .int l1, .int m1', .int k1])) ∨ (i = 1 ∧ sl = .frz (.int many)) ∨ sl = .no := fun i sl z => by
            unfold startDr at z
            match i, z with
            | 0, z => exact .inl ⟨rfl, (Option.some.inj z).symm⟩
            | 1, z => exact .inr (.inl ⟨rfl, (Option.some.inj z).symm⟩)
            | i + 2, z =>
              rw [List.getElem?_cons_succ, List.getElem?_cons_succ, List.getElem?_replicate] at z
              split at z
              · cases z; exact .inr (.inr rfl)
              · cases z
          have sx : Same G Hm := fun b o z => by rw [hm_ne (ga z)]; exact sm _ _ z
          have S0 : StaB K none G Hm G H (startDr a N cells p1 l1 m1' k1 many) (L2.start N [V.ref a, .int many]) := by
            refine ⟨⟨sm, (fun b z => by cases z), ?_, fun i d z => ?_, fun i d z => ?_, fun i j d e p z1 z2 y1 y2 => ?_⟩, ⟨Same.refl _, fun b o _ z => ?_, sm, fun _ _ => rfl⟩, fun i d p z q => ?_⟩
            · unfold startDr L2.start
              simp only [List.length_cons, List.length_replicate, List.length_append, List.length_map, List.length_nil]
              omega
            · rcases at_ i _ z with ⟨_, e⟩ | ⟨e0, e⟩ | e
              · cases e
              · cases e; subst e0; exact ⟨_, rfl, .int many⟩
              · cases e
            · rcases at_ i _ z with ⟨e0, e⟩ | ⟨e0, e⟩ | e
              · cases e
                subst e0
                exact ⟨a, rfl, n1, (fun z => by cases z), rfl, _, e1, .cons (.scr e2 (reps_ints cells)) (.cons (.int _) (.cons (.int _) (.cons (.int _) (.cons (.int _) .nil))))⟩
              · cases e
              · cases e
            · rcases at_ i _ z1 with ⟨e0, _⟩ | ⟨_, e⟩ | e
              · rcases at_ j _ z2 with ⟨e0', _⟩ | ⟨_, e⟩ | e
                · rw [e0, e0']
                · cases e
                · cases e
              · cases e
              · cases e
            · by_cases hb : b = a
              · subst hb; rw [hm_a] at z; cases z
              · rw [hm_ne hb] at z; exact z
            · rcases at_ i _ z with ⟨e0, e⟩ | ⟨_, e⟩ | e
              · subst e0
                cases (show some (some (V.ref a)) = some (some (.ref p)) from q)
                exact hm_a
              · cases e
              · cases e
          refine ⟨_, hB cdv A fr s H E0 c, none, G, Hm, G, _, S0, (B _).mono (fun fl q => ?_) (fun _ q => False.elim q) (hs a cells p1 l1 m1' k1 many hp1 m0 m1)⟩
          unfold drOk at q
          split at q
          · rename_i fl d env
            obtain ⟨d0, d1, cells', p', l', m', n', e0, hp'⟩ := q
            intro v σ' G' H' S' rv
            cases rv
            obtain ⟨p2, y1, y2, y3, y4, vs', y5, y6⟩ := S'.sta.own 0 _ e0
            subst y4
            cases y6 with
            | cons r1 r2 => cases r2 with
              | cons r2 r3 => cases r3 with
                | cons r3 r4 => cases r4 with
                  | cons r4 r5 => cases r5 with
                    | cons r5 r6 =>
                      cases r6; cases r2; cases r3; cases r4; cases r5
                      cases r1 with
                      | @scr c2 _ us q1 q2 =>
                        have := intsOf_reps (intsOf_map cells') q2
                        subst this
                        refine w d ⟨d0, d1⟩ (.int d) G' H' ⟨S'.ext.g, fun b o nb z => ?_, S'.ext.s, fun b nb => ?_⟩ (fun a' ea => ?_) (.int d)
                        · have nb' : b ≠ p2 := fun e => nb (by rw [e])
                          exact S'.ext.h b o (fun z => by cases z) (by rw [hm_ne nb']; exact z)
                        · by_cases hb : b = p2
                          · subst hb; rw [y2, n1]
                          · exact S'.ext.old b (by rw [hm_ne hb]; exact nb)
                        · cases ea
                          exact ⟨y2, c2, cells', p', l', m', n', y5, q1, hp'⟩
          · exact False.elim q
  · exact False.elim w

/-! ### the hand is made -/
mutual
theorem Rep.hd {K : PySem.W.Frag} {hd : Option Addr} {G : Hp} : ∀ {d : D} {v : V}, Rep K none G d v → Rep K hd G d v
  | _, _, .non => .non
  | _, _, .bl b => .bl b
  | _, _, .int i => .int i
  | _, _, .str x => .str x
  | _, _, .tup h r => .tup h (Reps.hd r)
  | _, _, .lst h r => .lst h (Reps.hd r)
  | _, _, .lstA h r => .lstA h (Reps.hd r)
  | _, _, .scr h r => .scr h (Reps.hd r)
  | _, _, .dK h e r => .dK h e (Reps.hd r)
  | _, _, .dT h e r => .dT h e (Reps.hd r)
  | _, _, .ins h e r => .ins h e (Reps.hd r)
  | _, _, .insA h e r => .insA h e (Reps.hd r)
  | _, _, .hand h => by cases h
  | _, _, .fn a => .fn a
theorem Reps.hd {K : PySem.W.Frag} {hd : Option Addr} {G : Hp} : ∀ {l : List D} {vs : List V}, Reps K none G l vs → Reps K hd G l vs
  | _, _, .nil => .nil
  | _, _, .cons r t => .cons (Rep.hd r) (Reps.hd t)
end
def noOwn : Env → Bool
  | [] => true
  | Slot.own _ :: _ => false
  | _ :: r => noOwn r
theorem noOwn_at : ∀ {env : Env} {i : Nat} {d : D}, noOwn env = true → env[i]? ≠ some (Slot.own d)
  | [], i, d, _, e => by simp at e
  | Slot.own _ :: _, _, _, h, _ => by cases h
  | Slot.no :: r, 0, d, _, e => by cases e
  | Slot.no :: r, i + 1, d, h, e => noOwn_at (env := r) h (by simpa using e)
  | Slot.frz _ :: r, 0, d, _, e => by cases e
  | Slot.frz _ :: r, i + 1, d, h, e => noOwn_at (env := r) h (by simpa using e)
/-- the names of the law, the hand just made and held by the i-th -/
structure HandE (i : Nat) (env : Env) : Prop where
  own : ∃ (cells : List Int) (p l m n : Int), env[i]? = some (Slot.own (.lst [.lst (cells.map D.int), .int p, .int l, .int m, .int n])) ∧ 0 ≤ p
  no : noOwn (env.set i .no) = true
theorem hand_sta {K : PySem.W.Frag} {G0 H0 G H : Hp} {env : Env} {σ : L2.St} {i : Nat} (S : StaB K none G0 H0 G H env σ) (h : HandE i env) : ∃ a, StaB K (some a) G H G H (env.set i (.frz .hand)) σ := by
  obtain ⟨⟨cells, p, l, m, n, e, hp⟩, no⟩ := h
  obtain ⟨a, h1, h2, h3, vs, h4, h5⟩ := S.sta.own i _ e
  have hi : i < env.length := (List.getElem?_eq_some_iff.mp e).1
  have nown : ∀ (j : Nat) (d : D), (env.set i (Slot.frz .hand))[j]? ≠ some (Slot.own d) := fun j d z => by
    by_cases hj : i = j
    · subst hj; rw [List.getElem?_set_self hi] at z; cases z
    · rw [List.getElem?_set_ne hj] at z
      exact noOwn_at (i := j) (d := d) no (by rw [List.getElem?_set_ne hj]; exact z)
  refine ⟨a, ⟨S.sta.sub, fun b eb => ?_, by rw [List.length_set]; exact S.sta.len, fun j d z => ?_, fun j d z => absurd z (nown j d), fun j k d1 d2 q z1 _ _ _ => absurd z1 (nown j d1)⟩, Ext.refl S.sta.sub, fun j d q z _ => absurd z (nown j d)⟩
  · cases eb
    cases h5 with
    | cons r1 r2 => cases r2 with
      | cons r2 r3 => cases r3 with
        | cons r3 r4 => cases r4 with
          | cons r4 r5 => cases r5 with
            | cons r5 r6 =>
              cases r6; cases r2; cases r3; cases r4; cases r5
              cases r1 with
              | @lst c _ us q1 q2 =>
                have := intsOf_reps (intsOf_map cells) q2
                subst this
                exact ⟨h2, c, cells, p, l, m, n, h4, SqL.of q1, hp⟩
  · by_cases hj : i = j
    · subst hj
      rw [List.getElem?_set_self hi] at z
      cases z
      exact ⟨_, h1, .hand rfl⟩
    · rw [List.getElem?_set_ne hj] at z
      obtain ⟨v, z1, z2⟩ := S.sta.frz j d z
      exact ⟨v, z1, z2.hd⟩

/-! ### the law -/
def spLaw (K : PySem.W.Frag) : Sp := fun vs H Q _ => ∃ (a : Addr) (ns : List Int), vs = [.ref a] ∧ SqL K H a (ns.map V.int) ∧ ns.length ≤ 63 ∧ ∀ H', Q (.bl true) H'
def lawOk : Fl → Prop
  | .rt (.bl true) => True
  | _ => False
theorem fnLaw {P : Program} {w : World} {K : PySem.W.Frag} {mg : Str → Option Value} {base : Heap} {x qual : Str} {params : Arguments} {st1 : Stmt} {rest : List Stmt} {scope : Scope} {N ps : List Str} {F1 F2 : Env → M Fl} {CX : CXT} {k : Nat} {f : Addr} {fd : FuncData} (F : FunD K x qual params (st1 :: rest) scope [] [] f fd) (SC : FnScope N ps scope) (hn : ps.length = 1) (i : Nat)
    (hB1 : ∀ (cdv : Value) (A : Around) (fr : List PySem.Env) (s : Shared) (H : Hp) (E0 : XK), Cz (cxOf CX P w K mg base N qual scope f cdv A fr s H E0) k → SS (cxOf CX P w K mg base N qual scope f cdv A fr s H E0) E0 st1 F1)
    (hB2 : ∀ (cdv : Value) (A : Around) (fr : List PySem.Env) (s : Shared) (H : Hp) (E0 : XK), Cz (cxOf CX P w K mg base N qual scope f cdv A fr s H E0) k → SSs (cxOf CX P w K mg base N qual scope f cdv A fr s H E0) E0 rest F2)
    (hs : ∀ ns : List Int, ns.length ≤ 63 → (F1 (startE N [.scr (ns.map D.int)])).wp (fun fl => ∃ env, fl = .nx env ∧ HandE i env ∧ (F2 (env.set i (.frz .hand))).wp lawOk fun _ => False) fun _ => False) : FnZ P w K mg base CX (k + 1) f fd ps (spLaw K) := by
  refine FnZ.ofD F SC (fun vs H Q E ⟨a, ns, e, _⟩ => by rw [e, hn]; rfl) fun cdv A fr s H vs Q E0 c ⟨a, ns, e, hS, hl, hQ⟩ => ?_
  subst e
  have hno : HandOk K none H H := fun b z => by cases z
  have S0 : StaB K none H H H H (startE N [.scr (ns.map D.int)]) (L2.start N [.ref a]) := sta_start (Same.refl H) hno (.cons (.scr hS (reps_ints ns)) .nil)
  refine ⟨_, pss_cons (hB1 cdv A fr s H E0 c) (hB2 cdv A fr s H E0 c), none, H, H, H, _, S0, (F1 _).mono (fun fl ⟨env, e, he, z⟩ => ?_) (fun _ q => False.elim q) (hs ns hl)⟩
  subst e
  intro σ' G' H' S'
  obtain ⟨a', S2⟩ := hand_sta S' he
  refine ⟨some a', G', H', G', _, S2, (F2 _).mono (fun fl q => ?_) (fun _ q => False.elim q) z⟩
  unfold lawOk at q
  split at q
  · intro v G2 H2 _ _ r
    cases r
    exact hQ H2
  · exact False.elim q
/-- the law's promise, at the heap behind the top -/
theorem law_callZ {P : Program} {w : World} {K : PySem.W.Frag} {mg mb : Str → Option Value} {CX : CXT} {k : Nat} {fa a : Addr} {fd : FuncData} {x : Str} {sp : Sp} {s₁ : Shared} {vs : List Value} {ns : List Int}
    (KX : K.In s₁.heap) (hns : s₁.heap.Ns mainGlobals mg) (hb : s₁.heap.Ns builtinsNs mb) (hbb : ∀ x : Str, x ≠ "__name__" → mb x = bootBuiltins x) (hlim : s₁.heap.NoLimit) (hg : s₁.gens = #[])
    (ha : s₁.heap.get? a = some { cls := .type "list", data := .seq vs.toArray }) (hi : IntsAre vs ns) (hl : ns.length ≤ sizeLine) (hr : Room k callerA)
    (F : ∀ base : Heap, K.In base → base.Ns mainGlobals mg → FnZ P w K mg base CX k fa fd [x] sp) (hbind : ∀ (s : Shared) (u : Value), BindsTo s fd ⟨[u], []⟩ [(x, u)])
    (hsp : ∀ H : Hp, Only H → SqL K H a (ns.map V.int) → sp [.ref a] H (fun v _ => v = .bl true) fun _ _ _ => False)
    (hCX : ∀ H e s', CX [] H s₁ (fun _ _ _ => False) e s' → False) :
    codeAny (model P w) callerA (.call (.ref fa) ⟨[.ref a], []⟩) (fun r s' => r = .ok (.ret (.bool true)) ∧ OldK s₁.heap s'.heap ∧ s'.os = s₁.os ∧ AllBare s'.gens) s₁ := by
  have rv := vals_ints hi
  have lenV := hi.length
  have core : ∀ H : Hp, Only H → SqL K H a (ns.map V.int) → HOk P w H s₁.heap → (∀ b, H b ≠ none → b = a) → (H a ≠ none → K.lookup a = none) →
      codeAny (model P w) callerA (.call (.ref fa) ⟨[.ref a], []⟩) (fun r s' => r = .ok (.ret (.bool true)) ∧ OldK s₁.heap s'.heap ∧ s'.os = s₁.os ∧ AllBare s'.gens) s₁ := by
    intro H hO hS hok hA hK
    have base_of : ∀ {b : Addr} {o : Obj}, s₁.heap.get? b = some o → H b = none → (hidT s₁.heap H).get? b = some o := fun e n => hidT_get e n
    have noA : ∀ {b : Addr} {o : Obj} {es : Array DictEntry} {ep : Nat}, s₁.heap.get? b = some o → o.data = .dict es ep → H b = none := fun {b o es ep} e d => by
      cases q : H b with
      | none => rfl
      | some u =>
        have e' : b = a := hA b (by rw [q]; simp)
        subst e'
        rw [ha] at e; cases e
        have d' : Data.seq vs.toArray _ = Data.dict es ep := d
        cases d'
    have nsK : ∀ {b : Addr} {m : Str → Option Value}, s₁.heap.Ns b m → (hidT s₁.heap H).Ns b m := fun {b m} ⟨o, es, ep, e, d, r⟩ => ⟨o, es, ep, base_of e (noA e d), d, r⟩
    have hKb : K.In (hidT s₁.heap H) := fun b o e => base_of (KX b o e) (by
      cases q : H b with
      | none => rfl
      | some u =>
        have e' : b = a := hA b (by rw [q]; simp)
        subst e'
        rw [hK (by rw [q]; simp)] at e; cases e)
    have hM : Mod K mg (hidT s₁.heap H) := ⟨hKb, nsK hns, ⟨mb, nsK hb, hbb⟩, let ⟨mc, h1, h2⟩ := hlim; ⟨mc, nsK h1, h2⟩⟩
    have e0 : Env0 P w K mg (hidT s₁.heap H) callerA [] s₁ H := ⟨rfl, hM, fun b o e => of_hidT e, Nat.le_of_eq (hidT_size _ _), trivial, fun b hb => absurd (show b ∈ ([] : List Addr) from hb) (by simp), hok, .of_eq hg⟩
    refine codeAny_mono ((F _ hKb (nsK hns)).run callerA [] s₁ H ⟨[.ref a], []⟩ [.ref a] [.ref a] _ _ hr rfl e0 (hbind s₁ (.ref a)) (.cons rfl .nil) (hsp H hO hS)) fun r s' h => ?_
    cases r with
    | error e => exact (hCX H e s' h).elim
    | ok fl =>
      cases fl with
      | next => exact False.elim h
      | brk => exact False.elim h
      | cont => exact False.elim h
      | ret u =>
        obtain ⟨v, H', os, bare, un, hok', r', q⟩ := h
        have q' : v = .bl true := q
        subst q'
        obtain rfl : u = Value.bool true := r'
        refine ⟨rfl, OldK.of_keep fun b o e => ?_, os, bare⟩
        cases q : H b with
        | none => exact un.keep b o e q (by intro z; exact absurd (show b ∈ ([] : List Addr) from z) (by simp)) (by simp)
        | some u =>
          rcases hO b with z | ⟨ob, xs, z⟩
          · rw [q] at z; cases z
          · have z2 := un.frzs b ob _ z
            obtain ⟨e1, _⟩ := hok b _ z
            obtain ⟨e2, _⟩ := hok' b _ z2
            rw [e] at e1; cases e1
            exact e2
  cases hk : K.lookup a with
  | some o =>
    have e := KX a o hk
    rw [ha] at e
    cases e
    refine core (fun _ => none) (fun _ => .inl rfl) (.inr ⟨_, vs.toArray, _, hk, rfl, rfl, rfl, by rw [List.size_toArray, lenV]; exact hl, by simpa using rv⟩) (fun b u z => by have z' : (none : Option HO) = some u := z; cases z') (fun b z => absurd rfl z) fun z => absurd rfl z
  | none =>
    refine core (fun b => if b = a then some (.frz { cls := .type "list", data := .seq vs.toArray } (.lst (ns.map V.int))) else none) (fun b => ?_) (.inl (.inr ⟨{ cls := .type "list", data := .seq vs.toArray }, if_pos rfl⟩)) (fun b u z => ?_) (fun b z => ?_) fun _ => hk
    · by_cases hb : b = a
      · exact .inr ⟨_, _, if_pos hb⟩
      · exact .inl (if_neg hb)
    · by_cases hb : b = a
      · have z' := (if_pos hb).symm.trans z
        cases z'
        subst hb
        exact ⟨ha, by rw [List.length_map]; exact hl, vs, _, rv, ha⟩
      · have z' := (if_neg hb).symm.trans z
        cases z'
    · by_cases hb : b = a
      · exact hb
      · exact absurd (if_neg hb) z
theorem walkZ {l : PySem.W.OpenLaw} {k : Nat} {q : Program} {loose : List Str} {XP : (Str → Option Value) → Heap → Prop} {YP : World → Heap → Prop} {d : DefRec} {CX : CXT} {x : Str}
    (hn : l.most = some 63) (hdf : d.params.defaults = []) (hr : Room k callerA)
    (F : ∀ (w : World) (mg : Str → Option Value) (fa : Addr) (h : Heap), YP w h → h.Ns mainGlobals mg → mg d.name = some (.ref fa) →
      ∃ (K : PySem.W.Frag) (fd : FuncData), K.In h ∧ (∀ (s : Shared) (u : Value), BindsTo s fd ⟨[u], []⟩ [(x, u)]) ∧
        ∀ base : Heap, K.In base → base.Ns mainGlobals mg → FnZ l.prog w K mg base CX k fa fd [x] (spLaw K))
    (hCX : ∀ (H : Hp) (s : Shared) (e : Value) (s' : Shared), CX [] H s (fun _ _ _ => False) e s' → False) :
    PySem.W.WalkO q loose XP YP l.row.toRowW d [] (fun f vs => PySem.call f vs) := by
  refine Att.attach_call hn hdf fun w s₀ s₁ mg mb fa o pm cd doc a vs ns G Y ho hd hcd hmg hobj hints hlen hg => ?_
  obtain ⟨K, fd, KX, hb, hF⟩ := F w mg fa _ Y G.T.g hmg
  exact law_callZ KX G.T.g G.T.b G.T.builtins G.T.nolimit hg hobj hints (Nat.le_trans hlen (by decide)) hr hF hb (fun H hO hS => ⟨a, ns, rfl, hS, hlen, fun _ => rfl⟩) fun H e s' => hCX H s₁ e s'
end Zf

/-! Zf: what the printed walks lean on -/
namespace Zf
open PySem L2 PySem.Spec PyProof.Rows
def clsB : Stmt → List Stmt
  | .ClassDef (body := b) .. => b
  | _ => []
theorem rz {X : Cx} {k : Nat} [c : Cz X k] : Room 0 X.A := c.r0
theorem cz {X : Cx} {k : Nat} [c : Cz X k] : X.calm = true := c.calm
theorem nz {X : Cx} {k : Nat} [c : Cz X k] : X.N.Nodup := c.nd
theorem passZ {X : Cx} {E : XK} : Passes CX0 X E := fun _ _ _ _ _ _ _ h => h.elim
theorem po_cx {CX : CXT} {P : Program} {w : World} {K : PySem.W.Frag} {mg : Str → Option Value} {base : Heap} {N : List Str} {qual : Str} {scope : Scope} {f : Addr} {cd : Value} {A : Around} {fr : List PySem.Env} {s : Shared} {H : Hp} {E : XK} :
    PassesOwn (model (cxOf CX P w K mg base N qual scope f cd A fr s H E).prog (cxOf CX P w K mg base N qual scope f cd A fr s H E).w) (cxOf CX P w K mg base N qual scope f cd A fr s H E).A (cxOf CX P w K mg base N qual scope f cd A fr s H E).env (cxOf CX P w K mg base N qual scope f cd A fr s H E).xe := passes_of rfl
/-- the facts behind the top -/
structure Fx (fa : List He.Fa) (fn : List He.DefD) (K : PySem.W.Frag) (mg : Str → Option Value) : Prop where
  says : He.SaysD fa fn K
  env : ∃ h : Heap, K.In h ∧ h.Ns mainGlobals mg
section
variable {fa : List He.Fa} {fn : List He.DefD} {K : PySem.W.Frag} {mg : Str → Option Value}
theorem Fx.glo (Φ : Fx fa fn K mg) (i : Nat) {x : Str} (h : fa[i]? = some (.glo x) := by rfl) : mg x = some (.ref (He.ga K x)) := let ⟨_, X, G⟩ := Φ.env; He.glo_ok X G (Φ.says.fact i h)
theorem Fx.free (Φ : Fx fa fn K mg) (i : Nat) {x : Str} (h : fa[i]? = some (.free x) := by rfl) : mg x = none := let ⟨_, X, G⟩ := Φ.env; He.free_ok X G (Φ.says.fact i h)
theorem Fx.int (Φ : Fx fa fn K mg) (i : Nat) {x : Str} {n : Int} (h : fa[i]? = some (.int x n) := by rfl) : ∃ t, mg x = some (.int n t) := let ⟨_, X, G⟩ := Φ.env; He.int_ok X G (Φ.says.fact i h)
theorem Fx.cls (Φ : Fx fa fn K mg) (i : Nat) {x : Str} (h : fa[i]? = some (.cls x) := by rfl) : Cls K (He.ga K x) := He.cls_ok (Φ.says.fact i h)
theorem Fx.noat (Φ : Fx fa fn K mg) (i : Nat) {x f : Str} (h : fa[i]? = some (.noat x f) := by rfl) : NoAttr K (He.ga K x) f := He.noat_ok (Φ.says.fact i h)
theorem Fx.mkr (Φ : Fx fa fn K mg) (i : Nat) {x : Str} (h : fa[i]? = some (.mkr x) := by rfl) : Mk K (He.ga K x) (He.ma K (He.ga K x) "__init__") := He.mkr_ok (Φ.says.fact i h)
theorem Fx.meth (Φ : Fx fa fn K mg) (i : Nat) {x m : Str} (h : fa[i]? = some (.meth x m) := by rfl) : Meth K (He.ga K x) m (He.ma K (He.ga K x) m) := He.meth_ok (Φ.says.fact i h)
end
/-- a def of the module keeps a promise -/
structure Has (P : Program) (w : World) (K : PySem.W.Frag) (mg : Str → Option Value) (base : Heap) (CX : CXT) (j : Nat) (x : Str) (ps : List Str) (sp : Sp) : Prop where
  ex : ∃ fd, FnZ P w K mg base CX j (He.ga K x) fd ps sp ∧ Binds K fd ps []
  kp : PySem.W.keepIn K (.ref (He.ga K x)) = true
  mgx : mg x = some (.ref (He.ga K x))
/-- a class of the module: its making -/
structure HasC (P : Program) (w : World) (K : PySem.W.Frag) (mg : Str → Option Value) (base : Heap) (CX : CXT) (j : Nat) (x : Str) (ps : List Str) (sp : Sp) : Prop where
  ex : ∃ fd, FnZ P w K mg base CX j (He.ma K (He.ga K x) "__init__") fd ps sp ∧ Binds K fd ps []
  mkr : Mk K (He.ga K x) (He.ma K (He.ga K x) "__init__")
  mgx : mg x = some (.ref (He.ga K x))
section
variable {X : Cx} {CX : CXT} {k j n : Nat} {ps : List Str} {S : List D → M D} {E : XK} {x : Str} {p pos : Pos} {e e2 : Expr} {es : List Expr} {fs : Env → M (List D)} {f : Env → M D} {body : List Stmt} {F : Env → M Fl} {i : Int}
theorem se_callH (F : Has X.prog X.w X.K X.mg X.base CX j x ps (spF X.K n S)) [c : Cz X k] (hx : Passes CX X E) (ha : SA X E mE (e :: es) fs) (hj : j ≤ k := by decide) (hg : Gl X x := by rfl)
    (hd : (x == ("__debug__" : Str)) = false := by decide) (he : starEach (e :: es) X.env = (false, eval e X.env) :: starEach es X.env := by rfl) (hpl : (backTo pos (starEach es X.env)).any (·.1) = false := by rfl) :
    SE X E mE (.Call (.Name x p) (e :: es) [] pos) (vCall n S fs) := let ⟨_, G, hb⟩ := F.ex; se_call G F.mgx F.kp hb hx ha hj hg hd he hpl
theorem se_callHO (F : Has X.prog X.w X.K X.mg X.base CX j x ps (spO X.K n S)) [c : Cz X k] (hx : Passes CX X E) (ha : SA X E mE (e :: es) fs) (hj : j ≤ k := by decide) (hg : Gl X x := by rfl)
    (hd : (x == ("__debug__" : Str)) = false := by decide) (he : starEach (e :: es) X.env = (false, eval e X.env) :: starEach es X.env := by rfl) (hpl : (backTo pos (starEach es X.env)).any (·.1) = false := by rfl) :
    SE X E mN (.Call (.Name x p) (e :: es) [] pos) (vCall n S fs) := let ⟨_, G, hb⟩ := F.ex; se_callO G F.mgx F.kp hb hx ha hj hg hd he hpl
theorem se_makeH (F : HasC X.prog X.w X.K X.mg X.base CX j x ps (spN X.K (He.ga X.K x) n S)) [c : Cz X k] (hx : Passes CX X E) (ha : SA X E mE (e :: es) fs) (hj : j + 1 ≤ k := by decide) (hg : Gl X x := by rfl)
    (hd : (x == ("__debug__" : Str)) = false := by decide) (he : starEach (e :: es) X.env = (false, eval e X.env) :: starEach es X.env := by rfl) (hpl : (backTo pos (starEach es X.env)).any (·.1) = false := by rfl) :
    SE X E mE (.Call (.Name x p) (e :: es) [] pos) (vCall n S fs) := let ⟨_, G, hb⟩ := F.ex; se_make F.mkr G F.mgx hb hx ha hj hg hd he hpl
theorem sn_globE (hg : Gl X x) (hm : ∃ t, X.mg x = some (.int i t)) (hd : (x == ("__debug__" : Str)) = false := by decide) : SE X E mN (.Name x pos) (eC (.int i)) := let ⟨_, h⟩ := hm; sn_globI hg h hd
/-- what is frozen and not one's own -/
def nE (f : Env → M D) : Env → M D := fun env => (f env).bind fun d => .ask (isOwn d = false) (.pure d)
theorem sn_ofE (h : SE X E mE e f) : SE X E mN e (nE f) := h.imp fun σ H Q ⟨hd, G, env, S, w⟩ => ⟨hd, G, env, S, (f env).mono (fun d ⟨o, q⟩ v G' H' x hh r => q v G' H' x hh (.inl ⟨o, r⟩)) (fun _ q => q) w⟩
def sFrz (i : Nat) (F : Env → M Fl) : Env → M Fl := fun env => F (frzE i env)
theorem ss_fz (i : Nat) (h : SSs X E body F) : SSs X E body (sFrz i F) := ss_frz i h
/-- a test whose value is a flag -/
def gV (f : Env → M D) : Env → M Bool := fun env => (f env).bind boolD
/-- a, b, c = x, y, z -/
def sPar3 (s1 s2 s3 : D → Slot) (i j l : Nat) (fa fb fc : Env → M D) : Env → M Fl := fun env => (fa env).bind fun x => (fb env).bind fun y => (fc env).bind fun z => .pure (.nx (((env.set i (s1 x)).set j (s2 y)).set l (s3 z)))
theorem ss_par3 {a b c : Expr} {R1 R2 R3 : Mode} {s1 s2 s3 : D → Slot} {fa fb fc : Env → M D} (h1 : Stor R1 s1) (h2 : Stor R2 s2) (h3 : Stor R3 s3) (k1 : MKeep R1) (k2' : MKeep R2) (i j l : Nat) {x y z : Str} {px py pz pt : Pos} {kt k2 pt2} (hc : X.calm = true) (hN : X.N.Nodup) (ha : SE X E R1 a fa) (hb : SE X E R2 b fb) (hcc : SE X E R3 c fc)
    (hi : X.N[i]? = some x := by rfl) (hj : X.N[j]? = some y := by rfl) (hl : X.N[l]? = some z := by rfl) (hij : i ≠ j := by decide) (hil : i ≠ l := by decide) (hjl : j ≠ l := by decide) (hx : X.env.scope.names.lookup x = some .local := by rfl) (hy : X.env.scope.names.lookup y = some .local := by rfl) (hz : X.env.scope.names.lookup z = some .local := by rfl)
    (hw : swappedStores [.Tuple [.Name x px, .Name y py, .Name z pz] kt pt] (.Tuple [a, b, c] k2 pt2) X.env = pure (some [x, y, z]) := by rfl) (hsw : swapsWithSole [.Tuple [.Name x px, .Name y py, .Name z pz] kt pt] (.Tuple [a, b, c] k2 pt2) pos.line X.env = pure false := by rfl)
    (q1 : starEach [a, b, c] X.env = (false, eval a X.env) :: starEach [b, c] X.env := by rfl) (q2 : starEach [b, c] X.env = (false, eval b X.env) :: starEach [c] X.env := by rfl) (q3 : starEach [c] X.env = (false, eval c X.env) :: starEach [] X.env := by rfl) :
    SS X E (.Assign [.Tuple [.Name x px, .Name y py, .Name z pz] kt pt] (.Tuple [a, b, c] k2 pt2) pos) (sPar3 s1 s2 s3 i j l fa fb fc) := (ps_par3 hc hN hi hj hl hij hil hjl hx hy hz (pa_cons ha (pa_cons hb (pa_cons hcc pa_nil q3) q2) q1) hw hsw).imp fun T σ H ⟨hd, G0, H0, G, env, S, w⟩ => by
  refine expr_in S ((fa env).mono (fun x q v G1 H1 S1 x1 r1 => ?_) (fun _ q => q) w)
  refine expr_in S1 ((fb env).mono (fun y q u G2 H2 S2 x2 r2 => ?_) (fun _ q => q) q)
  refine expr_in S2 ((fc env).mono (fun z q t G3 H3 S3 x3 r3 => ?_) (fun _ q => q) q)
  refine ⟨v, u, t, rfl, q _ G3 H3 ?_⟩
  have x12 := x1.trans x2 S1.sta.hand
  have x13 := x12.trans x3 S2.sta.hand
  have A1 := h1 (i := i) S x13 S3 (k1 _ _ _ _ _ _ _ _ _ x3 (k1 _ _ _ _ _ _ _ _ _ x2 r1))
  have B2 := h1 (i := i) S x12 S2 (k1 _ _ _ _ _ _ _ _ _ x2 r1)
  have B1 := h1 (i := i) S x1 S1 r1
  have A2 := h2 (i := j) B1 (x2.trans x3 S2.sta.hand) A1 (k2' _ _ _ _ _ _ _ _ _ x3 r2)
  have C2 := h2 (i := j) B1 x2 B2 r2
  exact h3 (i := l) C2 x3 A2 r3
end
end Zf

/-! Zf: how a walk's meaning is reckoned -/
namespace Zf
open PySem L2 PySem.Spec PyProof.Rows
/-! ### wp, step by step -/
section
variable {α β : Type} {Q : α → Prop} {E : Err → Prop}
theorem w_pure {a : α} : (M.pure a).wp Q E = Q a := rfl
theorem w_bind {m : M β} {k : β → M α} : (m.bind k).wp Q E = m.wp (fun b => (k b).wp Q E) E := rfl
theorem w_stuck : (M.stuck : M α).wp Q E = False := rfl
theorem w_ask {p : Prop} {m : M α} : (M.ask p m).wp Q E = (p ∧ m.wp Q E) := rfl
theorem w_any {p : α → Prop} : (M.any p).wp Q E = ∀ a, p a → Q a := rfl
theorem w_raise {e : Err} : (M.raise e : M α).wp Q E = E e := rfl
theorem w_of {a : α} : (M.of (some a)).wp Q E = Q a := rfl
theorem w_noErr {m : M α} : (M.noErr m).wp Q E = m.wp Q fun _ => False := rfl
theorem w_itt {m n : M α} : (M.ite true m n).wp Q E = m.wp Q E := rfl
theorem w_itf {m n : M α} : (M.ite false m n).wp Q E = n.wp Q E := rfl
theorem w_ite {b : Bool} {m n : M α} : (M.ite b m n).wp Q E = ((b = true → m.wp Q E) ∧ (b = false → n.wp Q E)) := by
  cases b
  · exact propext ⟨fun h => ⟨fun z => (by cases z), fun _ => h⟩, fun h => h.2 rfl⟩
  · exact propext ⟨fun h => ⟨fun _ => h, fun z => (by cases z)⟩, fun h => h.1 rfl⟩
theorem w_if {b : Bool} {m n : M α} (h1 : b = true → m.wp Q E) (h2 : b = false → n.wp Q E) : (M.ite b m n).wp Q E := by
  cases b
  · exact h2 rfl
  · exact h1 rfl
theorem w_ofE {o : Option α} {a : α} (h : o = some a) (q : Q a) : (M.of o).wp Q E := by
  subst h
  exact q
/-- m comes to a, and nothing else -/
def M.Is (m : M α) (a : α) : Prop := m.wp (fun x => x = a) fun _ => False
theorem Is.wp {m : M α} {a : α} (h : m.Is a) (q : Q a) : m.wp Q E := m.mono (fun x e => by rw [e]; exact q) (fun _ z => z.elim) h
theorem Is.pure {a : α} : (M.pure a).Is a := rfl
end
/-! ### statements, one by one -/
section
variable {F G A B r : Env → M Fl} {env env' : Env} {Q : Fl → Prop} {E : Err → Prop} {g ga gb : Env → M Bool} {f : Env → M D} {P : Bool → Prop} {b c : Bool}
theorem s_go (h : (F env).Is (.nx env')) (q : (G env').wp Q E) : (sSeq F G env).wp Q E := Is.wp (Q := fun fl => (andThen (.pure fl) G).wp Q E) h q
theorem s_wp (h : (F env).wp (fun fl => ∃ env', fl = .nx env' ∧ (G env').wp Q E) E) : (sSeq F G env).wp Q E := (F env).mono (fun fl ⟨env', e, q⟩ => by subst e; exact q) (fun _ z => z) h
theorem s_assoc (q : (sSeq A (sSeq r G) env).wp Q E) : (sSeq (sSeq A r) G env).wp Q E := (A env).mono (fun fl q => by
  cases fl with
  | nx _ => exact q
  | rt _ => exact q
  | ro _ => exact q
  | rte _ _ => exact q
  | bk _ => exact q
  | ct _ => exact q) (fun _ z => z) q
theorem s_nil (q : (G env).wp Q E) : (sSeq sNil G env).wp Q E := q
theorem s_if (h : (g env).wp (fun b => (b = true → (sSeq A G env).wp Q E) ∧ (b = false → (sSeq B G env).wp Q E)) E) : (sSeq (sIf g A B) G env).wp Q E := (g env).mono (fun b q => by
  cases b with
  | true => exact q.1 rfl
  | false => exact q.2 rfl) (fun _ z => z) h
theorem s_ifIs (h : (g env).Is b) (q1 : b = true → (sSeq A G env).wp Q E) (q2 : b = false → (sSeq B G env).wp Q E) : (sSeq (sIf g A B) G env).wp Q E := s_if (Is.wp h ⟨q1, q2⟩)
theorem s_ifT (h : (g env).Is true) (q : (sSeq A G env).wp Q E) : (sSeq (sIf g A B) G env).wp Q E := s_ifIs h (fun _ => q) fun z => by cases z
theorem s_ifF (h : (g env).Is false) (q : (sSeq B G env).wp Q E) : (sSeq (sIf g A B) G env).wp Q E := s_ifIs h (fun z => by cases z) fun _ => q
theorem s_ret (h : (f env).wp (fun d => Q (.rt d)) E) : (sSeq (sRet f) G env).wp Q E := h
theorem s_retE (h : (f env).wp (fun d => Q (.rte d env)) E) : (sSeq (sRetE f) G env).wp Q E := h
theorem s_retO (h : (f env).wp (fun d => Q (.ro d)) E) : (sSeq (sRetO f) G env).wp Q E := h
theorem s_fz {i : Nat} (h : (F (frzE i env)).wp Q E) : (sFrz i F env).wp Q E := h
theorem t_and (h : (ga env).Is c) (q1 : c = true → (gb env).wp P E) (q2 : c = false → P false) : (tAndD ga gb env).wp P E := Is.wp (Q := fun c => (M.ite c (gb env) (.pure false)).wp P E) h (w_if q1 q2)
theorem t_or (h : (ga env).Is c) (q1 : c = true → P true) (q2 : c = false → (gb env).wp P E) : (tOrD ga gb env).wp P E := Is.wp (Q := fun c => (M.ite c (.pure true) (gb env)).wp P E) h (w_if q1 q2)
theorem t_not (h : (ga env).wp (fun b => P (!b)) E) : (tNotD ga env).wp P E := h
theorem d_and {x y : Bool} (h : (ga env).Is x) (h2 : x = true → (gb env).Is y) (h3 : x = false → y = false) : (tAndD ga gb env).Is (x && y) := by
  refine t_and h (fun e => ?_) fun e => ?_
  · rw [e, Bool.true_and]; exact h2 e
  · rw [e]; rfl
theorem d_or {x y : Bool} (h : (ga env).Is x) (h2 : x = false → (gb env).Is y) : (tOrD ga gb env).Is (x || y) := by
  refine t_or h (fun e => ?_) fun e => ?_
  · rw [e]; rfl
  · rw [e, Bool.false_or]; exact h2 e
theorem d_not {x : Bool} (h : (ga env).Is x) : (tNotD ga env).Is (!x) := Is.wp (Q := fun b => (!b) = !x) h rfl
end
theorem at0 {a : D} {l : List D} : atI (a :: l) 0 = some a := by
  unfold atI ixN
  simp
theorem at1 {a b : D} {l : List D} : atI (a :: b :: l) 1 = some b := atI_nat (xs := a :: b :: l) (j := 1) rfl
theorem at2 {a b c : D} {l : List D} : atI (a :: b :: c :: l) 2 = some c := atI_nat (xs := a :: b :: c :: l) (j := 2) rfl
theorem at3 {a b c d : D} {l : List D} : atI (a :: b :: c :: d :: l) 3 = some d := atI_nat (xs := a :: b :: c :: d :: l) (j := 3) rfl
theorem at4 {a b c d e : D} {l : List D} : atI (a :: b :: c :: d :: e :: l) 4 = some e := atI_nat (xs := a :: b :: c :: d :: e :: l) (j := 4) rfl
theorem atI_map {l : List Int} {i : Int} (h0 : 0 ≤ i) (h1 : i < l.length) : ∃ c, atI (l.map D.int) i = some (.int c) := by
  obtain ⟨j, rfl⟩ := Int.eq_ofNat_of_zero_le h0
  have hj : j < l.length := by omega
  exact ⟨l[j], atI_nat (by rw [List.getElem?_map, List.getElem?_eq_getElem hj]; rfl)⟩
theorem deq_int (i j : Int) : deq (.int i) (.int j) = decide (i = j) := by
  unfold deq toPy
  simp only [PyData.eqv]
  by_cases h : i = j
  · subst h; simp
  · rw [decide_eq_false h]; simpa using h
def retOk (Q : D → Prop) : Fl → Prop
  | .rt d => Q d
  | .nx _ => Q .non
  | _ => False
theorem ret_wp {m : M Fl} {Q : D → Prop} {E : Err → Prop} (h : m.wp (retOk Q) E) : (retD m).wp Q E := m.mono (fun fl q => by
  cases fl with
  | rt d => exact q
  | nx _ => exact q
  | ro _ => exact False.elim q
  | rte _ _ => exact False.elim q
  | bk _ => exact False.elim q
  | ct _ => exact False.elim q) (fun _ z => z) h
def retIOk (y : Addr) (Q : D → Prop) : Fl → Prop
  | .nx env => ∃ C ns l, env[0]? = some (Slot.own (.insA y C ns l)) ∧ Q (.ins C ns l)
  | _ => False
theorem retI_wp {y : Addr} {m : M Fl} {Q : D → Prop} {E : Err → Prop} (h : m.wp (retIOk y Q) E) : (retI y m).wp Q E := m.mono (fun fl q => by
  cases fl with
  | nx env =>
    obtain ⟨C, ns, l, e, q⟩ := q
    show (match env[0]? with
      | some (Slot.own (.insA a C ns l)) => M.ask (a = y) (M.pure (D.ins C ns l))
      | _ => .stuck).wp Q E
    rw [e]
    exact ⟨rfl, q⟩
  | rt d => exact False.elim q
  | ro _ => exact False.elim q
  | rte _ _ => exact False.elim q
  | bk _ => exact False.elim q
  | ct _ => exact False.elim q) (fun _ z => z) h
def retOOk (Q : D → Prop) : Fl → Prop
  | .ro d => Q d
  | .nx _ => Q .non
  | .rt d => isOwn d = false ∧ Q d
  | _ => False
theorem retO_wp {m : M Fl} {Q : D → Prop} {E : Err → Prop} (h : m.wp (retOOk Q) E) : (retO m).wp Q E := m.mono (fun fl q => by
  cases fl with
  | rt d => exact q
  | nx _ => exact q
  | ro _ => exact q
  | rte _ _ => exact False.elim q
  | bk _ => exact False.elim q
  | ct _ => exact False.elim q) (fun _ z => z) h
/-! ### values -/
section
variable {env : Env} {f fa fb fc : Env → M D} {x y z w : D} {op op' : D → D → M D} {S : List D → M D} {p q : Bool} {E : Err → Prop}
theorem d_op (ha : (fa env).Is x) (hb : (fb env).Is y) (h : (op x y).Is z) : (bind2 fa fb op env).Is z := Is.wp (Q := fun x => ((fb env).bind fun y => op x y).wp _ _) ha (Is.wp (Q := fun y => (op x y).wp _ _) hb h)
theorem d_it {fs : Env → M (List D)} {op : List D → M (List D)} {xs ys : List D} (h : (fs env).Is xs) (h2 : (op xs).Is ys) : ((fs env).bind op).Is ys := Is.wp (Q := fun xs => (op xs).wp _ _) h h2
theorem d_tup {fs : Env → M (List D)} {xs : List D} (h : (fs env).Is xs) (hz : xs.length ≤ sizeLine) : (eTup fs env).Is (.tup xs) := Is.wp (Q := fun (l : List D) => (M.ask (l.length ≤ sizeLine) (M.pure (D.tup l))).wp _ _) h ⟨hz, rfl⟩
theorem d_lst {fs : Env → M (List D)} {xs : List D} (h : (fs env).Is xs) (hz : xs.length ≤ sizeLine) : (eLst fs env).Is (.lst xs) := Is.wp (Q := fun (l : List D) => (M.ask (l.length ≤ sizeLine) (M.pure (D.lst l))).wp _ _) h ⟨hz, rfl⟩
theorem d_iter {l : List D} (h : (f env).Is x) (h2 : (itemsD x).Is l) : (iterD f env).Is l := Is.wp (Q := fun d => (itemsD d).wp _ _) h h2
theorem iter_tup {l : List D} (h : (f env).Is (.tup l)) : (iterD f env).Is l := d_iter h rfl
theorem iter_lst {l : List D} (h : (f env).Is (.lst l)) : (iterD f env).Is l := d_iter h rfl
theorem d_nE (h : (f env).Is x) (o : isOwn x = false) : (nE f env).Is x := Is.wp (Q := fun d => (M.ask (isOwn d = false) (M.pure d)).wp _ _) h ⟨o, rfl⟩
theorem d_un {op : D → M D} (ha : (fa env).Is x) (h : (op x).Is z) : (bind1 fa op env).Is z := Is.wp (Q := fun x => (op x).wp _ _) ha h
theorem d_gV (h : (f env).Is (.bl p)) : (gV f env).Is p := Is.wp (Q := fun x => (boolD x).wp _ _) h rfl
theorem a1 (h : (f env).Is x) : (aCons f aNil env).Is [x] := Is.wp (Q := fun x => (((aNil env).bind fun xs => M.pure (x :: xs))).wp _ _) h rfl
theorem a_c {fr : Env → M (List D)} {xs : List D} (h : (f env).Is x) (hr : (fr env).Is xs) : (aCons f fr env).Is (x :: xs) := Is.wp (Q := fun x => (((fr env).bind fun xs => M.pure (x :: xs))).wp _ _) h (Is.wp (Q := fun xs => (M.pure (x :: xs)).wp _ _) hr rfl)
theorem a_n : (aNil env).Is [] := rfl
theorem d_fn {fs : Env → M (List D)} {xs : List D} (h : (fs env).Is xs) (h2 : (S xs).Is y) : (bindA fs S env).Is y := Is.wp (Q := fun xs => (S xs).wp _ _) h h2
theorem d_call {n : Nat} {fs : Env → M (List D)} {xs : List D} (h : (fs env).Is xs) (h2 : (S xs).Is y) (hn : xs.length = n := by rfl) : (vCall n S fs env).Is y := Is.wp (Q := fun (l : List D) => (M.ask (l.length = n) (S l)).wp _ _) h ⟨hn, h2⟩
theorem w_call {n : Nat} {fs : Env → M (List D)} {xs : List D} {Q : D → Prop} (h : (fs env).Is xs) (h2 : (S xs).wp Q E) (hn : xs.length = n := by rfl) : (vCall n S fs env).wp Q E := Is.wp (Q := fun (l : List D) => (M.ask (l.length = n) (S l)).wp _ _) h ⟨hn, h2⟩
theorem d_chain (ha : (fa env).Is x) (hb : (fb env).Is y) (h1 : (op x y).Is (.bl p)) (hc : p = true → (fc env).Is w ∧ (op' y w).Is (.bl q)) : (chain fa fb fc op op' env).Is (.bl (p && q)) := by
  refine Is.wp (Q := fun x => ((fb env).bind fun y => (op x y).bind fun z => (boolD z).bind fun k => .ite k ((fc env).bind fun w => op' y w) (.pure (.bl false))).wp _ _) ha ?_
  refine Is.wp (Q := fun y => ((op x y).bind fun z => (boolD z).bind fun k => .ite k ((fc env).bind fun w => op' y w) (.pure (.bl false))).wp _ _) hb ?_
  refine Is.wp (Q := fun z => ((boolD z).bind fun k => .ite k ((fc env).bind fun w => op' y w) (.pure (.bl false))).wp _ _) h1 ?_
  refine w_if (m := (fc env).bind fun w => op' y w) (fun e => ?_) fun e => ?_
  · obtain ⟨h3, h4⟩ := hc e
    rw [e, Bool.true_and]
    exact Is.wp (Q := fun w => (op' y w).wp _ _) h3 h4
  · rw [e]; rfl
theorem d_if {g : Env → M Bool} (hg : (g env).Is p) (h1 : p = true → (fa env).Is x) (h2 : p = false → (fb env).Is x) : (vIf g fa fb env).Is x := Is.wp (Q := fun c => (M.ite c (fa env) (fb env)).wp _ _) hg (w_if h1 h2)
theorem d_vand (ha : (fa env).Is (.bl p)) (hb : p = true → (fb env).Is (.bl q)) : (vAnd fa fb env).Is (.bl (p && q)) := by
  refine Is.wp (Q := fun x => ((boolD x).bind fun c => .ite c (fb env) (.pure (.bl false))).wp _ _) ha (w_if (m := fb env) (fun e => ?_) fun e => ?_)
  · rw [e, Bool.true_and]; exact hb e
  · rw [e]; rfl
theorem d_vor (ha : (fa env).Is (.bl p)) (hb : p = false → (fb env).Is (.bl q)) : (vOr fa fb env).Is (.bl (p || q)) := by
  refine Is.wp (Q := fun x => ((boolD x).bind fun c => .ite c (.pure (.bl true)) (fb env)).wp _ _) ha (w_if (n := fb env) (fun e => ?_) fun e => ?_)
  · rw [e]; rfl
  · rw [e, Bool.false_or]; exact hb e
theorem d_vnot (ha : (fa env).Is (.bl p)) : (vNot fa env).Is (.bl (!p)) := Is.wp (Q := fun x => ((boolD x).bind fun c => M.pure (D.bl (!c))).wp _ _) ha rfl
theorem blsOf_ok (l : List Bool) : blsOf (l.map D.bl) = some l := blsOf_map l
theorem d_all {l : List Bool} (h : (f env).Is (.lst (l.map D.bl))) : (bindA (aCons f aNil) allD env).Is (.bl (l.all id)) := d_fn (a1 h) (by
  show ((M.of (blsOf (l.map D.bl))).bind fun bs => M.pure (D.bl (bs.all id))).wp _ _
  rw [blsOf_map]; rfl)
theorem d_any {l : List Bool} (h : (f env).Is (.lst (l.map D.bl))) : (bindA (aCons f aNil) anyD env).Is (.bl (l.any id)) := d_fn (a1 h) (by
  show ((M.of (blsOf (l.map D.bl))).bind fun bs => M.pure (D.bl (bs.any id))).wp _ _
  rw [blsOf_map]; rfl)
theorem d_sum {l : List Int} (h : (f env).Is (.lst (l.map D.int))) : (bindA (aCons f aNil) sumD env).Is (.int l.sum) := d_fn (a1 h) (by
  show ((M.of (intsOf (l.map D.int))).bind fun bs => M.pure (D.int bs.sum)).wp _ _
  rw [intsOf_map]; rfl)
theorem d_tupleL {l : List D} (h : (f env).Is (.lst l)) : (bindA (aCons f aNil) tupleD env).Is (.tup l) := d_fn (a1 h) rfl
end
section
variable {env env' : Env} {f fa fb fc : Env → M D} {x y z d : D} {l m : List D} {i j : Nat}
theorem g_drop (h : (f env).Is d) : (sDrop f env).Is (.nx env) := Is.wp (m := f env) (Q := fun (_ : D) => (M.pure (Fl.nx env)).wp _ _) h rfl
theorem g_set {sl : D → Slot} (h : (f env).Is d) (e : env.set i (sl d) = env' := by rfl) : (sSet sl i f env).Is (.nx env') := Is.wp (Q := fun d => (M.pure (Fl.nx (env.set i (sl d)))).wp _ _) h (by rw [e]; rfl)
theorem g_par {s1 s2 : D → Slot} (ha : (fa env).Is x) (hb : (fb env).Is y) (e : (env.set i (s1 x)).set j (s2 y) = env' := by rfl) : (sPar s1 s2 i j fa fb env).Is (.nx env') :=
  Is.wp (Q := fun x => ((fb env).bind fun y => M.pure (Fl.nx ((env.set i (s1 x)).set j (s2 y)))).wp _ _) ha (Is.wp (Q := fun y => (M.pure (Fl.nx ((env.set i (s1 x)).set j (s2 y)))).wp _ _) hb (by rw [e]; rfl))
theorem g_append (ho : env[i]? = some (.own (.lst l))) (h : (f env).Is d) (hz : l.length < 1000000) (e : env.set i (.own (.lst (l ++ [d]))) = env' := by rfl) : (sAppend i f env).Is (.nx env') := by
  show ((ownL i env).bind _).wp _ _
  unfold ownL
  rw [ho]
  exact Is.wp (Q := fun d => (M.ask (l.length < sizeLine) (M.pure (Fl.nx (env.set i (.own (.lst (l ++ [d]))))))).wp _ _) h ⟨Nat.lt_of_lt_of_le hz (by decide), by rw [e]; rfl⟩
theorem g_extend (ho : env[i]? = some (.own (.lst l))) (h : (f env).Is (.lst m)) (hz : l.length + m.length ≤ 1000000) (e : env.set i (.own (.lst (l ++ m))) = env' := by rfl) : (sExtend i f env).Is (.nx env') := by
  show ((ownL i env).bind _).wp _ _
  unfold ownL
  rw [ho]
  exact Is.wp (Q := fun d => ((lstD d).bind fun m => M.ask (l.length + m.length ≤ sizeLine) (M.pure (Fl.nx (env.set i (.own (.lst (l ++ m))))))).wp _ _) h ⟨Nat.le_trans hz (by decide), by rw [e]; rfl⟩
end
/-- a walk alone -/
theorem s_end {Q : Fl → Prop} {E : Err → Prop} {env : Env} (h : Q (.nx env)) : (sNil env).wp Q E := h
theorem zl (n : Nat) (h : n ≤ 100000 := by decide) : n ≤ sizeLine := Nat.le_trans h (by decide)
/-! ### loops -/
/-- a body's end, as a loop takes it: on with I, or out -/
def turnOk (I : Env → Prop) (Q : Fl → Prop) : Fl → Prop
  | .nx env => I env
  | .ct env => I env
  | .bk env => Q (.nx env)
  | .rt d => Q (.rt d)
  | .ro d => Q (.ro d)
  | .rte d env => Q (.rte d env)
section
variable {α : Type} {fi : Env → M (List D)} {t : D → Env → M Env} {F G : Env → M Fl} {c : Env → M Bool} {f : Env → M D} {env : Env} {Q : Fl → Prop} {E : Err → Prop} {vs : List Nat}
theorem for_wp (enc : α → D) (l : List α) (I : List α → Env → Prop) (h0 : I [] env)
    (step : ∀ (pre : List α) (a : α) (post : List α) (env : Env), l = pre ++ a :: post → I pre env → ∃ env1, (t (enc a) env).Is env1 ∧ (F env1).wp (turnOk (I (pre ++ [a])) Q) E) (hend : ∀ env, I l env → Q (.nx env)) : (forRun t F (l.map enc) env).wp Q E := by
  have key : ∀ (post pre : List α) (env : Env), l = pre ++ post → I pre env → (forRun t F (post.map enc) env).wp Q E := by
    intro post
    induction post with
    | nil =>
      intro pre env e h
      rw [List.append_nil] at e
      subst e
      exact hend env h
    | cons a post ih =>
      intro pre env e h
      obtain ⟨env1, z1, q⟩ := step pre a post env e h
      refine Is.wp (Q := fun env1 => (loopEnd (F env1) (forRun t F (post.map enc))).wp Q E) (E := fun _ => False) (m := (t (enc a) env).noErr) z1 ?_
      refine (F env1).mono (fun fl z => ?_) (fun _ z => z) q
      have next : ∀ env2, I (pre ++ [a]) env2 → (forRun t F (post.map enc) env2).wp Q E := fun env2 h2 => ih (pre ++ [a]) env2 (by rw [e]; simp) h2
      cases fl with
      | nx env2 => exact next env2 z
      | ct env2 => exact next env2 z
      | bk env2 => exact z
      | rt d => exact z
      | ro d => exact z
      | rte d env2 => exact z
  exact key l [] env rfl h0
theorem for_cons {d : D} {r : List D} {env1 : Env} (h : (t d env).Is env1) (q : (F env1).wp (turnOk (fun env => (forRun t F r env).wp Q E) Q) E) : (forRun t F (d :: r) env).wp Q E := by
  refine Is.wp (Q := fun env1 => (loopEnd (F env1) (forRun t F r)).wp Q E) (E := fun _ => False) (m := (t d env).noErr) h ?_
  refine (F env1).mono (fun fl z => ?_) (fun _ z => z) q
  cases fl with
  | nx env2 => exact z
  | ct env2 => exact z
  | bk env2 => exact z
  | rt d => exact z
  | ro d => exact z
  | rte d env2 => exact z
theorem for_nil (q : Q (.nx env)) : (forRun t F [] env).wp Q E := q
/-- a loop, its run told apart -/
theorem s_forR {ds : List D} (hi : (fi env).Is ds) (h : (forRun t F ds env).wp (fun fl => (andThen (.pure fl) G).wp Q E) E) : (sSeq (sFor fi t F) G env).wp Q E := by
  have z : (sFor fi t F env).wp (fun fl => (andThen (.pure fl) G).wp Q E) E := Is.wp (Q := fun ds => (forRun t F ds env).wp (fun fl => (andThen (.pure fl) G).wp Q E) E) hi h
  exact (sFor fi t F env).mono (fun fl q => by
    cases fl with
    | nx _ => exact q
    | ct _ => exact q
    | bk _ => exact q
    | rt d => exact q
    | ro d => exact q
    | rte d env2 => exact q) (fun _ z => z) z
/-- a loop over l -/
theorem s_for (enc : α → D) (l : List α) (I : List α → Env → Prop) (hi : (fi env).Is (l.map enc)) (h0 : I [] env)
    (step : ∀ (pre : List α) (a : α) (post : List α) (env : Env), l = pre ++ a :: post → I pre env → ∃ env1, (t (enc a) env).Is env1 ∧ (F env1).wp (turnOk (I (pre ++ [a])) fun fl => (andThen (.pure fl) G).wp Q E) E) (hend : ∀ env, I l env → (G env).wp Q E) : (sSeq (sFor fi t F) G env).wp Q E := by
  have z : (sFor fi t F env).wp (fun fl => (andThen (.pure fl) G).wp Q E) E := Is.wp (Q := fun ds => (forRun t F ds env).wp (fun fl => (andThen (.pure fl) G).wp Q E) E) hi (for_wp enc l I h0 step fun env h => hend env h)
  exact (sFor fi t F env).mono (fun fl q => by
    cases fl with
    | nx _ => exact q
    | ct _ => exact q
    | bk _ => exact q
    | rt d => exact q
    | ro d => exact q
    | rte d env2 => exact q) (fun _ z => z) z
/-- a loop that goes out by d0 at the first bad one -/
theorem s_forAll (enc : α → D) (l : List α) (ok : α → Bool) (mk : Env → Prop) (d0 : D) (hi : (fi env).Is (l.map enc)) (h0 : mk env)
    (step : ∀ (a : α) (env : Env), a ∈ l → mk env → ∃ env1, (t (enc a) env).Is env1 ∧ (ok a = true → (F env1).wp (fun fl => ∃ e, fl = .nx e ∧ mk e) E) ∧ (ok a = false → (F env1).wp (fun fl => fl = .rt d0) E))
    (hbad : l.all ok = false → Q (.rt d0)) (hend : l.all ok = true → ∀ env, mk env → (G env).wp Q E) : (sSeq (sFor fi t F) G env).wp Q E := by
  refine s_for enc l (fun pre env => mk env ∧ pre.all ok = true) hi ⟨h0, rfl⟩ (fun pre a post env e ⟨h1, h2⟩ => ?_) fun env ⟨h1, h2⟩ => hend h2 env h1
  obtain ⟨env1, z1, z2, z3⟩ := step a env (by rw [e]; simp) h1
  refine ⟨env1, z1, ?_⟩
  cases o : ok a with
  | true =>
    refine (F env1).mono (fun fl ⟨e2, y1, y2⟩ => ?_) (fun _ z => z) (z2 o)
    subst y1
    exact ⟨y2, by rw [List.all_append, h2]; simp [o]⟩
  | false =>
    refine (F env1).mono (fun fl y => ?_) (fun _ z => z) (z3 o)
    subst y
    exact hbad (by rw [e]; simp [o])
/-- the state of a loop as a fold -/
theorem s_fold {σ : Type} (enc : α → D) (l : List α) (mk : σ → Env → Prop) (st : σ) (op : σ → α → σ) (hi : (fi env).Is (l.map enc)) (h0 : mk st env)
    (step : ∀ (st : σ) (a : α) (env : Env), a ∈ l → mk st env → ∃ env1, (t (enc a) env).Is env1 ∧ (F env1).wp (turnOk (mk (op st a)) fun _ => False) E) (hend : ∀ env, mk (l.foldl op st) env → (G env).wp Q E) : (sSeq (sFor fi t F) G env).wp Q E := by
  refine s_for enc l (fun pre env => mk (pre.foldl op st) env) hi h0 (fun pre a post env e h => ?_) hend
  obtain ⟨env1, z1, q⟩ := step _ a env (by rw [e]; simp) h
  refine ⟨env1, z1, (F env1).mono (fun fl z => ?_) (fun _ z => z) q⟩
  cases fl with
  | nx env2 => show mk ((pre ++ [a]).foldl op st) env2; rw [List.foldl_append]; exact z
  | ct env2 => show mk ((pre ++ [a]).foldl op st) env2; rw [List.foldl_append]; exact z
  | bk env2 => exact False.elim z
  | rt d => exact False.elim z
  | ro d => exact False.elim z
  | rte d env2 => exact False.elim z
theorem s_while {g : Env → M Bool} (W : Nat → Env → Prop) (m0 : Nat) (h0 : W m0 env)
    (turn : ∀ m env, W m env → (g env).wp (fun b => (b = true → (F env).wp (turnOk (fun env' => ∃ m', m' < m ∧ W m' env') fun fl => (andThen (.pure fl) G).wp Q E) E) ∧ (b = false → (G env).wp Q E)) E) : (sSeq (sWhile g F) G env).wp Q E := by
  refine ⟨W, ⟨m0, h0⟩, fun m env w => (g env).mono (fun b q => ?_) (fun _ z => z) (turn m env w)⟩
  cases b with
  | true =>
    refine (F env).mono (fun fl z => ?_) (fun _ z => z) (q.1 rfl)
    cases fl with
    | nx _ => exact z
    | ct _ => exact z
    | bk _ => exact z
    | rt _ => exact z
    | ro _ => exact z
    | rte _ _ => exact z
  | false => exact q.2 rfl
/-! ### comprehensions -/
inductive All2 {α β : Type} (R : α → β → Prop) : List α → List β → Prop
  | nil : All2 R [] []
  | cons {a : α} {b : β} {l : List α} {m : List β} : R a b → All2 R l m → All2 R (a :: l) (b :: m)
theorem lc_is (enc : α → D) (p : α → Bool) (y : α → D) : ∀ (l : List α), (∀ a ∈ l, ∃ env1, (t (enc a) env).Is env1 ∧ (c env1).Is (p a) ∧ (p a = true → (f env1).Is (y a))) → (lcRun t c f env (l.map enc)).Is ((l.filter p).map y)
  | [], _ => rfl
  | a :: l, h => by
    obtain ⟨env1, h1, h2, h3⟩ := h a (by simp)
    have ih := lc_is enc p y l fun b hb => h b (by simp [hb])
    refine Is.wp (Q := fun env1 => ((c env1).bind fun b => .ite b ((f env1).bind fun y => (lcRun t c f env (l.map enc)).bind fun ys => .pure (y :: ys)) (lcRun t c f env (l.map enc))).wp _ _) h1 ?_
    refine Is.wp (Q := fun b => (M.ite b ((f env1).bind fun y => (lcRun t c f env (l.map enc)).bind fun ys => .pure (y :: ys)) (lcRun t c f env (l.map enc))).wp _ _) h2 ?_
    refine w_if (fun e => ?_) fun e => ?_
    · rw [List.filter_cons_of_pos e]
      refine Is.wp (Q := fun y => ((lcRun t c f env (l.map enc)).bind fun ys => .pure (y :: ys)).wp _ _) (h3 e) ?_
      exact Is.wp (Q := fun ys => (M.pure (_ :: ys)).wp _ _) ih rfl
    · rw [List.filter_cons_of_neg (by rw [e]; decide)]
      exact ih
theorem vLc_is (enc : α → D) (l : List α) (p : α → Bool) (y : α → D) (hi : (fi env).Is (l.map enc)) (hz : l.length ≤ 1000000) (h : ∀ a ∈ l, ∃ env1, (t (enc a) (wipeE env vs)).Is env1 ∧ (c env1).Is (p a) ∧ (p a = true → (f env1).Is (y a))) : (vLc fi t c f vs env).Is (.lst ((l.filter p).map y)) := by
  refine Is.wp (Q := fun ds => (M.ask (ds.length ≤ sizeLine) ((lcRun t c f (wipeE env vs) ds).noErr.bind fun ys => .pure (D.lst ys))).wp _ _) hi ⟨by rw [List.length_map]; exact Nat.le_trans hz (by decide), ?_⟩
  exact Is.wp (Q := fun ys => (M.pure (D.lst ys)).wp _ _) (E := fun _ => False) (m := (lcRun t c f (wipeE env vs) (l.map enc)).noErr) (lc_is enc p y l h) rfl
theorem vLc_all (enc : α → D) (l : List α) (y : α → D) (hi : (fi env).Is (l.map enc)) (hz : l.length ≤ 1000000) (h : ∀ a ∈ l, ∃ env1, (t (enc a) (wipeE env vs)).Is env1 ∧ (f env1).Is (y a)) : (vLc fi t cYes f vs env).Is (.lst (l.map y)) := by
  have := vLc_is (vs := vs) (c := cYes) (f := f) enc l (fun _ => true) y hi hz fun a ha => let ⟨e, h1, h2⟩ := h a ha; ⟨e, h1, rfl, fun _ => h2⟩
  rw [List.filter_eq_self.mpr fun _ _ => rfl] at this
  exact this
/-- .. with what is not told beforehand -/
theorem lc_wp {R : α → D → Prop} (enc : α → D) : ∀ (l : List α), (∀ a ∈ l, (t (enc a) env).wp (fun env1 => (c env1).wp (fun b => b = true → (f env1).wp (R a) fun _ => False) fun _ => False) fun _ => False) → (lcRun t c f env (l.map enc)).wp (fun ys => ∃ l', l'.Sublist l ∧ All2 R l' ys) fun _ => False
  | [], _ => ⟨[], List.Sublist.refl _, .nil⟩
  | a :: l, h => by
    have ih := lc_wp enc l fun b hb => h b (by simp [hb])
    refine (t (enc a) env).mono (fun env1 q => (c env1).mono (fun b q => ?_) (fun _ z => z) q) (fun _ z => z) (h a (by simp))
    refine w_if (fun e => ?_) fun e => ?_
    · refine (f env1).mono (fun y q2 => ?_) (fun _ z => z) (q e)
      exact (lcRun t c f env (l.map enc)).mono (fun ys ⟨l', s, r⟩ => ⟨a :: l', s.cons₂ a, .cons q2 r⟩) (fun _ z => z) ih
    · exact (lcRun t c f env (l.map enc)).mono (fun ys ⟨l', s, r⟩ => ⟨l', s.cons a, r⟩) (fun _ z => z) ih
theorem vLc_wp {R : α → D → Prop} {P : D → Prop} (enc : α → D) (l : List α) (hi : (fi env).Is (l.map enc)) (hz : l.length ≤ 1000000) (h : ∀ a ∈ l, (t (enc a) (wipeE env vs)).wp (fun env1 => (c env1).wp (fun b => b = true → (f env1).wp (R a) fun _ => False) fun _ => False) fun _ => False)
    (q : ∀ l' ys, l'.Sublist l → All2 R l' ys → P (.lst ys)) : (vLc fi t c f vs env).wp P E := by
  refine Is.wp (Q := fun ds => (M.ask (ds.length ≤ sizeLine) ((lcRun t c f (wipeE env vs) ds).noErr.bind fun ys => .pure (D.lst ys))).wp _ _) hi ⟨by rw [List.length_map]; exact Nat.le_trans hz (by decide), ?_⟩
  exact (lcRun t c f (wipeE env vs) (l.map enc)).mono (fun ys ⟨l', s, r⟩ => q l' ys s r) (fun _ z => z) (lc_wp enc l h)
end
/-- the names of the draw on its way -/
def DrSt (a : Addr) (many : Int) (env : Env) : Prop := ∃ (cells : List Int) (p l m n : Int) (x y z : Slot), env = [Slot.own (.lstA a [.scr (cells.map D.int), .int p, .int l, .int m, .int n]), Slot.frz (.int many), x, y, z] ∧ 0 ≤ p
theorem mod_small {x m : Int} (h0 : 0 < m) (h1 : m ≤ 2 ^ 64) : -(2 ^ 64) < x % m ∧ x % m < 2 ^ 64 := by
  have a := Int.emod_nonneg x (show m ≠ 0 by omega)
  have b := Int.emod_lt_of_pos x h0
  omega
theorem mul_l {x m j : Int} (h0 : 0 < m) (h1 : m ≤ 2 ^ 64) : CMul (x % m) j ∨ CMulW (x % m) j := .inl (.inl (mod_small h0 h1))
theorem mul_r {i : Int} (n : Int) (h0 : -(2 ^ 64) < n) (h1 : n < 2 ^ 64) : CMul i n ∨ CMulW i n := .inl (.inr ⟨h0, h1⟩)
theorem mul_n {i : Int} (n : Int) (h0 : -(2 ^ 64) < n) (h1 : n < 2 ^ 64) : CMul n i ∨ CMulW n i := .inl (.inl ⟨h0, h1⟩)
theorem div_many {i many : Int} (h0 : 0 < many) (h1 : many < 2 ^ 4000) : CDivW i many := wide_div (b := 4000) h0 (by omega) (by decide) (by decide)
end Zf

/-! Zf: data of the package: elements, lots, groups; comparing and printing them -/
namespace Zf
open PySem L2 PySem.Spec PyProof.Rows
abbrev El := List Int
def lot (l : List El) : D := .tup (l.map tpI)
def lol (l : List El) : D := .lst (l.map tpI)
def prodI (R : List Int) : Int := R.foldl (· * ·) 1
def grp (γ : Str → Addr) (R : List Int) : D := .ins (γ "Group") ["rounds", "size"] [tpI R, .int (prodI R)]
/-! ### equality -/
theorem toPys_map {α : Type} (f : α → D) : ∀ l : List α, toPys (l.map f) = l.map fun a => toPy (f a)
  | [] => rfl
  | a :: l => by
    show toPy (f a) :: toPys (l.map f) = _
    rw [toPys_map f l]; rfl
theorem eqvAll_map {α : Type} (f : α → PyData) : ∀ l m : List α, (∀ a b : α, PyData.eqv (f a) (f b) = true ↔ a = b) → (PyData.eqvAll (l.map f) (m.map f) = true ↔ l = m)
  | [], [], _ => by simp [PyData.eqvAll]
  | [], _ :: _, _ => by simp [PyData.eqvAll]
  | _ :: _, [], _ => by simp [PyData.eqvAll]
  | a :: l, b :: m, h => by
    have ih := eqvAll_map f l m h
    simp only [List.map_cons, PyData.eqvAll, Bool.and_eq_true, h a b, ih, List.cons.injEq]
theorem bool_dec {b : Bool} {p : Prop} [Decidable p] (h : b = true ↔ p) : b = decide p := by
  cases b with
  | true => exact (decide_eq_true (h.mp rfl)).symm
  | false => exact (decide_eq_false fun z => by cases h.mpr z).symm
theorem deq_tpI (x y : El) : deq (tpI x) (tpI y) = decide (x = y) := by
  refine bool_dec ?_
  show PyData.eqv (.tuple (toPys (x.map D.int))) (.tuple (toPys (y.map D.int))) = true ↔ x = y
  rw [toPys_map, toPys_map]
  simp only [PyData.eqv]
  exact eqvAll_map (fun i : Int => toPy (.int i)) x y fun a b => by simp [toPy, PyData.eqv]
theorem deq_lot (l m : List El) : deq (lot l) (lot m) = decide (l = m) := by
  refine bool_dec ?_
  show PyData.eqv (.tuple (toPys (l.map tpI))) (.tuple (toPys (m.map tpI))) = true ↔ l = m
  rw [toPys_map, toPys_map]
  simp only [PyData.eqv]
  refine eqvAll_map (fun x : El => toPy (tpI x)) l m fun a b => ?_
  have := deq_tpI a b
  unfold deq at this
  rw [this, decide_eq_true_eq]
theorem deq_lol (l m : List El) : deq (lol l) (lol m) = decide (l = m) := deq_lot l m
theorem deq_str (x y : Str) : deq (.str x) (.str y) = decide (x = y) := bool_dec (by
  show PyData.eqv (.str x) (.str y) = true ↔ _
  simp [PyData.eqv])
theorem deq_bl (x y : Bool) : deq (.bl x) (.bl y) = (x == y) := rfl
theorem any_deq (l : List El) (x : El) : (l.map tpI).any (fun z => deq z (tpI x)) = decide (x ∈ l) := by
  refine bool_dec ?_
  rw [List.any_map, List.any_eq_true]
  constructor
  · rintro ⟨a, ha, e⟩
    have e : deq (tpI a) (tpI x) = true := e
    rw [deq_tpI, decide_eq_true_eq] at e
    rw [← e]; exact ha
  · intro h
    exact ⟨x, h, by show deq (tpI x) (tpI x) = true; rw [deq_tpI]; simp⟩
theorem okD_int (n : Nat) (i : Int) : okD n (.int i) = true := by cases n <;> rfl
theorem okD_bl (n : Nat) (i : Bool) : okD n (.bl i) = true := by cases n <;> rfl
theorem okD_non (n : Nat) : okD n .non = true := by cases n <;> rfl
theorem okD_tpI (n : Nat) (x : El) : okD (n + 1) (tpI x) = true := by
  show (x.map D.int).all (okD n) = true
  rw [List.all_map, List.all_eq_true]
  exact fun i _ => okD_int n i
theorem okD_lot (n : Nat) (l : List El) : okD (n + 2) (lot l) = true := by
  show (l.map tpI).all (okD (n + 1)) = true
  rw [List.all_map, List.all_eq_true]
  exact fun i _ => okD_tpI n i
theorem okD_lol (n : Nat) (l : List El) : okD (n + 2) (lol l) = true := okD_lot n l
/-! ### printing -/
mutual
/-- of ints below 2 ^ 64, flags and None -/
def smD : D → Bool
  | .non => true
  | .bl _ => true
  | .int i => decide (i.natAbs < 2 ^ 64)
  | .tup l => smDs l
  | .lst l => smDs l
  | _ => false
def smDs : List D → Bool
  | [] => true
  | d :: l => smD d && smDs l
end
mutual
def cntD : D → Nat
  | .tup l => cntDs l
  | .lst l => cntDs l
  | _ => 0
def cntDs : List D → Nat
  | [] => 0
  | d :: l => cntD d + 1 + cntDs l
end
theorem int_short {i : Int} (h : i.natAbs < 2 ^ 64) : (Str.ofString (toString i)).length ≤ 66 := by
  have : i.natAbs.log2 < 65 := by
    by_cases h0 : i.natAbs = 0
    · rw [h0]; decide
    · have := (Nat.log2_lt h0).mpr h
      omega
  have e := int_text_length_le (a := i) (k := 65) (by decide) this
  rw [PySem.ofString_length]
  omega
mutual
theorem sm_short : ∀ d : D, smD d = true → (toPy d).leavesShort 66 = true ∧ (toPy d).bulk = cntD d ∧ (toPy d).showable = true
  | .non, _ => ⟨rfl, rfl, rfl⟩
  | .bl _, _ => ⟨rfl, rfl, rfl⟩
  | .int i, h => by
    have h : i.natAbs < 2 ^ 64 := of_decide_eq_true h
    refine ⟨?_, rfl, ?_⟩
    · show decide ((PyData.shown (.int i)).length ≤ 66) = true
      exact decide_eq_true (int_short h)
    · show decide (i.natAbs.log2 < 1920) = true
      refine decide_eq_true ?_
      by_cases h0 : i.natAbs = 0
      · rw [h0]; decide
      · have := (Nat.log2_lt h0).mpr h
        omega
  | .tup l, h => sms_short l h
  | .lst l, h => sms_short l h
  | .str _, h => by cases h
  | .lstA _ _, h => by cases h
  | .scr _, h => by cases h
  | .dK _ _, h => by cases h
  | .dT _ _, h => by cases h
  | .ins _ _ _, h => by cases h
  | .insA _ _ _ _, h => by cases h
  | .hand, h => by cases h
  | .fn _, h => by cases h
theorem sms_short : ∀ l : List D, smDs l = true → PyData.leavesShortAll 66 (toPys l) = true ∧ PyData.bulkAll (toPys l) = cntDs l ∧ PyData.showableAll (toPys l) = true
  | [], _ => ⟨rfl, rfl, rfl⟩
  | d :: l, h => by
    have h : (smD d && smDs l) = true := h
    rw [Bool.and_eq_true] at h
    obtain ⟨a1, a2, a3⟩ := sm_short d h.1
    obtain ⟨b1, b2, b3⟩ := sms_short l h.2
    refine ⟨?_, ?_, ?_⟩
    · show ((toPy d).leavesShort 66 && PyData.leavesShortAll 66 (toPys l)) = true
      rw [a1, b1]; rfl
    · show (toPy d).bulk + 1 + PyData.bulkAll (toPys l) = _
      rw [a2, b2]; rfl
    · show ((toPy d).showable && PyData.showableAll (toPys l)) = true
      rw [a3, b3]; rfl
end
theorem okR_sm {d : D} (h1 : okD 16 d = true) (h2 : smD d = true) (h3 : cntD d ≤ 200000) : OkR d := by
  obtain ⟨a, b, c⟩ := sm_short d h2
  refine ⟨h1, c, ?_⟩
  have := PyData.shown_le_bulk 66 (by decide) (toPy d) a
  rw [b] at this
  have e : (sizeLine : Nat) = 16777216 := by decide
  omega
theorem smDs_map {α : Type} (f : α → D) (l : List α) (h : ∀ a ∈ l, smD (f a) = true) : smDs (l.map f) = true := by
  induction l with
  | nil => rfl
  | cons a l ih =>
    show (smD (f a) && smDs (l.map f)) = true
    rw [h a (by simp), ih fun b hb => h b (by simp [hb])]; rfl
theorem cntDs_map {α : Type} (f : α → D) (k : Nat) (l : List α) (h : ∀ a ∈ l, cntD (f a) ≤ k) : cntDs (l.map f) ≤ (k + 1) * l.length := by
  induction l with
  | nil => exact Nat.zero_le _
  | cons a l ih =>
    show cntD (f a) + 1 + cntDs (l.map f) ≤ _
    have := h a (by simp)
    have := ih fun b hb => h b (by simp [hb])
    rw [List.length_cons, Nat.mul_add, Nat.mul_one]
    omega
theorem sm_tpI {x : El} (h : ∀ i ∈ x, i.natAbs < 2 ^ 64) : smD (tpI x) = true := smDs_map D.int x fun i hi => decide_eq_true (h i hi)
theorem cnt_tpI (x : El) : cntD (tpI x) = x.length := by
  show cntDs (x.map D.int) = x.length
  induction x with
  | nil => rfl
  | cons i x ih => show 0 + 1 + cntDs (x.map D.int) = x.length + 1; rw [ih]; omega
/-! ### elements, lots -/
def z3 : List Int → List Int → List Int → List (Int × Int × Int)
  | a :: x, b :: y, c :: z => (a, b, c) :: z3 x y z
  | _, _, _ => []
def e3 (t : Int × Int × Int) : D := .tup [.int t.1, .int t.2.1, .int t.2.2]
theorem zip3_ints : ∀ x y z : List Int, zip3L (x.map D.int) (y.map D.int) (z.map D.int) = (z3 x y z).map e3
  | a :: x, b :: y, c :: z => by
    show D.tup [.int a, .int b, .int c] :: zip3L (x.map D.int) (y.map D.int) (z.map D.int) = _
    rw [zip3_ints x y z]; rfl
  | [], _, _ => by simp [zip3L, z3]
  | _ :: _, [], _ => by simp [zip3L, z3]
  | _ :: _, _ :: _, [] => by simp [zip3L, z3]
def e2 (t : Int × Int) : D := .tup [.int t.1, .int t.2]
theorem zip2_ints : ∀ x y : List Int, zip2L (x.map D.int) (y.map D.int) = (x.zip y).map e2
  | a :: x, b :: y => by
    show D.tup [.int a, .int b] :: zip2L (x.map D.int) (y.map D.int) = _
    rw [zip2_ints x y]; rfl
  | [], _ => by simp [zip2L]
  | _ :: _, [] => by simp [zip2L]
def ee (t : El × El) : D := .tup [tpI t.1, tpI t.2]
theorem zip2_els : ∀ x y : List El, zip2L (x.map tpI) (y.map tpI) = (x.zip y).map ee
  | a :: x, b :: y => by
    show D.tup [tpI a, tpI b] :: zip2L (x.map tpI) (y.map tpI) = _
    rw [zip2_els x y]; rfl
  | [], _ => by simp [zip2L]
  | _ :: _, [] => by simp [zip2L]
def ei (t : El × Nat) : D := .tup [.int t.2, tpI t.1]
theorem enum_els : ∀ (x : List El) (k : Nat), enumL k (x.map tpI) = (x.zipIdx k).map ei
  | [], _ => rfl
  | a :: x, k => by
    show D.tup [.int k, tpI a] :: enumL (k + 1) (x.map tpI) = _
    rw [enum_els x (k + 1)]; rfl
def addZ : List Int → El → El → El
  | r :: R, a :: x, b :: y => (a + b) % r :: addZ R x y
  | _, _, _ => []
theorem addZ_z3 : ∀ (R : List Int) (x y : El), (z3 x y R).map (fun t => (t.1 + t.2.1) % t.2.2) = addZ R x y
  | r :: R, a :: x, b :: y => by
    show (a + b) % r :: (z3 x y R).map _ = _
    rw [addZ_z3 R x y]; rfl
  | [], x, y => by cases x <;> cases y <;> simp [z3, addZ]
  | _ :: _, [], _ => by simp [z3, addZ]
  | _ :: _, _ :: _, [] => by simp [z3, addZ]
theorem z3_mem : ∀ {R : List Int} {x y : El} {t : Int × Int × Int}, t ∈ z3 x y R → t.2.2 ∈ R
  | r :: R, a :: x, b :: y, t, h => by
    have h : t ∈ (a, b, r) :: z3 x y R := h
    rcases List.mem_cons.mp h with h | h
    · rw [h]; simp
    · exact List.mem_cons_of_mem _ (z3_mem h)
  | [], x, y, _, h => by cases x <;> cases y <;> simp [z3] at h
  | _ :: _, [], _, _, h => by simp [z3] at h
  | _ :: _, _ :: _, [], _, h => by simp [z3] at h
theorem z3_len : ∀ (R : List Int) (x y : El), (z3 x y R).length ≤ R.length
  | r :: R, a :: x, b :: y => by
    show (z3 x y R).length + 1 ≤ R.length + 1
    have := z3_len R x y; omega
  | [], x, y => by cases x <;> cases y <;> simp [z3]
  | _ :: _, [], _ => by simp [z3]
  | _ :: _, _ :: _, [] => by simp [z3]
def inG : List Int → El → Bool
  | [], [] => true
  | r :: R, a :: x => decide (0 ≤ a ∧ a ≤ r - 1) && inG R x
  | _, _ => false
theorem inG_zip : ∀ (R : List Int) (x : El), x.length = R.length → ((x.zip R).map fun t => decide (0 ≤ t.1 ∧ t.1 ≤ t.2 - 1)).all id = inG R x
  | [], [], _ => rfl
  | r :: R, a :: x, h => by
    have ih := inG_zip R x (by simpa using h)
    show (decide (0 ≤ a ∧ a ≤ r - 1) && ((x.zip R).map _).all id) = _
    rw [ih]; rfl
  | [], _ :: _, h => by simp at h
  | _ :: _, [], h => by simp at h
theorem inG_len : ∀ {R : List Int} {x : El}, inG R x = true → x.length = R.length
  | [], [], _ => rfl
  | r :: R, a :: x, h => by
    have h : (decide (0 ≤ a ∧ a ≤ r - 1) && inG R x) = true := h
    rw [Bool.and_eq_true] at h
    simp [inG_len h.2]
  | [], _ :: _, h => by cases h
  | _ :: _, [], h => by cases h
theorem inG_len_ne : ∀ {R : List Int} {x : El}, x.length ≠ R.length → inG R x = false := fun {R x} h => by
  cases e : inG R x with
  | false => rfl
  | true => exact absurd (inG_len e) h
/-- ascending -/
def asc (l : List El) : Bool := ((l.zip (l.drop 1)).map fun t => HT.lexLt t.1 t.2).all id
def isLot (R : List Int) (l : List El) : Bool := (l.map (inG R)).all id && asc l
theorem cut_drop {α : Type} (l : List α) {k : Nat} (h : k ≤ l.length) : cutD l (some (k : Int)) none = l.drop k := by
  unfold cutD
  rw [HT.sIx_nat, HT.sIx_none, Nat.min_eq_left h]
  exact List.take_of_length_le (by rw [List.length_drop]; exact Nat.le_refl _)
theorem in_lot (x : El) (l : List El) : (inD (tpI x) (lot l)).Is (.bl (decide (x ∈ l))) := by
  refine ⟨⟨okD_tpI 15 x, okD_lot 14 l⟩, ?_⟩
  show D.bl ((l.map tpI).any fun z => deq z (tpI x)) = _
  rw [any_deq]
theorem notIn_lot (x : El) (l : List El) : (notInD (tpI x) (lot l)).Is (.bl (!decide (x ∈ l))) := by
  refine ⟨⟨okD_tpI 15 x, okD_lot 14 l⟩, ?_⟩
  show D.bl (!(l.map tpI).any fun z => deq z (tpI x)) = _
  rw [any_deq]
theorem find_at {α : Type} {p : α → Bool} {pre post : List α} {y : α} (h : ∀ z ∈ pre, p z = false) (hy : p y = true) : (pre ++ y :: post).find? p = some y := by
  induction pre with
  | nil => simp [hy]
  | cons a pre ih =>
    rw [List.cons_append, List.find?_cons_of_neg (by rw [h a (by simp)]; decide)]
    exact ih fun z hz => h z (by simp [hz])
theorem find_no {α : Type} {p : α → Bool} {l : List α} (h : ∀ z ∈ l, p z = false) : l.find? p = none := List.find?_eq_none.mpr fun z hz => by rw [h z hz]; decide
/-- the first x, y, in order, whose sum lies in l -/
def hsGo (R : List Int) (l : List El) : List El → Option (El × El × El)
  | [] => none
  | x :: r => match (x :: r).find? (fun y => decide (addZ R x y ∈ l)) with
    | some y => some (x, y, addZ R x y)
    | none => hsGo R l r
def hs (R : List Int) (l : List El) : Option (El × El × El) := hsGo R l l
def oD : Option (El × El × El) → D
  | none => .non
  | some (x, y, z) => .tup [tpI x, tpI y, tpI z]
/-! ### all elements -/
def extE (found : List El) (n : Int) : List El := found.flatMap fun row => (List.range n.toNat).map fun (k : Nat) => row ++ [(k : Int)]
def elems (R : List Int) : List El := R.foldl extE [[]]
theorem extE_length (f : List El) (n : Int) : (extE f n).length = f.length * n.toNat := by
  unfold extE
  induction f with
  | nil => simp
  | cons a f ih => rw [List.flatMap_cons, List.length_append, ih, List.length_map, List.length_range, List.length_cons, Nat.add_mul, Nat.one_mul, Nat.add_comm]
theorem prodI_snoc (R : List Int) (r : Int) : prodI (R ++ [r]) = prodI R * r := by
  unfold prodI
  rw [List.foldl_append]; rfl
theorem prodI_pos : ∀ (R : List Int), (∀ r ∈ R, 1 ≤ r) → 1 ≤ prodI R := fun R h => by
  have key : ∀ (R : List Int) (a : Int), 1 ≤ a → (∀ r ∈ R, 1 ≤ r) → a ≤ R.foldl (· * ·) a := by
    intro R
    induction R with
    | nil => intro a _ _; exact Int.le_refl _
    | cons r R ih =>
      intro a ha h
      have hr := h r (by simp)
      have h1 : a * 1 ≤ a * r := Int.mul_le_mul_of_nonneg_left hr (by omega)
      have := ih (a * r) (by omega) fun x hx => h x (by simp [hx])
      rw [List.foldl_cons]
      omega
  exact key R 1 (Int.le_refl _) h
theorem prodI_pre : ∀ (P S : List Int), (∀ r ∈ P ++ S, 1 ≤ r) → prodI P ≤ prodI (P ++ S) := fun P S h => by
  have key : ∀ (S : List Int) (a : Int), 1 ≤ a → (∀ r ∈ S, 1 ≤ r) → a ≤ S.foldl (· * ·) a := by
    intro R
    induction R with
    | nil => intro a _ _; exact Int.le_refl _
    | cons r R ih =>
      intro a ha h
      have hr := h r (by simp)
      have h1 : a * 1 ≤ a * r := Int.mul_le_mul_of_nonneg_left hr (by omega)
      have := ih (a * r) (by omega) fun x hx => h x (by simp [hx])
      rw [List.foldl_cons]
      omega
  unfold prodI
  rw [List.foldl_append]
  exact key S _ (prodI_pos P fun r hr => h r (by simp [hr])) fun r hr => h r (by simp [hr])
theorem elems_snoc (R : List Int) (r : Int) : elems (R ++ [r]) = extE (elems R) r := by
  unfold elems
  rw [List.foldl_append]; rfl
theorem list_snoc {α : Type} {p : List α → Prop} (h0 : p []) (h1 : ∀ l a, p l → p (l ++ [a])) (l : List α) : p l := by
  have : ∀ (m : List α), p m.reverse := by
    intro m
    induction m with
    | nil => exact h0
    | cons a m ih => rw [List.reverse_cons]; exact h1 _ _ ih
  have := this l.reverse
  rw [List.reverse_reverse] at this
  exact this
theorem elems_length (R : List Int) (h : ∀ r ∈ R, 1 ≤ r) : ((elems R).length : Int) = prodI R := by
  revert h
  refine list_snoc (p := fun R => (∀ r ∈ R, 1 ≤ r) → ((elems R).length : Int) = prodI R) (fun _ => rfl) (fun R r ih h => ?_) R
  have ih := ih fun x hx => h x (by simp [hx])
  have hr := h r (by simp)
  rw [elems_snoc, extE_length, prodI_snoc, ← ih, Int.natCast_mul]
  congr 1
  omega
theorem extE_mem {f : List El} {n : Int} {x : El} (h : x ∈ extE f n) : ∃ row ∈ f, ∃ k : Nat, k < n.toNat ∧ x = row ++ [(k : Int)] := by
  unfold extE at h
  obtain ⟨row, h1, h2⟩ := List.mem_flatMap.mp h
  obtain ⟨k, h3, h4⟩ := List.mem_map.mp h2
  exact ⟨row, h1, k, List.mem_range.mp h3, h4.symm⟩
theorem elems_len (R : List Int) : ∀ x ∈ elems R, x.length = R.length := by
  refine list_snoc (p := fun R => ∀ x ∈ elems R, x.length = R.length) (fun x h => ?_) (fun R r ih x h => ?_) R
  · have : x = [] := by simpa [elems] using h
    rw [this]
  · rw [elems_snoc] at h
    obtain ⟨row, h1, k, _, rfl⟩ := extE_mem h
    simp [ih row h1]
theorem extE_snoc (f : List El) (x : El) (n : Int) : extE (f ++ [x]) n = extE f n ++ (List.range n.toNat).map fun (k : Nat) => x ++ [(k : Int)] := by
  unfold extE
  rw [List.flatMap_append]
  simp
theorem rng_map {α : Type} (n : Int) (f : D → α) : (rngD 0 n.toNat).map f = (List.range n.toNat).map fun (k : Nat) => f (.int k) := by
  unfold rngD
  rw [List.map_map]
  refine List.map_congr_left fun k _ => ?_
  show f (.int (0 + (k : Int))) = _
  rw [Int.zero_add]
/-! ### facts of comparing texts: what prints alike is no matter here, but what is one prints as one -/
theorem deq_self_str (x : Str) : deq (.str x) (.str x) = true := by rw [deq_str]; simp
end Zf

namespace Zf
open PySem L2 PySem.Spec PyProof.Rows
section
variable {Q : Fl → Prop} {E : Err → Prop} {F G : Env → M Fl} {env : Env} {f fa fb : Env → M D} {t : D → Env → M Env}
/-! ### rules for what is not told beforehand -/
theorem s_asgW (h : (f env).wp (fun d => ∃ env', (t d env).Is env' ∧ (G env').wp Q E) E) : (sSeq (sAsg f t) G env).wp Q E :=
  (f env).mono (fun d ⟨env', e, q⟩ => Is.wp (m := t d env) (Q := fun env' => (G env').wp Q E) (E := fun _ => False) e q) (fun _ z => z) h
theorem s_setW {sl : D → Slot} {i : Nat} (h : (f env).wp (fun d => (G (env.set i (sl d))).wp Q E) E) : (sSeq (sSet sl i f) G env).wp Q E := h
theorem w_tup2 {P : D → Prop} (h : (fa env).wp (fun x => (fb env).wp (fun y => P (.tup [x, y])) E) E) : (eTup (aCons fa (aCons fb aNil)) env).wp P E :=
  (fa env).mono (fun x q => (fb env).mono (fun y q => ⟨zl 2, q⟩) (fun _ z => z) q) (fun _ z => z) h
theorem w_op {op : D → D → M D} {P : D → Prop} (h : (fa env).wp (fun x => (fb env).wp (fun y => (op x y).wp P E) E) E) : (bind2 fa fb op env).wp P E := h
theorem eq_int (i j : Int) : (eqD (.int i) (.int j)).Is (.bl (decide (i = j))) := ⟨⟨rfl, rfl⟩, by show D.bl (deq (.int i) (.int j)) = _; rw [deq_int]⟩
theorem d_and' {ga gb : Env → M Bool} {x y : Bool} (h : (ga env).Is x) (h2 : x = true → (gb env).Is y) : (tAndD ga gb env).Is (x && y) := by
  refine Is.wp (Q := fun c => (M.ite c (gb env) (.pure false)).wp _ _) h (w_if (fun e => ?_) fun e => ?_)
  · rw [e, Bool.true_and]; exact h2 e
  · rw [e]; rfl
theorem filter_one {α : Type} (p : α → Bool) (x : α) : [x].filter p = if p x then [x] else [] := by
  cases h : p x <;> simp [List.filter, h]
theorem frzE_own {i : Nat} {d : D} (h : env[i]? = some (.own d)) : frzE i env = env.set i (.frz d) := by
  unfold frzE; rw [h]
theorem lc_wpAll {R : α → D → Prop} (enc : α → D) : ∀ (l : List α), (∀ a ∈ l, (t (enc a) env).wp (fun env1 => (f env1).wp (R a) fun _ => False) fun _ => False) → (lcRun t cYes f env (l.map enc)).wp (fun ys => All2 R l ys) fun _ => False
  | [], _ => .nil
  | a :: l, h => by
    have ih := lc_wpAll enc l fun b hb => h b (by simp [hb])
    refine (t (enc a) env).mono (fun env1 q => ?_) (fun _ z => z) (h a (by simp))
    show (M.ite true ((f env1).bind fun y => (lcRun t cYes f env (l.map enc)).bind fun ys => .pure (y :: ys)) (lcRun t cYes f env (l.map enc))).wp _ _
    refine w_if (fun e => ?_) fun e => Bool.noConfusion e
    refine (f env1).mono (fun y q2 => ?_) (fun _ z => z) q
    exact (lcRun t cYes f env (l.map enc)).mono (fun ys r => .cons q2 r) (fun _ z => z) ih
theorem vLc_wpAll {fi : Env → M (List D)} {vs : List Nat} {R : α → D → Prop} {P : D → Prop} (enc : α → D) (l : List α) (hi : (fi env).Is (l.map enc)) (hz : l.length ≤ 1000000) (h : ∀ a ∈ l, (t (enc a) (wipeE env vs)).wp (fun env1 => (f env1).wp (R a) fun _ => False) fun _ => False)
    (q : ∀ ys, All2 R l ys → P (.lst ys)) : (vLc fi t cYes f vs env).wp P E := by
  refine Is.wp (Q := fun ds => (M.ask (ds.length ≤ sizeLine) ((lcRun t cYes f (wipeE env vs) ds).noErr.bind fun ys => .pure (D.lst ys))).wp _ _) hi ⟨by rw [List.length_map]; exact Nat.le_trans hz (by decide), ?_⟩
  exact (lcRun t cYes f (wipeE env vs) (l.map enc)).mono (fun ys r => q ys r) (fun _ z => z) (lc_wpAll enc l h)
theorem range_is {n : Nat} (hn : n ≤ 1000000) (h : (f env).Is (.int n)) : ((fun env => ((aCons f aNil) env).bind iRange1D) env).Is ((List.range n).map fun (k : Nat) => D.int k) := by
  refine d_it (a1 h) ⟨⟨by omega, by omega⟩, ?_⟩
  show rngD 0 ((n : Int)).toNat = _
  unfold rngD
  rw [Int.toNat_natCast]
  exact List.map_congr_left fun k _ => by rw [Int.zero_add]
theorem at_nat {l : List Int} {p : Nat} (hp : p < l.length) : atI (l.map D.int) (p : Int) = some (.int (l.getD p 0)) := by
  rw [atI_nat (xs := l.map D.int) (j := p) (by rw [List.getElem?_map, List.getElem?_eq_getElem hp]; rfl), List.getD_eq_getElem?_getD, List.getElem?_eq_getElem hp]
  rfl
end
end Zf

namespace Zf.k22
open PySem L2 PySem.Spec PyProof.Rows Zf
/-! ### the text: what each def does -/

def N__law_hand : List Str := ["script", "cell"]
def B__law_hand (γ : Str → Addr) : Env → M Fl :=
  (sSeq (sRetO (eLst (aCons (vLc (iterD (vSl (bVar 0) oNone (oSome (eC (.int 63))))) (gNm 1) cYes (bind2 (bindA (aCons (bindA (aCons (bindA (aCons (bVar 1) aNil) toIntD) aNil) absD) aNil) toIntD) (bind2 (eC (.int 10)) (eC (.int 36)) powD) modD) [1]) (aCons (eC (.int 0)) (aCons (eC (.int 0)) (aCons (bind2 (eC (.int 8209)) (bind2 (eC (.int 13)) (bindA (aCons (vSl (bVar 0) oNone (oSome (eC (.int 63)))) aNil) lenD) mulD) addD) (aCons (eC (.int 0)) aNil)))))))
    sNil)
def S__law_hand (γ : Str → Addr) : List D → M D := fun ds => retO (B__law_hand γ (startE N__law_hand ds))
def N__law_draw : List Str := ["hand", "many", "cell", "digit", "number"]
def R__law_draw_1 (γ : Str → Addr) : Env → M Fl :=
  (sSeq (sSetItemA 0 (bind2 (bind2 (bVar 0) (eC (.int 4)) ixD) (eC (.int 1)) addD) (eC (.int 4)))
    (sSeq (sSet slE 4 (bind2 (bindA (aCons (bind2 (bindA (aCons (bind2 (bind2 (bVar 0) (eC (.int 3)) ixD) (bind2 (eC (.int 7919)) (bind2 (bVar 0) (eC (.int 4)) ixD) mulD) addD) aNil) toIntD) (eC (.int 48271)) mulD) aNil) toIntD) (eC (.int 2147483647)) modD))
    (sSeq (sSet slE 4 (bind2 (bindA (aCons (bind2 (bVar 4) (bind2 (bind2 (bVar 4) (eC (.int 1009)) fdivD) (eC (.int 69621)) addD) mulD) aNil) toIntD) (eC (.int 2147483647)) modD))
    (sSeq (sSet slE 4 (bind2 (bindA (aCons (bind2 (bVar 4) (bind2 (bind2 (bVar 4) (eC (.int 2003)) fdivD) (eC (.int 40014)) addD) mulD) aNil) toIntD) (eC (.int 2147483563)) modD))
    (sSeq (sRetE (bind2 (bindA (aCons (bind2 (bVar 4) (eC (.int 16)) fdivD) aNil) toIntD) (bVar 1) modD))
    sNil)))))
def R__law_draw_2 (γ : Str → Addr) : Env → M Fl :=
  (sSeq (sIf (gV (bind2 (bind2 (bVar 0) (eC (.int 2)) ixD) (eC (.int 0)) gtD)) (sSeq (sSet slE 3 (bind2 (bindA (aCons (bind2 (bVar 0) (eC (.int 2)) ixD) aNil) toIntD) (bVar 1) modD))
    (sSeq (sSetItemA 0 (bind2 (bind2 (bVar 0) (eC (.int 2)) ixD) (bVar 1) fdivD) (eC (.int 2)))
    (sSeq (sRetE (eVar 3))
    sNil))) sNil)
    (R__law_draw_1 γ))
def B__law_draw (γ : Str → Addr) : Env → M Fl :=
  (sSeq (sIf (tAndD (gV (bind2 (bind2 (bVar 0) (eC (.int 2)) ixD) (eC (.int 0)) eqD)) (gV (bind2 (bind2 (bVar 0) (eC (.int 1)) ixD) (bindA (aCons (bind2 (bVar 0) (eC (.int 0)) ixD) aNil) lenD) ltD))) (sSeq (sSet slE 2 (bind2 (bind2 (bVar 0) (eC (.int 0)) ixD) (bind2 (bVar 0) (eC (.int 1)) ixD) ixD))
    (sSeq (sSetItemA 0 (bind2 (bind2 (bVar 0) (eC (.int 1)) ixD) (eC (.int 1)) addD) (eC (.int 1)))
    (sSeq (sSetItemA 0 (bind2 (bindA (aCons (bind2 (bind2 (bind2 (bind2 (bVar 0) (eC (.int 3)) ixD) (eC (.int 69621)) mulD) (bind2 (bVar 2) (eC (.int 40692)) mulD) addD) (eC (.int 733)) addD) aNil) toIntD) (eC (.int 2147483629)) modD) (eC (.int 3)))
    (sSeq (sIf (gV (bind2 (bVar 2) (bind2 (eC (.int 10)) (eC (.int 18)) powD) geD)) (sSeq (sSetItemA 0 (eVar 2) (eC (.int 2)))
    sNil) sNil)
    sNil)))) sNil)
    (R__law_draw_2 γ))
def N__law_any : List Str := ["hand", "some"]
def B__law_any (γ : Str → Addr) : Env → M Fl :=
  (sSeq (sRet (bind2 (bVar 1) (vCall 2 drawD (aCons (eVar 0) (aCons (bindA (aCons (bVar 1) aNil) lenD) aNil))) ixD))
    sNil)
def S__law_any (γ : Str → Addr) : List D → M D := fun ds => retD (B__law_any γ (startE N__law_any ds))
def N__law_members : List Str := ["rounds", "found", "hours", "one", "hour"]
def L__law_members_1 (γ : Str → Addr) : Env → M Fl :=
  (sSeq (sSet slE 1 (bind1 (vLc (iterD (bVar 1)) (gNm 3) cYes (vLc (fun env => ((aCons (bVar 2) aNil) env).bind iRange1D) (gNm 4) cYes (bind2 (bVar 3) (eTup (aCons (eVar 4) aNil)) addD) [4]) [3]) sumLD))
    sNil)
def R__law_members_1 (γ : Str → Addr) : Env → M Fl :=
  (sSeq (sRet (eVar 1))
    sNil)
def B__law_members (γ : Str → Addr) : Env → M Fl :=
  (sSeq (sSet slE 1 (eLst (aCons (eTup aNil) aNil)))
    (sSeq (sFor (iterD (eVar 0)) (gNm 2) (L__law_members_1 γ))
    (R__law_members_1 γ)))
def S__law_members (γ : Str → Addr) : List D → M D := fun ds => retD (B__law_members γ (startE N__law_members ds))
def N__law_rounds : List Str := ["hand", "most", "some", "one"]
def B__law_rounds (γ : Str → Addr) : Env → M Fl :=
  (sSeq (sSet slE 2 (eLst (aCons (eTup (aCons (eC (.int 64)) aNil)) (aCons (eTup (aCons (eC (.int 2)) (aCons (eC (.int 2)) (aCons (eC (.int 2)) (aCons (eC (.int 2)) (aCons (eC (.int 2)) (aCons (eC (.int 2)) aNil))))))) (aCons (eTup (aCons (eC (.int 4)) (aCons (eC (.int 4)) (aCons (eC (.int 4)) aNil)))) (aCons (eTup (aCons (eC (.int 7)) (aCons (eC (.int 9)) aNil))) (aCons (eTup (aCons (eC (.int 3)) (aCons (eC (.int 1)) (aCons (eC (.int 20)) aNil)))) (aCons (eTup (aCons (eC (.int 1)) (aCons (eC (.int 5)) (aCons (eC (.int 1)) (aCons (eC (.int 12)) aNil))))) (aCons (eTup (aCons (eC (.int 2)) (aCons (eC (.int 1)) (aCons (eC (.int 4)) (aCons (eC (.int 8)) aNil))))) (aCons (eTup (aCons (eC (.int 61)) aNil)) (aCons (eTup (aCons (eC (.int 33)) aNil)) aNil)))))))))))
    (sSeq (sSet slE 2 (bind2 (bVar 2) (eLst (aCons (eTup (aCons (eC (.int 6)) (aCons (eC (.int 10)) aNil))) (aCons (eTup (aCons (eC (.int 8)) (aCons (eC (.int 5)) aNil))) (aCons (eTup (aCons (eC (.int 3)) (aCons (eC (.int 3)) (aCons (eC (.int 2)) (aCons (eC (.int 3)) aNil))))) (aCons (eTup (aCons (eC (.int 12)) aNil)) (aCons (eTup (aCons (eC (.int 2)) (aCons (eC (.int 4)) aNil))) (aCons (eTup (aCons (eC (.int 4)) (aCons (eC (.int 1)) (aCons (eC (.int 2)) aNil)))) (aCons (eTup (aCons (eC (.int 1)) aNil)) (aCons (eTup (aCons (eC (.int 13)) aNil)) (aCons (eTup (aCons (eC (.int 3)) (aCons (eC (.int 1)) (aCons (eC (.int 2)) aNil)))) (aCons (eTup (aCons (eC (.int 5)) aNil)) (aCons (eTup (aCons (eC (.int 2)) (aCons (eC (.int 3)) aNil))) aNil)))))))))))) addD))
    (sSeq (sSet slE 2 (bind2 (bVar 2) (eLst (aCons (eTup (aCons (eC (.int 2)) (aCons (eC (.int 2)) (aCons (eC (.int 2)) aNil)))) (aCons (eTup (aCons (eC (.int 9)) aNil)) (aCons (eTup (aCons (eC (.int 3)) (aCons (eC (.int 3)) aNil))) (aCons (eTup (aCons (eC (.int 16)) aNil)) (aCons (eTup (aCons (eC (.int 7)) aNil)) (aCons (eTup (aCons (eC (.int 1)) (aCons (eC (.int 1)) (aCons (eC (.int 1)) aNil)))) (aCons (eTup (aCons (eC (.int 2)) aNil)) (aCons (eTup (aCons (eC (.int 11)) aNil)) (aCons (eTup (aCons (eC (.int 2)) (aCons (eC (.int 6)) aNil))) (aCons (eTup (aCons (eC (.int 4)) (aCons (eC (.int 4)) aNil))) (aCons (eTup (aCons (eC (.int 15)) aNil)) (aCons (eTup (aCons (eC (.int 14)) aNil)) aNil))))))))))))) addD))
    (sSeq (sSet slE 2 (bind2 (bVar 2) (eLst (aCons (eTup (aCons (eC (.int 2)) (aCons (eC (.int 2)) (aCons (eC (.int 3)) aNil)))) (aCons (eTup (aCons (eC (.int 8)) aNil)) (aCons (eTup (aCons (eC (.int 1)) (aCons (eC (.int 10)) aNil))) aNil)))) addD))
    (sSeq (sRet (vCall 2 (S__law_any γ) (aCons (eVar 0) (aCons (vLc (iterD (bVar 2)) (gNm 3) (gV (bind2 (bindA (aCons (vCall 1 (S__law_members γ) (aCons (eVar 3) aNil)) aNil) lenD) (bVar 1) leD)) (eVar 3) [3]) aNil))))
    sNil)))))
def S__law_rounds (γ : Str → Addr) : List D → M D := fun ds => retD (B__law_rounds γ (startE N__law_rounds ds))
def N__law_made : List Str := ["hand", "rounds", "at", "some", "hours", "kind", "one", "low", "high", "same", "weights", "found", "weight", "place", "times"]
def L__law_made_1 (γ : Str → Addr) : Env → M Fl :=
  (sSeq (sSet slE 12 (bind2 (bindA (aCons (bindA (aCons (vLc (iterD (bVar 10)) (gTu 2 (gCo (gNm 13) (gCo (gNm 14) gNo))) cYes (bind2 (bind2 (bVar 6) (bVar 13) ixD) (bVar 14) mulD) [13, 14]) aNil) sumD) aNil) toIntD) (bVar 4) modD))
    (sSeq (sExtend 11 (vIf (tAndD (gV (chain (bVar 7) (bVar 12) (bVar 8) leD ltD)) (gV (bind2 (bVar 4) (eC (.int 1)) gtD))) (eLst (aCons (eVar 6) aNil)) (eLst aNil)))
    sNil))
def R__law_made_1 (γ : Str → Addr) : Env → M Fl :=
  (sSeq (sRet (bindA (aCons (bVar 11) aNil) tupleD))
    sNil)
def R__law_made_2 (γ : Str → Addr) : Env → M Fl :=
  (sSeq (sSet slN 9 (vLc (fun env => ((aCons (bindA (aCons (bVar 1) aNil) lenD) aNil) env).bind iRange1D) (gNm 13) (gV (bind2 (bind2 (bVar 1) (bVar 13) ixD) (bVar 4) eqD)) (eVar 13) [13]))
    (sFrz 9 (sSeq (sSet slN 10 (vLc (iterD (bVar 9)) (gNm 13) cYes (eTup (aCons (eVar 13) (aCons (bind2 (eC (.int 1)) (vCall 2 drawD (aCons (eVar 0) (aCons (eVar 4) aNil))) addD) aNil))) [13]))
    (sFrz 10 (sSeq (sSet slN 11 (eLst aNil))
    (sSeq (sFor (iterD (eVar 3)) (gNm 6) (L__law_made_1 γ))
    (R__law_made_1 γ)))))))
def R__law_made_3 (γ : Str → Addr) : Env → M Fl :=
  (sSeq (sAsg (eTup (aCons (bind2 (bind2 (bVar 4) (eC (.int 3)) fdivD) (eC (.int 1)) addD) (aCons (bind2 (bind2 (bind2 (eC (.int 2)) (bVar 4) mulD) (eC (.int 2)) addD) (eC (.int 3)) fdivD) aNil))) (gTu 2 (gCo (gNm 7) (gCo (gNm 8) gNo))))
    (sSeq (sIf (tAndD (gV (bind2 (bVar 5) (eC (.int 1)) eqD)) (gV (bind2 (bVar 4) (eC (.int 1)) gtD))) (sSeq (sRet (bindA (aCons (vLc (iterD (bVar 3)) (gNm 6) (gV (chain (bVar 7) (bind2 (bVar 6) (bVar 2) ixD) (bVar 8) leD ltD)) (eVar 6) [6]) aNil) tupleD))
    sNil) sNil)
    (R__law_made_2 γ)))
def B__law_made (γ : Str → Addr) : Env → M Fl :=
  (sSeq (sAsg (eTup (aCons (vCall 2 drawD (aCons (eVar 0) (aCons (bindA (aCons (bVar 1) aNil) lenD) aNil))) (aCons (vCall 1 (S__law_members γ) (aCons (eVar 1) aNil)) aNil))) (gTu 2 (gCo (gNm 2) (gCo (gNm 3) gNo))))
    (sSeq (sSet slE 4 (bind2 (bVar 1) (bVar 2) ixD))
    (sSeq (sSet slE 5 (vCall 2 drawD (aCons (eVar 0) (aCons (eC (.int 3)) aNil))))
    (sSeq (sIf (tAndD (gV (bind2 (bVar 5) (eC (.int 0)) eqD)) (gV (bind2 (bind2 (bindA (aCons (bVar 4) aNil) toIntD) (eC (.int 2)) modD) (eC (.int 0)) eqD))) (sSeq (sRet (bindA (aCons (vLc (iterD (bVar 3)) (gNm 6) (gV (bind2 (bind2 (bindA (aCons (bind2 (bVar 6) (bVar 2) ixD) aNil) toIntD) (eC (.int 2)) modD) (eC (.int 1)) eqD)) (eVar 6) [6]) aNil) tupleD))
    sNil) sNil)
    (R__law_made_3 γ)))))
def S__law_made (γ : Str → Addr) : List D → M D := fun ds => retD (B__law_made γ (startE N__law_made ds))
def N_is_integer : List Str := ["thing"]
def B_is_integer (γ : Str → Addr) : Env → M Fl :=
  (sSeq (sRet (vAnd (bind1 (bVar 0) (isiD .int)) (vNot (bind1 (bVar 0) (isiD .bl)))))
    sNil)
def S_is_integer (γ : Str → Addr) : List D → M D := fun ds => retD (B_is_integer γ (startE N_is_integer ds))
def N_is_within : List Str := ["thing", "low", "high"]
def B_is_within (γ : Str → Addr) : Env → M Fl :=
  (sSeq (sRet (vAnd (vCall 1 (S_is_integer γ) (aCons (eVar 0) aNil)) (chain (bVar 1) (bVar 0) (bVar 2) leD leD)))
    sNil)
def S_is_within (γ : Str → Addr) : List D → M D := fun ds => retD (B_is_within γ (startE N_is_within ds))
def N_check_number : List Str := ["thing", "low", "high"]
def B_check_number (γ : Str → Addr) : Env → M Fl :=
  (sSeq (sIf (tNotD (gV (vCall 3 (S_is_within γ) (aCons (eVar 0) (aCons (eVar 1) (aCons (eVar 2) aNil)))))) (sSeq (fun _ => .stuck)
    sNil) sNil)
    sNil)
def S_check_number (γ : Str → Addr) : List D → M D := fun ds => retD (B_check_number γ (startE N_check_number ds))
def N_prime_powers : List Str := ["number", "found", "left", "one", "power"]
def L_prime_powers_1 (γ : Str → Addr) : Env → M Fl :=
  (sSeq (sPar slE slE 2 4 (bind2 (bVar 2) (bVar 3) fdivD) (bind2 (bVar 4) (eC (.int 1)) addD))
    sNil)
def T_prime_powers_1 (γ : Str → Addr) : Env → M Bool :=
  (gV (bind2 (bind2 (bindA (aCons (bVar 2) aNil) toIntD) (bVar 3) modD) (eC (.int 0)) eqD))
def R_prime_powers_1 (γ : Str → Addr) : Env → M Fl :=
  (sSeq (sExtend 1 (vIf (gV (bind2 (bVar 4) (eC (.int 0)) gtD)) (eLst (aCons (eTup (aCons (eVar 3) (aCons (eVar 4) aNil))) aNil)) (eLst aNil)))
    (sSeq (sAug 3 (eC (.int 1)) addI)
    sNil))
def R_prime_powers_2 (γ : Str → Addr) : Env → M Fl :=
  (sSeq (sSet slE 4 (eC (.int 0)))
    (sSeq (sWhile (T_prime_powers_1 γ) (L_prime_powers_1 γ))
    (R_prime_powers_1 γ)))
def L_prime_powers_2 (γ : Str → Addr) : Env → M Fl :=
  (sSeq (sIf (gV (bind2 (bind2 (bVar 3) (bVar 3) mulD) (bVar 2) gtD)) (sSeq (sSet slE 3 (eVar 2))
    sNil) sNil)
    (R_prime_powers_2 γ))
def T_prime_powers_2 (γ : Str → Addr) : Env → M Bool :=
  (gV (bind2 (bVar 2) (eC (.int 1)) gtD))
def R_prime_powers_3 (γ : Str → Addr) : Env → M Fl :=
  (sSeq (sRet (bindA (aCons (bVar 1) aNil) tupleD))
    sNil)
def B_prime_powers (γ : Str → Addr) : Env → M Fl :=
  (sSeq (sDrop (vCall 3 (S_check_number γ) (aCons (eVar 0) (aCons (eC (.int 1)) (aCons (bind2 (eC (.int 10)) (eC (.int 6)) powD) aNil)))))
    (sSeq (sPar3 slN slE slE 1 2 3 (eLst aNil) (eVar 0) (eC (.int 2)))
    (sSeq (sWhile (T_prime_powers_2 γ) (L_prime_powers_2 γ))
    (R_prime_powers_3 γ))))
def S_prime_powers (γ : Str → Addr) : List D → M D := fun ds => retD (B_prime_powers γ (startE N_prime_powers ds))
def N_known_most : List Str := ["group", "primes", "good", "prime", "power"]
def R_known_most_1 (γ : Str → Addr) : Env → M Fl :=
  (sSeq (sRet (eC .non))
    sNil)
def R_known_most_2 (γ : Str → Addr) : Env → M Fl :=
  (sSeq (sIf (gV (bind2 (eC (.int 3)) (bVar 1) inD)) (sSeq (sRet (bind2 (bind1 (bVar 0) (fldC (γ "Group") "size")) (eC (.int 3)) fdivD))
    sNil) sNil)
    (R_known_most_1 γ))
def B_known_most (γ : Str → Addr) : Env → M Fl :=
  (sSeq (sSet slE 1 (vIf (gV (bind2 (bind1 (bVar 0) (fldC (γ "Group") "size")) (eC (.int 1)) gtD)) (vLc (iterD (vCall 1 (S_prime_powers γ) (aCons (bind1 (bVar 0) (fldC (γ "Group") "size")) aNil))) (gTu 2 (gCo (gNm 3) (gCo (gNm 4) gNo))) cYes (eVar 3) [3, 4]) (eLst aNil)))
    (sSeq (sSet slN 2 (vLc (iterD (bVar 1)) (gNm 3) (gV (bind2 (bind2 (bindA (aCons (bVar 3) aNil) toIntD) (eC (.int 3)) modD) (eC (.int 2)) eqD)) (eVar 3) [3]))
    (sFrz 2 (sSeq (sIf (gV (bind2 (bVar 2) (eLst aNil) neD)) (sSeq (sRet (bind2 (bind2 (bind1 (bVar 0) (fldC (γ "Group") "size")) (bind2 (bind2 (bVar 2) (eC (.int 0)) ixD) (eC (.int 1)) addD) mulD) (bind2 (eC (.int 3)) (bind2 (bVar 2) (eC (.int 0)) ixD) mulD) fdivD))
    sNil) sNil)
    (R_known_most_2 γ)))))
def S_known_most (γ : Str → Addr) : List D → M D := fun ds => retD (B_known_most γ (startE N_known_most ds))
def N_is_row : List Str := ["thing"]
def B_is_row (γ : Str → Addr) : Env → M Fl :=
  (sSeq (sRet (bind1 (bVar 0) (isi2D .lst .tup)))
    sNil)
def S_is_row (γ : Str → Addr) : List D → M D := fun ds => retD (B_is_row γ (startE N_is_row ds))
def N_Group___init__ : List Str := ["self", "rounds", "one", "size"]
def L_Group___init___1 (γ : Str → Addr) : Env → M Fl :=
  (sSeq (sSet slE 3 (bind2 (bVar 3) (bVar 2) mulD))
    sNil)
def R_Group___init___1 (γ : Str → Addr) : Env → M Fl :=
  (sSeq (sFld2 (γ "Group") 0 "rounds" "size" (eTup (aCons (bindA (aCons (bVar 1) aNil) tupleD) (aCons (eVar 3) aNil))))
    sNil)
def R_Group___init___2 (γ : Str → Addr) : Env → M Fl :=
  (sSeq (sIf (gV (bind2 (bVar 3) (eC (.int 64)) gtD)) (sSeq (fun _ => .stuck)
    sNil) sNil)
    (R_Group___init___1 γ))
def R_Group___init___3 (γ : Str → Addr) : Env → M Fl :=
  (sSeq (sSet slE 3 (eC (.int 1)))
    (sSeq (sFor (iterD (eVar 1)) (gNm 2) (L_Group___init___1 γ))
    (R_Group___init___2 γ)))
def R_Group___init___4 (γ : Str → Addr) : Env → M Fl :=
  (sSeq (sIf (tNotD (gV (bindA (aCons (vLc (iterD (bVar 1)) (gNm 2) cYes (vCall 3 (S_is_within γ) (aCons (eVar 2) (aCons (eC (.int 1)) (aCons (eC (.int 64)) aNil)))) [2]) aNil) allD))) (sSeq (fun _ => .stuck)
    sNil) sNil)
    (R_Group___init___3 γ))
def B_Group___init__ (γ : Str → Addr) : Env → M Fl :=
  (sSeq (sIf (tOrD (tNotD (gV (vCall 1 (S_is_row γ) (aCons (eVar 1) aNil)))) (tNotD (gV (chain (eC (.int 1)) (bindA (aCons (bVar 1) aNil) lenD) (eC (.int 6)) leD leD)))) (sSeq (fun _ => .stuck)
    sNil) sNil)
    (R_Group___init___4 γ))
def S_Group___init__ (γ : Str → Addr) : List D → M D := fun ds => ⟨fun Q E => ∀ y, (retI y (B_Group___init__ γ (startI y (γ "Group") N_Group___init__ ds))).wp Q E, fun h h' q y => (retI y _).mono h h' (q y)⟩
def N__law_plus : List Str := ["rounds", "one", "other", "a", "b", "hours"]
def B__law_plus (γ : Str → Addr) : Env → M Fl :=
  (sSeq (sRet (bindA (aCons (vLc (fun env => ((aCons (bVar 1) (aCons (bVar 2) (aCons (bVar 0) aNil))) env).bind zip3D) (gTu 3 (gCo (gNm 3) (gCo (gNm 4) (gCo (gNm 5) gNo)))) cYes (bind2 (bindA (aCons (bind2 (bVar 3) (bVar 4) addD) aNil) toIntD) (bVar 5) modD) [3, 4, 5]) aNil) tupleD))
    sNil)
def S__law_plus (γ : Str → Addr) : List D → M D := fun ds => retD (B__law_plus γ (startE N__law_plus ds))
def N__law_has_sum : List Str := ["rounds", "lot", "at", "one", "other", "both"]
def L__law_has_sum_1 (γ : Str → Addr) : Env → M Fl :=
  (sSeq (sSet slE 5 (vCall 3 (S__law_plus γ) (aCons (eVar 0) (aCons (eVar 3) (aCons (eVar 4) aNil)))))
    (sSeq (sIf (gV (bind2 (bVar 5) (bVar 1) inD)) (sSeq (sRet (eTup (aCons (eVar 3) (aCons (eVar 4) (aCons (eVar 5) aNil)))))
    sNil) sNil)
    sNil))
def L__law_has_sum_2 (γ : Str → Addr) : Env → M Fl :=
  (sSeq (sFor (iterD (vSl (bVar 1) (oSome (bVar 2)) oNone)) (gNm 4) (L__law_has_sum_1 γ))
    sNil)
def R__law_has_sum_1 (γ : Str → Addr) : Env → M Fl :=
  (sSeq (sRet (eC .non))
    sNil)
def B__law_has_sum (γ : Str → Addr) : Env → M Fl :=
  (sSeq (sFor (fun env => ((aCons (eVar 1) aNil) env).bind enumD) (gTu 2 (gCo (gNm 2) (gCo (gNm 3) gNo))) (L__law_has_sum_2 γ))
    (R__law_has_sum_1 γ))
def S__law_has_sum (γ : Str → Addr) : List D → M D := fun ds => retD (B__law_has_sum γ (startE N__law_has_sum ds))
def N__law_is : List Str := ["thing", "due"]
def B__law_is (γ : Str → Addr) : Env → M Fl :=
  (sSeq (sRet (bind2 (bindA (aCons (bVar 0) aNil) reprD) (bindA (aCons (bVar 1) aNil) reprD) eqD))
    sNil)
def S__law_is (γ : Str → Addr) : List D → M D := fun ds => retD (B__law_is γ (startE N__law_is ds))
def N_is_element : List Str := ["group", "thing", "one", "number"]
def R_is_element_1 (γ : Str → Addr) : Env → M Fl :=
  (sSeq (sRet (bindA (aCons (vLc (fun env => ((aCons (bVar 1) (aCons (bind1 (bVar 0) (fldC (γ "Group") "rounds")) aNil)) env).bind zip2D) (gTu 2 (gCo (gNm 2) (gCo (gNm 3) gNo))) cYes (vCall 3 (S_is_within γ) (aCons (eVar 2) (aCons (eC (.int 0)) (aCons (bind2 (bVar 3) (eC (.int 1)) subD) aNil)))) [2, 3]) aNil) allD))
    sNil)
def B_is_element (γ : Str → Addr) : Env → M Fl :=
  (sSeq (sIf (tOrD (tNotD (gV (bind1 (bVar 1) (isiD .tup)))) (gV (bind2 (bindA (aCons (bVar 1) aNil) lenD) (bindA (aCons (bind1 (bVar 0) (fldC (γ "Group") "rounds")) aNil) lenD) neD))) (sSeq (sRet (eC (.bl false)))
    sNil) sNil)
    (R_is_element_1 γ))
def S_is_element (γ : Str → Addr) : List D → M D := fun ds => retD (B_is_element γ (startE N_is_element ds))
def N_is_lot : List Str := ["group", "thing", "one", "other"]
def R_is_lot_1 (γ : Str → Addr) : Env → M Fl :=
  (sSeq (sRet (bindA (aCons (vLc (fun env => ((aCons (bVar 1) (aCons (vSl (bVar 1) (oSome (eC (.int 1))) oNone) aNil)) env).bind zip2D) (gTu 2 (gCo (gNm 2) (gCo (gNm 3) gNo))) cYes (bind2 (bVar 2) (bVar 3) ltD) [2, 3]) aNil) allD))
    sNil)
def B_is_lot (γ : Str → Addr) : Env → M Fl :=
  (sSeq (sIf (tOrD (tNotD (gV (bind1 (bVar 1) (isiD .tup)))) (tNotD (gV (bindA (aCons (vLc (iterD (bVar 1)) (gNm 2) cYes (vCall 2 (S_is_element γ) (aCons (eVar 0) (aCons (eVar 2) aNil))) [2]) aNil) allD)))) (sSeq (sRet (eC (.bl false)))
    sNil) sNil)
    (R_is_lot_1 γ))
def S_is_lot (γ : Str → Addr) : List D → M D := fun ds => retD (B_is_lot γ (startE N_is_lot ds))
def N_check_lot : List Str := ["group", "lot"]
def B_check_lot (γ : Str → Addr) : Env → M Fl :=
  (sSeq (sIf (tNotD (gV (vCall 2 (S_is_lot γ) (aCons (eVar 0) (aCons (eVar 1) aNil))))) (sSeq (fun _ => .stuck)
    sNil) sNil)
    sNil)
def S_check_lot (γ : Str → Addr) : List D → M D := fun ds => retD (B_check_lot γ (startE N_check_lot ds))
def N_add : List Str := ["group", "one", "other", "mine", "its", "number"]
def B_add (γ : Str → Addr) : Env → M Fl :=
  (sSeq (sRet (bindA (aCons (vLc (fun env => ((aCons (bVar 1) (aCons (bVar 2) (aCons (bind1 (bVar 0) (fldC (γ "Group") "rounds")) aNil))) env).bind zip3D) (gTu 3 (gCo (gNm 3) (gCo (gNm 4) (gCo (gNm 5) gNo)))) cYes (bind2 (bindA (aCons (bind2 (bVar 3) (bVar 4) addD) aNil) toIntD) (bVar 5) modD) [3, 4, 5]) aNil) tupleD))
    sNil)
def S_add (γ : Str → Addr) : List D → M D := fun ds => retD (B_add γ (startE N_add ds))
def N_has_sum : List Str := ["group", "lot", "at", "one", "other"]
def L_has_sum_1 (γ : Str → Addr) : Env → M Fl :=
  (sSeq (sIf (gV (bind2 (vCall 3 (S_add γ) (aCons (eVar 0) (aCons (eVar 3) (aCons (eVar 4) aNil)))) (bVar 1) inD)) (sSeq (sRet (eTup (aCons (eVar 3) (aCons (eVar 4) (aCons (vCall 3 (S_add γ) (aCons (eVar 0) (aCons (eVar 3) (aCons (eVar 4) aNil)))) aNil)))))
    sNil) sNil)
    sNil)
def L_has_sum_2 (γ : Str → Addr) : Env → M Fl :=
  (sSeq (sFor (iterD (vSl (bVar 1) (oSome (bVar 2)) oNone)) (gNm 4) (L_has_sum_1 γ))
    sNil)
def R_has_sum_1 (γ : Str → Addr) : Env → M Fl :=
  (sSeq (sRet (eC .non))
    sNil)
def B_has_sum (γ : Str → Addr) : Env → M Fl :=
  (sSeq (sDrop (vCall 2 (S_check_lot γ) (aCons (eVar 0) (aCons (eVar 1) aNil))))
    (sSeq (sFor (fun env => ((aCons (eVar 1) aNil) env).bind enumD) (gTu 2 (gCo (gNm 2) (gCo (gNm 3) gNo))) (L_has_sum_2 γ))
    (R_has_sum_1 γ)))
def S_has_sum (γ : Str → Addr) : List D → M D := fun ds => retD (B_has_sum γ (startE N_has_sum ds))
def N_is_sum_free : List Str := ["group", "thing"]
def B_is_sum_free (γ : Str → Addr) : Env → M Fl :=
  (sSeq (sRet (vAnd (vCall 2 (S_is_lot γ) (aCons (eVar 0) (aCons (eVar 1) aNil))) (bind2 (vCall 2 (S_has_sum γ) (aCons (eVar 0) (aCons (eVar 1) aNil))) (eC .non) isNonD)))
    sNil)
def S_is_sum_free (γ : Str → Addr) : List D → M D := fun ds => retD (B_is_sum_free γ (startE N_is_sum_free ds))
def N_can_take : List Str := ["group", "lot", "one", "more", "other", "here"]
def L_can_take_1 (γ : Str → Addr) : Env → M Fl :=
  (sSeq (sIf (tOrD (gV (bind2 (vCall 3 (S_add γ) (aCons (eVar 0) (aCons (eVar 2) (aCons (eVar 4) aNil)))) (bVar 3) inD)) (gV (bind2 (vCall 3 (S_add γ) (aCons (eVar 0) (aCons (eVar 4) (aCons (eVar 4) aNil)))) (bVar 2) eqD))) (sSeq (sRet (eC (.bl false)))
    sNil) sNil)
    sNil)
def L_can_take_2 (γ : Str → Addr) : Env → M Fl :=
  (sSeq (sIf (gV (bindA (aCons (vLc (iterD (bVar 1)) (gNm 5) cYes (bind2 (vCall 3 (S_add γ) (aCons (eVar 0) (aCons (eVar 4) (aCons (eVar 5) aNil)))) (bVar 2) eqD) [5]) aNil) anyD)) (sSeq (sRet (eC (.bl false)))
    sNil) sNil)
    sNil)
def R_can_take_1 (γ : Str → Addr) : Env → M Fl :=
  (sSeq (sRet (eC (.bl true)))
    sNil)
def R_can_take_2 (γ : Str → Addr) : Env → M Fl :=
  (sSeq (sFor (iterD (eVar 1)) (gNm 4) (L_can_take_2 γ))
    (R_can_take_1 γ))
def R_can_take_3 (γ : Str → Addr) : Env → M Fl :=
  (sSeq (sFor (iterD (eVar 1)) (gNm 4) (L_can_take_1 γ))
    (R_can_take_2 γ))
def B_can_take (γ : Str → Addr) : Env → M Fl :=
  (sSeq (sSet slE 3 (bind2 (bVar 1) (eTup (aCons (eVar 2) aNil)) addD))
    (sSeq (sIf (gV (bind2 (vCall 3 (S_add γ) (aCons (eVar 0) (aCons (eVar 2) (aCons (eVar 2) aNil)))) (bVar 3) inD)) (sSeq (sRet (eC (.bl false)))
    sNil) sNil)
    (R_can_take_3 γ)))
def S_can_take (γ : Str → Addr) : List D → M D := fun ds => retD (B_can_take γ (startE N_can_take ds))
def N_members : List Str := ["group", "found", "number", "longer", "row", "one"]
def L_members_1 (γ : Str → Addr) : Env → M Fl :=
  (sSeq (sExtend 3 (vLc (fun env => ((aCons (bVar 2) aNil) env).bind iRange1D) (gNm 5) cYes (bind2 (bVar 4) (eTup (aCons (eVar 5) aNil)) addD) [5]))
    sNil)
def R_members_1 (γ : Str → Addr) : Env → M Fl :=
  (sFrz 3 (sSeq (sSet slE 1 (eVar 3))
    sNil))
def L_members_2 (γ : Str → Addr) : Env → M Fl :=
  (sSeq (sSet slN 3 (eLst aNil))
    (sSeq (sFor (iterD (eVar 1)) (gNm 4) (L_members_1 γ))
    (R_members_1 γ)))
def R_members_2 (γ : Str → Addr) : Env → M Fl :=
  (sSeq (sRet (bindA (aCons (bVar 1) aNil) tupleD))
    sNil)
def B_members (γ : Str → Addr) : Env → M Fl :=
  (sSeq (sSet slE 1 (eLst (aCons (eTup aNil) aNil)))
    (sSeq (sFor (iterD (bind1 (bVar 0) (fldC (γ "Group") "rounds"))) (gNm 2) (L_members_2 γ))
    (R_members_2 γ)))
def S_members (γ : Str → Addr) : List D → M D := fun ds => retD (B_members γ (startE N_members ds))
def N_is_full : List Str := ["group", "lot", "one"]
def R_is_full_1 (γ : Str → Addr) : Env → M Fl :=
  (sSeq (sRet (vNot (bindA (aCons (vLc (iterD (vCall 1 (S_members γ) (aCons (eVar 0) aNil))) (gNm 2) cYes (vAnd (bind2 (bVar 2) (bVar 1) notInD) (nE (vCall 3 (S_can_take γ) (aCons (eVar 0) (aCons (eVar 1) (aCons (eVar 2) aNil)))))) [2]) aNil) anyD)))
    sNil)
def B_is_full (γ : Str → Addr) : Env → M Fl :=
  (sSeq (sIf (tNotD (gV (vCall 2 (S_is_sum_free γ) (aCons (eVar 0) (aCons (eVar 1) aNil))))) (sSeq (sRet (eC (.bl false)))
    sNil) sNil)
    (R_is_full_1 γ))
def S_is_full (γ : Str → Addr) : List D → M D := fun ds => retD (B_is_full γ (startE N_is_full ds))
def N_law : List Str := ["script", "hand", "turn", "rounds", "group", "some", "lot", "known", "part", "free", "tried", "rest", "more", "first", "one"]
def R_law_1 (γ : Str → Addr) : Env → M Fl :=
  (sSeq (sIf (tAndD (gV (bind2 (bVar 13) (eC .non) notNonD)) (gV (bind2 (vCall 2 (S_is_full γ) (aCons (eVar 4) (aCons (eVar 12) aNil))) (eC (.bl false)) notNonD))) (sSeq (sRet (eC (.bl false)))
    sNil) sNil)
    sNil)
def R_law_2 (γ : Str → Addr) : Env → M Fl :=
  (sSeq (sSet slN 11 (vLc (iterD (bVar 5)) (gNm 14) (gV (bind2 (bVar 14) (bVar 9) notInD)) (eVar 14) [14]))
    (sFrz 11 (sSeq (sIf (gV (bind2 (bVar 11) (eLst aNil) neD)) (sSeq (sSet slE 12 (bindA (aCons (bindA (aCons (bind2 (bVar 9) (eTup (aCons (vCall 2 (S__law_any γ) (aCons (eVar 1) (aCons (eVar 11) aNil))) aNil)) addD) aNil) sortedD) aNil) tupleD))
    (sSeq (sSet slE 13 (vCall 2 (S__law_has_sum γ) (aCons (eVar 3) (aCons (eVar 12) aNil))))
    (sSeq (sIf (tNotD (gV (vCall 2 (S__law_is γ) (aCons (eLst (aCons (vCall 2 (S_has_sum γ) (aCons (eVar 4) (aCons (eVar 12) aNil))) (aCons (vCall 2 (S_is_sum_free γ) (aCons (eVar 4) (aCons (eVar 12) aNil))) aNil))) (aCons (eLst (aCons (eVar 13) (aCons (bind2 (bVar 13) (eC .non) isNonD) aNil))) aNil))))) (sSeq (sRet (eC (.bl false)))
    sNil) sNil)
    (R_law_1 γ)))) sNil)
    sNil)))
def L_law_1 (γ : Str → Addr) : Env → M Fl :=
  (sSeq (sSet slN 10 (vLc (iterD (bVar 5)) (gNm 14) (gV (bind2 (bVar 14) (bVar 9) notInD)) (vCall 2 (S__law_has_sum γ) (aCons (eVar 3) (aCons (bindA (aCons (bindA (aCons (bind2 (bVar 9) (eTup (aCons (eVar 14) aNil)) addD) aNil) sortedD) aNil) tupleD) aNil))) [14]))
    (sFrz 10 (sSeq (sIf (tNotD (gV (vCall 2 (S__law_is γ) (aCons (vCall 2 (S_is_full γ) (aCons (eVar 4) (aCons (eVar 9) aNil))) (aCons (bind2 (eC .non) (bVar 10) notInD) aNil))))) (sSeq (sRet (eC (.bl false)))
    sNil) sNil)
    (R_law_2 γ))))
def R_law_3 (γ : Str → Addr) : Env → M Fl :=
  (sSeq (sSet slE 8 (bindA (aCons (vLc (iterD (bVar 6)) (gNm 14) (gV (bind2 (vCall 2 drawD (aCons (eVar 1) (aCons (eC (.int 4)) aNil))) (eC (.int 0)) gtD)) (eVar 14) [14]) aNil) tupleD))
    (sSeq (sFor (iterD (eTup (aCons (eVar 6) (aCons (eVar 8) aNil)))) (gNm 9) (L_law_1 γ))
    sNil))
def R_law_4 (γ : Str → Addr) : Env → M Fl :=
  (sSeq (sSet slE 7 (vCall 1 (S_known_most γ) (aCons (eVar 4) aNil)))
    (sSeq (sIf (tAndD (gV (bind2 (bVar 7) (eC .non) notNonD)) (gV (bind2 (bindA (aCons (bVar 6) aNil) lenD) (bVar 7) gtD))) (sSeq (sRet (eC (.bl false)))
    sNil) sNil)
    (R_law_3 γ)))
def R_law_5 (γ : Str → Addr) : Env → M Fl :=
  (sSeq (sIf (tNotD (gV (vCall 2 (S__law_is γ) (aCons (eLst (aCons (vCall 2 (S_is_sum_free γ) (aCons (eVar 4) (aCons (eVar 6) aNil))) (aCons (vCall 2 (S_has_sum γ) (aCons (eVar 4) (aCons (eVar 6) aNil))) aNil))) (aCons (eLst (aCons (eC (.bl true)) (aCons (eC .non) aNil))) aNil))))) (sSeq (sRet (eC (.bl false)))
    sNil) sNil)
    (R_law_4 γ))
def L_law_2 (γ : Str → Addr) : Env → M Fl :=
  (sSeq (sSet slE 3 (vCall 2 (S__law_rounds γ) (aCons (eVar 1) (aCons (eC (.int 64)) aNil))))
    (sSeq (sPar slE slE 4 5 (vCall 1 (S_Group___init__ γ) (aCons (eVar 3) aNil)) (vCall 1 (S__law_members γ) (aCons (eVar 3) aNil)))
    (sSeq (sSet slE 6 (vCall 2 (S__law_made γ) (aCons (eVar 1) (aCons (eVar 3) aNil))))
    (sSeq (sIf (gV (bind2 (vCall 2 (S__law_has_sum γ) (aCons (eVar 3) (aCons (eVar 6) aNil))) (eC .non) notNonD)) (sSeq (sRet (eC (.bl false)))
    sNil) sNil)
    (R_law_5 γ)))))
def R_law_6 (γ : Str → Addr) : Env → M Fl :=
  (sSeq (sRet (eC (.bl true)))
    sNil)
def B1_law (γ : Str → Addr) : Env → M Fl := (sSet slN 1 (vCall 1 (S__law_hand γ) (aCons (eVar 0) aNil)))
def B2_law (γ : Str → Addr) : Env → M Fl :=
  (sSeq (sFor (fun env => ((aCons (eC (.int 3)) aNil) env).bind iRange1D) (gNm 2) (L_law_2 γ))
    (R_law_6 γ))

theorem pl_draw1 (γ : Str → Addr) {a : Addr} {many : Int} (h0 : 0 < many) (h1 : many < 2 ^ 4000) : ∀ env, DrSt a many env → retDr a many (R__law_draw_1 γ env) := by
  rintro _ ⟨cells, p, l, m, n, x, y, z, rfl, hp⟩
  unfold retDr R__law_draw_1
  refine s_go rfl ?_
  refine s_go ⟨mul_n 7919 (by decide) (by decide), mul_r 48271 (by decide) (by decide), by decide, rfl⟩ ?_
  refine s_go ⟨⟨by decide, by decide +kernel⟩, mul_l (by decide) (by decide), by decide, rfl⟩ ?_
  refine s_go ⟨⟨by decide, by decide +kernel⟩, mul_l (by decide) (by decide), by decide, rfl⟩ ?_
  refine s_retE ⟨⟨by decide, by decide +kernel⟩, h0, ?_⟩
  exact ⟨Int.emod_nonneg _ (by omega), Int.emod_lt_of_pos _ h0, cells, _, _, _, _, rfl, hp⟩
theorem pl_draw2 (γ : Str → Addr) {a : Addr} {many : Int} (h0 : 0 < many) (h1 : many < 2 ^ 4000) : ∀ env, DrSt a many env → retDr a many (R__law_draw_2 γ env) := by
  rintro _ ⟨cells, p, l, m, n, x, y, z, rfl, hp⟩
  unfold retDr R__law_draw_2
  refine s_ifIs rfl (fun e1 => ?_) fun e1 => ?_
  · refine s_assoc (s_go ⟨h0, rfl⟩ ?_)
    refine s_assoc (s_go ⟨div_many h0 h1, rfl⟩ ?_)
    refine s_assoc (s_retE ?_)
    exact ⟨Int.emod_nonneg _ (by omega), Int.emod_lt_of_pos _ h0, cells, _, _, _, _, rfl, hp⟩
  · exact s_nil (pl_draw1 γ h0 h1 _ ⟨cells, p, l, m, n, x, y, z, rfl, hp⟩)
theorem pl_draw (γ : Str → Addr) : ∀ a cells p l m n many, 0 ≤ p → 0 < many → many < 2 ^ 4000 → retDr a many (B__law_draw γ (startDr a N__law_draw cells p l m n many)) := by
  intro a cells p l m n many hp h0 h1
  unfold retDr B__law_draw
  have z : DrSt a many (startDr a N__law_draw cells p l m n many) := ⟨cells, p, l, m, n, .no, .no, .no, rfl, hp⟩
  refine s_if (t_and ⟨⟨rfl, rfl⟩, rfl⟩ (fun e1 => ?_) fun e1 => ⟨fun z => (by cases z), fun _ => s_nil (pl_draw2 γ h0 h1 _ z)⟩)
  refine Is.wp (a := decide (p < ((cells.map D.int).length : Nat))) rfl ⟨fun e2 => ?_, fun _ => s_nil (pl_draw2 γ h0 h1 _ z)⟩
  have e2 := of_decide_eq_true e2
  obtain ⟨c, hc⟩ := atI_map (l := cells) (i := p) hp (by simpa using e2)
  refine s_assoc (s_go (env' := [Slot.own (.lstA a [.scr (cells.map D.int), .int p, .int l, .int m, .int n]), Slot.frz (.int many), .frz (.int c), .no, .no]) (w_ofE hc rfl) ?_)
  refine s_assoc (s_go rfl ?_)
  refine s_assoc (s_go ⟨mul_r 69621 (by decide) (by decide), mul_r 40692 (by decide) (by decide), by decide, rfl⟩ ?_)
  refine s_assoc (s_ifIs ⟨⟨by decide, by decide, by decide⟩, rfl⟩ (fun e3 => ?_) fun e3 => ?_)
  · refine s_assoc (s_go rfl ?_)
    exact s_nil (s_nil (pl_draw2 γ h0 h1 _ ⟨cells, p + 1, _, _, _, _, _, _, rfl, by omega⟩))
  · exact s_nil (s_nil (pl_draw2 γ h0 h1 _ ⟨cells, p + 1, _, _, _, _, _, _, rfl, by omega⟩))

/-! ### what each def comes to -/
theorem is_integer_int (γ : Str → Addr) (i : Int) : (S_is_integer γ [.int i]).Is (.bl true) := rfl
theorem is_within_int (γ : Str → Addr) (i lo hi : Int) : (S_is_within γ [.int i, .int lo, .int hi]).Is (.bl (decide (lo ≤ i ∧ i ≤ hi))) := by
  refine ⟨rfl, w_if (fun e => ?_) fun e => ?_⟩
  · have e := of_decide_eq_true e
    show D.bl (decide (i ≤ hi)) = _
    simp [e]
  · have e := of_decide_eq_false e
    show D.bl false = _
    simp [e]
theorem check_number_ok (γ : Str → Addr) {i lo hi : Int} (h : lo ≤ i ∧ i ≤ hi) : (S_check_number γ [.int i, .int lo, .int hi]).Is .non := by
  refine ret_wp (m := B_check_number γ _) ?_
  unfold B_check_number
  refine s_ifF (d_not (x := true) ⟨rfl, Is.wp (is_within_int γ i lo hi) (show decide _ = true from decide_eq_true h)⟩) ?_
  exact s_nil (s_end rfl)
theorem is_row_tup (γ : Str → Addr) (l : List D) : (S_is_row γ [.tup l]).Is (.bl true) := rfl
theorem is_row_lst (γ : Str → Addr) (l : List D) : (S_is_row γ [.lst l]).Is (.bl true) := rfl
theorem is_row_int (γ : Str → Addr) (i : Int) : (S_is_row γ [.int i]).Is (.bl false) := rfl

/-! #### groups -/
structure OkRounds (R : List Int) : Prop where
  len : 1 ≤ R.length ∧ R.length ≤ 6
  pos : ∀ r ∈ R, 1 ≤ r ∧ r ≤ 64
  size : prodI R ≤ 64
theorem fold_one {α β : Type} (f : α → β → α) (a : α) (l : List β) (b : β) : (l ++ [b]).foldl f a = f (l.foldl f a) b := by
  rw [List.foldl_append]; rfl
theorem group_made (γ : Str → Addr) {R : List Int} (h : OkRounds R) : (S_Group___init__ γ [tpI R]).Is (grp γ R) := by
  intro y
  refine retI_wp ?_
  unfold B_Group___init__
  refine s_ifF (d_or (x := false) (y := false) (d_not (x := true) ⟨rfl, rfl⟩) fun _ => d_not (x := true) (d_gV ?_)) ?_
  · have e : (true : Bool) = (decide ((1 : Int) ≤ ((R.map D.int).length : Nat)) && decide (((R.map D.int).length : Int) ≤ 6)) := by
      rw [List.length_map, decide_eq_true (show (1 : Int) ≤ (R.length : Nat) by have := h.len; omega), decide_eq_true (show ((R.length : Nat) : Int) ≤ 6 by have := h.len; omega)]; rfl
    rw [e]
    exact d_chain (x := .int 1) (y := .int ((R.map D.int).length : Nat)) (w := .int 6) rfl rfl rfl fun _ => ⟨rfl, rfl⟩
  refine s_nil ?_
  unfold R_Group___init___4
  refine s_ifF (d_not (x := true) (d_gV ?_)) ?_
  · have e : (true : Bool) = ((R.map fun r => decide ((1 : Int) ≤ r ∧ r ≤ 64)).all id) := by
      symm
      rw [List.all_map, List.all_eq_true]
      exact fun r hr => decide_eq_true (h.pos r hr)
    rw [e]
    refine d_all ?_
    rw [List.map_map]
    refine vLc_all D.int R _ rfl (by have := h.len; omega) fun r hr => ⟨_, rfl, ?_⟩
    exact d_call (xs := [.int r, .int 1, .int 64]) rfl (is_within_int γ r 1 64)
  refine s_nil ?_
  unfold R_Group___init___3
  refine s_go rfl ?_
  refine s_fold D.int R (fun (n : Int) env => ∃ o, env = [Slot.own (.insA y (γ "Group") [] []), .frz (tpI R), o, .frz (.int n)]) 1 (· * ·) rfl ⟨_, rfl⟩ (fun n r env hr ⟨o, e⟩ => ?_) fun env ⟨o, e⟩ => ?_
  · subst e
    refine ⟨_, rfl, ?_⟩
    unfold L_Group___init___1
    exact s_go ⟨.inl (.inr (by have := h.pos r hr; omega)), rfl⟩ (s_end ⟨_, rfl⟩)
  · subst e
    unfold R_Group___init___2
    refine s_ifF (d_gV (show D.bl (decide (64 < prodI R)) = .bl false by rw [decide_eq_false (by have := h.size; omega)])) (s_nil ?_)
    unfold R_Group___init___1
    refine s_go ⟨zl 2, rfl, rfl⟩ (s_end ⟨_, _, _, rfl, rfl⟩)

theorem fld_rounds (γ : Str → Addr) (R : List Int) : (fldC (γ "Group") "rounds" (grp γ R)).Is (tpI R) := ⟨⟨_, _, rfl⟩, rfl⟩
theorem fld_size (γ : Str → Addr) (R : List Int) : (fldC (γ "Group") "size" (grp γ R)).Is (.int (prodI R)) := ⟨⟨_, _, rfl⟩, rfl⟩
theorem is_element_ok (γ : Str → Addr) (R : List Int) (x : El) (hR : R.length ≤ 6) : (S_is_element γ [grp γ R, tpI x]).Is (.bl (inG R x)) := by
  refine ret_wp (m := B_is_element γ _) ?_
  unfold B_is_element
  refine s_ifIs (b := !decide (x.length = R.length)) (d_or (x := false) (d_not (x := true) (d_gV rfl)) fun _ => d_gV ?_) (fun e => ?_) fun e => ?_
  · refine d_op (x := .int ((x.map D.int).length : Nat)) (y := .int ((R.map D.int).length : Nat)) rfl (d_fn (a1 (d_un rfl (fld_rounds γ R))) rfl) ⟨⟨rfl, rfl⟩, ?_⟩
    show D.bl (!deq _ _) = _
    rw [deq_int, List.length_map, List.length_map]
    congr 2
    exact decide_eq_decide.mpr (by omega)
  · have e : x.length ≠ R.length := by simpa using e
    rw [inG_len_ne e]
    exact s_assoc (s_ret rfl)
  · have e : x.length = R.length := by simpa using e
    refine s_nil ?_
    unfold R_is_element_1
    refine s_ret ?_
    rw [← inG_zip R x e]
    refine Is.wp (d_all ?_) rfl
    rw [List.map_map]
    refine vLc_all e2 (x.zip R) _ ?_ (by rw [List.length_zip]; omega) fun t ht => ⟨_, ⟨rfl, rfl⟩, ?_⟩
    · refine d_it (xs := [tpI x, tpI R]) (a_c rfl (a1 (d_un (x := grp γ R) rfl (fld_rounds γ R)))) ?_
      show zip2L (x.map D.int) (R.map D.int) = _
      exact zip2_ints x R
    · exact d_call (xs := [.int t.1, .int 0, .int (t.2 - 1)]) rfl (is_within_int γ t.1 0 (t.2 - 1))
theorem add_ok (γ : Str → Addr) (R : List Int) (x y : El) (hR : OkRounds R) : (S_add γ [grp γ R, tpI x, tpI y]).Is (tpI (addZ R x y)) := by
  refine ret_wp (m := B_add γ _) ?_
  unfold B_add
  refine s_ret ?_
  have e : tpI (addZ R x y) = .tup ((z3 x y R).map fun t => .int ((t.1 + t.2.1) % t.2.2)) := by
    rw [← addZ_z3]; show D.tup _ = _; rw [List.map_map]; rfl
  rw [e]
  refine Is.wp (d_tupleL ?_) rfl
  refine vLc_all e3 (z3 x y R) _ ?_ (by have := z3_len R x y; have := hR.len; omega) fun t ht => ⟨_, ⟨rfl, rfl⟩, ?_⟩
  · refine d_it (xs := [tpI x, tpI y, tpI R]) (a_c rfl (a_c rfl (a1 (d_un (x := grp γ R) rfl (fld_rounds γ R))))) ?_
    show zip3L (x.map D.int) (y.map D.int) (R.map D.int) = _
    exact zip3_ints x y R
  · exact ⟨by have := (hR.pos _ (z3_mem ht)).1; omega, rfl⟩
theorem law_plus_ok (γ : Str → Addr) (R : List Int) (x y : El) (hR : OkRounds R) : (S__law_plus γ [tpI R, tpI x, tpI y]).Is (tpI (addZ R x y)) := by
  refine ret_wp (m := B__law_plus γ _) ?_
  unfold B__law_plus
  refine s_ret ?_
  have e : tpI (addZ R x y) = .tup ((z3 x y R).map fun t => .int ((t.1 + t.2.1) % t.2.2)) := by
    rw [← addZ_z3]; show D.tup _ = _; rw [List.map_map]; rfl
  rw [e]
  refine Is.wp (d_tupleL ?_) rfl
  refine vLc_all e3 (z3 x y R) _ (zip3_ints x y R) (by have := z3_len R x y; have := hR.len; omega) fun t ht => ⟨_, ⟨rfl, rfl⟩, ?_⟩
  exact ⟨by have := (hR.pos _ (z3_mem ht)).1; omega, rfl⟩
theorem is_lot_ok (γ : Str → Addr) (R : List Int) (l : List El) (hR : R.length ≤ 6) (hl : l.length ≤ 1000) : (S_is_lot γ [grp γ R, lot l]).Is (.bl (isLot R l)) := by
  refine ret_wp (m := B_is_lot γ _) ?_
  unfold B_is_lot isLot
  refine s_ifIs (b := !(l.map (inG R)).all id) (d_or (x := false) (d_not (x := true) (d_gV rfl)) fun _ => d_not (d_gV (d_all ?_))) (fun e => ?_) fun e => ?_
  · rw [List.map_map]
    exact vLc_all tpI l _ rfl (by omega) fun x hx => ⟨_, rfl, d_call (xs := [grp γ R, tpI x]) rfl (is_element_ok γ R x hR)⟩
  · have e : (l.map (inG R)).all id = false := by simpa using e
    rw [e]
    exact s_assoc (s_ret rfl)
  · have e : (l.map (inG R)).all id = true := by simpa using e
    rw [e, Bool.true_and]
    refine s_nil ?_
    unfold R_is_lot_1 asc
    refine s_ret (Is.wp (d_all ?_) rfl)
    rw [List.map_map]
    refine vLc_all ee (l.zip (l.drop 1)) _ ?_ (by rw [List.length_zip]; omega) fun t ht => ⟨_, ⟨rfl, rfl⟩, ?_⟩
    · have ed : cutD (l.map tpI) (some 1) none = (l.drop 1).map tpI := by
        by_cases h : 1 ≤ l.length
        · have := cut_drop (l.map tpI) (k := 1) (by simpa using h)
          rw [List.map_drop]; exact this
        · have : l = [] := List.eq_nil_of_length_eq_zero (by omega)
          subst this; rfl
      show zip2L (l.map tpI) (cutD (l.map tpI) (some 1) none) = _
      rw [ed]
      exact zip2_els l (l.drop 1)
    · show ((match intsOf (t.1.map D.int), intsOf (t.2.map D.int) with
        | some ns, some ms => M.pure (D.bl (HT.lexLt ns ms))
        | _, _ => .stuck) : M D).wp _ _
      rw [intsOf_map, intsOf_map]
      rfl
theorem check_lot_ok (γ : Str → Addr) (R : List Int) (l : List El) (hR : R.length ≤ 6) (hl : l.length ≤ 1000) (h : isLot R l = true) : (S_check_lot γ [grp γ R, lot l]).Is .non := by
  refine ret_wp (m := B_check_lot γ _) ?_
  unfold B_check_lot
  refine s_ifF (d_not (x := true) (d_gV (d_call (xs := [grp γ R, lot l]) rfl (by rw [← h]; exact is_lot_ok γ R l hR hl)))) (s_nil (s_end rfl))

def hsPost (e : List Slot → Env) (R : List Int) (l l' : List El) (fl : Fl) : Prop := match hsGo R l l' with
  | some t => fl = .rt (oD (some t))
  | none => ∃ os, fl = .nx (e os)
theorem hs_loop (γ : Str → Addr) (R : List Int) (l : List El) (hR : OkRounds R) : ∀ (l' : List El) (k : Nat) (o2 o3 o4 : Slot), l.drop k = l' → (forRun (gTu 2 (gCo (gNm 2) (gCo (gNm 3) gNo))) (L_has_sum_2 γ) (enumL k (l'.map tpI)) [.frz (grp γ R), .frz (lot l), o2, o3, o4]).wp (fun fl => (∃ t, hsGo R l l' = some t ∧ fl = .rt (oD (some t))) ∨ (hsGo R l l' = none ∧ ∃ o2 o3 o4, fl = .nx [.frz (grp γ R), .frz (lot l), o2, o3, o4])) fun _ => False
  | [], k, o2, o3, o4, _ => for_nil (.inr ⟨rfl, o2, o3, o4, rfl⟩)
  | x :: r, k, o2, o3, o4, hk => by
    have hk1 : l.drop (k + 1) = r := by
      rw [← List.tail_drop, hk]; rfl
    have hkl : k ≤ l.length := by
      rcases Nat.le_total k l.length with h | h
      · exact h
      · rw [List.drop_eq_nil_of_le h] at hk; cases hk
    refine for_cons (env1 := [.frz (grp γ R), .frz (lot l), .frz (.int k), .frz (tpI x), o4]) ⟨rfl, rfl⟩ ?_
    unfold L_has_sum_2
    refine s_for tpI (x :: r) (fun pre env => (∃ o4, env = [.frz (grp γ R), .frz (lot l), .frz (.int k), .frz (tpI x), o4]) ∧ ∀ y ∈ pre, decide (addZ R x y ∈ l) = false) ?_ ⟨⟨_, rfl⟩, fun _ h => (by cases h)⟩ (fun pre y post env e h => ?_) fun env h => ?_
    · show M.Is (M.pure (cutD (l.map tpI) (some (k : Int)) none)) _
      rw [cut_drop _ (by simpa using hkl), ← List.map_drop, hk]
      exact rfl
    · obtain ⟨⟨o4, e4⟩, hn⟩ := h
      subst e4
      refine ⟨_, rfl, ?_⟩
      unfold L_has_sum_1
      have hadd : (S_add γ [grp γ R, tpI x, tpI y]).Is (tpI (addZ R x y)) := add_ok γ R x y hR
      refine s_ifIs (d_gV (d_op (d_call (xs := [grp γ R, tpI x, tpI y]) rfl hadd) rfl (in_lot (addZ R x y) l))) (fun e1 => ?_) fun e1 => ?_
      · refine s_assoc (s_ret ?_)
        refine Is.wp (a := D.tup [tpI x, tpI y, tpI (addZ R x y)]) (d_tup (xs := [tpI x, tpI y, tpI (addZ R x y)]) (a_c rfl (a_c rfl (a1 (d_call (xs := [grp γ R, tpI x, tpI y]) rfl hadd)))) (zl 3)) ?_
        refine .inl ⟨(x, y, addZ R x y), ?_, rfl⟩
        unfold hsGo
        rw [e, find_at hn e1]
      · refine s_nil (s_end ⟨⟨_, rfl⟩, fun z hz => ?_⟩)
        rcases List.mem_append.mp hz with hz | hz
        · exact hn z hz
        · rw [List.mem_singleton.mp hz]; exact e1
    · obtain ⟨⟨o4, e4⟩, hn⟩ := h
      subst e4
      refine s_end ?_
      have eg : hsGo R l (x :: r) = hsGo R l r := by
        rw [hsGo, find_no hn]
      rw [eg]
      exact hs_loop γ R l hR r (k + 1) _ _ _ hk1
theorem has_sum_ok (γ : Str → Addr) (R : List Int) (l : List El) (hR : OkRounds R) (hl : l.length ≤ 1000) (h : isLot R l = true) : (S_has_sum γ [grp γ R, lot l]).Is (oD (hs R l)) := by
  refine ret_wp (m := B_has_sum γ _) ?_
  unfold B_has_sum
  refine s_go (env' := startE N_has_sum [grp γ R, lot l]) (g_drop (d_call (xs := [grp γ R, lot l]) rfl (check_lot_ok γ R l hR.len.2 hl h))) ?_
  refine s_forR (ds := enumL 0 (l.map tpI)) rfl ?_
  refine M.mono _ (fun fl q => ?_) (fun _ z => z) (hs_loop γ R l hR l 0 .no .no .no rfl)
  rcases q with ⟨t, e, rfl⟩ | ⟨e, o2, o3, o4, rfl⟩
  · show oD (some t) = oD (hs R l)
    unfold hs
    rw [e]
  · show (R_has_sum_1 γ [.frz (grp γ R), .frz (lot l), o2, o3, o4]).wp _ _
    unfold R_has_sum_1 hs
    rw [e]
    exact s_ret rfl
theorem lhs_loop (γ : Str → Addr) (R : List Int) (l : List El) (hR : OkRounds R) : ∀ (l' : List El) (k : Nat) (o2 o3 o4 o5 : Slot), l.drop k = l' → (forRun (gTu 2 (gCo (gNm 2) (gCo (gNm 3) gNo))) (L__law_has_sum_2 γ) (enumL k (l'.map tpI)) [.frz (tpI R), .frz (lot l), o2, o3, o4, o5]).wp (fun fl => (∃ t, hsGo R l l' = some t ∧ fl = .rt (oD (some t))) ∨ (hsGo R l l' = none ∧ ∃ o2 o3 o4 o5, fl = .nx [.frz (tpI R), .frz (lot l), o2, o3, o4, o5])) fun _ => False
  | [], k, o2, o3, o4, o5, _ => for_nil (.inr ⟨rfl, o2, o3, o4, o5, rfl⟩)
  | x :: r, k, o2, o3, o4, o5, hk => by
    have hk1 : l.drop (k + 1) = r := by
      rw [← List.tail_drop, hk]; rfl
    have hkl : k ≤ l.length := by
      rcases Nat.le_total k l.length with h | h
      · exact h
      · rw [List.drop_eq_nil_of_le h] at hk; cases hk
    refine for_cons (env1 := [.frz (tpI R), .frz (lot l), .frz (.int k), .frz (tpI x), o4, o5]) ⟨rfl, rfl⟩ ?_
    unfold L__law_has_sum_2
    refine s_for tpI (x :: r) (fun pre env => (∃ o4 o5, env = [.frz (tpI R), .frz (lot l), .frz (.int k), .frz (tpI x), o4, o5]) ∧ ∀ y ∈ pre, decide (addZ R x y ∈ l) = false) ?_ ⟨⟨_, _, rfl⟩, fun _ h => (by cases h)⟩ (fun pre y post env e h => ?_) fun env h => ?_
    · show M.Is (M.pure (cutD (l.map tpI) (some (k : Int)) none)) _
      rw [cut_drop _ (by simpa using hkl), ← List.map_drop, hk]
      exact rfl
    · obtain ⟨⟨o4, o5, e4⟩, hn⟩ := h
      subst e4
      refine ⟨_, rfl, ?_⟩
      unfold L__law_has_sum_1
      have hadd : (S__law_plus γ [tpI R, tpI x, tpI y]).Is (tpI (addZ R x y)) := law_plus_ok γ R x y hR
      refine s_go (env' := [.frz (tpI R), .frz (lot l), .frz (.int k), .frz (tpI x), .frz (tpI y), .frz (tpI (addZ R x y))]) (g_set (d_call (xs := [tpI R, tpI x, tpI y]) rfl hadd)) ?_
      refine s_ifIs (d_gV (d_op rfl rfl (in_lot (addZ R x y) l))) (fun e1 => ?_) fun e1 => ?_
      · refine s_assoc (s_ret ?_)
        refine Is.wp (a := D.tup [tpI x, tpI y, tpI (addZ R x y)]) ⟨zl 3, rfl⟩ ?_
        refine .inl ⟨(x, y, addZ R x y), ?_, rfl⟩
        unfold hsGo
        rw [e, find_at hn e1]
      · refine s_nil (s_end ⟨⟨_, _, rfl⟩, fun z hz => ?_⟩)
        rcases List.mem_append.mp hz with hz | hz
        · exact hn z hz
        · rw [List.mem_singleton.mp hz]; exact e1
    · obtain ⟨⟨o4, o5, e4⟩, hn⟩ := h
      subst e4
      refine s_end ?_
      have eg : hsGo R l (x :: r) = hsGo R l r := by
        rw [hsGo, find_no hn]
      rw [eg]
      exact lhs_loop γ R l hR r (k + 1) _ _ _ _ hk1
theorem law_has_sum_ok (γ : Str → Addr) (R : List Int) (l : List El) (hR : OkRounds R) : (S__law_has_sum γ [tpI R, lot l]).Is (oD (hs R l)) := by
  refine ret_wp (m := B__law_has_sum γ _) ?_
  unfold B__law_has_sum
  refine s_forR (ds := enumL 0 (l.map tpI)) rfl ?_
  refine M.mono _ (fun fl q => ?_) (fun _ z => z) (lhs_loop γ R l hR l 0 .no .no .no .no rfl)
  rcases q with ⟨t, e, rfl⟩ | ⟨e, o2, o3, o4, o5, rfl⟩
  · show oD (some t) = oD (hs R l)
    unfold hs
    rw [e]
  · show (R__law_has_sum_1 γ [.frz (tpI R), .frz (lot l), o2, o3, o4, o5]).wp _ _
    unfold R__law_has_sum_1 hs
    rw [e]
    exact s_ret rfl

theorem is_sum_free_ok (γ : Str → Addr) (R : List Int) (l : List El) (hR : OkRounds R) (hl : l.length ≤ 1000) : (S_is_sum_free γ [grp γ R, lot l]).Is (.bl (isLot R l && (hs R l).isNone)) := by
  refine ret_wp (m := B_is_sum_free γ _) ?_
  unfold B_is_sum_free
  refine s_ret (Is.wp (d_vand (d_call (xs := [grp γ R, lot l]) rfl (is_lot_ok γ R l hR.len.2 hl)) fun e => ?_) rfl)
  refine d_op (d_call (xs := [grp γ R, lot l]) rfl (has_sum_ok γ R l hR hl e)) rfl ?_
  cases hs R l with
  | none => rfl
  | some t => rfl
theorem zl_of {n : Nat} (h : n ≤ 100000) : n ≤ sizeLine := Nat.le_trans h (by decide)
theorem members_ok (γ : Str → Addr) (R : List Int) (hR : OkRounds R) : (S_members γ [grp γ R]).Is (lot (elems R)) := by
  have pos : ∀ r ∈ R, 1 ≤ r := fun r hr => (hR.pos r hr).1
  refine ret_wp (m := B_members γ _) ?_
  unfold B_members
  refine s_go (env' := [.frz (grp γ R), .frz (lol [[]]), .no, .no, .no, .no]) (g_set (d_lst (xs := [tpI []]) (a1 (d_tup a_n (zl 0))) (zl 1))) ?_
  refine s_for D.int R (fun pre env => ∃ o2 o3 o4 o5, env = [.frz (grp γ R), .frz (lol (elems pre)), o2, o3, o4, o5]) (iter_tup (d_un (x := grp γ R) rfl (fld_rounds γ R))) ⟨_, _, _, _, rfl⟩ (fun pre r post env e ⟨o2, o3, o4, o5, e4⟩ => ?_) fun env ⟨o2, o3, o4, o5, e4⟩ => ?_
  · subst e4
    have hr := hR.pos r (by rw [e]; simp)
    have hpre : ((elems pre).length : Int) ≤ 64 := by
      rw [elems_length pre fun x hx => pos x (by rw [e]; simp [hx])]
      refine Int.le_trans (prodI_pre pre (r :: post) fun x hx => pos x (by rw [e]; exact hx)) ?_
      rw [← e]; exact hR.size
    refine ⟨[.frz (grp γ R), .frz (lol (elems pre)), .frz (.int r), o3, o4, o5], rfl, ?_⟩
    unfold L_members_2
    refine s_go (env' := [.frz (grp γ R), .frz (lol (elems pre)), .frz (.int r), .own (lol []), o4, o5]) (g_set (d_lst (xs := []) a_n (zl 0))) ?_
    refine s_for tpI (elems pre) (fun p2 env => ∃ o4 o5, env = [.frz (grp γ R), .frz (lol (elems pre)), .frz (.int r), .own (lol (extE p2 r)), o4, o5]) rfl ⟨_, _, rfl⟩ (fun p2 row post2 env e2 ⟨o4, o5, e5⟩ => ?_) fun env ⟨o4, o5, e5⟩ => ?_
    · subst e5
      refine ⟨[.frz (grp γ R), .frz (lol (elems pre)), .frz (.int r), .own (lol (extE p2 r)), .frz (tpI row), o5], rfl, ?_⟩
      unfold L_members_1
      have hlc : (vLc (fun env => ((aCons (bVar 2) aNil) env).bind iRange1D) (gNm 5) cYes (bind2 (bVar 4) (eTup (aCons (eVar 5) aNil)) addD) [5] [.frz (grp γ R), .frz (lol (elems pre)), .frz (.int r), .own (lol (extE p2 r)), .frz (tpI row), o5]).Is (.lst (((List.range r.toNat).map fun (k : Nat) => row ++ [(k : Int)]).map tpI)) := by
        rw [List.map_map]
        refine vLc_all (fun (k : Nat) => D.int (0 + k)) (List.range r.toNat) _ ?_ (by rw [List.length_range]; omega) fun k hk => ⟨[.frz (grp γ R), .frz (lol (elems pre)), .frz (.int r), .own (lol (extE p2 r)), .frz (tpI row), .frz (.int (0 + k))], rfl, ?_⟩
        · exact ⟨⟨by omega, by omega⟩, rfl⟩
        · refine d_op (x := tpI row) (y := tpI [0 + (k : Int)]) rfl (d_tup (xs := [.int (0 + k)]) rfl (zl 1)) ⟨?_, ?_⟩
          · have hrl := elems_len pre row (by rw [e2]; simp)
            have := hR.len
            have e3 : pre.length ≤ R.length := by rw [e]; simp
            show (row.map D.int).length + 1 ≤ sizeLine
            rw [List.length_map]
            exact zl_of (by omega)
          · show D.tup (row.map D.int ++ [.int (0 + k)]) = tpI (row ++ [(k : Int)])
            rw [Int.zero_add]
            unfold tpI
            rw [List.map_append]; rfl
      refine s_go (env' := [.frz (grp γ R), .frz (lol (elems pre)), .frz (.int r), .own (lol (extE (p2 ++ [row]) r)), .frz (tpI row), o5]) (g_extend (l := (extE p2 r).map tpI) rfl hlc ?_ ?_) (s_end ⟨_, _, rfl⟩)
      · have h1 : p2.length ≤ (elems pre).length := by rw [e2]; simp
        have h2 : (extE p2 r).length ≤ 64 * 64 := by
          rw [extE_length]
          exact Nat.mul_le_mul (by omega) (by omega)
        rw [List.length_map, List.length_map, List.length_map, List.length_range]
        omega
      · rw [extE_snoc]
        show [Slot.frz (grp γ R), .frz (lol (elems pre)), .frz (.int r), Slot.own (.lst ((extE p2 r).map tpI ++ _)), .frz (tpI row), o5] = [_, _, _, Slot.own (.lst ((extE p2 r ++ _).map tpI)), _, _]
        rw [List.map_append]
    · subst e5
      unfold R_members_1
      refine s_fz ?_
      refine s_go rfl (s_end ⟨.frz (.int r), .frz (lol (extE (elems pre) r)), o4, o5, ?_⟩)
      rw [elems_snoc]; rfl
  · subst e4
    unfold R_members_2
    exact s_ret rfl

theorem pre_small {R pre post : List Int} {r : Int} (hR : OkRounds R) (e : R = pre ++ r :: post) : (elems pre).length ≤ 64 ∧ pre.length ≤ 6 ∧ 1 ≤ r ∧ r ≤ 64 := by
  have pos : ∀ r ∈ R, 1 ≤ r := fun r hr => (hR.pos r hr).1
  have hr := hR.pos r (by rw [e]; simp)
  have h1 := elems_length pre fun x hx => pos x (by rw [e]; simp [hx])
  have h2 := prodI_pre pre (r :: post) fun x hx => pos x (by rw [e]; exact hx)
  rw [← e] at h2
  have h3 := hR.size
  have h4 : pre.length ≤ R.length := by rw [e]; simp
  have h5 := hR.len
  omega
theorem flat_ext (f : List El) (n : Int) : (f.map fun row => ((List.range n.toNat).map fun (k : Nat) => row ++ [(k : Int)]).map tpI).flatten = (extE f n).map tpI := by
  induction f with
  | nil => rfl
  | cons a f ih =>
    rw [List.map_cons, List.flatten_cons, ih]
    unfold extE
    rw [List.flatMap_cons, List.map_append]
theorem law_members_ok (γ : Str → Addr) (R : List Int) (hR : OkRounds R) : (S__law_members γ [tpI R]).Is (lol (elems R)) := by
  refine ret_wp (m := B__law_members γ _) ?_
  unfold B__law_members
  refine s_go (env' := [.frz (tpI R), .frz (lol [[]]), .no, .no, .no]) (g_set (d_lst (xs := [tpI []]) (a1 (d_tup a_n (zl 0))) (zl 1))) ?_
  refine s_for D.int R (fun pre env => ∃ o2 o3 o4, env = [.frz (tpI R), .frz (lol (elems pre)), o2, o3, o4]) rfl ⟨_, _, _, rfl⟩ (fun pre r post env e ⟨o2, o3, o4, e4⟩ => ?_) fun env ⟨o2, o3, o4, e4⟩ => ?_
  · subst e4
    obtain ⟨q1, q2, q3, q4⟩ := pre_small hR e
    refine ⟨[.frz (tpI R), .frz (lol (elems pre)), .frz (.int r), o3, o4], rfl, ?_⟩
    unfold L__law_members_1
    refine s_go (env' := [.frz (tpI R), .frz (lol (elems (pre ++ [r]))), .frz (.int r), o3, o4]) (g_set (d_un (x := .lst ((elems pre).map fun row => D.lst (((List.range r.toNat).map fun (k : Nat) => row ++ [(k : Int)]).map tpI))) ?_ ?_)) (s_end ⟨_, _, _, rfl⟩)
    · refine vLc_all tpI (elems pre) _ rfl (by omega) fun row hrow => ⟨[.frz (tpI R), .frz (lol (elems pre)), .frz (.int r), .frz (tpI row), o4], rfl, ?_⟩
      rw [List.map_map]
      refine vLc_all (fun (k : Nat) => D.int (0 + k)) (List.range r.toNat) _ ?_ (by rw [List.length_range]; omega) fun k hk => ⟨[.frz (tpI R), .frz (lol (elems pre)), .frz (.int r), .frz (tpI row), .frz (.int (0 + k))], rfl, ?_⟩
      · exact ⟨⟨by omega, by omega⟩, rfl⟩
      · refine d_op (x := tpI row) (y := tpI [0 + (k : Int)]) rfl (d_tup (xs := [.int (0 + k)]) rfl (zl 1)) ⟨?_, ?_⟩
        · have hrl := elems_len pre row hrow
          show (row.map D.int).length + 1 ≤ sizeLine
          rw [List.length_map]
          exact zl_of (by omega)
        · show D.tup (row.map D.int ++ [.int (0 + k)]) = tpI (row ++ [(k : Int)])
          rw [Int.zero_add]
          unfold tpI
          rw [List.map_append]; rfl
    · show ((M.of (lstsOf ((elems pre).map fun row => D.lst (((List.range r.toNat).map fun (k : Nat) => row ++ [(k : Int)]).map tpI)))).bind fun ls => M.ask (ls.flatten.length ≤ sizeLine) (M.pure (D.lst ls.flatten))).wp _ _
      have e1 : ((elems pre).map fun row => D.lst (((List.range r.toNat).map fun (k : Nat) => row ++ [(k : Int)]).map tpI)) = ((elems pre).map fun row => ((List.range r.toNat).map fun (k : Nat) => row ++ [(k : Int)]).map tpI).map D.lst := by
        rw [List.map_map]; rfl
      rw [e1, lstsOf_map]
      show (M.ask ((((elems pre).map fun row => ((List.range r.toNat).map fun (k : Nat) => row ++ [(k : Int)]).map tpI).flatten).length ≤ sizeLine) (M.pure (D.lst (((elems pre).map fun row => ((List.range r.toNat).map fun (k : Nat) => row ++ [(k : Int)]).map tpI).flatten)))).wp _ _
      rw [flat_ext, ← elems_snoc]
      refine ⟨?_, rfl⟩
      rw [List.length_map, elems_snoc, extE_length]
      have : (elems pre).length * r.toNat ≤ 64 * 64 := Nat.mul_le_mul (by omega) (by omega)
      exact zl_of (by omega)
  · subst e4
    unfold R__law_members_1
    exact s_ret rfl
/-! #### one element more -/
def canTake (R : List Int) (l : List El) (x : El) : Bool := !decide (addZ R x x ∈ l ++ [x]) && (l.all (fun y => !(decide (addZ R x y ∈ l ++ [x]) || decide (addZ R y y = x))) && l.all fun y => !(l.any fun z => decide (addZ R y z = x)))
theorem can_take_ok (γ : Str → Addr) (R : List Int) (l : List El) (x : El) (hR : OkRounds R) (hl : l.length ≤ 1000) : (S_can_take γ [grp γ R, lot l, tpI x]).Is (.bl (canTake R l x)) := by
  refine ret_wp (m := B_can_take γ _) ?_
  unfold B_can_take canTake
  have hadd : ∀ y z, (S_add γ [grp γ R, tpI y, tpI z]).Is (tpI (addZ R y z)) := fun y z => add_ok γ R y z hR
  have eqs : ∀ y z : El, (eqD (tpI y) (tpI z)).Is (.bl (decide (y = z))) := fun y z => by
    refine ⟨⟨okD_tpI 15 y, okD_tpI 15 z⟩, ?_⟩
    show D.bl (deq _ _) = _
    rw [deq_tpI]
  refine s_go (env' := [.frz (grp γ R), .frz (lot l), .frz (tpI x), .frz (lot (l ++ [x])), .no, .no]) (g_set (d_op (x := lot l) (y := lot [x]) rfl (d_tup (xs := [tpI x]) rfl (zl 1)) ⟨?_, ?_⟩)) ?_
  · show (l.map tpI).length + 1 ≤ sizeLine
    rw [List.length_map]; exact zl_of (by omega)
  · show D.tup (l.map tpI ++ [tpI x]) = lot (l ++ [x])
    unfold lot
    rw [List.map_append]; rfl
  refine s_ifIs (d_gV (d_op (d_call (xs := [grp γ R, tpI x, tpI x]) rfl (hadd x x)) rfl (in_lot (addZ R x x) (l ++ [x])))) (fun e => ?_) fun e => ?_
  · rw [e]; exact s_assoc (s_ret rfl)
  rw [e]
  refine s_nil ?_
  unfold R_can_take_3
  refine s_forAll tpI l (fun y => !(decide (addZ R x y ∈ l ++ [x]) || decide (addZ R y y = x))) (fun env => ∃ o4 o5, env = [.frz (grp γ R), .frz (lot l), .frz (tpI x), .frz (lot (l ++ [x])), o4, o5]) (.bl false) rfl ⟨_, _, rfl⟩ (fun y env hy ⟨o4, o5, e4⟩ => ?_) (fun hb => ?_) fun hg env ⟨o4, o5, e4⟩ => ?_
  · subst e4
    refine ⟨[.frz (grp γ R), .frz (lot l), .frz (tpI x), .frz (lot (l ++ [x])), .frz (tpI y), o5], rfl, ?_⟩
    unfold L_can_take_1
    have ht : (tOrD (gV (bind2 (vCall 3 (S_add γ) (aCons (eVar 0) (aCons (eVar 2) (aCons (eVar 4) aNil)))) (bVar 3) inD)) (gV (bind2 (vCall 3 (S_add γ) (aCons (eVar 0) (aCons (eVar 4) (aCons (eVar 4) aNil)))) (bVar 2) eqD)) [.frz (grp γ R), .frz (lot l), .frz (tpI x), .frz (lot (l ++ [x])), .frz (tpI y), o5]).Is (decide (addZ R x y ∈ l ++ [x]) || decide (addZ R y y = x)) :=
      d_or (d_gV (d_op (d_call (xs := [grp γ R, tpI x, tpI y]) rfl (hadd x y)) rfl (in_lot (addZ R x y) (l ++ [x])))) fun _ => d_gV (d_op (d_call (xs := [grp γ R, tpI y, tpI y]) rfl (hadd y y)) rfl (eqs (addZ R y y) x))
    refine ⟨fun z => s_ifF (by rw [Bool.not_eq_true'] at z; rw [z] at ht; exact ht) (s_nil (s_end ⟨_, rfl, _, _, rfl⟩)), fun z => s_ifT (by rw [Bool.not_eq_false'] at z; rw [z] at ht; exact ht) (s_assoc (s_ret rfl))⟩
  · show D.bl false = D.bl _
    rw [hb]; rfl
  subst e4
  unfold R_can_take_2
  refine s_forAll tpI l (fun y => !(l.any fun z => decide (addZ R y z = x))) (fun env => ∃ o4 o5, env = [.frz (grp γ R), .frz (lot l), .frz (tpI x), .frz (lot (l ++ [x])), o4, o5]) (.bl false) rfl ⟨_, _, rfl⟩ (fun y env hy ⟨o4, o5, e4⟩ => ?_) (fun hb => ?_) fun hg2 env ⟨o4, o5, e4⟩ => ?_
  · subst e4
    refine ⟨[.frz (grp γ R), .frz (lot l), .frz (tpI x), .frz (lot (l ++ [x])), .frz (tpI y), o5], rfl, ?_⟩
    unfold L_can_take_2
    have ht : (gV (bindA (aCons (vLc (iterD (bVar 1)) (gNm 5) cYes (bind2 (vCall 3 (S_add γ) (aCons (eVar 0) (aCons (eVar 4) (aCons (eVar 5) aNil)))) (bVar 2) eqD) [5]) aNil) anyD) [.frz (grp γ R), .frz (lot l), .frz (tpI x), .frz (lot (l ++ [x])), .frz (tpI y), o5]).Is (l.any fun z => decide (addZ R y z = x)) := by
      refine d_gV ?_
      have e5 : (l.any fun z => decide (addZ R y z = x)) = (l.map fun z => decide (addZ R y z = x)).any id := by rw [List.any_map]; rfl
      rw [e5]
      refine d_any ?_
      rw [List.map_map]
      exact vLc_all tpI l _ rfl (by omega) fun z hz => ⟨[.frz (grp γ R), .frz (lot l), .frz (tpI x), .frz (lot (l ++ [x])), .frz (tpI y), .frz (tpI z)], rfl, d_op (d_call (xs := [grp γ R, tpI y, tpI z]) rfl (hadd y z)) rfl (eqs (addZ R y z) x)⟩
    refine ⟨fun z => s_ifF (by rw [Bool.not_eq_true'] at z; rw [z] at ht; exact ht) (s_nil (s_end ⟨_, rfl, _, _, rfl⟩)), fun z => s_ifT (by rw [Bool.not_eq_false'] at z; rw [z] at ht; exact ht) (s_assoc (s_ret rfl))⟩
  · show D.bl false = D.bl _
    rw [hb, hg]; rfl
  subst e4
  unfold R_can_take_1
  refine s_ret ?_
  show D.bl true = D.bl _
  rw [hg, hg2]; rfl
def isFull (R : List Int) (l : List El) : Bool := (isLot R l && (hs R l).isNone) && !((elems R).any fun x => !decide (x ∈ l) && canTake R l x)
theorem elems_small {R : List Int} (hR : OkRounds R) : (elems R).length ≤ 64 := by
  have := elems_length R fun r hr => (hR.pos r hr).1
  have := hR.size
  omega
theorem is_full_ok (γ : Str → Addr) (R : List Int) (l : List El) (hR : OkRounds R) (hl : l.length ≤ 1000) : (S_is_full γ [grp γ R, lot l]).Is (.bl (isFull R l)) := by
  refine ret_wp (m := B_is_full γ _) ?_
  unfold B_is_full isFull
  refine s_ifIs (d_not (d_gV (d_call (xs := [grp γ R, lot l]) rfl (is_sum_free_ok γ R l hR hl)))) (fun e => ?_) fun e => ?_
  · rw [Bool.not_eq_true'] at e
    rw [e]; exact s_assoc (s_ret rfl)
  rw [Bool.not_eq_false'] at e
  rw [e, Bool.true_and]
  refine s_nil ?_
  unfold R_is_full_1
  refine s_ret (Is.wp (d_vnot ?_) rfl)
  have e5 : ((elems R).any fun x => !decide (x ∈ l) && canTake R l x) = ((elems R).map fun x => !decide (x ∈ l) && canTake R l x).any id := by rw [List.any_map]; rfl
  rw [e5]
  refine d_any ?_
  rw [List.map_map]
  have := elems_small hR
  refine vLc_all tpI (elems R) _ (iter_tup (d_call (xs := [grp γ R]) rfl (members_ok γ R hR))) (by omega) fun x hx => ⟨[.frz (grp γ R), .frz (lot l), .frz (tpI x)], rfl, ?_⟩
  exact d_vand (d_op rfl rfl (notIn_lot x l)) fun _ => d_nE (d_call (xs := [grp γ R, lot l, tpI x]) rfl (can_take_ok γ R l x hR hl)) rfl

/-! #### prime powers: by the same steps -/
def strip (o : Int) : Nat → Int → Int → Option (Int × Int)
  | 0, _, _ => none
  | f + 1, l, k => if l % o = 0 then strip o f (l / o) (k + 1) else some (l, k)
def ppGo : Nat → Int → Int → List (Int × Int) → Option (List (Int × Int))
  | 0, _, _, _ => none
  | f + 1, l, o, fd => if l > 1 then (match strip (if o * o > l then l else o) 64 l 0 with
      | some (l', k) => ppGo f l' ((if o * o > l then l else o) + 1) (fd ++ if k > 0 then [((if o * o > l then l else o), k)] else [])
      | none => none) else some fd
theorem pp_tail (γ : Str → Addr) {n l o k : Int} {fd : List (Int × Int)} (hfd : fd.length ≤ 1000) {Q : Fl → Prop} {E : Err → Prop} (q : Q (.nx [.frz (.int n), .own (.lst ((fd ++ if k > 0 then [(o, k)] else []).map e2)), .frz (.int l), .frz (.int (o + 1)), .frz (.int k)])) :
    (R_prime_powers_1 γ [.frz (.int n), .own (.lst (fd.map e2)), .frz (.int l), .frz (.int o), .frz (.int k)]).wp Q E := by
  unfold R_prime_powers_1
  have h1 : (vIf (gV (bind2 (bVar 4) (eC (.int 0)) gtD)) (eLst (aCons (eTup (aCons (eVar 3) (aCons (eVar 4) aNil))) aNil)) (eLst aNil) [.frz (.int n), .own (.lst (fd.map e2)), .frz (.int l), .frz (.int o), .frz (.int k)]).Is (.lst ((if k > 0 then [(o, k)] else []).map e2)) := by
    refine d_if (p := decide (0 < k)) (d_gV rfl) (fun e => ?_) fun e => ?_
    · have e := of_decide_eq_true e
      rw [if_pos e]
      exact d_lst (xs := [.tup [.int o, .int k]]) (a1 (d_tup (xs := [.int o, .int k]) rfl (zl 2))) (zl 1)
    · have e := of_decide_eq_false e
      rw [if_neg e]
      exact d_lst (xs := []) a_n (zl 0)
  have h2 : ((if k > 0 then [(o, k)] else []) : List (Int × Int)).length ≤ 1 := by split <;> simp
  refine s_go (env' := [.frz (.int n), .own (.lst ((fd ++ if k > 0 then [(o, k)] else []).map e2)), .frz (.int l), .frz (.int o), .frz (.int k)]) (g_extend (l := fd.map e2) rfl h1 (by rw [List.length_map, List.length_map]; omega) (by rw [List.map_append]; rfl)) ?_
  exact s_go rfl (s_end q)
theorem pp_strip (γ : Str → Addr) {n o : Int} {fd : List (Int × Int)} (ho : 2 ≤ o) (ho2 : o ≤ 2 ^ 60) {Q : Fl → Prop} {E : Err → Prop} {l k l' k' : Int} {f : Nat} (h : strip o f l k = some (l', k'))
    (q : (R_prime_powers_1 γ [.frz (.int n), .own (.lst (fd.map e2)), .frz (.int l'), .frz (.int o), .frz (.int k')]).wp Q E) :
    (sSeq (sWhile (T_prime_powers_1 γ) (L_prime_powers_1 γ)) (R_prime_powers_1 γ) [.frz (.int n), .own (.lst (fd.map e2)), .frz (.int l), .frz (.int o), .frz (.int k)]).wp Q E := by
  refine s_while (fun m env => ∃ l k, env = [.frz (.int n), .own (.lst (fd.map e2)), .frz (.int l), .frz (.int o), .frz (.int k)] ∧ strip o m l k = some (l', k')) f ⟨l, k, rfl, h⟩ fun m env ⟨l, k, e, h⟩ => ?_
  subst e
  unfold T_prime_powers_1
  refine Is.wp (d_gV (p := decide (l % o = 0)) ⟨by omega, ⟨rfl, rfl⟩, ?_⟩) ⟨fun e => ?_, fun e => ?_⟩
  · show D.bl (deq (.int (l % o)) (.int 0)) = _
    rw [deq_int]
  · have e := of_decide_eq_true e
    unfold L_prime_powers_1
    cases m with
    | zero => cases h
    | succ m =>
      unfold strip at h
      rw [if_pos e] at h
      exact s_go ⟨div_many (by omega) (by
        have : (2 : Int) ^ 60 < 2 ^ 4000 := by decide +kernel
        omega), rfl⟩ (s_end ⟨m, Nat.lt_succ_self _, l / o, k + 1, rfl, h⟩)
  · have e := of_decide_eq_false e
    cases m with
    | zero => cases h
    | succ m =>
      unfold strip at h
      rw [if_neg e] at h
      cases h
      exact q
theorem strip_le {o : Int} (ho : 1 ≤ o) : ∀ {f : Nat} {l k l' k' : Int}, 0 ≤ l → strip o f l k = some (l', k') → l' ≤ l
  | 0, _, _, _, _, _, h => by cases h
  | f + 1, l, k, l', k', hl, h => by
    unfold strip at h
    split at h
    · have h1 : 0 ≤ l / o := Int.ediv_nonneg hl (by omega)
      have h2 : l / o ≤ l := Int.ediv_le_self _ hl
      have := strip_le ho h1 h
      omega
    · cases h; exact Int.le_refl _
theorem prime_powers_ok (γ : Str → Addr) {n : Int} (hn : 1 ≤ n ∧ n ≤ 1000000) {f : Nat} (hf : f ≤ 1000) {res : List (Int × Int)} (h : ppGo f n 2 [] = some res) : (S_prime_powers γ [.int n]).Is (.tup (res.map e2)) := by
  refine ret_wp (m := B_prime_powers γ _) ?_
  unfold B_prime_powers
  refine s_go (env' := startE N_prime_powers [.int n]) (g_drop (d_call (xs := [.int n, .int 1, .int 1000000]) ⟨⟨by decide, by decide, by decide⟩, rfl⟩ (check_number_ok γ hn))) ?_
  refine s_go (env' := [.frz (.int n), .own (.lst []), .frz (.int n), .frz (.int 2), .no]) ⟨zl 0, rfl⟩ ?_
  refine s_while (fun m env => ∃ l o fd x, env = [.frz (.int n), .own (.lst (fd.map e2)), .frz (.int l), .frz (.int o), x] ∧ ppGo m l o fd = some res ∧ 2 ≤ o ∧ o ≤ 2 ^ 50 + ((f : Int) - m) ∧ l ≤ 1000000 ∧ m ≤ f ∧ fd.length ≤ f - m) f ⟨n, 2, [], .no, rfl, h, by omega, by omega, by omega, Nat.le_refl _, by simp⟩ fun m env ⟨l, o, fd, x, e, h, h2, h3, h4, h5, h6⟩ => ?_
  subst e
  unfold T_prime_powers_2
  refine Is.wp (d_gV (p := decide (1 < l)) rfl) ⟨fun e => ?_, fun e => ?_⟩
  · have e := of_decide_eq_true e
    cases m with
    | zero => cases h
    | succ m =>
      unfold ppGo at h
      rw [if_pos (by omega)] at h
      -- from the divisor that is tried on
      have rest : ∀ o' : Int, 2 ≤ o' → o' ≤ 2 ^ 50 + ((f : Int) - (m + 1)) → (match strip o' 64 l 0 with
          | some (l', k) => ppGo m l' (o' + 1) (fd ++ if k > 0 then [(o', k)] else [])
          | none => none) = some res → (R_prime_powers_2 γ [.frz (.int n), .own (.lst (fd.map e2)), .frz (.int l), .frz (.int o'), x]).wp (turnOk (fun env' => ∃ m', m' < m + 1 ∧ ∃ l o fd x, env' = [.frz (.int n), .own (.lst (fd.map e2)), .frz (.int l), .frz (.int o), x] ∧ ppGo m' l o fd = some res ∧ 2 ≤ o ∧ o ≤ 2 ^ 50 + ((f : Int) - m') ∧ l ≤ 1000000 ∧ m' ≤ f ∧ fd.length ≤ f - m') fun fl => (andThen (.pure fl) (R_prime_powers_3 γ)).wp (retOk fun x => x = D.tup (res.map e2)) fun _ => False) fun _ => False := by
        intro o' q1 q2 q3
        unfold R_prime_powers_2
        cases hs : strip o' 64 l 0 with
        | none => rw [hs] at q3; cases q3
        | some lk =>
          obtain ⟨l', k⟩ := lk
          rw [hs] at q3
          have hl' : l' ≤ l := strip_le (by omega) (by omega) hs
          refine s_go (env' := [.frz (.int n), .own (.lst (fd.map e2)), .frz (.int l), .frz (.int o'), .frz (.int 0)]) rfl ?_
          refine pp_strip γ q1 (by omega) hs (pp_tail γ (by omega) ⟨m, Nat.lt_succ_self _, l', o' + 1, _, _, rfl, q3, by omega, by omega, by omega, by omega, ?_⟩)
          have h2 : ((if k > 0 then [(o', k)] else []) : List (Int × Int)).length ≤ 1 := by split <;> simp
          rw [List.length_append]
          omega
      unfold L_prime_powers_2
      refine s_ifIs (d_gV (p := decide (l < o * o)) ⟨.inl (.inl (by omega)), rfl⟩) (fun e2 => ?_) fun e2 => ?_
      · have e2 := of_decide_eq_true e2
        refine s_assoc (s_go (env' := [.frz (.int n), .own (.lst (fd.map _)), .frz (.int l), .frz (.int l), x]) rfl (s_nil (rest l (by omega) (by omega) ?_)))
        rw [if_pos e2] at h
        exact h
      · have e2 := of_decide_eq_false e2
        refine s_nil (rest o h2 (by omega) ?_)
        rw [if_neg (by omega)] at h
        exact h
  · have e := of_decide_eq_false e
    unfold R_prime_powers_3
    cases m with
    | zero => cases h
    | succ m =>
      unfold ppGo at h
      rw [if_neg (by omega)] at h
      cases h
      exact s_ret rfl

/-! #### what is known of the most -/
def kmost (n : Int) (ps : List Int) : Option Int := match ps.filter (fun p => decide (p % 3 = 2)) with
  | g :: _ => some (n * (g + 1) / (3 * g))
  | [] => if decide ((3 : Int) ∈ ps) then some (n / 3) else none
def iD : Option Int → D
  | none => .non
  | some i => .int i
theorem in_ints (x : Int) (l : List Int) : (inD (.int x) (.lst (l.map D.int))).Is (.bl (decide (x ∈ l))) := by
  refine ⟨⟨rfl, by
    show (l.map D.int).all (okD 15) = true
    rw [List.all_map, List.all_eq_true]; exact fun i _ => okD_int 15 i⟩, ?_⟩
  show D.bl ((l.map D.int).any fun z => deq z (.int x)) = _
  congr 1
  refine bool_dec ?_
  rw [List.any_map, List.any_eq_true]
  constructor
  · rintro ⟨a, ha, e⟩
    have e : deq (.int a) (.int x) = true := e
    rw [deq_int, decide_eq_true_eq] at e
    rw [← e]; exact ha
  · intro h
    exact ⟨x, h, by show deq (.int x) (.int x) = true; rw [deq_int]; simp⟩
theorem known_most_ok (γ : Str → Addr) {R : List Int} (hR : OkRounds R) {ps : List Int} (hp : (prodI R ≤ 1 ∧ ps = []) ∨ (1 < prodI R ∧ ∃ f res, f ≤ 1000 ∧ ppGo f (prodI R) 2 [] = some res ∧ res.length ≤ 1000 ∧ ps = res.map (·.1))) (hg : ∀ p ∈ ps, 1 ≤ p ∧ p ≤ 64) (hps : ps.length ≤ 1000) :
    (S_known_most γ [grp γ R]).Is (iD (kmost (prodI R) ps)) := by
  have hn : 1 ≤ prodI R := prodI_pos R fun r hr => (hR.pos r hr).1
  have hs := hR.size
  refine ret_wp (m := B_known_most γ _) ?_
  unfold B_known_most kmost
  have size_at : ∀ env : Env, env[0]? = some (.frz (grp γ R)) → (bind1 (bVar 0) (fldC (γ "Group") "size") env).Is (.int (prodI R)) := fun env e => d_un (x := grp γ R) (by
    show (bVar 0 env).wp _ _
    unfold bVar
    rw [e]; rfl) (fld_size γ R)
  refine s_go (env' := [.frz (grp γ R), .frz (.lst (ps.map D.int)), .no, .no, .no]) (g_set (d_if (p := decide (1 < prodI R)) (d_gV (d_op (size_at _ rfl) rfl rfl)) (fun e => ?_) fun e => ?_)) ?_
  · have e := of_decide_eq_true e
    rcases hp with ⟨h, _⟩ | ⟨_, f, res, hf, h, hr, hps⟩
    · omega
    rw [hps, List.map_map]
    exact vLc_all e2 res _ (iter_tup (d_call (xs := [.int (prodI R)]) (a1 (size_at _ rfl)) (prime_powers_ok γ ⟨hn, by omega⟩ hf h))) (by omega) fun t ht => ⟨_, ⟨rfl, rfl⟩, rfl⟩
  · have e := of_decide_eq_false e
    rcases hp with ⟨_, h⟩ | ⟨h, _⟩
    · rw [h]; exact d_lst (xs := []) a_n (zl 0)
    · omega
  have hgood : (vLc (iterD (bVar 1)) (gNm 3) (gV (bind2 (bind2 (bindA (aCons (bVar 3) aNil) toIntD) (eC (.int 3)) modD) (eC (.int 2)) eqD)) (eVar 3) [3] [.frz (grp γ R), .frz (.lst (ps.map D.int)), .no, .no, .no]).Is (.lst ((ps.filter (fun p => decide (p % 3 = 2))).map D.int)) :=
    vLc_is D.int ps _ _ rfl (by omega) fun p hp => ⟨_, rfl, d_gV ⟨by decide, ⟨rfl, rfl⟩, by
      show D.bl (deq (.int (p % 3)) (.int 2)) = _
      rw [deq_int]⟩, fun _ => rfl⟩
  refine s_go (g_set hgood) (s_fz ?_)
  cases hf : ps.filter (fun p => decide (p % 3 = 2)) with
  | cons g gs =>
    have hgm : g ∈ ps := (List.mem_filter.mp (by rw [hf]; simp : g ∈ ps.filter (fun p => decide (p % 3 = 2)))).1
    obtain ⟨g1, g2⟩ := hg g hgm
    refine s_ifT (d_gV ⟨zl 0, ⟨?_, rfl⟩, ?_⟩) (s_assoc (s_ret ?_))
    · show ((g :: gs).map D.int).all (okD 15) = true
      rw [List.all_map, List.all_eq_true]; exact fun i _ => okD_int 15 i
    · rfl
    · have ix : ∀ e0, (bind2 (bVar 2) (eC (.int 0)) ixD [.frz (grp γ R), .frz (.lst (ps.map D.int)), .frz (.lst ((g :: gs).map D.int)), e0, .no]).Is (.int g) := fun _ => w_ofE (o := atI (D.int g :: gs.map D.int) 0) at0 rfl
      refine Is.wp (a := .int (prodI R * (g + 1) / (3 * g))) (d_op (d_op (size_at _ rfl) (d_op (ix _) rfl rfl) ⟨.inl (.inl (by omega)), rfl⟩) (d_op (x := .int 3) (y := .int g) rfl (ix _) ⟨.inl (.inl (by omega)), rfl⟩) ⟨?_, rfl⟩) rfl
      exact wide_div (b := 100) (by omega) (by omega) (by decide) (by decide)
  | nil =>
    refine s_ifF (d_gV ⟨zl 0, ⟨rfl, rfl⟩, rfl⟩) (s_nil ?_)
    unfold R_known_most_2
    refine s_ifIs (d_gV (d_op rfl rfl (in_ints 3 ps))) (fun e => ?_) fun e => ?_
    · refine s_assoc (s_ret ?_)
      show (bind2 (bind1 (bVar 0) (fldC (γ "Group") "size")) (eC (.int 3)) fdivD _).wp _ _
      refine Is.wp (a := .int (prodI R / 3)) (d_op (size_at _ rfl) rfl ⟨⟨by decide, by decide +kernel⟩, rfl⟩) ?_
      show D.int _ = iD (if decide ((3 : Int) ∈ ps) then _ else _)
      rw [e]; rfl
    · unfold R_known_most_1
      refine s_nil (s_ret ?_)
      show D.non = iD (if decide ((3 : Int) ∈ ps) then _ else _)
      rw [e]; rfl
/-! #### the law's own helpers -/
theorem law_is_same (γ : Str → Addr) {d : D} (h : OkR d) : (S__law_is γ [d, d]).Is (.bl true) := by
  refine ret_wp (m := B__law_is γ _) ?_
  unfold B__law_is
  refine s_ret (Is.wp (a := .bl (decide ((toPy d).shown = (toPy d).shown))) (d_op (x := .str (toPy d).shown) (y := .str (toPy d).shown) (d_fn (xs := [d]) rfl ⟨h, rfl⟩) (d_fn (xs := [d]) rfl ⟨h, rfl⟩) rfl) ?_)
  show D.bl _ = D.bl true
  rw [decide_eq_true rfl]
theorem draw_wp {many : Int} {Q : D → Prop} {E : Err → Prop} (h0 : 0 < many) (h1 : many < 2 ^ 4000) (q : ∀ d, 0 ≤ d → d < many → Q (.int d)) : (drawD [.hand, .int many]).wp Q E := ⟨⟨h0, h1⟩, fun d ⟨a, b⟩ => q d a b⟩
theorem law_any_wp (γ : Str → Addr) {l : List D} {Q : D → Prop} {E : Err → Prop} (h0 : l ≠ []) (h1 : l.length ≤ 100000) (q : ∀ d ∈ l, Q d) : (S__law_any γ [.hand, .lst l]).wp Q E := by
  refine ret_wp (m := B__law_any γ _) ?_
  unfold B__law_any
  refine s_ret ?_
  show (vCall 2 drawD (aCons (eVar 0) (aCons (bindA (aCons (bVar 1) aNil) lenD) aNil)) [.frz .hand, .frz (.lst l)]).wp (fun y => (ixD (.lst l) y).wp _ _) _
  have hl : 0 < l.length := by
    cases l with
    | nil => exact absurd rfl h0
    | cons a l => simp
  have big : ((100000 : Int)) < 2 ^ 4000 := by decide +kernel
  refine w_call (xs := [.hand, .int (l.length : Nat)]) rfl (draw_wp (by omega) (by omega) fun d d0 d1 => ?_)
  obtain ⟨j, rfl⟩ := Int.eq_ofNat_of_zero_le d0
  have hj : j < l.length := by omega
  exact w_ofE (atI_nat (List.getElem?_eq_getElem hj)) (q _ (List.getElem_mem hj))

/-! #### the hand, the rounds -/
theorem cut_map {α β : Type} (f : α → β) (l : List α) (lo hi : Option Int) : cutD (l.map f) lo hi = (cutD l lo hi).map f := by
  unfold cutD
  rw [List.length_map, List.map_take, List.map_drop]
theorem cut_len {α : Type} (l : List α) (lo hi : Option Int) : (cutD l lo hi).length ≤ l.length := by
  unfold cutD
  rw [List.length_take, List.length_drop]
  omega
theorem pl_hand (γ : Str → Addr) (ns : List Int) (h : ns.length ≤ 63) : ∃ (cells : List Int) (m : Int), (S__law_hand γ [.scr (ns.map D.int)]).Is (.lst [.lst (cells.map D.int), .int 0, .int 0, .int m, .int 0]) := by
  have ec := cut_map D.int ns none (some 63)
  have lc := cut_len ns none (some 63)
  have e1 : (vSl (bVar 0) oNone (oSome (eC (.int 63))) (startE N__law_hand [.scr (ns.map D.int)])).Is (.lst ((cutD ns none (some 63)).map D.int)) := by
    rw [← ec]; exact rfl
  refine ⟨(cutD ns none (some 63)).map fun c => (if c < 0 then -c else c) % 10 ^ 36, 8209 + 13 * ((cutD ns none (some 63)).length : Nat), ?_⟩
  refine retO_wp (m := B__law_hand γ _) ?_
  unfold B__law_hand
  refine s_retO (Is.wp (d_lst (a_c (x := .lst (((cutD ns none (some 63)).map fun c => (if c < 0 then -c else c) % 10 ^ 36).map D.int)) ?_ (a_c (x := .int 0) rfl (a_c (x := .int 0) rfl (a_c (x := .int (8209 + 13 * ((cutD ns none (some 63)).length : Nat))) ?_ (a_c (x := .int 0) rfl a_n))))) (zl 5)) rfl)
  · rw [List.map_map]
    refine vLc_all D.int (cutD ns none (some 63)) _ (iter_lst e1) (by omega) fun c hc => ⟨_, rfl, ?_⟩
    exact ⟨⟨by decide, by decide, by decide⟩, by decide, rfl⟩
  · refine d_op (x := .int 8209) (y := .int (13 * ((cutD ns none (some 63)).length : Nat))) rfl (d_op (x := .int 13) (y := .int ((cutD ns none (some 63)).length : Nat)) rfl (d_fn (a1 e1) ?_) ⟨mul_n 13 (by decide) (by decide), rfl⟩) rfl
    show D.int (((cutD ns none (some 63)).map D.int).length : Nat) = _
    rw [List.length_map]
def rlist : List (List Int) := [[64], [2, 2, 2, 2, 2, 2], [4, 4, 4], [7, 9], [3, 1, 20], [1, 5, 1, 12], [2, 1, 4, 8], [61], [33], [6, 10], [8, 5], [3, 3, 2, 3], [12], [2, 4], [4, 1, 2], [1], [13], [3, 1, 2], [5], [2, 3], [2, 2, 2], [9], [3, 3], [16], [7], [1, 1, 1], [2], [11], [2, 6], [4, 4], [15], [14], [2, 2, 3], [8], [1, 10]]
theorem rlist_ok : ∀ R ∈ rlist, OkRounds R := by
  have h : ∀ R ∈ rlist, (1 ≤ R.length ∧ R.length ≤ 6) ∧ (∀ r ∈ R, 1 ≤ r ∧ r ≤ 64) ∧ prodI R ≤ 64 := by decide +kernel
  exact fun R hR => ⟨(h R hR).1, (h R hR).2.1, (h R hR).2.2⟩
theorem law_rounds_wp (γ : Str → Addr) {Q : D → Prop} {E : Err → Prop} (q : ∀ R ∈ rlist, Q (tpI R)) : (S__law_rounds γ [.hand, .int 64]).wp Q E := by
  refine ret_wp (m := B__law_rounds γ _) ?_
  unfold B__law_rounds
  refine s_go (env' := [.frz .hand, .frz (.int 64), .frz (lol (rlist.take 9)), .no]) ?_ ?_
  · repeat (refine ⟨by decide, ?_⟩)
    exact rfl
  refine s_go (env' := [.frz .hand, .frz (.int 64), .frz (lol (rlist.take 20)), .no]) ?_ ?_
  · repeat (refine ⟨by decide, ?_⟩)
    exact rfl
  refine s_go (env' := [.frz .hand, .frz (.int 64), .frz (lol (rlist.take 32)), .no]) ?_ ?_
  · repeat (refine ⟨by decide, ?_⟩)
    exact rfl
  refine s_go (env' := [.frz .hand, .frz (.int 64), .frz (lol rlist), .no]) ?_ ?_
  · repeat (refine ⟨by decide, ?_⟩)
    exact rfl
  have hlc : (vLc (iterD (bVar 2)) (gNm 3) (gV (bind2 (bindA (aCons (vCall 1 (S__law_members γ) (aCons (eVar 3) aNil)) aNil) lenD) (bVar 1) leD)) (eVar 3) [3] [.frz .hand, .frz (.int 64), .frz (lol rlist), .no]).Is (.lst ((rlist.filter fun _ => true).map tpI)) := by
    refine vLc_is tpI rlist _ _ rfl (by decide) fun R hR => ⟨[.frz .hand, .frz (.int 64), .frz (lol rlist), .frz (tpI R)], rfl, d_gV ?_, fun _ => rfl⟩
    have ok := rlist_ok R hR
    refine d_op (d_fn (a1 (d_call (xs := [tpI R]) rfl (law_members_ok γ R ok))) rfl) rfl ?_
    show D.bl (decide ((((elems R).map tpI).length : Int) ≤ 64)) = .bl true
    rw [List.length_map, decide_eq_true (by have := elems_small ok; omega)]
  rw [List.filter_eq_self.mpr fun _ _ => rfl] at hlc
  refine s_ret (w_call (xs := [.hand, .lst (rlist.map tpI)]) (a_c rfl (a1 hlc)) (law_any_wp γ (by decide) (by decide) fun d hd => ?_))
  obtain ⟨R, hR, rfl⟩ := List.mem_map.mp hd
  exact q R hR

/-! #### mathematics: lots without sums -/
theorem addZ_comm : ∀ (R : List Int) (x y : El), addZ R x y = addZ R y x
  | r :: R, a :: x, b :: y => by
    show (a + b) % r :: addZ R x y = (b + a) % r :: addZ R y x
    rw [addZ_comm R x y, Int.add_comm a b]
  | [], x, y => by cases x <;> cases y <;> rfl
  | _ :: _, [], y => by cases y <;> rfl
  | _ :: _, _ :: _, [] => rfl
theorem hsGo_none (R : List Int) (l : List El) : ∀ l' : List El, hsGo R l l' = none ↔ l'.Pairwise (fun x y => addZ R x y ∉ l) ∧ ∀ x ∈ l', addZ R x x ∉ l
  | [] => by simp [hsGo]
  | x :: r => by
    have ih := hsGo_none R l r
    unfold hsGo
    cases h : (x :: r).find? (fun y => decide (addZ R x y ∈ l)) with
    | some y =>
      have hy := List.find?_some h
      have hm := List.mem_of_find?_eq_some h
      have hy : addZ R x y ∈ l := of_decide_eq_true hy
      constructor
      · intro z; cases z
      · rintro ⟨h1, h2⟩
        exfalso
        rcases List.mem_cons.mp hm with e | e
        · subst e; exact h2 y (by simp) hy
        · exact (List.pairwise_cons.mp h1).1 y e hy
    | none =>
      have hn := List.find?_eq_none.mp h
      show hsGo R l r = none ↔ _
      rw [ih, List.pairwise_cons]
      constructor
      · rintro ⟨h1, h2⟩
        refine ⟨⟨fun y hy => ?_, h1⟩, fun y hy => ?_⟩
        · have := hn y (by simp [hy]); simpa using this
        · rcases List.mem_cons.mp hy with e | e
          · subst e; have := hn y (by simp); simpa using this
          · exact h2 y e
      · rintro ⟨⟨_, h1⟩, h2⟩
        exact ⟨h1, fun y hy => h2 y (by simp [hy])⟩
theorem pair_all {α : Type} {p : α → α → Prop} (hs : ∀ x y, p x y → p y x) : ∀ {l : List α}, l.Pairwise p → (∀ x ∈ l, p x x) → ∀ x ∈ l, ∀ y ∈ l, p x y
  | [], _, _, x, hx, _, _ => by cases hx
  | a :: l, h, h2, x, hx, y, hy => by
    obtain ⟨h1, h3⟩ := List.pairwise_cons.mp h
    rcases List.mem_cons.mp hx with e | ex <;> rcases List.mem_cons.mp hy with e' | ey
    · subst e; subst e'; exact h2 _ (by simp)
    · subst e; exact h1 y ey
    · subst e'; exact hs _ _ (h1 x ex)
    · exact pair_all hs h3 (fun z hz => h2 z (by simp [hz])) x ex y ey
theorem hs_none (R : List Int) (l : List El) : hs R l = none ↔ ∀ x ∈ l, ∀ y ∈ l, addZ R x y ∉ l := by
  unfold hs
  rw [hsGo_none]
  constructor
  · rintro ⟨h1, h2⟩
    exact pair_all (fun x y h => by rw [addZ_comm]; exact h) h1 h2
  · intro h
    refine ⟨?_, fun x hx => h x hx x hx⟩
    have : ∀ l' : List El, (∀ x ∈ l', x ∈ l) → l'.Pairwise (fun x y => addZ R x y ∉ l) := by
      intro l'
      induction l' with
      | nil => intro _; exact List.Pairwise.nil
      | cons a l' ih =>
        intro hl
        exact List.pairwise_cons.mpr ⟨fun y hy => h a (hl a (by simp)) y (hl y (by simp [hy])), ih fun z hz => hl z (by simp [hz])⟩
    exact this l fun x hx => hx
theorem hs_mem {R : List Int} {l m : List El} (h : ∀ x, x ∈ l ↔ x ∈ m) : hs R l = none ↔ hs R m = none := by
  rw [hs_none, hs_none]
  constructor
  · intro z x hx y hy q
    exact z x ((h x).mpr hx) y ((h y).mpr hy) ((h _).mpr q)
  · intro z x hx y hy q
    exact z x ((h x).mp hx) y ((h y).mp hy) ((h _).mp q)
theorem sortT_mem (l : List El) (x : El) : x ∈ sortT l ↔ x ∈ l := (List.mergeSort_perm l leT).mem_iff
theorem canTake_iff {R : List Int} {l : List El} {x : El} (h : hs R l = none) : canTake R l x = true ↔ hs R (sortT (l ++ [x])) = none := by
  rw [hs_mem (m := l ++ [x]) (fun y => sortT_mem _ y), hs_none]
  rw [hs_none] at h
  unfold canTake
  simp only [Bool.and_eq_true, Bool.not_eq_true', decide_eq_false_iff_not, List.all_eq_true, Bool.or_eq_false_iff, List.any_eq_false, decide_eq_true_eq]
  constructor
  · rintro ⟨h1, h2, h3⟩ y hy z hz q
    rcases List.mem_append.mp hy with hy | hy <;> rcases List.mem_append.mp hz with hz | hz
    · rcases List.mem_append.mp q with q | q
      · exact h y hy z hz q
      · exact h3 y hy z hz (List.mem_singleton.mp q)
    · rw [List.mem_singleton.mp hz, addZ_comm] at q
      exact (h2 y hy).1 q
    · rw [List.mem_singleton.mp hy] at q
      exact (h2 z hz).1 q
    · rw [List.mem_singleton.mp hy, List.mem_singleton.mp hz] at q
      exact h1 q
  · intro z
    refine ⟨z x (by simp) x (by simp), fun y hy => ⟨z x (by simp) y (by simp [hy]), fun q => z y (by simp [hy]) y (by simp [hy]) (by rw [q]; simp)⟩, fun y hy w hw q => z y (by simp [hy]) w (by simp [hw]) (by rw [q]; simp)⟩
/-! the order of the elements -/
theorem lex_app : ∀ {a b : El}, a.length = b.length → HT.lexLt a b = true → ∀ i j : List Int, HT.lexLt (a ++ i) (b ++ j) = true
  | [], [], _, h, _, _ => by cases h
  | x :: a, y :: b, hl, h, i, j => by
    rw [HT.lexLt_cons] at h
    rw [List.cons_append, List.cons_append, HT.lexLt_cons]
    by_cases e : x = y
    · rw [if_pos e] at h ⊢
      exact lex_app (by simpa using hl) h i j
    · rw [if_neg e] at h ⊢
      exact h
  | [], _ :: _, hl, _, _, _ => by simp at hl
  | _ :: _, [], hl, _, _, _ => by simp at hl
theorem lex_last (a : El) {i j : Int} (h : i < j) : HT.lexLt (a ++ [i]) (a ++ [j]) = true := by
  induction a with
  | nil => show HT.lexLt [i] [j] = true; rw [HT.lexLt_cons, if_neg (by omega), decide_eq_true h]
  | cons x a ih => rw [List.cons_append, List.cons_append, HT.lexLt_cons, if_pos rfl]; exact ih
theorem extE_pair {f : List El} {n : Int} {k : Nat} (h : f.Pairwise fun x y => HT.lexLt x y = true) (hk : ∀ x ∈ f, x.length = k) : (extE f n).Pairwise fun x y => HT.lexLt x y = true := by
  induction f with
  | nil => exact List.Pairwise.nil
  | cons a f ih =>
    obtain ⟨h1, h2⟩ := List.pairwise_cons.mp h
    unfold extE
    rw [List.flatMap_cons]
    refine List.pairwise_append.mpr ⟨?_, ih h2 fun x hx => hk x (by simp [hx]), fun x hx y hy => ?_⟩
    · rw [List.pairwise_map]
      exact List.pairwise_lt_range.imp fun {i j} hij => lex_last a (by omega)
    · obtain ⟨i, _, rfl⟩ := List.mem_map.mp hx
      obtain ⟨row, hr, j, _, rfl⟩ := extE_mem (show y ∈ extE f n from hy)
      exact lex_app (by rw [hk a (by simp), hk row (by simp [hr])]) (h1 row hr) _ _
theorem elems_pair (R : List Int) : (elems R).Pairwise fun x y => HT.lexLt x y = true := by
  refine list_snoc (p := fun R => (elems R).Pairwise fun x y => HT.lexLt x y = true) ?_ (fun R r ih => ?_) R
  · exact List.pairwise_singleton _ _
  · rw [elems_snoc]
    exact extE_pair ih (elems_len R)
theorem inG_snoc : ∀ {R : List Int} {x : El} {r k : Int}, inG R x = true → 0 ≤ k → k < r → inG (R ++ [r]) (x ++ [k]) = true
  | [], [], r, k, _, h0, h1 => by
    show (decide (0 ≤ k ∧ k ≤ r - 1) && true) = true
    rw [decide_eq_true (by omega)]; rfl
  | q :: R, a :: x, r, k, h, h0, h1 => by
    have h : (decide (0 ≤ a ∧ a ≤ q - 1) && inG R x) = true := h
    rw [Bool.and_eq_true] at h
    show (decide (0 ≤ a ∧ a ≤ q - 1) && inG (R ++ [r]) (x ++ [k])) = true
    rw [h.1, inG_snoc h.2 h0 h1]; rfl
  | [], _ :: _, _, _, h, _, _ => by cases h
  | _ :: _, [], _, _, h, _, _ => by cases h
theorem elems_in (R : List Int) : ∀ x ∈ elems R, inG R x = true := by
  refine list_snoc (p := fun R => ∀ x ∈ elems R, inG R x = true) (fun x h => ?_) (fun R r ih x h => ?_) R
  · have : x = [] := by simpa [elems] using h
    rw [this]; rfl
  · rw [elems_snoc] at h
    obtain ⟨row, h1, k, hk, rfl⟩ := extE_mem h
    exact inG_snoc (ih row h1) (by omega) (by omega)
theorem asc_of : ∀ {l : List El}, (l.Pairwise fun x y => HT.lexLt x y = true) → asc l = true
  | [], _ => rfl
  | [x], _ => rfl
  | x :: y :: l, h => by
    obtain ⟨h1, h2⟩ := List.pairwise_cons.mp h
    have ih := asc_of h2
    unfold asc at ih ⊢
    show (HT.lexLt x y && _) = true
    rw [h1 y (by simp), Bool.true_and]
    exact ih
theorem isLot_of {R : List Int} {l : List El} (h1 : ∀ x ∈ l, inG R x = true) (h2 : l.Pairwise fun x y => HT.lexLt x y = true) : isLot R l = true := by
  unfold isLot
  rw [asc_of h2, Bool.and_true, List.all_map, List.all_eq_true]
  exact h1
theorem isLot_sub {R : List Int} {l : List El} (h : l.Sublist (elems R)) : isLot R l = true := isLot_of (fun x hx => elems_in R x (h.subset hx)) (List.Pairwise.sublist h (elems_pair R))
/-- a lot and one element more, sorted -/
theorem sortT_pair {l : List El} (h : l.Nodup) : (sortT l).Pairwise fun x y => HT.lexLt x y = true := by
  have h1 : (sortT l).Pairwise (fun x y => HT.lexLt y x = false) := by
    have := List.pairwise_mergeSort (le := leT) (fun a b c h1 h2 => by
      unfold leT at *
      rw [Bool.not_eq_true'] at *
      exact SrtO.lx_tr a b c h1 h2) (fun a b => by
      unfold leT
      cases h : HT.lexLt b a with
      | false => rfl
      | true =>
        have e : HT.lexLt a b = false := SrtO.lx_asym b a h
        rw [e]; rfl) l
    exact this.imp fun h => by
      unfold leT at h
      rw [Bool.not_eq_true'] at h
      exact h
  have h2 : (sortT l).Nodup := (List.mergeSort_perm l leT).nodup_iff.mpr h
  refine (h1.and h2).imp fun {x y} ⟨a, b⟩ => ?_
  cases q : HT.lexLt x y with
  | true => rfl
  | false => exact absurd (SrtO.lx_tot x y q a) b
theorem elems_nodup (R : List Int) : (elems R).Nodup := (elems_pair R).imp fun {x y} h e => by
  subst e
  rw [show HT.lexLt x x = false from SrtO.lx_irr x] at h
  cases h
theorem isLot_more {R : List Int} {l : List El} {x : El} (h : l.Sublist (elems R)) (hx : x ∈ elems R) (hn : x ∉ l) : isLot R (sortT (l ++ [x])) = true := by
  refine isLot_of (fun y hy => ?_) (sortT_pair ?_)
  · rcases List.mem_append.mp ((sortT_mem _ _).mp hy) with hy | hy
    · exact elems_in R y (h.subset hy)
    · rw [List.mem_singleton.mp hy]; exact elems_in R x hx
  · rw [List.nodup_append]
    exact ⟨(elems_nodup R).sublist h, by simp, fun a ha b hb e => hn (by rw [← List.mem_singleton.mp hb, ← e]; exact ha)⟩

/-! #### the lots that are made -/
def mid (h v : Int) : Bool := decide (h / 3 + 1 ≤ v) && decide (v < (2 * h + 2) / 3)
def at_ (x : El) (p : Nat) : Int := x.getD p 0
def wsum (x : El) (ws : List (Nat × Int)) : Int := (ws.map fun t => at_ x t.1 * t.2).sum
def same (R : List Int) (h : Int) : List Nat := (List.range R.length).filter fun p => decide (at_ R p = h)
def Made (R : List Int) (l : List El) : Prop := ∃ (p : Nat) (h : Int), p < R.length ∧ at_ R p = h ∧
  ((h % 2 = 0 ∧ l = (elems R).filter fun x => decide (at_ x p % 2 = 1)) ∨ (1 < h ∧ l = (elems R).filter fun x => mid h (at_ x p)) ∨
    ∃ ws : List (Nat × Int), ws.map (·.1) = same R h ∧ (∀ t ∈ ws, 1 ≤ t.2 ∧ t.2 ≤ h) ∧ l = (elems R).filter fun x => mid h (wsum x ws % h) && decide (1 < h))
theorem mid_free {h a b : Int} (hh : 1 < h) (ha : mid h a = true) (hb : mid h b = true) : mid h ((a + b) % h) = false := by
  unfold mid at *
  simp only [Bool.and_eq_true, decide_eq_true_eq] at ha hb
  have e : (a + b) % h = a + b ∨ (a + b) % h = a + b - h := by
    by_cases q : a + b < h
    · left; exact Int.emod_eq_of_lt (by omega) q
    · right
      have : (a + b) % h = (a + b - h) % h := by rw [Int.sub_emod_right]
      rw [this]; exact Int.emod_eq_of_lt (by omega) (by omega)
  rw [Bool.and_eq_false_iff]
  rcases e with e | e <;> rw [e]
  · right; exact decide_eq_false (by omega)
  · left; exact decide_eq_false (by omega)
theorem addZ_at : ∀ {R : List Int} {x y : El} {p : Nat}, inG R x = true → inG R y = true → p < R.length → at_ (addZ R x y) p = (at_ x p + at_ y p) % at_ R p
  | r :: R, a :: x, b :: y, 0, _, _, _ => rfl
  | r :: R, a :: x, b :: y, p + 1, hx, hy, hp => by
    have hx : (decide (0 ≤ a ∧ a ≤ r - 1) && inG R x) = true := hx
    have hy : (decide (0 ≤ b ∧ b ≤ r - 1) && inG R y) = true := hy
    rw [Bool.and_eq_true] at hx hy
    exact addZ_at (R := R) hx.2 hy.2 (by simpa using hp)
  | [], _, _, _, _, _, hp => by simp at hp
  | _ :: _, [], _, _, hx, _, _ => by cases hx
  | _ :: _, _ :: _, [], _, _, hy, _ => by cases hy
theorem wsum_add {R : List Int} {x y : El} {h : Int} (hx : inG R x = true) (hy : inG R y = true) : ∀ {ws : List (Nat × Int)}, (∀ t ∈ ws, t.1 < R.length ∧ at_ R t.1 = h) → wsum (addZ R x y) ws % h = (wsum x ws + wsum y ws) % h
  | [], _ => rfl
  | t :: ws, hw => by
    have ih := wsum_add hx hy (ws := ws) fun s hs => hw s (by simp [hs])
    obtain ⟨h1, h2⟩ := hw t (by simp)
    have e := addZ_at hx hy h1
    rw [h2] at e
    show (at_ (addZ R x y) t.1 * t.2 + wsum (addZ R x y) ws) % h = (at_ x t.1 * t.2 + wsum x ws + (at_ y t.1 * t.2 + wsum y ws)) % h
    rw [e]
    have e1 : (at_ x t.1 * t.2 + wsum x ws + (at_ y t.1 * t.2 + wsum y ws)) = (at_ x t.1 + at_ y t.1) * t.2 + (wsum x ws + wsum y ws) := by
      rw [Int.add_mul]; omega
    rw [e1, Int.add_emod, ih, Int.mul_emod, Int.emod_emod_of_dvd _ (Int.dvd_refl h), ← Int.mul_emod, ← Int.add_emod]
theorem same_at {R : List Int} {h : Int} {p : Nat} (hp : p ∈ same R h) : p < R.length ∧ at_ R p = h := by
  unfold same at hp
  obtain ⟨h1, h2⟩ := List.mem_filter.mp hp
  exact ⟨List.mem_range.mp h1, of_decide_eq_true h2⟩
theorem made_sub {R : List Int} {l : List El} (m : Made R l) : l.Sublist (elems R) := by
  obtain ⟨p, h, _, _, h1 | h1 | h1⟩ := m
  · rw [h1.2]; exact List.filter_sublist
  · rw [h1.2]; exact List.filter_sublist
  · obtain ⟨ws, _, _, e⟩ := h1
    rw [e]; exact List.filter_sublist
theorem made_free {R : List Int} {l : List El} (m : Made R l) : hs R l = none := by
  rw [hs_none]
  intro x hx y hy q
  have ix := elems_in R x ((made_sub m).subset hx)
  have iy := elems_in R y ((made_sub m).subset hy)
  obtain ⟨p, h, hp, ha, h1 | h1 | h1⟩ := m
  · obtain ⟨he, e⟩ := h1
    rw [e] at hx hy q
    have a := of_decide_eq_true (List.mem_filter.mp hx).2
    have b := of_decide_eq_true (List.mem_filter.mp hy).2
    have c := of_decide_eq_true (List.mem_filter.mp q).2
    rw [addZ_at ix iy hp, ha] at c
    have : (at_ x p + at_ y p) % h % 2 = (at_ x p + at_ y p) % 2 := Int.emod_emod_of_dvd _ (Int.dvd_of_emod_eq_zero he)
    omega
  · obtain ⟨hh, e⟩ := h1
    rw [e] at hx hy q
    have a := (List.mem_filter.mp hx).2
    have b := (List.mem_filter.mp hy).2
    have c := (List.mem_filter.mp q).2
    rw [addZ_at ix iy hp, ha, mid_free hh a b] at c
    cases c
  · obtain ⟨ws, hw, _, e⟩ := h1
    rw [e] at hx hy q
    have a := (List.mem_filter.mp hx).2
    have b := (List.mem_filter.mp hy).2
    have c := (List.mem_filter.mp q).2
    rw [Bool.and_eq_true] at a b c
    have hh := of_decide_eq_true a.2
    have c1 := c.1
    rw [wsum_add ix iy fun t ht => same_at (h := h) (by rw [← hw]; exact List.mem_map_of_mem ht), Int.add_emod, mid_free hh a.1 b.1] at c1
    cases c1
/-! sizes: the groups that are dealt, one by one -/
def pps (n : Int) : List Int := if n ≤ 1 then [] else ((ppGo 100 n 2 []).getD []).map (·.1)
def allWs (h : Nat) : List Nat → List (List (Nat × Int))
  | [] => [[]]
  | p :: r => (List.range h).flatMap fun (t : Nat) => (allWs h r).map fun ws => (p, ((t : Int) + 1)) :: ws
def cntLe (k : Int) (l : List El) (p : El → Bool) : Bool := decide (((l.filter p).length : Int) ≤ k)
def chk (R : List Int) : Bool := (match kmost (prodI R) (pps (prodI R)) with
  | none => true
  | some k => (List.range R.length).all fun p => let h := at_ R p; (decide (h % 2 ≠ 0) || cntLe k (elems R) fun x => decide (at_ x p % 2 = 1)) && (decide (h ≤ 1) || cntLe k (elems R) fun x => mid h (at_ x p))) &&
  ((pps (prodI R)).all (fun p => decide (1 ≤ p ∧ p ≤ 64)) && (decide ((pps (prodI R)).length ≤ 1000) && (decide (prodI R ≤ 1) || ((ppGo 100 (prodI R) 2 []).isSome && decide (((ppGo 100 (prodI R) 2 []).getD []).length ≤ 1000)))))
def chk2 (R : List Int) : Bool := match kmost (prodI R) (pps (prodI R)) with
  | none => true
  | some k => R.eraseDups.all fun h => (allWs h.toNat (same R h)).all fun ws => cntLe k (elems R) fun x => mid h (wsum x ws % h) && decide (1 < h)
theorem chk_all : rlist.all chk = true := by decide +kernel
theorem chk2_all : rlist.all chk2 = true := by decide +kernel

theorem allWs_mem : ∀ {h : Nat} {ws : List (Nat × Int)}, (∀ t ∈ ws, 1 ≤ t.2 ∧ t.2 ≤ h) → ws ∈ allWs h (ws.map (·.1))
  | _, [], _ => List.mem_singleton.mpr rfl
  | h, (p, c) :: ws, hb => by
    have hb1 := hb (p, c) (by simp)
    have ih := allWs_mem (ws := ws) fun t ht => hb t (by simp [ht])
    show (p, c) :: ws ∈ (List.range h).flatMap fun (t : Nat) => (allWs h (ws.map (·.1))).map fun ws => (p, ((t : Int) + 1)) :: ws
    refine List.mem_flatMap.mpr ⟨(c - 1).toNat, List.mem_range.mpr (by simp only at hb1; omega), List.mem_map.mpr ⟨ws, ih, ?_⟩⟩
    simp only at hb1
    rw [show (((c - 1).toNat : Nat) : Int) + 1 = c by omega]
theorem at_mem {R : List Int} {p : Nat} (hp : p < R.length) : at_ R p ∈ R := by
  unfold at_
  rw [List.getD_eq_getElem?_getD, List.getElem?_eq_getElem hp]
  exact List.getElem_mem hp
theorem made_size {R : List Int} (hR : R ∈ rlist) {l : List El} (m : Made R l) {k : Int} (hk : kmost (prodI R) (pps (prodI R)) = some k) : (l.length : Int) ≤ k := by
  have c1 := List.all_eq_true.mp chk_all R hR
  have c2 := List.all_eq_true.mp chk2_all R hR
  unfold chk at c1
  unfold chk2 at c2
  rw [hk] at c1 c2
  rw [Bool.and_eq_true] at c1
  have c1 := c1.1
  have hpos := (rlist_ok R hR).pos
  obtain ⟨p, h, hp, ha, h1 | h1 | h1⟩ := m
  · have q := List.all_eq_true.mp c1 p (List.mem_range.mpr hp)
    simp only [ha, Bool.and_eq_true, Bool.or_eq_true] at q
    rcases q.1 with q | q
    · exact absurd h1.1 (of_decide_eq_true q)
    · rw [h1.2]; exact of_decide_eq_true q
  · have q := List.all_eq_true.mp c1 p (List.mem_range.mpr hp)
    simp only [ha, Bool.and_eq_true, Bool.or_eq_true] at q
    rcases q.2 with q | q
    · have := of_decide_eq_true q; omega
    · rw [h1.2]; exact of_decide_eq_true q
  · obtain ⟨ws, e1, e2, e3⟩ := h1
    have hm : h ∈ R := by rw [← ha]; exact at_mem hp
    have h0 := (hpos h hm).1
    have q := List.all_eq_true.mp c2 h (List.mem_eraseDups.mpr hm)
    have q := List.all_eq_true.mp q ws (by
      rw [← e1]
      exact allWs_mem fun t ht => by have := e2 t ht; omega)
    rw [e3]; exact of_decide_eq_true q
theorem most_ok (γ : Str → Addr) {R : List Int} (hR : R ∈ rlist) : (S_known_most γ [grp γ R]).Is (iD (kmost (prodI R) (pps (prodI R)))) := by
  have c1 := List.all_eq_true.mp chk_all R hR
  unfold chk at c1
  rw [Bool.and_eq_true] at c1
  have c1 := c1.2
  simp only [Bool.and_eq_true, Bool.or_eq_true] at c1
  obtain ⟨c2, c3, c4⟩ := c1
  have c3 := of_decide_eq_true c3
  refine known_most_ok γ (rlist_ok R hR) ?_ (fun p hp => of_decide_eq_true (List.all_eq_true.mp c2 p hp)) c3
  by_cases h : prodI R ≤ 1
  · exact .inl ⟨h, by unfold pps; rw [if_pos h]⟩
  · right
    refine ⟨by omega, 100, (ppGo 100 (prodI R) 2 []).getD [], by decide, ?_, ?_, by unfold pps; rw [if_neg h]⟩
    · rcases c4 with c4 | c4
      · exact absurd (of_decide_eq_true c4) h
      · cases e : ppGo 100 (prodI R) 2 [] with
        | none => rw [e] at c4; exact absurd c4.1 (by decide)
        | some r => rfl
    · rcases c4 with c4 | c4
      · exact absurd (of_decide_eq_true c4) h
      · exact of_decide_eq_true c4.2

/-! #### a lot without sums, made -/
def w2 (t : Nat × Int) : D := .tup [.int t.1, .int t.2]
theorem ws_of {h : Int} : ∀ {l : List Nat} {ys : List D}, All2 (fun (k : Nat) (d : D) => ∃ c : Int, 1 ≤ c ∧ c ≤ h ∧ d = w2 (k, c)) l ys → ∃ ws : List (Nat × Int), ws.map (·.1) = l ∧ (∀ t ∈ ws, 1 ≤ t.2 ∧ t.2 ≤ h) ∧ ys = ws.map w2
  | _, _, .nil => ⟨[], rfl, (fun _ z => by cases z), rfl⟩
  | _, _, .cons (a := a) ⟨c, c1, c2, e⟩ r => by
    obtain ⟨ws, e1, e2, e3⟩ := ws_of r
    refine ⟨(a, c) :: ws, by rw [← e1]; rfl, fun t ht => ?_, by rw [e, e3]; rfl⟩
    rcases List.mem_cons.mp ht with q | q
    · rw [q]; exact ⟨c1, c2⟩
    · exact e2 t q
theorem law_made_wp (γ : Str → Addr) {R : List Int} (hR : OkRounds R) {Q : D → Prop} {E : Err → Prop} (q : ∀ l, Made R l → Q (lot l)) : (S__law_made γ [.hand, tpI R]).wp Q E := by
  have hlen := hR.len
  have hsm := elems_small hR
  have big : ((100000 : Int)) < 2 ^ 4000 := by decide +kernel
  refine ret_wp (m := B__law_made γ [.frz .hand, .frz (tpI R), .no, .no, .no, .no, .no, .no, .no, .no, .no, .no, .no, .no, .no]) ?_
  unfold B__law_made
  refine s_asgW (w_tup2 (w_call (xs := [.hand, .int (R.length : Nat)]) (a_c rfl (a1 (d_fn (a1 rfl) ?_))) (draw_wp (by omega) (by omega) fun d d0 d1 => ?_)))
  · show D.int ((R.map D.int).length : Nat) = _
    rw [List.length_map]
  obtain ⟨p, rfl⟩ := Int.eq_ofNat_of_zero_le d0
  have hp : p < R.length := by omega
  have hb := hR.pos _ (at_mem hp)
  have ixx : ∀ x ∈ elems R, atI (x.map D.int) (p : Int) = some (.int (at_ x p)) := fun x hx => at_nat (by rw [elems_len R x hx]; exact hp)
  refine Is.wp (d_call (xs := [tpI R]) rfl (law_members_ok γ R hR)) ⟨_, ⟨rfl, rfl⟩, ?_⟩
  simp only [List.set_cons_zero, List.set_cons_succ, slE, slN]
  refine s_go (g_set (d := .int (at_ R p)) (w_ofE (at_nat hp) rfl)) ?_
  simp only [List.set_cons_zero, List.set_cons_succ, slE, slN]
  refine s_setW (w_call (xs := [.hand, .int 3]) rfl (draw_wp (by decide) (by omega) fun kd k0 k1 => ?_))
  simp only [List.set_cons_zero, List.set_cons_succ, slE, slN]
  refine s_ifIs (d_and' (x := decide (kd = 0)) (y := decide (at_ R p % 2 = 0)) (d_gV (eq_int kd 0)) (fun _ => d_gV ⟨by decide, eq_int _ 0⟩)) (fun e => ?_) fun _ => ?_
  · rw [Bool.and_eq_true] at e
    refine s_assoc (s_ret (Is.wp (d_tupleL (vLc_is tpI (elems R) (fun x => decide (at_ x p % 2 = 1)) tpI (iter_lst rfl) (by omega) fun x hx => ⟨_, rfl, d_gV (d_op (d_op (d_fn (a1 (w_ofE (ixx x hx) rfl)) rfl) rfl ⟨by decide, rfl⟩) rfl (eq_int _ 1)), fun _ => rfl⟩)) ?_))
    exact q _ ⟨p, _, hp, rfl, .inl ⟨of_decide_eq_true e.2, rfl⟩⟩
  refine s_nil ?_
  unfold R__law_made_3
  refine s_asgW (w_tup2 (Is.wp (a := .int (at_ R p / 3 + 1)) (d_op (x := .int (at_ R p / 3)) (d_op (x := .int (at_ R p)) (y := .int 3) rfl rfl ⟨⟨by decide, by decide +kernel⟩, rfl⟩) rfl rfl) (Is.wp (a := .int ((2 * at_ R p + 2) / 3)) (d_op (x := .int (2 * at_ R p + 2)) (y := .int 3) (d_op (x := .int (2 * at_ R p)) (d_op (x := .int 2) (y := .int (at_ R p)) rfl rfl ⟨mul_n 2 (by decide) (by decide), rfl⟩) rfl rfl) rfl ⟨⟨by decide, by decide +kernel⟩, rfl⟩) ⟨_, ⟨rfl, rfl⟩, ?_⟩)))
  simp only [List.set_cons_zero, List.set_cons_succ, slE, slN]
  refine s_ifIs (d_and' (x := decide (kd = 1)) (y := decide (1 < at_ R p)) (d_gV (eq_int kd 1)) (fun _ => d_gV rfl)) (fun e => ?_) fun _ => ?_
  · rw [Bool.and_eq_true] at e
    refine s_assoc (s_ret (Is.wp (d_tupleL (vLc_is tpI (elems R) (fun x => mid (at_ R p) (at_ x p)) tpI (iter_lst rfl) (by omega) fun x hx => ⟨_, rfl, d_gV (d_chain (x := .int (at_ R p / 3 + 1)) (y := .int (at_ x p)) (w := .int ((2 * at_ R p + 2) / 3)) rfl (w_ofE (ixx x hx) rfl) rfl fun _ => ⟨rfl, rfl⟩), fun _ => rfl⟩)) ?_))
    exact q _ ⟨p, _, hp, rfl, .inr (.inl ⟨of_decide_eq_true e.2, rfl⟩)⟩
  refine s_nil ?_
  unfold R__law_made_2
  refine s_go (g_set (vLc_is (fun (k : Nat) => D.int k) (List.range R.length) (fun k => decide (at_ R k = at_ R p)) (fun (k : Nat) => D.int k) (range_is (by omega) (d_fn (a1 rfl) (by
    show D.int ((R.map D.int).length : Nat) = _
    rw [List.length_map]))) (by rw [List.length_range]; omega) fun k hk => ⟨_, rfl, d_gV (d_op (w_ofE (at_nat (List.mem_range.mp hk)) rfl) rfl (eq_int _ _)), fun _ => rfl⟩)) (s_fz ?_)
  rw [frzE_own (d := .lst ((same R (at_ R p)).map fun (k : Nat) => D.int k)) rfl]
  simp only [List.set_cons_zero, List.set_cons_succ, slE, slN]
  have hsl : (same R (at_ R p)).length ≤ 6 := by
    have := List.length_filter_le (fun k => decide (at_ R k = at_ R p)) (List.range R.length)
    rw [List.length_range] at this
    show ((List.range R.length).filter _).length ≤ 6
    omega
  refine s_setW (vLc_wpAll (R := fun (k : Nat) (d : D) => ∃ c : Int, 1 ≤ c ∧ c ≤ at_ R p ∧ d = w2 (k, c)) (fun (k : Nat) => D.int k) (same R (at_ R p)) (iter_lst rfl) (by omega) (fun k hk => ?_) fun ys hys => ?_)
  · refine Is.wp (m := M.pure _) (a := _) rfl (w_tup2 ?_)
    refine Is.wp (m := M.pure (D.int k)) rfl (w_op (Is.wp (m := M.pure (D.int 1)) rfl ?_))
    refine w_call (xs := [.hand, .int (at_ R p)]) rfl (draw_wp (by omega) (by omega) fun c c0 c1 => ⟨1 + c, by omega, by omega, rfl⟩)
  obtain ⟨ws, e1, e2, rfl⟩ := ws_of hys
  refine s_fz ?_
  rw [frzE_own (d := .lst (ws.map w2)) rfl]
  simp only [List.set_cons_zero, List.set_cons_succ, slE, slN]
  refine s_go (g_set (d_lst (xs := []) a_n (zl 0))) ?_
  simp only [List.set_cons_zero, List.set_cons_succ, slE, slN]
  refine s_for tpI (elems R) (fun pre env => ∃ o6 o12, env = [.frz .hand, .frz (tpI R), .frz (.int p), .frz (lol (elems R)), .frz (.int (at_ R p)), .frz (.int kd), o6, .frz (.int (at_ R p / 3 + 1)), .frz (.int ((2 * at_ R p + 2) / 3)), .frz (.lst ((same R (at_ R p)).map fun (k : Nat) => D.int k)), .frz (.lst (ws.map w2)), .own (.lst ((pre.filter fun x => mid (at_ R p) (wsum x ws % at_ R p) && decide (1 < at_ R p)).map tpI)), o12, .no, .no]) (iter_lst rfl) ⟨_, _, rfl⟩ (fun pre x post env e ⟨o6, o12, he⟩ => ?_) fun env ⟨o6, o12, he⟩ => ?_
  · subst he
    have hx : x ∈ elems R := by rw [e]; simp
    have hpre : pre.length ≤ 64 := by have := congrArg List.length e; simp at this; omega
    refine ⟨_, rfl, ?_⟩
    unfold L__law_made_1
    simp only [List.set_cons_zero, List.set_cons_succ, slE, slN]
    refine s_go (g_set (d := .int (wsum x ws % at_ R p)) (d_op (x := .int (wsum x ws)) (y := .int (at_ R p)) (d_fn (a1 (d_sum (l := ws.map fun (t : Nat × Int) => at_ x t.1 * t.2) ?_)) rfl) rfl ⟨by omega, rfl⟩)) ?_
    · rw [List.map_map]
      refine vLc_all w2 ws _ (iter_lst rfl) ?_ fun t ht => ⟨_, ⟨rfl, rfl⟩, ?_⟩
      · have := congrArg List.length e1; rw [List.length_map] at this; omega
      · have h1 : t.1 < R.length := (same_at (h := at_ R p) (by rw [← e1]; exact List.mem_map_of_mem ht)).1
        have h2 := e2 t ht
        exact d_op (w_ofE (at_nat (by rw [elems_len R x hx]; exact h1)) rfl) rfl ⟨mul_r t.2 (by omega) (by omega), rfl⟩
    · simp only [List.set_cons_zero, List.set_cons_succ, slE, slN]
      refine s_go (g_extend rfl (m := (if mid (at_ R p) (wsum x ws % at_ R p) && decide (1 < at_ R p) then [x] else []).map tpI) (d_if (d_and' (x := mid (at_ R p) (wsum x ws % at_ R p)) (y := decide (1 < at_ R p)) (d_gV (d_chain (x := .int (at_ R p / 3 + 1)) (y := .int (wsum x ws % at_ R p)) (w := .int ((2 * at_ R p + 2) / 3)) rfl rfl rfl fun _ => ⟨rfl, rfl⟩)) (fun _ => d_gV rfl)) (fun z => ?_) fun z => ?_) ?_) (s_end ?_)
      · rw [if_pos z]; exact d_lst (xs := [tpI x]) (a1 rfl) (zl 1)
      · rw [if_neg (by rw [z]; decide)]; exact d_lst (xs := []) a_n (zl 0)
      · have := List.length_filter_le (fun x => mid (at_ R p) (wsum x ws % at_ R p) && decide (1 < at_ R p)) pre
        rw [List.length_map, List.length_map]
        split <;> simp <;> omega
      · refine ⟨.frz (tpI x), .frz (.int (wsum x ws % at_ R p)), ?_⟩
        rw [← List.map_append]
        have e4 : (pre ++ [x]).filter (fun x => mid (at_ R p) (wsum x ws % at_ R p) && decide (1 < at_ R p)) = pre.filter (fun x => mid (at_ R p) (wsum x ws % at_ R p) && decide (1 < at_ R p)) ++ (if mid (at_ R p) (wsum x ws % at_ R p) && decide (1 < at_ R p) then [x] else []) := by
          rw [List.filter_append, filter_one]
        rw [e4]
        rfl
  · subst he
    unfold R__law_made_1
    refine s_ret (Is.wp (d_tupleL rfl) ?_)
    exact q _ ⟨p, _, hp, rfl, .inr (.inr ⟨ws, e1, e2, rfl⟩)⟩

/-! #### what the law needs of its values -/
theorem hsGo_some {R : List Int} {l : List El} {x y z : El} : ∀ {l' : List El}, hsGo R l l' = some (x, y, z) → x ∈ l' ∧ y ∈ l' ∧ z ∈ l
  | [], h => by cases h
  | a :: r, h => by
    unfold hsGo at h
    cases q : (a :: r).find? (fun y => decide (addZ R a y ∈ l)) with
    | some b =>
      rw [q] at h
      cases h
      have q2 := List.find?_some q
      exact ⟨by simp, List.mem_of_find?_eq_some q, of_decide_eq_true q2⟩
    | none =>
      rw [q] at h
      obtain ⟨h1, h2, h3⟩ := hsGo_some (l' := r) h
      exact ⟨by simp [h1], by simp [h2], h3⟩
theorem oD_none (o : Option (El × El × El)) : isNon (oD o) = o.isNone := by
  rcases o with _ | ⟨x, y, z⟩ <;> rfl
theorem okD_oD (n : Nat) (o : Option (El × El × El)) : okD (n + 2) (oD o) = true := by
  rcases o with _ | ⟨x, y, z⟩
  · rfl
  · show ([tpI x, tpI y, tpI z]).all (okD (n + 1)) = true
    simp [okD_tpI]
theorem inG_sm : ∀ {R : List Int} {x : El}, (∀ r ∈ R, r ≤ 64) → inG R x = true → ∀ i ∈ x, i.natAbs < 2 ^ 64
  | [], [], _, _ => fun _ h => by cases h
  | r :: R, a :: x, hr, h => by
    have h : (decide (0 ≤ a ∧ a ≤ r - 1) && inG R x) = true := h
    rw [Bool.and_eq_true, decide_eq_true_eq] at h
    have h1 := hr r (by simp)
    intro i hi
    rcases List.mem_cons.mp hi with e | e
    · rw [e]; omega
    · exact inG_sm (fun r h => hr r (by simp [h])) h.2 i e
  | [], _ :: _, _, h => by cases h
  | _ :: _, [], _, h => by cases h
theorem oD_sm {R : List Int} (hR : OkRounds R) {l : List El} (hl : ∀ x ∈ l, inG R x = true) : smD (oD (hs R l)) = true ∧ cntD (oD (hs R l)) ≤ 100 := by
  cases q : hs R l with
  | none => exact ⟨rfl, by decide⟩
  | some t =>
    obtain ⟨x, y, z⟩ := t
    obtain ⟨h1, h2, h3⟩ := hsGo_some (show hsGo R l l = _ from q)
    have sm : ∀ x ∈ l, smD (tpI x) = true := fun x hx => Zf.sm_tpI (inG_sm (fun r h => (hR.pos r h).2) (hl x hx))
    have ln : ∀ x ∈ l, cntD (tpI x) ≤ 6 := fun x hx => by rw [cnt_tpI, inG_len (hl x hx)]; exact hR.len.2
    refine ⟨?_, ?_⟩
    · show (smD (tpI x) && (smD (tpI y) && (smD (tpI z) && true))) = true
      rw [sm x h1, sm y h2, sm z h3]; rfl
    · show cntD (tpI x) + 1 + (cntD (tpI y) + 1 + (cntD (tpI z) + 1 + 0)) ≤ 100
      have := ln x h1; have := ln y h2; have := ln z h3; omega
theorem okR_two (a : D) (b : D) (h1 : okD 15 a = true) (h2 : okD 15 b = true) (h3 : smD a = true) (h4 : smD b = true) (h5 : cntD a ≤ 100) (h6 : cntD b ≤ 100) : OkR (.lst [a, b]) := by
  refine okR_sm ?_ ?_ ?_
  · show ([a, b]).all (okD 15) = true
    simp [h1, h2]
  · show (smD a && (smD b && true)) = true
    rw [h3, h4]; rfl
  · show cntD a + 1 + (cntD b + 1 + 0) ≤ 200000
    omega
theorem okR_bl (b : Bool) : OkR (.bl b) := okR_sm (okD_bl 16 b) rfl (by show 0 ≤ 200000; decide)
theorem ints_tpI {l : List El} (h : l ≠ []) : intsOf (l.map tpI) = none := by
  cases l with
  | nil => exact absurd rfl h
  | cons a l => rfl
theorem sorted_els {l : List El} (h0 : l ≠ []) (h : ∀ t ∈ l, t ≠ []) : (sortedD [lot l]).Is (lol (sortT l)) := by
  unfold sortedD lot
  dsimp only
  rw [ints_tpI h0, tupsOf_map l h]
  rfl
theorem notIn_tried (R : List Int) (l : List El) (f : List El) (h : ∀ x ∈ l, canTake R f x = (hs R (sortT (f ++ [x]))).isNone) : (notInD .non (.lst ((l.filter fun x => !decide (x ∈ f)).map fun x => oD (hs R (sortT (f ++ [x])))))).Is (.bl (!(l.any fun x => !decide (x ∈ f) && canTake R f x))) := by
  refine ⟨⟨rfl, ?_⟩, ?_⟩
  · show (((l.filter fun x => !decide (x ∈ f)).map fun x => oD (hs R (sortT (f ++ [x])))).all (okD 15)) = true
    rw [List.all_map, List.all_eq_true]
    exact fun x _ => okD_oD 13 _
  · show D.bl (!(((l.filter fun x => !decide (x ∈ f)).map fun x => oD (hs R (sortT (f ++ [x])))).any fun z => deq z .non)) = _
    rw [List.any_map, List.any_filter]
    have e : ∀ o, deq (oD o) .non = o.isNone := fun o => by rcases o with _ | ⟨x, y, z⟩ <;> rfl
    congr 2
    rw [Bool.eq_iff_iff, List.any_eq_true, List.any_eq_true]
    constructor
    · rintro ⟨x, hx, q⟩
      refine ⟨x, hx, ?_⟩
      rw [h x hx, ← e]; exact q
    · rintro ⟨x, hx, q⟩
      refine ⟨x, hx, ?_⟩
      rw [h x hx, ← e] at q; exact q
theorem free_sub {R : List Int} {l l' : List El} (s : l'.Sublist l) (h : hs R l = none) : hs R l' = none := by
  rw [hs_none] at h ⊢
  exact fun x hx y hy q => h x (s.subset hx) y (s.subset hy) (s.subset q)
theorem all2_map {l : List El} {ys : List D} (h : All2 (fun x d => d = tpI x) l ys) : ys = l.map tpI := by
  induction h with
  | nil => rfl
  | cons e _ ih => rw [e, ih]; rfl
theorem can_is {R : List Int} {f : List El} {x : El} (h : hs R f = none) : canTake R f x = (hs R (sortT (f ++ [x]))).isNone := by
  rw [Bool.eq_iff_iff, canTake_iff h, Option.isNone_iff_eq_none]

/-! #### the law -/
theorem w_fn1 {f : Env → M D} {op : List D → M D} {env : Env} {P : D → Prop} {E : Err → Prop} (h : (f env).wp (fun x => (op [x]).wp P E) E) : (bindA (aCons f aNil) op env).wp P E := h
theorem w_gV {f : Env → M D} {env : Env} {P : Bool → Prop} {E : Err → Prop} (h : (f env).wp (fun x => (boolD x).wp P E) E) : (gV f env).wp P E := h
theorem w_tup1 {f : Env → M D} {env : Env} {P : D → Prop} {E : Err → Prop} (h : (f env).wp (fun x => P (.tup [x])) E) : (eTup (aCons f aNil) env).wp P E := (f env).mono (fun x q => ⟨zl 1, q⟩) (fun _ z => z) h
def LI (s : D) : Env → Prop := fun env => ∃ o2 o3 o4 o5 o6 o7 o8 o9 o10 o11 o12 o13 o14 : Slot, env = [.frz s, .frz .hand, o2, o3, o4, o5, o6, o7, o8, o9, o10, o11, o12, o13, o14]
def LJ (γ : Str → Addr) (s : D) (R : List Int) : Env → Prop := fun env => ∃ o2 o6 o7 o8 o9 o10 o11 o12 o13 o14 : Slot, env = [.frz s, .frz .hand, o2, .frz (tpI R), .frz (grp γ R), .frz (lol (elems R)), o6, o7, o8, o9, o10, o11, o12, o13, o14]
theorem elems_ne {R : List Int} (hR : OkRounds R) : ∀ x ∈ elems R, x ≠ [] := fun x hx e => by
  have := elems_len R x hx
  rw [e] at this
  have := hR.len
  simp at *
  omega
theorem law_free (γ : Str → Addr) {R : List Int} (hR : R ∈ rlist) {f : List El} (sf : f.Sublist (elems R)) (ff : hs R f = none) {s : D} {env : Env} (o2 o6 o7 o8 o10 o11 o12 o13 o14 : Slot) {P : Fl → Prop} {E : Err → Prop}
    (he : env = [.frz s, .frz .hand, o2, .frz (tpI R), .frz (grp γ R), .frz (lol (elems R)), o6, o7, o8, .frz (lot f), o10, o11, o12, o13, o14]) (q : ∀ env, LJ γ s R env → P (.nx env)) : (L_law_1 γ env).wp P E := by
  have ok := rlist_ok R hR
  have hsm := elems_small ok
  have hf := sf.length_le
  have add1 : ∀ (env : Env) (fa : Env → M D) (x : El), (fa env).Is (lot f) → ∀ P : D → Prop, P (lot (f ++ [x])) → (addD (lot f) (lot [x])).wp P E := fun env fa x _ P p => ⟨by
    show (f.map tpI).length + 1 ≤ sizeLine
    rw [List.length_map]; exact zl_of (by omega), by
    show P (.tup (f.map tpI ++ [tpI x]))
    have e : f.map tpI ++ [tpI x] = (f ++ [x]).map tpI := by rw [List.map_append]; rfl
    rw [e]; exact p⟩
  have ne1 : ∀ x ∈ elems R, ∀ t ∈ f ++ [x], t ≠ [] := fun x hx t ht => by
    rcases List.mem_append.mp ht with h | h
    · exact elems_ne ok t (sf.subset h)
    · rw [List.mem_singleton.mp h]; exact elems_ne ok x hx
  subst he
  unfold L_law_1
  refine s_go (g_set (vLc_is tpI (elems R) (fun x => !decide (x ∈ f)) (fun x => oD (hs R (sortT (f ++ [x])))) (iter_lst rfl) (by omega) fun x hx => ⟨_, rfl, d_gV (d_op (x := tpI x) (y := lot f) rfl rfl (notIn_lot x f)), fun _ => ?_⟩)) (s_fz ?_)
  · refine d_call (xs := [tpI R, lot (sortT (f ++ [x]))]) (a_c rfl (a1 (d_tupleL (d_fn (xs := [lot (f ++ [x])]) (a1 (d_op (x := lot f) (y := lot [x]) rfl (d_tup (xs := [tpI x]) rfl (zl 1)) ?_)) (sorted_els (by simp) (ne1 x hx)))))) (law_has_sum_ok γ R _ ok)
    refine ⟨?_, ?_⟩
    · show (f.map tpI).length + 1 ≤ sizeLine
      rw [List.length_map]; exact zl_of (by omega)
    · show D.tup (f.map tpI ++ [tpI x]) = _
      have e : f.map tpI ++ [tpI x] = (f ++ [x]).map tpI := by rw [List.map_append]; rfl
      rw [e]; rfl
  rw [frzE_own (d := .lst (((elems R).filter fun x => !decide (x ∈ f)).map fun x => oD (hs R (sortT (f ++ [x]))))) rfl]
  simp only [List.set_cons_zero, List.set_cons_succ, slE, slN]
  have hful : (!((elems R).any fun x => !decide (x ∈ f) && canTake R f x)) = isFull R f := by
    unfold isFull
    rw [isLot_sub sf, ff]; rfl
  refine s_ifF (d_not (x := true) (d_gV (d_call (xs := [.bl (isFull R f), .bl (isFull R f)]) (a_c (d_call (xs := [grp γ R, lot f]) rfl (is_full_ok γ R f ok (by omega))) (a1 (d_op (x := .non) rfl rfl ?_))) (law_is_same γ (okR_bl _))))) (s_nil ?_)
  · have := notIn_tried R (elems R) f fun x _ => can_is ff
    rw [hful] at this
    exact this
  unfold R_law_2
  refine s_go (g_set (vLc_is tpI (elems R) (fun x => !decide (x ∈ f)) tpI (iter_lst rfl) (by omega) fun x hx => ⟨_, rfl, d_gV (d_op (x := tpI x) (y := lot f) rfl rfl (notIn_lot x f)), fun _ => rfl⟩)) (s_fz ?_)
  rw [frzE_own (d := lol ((elems R).filter fun x => !decide (x ∈ f))) rfl]
  simp only [List.set_cons_zero, List.set_cons_succ, slE, slN]
  refine s_ifIs (b := !decide (((elems R).filter fun x => !decide (x ∈ f)) = [])) (d_gV (d_op (x := lol ((elems R).filter fun x => !decide (x ∈ f))) (y := lol []) rfl (d_lst (xs := []) a_n (zl 0)) ⟨⟨okD_lol 14 _, rfl⟩, ?_⟩)) (fun e => ?_) fun _ => s_nil (s_nil (s_end ?_))
  · show D.bl (!deq (lol _) (lol [])) = _
    rw [deq_lol]
  · have hne : ((elems R).filter fun x => !decide (x ∈ f)) ≠ [] := by simpa using e
    have hln := List.length_filter_le (fun x => !decide (x ∈ f)) (elems R)
    refine s_assoc (s_setW (w_fn1 (w_fn1 (w_op (Is.wp (a := lot f) rfl (w_tup1 (w_call (xs := [.hand, lol ((elems R).filter fun x => !decide (x ∈ f))]) rfl (law_any_wp γ (by simpa using hne) (by rw [List.length_map]; omega) fun d hd => ?_))))))))
    obtain ⟨x, hx, rfl⟩ := List.mem_map.mp hd
    obtain ⟨hx1, hx2⟩ := List.mem_filter.mp hx
    have hx2 : x ∉ f := by simpa using hx2
    refine add1 [.frz (lot f)] (bVar 0) x rfl _ (Is.wp (sorted_els (by simp) (ne1 x hx1)) ?_)
    refine Is.wp (a := lot (sortT (f ++ [x]))) rfl ?_
    simp only [List.set_cons_zero, List.set_cons_succ, slE, slN]
    have hm1 : isLot R (sortT (f ++ [x])) = true := isLot_more sf hx1 hx2
    have hml : (sortT (f ++ [x])).length ≤ 1000 := by
      unfold sortT
      rw [List.length_mergeSort, List.length_append]
      show f.length + 1 ≤ 1000
      omega
    have hmi : ∀ y ∈ sortT (f ++ [x]), inG R y = true := fun y hy => by
      rcases List.mem_append.mp ((sortT_mem _ _).mp hy) with hy | hy
      · exact elems_in R y (sf.subset hy)
      · rw [List.mem_singleton.mp hy]; exact elems_in R x hx1
    have osm := oD_sm ok hmi
    refine s_assoc (s_go (g_set (d_call (xs := [tpI R, lot (sortT (f ++ [x]))]) rfl (law_has_sum_ok γ R _ ok))) ?_)
    simp only [List.set_cons_zero, List.set_cons_succ, slE, slN]
    have hsf := is_sum_free_ok γ R (sortT (f ++ [x])) ok hml
    rw [hm1, Bool.true_and] at hsf
    refine s_assoc (s_ifF (d_not (x := true) (d_gV (d_call (xs := [.lst [oD (hs R (sortT (f ++ [x]))), .bl (hs R (sortT (f ++ [x]))).isNone], .lst [oD (hs R (sortT (f ++ [x]))), .bl (hs R (sortT (f ++ [x]))).isNone]]) (a_c (d_lst (a_c (d_call (xs := [grp γ R, lot (sortT (f ++ [x]))]) rfl (has_sum_ok γ R _ ok hml hm1)) (a1 (d_call (xs := [grp γ R, lot (sortT (f ++ [x]))]) rfl hsf))) (zl 2)) (a1 (d_lst (a_c rfl (a1 (d_op (x := oD (hs R (sortT (f ++ [x])))) rfl rfl ?_))) (zl 2)))) (law_is_same γ (okR_two _ _ (okD_oD 13 _) (okD_bl 15 _) osm.1 rfl osm.2 (by show 0 ≤ 100; decide)))))) (s_nil ?_))
    · show D.bl (isNon _) = _
      rw [oD_none]
    unfold R_law_1
    refine s_assoc (s_ifF ?_ (s_nil (s_nil (s_nil (s_end ?_)))))
    · cases hq : hs R (sortT (f ++ [x])) with
      | none => exact d_and' (x := false) (y := false) (d_gV rfl) fun z => by cases z
      | some t =>
        refine d_and' (x := true) (y := false) (d_gV (by obtain ⟨a, b, c⟩ := t; rfl)) fun _ => d_gV (d_op (x := .bl false) (d_call (xs := [grp γ R, lot (sortT (f ++ [x]))]) rfl ?_) rfl rfl)
        have := is_full_ok γ R (sortT (f ++ [x])) ok hml
        have e : isFull R (sortT (f ++ [x])) = false := by
          unfold isFull
          rw [hq]; simp
        rw [e] at this
        exact this
    · exact q _ ⟨_, _, _, _, _, _, _, _, _, _, rfl⟩
  · exact q _ ⟨_, _, _, _, _, _, _, _, _, _, rfl⟩

theorem pl_law (γ : Str → Addr) : ∀ ns : List Int, ns.length ≤ 63 → (B1_law γ (startE N_law [.scr (ns.map D.int)])).wp (fun fl => ∃ env, fl = .nx env ∧ HandE 1 env ∧ (B2_law γ (env.set 1 (.frz .hand))).wp lawOk fun _ => False) fun _ => False := by
  intro ns hns
  obtain ⟨cells, m, hh⟩ := pl_hand γ ns hns
  have hB1 : (B1_law γ [.frz (.scr (ns.map D.int)), .no, .no, .no, .no, .no, .no, .no, .no, .no, .no, .no, .no, .no, .no]).Is (.nx [.frz (.scr (ns.map D.int)), .own (.lst [.lst (cells.map D.int), .int 0, .int 0, .int m, .int 0]), .no, .no, .no, .no, .no, .no, .no, .no, .no, .no, .no, .no, .no]) := by
    unfold B1_law
    exact g_set (d_call (xs := [.scr (ns.map D.int)]) (a1 rfl) hh)
  refine Is.wp hB1 ⟨_, rfl, ⟨⟨cells, 0, 0, m, 0, rfl, by decide⟩, rfl⟩, ?_⟩
  simp only [List.set_cons_zero, List.set_cons_succ]
  unfold B2_law
  refine s_for (fun (k : Nat) => D.int k) (List.range 3) (fun _ => LI (.scr (ns.map D.int))) (range_is (f := eC (.int 3)) (by decide) rfl) ⟨_, _, _, _, _, _, _, _, _, _, _, _, _, rfl⟩ (fun _ a _ env _ ⟨o2, o3, o4, o5, o6, o7, o8, o9, o10, o11, o12, o13, o14, he⟩ => ?_) fun env ⟨o2, o3, o4, o5, o6, o7, o8, o9, o10, o11, o12, o13, o14, he⟩ => ?_
  · subst he
    refine ⟨_, rfl, ?_⟩
    unfold L_law_2
    simp only [List.set_cons_zero, List.set_cons_succ]
    refine s_setW (w_call (xs := [.hand, .int 64]) rfl (law_rounds_wp γ fun R hR => ?_))
    simp only [List.set_cons_zero, List.set_cons_succ, slE, slN]
    have ok := rlist_ok R hR
    have hsm := elems_small ok
    refine s_go (g_par (d_call (xs := [tpI R]) rfl (group_made γ ok)) (d_call (xs := [tpI R]) rfl (law_members_ok γ R ok))) ?_
    simp only [List.set_cons_zero, List.set_cons_succ, slE, slN]
    refine s_setW (w_call (xs := [.hand, tpI R]) rfl (law_made_wp γ ok fun l hl => ?_))
    simp only [List.set_cons_zero, List.set_cons_succ, slE, slN]
    have sl := made_sub hl
    have fl := made_free hl
    have ll := sl.length_le
    have h1 := law_has_sum_ok γ R l ok
    have h2 := is_sum_free_ok γ R l ok (by omega)
    have h3 := has_sum_ok γ R l ok (by omega) (isLot_sub sl)
    rw [fl] at h1 h2 h3
    rw [isLot_sub sl] at h2
    refine s_ifF (d_gV (d_op (x := .non) (d_call (xs := [tpI R, lot l]) rfl h1) rfl rfl)) (s_nil ?_)
    unfold R_law_5
    refine s_ifF (d_not (x := true) (d_gV (d_call (xs := [.lst [.bl true, .non], .lst [.bl true, .non]]) (a_c (d_lst (a_c (d_call (xs := [grp γ R, lot l]) rfl h2) (a1 (d_call (xs := [grp γ R, lot l]) rfl h3))) (zl 2)) (a1 (d_lst (xs := [.bl true, .non]) rfl (zl 2)))) (law_is_same γ (okR_two _ _ rfl rfl rfl rfl (by decide) (by decide)))))) (s_nil ?_)
    unfold R_law_4
    refine s_go (g_set (d_call (xs := [grp γ R]) rfl (most_ok γ hR))) ?_
    simp only [List.set_cons_zero, List.set_cons_succ, slE, slN]
    refine s_ifF ?_ (s_nil ?_)
    · cases hk : kmost (prodI R) (pps (prodI R)) with
      | none => exact d_and' (x := false) (y := false) (d_gV rfl) fun z => by cases z
      | some k =>
        have hz := made_size hR hl hk
        have e2 : false = (true && decide (k < ((l.map tpI).length : Nat))) := by rw [List.length_map, decide_eq_false (by omega)]; rfl
        rw [e2]
        exact d_and' (d_gV rfl) fun _ => d_gV rfl
    unfold R_law_3
    refine s_setW (w_fn1 (vLc_wp (R := fun x d => d = tpI x) tpI l (iter_tup rfl) (by omega) (fun x hx => ?_) fun l' ys sub hys => ?_))
    · refine Is.wp (m := gNm 14 (tpI x) _) rfl (w_gV (w_op (w_call (xs := [.hand, .int 4]) rfl (draw_wp (by decide) (by decide +kernel) fun c c0 c1 => ?_))))
      exact fun _ => rfl
    rw [all2_map hys]
    refine Is.wp (a := lot l') rfl ?_
    simp only [List.set_cons_zero, List.set_cons_succ, slE, slN]
    refine s_for lot [l, l'] (fun _ => LJ γ (.scr (ns.map D.int)) R) (iter_tup (d_tup (xs := [lot l, lot l']) rfl (zl 2))) ⟨_, _, _, _, _, _, _, _, _, _, rfl⟩ (fun pre f post env hin ⟨p2, p6, p7, p8, p9, p10, p11, p12, p13, p14, he⟩ => ?_) fun env ⟨p2, p6, p7, p8, p9, p10, p11, p12, p13, p14, he⟩ => ?_
    · subst he
      refine ⟨_, rfl, ?_⟩
      have hf : f = l ∨ f = l' := by
        have : f ∈ [l, l'] := by rw [hin]; simp
        simpa using this
      have hf2 : f.Sublist (elems R) ∧ hs R f = none := by
        rcases hf with e | e
        · rw [e]; exact ⟨sl, fl⟩
        · rw [e]; exact ⟨sub.trans sl, free_sub sub fl⟩
      refine law_free γ hR hf2.1 hf2.2 p2 p6 p7 p8 p10 p11 p12 p13 p14 rfl fun env2 hj => hj
    · subst he
      exact s_end ⟨_, _, _, _, _, _, _, _, _, _, _, _, _, rfl⟩
  · subst he
    unfold R_law_6
    exact s_ret (show lawOk (.rt (.bl true)) from trivial)

/-! ### the text walked -/
def top (i : Nat) : Stmt := PySem.Challenge.pw_sumshall_k22_whole_free_lots_of_great_gr.main.body.getD i (.Pass ⟨0, 0, 0, 0⟩)
abbrev s__law_hand : Stmt := top 28
def d__law_hand : He.DefD := ⟨("_law_hand", none), "_law_hand", "_law_hand", defArgs s__law_hand, defBody s__law_hand, defScope s__law_hand, [], []⟩
abbrev s__law_draw : Stmt := top 29
def d__law_draw : He.DefD := ⟨("_law_draw", none), "_law_draw", "_law_draw", defArgs s__law_draw, defBody s__law_draw, defScope s__law_draw, [], []⟩
abbrev s__law_any : Stmt := top 30
def d__law_any : He.DefD := ⟨("_law_any", none), "_law_any", "_law_any", defArgs s__law_any, defBody s__law_any, defScope s__law_any, [], []⟩
abbrev s__law_members : Stmt := top 32
def d__law_members : He.DefD := ⟨("_law_members", none), "_law_members", "_law_members", defArgs s__law_members, defBody s__law_members, defScope s__law_members, [], []⟩
abbrev s__law_rounds : Stmt := top 31
def d__law_rounds : He.DefD := ⟨("_law_rounds", none), "_law_rounds", "_law_rounds", defArgs s__law_rounds, defBody s__law_rounds, defScope s__law_rounds, [], []⟩
abbrev s__law_made : Stmt := top 36
def d__law_made : He.DefD := ⟨("_law_made", none), "_law_made", "_law_made", defArgs s__law_made, defBody s__law_made, defScope s__law_made, [], []⟩
abbrev s_is_integer : Stmt := top 7
def d_is_integer : He.DefD := ⟨("is_integer", none), "is_integer", "is_integer", defArgs s_is_integer, defBody s_is_integer, defScope s_is_integer, [], []⟩
abbrev s_is_within : Stmt := top 8
def d_is_within : He.DefD := ⟨("is_within", none), "is_within", "is_within", defArgs s_is_within, defBody s_is_within, defScope s_is_within, [], []⟩
abbrev s_check_number : Stmt := top 10
def d_check_number : He.DefD := ⟨("check_number", none), "check_number", "check_number", defArgs s_check_number, defBody s_check_number, defScope s_check_number, [], []⟩
abbrev s_prime_powers : Stmt := top 11
def d_prime_powers : He.DefD := ⟨("prime_powers", none), "prime_powers", "prime_powers", defArgs s_prime_powers, defBody s_prime_powers, defScope s_prime_powers, [], []⟩
abbrev s_known_most : Stmt := top 25
def d_known_most : He.DefD := ⟨("known_most", none), "known_most", "known_most", defArgs s_known_most, defBody s_known_most, defScope s_known_most, [], []⟩
abbrev s_is_row : Stmt := top 9
def d_is_row : He.DefD := ⟨("is_row", none), "is_row", "is_row", defArgs s_is_row, defBody s_is_row, defScope s_is_row, [], []⟩
abbrev s_Group___init__ : Stmt := (clsB (top 15)).getD 0 (.Pass ⟨0, 0, 0, 0⟩)
def d_Group___init__ : He.DefD := ⟨("Group", some "__init__"), "__init__", "Group.__init__", defArgs s_Group___init__, defBody s_Group___init__, defScope s_Group___init__, [], []⟩
abbrev s__law_plus : Stmt := top 33
def d__law_plus : He.DefD := ⟨("_law_plus", none), "_law_plus", "_law_plus", defArgs s__law_plus, defBody s__law_plus, defScope s__law_plus, [], []⟩
abbrev s__law_has_sum : Stmt := top 35
def d__law_has_sum : He.DefD := ⟨("_law_has_sum", none), "_law_has_sum", "_law_has_sum", defArgs s__law_has_sum, defBody s__law_has_sum, defScope s__law_has_sum, [], []⟩
abbrev s__law_is : Stmt := top 34
def d__law_is : He.DefD := ⟨("_law_is", none), "_law_is", "_law_is", defArgs s__law_is, defBody s__law_is, defScope s__law_is, [], []⟩
abbrev s_is_element : Stmt := top 17
def d_is_element : He.DefD := ⟨("is_element", none), "is_element", "is_element", defArgs s_is_element, defBody s_is_element, defScope s_is_element, [], []⟩
abbrev s_is_lot : Stmt := top 19
def d_is_lot : He.DefD := ⟨("is_lot", none), "is_lot", "is_lot", defArgs s_is_lot, defBody s_is_lot, defScope s_is_lot, [], []⟩
abbrev s_check_lot : Stmt := top 20
def d_check_lot : He.DefD := ⟨("check_lot", none), "check_lot", "check_lot", defArgs s_check_lot, defBody s_check_lot, defScope s_check_lot, [], []⟩
abbrev s_add : Stmt := top 18
def d_add : He.DefD := ⟨("add", none), "add", "add", defArgs s_add, defBody s_add, defScope s_add, [], []⟩
abbrev s_has_sum : Stmt := top 22
def d_has_sum : He.DefD := ⟨("has_sum", none), "has_sum", "has_sum", defArgs s_has_sum, defBody s_has_sum, defScope s_has_sum, [], []⟩
abbrev s_is_sum_free : Stmt := top 23
def d_is_sum_free : He.DefD := ⟨("is_sum_free", none), "is_sum_free", "is_sum_free", defArgs s_is_sum_free, defBody s_is_sum_free, defScope s_is_sum_free, [], []⟩
abbrev s_can_take : Stmt := top 24
def d_can_take : He.DefD := ⟨("can_take", none), "can_take", "can_take", defArgs s_can_take, defBody s_can_take, defScope s_can_take, [], []⟩
abbrev s_members : Stmt := top 16
def d_members : He.DefD := ⟨("members", none), "members", "members", defArgs s_members, defBody s_members, defScope s_members, [], []⟩
abbrev s_is_full : Stmt := top 26
def d_is_full : He.DefD := ⟨("is_full", none), "is_full", "is_full", defArgs s_is_full, defBody s_is_full, defScope s_is_full, [], []⟩
abbrev s_law : Stmt := top 37
def d_law : He.DefD := ⟨("law", none), "law", "law", defArgs s_law, defBody s_law, defScope s_law, [], []⟩
def fn : List He.DefD := [d__law_hand, d__law_draw, d__law_any, d__law_members, d__law_rounds, d__law_made, d_is_integer, d_is_within, d_check_number, d_prime_powers, d_known_most, d_is_row, d_Group___init__, d__law_plus, d__law_has_sum, d__law_is, d_is_element, d_is_lot, d_check_lot, d_add, d_has_sum, d_is_sum_free, d_can_take, d_members, d_is_full, d_law]
def fa : List He.Fa := [.free "len", .free "int", .free "abs", .free "range", .free "sum", .free "tuple", .free "isinstance", .free "bool", .cls "Group", .noat "Group" "size", .free "list", .int "MOST_ROUNDS" 6, .int "MOST_SIZE" 64, .free "all", .noat "Group" "rounds", .free "zip", .free "enumerate", .free "repr", .free "any", .free "sorted", .glo "_law_hand", .glo "_law_draw", .glo "_law_any", .glo "_law_members", .glo "_law_rounds", .glo "_law_made", .glo "is_integer", .glo "is_within", .glo "check_number", .glo "prime_powers", .glo "known_most", .glo "is_row", .glo "Group", .mkr "Group", .glo "_law_plus", .glo "_law_has_sum", .glo "_law_is", .glo "is_element", .glo "is_lot", .glo "check_lot", .glo "add", .glo "has_sum", .glo "is_sum_free", .glo "can_take", .glo "members", .glo "is_full", .glo "law"]
section
variable {P : Program} {w : World} {K : PySem.W.Frag} {mg : Str → Option Value} {base : Heap}
theorem sc__law_hand : FnScope N__law_hand ["script"] (defScope s__law_hand) := ⟨rfl, rfl, rfl, by decide +kernel, rfl, by decide +kernel, by decide +kernel⟩
theorem h__law_hand (Φ : Fx fa fn K mg) : Has P w K mg base CX0 1 "_law_hand" ["script"] (spO K 1 (S__law_hand (He.ga K))) := by
  obtain ⟨fd, F⟩ := Φ.says.def_ 0 (d := d__law_hand) rfl
  refine ⟨⟨fd, fndO (N := N__law_hand) (B := B__law_hand (He.ga K)) F sc__law_hand rfl ?_ (fun ds _ Q E h => h), F.bindsN (ps := ["script"]) fun _ _ _ _ _ _ us hl => match us, hl with | [_], _ => rfl⟩, F.kp, Φ.glo 20⟩
  intro cdv A fr s H E0 c
  exact (ss_cons (ss_retO (sn_lst (saE (se_of_n (sn_lc (own := [("cell", 1)]) kptB farB cz nz (si_seq kptB (sb_of_n (sn_slice (sb_var 0) so_none (so_some (sb_of_n sn_int))))) (blkOk_by (by kernel_rfl)) (fun _ _ _ _ _ => (sg_name 1 nz)) (fun _ _ _ _ _ => sts_nil) (fun _ _ _ _ _ => (se_of_n (sn_mod (sb_of_n (sn_int1 (by rfl) (Φ.free 1) (saB (sb_of_n (sn_abs (by rfl) (Φ.free 2) (saB (sb_of_n (sn_int1 (by rfl) (Φ.free 1) (saB (sb_var 1) sa_nil))) sa_nil))) sa_nil))) (sb_of_n (sn_pow (sb_of_n sn_int) (sb_of_n sn_int)))))))) (saE (se_of_n sn_int) (saE (se_of_n sn_int) (saE (se_of_n (sn_add (sb_of_n sn_int) (sb_of_n (sn_mul (sb_of_n sn_int) (sb_of_n (sn_len (by rfl) (Φ.free 0) (saB (sb_of_n (sn_slice (sb_var 0) so_none (so_some (sb_of_n sn_int)))) sa_nil))))))) (saE (se_of_n sn_int) sa_nil)))))))
    ss_nil)
theorem sc__law_draw : FnScope N__law_draw ["hand", "many"] (defScope s__law_draw) := ⟨rfl, rfl, rfl, by decide +kernel, rfl, by decide +kernel, by decide +kernel⟩
theorem h__law_draw (Φ : Fx fa fn K mg) : Has P w K mg base CX0 1 "_law_draw" ["hand", "many"] (spF K 2 drawD) := by
  obtain ⟨fd, F⟩ := Φ.says.def_ 1 (d := d__law_draw) rfl
  refine ⟨⟨fd, fnDraw (N := N__law_draw) (B := B__law_draw (He.ga K)) F sc__law_draw rfl (by decide) ?_ (pl_draw (He.ga K)), F.bindsN (ps := ["hand", "many"]) fun _ _ _ _ _ _ us hl => match us, hl with | [_, _], _ => rfl⟩, F.kp, Φ.glo 21⟩
  intro cdv A fr s H E0 c
  exact (ss_cons (ss_if (sw_and (st_eq rz (sb_of (se_ix (sb_var 0) (sb_of_n sn_int))) (sb_of_n sn_int)) (sw_and1 (st_lt rz (sb_of (se_ix (sb_var 0) (sb_of_n sn_int))) (sb_of_n (sn_len (by rfl) (Φ.free 0) (saB (sb_of (se_ix (sb_var 0) (sb_of_n sn_int))) sa_nil)))))).pt (ss_cons (ss_set 2 nz (se_ix (sb_of (se_ix (sb_var 0) (sb_of_n sn_int))) (sb_of (se_ix (sb_var 0) (sb_of_n sn_int)))))
    (ss_cons (ss_setItemA 0 (se_of_n (sn_add (sb_of (se_ix (sb_var 0) (sb_of_n sn_int))) (sb_of_n sn_int))) (sb_of_n sn_int))
    (ss_cons (ss_setItemA 0 (se_of_n (sn_mod (sb_of_n (sn_int1 (by rfl) (Φ.free 1) (saB (sb_of_n (sn_add (sb_of_n (sn_add (sb_of_n (sn_mul (sb_of (se_ix (sb_var 0) (sb_of_n sn_int))) (sb_of_n sn_int))) (sb_of_n (sn_mul (sb_var 2) (sb_of_n sn_int))))) (sb_of_n sn_int))) sa_nil))) (sb_of_n sn_int))) (sb_of_n sn_int))
    (ss_cons (ss_if (st_ge (sb_var 2) (sb_of_n (sn_pow (sb_of_n sn_int) (sb_of_n sn_int)))) (ss_cons (ss_setItemA 0 (se_var 2) (sb_of_n sn_int))
    ss_nil) ss_nil)
    ss_nil)))) ss_nil)
    (ss_cons (ss_if (st_gt (sb_of (se_ix (sb_var 0) (sb_of_n sn_int))) (sb_of_n sn_int)) (ss_cons (ss_set 3 nz (se_of_n (sn_mod (sb_of_n (sn_int1 (by rfl) (Φ.free 1) (saB (sb_of (se_ix (sb_var 0) (sb_of_n sn_int))) sa_nil))) (sb_var 1))))
    (ss_cons (ss_setItemA 0 (se_of_n (sn_fdiv (sb_of (se_ix (sb_var 0) (sb_of_n sn_int))) (sb_var 1))) (sb_of_n sn_int))
    (ss_cons (ss_retE (se_var 3))
    ss_nil))) ss_nil)
    (ss_cons (ss_setItemA 0 (se_of_n (sn_add (sb_of (se_ix (sb_var 0) (sb_of_n sn_int))) (sb_of_n sn_int))) (sb_of_n sn_int))
    (ss_cons (ss_set 4 nz (se_of_n (sn_mod (sb_of_n (sn_int1 (by rfl) (Φ.free 1) (saB (sb_of_n (sn_mul (sb_of_n (sn_int1 (by rfl) (Φ.free 1) (saB (sb_of_n (sn_add (sb_of (se_ix (sb_var 0) (sb_of_n sn_int))) (sb_of_n (sn_mul (sb_of_n sn_int) (sb_of (se_ix (sb_var 0) (sb_of_n sn_int))))))) sa_nil))) (sb_of_n sn_int))) sa_nil))) (sb_of_n sn_int))))
    (ss_cons (ss_set 4 nz (se_of_n (sn_mod (sb_of_n (sn_int1 (by rfl) (Φ.free 1) (saB (sb_of_n (sn_mul (sb_var 4) (sb_of_n (sn_add (sb_of_n (sn_fdiv (sb_var 4) (sb_of_n sn_int))) (sb_of_n sn_int))))) sa_nil))) (sb_of_n sn_int))))
    (ss_cons (ss_set 4 nz (se_of_n (sn_mod (sb_of_n (sn_int1 (by rfl) (Φ.free 1) (saB (sb_of_n (sn_mul (sb_var 4) (sb_of_n (sn_add (sb_of_n (sn_fdiv (sb_var 4) (sb_of_n sn_int))) (sb_of_n sn_int))))) sa_nil))) (sb_of_n sn_int))))
    (ss_cons (ss_retE (se_of_n (sn_mod (sb_of_n (sn_int1 (by rfl) (Φ.free 1) (saB (sb_of_n (sn_fdiv (sb_var 4) (sb_of_n sn_int))) sa_nil))) (sb_var 1))))
    ss_nil)))))))
theorem sc__law_any : FnScope N__law_any ["hand", "some"] (defScope s__law_any) := ⟨rfl, rfl, rfl, by decide +kernel, rfl, by decide +kernel, by decide +kernel⟩
theorem h__law_any (Φ : Fx fa fn K mg) : Has P w K mg base CX0 2 "_law_any" ["hand", "some"] (spF K 2 (S__law_any (He.ga K))) := by
  obtain ⟨fd, F⟩ := Φ.says.def_ 2 (d := d__law_any) rfl
  refine ⟨⟨fd, fnd (N := N__law_any) (B := B__law_any (He.ga K)) F sc__law_any rfl ?_ (fun ds _ Q E h => h), F.bindsN (ps := ["hand", "some"]) fun _ _ _ _ _ _ us hl => match us, hl with | [_, _], _ => rfl⟩, F.kp, Φ.glo 22⟩
  intro cdv A fr s H E0 c
  exact (ss_cons (ss_ret (se_ix (sb_var 1) (sb_of (se_callH (h__law_draw Φ) passZ (saE (se_var 0) (saE (se_of_n (sn_len (by rfl) (Φ.free 0) (saB (sb_var 1) sa_nil))) sa_nil))))))
    ss_nil)
theorem sc__law_members : FnScope N__law_members ["rounds"] (defScope s__law_members) := ⟨rfl, rfl, rfl, by decide +kernel, rfl, by decide +kernel, by decide +kernel⟩
theorem h__law_members (Φ : Fx fa fn K mg) : Has P w K mg base CX0 1 "_law_members" ["rounds"] (spF K 1 (S__law_members (He.ga K))) := by
  obtain ⟨fd, F⟩ := Φ.says.def_ 3 (d := d__law_members) rfl
  refine ⟨⟨fd, fnd (N := N__law_members) (B := B__law_members (He.ga K)) F sc__law_members rfl ?_ (fun ds _ Q E h => h), F.bindsN (ps := ["rounds"]) fun _ _ _ _ _ _ us hl => match us, hl with | [_], _ => rfl⟩, F.kp, Φ.glo 23⟩
  intro cdv A fr s H E0 c
  exact (ss_cons (ss_set 1 nz (se_of_n (sn_lst (saE (se_of_n (sn_tup sa_nil)) sa_nil))))
    (ss_cons (ss_for (vs := [2]) po_cx cz (si_seq kptE (se_var 0)) (sg_name 2 nz) (ss_cons (ss_set 1 nz (se_of_n (sn_sumL cz (by rfl) (Φ.free 4) (sb_of_n (sn_lc (own := [("one", 3)]) kptB farB cz nz (si_seq kptB (sb_var 1)) (blkOk_by (by kernel_rfl)) (fun _ _ _ _ _ => (sg_name 3 nz)) (fun _ _ _ _ _ => sts_nil) (fun _ _ _ _ _ => (se_of_n (sn_lc (own := [("hour", 4)]) kptB farB cz nz (si_range1 kptB (by rfl) (Φ.free 3) (saB (sb_var 2) sa_nil)) (blkOk_by (by kernel_rfl)) (fun _ _ _ _ _ => (sg_name 4 nz)) (fun _ _ _ _ _ => sts_nil) (fun _ _ _ _ _ => (se_of_n (sn_add (sb_var 3) (sb_of_n (sn_tup (saE (se_var 4) sa_nil))))))))))))))
    ss_nil))
    (ss_cons (ss_ret (se_var 1))
    ss_nil)))
theorem sc__law_rounds : FnScope N__law_rounds ["hand", "most"] (defScope s__law_rounds) := ⟨rfl, rfl, rfl, by decide +kernel, rfl, by decide +kernel, by decide +kernel⟩
theorem h__law_rounds (Φ : Fx fa fn K mg) : Has P w K mg base CX0 3 "_law_rounds" ["hand", "most"] (spF K 2 (S__law_rounds (He.ga K))) := by
  obtain ⟨fd, F⟩ := Φ.says.def_ 4 (d := d__law_rounds) rfl
  refine ⟨⟨fd, fnd (N := N__law_rounds) (B := B__law_rounds (He.ga K)) F sc__law_rounds rfl ?_ (fun ds _ Q E h => h), F.bindsN (ps := ["hand", "most"]) fun _ _ _ _ _ _ us hl => match us, hl with | [_, _], _ => rfl⟩, F.kp, Φ.glo 24⟩
  intro cdv A fr s H E0 c
  exact (ss_cons (ss_set 2 nz (se_of_n (sn_lst (saE (se_of_n (sn_tup (saE (se_of_n sn_int) sa_nil))) (saE (se_of_n (sn_tup (saE (se_of_n sn_int) (saE (se_of_n sn_int) (saE (se_of_n sn_int) (saE (se_of_n sn_int) (saE (se_of_n sn_int) (saE (se_of_n sn_int) sa_nil)))))))) (saE (se_of_n (sn_tup (saE (se_of_n sn_int) (saE (se_of_n sn_int) (saE (se_of_n sn_int) sa_nil))))) (saE (se_of_n (sn_tup (saE (se_of_n sn_int) (saE (se_of_n sn_int) sa_nil)))) (saE (se_of_n (sn_tup (saE (se_of_n sn_int) (saE (se_of_n sn_int) (saE (se_of_n sn_int) sa_nil))))) (saE (se_of_n (sn_tup (saE (se_of_n sn_int) (saE (se_of_n sn_int) (saE (se_of_n sn_int) (saE (se_of_n sn_int) sa_nil)))))) (saE (se_of_n (sn_tup (saE (se_of_n sn_int) (saE (se_of_n sn_int) (saE (se_of_n sn_int) (saE (se_of_n sn_int) sa_nil)))))) (saE (se_of_n (sn_tup (saE (se_of_n sn_int) sa_nil))) (saE (se_of_n (sn_tup (saE (se_of_n sn_int) sa_nil))) sa_nil))))))))))))
    (ss_cons (ss_set 2 nz (se_of_n (sn_add (sb_var 2) (sb_of_n (sn_lst (saE (se_of_n (sn_tup (saE (se_of_n sn_int) (saE (se_of_n sn_int) sa_nil)))) (saE (se_of_n (sn_tup (saE (se_of_n sn_int) (saE (se_of_n sn_int) sa_nil)))) (saE (se_of_n (sn_tup (saE (se_of_n sn_int) (saE (se_of_n sn_int) (saE (se_of_n sn_int) (saE (se_of_n sn_int) sa_nil)))))) (saE (se_of_n (sn_tup (saE (se_of_n sn_int) sa_nil))) (saE (se_of_n (sn_tup (saE (se_of_n sn_int) (saE (se_of_n sn_int) sa_nil)))) (saE (se_of_n (sn_tup (saE (se_of_n sn_int) (saE (se_of_n sn_int) (saE (se_of_n sn_int) sa_nil))))) (saE (se_of_n (sn_tup (saE (se_of_n sn_int) sa_nil))) (saE (se_of_n (sn_tup (saE (se_of_n sn_int) sa_nil))) (saE (se_of_n (sn_tup (saE (se_of_n sn_int) (saE (se_of_n sn_int) (saE (se_of_n sn_int) sa_nil))))) (saE (se_of_n (sn_tup (saE (se_of_n sn_int) sa_nil))) (saE (se_of_n (sn_tup (saE (se_of_n sn_int) (saE (se_of_n sn_int) sa_nil)))) sa_nil))))))))))))))))
    (ss_cons (ss_set 2 nz (se_of_n (sn_add (sb_var 2) (sb_of_n (sn_lst (saE (se_of_n (sn_tup (saE (se_of_n sn_int) (saE (se_of_n sn_int) (saE (se_of_n sn_int) sa_nil))))) (saE (se_of_n (sn_tup (saE (se_of_n sn_int) sa_nil))) (saE (se_of_n (sn_tup (saE (se_of_n sn_int) (saE (se_of_n sn_int) sa_nil)))) (saE (se_of_n (sn_tup (saE (se_of_n sn_int) sa_nil))) (saE (se_of_n (sn_tup (saE (se_of_n sn_int) sa_nil))) (saE (se_of_n (sn_tup (saE (se_of_n sn_int) (saE (se_of_n sn_int) (saE (se_of_n sn_int) sa_nil))))) (saE (se_of_n (sn_tup (saE (se_of_n sn_int) sa_nil))) (saE (se_of_n (sn_tup (saE (se_of_n sn_int) sa_nil))) (saE (se_of_n (sn_tup (saE (se_of_n sn_int) (saE (se_of_n sn_int) sa_nil)))) (saE (se_of_n (sn_tup (saE (se_of_n sn_int) (saE (se_of_n sn_int) sa_nil)))) (saE (se_of_n (sn_tup (saE (se_of_n sn_int) sa_nil))) (saE (se_of_n (sn_tup (saE (se_of_n sn_int) sa_nil))) sa_nil)))))))))))))))))
    (ss_cons (ss_set 2 nz (se_of_n (sn_add (sb_var 2) (sb_of_n (sn_lst (saE (se_of_n (sn_tup (saE (se_of_n sn_int) (saE (se_of_n sn_int) (saE (se_of_n sn_int) sa_nil))))) (saE (se_of_n (sn_tup (saE (se_of_n sn_int) sa_nil))) (saE (se_of_n (sn_tup (saE (se_of_n sn_int) (saE (se_of_n sn_int) sa_nil)))) sa_nil))))))))
    (ss_cons (ss_ret (se_callH (h__law_any Φ) passZ (saE (se_var 0) (saE (se_of_n (sn_lc (own := [("one", 3)]) kptB farB cz nz (si_seq kptB (sb_var 2)) (blkOk_by (by kernel_rfl)) (fun _ _ _ _ _ => (sg_name 3 nz)) (fun _ _ _ _ _ => (sts_one (st_le (sb_of_n (sn_len (by rfl) (Φ.free 0) (saB (sb_of (se_callH (h__law_members Φ) passZ (saE (se_var 3) sa_nil))) sa_nil))) (sb_var 1)))) (fun _ _ _ _ _ => (se_var 3)))) sa_nil))))
    ss_nil)))))
theorem sc__law_made : FnScope N__law_made ["hand", "rounds"] (defScope s__law_made) := ⟨rfl, rfl, rfl, by decide +kernel, rfl, by decide +kernel, by decide +kernel⟩
theorem h__law_made (Φ : Fx fa fn K mg) : Has P w K mg base CX0 2 "_law_made" ["hand", "rounds"] (spF K 2 (S__law_made (He.ga K))) := by
  obtain ⟨fd, F⟩ := Φ.says.def_ 5 (d := d__law_made) rfl
  refine ⟨⟨fd, fnd (N := N__law_made) (B := B__law_made (He.ga K)) F sc__law_made rfl ?_ (fun ds _ Q E h => h), F.bindsN (ps := ["hand", "rounds"]) fun _ _ _ _ _ _ us hl => match us, hl with | [_, _], _ => rfl⟩, F.kp, Φ.glo 25⟩
  intro cdv A fr s H E0 c
  exact (ss_cons (ss_asg (vs := [2, 3]) (se_of_n (sn_tup (saE (se_callH (h__law_draw Φ) passZ (saE (se_var 0) (saE (se_of_n (sn_len (by rfl) (Φ.free 0) (saB (sb_var 1) sa_nil))) sa_nil))) (saE (se_callH (h__law_members Φ) passZ (saE (se_var 1) sa_nil)) sa_nil)))) (sg_tup cz (sgs_cons (sg_name 2 nz) (sgs_cons (sg_name 3 nz) sgs_nil))))
    (ss_cons (ss_set 4 nz (se_ix (sb_var 1) (sb_var 2)))
    (ss_cons (ss_set 5 nz (se_callH (h__law_draw Φ) passZ (saE (se_var 0) (saE (se_of_n sn_int) sa_nil))))
    (ss_cons (ss_if (sw_and (st_eq rz (sb_var 5) (sb_of_n sn_int)) (sw_and1 (st_eq rz (sb_of_n (sn_mod (sb_of_n (sn_int1 (by rfl) (Φ.free 1) (saB (sb_var 4) sa_nil))) (sb_of_n sn_int))) (sb_of_n sn_int)))).pt (ss_cons (ss_ret (se_of_n (sn_tuple (by rfl) (Φ.free 5) (saB (sb_of_n (sn_lc (own := [("one", 6)]) kptB farB cz nz (si_seq kptB (sb_var 3)) (blkOk_by (by kernel_rfl)) (fun _ _ _ _ _ => (sg_name 6 nz)) (fun _ _ _ _ _ => (sts_one (st_eq rz (sb_of_n (sn_mod (sb_of_n (sn_int1 (by rfl) (Φ.free 1) (saB (sb_of (se_ix (sb_var 6) (sb_var 2))) sa_nil))) (sb_of_n sn_int))) (sb_of_n sn_int)))) (fun _ _ _ _ _ => (se_var 6)))) sa_nil))))
    ss_nil) ss_nil)
    (ss_cons (ss_asg (vs := [7, 8]) (se_of_n (sn_tup (saE (se_of_n (sn_add (sb_of_n (sn_fdiv (sb_var 4) (sb_of_n sn_int))) (sb_of_n sn_int))) (saE (se_of_n (sn_fdiv (sb_of_n (sn_add (sb_of_n (sn_mul (sb_of_n sn_int) (sb_var 4))) (sb_of_n sn_int))) (sb_of_n sn_int))) sa_nil)))) (sg_tup cz (sgs_cons (sg_name 7 nz) (sgs_cons (sg_name 8 nz) sgs_nil))))
    (ss_cons (ss_if (sw_and (st_eq rz (sb_var 5) (sb_of_n sn_int)) (sw_and1 (st_gt (sb_var 4) (sb_of_n sn_int)))).pt (ss_cons (ss_ret (se_of_n (sn_tuple (by rfl) (Φ.free 5) (saB (sb_of_n (sn_lc (own := [("one", 6)]) kptB farB cz nz (si_seq kptB (sb_var 3)) (blkOk_by (by kernel_rfl)) (fun _ _ _ _ _ => (sg_name 6 nz)) (fun _ _ _ _ _ => (sts_one (st_chain op_le (opr_lt rz.units0) opd_le opd_lt (sb_var 7) (sb_of (se_ix (sb_var 6) (sb_var 2))) (sb_var 8)))) (fun _ _ _ _ _ => (se_var 6)))) sa_nil))))
    ss_nil) ss_nil)
    (ss_cons (ss_setLc 9 (own := [("place", 13)]) nz kptB farB cz (by first | exact sw_true rfl rfl rfl (by decide +kernel) | rfl) (si_range1 kptB (by rfl) (Φ.free 3) (saB (sb_of_n (sn_len (by rfl) (Φ.free 0) (saB (sb_var 1) sa_nil))) sa_nil)) (blkOk_by (by kernel_rfl)) (fun _ _ _ _ _ => (sg_name 13 nz)) (fun _ _ _ _ _ => (sts_one (st_eq rz (sb_of (se_ix (sb_var 1) (sb_var 13))) (sb_var 4)))) (fun _ _ _ _ _ => (se_var 13)))
    (ss_fz 9 (ss_cons (ss_setLc 10 (own := [("place", 13)]) nz kptB farB cz (by first | exact sw_true rfl rfl rfl (by decide +kernel) | rfl) (si_seq kptB (sb_var 9)) (blkOk_by (by kernel_rfl)) (fun _ _ _ _ _ => (sg_name 13 nz)) (fun _ _ _ _ _ => sts_nil) (fun _ _ _ _ _ => (se_of_n (sn_tup (saE (se_var 13) (saE (se_of_n (sn_add (sb_of_n sn_int) (sb_of (se_callH (h__law_draw Φ) passZ (saE (se_var 0) (saE (se_var 4) sa_nil)))))) sa_nil))))))
    (ss_fz 10 (ss_cons (ss_setN 11 nz (sn_lst sa_nil))
    (ss_cons (ss_for (vs := [6]) po_cx cz (si_seq kptE (se_var 3)) (sg_name 6 nz) (ss_cons (ss_set 12 nz (se_of_n (sn_mod (sb_of_n (sn_int1 (by rfl) (Φ.free 1) (saB (sb_of_n (sn_sum cz (by rfl) (Φ.free 4) (saB (sb_of_n (sn_lc (own := [("place", 13), ("times", 14)]) kptB farB cz nz (si_seq kptB (sb_var 10)) (blkOk_by (by kernel_rfl)) (fun _ _ _ _ _ => (sg_tup cz (sgs_cons (sg_name 13 nz) (sgs_cons (sg_name 14 nz) sgs_nil)))) (fun _ _ _ _ _ => sts_nil) (fun _ _ _ _ _ => (se_of_n (sn_mul (sb_of (se_ix (sb_var 6) (sb_var 13))) (sb_var 14)))))) sa_nil))) sa_nil))) (sb_var 4))))
    (ss_cons (ss_extend 11 (sb_of_n (sv_if mN_le (sw_and (st_chain op_le (opr_lt rz.units0) opd_le opd_lt (sb_var 7) (sb_var 12) (sb_var 8)) (sw_and1 (st_gt (sb_var 4) (sb_of_n sn_int)))).pt (sn_lst (saE (se_var 6) sa_nil)) (sn_lst sa_nil))))
    ss_nil)))
    (ss_cons (ss_ret (se_of_n (sn_tuple (by rfl) (Φ.free 5) (saB (sb_var 11) sa_nil))))
    ss_nil)))))))))))))
theorem sc_is_integer : FnScope N_is_integer ["thing"] (defScope s_is_integer) := ⟨rfl, rfl, rfl, by decide +kernel, rfl, by decide +kernel, by decide +kernel⟩
theorem h_is_integer (Φ : Fx fa fn K mg) : Has P w K mg base CX0 1 "is_integer" ["thing"] (spF K 1 (S_is_integer (He.ga K))) := by
  obtain ⟨fd, F⟩ := Φ.says.def_ 6 (d := d_is_integer) rfl
  refine ⟨⟨fd, fnd (N := N_is_integer) (B := B_is_integer (He.ga K)) F sc_is_integer rfl ?_ (fun ds _ Q E h => h), F.bindsN (ps := ["thing"]) fun _ _ _ _ _ _ us hl => match us, hl with | [_], _ => rfl⟩, F.kp, Φ.glo 26⟩
  intro cdv A fr s H E0 c
  exact (ss_cons (ss_ret (se_of_n (sv_and (sb_of_n (sn_isi .int (by rfl) (Φ.free 6) (by rfl) (Φ.free 1) (sb_var 0))) (sv_one (sv_not (sb_of_n (sn_isi .bl (by rfl) (Φ.free 6) (by rfl) (Φ.free 7) (sb_var 0))))))))
    ss_nil)
theorem sc_is_within : FnScope N_is_within ["thing", "low", "high"] (defScope s_is_within) := ⟨rfl, rfl, rfl, by decide +kernel, rfl, by decide +kernel, by decide +kernel⟩
theorem h_is_within (Φ : Fx fa fn K mg) : Has P w K mg base CX0 2 "is_within" ["thing", "low", "high"] (spF K 3 (S_is_within (He.ga K))) := by
  obtain ⟨fd, F⟩ := Φ.says.def_ 7 (d := d_is_within) rfl
  refine ⟨⟨fd, fnd (N := N_is_within) (B := B_is_within (He.ga K)) F sc_is_within rfl ?_ (fun ds _ Q E h => h), F.bindsN (ps := ["thing", "low", "high"]) fun _ _ _ _ _ _ us hl => match us, hl with | [_, _, _], _ => rfl⟩, F.kp, Φ.glo 27⟩
  intro cdv A fr s H E0 c
  exact (ss_cons (ss_ret (se_of_n (sv_and (sb_of (se_callH (h_is_integer Φ) passZ (saE (se_var 0) sa_nil))) (sv_one (sn_chain op_le op_le opd_le opd_le (sb_var 1) (sb_var 0) (sb_var 2))))))
    ss_nil)
theorem sc_check_number : FnScope N_check_number ["thing", "low", "high"] (defScope s_check_number) := ⟨rfl, rfl, rfl, by decide +kernel, rfl, by decide +kernel, by decide +kernel⟩
theorem h_check_number (Φ : Fx fa fn K mg) : Has P w K mg base CX0 3 "check_number" ["thing", "low", "high"] (spF K 3 (S_check_number (He.ga K))) := by
  obtain ⟨fd, F⟩ := Φ.says.def_ 8 (d := d_check_number) rfl
  refine ⟨⟨fd, fnd (N := N_check_number) (B := B_check_number (He.ga K)) F sc_check_number rfl ?_ (fun ds _ Q E h => h), F.bindsN (ps := ["thing", "low", "high"]) fun _ _ _ _ _ _ us hl => match us, hl with | [_, _, _], _ => rfl⟩, F.kp, Φ.glo 28⟩
  intro cdv A fr s H E0 c
  exact (ss_cons (ss_if (st_not (st_val (sb_of (se_callH (h_is_within Φ) passZ (saE (se_var 0) (saE (se_var 1) (saE (se_var 2) sa_nil))))))) (ss_cons ss_never
    ss_nil) ss_nil)
    ss_nil)
theorem sc_prime_powers : FnScope N_prime_powers ["number"] (defScope s_prime_powers) := ⟨rfl, rfl, rfl, by decide +kernel, rfl, by decide +kernel, by decide +kernel⟩
theorem h_prime_powers (Φ : Fx fa fn K mg) : Has P w K mg base CX0 4 "prime_powers" ["number"] (spF K 1 (S_prime_powers (He.ga K))) := by
  obtain ⟨fd, F⟩ := Φ.says.def_ 9 (d := d_prime_powers) rfl
  refine ⟨⟨fd, fnd (N := N_prime_powers) (B := B_prime_powers (He.ga K)) F sc_prime_powers rfl ?_ (fun ds _ Q E h => h), F.bindsN (ps := ["number"]) fun _ _ _ _ _ _ us hl => match us, hl with | [_], _ => rfl⟩, F.kp, Φ.glo 29⟩
  intro cdv A fr s H E0 c
  exact (ss_cons (ss_expr (se_callH (h_check_number Φ) passZ (saE (se_var 0) (saE (se_of_n sn_int) (saE (se_of_n (sn_pow (sb_of_n sn_int) (sb_of_n sn_int))) sa_nil)))))
    (ss_cons (ss_par3 storN storE storE mN_keep mE_keep 1 2 3 cz nz (sn_lst sa_nil) (se_var 0) (se_of_n sn_int))
    (ss_cons (ss_while po_cx (st_gt (sb_var 2) (sb_of_n sn_int)) (ss_cons (ss_if (st_gt (sb_of_n (sn_mul (sb_var 3) (sb_var 3))) (sb_var 2)) (ss_cons (ss_set 3 nz (se_var 2))
    ss_nil) ss_nil)
    (ss_cons (ss_set 4 nz (se_of_n sn_int))
    (ss_cons (ss_while po_cx (st_eq rz (sb_of_n (sn_mod (sb_of_n (sn_int1 (by rfl) (Φ.free 1) (saB (sb_var 2) sa_nil))) (sb_var 3))) (sb_of_n sn_int)) (ss_cons (ss_par storE storE mE_keep 2 4 cz nz (se_of_n (sn_fdiv (sb_var 2) (sb_var 3))) (se_of_n (sn_add (sb_var 4) (sb_of_n sn_int))))
    ss_nil))
    (ss_cons (ss_extend 1 (sb_of_n (sv_if mN_le (st_gt (sb_var 4) (sb_of_n sn_int)) (sn_lst (saE (se_of_n (sn_tup (saE (se_var 3) (saE (se_var 4) sa_nil)))) sa_nil)) (sn_lst sa_nil))))
    (ss_cons (ss_augAdd 3 nz (sb_of_n sn_int))
    ss_nil))))))
    (ss_cons (ss_ret (se_of_n (sn_tuple (by rfl) (Φ.free 5) (saB (sb_var 1) sa_nil))))
    ss_nil))))
theorem sc_known_most : FnScope N_known_most ["group"] (defScope s_known_most) := ⟨rfl, rfl, rfl, by decide +kernel, rfl, by decide +kernel, by decide +kernel⟩
theorem h_known_most (Φ : Fx fa fn K mg) : Has P w K mg base CX0 5 "known_most" ["group"] (spF K 1 (S_known_most (He.ga K))) := by
  obtain ⟨fd, F⟩ := Φ.says.def_ 10 (d := d_known_most) rfl
  refine ⟨⟨fd, fnd (N := N_known_most) (B := B_known_most (He.ga K)) F sc_known_most rfl ?_ (fun ds _ Q E h => h), F.bindsN (ps := ["group"]) fun _ _ _ _ _ _ us hl => match us, hl with | [_], _ => rfl⟩, F.kp, Φ.glo 30⟩
  intro cdv A fr s H E0 c
  exact (ss_cons (ss_set 1 nz (se_of_n (sv_if mN_le (st_gt (sb_of (se_fld (Φ.cls 8) (Φ.noat 9) (sb_var 0))) (sb_of_n sn_int)) (sn_lc (own := [("prime", 3), ("power", 4)]) kptB farB cz nz (si_seq kptB (sb_of (se_callH (h_prime_powers Φ) passZ (saE (se_fld (Φ.cls 8) (Φ.noat 9) (sb_var 0)) sa_nil)))) (blkOk_by (by kernel_rfl)) (fun _ _ _ _ _ => (sg_tup cz (sgs_cons (sg_name 3 nz) (sgs_cons (sg_name 4 nz) sgs_nil)))) (fun _ _ _ _ _ => sts_nil) (fun _ _ _ _ _ => (se_var 3))) (sn_lst sa_nil))))
    (ss_cons (ss_setLc 2 (own := [("prime", 3)]) nz kptB farB cz (by first | exact sw_true rfl rfl rfl (by decide +kernel) | rfl) (si_seq kptB (sb_var 1)) (blkOk_by (by kernel_rfl)) (fun _ _ _ _ _ => (sg_name 3 nz)) (fun _ _ _ _ _ => (sts_one (st_eq rz (sb_of_n (sn_mod (sb_of_n (sn_int1 (by rfl) (Φ.free 1) (saB (sb_var 3) sa_nil))) (sb_of_n sn_int))) (sb_of_n sn_int)))) (fun _ _ _ _ _ => (se_var 3)))
    (ss_fz 2 (ss_cons (ss_if (st_ne rz (sb_var 2) (sb_of_n (sn_lst sa_nil))) (ss_cons (ss_ret (se_of_n (sn_fdiv (sb_of_n (sn_mul (sb_of (se_fld (Φ.cls 8) (Φ.noat 9) (sb_var 0))) (sb_of_n (sn_add (sb_of (se_ix (sb_var 2) (sb_of_n sn_int))) (sb_of_n sn_int))))) (sb_of_n (sn_mul (sb_of_n sn_int) (sb_of (se_ix (sb_var 2) (sb_of_n sn_int))))))))
    ss_nil) ss_nil)
    (ss_cons (ss_if (st_in rz (sb_of_n sn_int) (sb_var 1)) (ss_cons (ss_ret (se_of_n (sn_fdiv (sb_of (se_fld (Φ.cls 8) (Φ.noat 9) (sb_var 0))) (sb_of_n sn_int))))
    ss_nil) ss_nil)
    (ss_cons (ss_ret (se_of_n sn_non))
    ss_nil))))))
theorem sc_is_row : FnScope N_is_row ["thing"] (defScope s_is_row) := ⟨rfl, rfl, rfl, by decide +kernel, rfl, by decide +kernel, by decide +kernel⟩
theorem h_is_row (Φ : Fx fa fn K mg) : Has P w K mg base CX0 1 "is_row" ["thing"] (spF K 1 (S_is_row (He.ga K))) := by
  obtain ⟨fd, F⟩ := Φ.says.def_ 11 (d := d_is_row) rfl
  refine ⟨⟨fd, fnd (N := N_is_row) (B := B_is_row (He.ga K)) F sc_is_row rfl ?_ (fun ds _ Q E h => h), F.bindsN (ps := ["thing"]) fun _ _ _ _ _ _ us hl => match us, hl with | [_], _ => rfl⟩, F.kp, Φ.glo 31⟩
  intro cdv A fr s H E0 c
  exact (ss_cons (ss_ret (se_of_n (sn_isi2 .lst .tup (by rfl) (Φ.free 6) (by rfl) (Φ.free 10) (by rfl) (Φ.free 5) (sb_var 0))))
    ss_nil)
theorem sc_Group___init__ : FnScope N_Group___init__ ["self", "rounds"] (defScope s_Group___init__) := ⟨rfl, rfl, rfl, by decide +kernel, rfl, by decide +kernel, by decide +kernel⟩
theorem h_Group___init__ (Φ : Fx fa fn K mg) : HasC P w K mg base CX0 3 "Group" ["self", "rounds"] (spN K (He.ga K "Group") 1 (S_Group___init__ (He.ga K))) := by
  obtain ⟨fd, F⟩ := Φ.says.def_ 12 (d := d_Group___init__) rfl
  refine ⟨⟨fd, fndI (N := N_Group___init__) (B := B_Group___init__ (He.ga K)) F sc_Group___init__ rfl ?_ (fun ds _ Q E h y => h y), F.bindsN (ps := ["self", "rounds"]) fun _ _ _ _ _ _ us hl => match us, hl with | [_, _], _ => rfl⟩, Φ.mkr 33, Φ.glo 32⟩
  intro cdv A fr s H E0 c
  exact (ss_cons (ss_if (sw_or (st_not (st_val (sb_of (se_callH (h_is_row Φ) passZ (saE (se_var 1) sa_nil))))) (sw_or1 (st_not (st_chain op_le op_le opd_le opd_le (sb_of_n sn_int) (sb_of_n (sn_len (by rfl) (Φ.free 0) (saB (sb_var 1) sa_nil))) (sb_of_n (sn_globE (by rfl) (Φ.int 11))))))).pt (ss_cons ss_never
    ss_nil) ss_nil)
    (ss_cons (ss_if (st_not (st_val (sb_of_n (sn_all cz (by rfl) (Φ.free 13) (saB (sb_of_n (sn_lc (own := [("one", 2)]) kptB farB cz nz (si_seq kptB (sb_var 1)) (blkOk_by (by kernel_rfl)) (fun _ _ _ _ _ => (sg_name 2 nz)) (fun _ _ _ _ _ => sts_nil) (fun _ _ _ _ _ => (se_callH (h_is_within Φ) passZ (saE (se_var 2) (saE (se_of_n sn_int) (saE (se_of_n (sn_globE (by rfl) (Φ.int 12))) sa_nil))))))) sa_nil))))) (ss_cons ss_never
    ss_nil) ss_nil)
    (ss_cons (ss_set 3 nz (se_of_n sn_int))
    (ss_cons (ss_for (vs := [2]) po_cx cz (si_seq kptE (se_var 1)) (sg_name 2 nz) (ss_cons (ss_set 3 nz (se_of_n (sn_mul (sb_var 3) (sb_var 2))))
    ss_nil))
    (ss_cons (ss_if (st_gt (sb_var 3) (sb_of_n (sn_globE (by rfl) (Φ.int 12)))) (ss_cons ss_never
    ss_nil) ss_nil)
    (ss_cons (ss_fld2 0 (Φ.cls 8) (Φ.noat 14) (Φ.noat 9) cz (se_of_n (sn_tup (saE (se_of_n (sn_tuple (by rfl) (Φ.free 5) (saB (sb_var 1) sa_nil))) (saE (se_var 3) sa_nil)))))
    ss_nil))))))
theorem sc__law_plus : FnScope N__law_plus ["rounds", "one", "other"] (defScope s__law_plus) := ⟨rfl, rfl, rfl, by decide +kernel, rfl, by decide +kernel, by decide +kernel⟩
theorem h__law_plus (Φ : Fx fa fn K mg) : Has P w K mg base CX0 1 "_law_plus" ["rounds", "one", "other"] (spF K 3 (S__law_plus (He.ga K))) := by
  obtain ⟨fd, F⟩ := Φ.says.def_ 13 (d := d__law_plus) rfl
  refine ⟨⟨fd, fnd (N := N__law_plus) (B := B__law_plus (He.ga K)) F sc__law_plus rfl ?_ (fun ds _ Q E h => h), F.bindsN (ps := ["rounds", "one", "other"]) fun _ _ _ _ _ _ us hl => match us, hl with | [_, _, _], _ => rfl⟩, F.kp, Φ.glo 34⟩
  intro cdv A fr s H E0 c
  exact (ss_cons (ss_ret (se_of_n (sn_tuple (by rfl) (Φ.free 5) (saB (sb_of_n (sn_lc (own := [("a", 3), ("b", 4), ("hours", 5)]) kptB farB cz nz (si_zip3 kptB (by rfl) (Φ.free 15) (saB (sb_var 1) (saB (sb_var 2) (saB (sb_var 0) sa_nil)))) (blkOk_by (by kernel_rfl)) (fun _ _ _ _ _ => (sg_tup cz (sgs_cons (sg_name 3 nz) (sgs_cons (sg_name 4 nz) (sgs_cons (sg_name 5 nz) sgs_nil))))) (fun _ _ _ _ _ => sts_nil) (fun _ _ _ _ _ => (se_of_n (sn_mod (sb_of_n (sn_int1 (by rfl) (Φ.free 1) (saB (sb_of_n (sn_add (sb_var 3) (sb_var 4))) sa_nil))) (sb_var 5)))))) sa_nil))))
    ss_nil)
theorem sc__law_has_sum : FnScope N__law_has_sum ["rounds", "lot"] (defScope s__law_has_sum) := ⟨rfl, rfl, rfl, by decide +kernel, rfl, by decide +kernel, by decide +kernel⟩
theorem h__law_has_sum (Φ : Fx fa fn K mg) : Has P w K mg base CX0 2 "_law_has_sum" ["rounds", "lot"] (spF K 2 (S__law_has_sum (He.ga K))) := by
  obtain ⟨fd, F⟩ := Φ.says.def_ 14 (d := d__law_has_sum) rfl
  refine ⟨⟨fd, fnd (N := N__law_has_sum) (B := B__law_has_sum (He.ga K)) F sc__law_has_sum rfl ?_ (fun ds _ Q E h => h), F.bindsN (ps := ["rounds", "lot"]) fun _ _ _ _ _ _ us hl => match us, hl with | [_, _], _ => rfl⟩, F.kp, Φ.glo 35⟩
  intro cdv A fr s H E0 c
  exact (ss_cons (ss_for (vs := [2, 3]) po_cx cz (si_en kptE (by rfl) (Φ.free 16) (saE (se_var 1) sa_nil)) (sg_tup cz (sgs_cons (sg_name 2 nz) (sgs_cons (sg_name 3 nz) sgs_nil))) (ss_cons (ss_for (vs := [4]) po_cx cz (si_seq kptE (se_of_n (sn_slice (sb_var 1) (so_some (sb_var 2)) so_none))) (sg_name 4 nz) (ss_cons (ss_set 5 nz (se_callH (h__law_plus Φ) passZ (saE (se_var 0) (saE (se_var 3) (saE (se_var 4) sa_nil)))))
    (ss_cons (ss_if (st_in rz (sb_var 5) (sb_var 1)) (ss_cons (ss_ret (se_of_n (sn_tup (saE (se_var 3) (saE (se_var 4) (saE (se_var 5) sa_nil))))))
    ss_nil) ss_nil)
    ss_nil)))
    ss_nil))
    (ss_cons (ss_ret (se_of_n sn_non))
    ss_nil))
theorem sc__law_is : FnScope N__law_is ["thing", "due"] (defScope s__law_is) := ⟨rfl, rfl, rfl, by decide +kernel, rfl, by decide +kernel, by decide +kernel⟩
theorem h__law_is (Φ : Fx fa fn K mg) : Has P w K mg base CX0 1 "_law_is" ["thing", "due"] (spF K 2 (S__law_is (He.ga K))) := by
  obtain ⟨fd, F⟩ := Φ.says.def_ 15 (d := d__law_is) rfl
  refine ⟨⟨fd, fnd (N := N__law_is) (B := B__law_is (He.ga K)) F sc__law_is rfl ?_ (fun ds _ Q E h => h), F.bindsN (ps := ["thing", "due"]) fun _ _ _ _ _ _ us hl => match us, hl with | [_, _], _ => rfl⟩, F.kp, Φ.glo 36⟩
  intro cdv A fr s H E0 c
  exact (ss_cons (ss_ret (se_of_n (sn_eq rz (sb_of_n (sn_repr (by rfl) (Φ.free 17) (saB (sb_var 0) sa_nil))) (sb_of_n (sn_repr (by rfl) (Φ.free 17) (saB (sb_var 1) sa_nil))))))
    ss_nil)
theorem sc_is_element : FnScope N_is_element ["group", "thing"] (defScope s_is_element) := ⟨rfl, rfl, rfl, by decide +kernel, rfl, by decide +kernel, by decide +kernel⟩
theorem h_is_element (Φ : Fx fa fn K mg) : Has P w K mg base CX0 3 "is_element" ["group", "thing"] (spF K 2 (S_is_element (He.ga K))) := by
  obtain ⟨fd, F⟩ := Φ.says.def_ 16 (d := d_is_element) rfl
  refine ⟨⟨fd, fnd (N := N_is_element) (B := B_is_element (He.ga K)) F sc_is_element rfl ?_ (fun ds _ Q E h => h), F.bindsN (ps := ["group", "thing"]) fun _ _ _ _ _ _ us hl => match us, hl with | [_, _], _ => rfl⟩, F.kp, Φ.glo 37⟩
  intro cdv A fr s H E0 c
  exact (ss_cons (ss_if (sw_or (st_not (st_val (sb_of_n (sn_isi .tup (by rfl) (Φ.free 6) (by rfl) (Φ.free 5) (sb_var 1))))) (sw_or1 (st_ne rz (sb_of_n (sn_len (by rfl) (Φ.free 0) (saB (sb_var 1) sa_nil))) (sb_of_n (sn_len (by rfl) (Φ.free 0) (saB (sb_of (se_fld (Φ.cls 8) (Φ.noat 14) (sb_var 0))) sa_nil)))))).pt (ss_cons (ss_ret (se_of_n sn_bl))
    ss_nil) ss_nil)
    (ss_cons (ss_ret (se_of_n (sn_all cz (by rfl) (Φ.free 13) (saB (sb_of_n (sn_lc (own := [("one", 2), ("number", 3)]) kptB farB cz nz (si_zip2 kptB (by rfl) (Φ.free 15) (saB (sb_var 1) (saB (sb_of (se_fld (Φ.cls 8) (Φ.noat 14) (sb_var 0))) sa_nil))) (blkOk_by (by kernel_rfl)) (fun _ _ _ _ _ => (sg_tup cz (sgs_cons (sg_name 2 nz) (sgs_cons (sg_name 3 nz) sgs_nil)))) (fun _ _ _ _ _ => sts_nil) (fun _ _ _ _ _ => (se_callH (h_is_within Φ) passZ (saE (se_var 2) (saE (se_of_n sn_int) (saE (se_of_n (sn_sub (sb_var 3) (sb_of_n sn_int))) sa_nil))))))) sa_nil))))
    ss_nil))
theorem sc_is_lot : FnScope N_is_lot ["group", "thing"] (defScope s_is_lot) := ⟨rfl, rfl, rfl, by decide +kernel, rfl, by decide +kernel, by decide +kernel⟩
theorem h_is_lot (Φ : Fx fa fn K mg) : Has P w K mg base CX0 4 "is_lot" ["group", "thing"] (spF K 2 (S_is_lot (He.ga K))) := by
  obtain ⟨fd, F⟩ := Φ.says.def_ 17 (d := d_is_lot) rfl
  refine ⟨⟨fd, fnd (N := N_is_lot) (B := B_is_lot (He.ga K)) F sc_is_lot rfl ?_ (fun ds _ Q E h => h), F.bindsN (ps := ["group", "thing"]) fun _ _ _ _ _ _ us hl => match us, hl with | [_, _], _ => rfl⟩, F.kp, Φ.glo 38⟩
  intro cdv A fr s H E0 c
  exact (ss_cons (ss_if (sw_or (st_not (st_val (sb_of_n (sn_isi .tup (by rfl) (Φ.free 6) (by rfl) (Φ.free 5) (sb_var 1))))) (sw_or1 (st_not (st_val (sb_of_n (sn_all cz (by rfl) (Φ.free 13) (saB (sb_of_n (sn_lc (own := [("one", 2)]) kptB farB cz nz (si_seq kptB (sb_var 1)) (blkOk_by (by kernel_rfl)) (fun _ _ _ _ _ => (sg_name 2 nz)) (fun _ _ _ _ _ => sts_nil) (fun _ _ _ _ _ => (se_callH (h_is_element Φ) passZ (saE (se_var 0) (saE (se_var 2) sa_nil)))))) sa_nil))))))).pt (ss_cons (ss_ret (se_of_n sn_bl))
    ss_nil) ss_nil)
    (ss_cons (ss_ret (se_of_n (sn_all cz (by rfl) (Φ.free 13) (saB (sb_of_n (sn_lc (own := [("one", 2), ("other", 3)]) kptB farB cz nz (si_zip2 kptB (by rfl) (Φ.free 15) (saB (sb_var 1) (saB (sb_of_n (sn_slice (sb_var 1) (so_some (sb_of_n sn_int)) so_none)) sa_nil))) (blkOk_by (by kernel_rfl)) (fun _ _ _ _ _ => (sg_tup cz (sgs_cons (sg_name 2 nz) (sgs_cons (sg_name 3 nz) sgs_nil)))) (fun _ _ _ _ _ => sts_nil) (fun _ _ _ _ _ => (se_of_n (sn_lt rz (sb_var 2) (sb_var 3)))))) sa_nil))))
    ss_nil))
theorem sc_check_lot : FnScope N_check_lot ["group", "lot"] (defScope s_check_lot) := ⟨rfl, rfl, rfl, by decide +kernel, rfl, by decide +kernel, by decide +kernel⟩
theorem h_check_lot (Φ : Fx fa fn K mg) : Has P w K mg base CX0 5 "check_lot" ["group", "lot"] (spF K 2 (S_check_lot (He.ga K))) := by
  obtain ⟨fd, F⟩ := Φ.says.def_ 18 (d := d_check_lot) rfl
  refine ⟨⟨fd, fnd (N := N_check_lot) (B := B_check_lot (He.ga K)) F sc_check_lot rfl ?_ (fun ds _ Q E h => h), F.bindsN (ps := ["group", "lot"]) fun _ _ _ _ _ _ us hl => match us, hl with | [_, _], _ => rfl⟩, F.kp, Φ.glo 39⟩
  intro cdv A fr s H E0 c
  exact (ss_cons (ss_if (st_not (st_val (sb_of (se_callH (h_is_lot Φ) passZ (saE (se_var 0) (saE (se_var 1) sa_nil)))))) (ss_cons ss_never
    ss_nil) ss_nil)
    ss_nil)
theorem sc_add : FnScope N_add ["group", "one", "other"] (defScope s_add) := ⟨rfl, rfl, rfl, by decide +kernel, rfl, by decide +kernel, by decide +kernel⟩
theorem h_add (Φ : Fx fa fn K mg) : Has P w K mg base CX0 1 "add" ["group", "one", "other"] (spF K 3 (S_add (He.ga K))) := by
  obtain ⟨fd, F⟩ := Φ.says.def_ 19 (d := d_add) rfl
  refine ⟨⟨fd, fnd (N := N_add) (B := B_add (He.ga K)) F sc_add rfl ?_ (fun ds _ Q E h => h), F.bindsN (ps := ["group", "one", "other"]) fun _ _ _ _ _ _ us hl => match us, hl with | [_, _, _], _ => rfl⟩, F.kp, Φ.glo 40⟩
  intro cdv A fr s H E0 c
  exact (ss_cons (ss_ret (se_of_n (sn_tuple (by rfl) (Φ.free 5) (saB (sb_of_n (sn_lc (own := [("mine", 3), ("its", 4), ("number", 5)]) kptB farB cz nz (si_zip3 kptB (by rfl) (Φ.free 15) (saB (sb_var 1) (saB (sb_var 2) (saB (sb_of (se_fld (Φ.cls 8) (Φ.noat 14) (sb_var 0))) sa_nil)))) (blkOk_by (by kernel_rfl)) (fun _ _ _ _ _ => (sg_tup cz (sgs_cons (sg_name 3 nz) (sgs_cons (sg_name 4 nz) (sgs_cons (sg_name 5 nz) sgs_nil))))) (fun _ _ _ _ _ => sts_nil) (fun _ _ _ _ _ => (se_of_n (sn_mod (sb_of_n (sn_int1 (by rfl) (Φ.free 1) (saB (sb_of_n (sn_add (sb_var 3) (sb_var 4))) sa_nil))) (sb_var 5)))))) sa_nil))))
    ss_nil)
theorem sc_has_sum : FnScope N_has_sum ["group", "lot"] (defScope s_has_sum) := ⟨rfl, rfl, rfl, by decide +kernel, rfl, by decide +kernel, by decide +kernel⟩
theorem h_has_sum (Φ : Fx fa fn K mg) : Has P w K mg base CX0 6 "has_sum" ["group", "lot"] (spF K 2 (S_has_sum (He.ga K))) := by
  obtain ⟨fd, F⟩ := Φ.says.def_ 20 (d := d_has_sum) rfl
  refine ⟨⟨fd, fnd (N := N_has_sum) (B := B_has_sum (He.ga K)) F sc_has_sum rfl ?_ (fun ds _ Q E h => h), F.bindsN (ps := ["group", "lot"]) fun _ _ _ _ _ _ us hl => match us, hl with | [_, _], _ => rfl⟩, F.kp, Φ.glo 41⟩
  intro cdv A fr s H E0 c
  exact (ss_cons (ss_expr (se_callH (h_check_lot Φ) passZ (saE (se_var 0) (saE (se_var 1) sa_nil))))
    (ss_cons (ss_for (vs := [2, 3]) po_cx cz (si_en kptE (by rfl) (Φ.free 16) (saE (se_var 1) sa_nil)) (sg_tup cz (sgs_cons (sg_name 2 nz) (sgs_cons (sg_name 3 nz) sgs_nil))) (ss_cons (ss_for (vs := [4]) po_cx cz (si_seq kptE (se_of_n (sn_slice (sb_var 1) (so_some (sb_var 2)) so_none))) (sg_name 4 nz) (ss_cons (ss_if (st_in rz (sb_of (se_callH (h_add Φ) passZ (saE (se_var 0) (saE (se_var 3) (saE (se_var 4) sa_nil))))) (sb_var 1)) (ss_cons (ss_ret (se_of_n (sn_tup (saE (se_var 3) (saE (se_var 4) (saE (se_callH (h_add Φ) passZ (saE (se_var 0) (saE (se_var 3) (saE (se_var 4) sa_nil)))) sa_nil))))))
    ss_nil) ss_nil)
    ss_nil))
    ss_nil))
    (ss_cons (ss_ret (se_of_n sn_non))
    ss_nil)))
theorem sc_is_sum_free : FnScope N_is_sum_free ["group", "thing"] (defScope s_is_sum_free) := ⟨rfl, rfl, rfl, by decide +kernel, rfl, by decide +kernel, by decide +kernel⟩
theorem h_is_sum_free (Φ : Fx fa fn K mg) : Has P w K mg base CX0 7 "is_sum_free" ["group", "thing"] (spF K 2 (S_is_sum_free (He.ga K))) := by
  obtain ⟨fd, F⟩ := Φ.says.def_ 21 (d := d_is_sum_free) rfl
  refine ⟨⟨fd, fnd (N := N_is_sum_free) (B := B_is_sum_free (He.ga K)) F sc_is_sum_free rfl ?_ (fun ds _ Q E h => h), F.bindsN (ps := ["group", "thing"]) fun _ _ _ _ _ _ us hl => match us, hl with | [_, _], _ => rfl⟩, F.kp, Φ.glo 42⟩
  intro cdv A fr s H E0 c
  exact (ss_cons (ss_ret (se_of_n (sv_and (sb_of (se_callH (h_is_lot Φ) passZ (saE (se_var 0) (saE (se_var 1) sa_nil)))) (sv_one (sn_is (sb_of (se_callH (h_has_sum Φ) passZ (saE (se_var 0) (saE (se_var 1) sa_nil)))) (sb_of_n sn_non))))))
    ss_nil)
theorem sc_can_take : FnScope N_can_take ["group", "lot", "one"] (defScope s_can_take) := ⟨rfl, rfl, rfl, by decide +kernel, rfl, by decide +kernel, by decide +kernel⟩
theorem h_can_take (Φ : Fx fa fn K mg) : Has P w K mg base CX0 2 "can_take" ["group", "lot", "one"] (spF K 3 (S_can_take (He.ga K))) := by
  obtain ⟨fd, F⟩ := Φ.says.def_ 22 (d := d_can_take) rfl
  refine ⟨⟨fd, fnd (N := N_can_take) (B := B_can_take (He.ga K)) F sc_can_take rfl ?_ (fun ds _ Q E h => h), F.bindsN (ps := ["group", "lot", "one"]) fun _ _ _ _ _ _ us hl => match us, hl with | [_, _, _], _ => rfl⟩, F.kp, Φ.glo 43⟩
  intro cdv A fr s H E0 c
  exact (ss_cons (ss_set 3 nz (se_of_n (sn_add (sb_var 1) (sb_of_n (sn_tup (saE (se_var 2) sa_nil))))))
    (ss_cons (ss_if (st_in rz (sb_of (se_callH (h_add Φ) passZ (saE (se_var 0) (saE (se_var 2) (saE (se_var 2) sa_nil))))) (sb_var 3)) (ss_cons (ss_ret (se_of_n sn_bl))
    ss_nil) ss_nil)
    (ss_cons (ss_for (vs := [4]) po_cx cz (si_seq kptE (se_var 1)) (sg_name 4 nz) (ss_cons (ss_if (sw_or (st_in rz (sb_of (se_callH (h_add Φ) passZ (saE (se_var 0) (saE (se_var 2) (saE (se_var 4) sa_nil))))) (sb_var 3)) (sw_or1 (st_eq rz (sb_of (se_callH (h_add Φ) passZ (saE (se_var 0) (saE (se_var 4) (saE (se_var 4) sa_nil))))) (sb_var 2)))).pt (ss_cons (ss_ret (se_of_n sn_bl))
    ss_nil) ss_nil)
    ss_nil))
    (ss_cons (ss_for (vs := [4]) po_cx cz (si_seq kptE (se_var 1)) (sg_name 4 nz) (ss_cons (ss_if (st_val (sb_of_n (sn_any cz (by rfl) (Φ.free 18) (saB (sb_of_n (sn_lc (own := [("here", 5)]) kptB farB cz nz (si_seq kptB (sb_var 1)) (blkOk_by (by kernel_rfl)) (fun _ _ _ _ _ => (sg_name 5 nz)) (fun _ _ _ _ _ => sts_nil) (fun _ _ _ _ _ => (se_of_n (sn_eq rz (sb_of (se_callH (h_add Φ) passZ (saE (se_var 0) (saE (se_var 4) (saE (se_var 5) sa_nil))))) (sb_var 2)))))) sa_nil)))) (ss_cons (ss_ret (se_of_n sn_bl))
    ss_nil) ss_nil)
    ss_nil))
    (ss_cons (ss_ret (se_of_n sn_bl))
    ss_nil)))))
theorem sc_members : FnScope N_members ["group"] (defScope s_members) := ⟨rfl, rfl, rfl, by decide +kernel, rfl, by decide +kernel, by decide +kernel⟩
theorem h_members (Φ : Fx fa fn K mg) : Has P w K mg base CX0 1 "members" ["group"] (spF K 1 (S_members (He.ga K))) := by
  obtain ⟨fd, F⟩ := Φ.says.def_ 23 (d := d_members) rfl
  refine ⟨⟨fd, fnd (N := N_members) (B := B_members (He.ga K)) F sc_members rfl ?_ (fun ds _ Q E h => h), F.bindsN (ps := ["group"]) fun _ _ _ _ _ _ us hl => match us, hl with | [_], _ => rfl⟩, F.kp, Φ.glo 44⟩
  intro cdv A fr s H E0 c
  exact (ss_cons (ss_set 1 nz (se_of_n (sn_lst (saE (se_of_n (sn_tup sa_nil)) sa_nil))))
    (ss_cons (ss_for (vs := [2]) po_cx cz (si_seq kptE (se_fld (Φ.cls 8) (Φ.noat 14) (sb_var 0))) (sg_name 2 nz) (ss_cons (ss_setN 3 nz (sn_lst sa_nil))
    (ss_cons (ss_for (vs := [4]) po_cx cz (si_seq kptE (se_var 1)) (sg_name 4 nz) (ss_cons (ss_extend 3 (sb_of_n (sn_lc (own := [("one", 5)]) kptB farB cz nz (si_range1 kptB (by rfl) (Φ.free 3) (saB (sb_var 2) sa_nil)) (blkOk_by (by kernel_rfl)) (fun _ _ _ _ _ => (sg_name 5 nz)) (fun _ _ _ _ _ => sts_nil) (fun _ _ _ _ _ => (se_of_n (sn_add (sb_var 4) (sb_of_n (sn_tup (saE (se_var 5) sa_nil)))))))))
    ss_nil))
    (ss_fz 3 (ss_cons (ss_set 1 nz (se_var 3))
    ss_nil)))))
    (ss_cons (ss_ret (se_of_n (sn_tuple (by rfl) (Φ.free 5) (saB (sb_var 1) sa_nil))))
    ss_nil)))
theorem sc_is_full : FnScope N_is_full ["group", "lot"] (defScope s_is_full) := ⟨rfl, rfl, rfl, by decide +kernel, rfl, by decide +kernel, by decide +kernel⟩
theorem h_is_full (Φ : Fx fa fn K mg) : Has P w K mg base CX0 8 "is_full" ["group", "lot"] (spF K 2 (S_is_full (He.ga K))) := by
  obtain ⟨fd, F⟩ := Φ.says.def_ 24 (d := d_is_full) rfl
  refine ⟨⟨fd, fnd (N := N_is_full) (B := B_is_full (He.ga K)) F sc_is_full rfl ?_ (fun ds _ Q E h => h), F.bindsN (ps := ["group", "lot"]) fun _ _ _ _ _ _ us hl => match us, hl with | [_, _], _ => rfl⟩, F.kp, Φ.glo 45⟩
  intro cdv A fr s H E0 c
  exact (ss_cons (ss_if (st_not (st_val (sb_of (se_callH (h_is_sum_free Φ) passZ (saE (se_var 0) (saE (se_var 1) sa_nil)))))) (ss_cons (ss_ret (se_of_n sn_bl))
    ss_nil) ss_nil)
    (ss_cons (ss_ret (se_of_n (sv_not (sb_of_n (sn_any cz (by rfl) (Φ.free 18) (saB (sb_of_n (sn_lc (own := [("one", 2)]) kptB farB cz nz (si_seq kptB (sb_of (se_callH (h_members Φ) passZ (saE (se_var 0) sa_nil)))) (blkOk_by (by kernel_rfl)) (fun _ _ _ _ _ => (sg_name 2 nz)) (fun _ _ _ _ _ => sts_nil) (fun _ _ _ _ _ => (se_of_n (sv_and (sb_of_n (sn_notIn rz (sb_var 2) (sb_var 1))) (sv_one (sn_ofE (se_callH (h_can_take Φ) passZ (saE (se_var 0) (saE (se_var 1) (saE (se_var 2) sa_nil))))))))))) sa_nil))))))
    ss_nil))
theorem sc_law : FnScope N_law ["script"] (defScope s_law) := ⟨rfl, rfl, rfl, by decide +kernel, rfl, by decide +kernel, by decide +kernel⟩
theorem h_law (Φ : Fx fa fn K mg) (pl : ∀ ns : List Int, ns.length ≤ 63 → (B1_law (He.ga K) (startE N_law [.scr (ns.map D.int)])).wp (fun fl => ∃ env, fl = .nx env ∧ HandE 1 env ∧ (B2_law (He.ga K) (env.set 1 (.frz .hand))).wp lawOk fun _ => False) fun _ => False) :
    ∃ fd, (∀ base : Heap, FnZ P w K mg base CX0 9 (He.ga K "law") fd ["script"] (spLaw K)) ∧ ∀ (s : Shared) (u : Value), BindsTo s fd ⟨[u], []⟩ [("script", u)] := by
  obtain ⟨fd, F⟩ := Φ.says.def_ 25 (d := d_law) rfl
  refine ⟨fd, fun base => fnLaw (N := N_law) (F1 := B1_law (He.ga K)) (F2 := B2_law (He.ga K)) F sc_law rfl 1 ?_ ?_ pl, fun s u => (F.bindsA (ps := ["script"]) fun _ _ _ _ _ _ us hl => match us, hl with | [_], _ => rfl) s [u] rfl⟩
  · intro cdv A fr s H E0 c
    exact (ss_setN 1 nz (se_callHO (h__law_hand Φ) passZ (saE (se_var 0) sa_nil)))
  · intro cdv A fr s H E0 c
    exact (ss_cons (ss_for (vs := [2]) po_cx cz (si_range1 kptE (by rfl) (Φ.free 3) (saB (sb_of_n sn_int) sa_nil)) (sg_name 2 nz) (ss_cons (ss_set 3 nz (se_callH (h__law_rounds Φ) passZ (saE (se_var 1) (saE (se_of_n sn_int) sa_nil))))
    (ss_cons (ss_par storE storE mE_keep 4 5 cz nz (se_makeH (h_Group___init__ Φ) passZ (saE (se_var 3) sa_nil)) (se_callH (h__law_members Φ) passZ (saE (se_var 3) sa_nil)))
    (ss_cons (ss_set 6 nz (se_callH (h__law_made Φ) passZ (saE (se_var 1) (saE (se_var 3) sa_nil))))
    (ss_cons (ss_if (st_isnot (sb_of (se_callH (h__law_has_sum Φ) passZ (saE (se_var 3) (saE (se_var 6) sa_nil)))) (sb_of_n sn_non)) (ss_cons (ss_ret (se_of_n sn_bl))
    ss_nil) ss_nil)
    (ss_cons (ss_if (st_not (st_val (sb_of (se_callH (h__law_is Φ) passZ (saE (se_of_n (sn_lst (saE (se_callH (h_is_sum_free Φ) passZ (saE (se_var 4) (saE (se_var 6) sa_nil))) (saE (se_callH (h_has_sum Φ) passZ (saE (se_var 4) (saE (se_var 6) sa_nil))) sa_nil)))) (saE (se_of_n (sn_lst (saE (se_of_n sn_bl) (saE (se_of_n sn_non) sa_nil)))) sa_nil)))))) (ss_cons (ss_ret (se_of_n sn_bl))
    ss_nil) ss_nil)
    (ss_cons (ss_set 7 nz (se_callH (h_known_most Φ) passZ (saE (se_var 4) sa_nil)))
    (ss_cons (ss_if (sw_and (st_isnot (sb_var 7) (sb_of_n sn_non)) (sw_and1 (st_gt (sb_of_n (sn_len (by rfl) (Φ.free 0) (saB (sb_var 6) sa_nil))) (sb_var 7)))).pt (ss_cons (ss_ret (se_of_n sn_bl))
    ss_nil) ss_nil)
    (ss_cons (ss_set 8 nz (se_of_n (sn_tuple (by rfl) (Φ.free 5) (saB (sb_of_n (sn_lc (own := [("one", 14)]) kptB farB cz nz (si_seq kptB (sb_var 6)) (blkOk_by (by kernel_rfl)) (fun _ _ _ _ _ => (sg_name 14 nz)) (fun _ _ _ _ _ => (sts_one (st_gt (sb_of (se_callH (h__law_draw Φ) passZ (saE (se_var 1) (saE (se_of_n sn_int) sa_nil)))) (sb_of_n sn_int)))) (fun _ _ _ _ _ => (se_var 14)))) sa_nil))))
    (ss_cons (ss_for (vs := [9]) po_cx cz (si_seq kptE (se_of_n (sn_tup (saE (se_var 6) (saE (se_var 8) sa_nil))))) (sg_name 9 nz) (ss_cons (ss_setLc 10 (own := [("one", 14)]) nz kptB farB cz (by first | exact sw_true rfl rfl rfl (by decide +kernel) | rfl) (si_seq kptB (sb_var 5)) (blkOk_by (by kernel_rfl)) (fun _ _ _ _ _ => (sg_name 14 nz)) (fun _ _ _ _ _ => (sts_one (st_notIn rz (sb_var 14) (sb_var 9)))) (fun _ _ _ _ _ => (se_callH (h__law_has_sum Φ) passZ (saE (se_var 3) (saE (se_of_n (sn_tuple (by rfl) (Φ.free 5) (saB (sb_of_n (sn_sorted (by rfl) (Φ.free 19) (saB (sb_of_n (sn_add (sb_var 9) (sb_of_n (sn_tup (saE (se_var 14) sa_nil))))) sa_nil))) sa_nil))) sa_nil)))))
    (ss_fz 10 (ss_cons (ss_if (st_not (st_val (sb_of (se_callH (h__law_is Φ) passZ (saE (se_callH (h_is_full Φ) passZ (saE (se_var 4) (saE (se_var 9) sa_nil))) (saE (se_of_n (sn_notIn rz (sb_of_n sn_non) (sb_var 10))) sa_nil)))))) (ss_cons (ss_ret (se_of_n sn_bl))
    ss_nil) ss_nil)
    (ss_cons (ss_setLc 11 (own := [("one", 14)]) nz kptB farB cz (by first | exact sw_true rfl rfl rfl (by decide +kernel) | rfl) (si_seq kptB (sb_var 5)) (blkOk_by (by kernel_rfl)) (fun _ _ _ _ _ => (sg_name 14 nz)) (fun _ _ _ _ _ => (sts_one (st_notIn rz (sb_var 14) (sb_var 9)))) (fun _ _ _ _ _ => (se_var 14)))
    (ss_fz 11 (ss_cons (ss_if (st_ne rz (sb_var 11) (sb_of_n (sn_lst sa_nil))) (ss_cons (ss_set 12 nz (se_of_n (sn_tuple (by rfl) (Φ.free 5) (saB (sb_of_n (sn_sorted (by rfl) (Φ.free 19) (saB (sb_of_n (sn_add (sb_var 9) (sb_of_n (sn_tup (saE (se_callH (h__law_any Φ) passZ (saE (se_var 1) (saE (se_var 11) sa_nil))) sa_nil))))) sa_nil))) sa_nil))))
    (ss_cons (ss_set 13 nz (se_callH (h__law_has_sum Φ) passZ (saE (se_var 3) (saE (se_var 12) sa_nil))))
    (ss_cons (ss_if (st_not (st_val (sb_of (se_callH (h__law_is Φ) passZ (saE (se_of_n (sn_lst (saE (se_callH (h_has_sum Φ) passZ (saE (se_var 4) (saE (se_var 12) sa_nil))) (saE (se_callH (h_is_sum_free Φ) passZ (saE (se_var 4) (saE (se_var 12) sa_nil))) sa_nil)))) (saE (se_of_n (sn_lst (saE (se_var 13) (saE (se_of_n (sn_is (sb_var 13) (sb_of_n sn_non))) sa_nil)))) sa_nil)))))) (ss_cons (ss_ret (se_of_n sn_bl))
    ss_nil) ss_nil)
    (ss_cons (ss_if (sw_and (st_isnot (sb_var 13) (sb_of_n sn_non)) (sw_and1 (st_isnot (sb_of (se_callH (h_is_full Φ) passZ (saE (se_var 4) (saE (se_var 12) sa_nil)))) (sb_of_n sn_bl)))).pt (ss_cons (ss_ret (se_of_n sn_bl))
    ss_nil) ss_nil)
    ss_nil)))) ss_nil)
    ss_nil)))))))
    ss_nil))))))))))
    (ss_cons (ss_ret (se_of_n sn_bl))
    ss_nil))
end

/-! ### the end -/
def names0 : List PySem.Str := ["_wall", "is_integer", "is_within", "is_row", "check_number", "prime_powers", "members", "is_element", "add", "is_lot", "check_lot", "has_sum", "is_sum_free", "can_take", "known_most", "is_full", "_law_hand", "_law_draw", "_law_any", "_law_rounds", "_law_members", "_law_plus", "_law_is", "_law_has_sum", "_law_made", "SumError", "NoGroup", "NoLot", "NoNumber", "Group", "MOST_SIZE", "MOST_ROUNDS"]
def names : List PySem.Str := names0
abbrev R : PySem.W.OpenRow := PySem.W.OpenLaw.row PySem.Challenge.rw_sumshall_k22_whole_free_lots_of_great_gr
abbrev hk : PySem.W.Hook := He.hookD 5 fa fn
def ob (s : PySem.W.SharedT) : He.AlD := He.obsDG 5 fa fn (HandSHeadRun.getT s)
theorem ob_eq (s : PySem.W.SharedT) : ob s = hk.obs s.abs := He.obsDG_eq (HandSHeadRun.getT_eq s)
theorem run (w : World) : HandSHeadRun.RunEq R (PySem.W.view R.prog [37]) hk ob 20000 names w := by
  intro os
  kernel_rfl

end Zf.k22
open PySem PySem.W PySem.Calls PyProof.Rows
theorem PySem.Challenge.cw_sumshall_k22_whole_free_lots_of_great_gr_holds : PySem.Challenge.rw_sumshall_k22_whole_free_lots_of_great_gr.Holds := by
  w_on; o_law
  refine HandSHeadRun.head_any (r := OpenLaw.row PySem.Challenge.rw_sumshall_k22_whole_free_lots_of_great_gr) (q := view (OpenLaw.row PySem.Challenge.rw_sumshall_k22_whole_free_lots_of_great_gr).prog [37]) (H := Zf.k22.hk) (ob := Zf.k22.ob) (M := 20000) (loose := Zf.k22.names) (d := HandSHeadRun.topDef (OpenLaw.row PySem.Challenge.rw_sumshall_k22_whole_free_lots_of_great_gr).prog 37) (kwd := []) Zf.k22.ob_eq
    (by kernel_rfl) (fun s => by kernel_rfl) Zf.k22.run (by kernel_rfl) (by kernel_rfl) (by kernel_rfl) (by rfl) (by first | assumption | decide +kernel) (by decide +kernel) ⟨rfl, rfl, rfl, rfl, rfl, by decide +kernel⟩ ?hw ?hc
  case hw => w_witness2
  case hc =>
    refine Zf.walkZ (l := PySem.Challenge.rw_sumshall_k22_whole_free_lots_of_great_gr) (k := 9) (x := "script") (CX := L2.CX0) rfl (by kernel_rfl) ⟨rfl, by decide, by decide⟩ ?F (fun _ _ _ _ z => z)
    intro w mg fa h Y G hmg0
    obtain ⟨K, KX, c⟩ := Y
    have hmg : mg ("law" : PySem.Str) = some (.ref fa) := by
      have e : (HandSHeadRun.topDef (OpenLaw.row PySem.Challenge.rw_sumshall_k22_whole_free_lots_of_great_gr).prog 37).name = ("law" : PySem.Str) := by kernel_rfl
      rw [← e]
      exact hmg0
    have Φ : Zf.Fx Zf.k22.fa Zf.k22.fn K mg := ⟨c, h, KX, G⟩
    obtain ⟨fd, hF, hb⟩ := Zf.k22.h_law (P := (PySem.Challenge.rw_sumshall_k22_whole_free_lots_of_great_gr).prog) (w := w) Φ (Zf.k22.pl_law _)
    have e := hmg.symm.trans (Φ.glo 46)
    cases e
    exact ⟨K, fd, KX, hb, fun base _ _ => hF base⟩
