import PyProof.Rows.All
import Wide.All
import OpenK.AllK
import Wide.FinOn
import KE.KStateDown
import Lean
import HandS.Base
import HandS.Call
import HandS.List
import HandS.Comp
import HandS.Iter
import HandS.Text
import HandS.Exc
import HandS.Words
import HandS.TupAny
import HandS.Deep
import HandS.IsInst
import HandS.ExcOwn
import HandS.WordsExc
import HandS.Defaults
import HandS.HeadHook2
import HandS.HeadEnd
import PyProof.StrLaws
import PySem.Challenge.RW_awaitbook_k01_words_that_are_signs_or_na
import HandS.Head0
import HandS.Head1
import HandS.Head2
import HandS.HeadHook1
set_option Elab.async false
set_option linter.all false
set_option maxRecDepth 100000
set_option maxHeartbeats 0
namespace DL
open PySem PySem.Spec PyProof.Rows L2

inductive D where
  | non | bl (b : Bool) | int (i : Int) | str (x : Str)
  | tup (xs : List D) | lst (xs : List D)
  | scr (ns : List Int)
  | dct (kvs : List (D × D))
  | ins (c : Str) (fs : List (Str × D))
  | cls (c : Str)
  | ty (n : String)
instance : Inhabited D := ⟨.non⟩

structure KC where
  K : PySem.W.Frag
  C : Str → Option Addr

def dkV : Key → D
  | .inl i => .int i
  | .inr x => .str x

mutual
inductive Rep (K : KC) (G : Hp) : V → D → Prop
  | non : Rep K G .non .non
  | bl (b : Bool) : Rep K G (.bl b) (.bl b)
  | int (i : Int) : Rep K G (.int i) (.int i)
  | str (x : Str) : Rep K G (.str x) (.str x)
  | ty (n : String) : Rep K G (.ty n) (.ty n)
  | cls {c : Str} {a : Addr} : K.C c = some a → Rep K G (.ref a) (.cls c)
  | tup {a : Addr} {vs : List V} {ds : List D} : SqT K.K G a vs → Reps K G vs ds → Rep K G (.ref a) (.tup ds)
  | lst {a : Addr} {vs : List V} {ds : List D} : G a = some (.lst vs) → Reps K G vs ds → Rep K G (.ref a) (.lst ds)
  | scr {a : Addr} {ns : List Int} : SqL K.K G a (ns.map V.int) → Rep K G (.ref a) (.scr ns)
  | dk {a : Addr} {kvs : List (Key × V)} {ds : List (D × D)} : G a = some (.dK kvs) → RepK K G kvs ds → Rep K G (.ref a) (.dct ds)
  | dt {a : Addr} {kvs : List (List Key × V)} {ds : List (D × D)} : G a = some (.dT kvs) → RepT K G kvs ds → Rep K G (.ref a) (.dct ds)
  | ins {a dx C : Addr} {c : Str} {fs : List (Str × V)} {ds : List (Str × D)} : K.C c = some C → G a = some (.ins C dx fs) → RepF K G fs ds → Rep K G (.ref a) (.ins c ds)
inductive Reps (K : KC) (G : Hp) : List V → List D → Prop
  | nil : Reps K G [] []
  | cons {v : V} {vs : List V} {d : D} {ds : List D} : Rep K G v d → Reps K G vs ds → Reps K G (v :: vs) (d :: ds)
inductive RepF (K : KC) (G : Hp) : List (Str × V) → List (Str × D) → Prop
  | nil : RepF K G [] []
  | cons {f : Str} {v : V} {vs : List (Str × V)} {d : D} {ds : List (Str × D)} : Rep K G v d → RepF K G vs ds → RepF K G ((f, v) :: vs) ((f, d) :: ds)
inductive RepK (K : KC) (G : Hp) : List (Key × V) → List (D × D) → Prop
  | nil : RepK K G [] []
  | cons {k : Key} {v : V} {vs : List (Key × V)} {d : D} {ds : List (D × D)} : Rep K G v d → RepK K G vs ds → RepK K G ((k, v) :: vs) ((dkV k, d) :: ds)
inductive RepT (K : KC) (G : Hp) : List (List Key × V) → List (D × D) → Prop
  | nil : RepT K G [] []
  | cons {k : List Key} {v : V} {vs : List (List Key × V)} {d : D} {ds : List (D × D)} : Rep K G v d → RepT K G vs ds → RepT K G ((k, v) :: vs) ((.tup (k.map dkV), d) :: ds)
end

def Sub (G H : Hp) : Prop := ∀ a o, G a = some o → H a = some o
theorem Sub.refl {G : Hp} : Sub G G := fun _ _ h => h
theorem Sub.trans {A B C : Hp} (h : Sub A B) (k : Sub B C) : Sub A C := fun a o e => k a o (h a o e)
theorem Sub.none {A B : Hp} (h : Sub A B) {a : Addr} (e : B a = none) : A a = none := by
  cases q : A a with
  | none => rfl
  | some o => rw [h a o q] at e; cases e
theorem Sub.rd {A B : Hp} (h : Sub A B) {a : Addr} {u : HO} (r : Rd A a u) : Rd B a u := r.elim (fun z => .inl (h _ _ z)) fun ⟨o, z⟩ => .inr ⟨o, h _ _ z⟩
theorem Sub.sqT {K : PySem.W.Frag} {A B : Hp} (h : Sub A B) {a : Addr} {vs : List V} (r : SqT K A a vs) : SqT K B a vs := r.elim (fun z => .inl (h.rd z)) .inr
theorem Sub.sqL {K : PySem.W.Frag} {A B : Hp} (h : Sub A B) {a : Addr} {vs : List V} (r : SqL K A a vs) : SqL K B a vs := r.elim (fun z => .inl (h.rd z)) .inr
theorem Sub.upd {G : Hp} {p : Addr} {o : HO} (h : G p = Option.none) : Sub G (L2.upd G p o) := fun a u e => by
  rw [upd_ne (ne_of_none e h)]; exact e
theorem Sub.upd2 {G H : Hp} {p : Addr} {o : HO} (h : Sub G H) (e : H p = some o) : Sub (L2.upd G p o) H := fun a u q => by
  by_cases z : a = p
  · subst z; rw [upd_same] at q; cases q; exact e
  · rw [upd_ne z] at q; exact h a u q
theorem Sub.updR {G H : Hp} {p : Addr} {o : HO} (h : Sub G H) (e : G p = Option.none) : Sub G (L2.upd H p o) := fun a u q => by
  rw [upd_ne (ne_of_none q e)]; exact h a u q

section
variable {K : KC} {G G' : Hp}
mutual
theorem Rep.mono (h : Sub G G') : ∀ {v : V} {d : D}, Rep K G v d → Rep K G' v d
  | _, _, .non => .non
  | _, _, .bl b => .bl b
  | _, _, .int i => .int i
  | _, _, .str x => .str x
  | _, _, .ty n => .ty n
  | _, _, .cls e => .cls e
  | _, _, .tup s r => .tup (h.sqT s) (Reps.mono h r)
  | _, _, .lst s r => .lst (h _ _ s) (Reps.mono h r)
  | _, _, .scr s => .scr (h.sqL s)
  | _, _, .dk s r => .dk (h _ _ s) (RepK.mono h r)
  | _, _, .dt s r => .dt (h _ _ s) (RepT.mono h r)
  | _, _, .ins c s r => .ins c (h _ _ s) (RepF.mono h r)
theorem Reps.mono (h : Sub G G') : ∀ {v : List V} {d : List D}, Reps K G v d → Reps K G' v d
  | _, _, .nil => .nil
  | _, _, .cons a b => .cons (Rep.mono h a) (Reps.mono h b)
theorem RepF.mono (h : Sub G G') : ∀ {v : List (Str × V)} {d : List (Str × D)}, RepF K G v d → RepF K G' v d
  | _, _, .nil => .nil
  | _, _, .cons a b => .cons (Rep.mono h a) (RepF.mono h b)
theorem RepK.mono (h : Sub G G') : ∀ {v : List (Key × V)} {d : List (D × D)}, RepK K G v d → RepK K G' v d
  | _, _, .nil => .nil
  | _, _, .cons a b => .cons (Rep.mono h a) (RepK.mono h b)
theorem RepT.mono (h : Sub G G') : ∀ {v : List (List Key × V)} {d : List (D × D)}, RepT K G v d → RepT K G' v d
  | _, _, .nil => .nil
  | _, _, .cons a b => .cons (Rep.mono h a) (RepT.mono h b)
end
theorem Reps.length : ∀ {vs : List V} {ds : List D}, Reps K G vs ds → vs.length = ds.length
  | _, _, .nil => rfl
  | _, _, .cons _ b => congrArg Nat.succ b.length
theorem Reps.get : ∀ {vs : List V} {ds : List D} {i : Nat} {d : D}, Reps K G vs ds → ds[i]? = some d → ∃ v, vs[i]? = some v ∧ Rep K G v d
  | _, _, _, _, .nil, e => by simp at e
  | _, _, 0, _, .cons a _, e => by simp at e; subst e; exact ⟨_, rfl, a⟩
  | _, _, i + 1, _, .cons _ b, e => by
    obtain ⟨v, h1, h2⟩ := Reps.get (i := i) b (by simpa using e)
    exact ⟨v, by simpa using h1, h2⟩
theorem Reps.append : ∀ {vs us : List V} {ds es : List D}, Reps K G vs ds → Reps K G us es → Reps K G (vs ++ us) (ds ++ es)
  | _, _, _, _, .nil, s => s
  | _, _, _, _, .cons a b, s => .cons a (b.append s)
theorem Reps.take : ∀ {vs : List V} {ds : List D} (n : Nat), Reps K G vs ds → Reps K G (vs.take n) (ds.take n)
  | _, _, 0, _ => .nil
  | _, _, _ + 1, .nil => .nil
  | _, _, n + 1, .cons a b => .cons a (b.take n)
theorem Reps.drop : ∀ {vs : List V} {ds : List D} (n : Nat), Reps K G vs ds → Reps K G (vs.drop n) (ds.drop n)
  | _, _, 0, r => r
  | _, _, _ + 1, .nil => .nil
  | _, _, n + 1, .cons _ b => b.drop n
theorem Reps.reverse {vs : List V} {ds : List D} (h : Reps K G vs ds) : Reps K G vs.reverse ds.reverse := by
  induction h using Reps.rec (motive_1 := fun _ _ _ => True) (motive_3 := fun _ _ _ => True) (motive_4 := fun _ _ _ => True) (motive_5 := fun _ _ _ => True) with
  | nil => exact .nil
  | cons a b _ ih => rw [List.reverse_cons, List.reverse_cons]; exact ih.append (.cons a .nil)
  | _ => trivial
theorem Reps.ints : ∀ (ns : List Int), Reps K G (ns.map V.int) (ns.map D.int)
  | [] => .nil
  | _ :: r => .cons (.int _) (Reps.ints r)
theorem Reps.of_ints : ∀ {ns : List Int} {vs : List V}, Reps K G vs (ns.map D.int) → vs = ns.map V.int
  | [], _, .nil => rfl
  | _ :: _, _, .cons a b => by cases a; rw [Reps.of_ints b]; rfl
theorem Reps.of_strs : ∀ {ns : List Str} {vs : List V}, Reps K G vs (ns.map D.str) → vs = ns.map V.str
  | [], _, .nil => rfl
  | _ :: _, _, .cons a b => by cases a; rw [Reps.of_strs b]; rfl
theorem Reps.of_bls : ∀ {ns : List Bool} {vs : List V}, Reps K G vs (ns.map D.bl) → vs = ns.map V.bl
  | [], _, .nil => rfl
  | _ :: _, _, .cons a b => by cases a; rw [Reps.of_bls b]; rfl
theorem Reps.strs : ∀ (ns : List Str), Reps K G (ns.map V.str) (ns.map D.str)
  | [] => .nil
  | _ :: r => .cons (.str _) (Reps.strs r)
theorem Reps.set : ∀ {vs : List V} {ds : List D} {v : V} {d : D} (i : Nat), Rep K G v d → Reps K G vs ds → Reps K G (vs.set i v) (ds.set i d)
  | _, _, _, _, _, _, .nil => .nil
  | _, _, _, _, 0, r, .cons _ b => .cons r b
  | _, _, _, _, i + 1, r, .cons a b => .cons a (Reps.set i r b)
theorem RepF.look : ∀ {vs : List (Str × V)} {ds : List (Str × D)} {f : Str} {d : D}, RepF K G vs ds → ds.lookup f = some d → ∃ v, vs.lookup f = some v ∧ Rep K G v d
  | _, _, _, _, .nil, e => by simp at e
  | (g, v) :: _, (_, d') :: _, f, d, .cons a b, e => by
    rw [List.lookup_cons] at e ⊢
    cases q : (f == g) with
    | true => rw [q] at e; cases e; exact ⟨_, rfl, a⟩
    | false => rw [q] at e; exact RepF.look b e
theorem RepF.look_none : ∀ {vs : List (Str × V)} {ds : List (Str × D)} {f : Str}, RepF K G vs ds → ds.lookup f = none → vs.lookup f = none
  | _, _, _, .nil, _ => rfl
  | (g, v) :: _, (_, d') :: _, f, .cons a b, e => by
    rw [List.lookup_cons] at e ⊢
    cases q : (f == g) with
    | true => rw [q] at e; cases e
    | false => rw [q] at e; exact RepF.look_none b e
end

structure Exn where
  cls : Str
  fs : List (Str × D)
inductive Rz (α : Type) where
  | ok (a : α) | exc (e : Exn) | stuck
namespace Rz
variable {α β γ : Type}
def bind (x : Rz α) (f : α → Rz β) : Rz β := match x with
  | .ok a => f a
  | .exc e => .exc e
  | .stuck => .stuck
instance : Monad Rz := { pure := .ok, bind := bind }
@[simp] theorem pure_eq (a : α) : (pure a : Rz α) = .ok a := rfl
@[simp] theorem ok_bind (a : α) (f : α → Rz β) : ((Rz.ok a) >>= f) = f a := rfl
@[simp] theorem exc_bind (e : Exn) (f : α → Rz β) : ((Rz.exc e : Rz α) >>= f) = .exc e := rfl
@[simp] theorem stuck_bind (f : α → Rz β) : ((Rz.stuck : Rz α) >>= f) = .stuck := rfl
theorem bind_assoc (x : Rz α) (f : α → Rz β) (g : β → Rz γ) : (x >>= f) >>= g = x >>= fun a => f a >>= g := by
  cases x <;> rfl
end Rz
def orStuck {α : Type} : Option α → Rz α
  | some a => .ok a
  | none => .stuck
@[simp] theorem orStuck_some {α : Type} (a : α) : orStuck (some a) = .ok a := rfl

inductive OW where
  | lst (ds : List D)
  | dct (kvs : List (D × D))
inductive SL where
  | no | val (d : D) | own (w : OW)
abbrev Env := List SL
instance : Inhabited SL := ⟨.no⟩
inductive EV where
  | fz (d : D) | ow (new : Bool) (w : OW)
def OW.d : OW → D
  | .lst ds => .lst ds
  | .dct kvs => .dct kvs
@[simp] theorem OW.d_lst (ds : List D) : (OW.lst ds).d = .lst ds := rfl
@[simp] theorem OW.d_dct (ds : List (D × D)) : (OW.dct ds).d = .dct ds := rfl
def EV.d : EV → D
  | .fz d => d
  | .ow _ w => w.d
@[simp] theorem EV.d_fz (d : D) : (EV.fz d).d = d := rfl
@[simp] theorem EV.d_ow (n : Bool) (w : OW) : (EV.ow n w).d = w.d := rfl

def WOk (K : KC) (G H : Hp) (p : Addr) : OW → Prop
  | .lst ds => ∃ vs, H p = some (.lst vs) ∧ Reps K G vs ds
  | .dct ds => (∃ kvs, H p = some (.dK kvs) ∧ RepK K G kvs ds) ∨ ∃ kvs, H p = some (.dT kvs) ∧ RepT K G kvs ds
theorem WOk.mono {K : KC} {G G' H H' : Hp} {p : Addr} {w : OW} (h : Sub G G') (k : ∀ o, H p = some o → H' p = some o) (x : WOk K G H p w) : WOk K G' H' p w := by
  cases w with
  | lst ds => obtain ⟨vs, e, r⟩ := x; exact ⟨vs, k _ e, r.mono h⟩
  | dct ds =>
    rcases x with ⟨vs, e, r⟩ | ⟨vs, e, r⟩
    · exact .inl ⟨vs, k _ e, r.mono h⟩
    · exact .inr ⟨vs, k _ e, r.mono h⟩
def noTup : HO → Bool
  | .tup _ => false
  | .frz _ (.tup _) => false
  | _ => true
def NT (H : Hp) (a : Addr) : Prop := ∃ o, H a = .some o ∧ noTup o = true
theorem NT.mono {H H' : Hp} {a : Addr} (s : Sub H H') (h : NT H a) : NT H' a := let ⟨o, e, k⟩ := h; ⟨o, s a o e, k⟩
theorem NT.no {H : Hp} {a : Addr} (h : NT H a) (e : H a = none) : False := by
  obtain ⟨o, k, _⟩ := h
  rw [e] at k; cases k
theorem WOk.nt {K : KC} {G H : Hp} {p : Addr} {w : OW} (x : WOk K G H p w) : NT H p := by
  cases w with
  | lst ds => obtain ⟨vs, e, r⟩ := x; exact ⟨_, e, rfl⟩
  | dct ds =>
    rcases x with ⟨vs, e, r⟩ | ⟨vs, e, r⟩
    · exact ⟨_, e, rfl⟩
    · exact ⟨_, e, rfl⟩
theorem WOk.rep {K : KC} {G H : Hp} {p : Addr} {w : OW} (h : Sub G H) (x : WOk K G H p w) : Rep K H (.ref p) w.d := by
  cases w with
  | lst ds => obtain ⟨vs, e, r⟩ := x; exact .lst e (r.mono h)
  | dct ds =>
    rcases x with ⟨vs, e, r⟩ | ⟨vs, e, r⟩
    · exact .dk e (r.mono h)
    · exact .dt e (r.mono h)
theorem WOk.some {K : KC} {G H : Hp} {p : Addr} {w : OW} (x : WOk K G H p w) : ∃ o, H p = .some o ∧ ∀ G' H', Sub G G' → H' p = .some o → WOk K G' H' p w := by
  cases w with
  | lst ds => obtain ⟨vs, e, r⟩ := x; exact ⟨_, e, fun G' H' h k => ⟨vs, k, r.mono h⟩⟩
  | dct ds =>
    rcases x with ⟨vs, e, r⟩ | ⟨vs, e, r⟩
    · exact ⟨_, e, fun G' H' h k => .inl ⟨vs, k, r.mono h⟩⟩
    · exact ⟨_, e, fun G' H' h k => .inr ⟨vs, k, r.mono h⟩⟩
theorem WOk.freeze {K : KC} {G H : Hp} {p : Addr} {w : OW} (n : G p = none) (x : WOk K G H p w) : ∃ o, H p = .some o ∧ Rep K (upd G p o) (.ref p) w.d := by
  cases w with
  | lst ds => obtain ⟨vs, e, r⟩ := x; exact ⟨_, e, .lst upd_same (r.mono (.upd n))⟩
  | dct ds =>
    rcases x with ⟨vs, e, r⟩ | ⟨vs, e, r⟩
    · exact ⟨_, e, .dk upd_same (r.mono (.upd n))⟩
    · exact ⟨_, e, .dt upd_same (r.mono (.upd n))⟩

structure Ent where
  G : Hp
  H : Hp
def SlotOk (K : KC) (G H : Hp) (v : Option V) : SL → Prop
  | .no => True
  | .val d => ∃ u, v = some u ∧ Rep K G u d
  | .own w => ∃ p, v = some (.ref p) ∧ WOk K G H p w
def SL.owns (x : SL) (v : Option V) (p : Addr) : Prop := (∃ w, x = .own w) ∧ v = some (.ref p)
structure ER (K : KC) (Z : Ent) (G H : Hp) (σ : L2.St) (env : Env) : Prop where
  len : σ.length = env.length
  zg : Sub Z.G G
  zh : Sub Z.H H
  zzz : Sub Z.G Z.H
  sub : Sub G H
  new : ∀ a, G a ≠ none → Z.G a = none → ¬ NT Z.H a
  at' : ∀ (i : Nat) (x : SL), env[i]? = some x → ∃ v, σ[i]? = some v ∧ SlotOk K G H v x
  own : ∀ (i : Nat) (x : SL) (v : Option V) (p : Addr), env[i]? = some x → σ[i]? = some v → x.owns v p → G p = none ∧ Z.H p = none
  dis : ∀ (i j : Nat) (x y : SL) (v u : Option V) (p : Addr), env[i]? = some x → σ[i]? = some v → x.owns v p → env[j]? = some y → σ[j]? = some u → y.owns u p → i = j
def Free (σ : L2.St) (env : Env) (p : Addr) : Prop := ∀ (i : Nat) (x : SL) (v : Option V), env[i]? = some x → σ[i]? = some v → ¬ x.owns v p

structure Ext (G H G' H' : Hp) : Prop where
  g : Sub G G'
  h : Sub H H'
  s : Sub G' H'
  n : ∀ a, G a = none → NT H a → G' a = none
theorem Ext.refl {G H : Hp} (s : Sub G H) : Ext G H G H := ⟨.refl, .refl, s, fun _ h _ => h⟩
theorem Ext.trans {G H G1 H1 G2 H2 : Hp} (x : Ext G H G1 H1) (y : Ext G1 H1 G2 H2) : Ext G H G2 H2 :=
  ⟨x.g.trans y.g, x.h.trans y.h, y.s, fun a e n => y.n a (x.n a e n) (n.mono x.h)⟩
theorem Ext.lay {G H : Hp} (s : Sub G H) {p : Addr} {o : HO} (h : H p = none) : Ext G H G (upd H p o) :=
  ⟨.refl, .upd h, s.updR (s.none h), fun _ e _ => e⟩
theorem Ext.lay2 {G H : Hp} (s : Sub G H) {p : Addr} {o : HO} (h : H p = none) : Ext G H (upd G p o) (upd H p o) :=
  ⟨.upd (s.none h), .upd h, fun a u e => by
    by_cases z : a = p
    · subst z; rw [upd_same] at e ⊢; exact e
    · rw [upd_ne z] at e ⊢; exact s a u e, fun a e n => by rw [upd_ne (fun z => n.no (by rw [z]; exact h))]; exact e⟩
theorem Ext.freeze {G H G' H' : Hp} (x : Ext G H G' H') {p : Addr} {o : HO} (h : H p = none) (e : H' p = some o) : Ext G H (upd G' p o) H' := by
  refine ⟨fun a u q => ?_, x.h, x.s.upd2 e, fun a q n => ?_⟩
  · by_cases z : a = p
    · subst z
      have := x.s _ _ (x.g _ _ q)
      rw [e] at this; cases this
      exact upd_same
    · rw [upd_ne z]; exact x.g a u q
  · rw [upd_ne (fun z => n.no (by rw [z]; exact h))]; exact x.n a q n

theorem ER.ext {K : KC} {Z : Ent} {G H G' H' : Hp} {σ : L2.St} {env : Env} (e : ER K Z G H σ env) (x : Ext G H G' H') : ER K Z G' H' σ env := by
  refine ⟨e.len, e.zg.trans x.g, e.zh.trans x.h, e.zzz, x.s, fun a n z nt => ?_, fun i y q => ?_, fun i y v p q1 q2 o => ?_, e.dis⟩
  · by_cases g : G a = none
    · exact absurd (x.n a g (nt.mono e.zh)) n
    · exact e.new a g z nt
  · obtain ⟨v, h1, h2⟩ := e.at' i y q
    refine ⟨v, h1, ?_⟩
    cases y with
    | no => trivial
    | val d => obtain ⟨u, h3, h4⟩ := h2; exact ⟨u, h3, h4.mono x.g⟩
    | own w => obtain ⟨p, h3, h4⟩ := h2; exact ⟨p, h3, h4.mono x.g fun o q => x.h p o q⟩
  · obtain ⟨h1, h2⟩ := e.own i y v p q1 q2 o
    refine ⟨x.n p h1 ?_, h2⟩
    obtain ⟨⟨w, rfl⟩, rfl⟩ := o
    obtain ⟨v, h3, p', h4, h5⟩ := e.at' i _ q1
    rw [q2] at h3; cases h3
    cases h4
    exact h5.nt

def EVok (K : KC) (Z : Ent) (Hs : Hp) (G' H' : Hp) (v : V) : EV → Prop
  | .fz d => Rep K G' v d
  | .ow new w => ∃ p, v = .ref p ∧ WOk K G' H' p w ∧ G' p = none ∧ Z.H p = none ∧ (new = true → Hs p = none)
theorem EVok.ext {K : KC} {Z : Ent} {Hs G H G' H' : Hp} {v : V} {ev : EV} (x : Ext G H G' H') (h : EVok K Z Hs G H v ev) : EVok K Z Hs G' H' v ev := by
  cases ev with
  | fz d => exact Rep.mono x.g h
  | ow n w =>
    obtain ⟨p, e, h1, h2, h3, h4⟩ := h
    exact ⟨p, e, h1.mono x.g fun o q => x.h p o q, x.n p h2 h1.nt, h3, h4⟩
theorem EVok.start {K : KC} {Z : Ent} {Hs Hs' G H : Hp} {v : V} {ev : EV} (x : Sub Hs' Hs) (h : EVok K Z Hs G H v ev) : EVok K Z Hs' G H v ev := by
  cases ev with
  | fz d => exact h
  | ow n w =>
    obtain ⟨p, e, h1, h2, h3, h4⟩ := h
    exact ⟨p, e, h1, h2, h3, fun q => x.none (h4 q)⟩
theorem EVok.rep {K : KC} {Z : Ent} {Hs G H : Hp} {v : V} {ev : EV} (s : Sub G H) (h : EVok K Z Hs G H v ev) : Rep K H v ev.d := by
  cases ev with
  | fz d => exact Rep.mono s h
  | ow n w =>
    obtain ⟨p, e, h1, _⟩ := h
    subst e
    exact h1.rep s
inductive EVs (K : KC) (Z : Ent) (Hs G H : Hp) : List V → List EV → Prop
  | nil : EVs K Z Hs G H [] []
  | cons {v : V} {vs : List V} {e : EV} {es : List EV} : EVok K Z Hs G H v e → EVs K Z Hs G H vs es → EVs K Z Hs G H (v :: vs) (e :: es)
def EV.fr : EV → EV
  | .ow true w => .fz w.d
  | e => e
@[simp] theorem EV.fr_fz (d : D) : (EV.fz d).fr = .fz d := rfl
@[simp] theorem EV.fr_new (w : OW) : (EV.ow true w).fr = .fz w.d := rfl
@[simp] theorem EV.fr_old (w : OW) : (EV.ow false w).fr = .ow false w := rfl
theorem EVok.fr {K : KC} {Z : Ent} {Hs G H G' H' : Hp} {v : V} {ev : EV} (x : Ext G H G' H') (hs : Sub H Hs) (h : EVok K Z Hs G' H' v ev) : ∃ G2, Ext G H G2 H' ∧ Sub G' G2 ∧ EVok K Z Hs G2 H' v ev.fr := by
  cases ev with
  | fz d => exact ⟨G', x, .refl, h⟩
  | ow n w =>
    cases n with
    | false => exact ⟨G', x, .refl, h⟩
    | true =>
      obtain ⟨p, e, h1, h2, h3, h4⟩ := h
      subst e
      obtain ⟨o, h5, h6⟩ := h1.freeze h2
      exact ⟨upd G' p o, x.freeze (hs.none (h4 rfl)) h5, .upd h2, h6⟩
def ExcOk (K : KC) (G H : Hp) (cls : Value) (d : Option Addr) (e : Exn) : Prop :=
  ∃ a, K.C e.cls = some a ∧ cls = .ref a ∧ (e.fs = [] ∨ ∃ dd fs, d = some dd ∧ H dd = some (.xd fs) ∧ RepF K G fs e.fs)
end DL
namespace DL
open PySem PySem.Spec PyProof.Rows L2

abbrev kc (X : Cx) (C : Str → Option Addr) : KC := ⟨X.K, C⟩
def tE (K : KC) (W : WX) (m : Env → Rz EV) : TE := fun σ H Q => ∃ Z G env, ER K Z G H σ env ∧ match m env with
  | .ok ev => ∀ v G' H', Ext G H G' H' → EVok K Z H G' H' v ev → Q v H'
  | .exc e => ∀ cls d G' H', Ext G H G' H' → ExcOk K G' H' cls d e → W cls d σ H'
  | .stuck => False
def tT (K : KC) (W : WX) (m : Env → Rz Bool) : TT := fun σ H Q => ∃ Z G env, ER K Z G H σ env ∧ match m env with
  | .ok b => ∀ G' H', Ext G H G' H' → Q b H'
  | .exc e => ∀ cls d G' H', Ext G H G' H' → ExcOk K G' H' cls d e → W cls d σ H'
  | .stuck => False
def tA (K : KC) (W : WX) (m : Env → Rz (List EV)) : TA := fun σ H Q => ∃ Z G env, ER K Z G H σ env ∧ match m env with
  | .ok evs => ∀ vs G' H', Ext G H G' H' → EVs K Z H G' H' vs evs → Q vs H'
  | .exc e => ∀ cls d G' H', Ext G H G' H' → ExcOk K G' H' cls d e → W cls d σ H'
  | .stuck => False
structure DE (X : Cx) (C : Str → Option Addr) (W : WX) (e : Expr) (m : Env → Rz EV) : Prop where
  pe : PE X e (tE (kc X C) W m)
structure DT (X : Cx) (C : Str → Option Addr) (W : WX) (e : Expr) (m : Env → Rz Bool) : Prop where
  pt : PT X e (tT (kc X C) W m)
structure DA (X : Cx) (C : Str → Option Addr) (W : WX) (es : List Expr) (m : Env → Rz (List EV)) : Prop where
  pa : PA X es (tA (kc X C) W m)
inductive Out where
  | nx (env : Env) | bk (env : Env) | ct (env : Env) | ret (ev : EV) | exc (e : Exn) (env : Env) | stuck
def Post (K : KC) (W : WX) (Z : Ent) (D : Ends) (G : Hp) : Out → Prop
  | .nx env => ∀ σ H G', Sub G G' → ER K Z G' H σ env → D.nx σ H
  | .bk env => ∀ σ H G', Sub G G' → ER K Z G' H σ env → D.bk σ H
  | .ct env => ∀ σ H G', Sub G G' → ER K Z G' H σ env → D.ct σ H
  | .ret ev => ∀ σ env v H G' Hs, Sub G G' → ER K Z G' H σ env → Sub Z.H Hs → EVok K Z Hs G' H v ev → D.rt v H
  | .exc e env => ∀ σ H G' cls d, Sub G G' → ER K Z G' H σ env → ExcOk K G' H cls d e → W cls d σ H
  | .stuck => False
theorem Post.mono {K : KC} {W : WX} {Z : Ent} {D : Ends} {G G1 : Hp} {o : Out} (s : Sub G G1) (h : Post K W Z D G o) : Post K W Z D G1 o := by
  cases o with
  | nx env => exact fun σ H G' q => h σ H G' (s.trans q)
  | bk env => exact fun σ H G' q => h σ H G' (s.trans q)
  | ct env => exact fun σ H G' q => h σ H G' (s.trans q)
  | ret ev => exact fun σ env v H G' Hs q => h σ env v H G' Hs (s.trans q)
  | exc e env => exact fun σ H G' cls d q => h σ H G' cls d (s.trans q)
  | stuck => exact h
def tS (K : KC) (W : WX) (m : Env → Out) : TS := fun D σ H => ∃ Z G env, ER K Z G H σ env ∧ Post K W Z D G (m env)
structure DS (X : Cx) (C : Str → Option Addr) (W : WX) (st : Stmt) (m : Env → Out) : Prop where
  ps : PS X st (tS (kc X C) W m)
structure DSs (X : Cx) (C : Str → Option Addr) (W : WX) (st : List Stmt) (m : Env → Out) : Prop where
  pss : PSs X st (tS (kc X C) W m)

theorem PE.imp {X : Cx} {e : Expr} {t t' : TE} (h : PE X e t) (k : ∀ σ H Q, t' σ H Q → t σ H Q) : PE X e t' := ⟨fun pins s σ H Q I q => h.run pins s σ H Q I (k _ _ _ q)⟩
theorem PT.imp {X : Cx} {e : Expr} {t t' : TT} (h : PT X e t) (k : ∀ σ H Q, t' σ H Q → t σ H Q) : PT X e t' := ⟨fun pins s σ H Q I q => h.run pins s σ H Q I (k _ _ _ q)⟩
theorem PA.imp {X : Cx} {e : List Expr} {t t' : TA} (h : PA X e t) (k : ∀ σ H Q, t' σ H Q → t σ H Q) : PA X e t' := ⟨fun pos pins s σ H Q I q => h.run pos pins s σ H Q I (k _ _ _ q)⟩
theorem PS.imp {X : Cx} {e : Stmt} {t t' : TS} (h : PS X e t) (k : ∀ D σ H, t' D σ H → t D σ H) : PS X e t' := ⟨fun pins s σ H D I q => h.run pins s σ H D I (k _ _ _ q)⟩
theorem PSs.imp {X : Cx} {e : List Stmt} {t t' : TS} (h : PSs X e t) (k : ∀ D σ H, t' D σ H → t D σ H) : PSs X e t' := ⟨fun pins s σ H D I q => h.run pins s σ H D I (k _ _ _ q)⟩

theorem tE.go {K : KC} {W : WX} {m : Env → Rz EV} {Z : Ent} {G H : Hp} {σ : L2.St} {env : Env} {Q : VK} (e : ER K Z G H σ env)
    (h : match m env with
      | .ok ev => ∀ v G' H', Ext G H G' H' → EVok K Z H G' H' v ev → Q v H'
      | .exc e => ∀ cls d G' H', Ext G H G' H' → ExcOk K G' H' cls d e → W cls d σ H'
      | .stuck => False) : tE K W m σ H Q := ⟨Z, G, env, e, h⟩

section
variable {X : Cx} {C : Str → Option Addr} {W : WX}

def mC (d : D) : Env → Rz EV := fun _ => .ok (.fz d)
theorem de_of_val {e : Expr} {v : V} {d : D} (h : PE X e (tC v)) (r : ∀ G, Rep (kc X C) G v d) : DE X C W e (mC d) := ⟨PE.imp h fun σ H Q ⟨Z, G, env, er, q⟩ =>
  q v G H (.refl er.sub) (r G)⟩
theorem de_int {i j pos} : DE X C W (.Constant (.int i) j pos) (mC (.int i)) := de_of_val pe_int fun _ => .int i
theorem de_bl {b j pos} : DE X C W (.Constant (.bool b) j pos) (mC (.bl b)) := de_of_val pe_bl fun _ => .bl b
theorem de_non {j pos} : DE X C W (.Constant .none j pos) (mC .non) := de_of_val pe_non fun _ => .non
theorem de_str {x j pos} : DE X C W (.Constant (.str x) j pos) (mC (.str x)) := de_of_val pe_str fun _ => .str x
theorem de_globS {x y : Str} {t : Tok} {pos : Pos} (hm : X.mg x = some (.str y t)) (hg : Gl X x := by rfl) (hd : (x == ("__debug__" : Str)) = false := by decide) : DE X C W (.Name x pos) (mC (.str y)) :=
  de_of_val (pe_glob hg hm (v := .str y) ⟨t, rfl⟩ hd) fun _ => .str y
theorem de_globI {x : Str} {y : Int} {t : Tok} {pos : Pos} (hm : X.mg x = some (.int y t)) (hg : Gl X x := by rfl) (hd : (x == ("__debug__" : Str)) = false := by decide) : DE X C W (.Name x pos) (mC (.int y)) :=
  de_of_val (pe_glob hg hm (v := .int y) ⟨t, rfl⟩ hd) fun _ => .int y
def rdSlot : SL → Rz EV
  | .no => .stuck
  | .val d => .ok (.fz d)
  | .own w => .ok (.ow false w)
def mV (i : Nat) : Env → Rz EV := fun env => rdSlot (env.getD i .no)
theorem getD_some {env : Env} {i : Nat} {x : SL} (h : env.getD i .no = x) (hx : x ≠ .no) : env[i]? = some x := by
  rw [List.getD_eq_getElem?_getD] at h
  cases q : env[i]? with
  | none => rw [q] at h; exact absurd h.symm hx
  | some y => rw [q] at h; exact congrArg some h
theorem de_var (i : Nat) {x : Str} {pos : Pos} (hN : X.N[i]? = some x := by rfl) (hv : Vis X.env.scope x := by first | exact Or.inl rfl | exact Or.inr (Or.inl rfl) | exact Or.inr (Or.inr rfl)) (hd : (x == ("__debug__" : Str)) = false := by decide)
    (hcd : (x == ("__classdict__" : Str)) = false := by decide) : DE X C W (.Name x pos) (mV i) := ⟨PE.imp (pe_var hN hv hd hcd) fun σ H Q ⟨Z, G, env, er, q⟩ => by
  unfold mV at q
  cases hx : env.getD i .no with
  | no => rw [hx] at q; exact q.elim
  | val d =>
    rw [hx] at q
    obtain ⟨v, h1, u, h2, h3⟩ := er.at' i _ (getD_some hx (by simp))
    subst h2
    exact ⟨u, h1, q u G H (.refl er.sub) h3⟩
  | own w =>
    rw [hx] at q
    have hi := getD_some hx (by simp)
    obtain ⟨v, h1, p, h2, h3⟩ := er.at' i _ hi
    subst h2
    obtain ⟨o1, o2⟩ := er.own i _ _ p hi h1 ⟨⟨w, rfl⟩, rfl⟩
    exact ⟨.ref p, h1, q _ G H (.refl er.sub) ⟨p, rfl, h3, o1, o2, fun z => by cases z⟩⟩⟩

def OpD (X : Cx) (C : Str → Option Addr) (f : Value → Value → Sem Value) (g : EV → EV → Rz EV) : Prop :=
  ∃ r : R2, OpR X f r ∧ ∀ (Z : Ent) (G H Hs : Hp) (x y : V) (a b : EV) (Q : VK), Sub G H → Sub Z.H H → EVok (kc X C) Z Hs G H x a → EVok (kc X C) Z Hs G H y b →
    (match g a b with
      | .ok ev => ∀ v G' H', Ext G H G' H' → EVok (kc X C) Z H G' H' v ev → Q v H'
      | _ => False) → r x y H Q
def m2 (ma mb : Env → Rz EV) (g : EV → EV → Rz EV) : Env → Rz EV := fun env => ma env >>= fun a => mb env >>= fun b => g a b
theorem two_go {ma mb : Env → Rz EV} {g : EV → EV → Rz EV} {r : R2} {σ : L2.St} {H : Hp} {Q : VK}
    (ho : ∀ (Z : Ent) (G H Hs : Hp) (x y : V) (a b : EV) (Q : VK), Sub G H → Sub Z.H H → EVok (kc X C) Z Hs G H x a → EVok (kc X C) Z Hs G H y b →
      (match g a b with
        | .ok ev => ∀ v G' H', Ext G H G' H' → EVok (kc X C) Z H G' H' v ev → Q v H'
        | _ => False) → r x y H Q)
    (hg : ∀ a b e, g a b ≠ .exc e) (h : tE (kc X C) W (m2 ma mb g) σ H Q) : tOp r (tE (kc X C) W ma) (tE (kc X C) W mb) σ H Q := by
  obtain ⟨Z, G, env, er, q⟩ := h
  unfold m2 at q
  refine ⟨Z, G, env, er, ?_⟩
  cases ha : ma env with
  | stuck => rw [ha] at q; exact q.elim
  | exc e => rw [ha] at q; exact q
  | ok a =>
    rw [ha] at q
    refine fun x G1 H1 x1 va => ⟨Z, G1, env, er.ext x1, ?_⟩
    cases hb : mb env with
    | stuck => rw [hb] at q; exact q.elim
    | exc e =>
      rw [hb] at q
      exact fun cls d G' H' x2 => q cls d G' H' (x1.trans x2)
    | ok b =>
      rw [hb] at q
      refine fun y G2 H2 x2 vb => ?_
      refine ho Z G2 H2 H x y a b Q x2.s (er.zh.trans (x1.h.trans x2.h)) (va.ext x2) (vb.start x1.h) ?_
      simp only [Rz.ok_bind] at q
      cases hgg : g a b with
      | stuck => rw [hgg] at q; exact q.elim
      | exc e => exact absurd hgg (hg a b e)
      | ok ev =>
        rw [hgg] at q
        exact fun v G' H' x3 ve => q v G' H' ((x1.trans x2).trans x3) (ve.start (x1.h.trans x2.h))
structure NoExc (g : EV → EV → Rz EV) : Prop where
  no : ∀ a b e, g a b ≠ .exc e
theorem de_op {op : Operator} {g : EV → EV → Rz EV} {a b : Expr} {ma mb : Env → Rz EV} {pos : Pos} (ho : OpD X C (binaryOp op) g) (hg : NoExc g) (ha : DE X C W a ma) (hb : DE X C W b mb) : DE X C W (.BinOp a op b pos) (m2 ma mb g) := by
  obtain ⟨r, h1, h2⟩ := ho
  exact ⟨PE.imp (pe_op h1 ha.pe hb.pe) fun σ H Q h => two_go h2 hg.no h⟩
theorem de_cmp {op : CmpOp} {g : EV → EV → Rz EV} {a b : Expr} {ma mb : Env → Rz EV} {pos : Pos} (ho : OpD X C (compareOp op) g) (hg : NoExc g) (ha : DE X C W a ma) (hb : DE X C W b mb) (hm : behindInMarks op b = false := by first | exact nomark _ | rfl) : DE X C W (.Compare a [op] [b] pos) (m2 ma mb g) := by
  obtain ⟨r, h1, h2⟩ := ho
  exact ⟨PE.imp (pe_cmpR h1 ha.pe hb.pe hm) fun σ H Q h => two_go h2 hg.no h⟩
def asB : EV → Rz Bool
  | .fz (.bl b) => .ok b
  | _ => .stuck
@[simp] theorem asB_bl (b : Bool) : asB (.fz (.bl b)) = .ok b := rfl
def mB (m : Env → Rz EV) : Env → Rz Bool := fun env => m env >>= asB
theorem asB_ok {K : KC} {Z : Ent} {Hs G H : Hp} {v : V} {ev : EV} {b : Bool} (h : asB ev = .ok b) (k : EVok K Z Hs G H v ev) : v = .bl b := by
  unfold asB at h
  split at h
  · cases h; cases k; rfl
  · cases h
theorem asB_exc {ev : EV} {e : Exn} : asB ev ≠ .exc e := by
  unfold asB; split <;> simp
theorem tB_go {m : Env → Rz EV} {σ : L2.St} {H : Hp} {Q : Bool → Hp → Prop} (h : tT (kc X C) W (mB m) σ H Q) : tE (kc X C) W m σ H fun x H1 => ∃ k, x = .bl k ∧ Q k H1 := by
  obtain ⟨Z, G, env, er, q⟩ := h
  unfold mB at q
  refine ⟨Z, G, env, er, ?_⟩
  cases ha : m env with
  | stuck => rw [ha] at q; exact q.elim
  | exc e => rw [ha] at q; exact q
  | ok ev =>
    rw [ha] at q
    simp only [Rz.ok_bind] at q
    cases hb : asB ev with
    | stuck => rw [hb] at q; exact q.elim
    | exc e => exact absurd hb asB_exc
    | ok b =>
      rw [hb] at q
      exact fun v G' H' x k => ⟨b, asB_ok hb k, q G' H' x⟩
theorem dt_cmp {op : CmpOp} {g : EV → EV → Rz EV} {a b : Expr} {ma mb : Env → Rz EV} {pos : Pos} (ho : OpD X C (compareOp op) g) (hg : NoExc g) (ha : DE X C W a ma) (hb : DE X C W b mb) (hm : behindInMarks op b = false := by first | exact nomark _ | rfl) : DT X C W (.Compare a [op] [b] pos) (mB (m2 ma mb g)) := by
  obtain ⟨r, h1, h2⟩ := ho
  exact ⟨PT.imp (pt_cmpR h1 ha.pe hb.pe hm) fun σ H Q h => two_go h2 hg.no (tB_go h)⟩
theorem dt_val {e : Expr} {m : Env → Rz EV} (h : DE X C W e m) (he : ∀ whole, isTrue e X.env whole = (do let v ← whole; standAt e.pos; holding [v] (truthy v)) := by intro _; rfl) : DT X C W e (mB m) :=
  ⟨PT.imp (pt_val h.pe he) fun σ H Q h => tB_go h⟩
def mTV (m : Env → Rz Bool) : Env → Rz EV := fun env => m env >>= fun b => .ok (.fz (.bl b))

def mAnd (a b : Env → Rz Bool) : Env → Rz Bool := fun env => a env >>= fun x => if x = true then b env else .ok false
def mOr (a b : Env → Rz Bool) : Env → Rz Bool := fun env => a env >>= fun x => if x = true then .ok true else b env
def mNot (a : Env → Rz Bool) : Env → Rz Bool := fun env => a env >>= fun x => .ok (!x)
structure DW (X : Cx) (C : Str → Option Addr) (W : WX) (e : Expr) (m : Env → Rz Bool) : Prop where
  pw : PW X e (tT (kc X C) W m)
theorem DW.dt {e : Expr} {m : Env → Rz Bool} (h : DW X C W e m) : DT X C W e m := ⟨h.pw.pt⟩
theorem PW.imp {e : Expr} {t t' : TT} (h : PW X e t) (k : ∀ σ H Q, t' σ H Q → t σ H Q) : PW X e t' := ⟨fun wh pins s σ H Q I q => h.run wh pins s σ H Q I (k _ _ _ q)⟩
theorem tT_seq {ma : Env → Rz Bool} {f : Bool → Env → Rz Bool} {σ : L2.St} {H : Hp} {Q : Bool → Hp → Prop} (h : tT (kc X C) W (fun env => ma env >>= fun x => f x env) σ H Q) :
    tT (kc X C) W ma σ H fun x H1 => tT (kc X C) W (f x) σ H1 Q := by
  obtain ⟨Z, G, env, er, q⟩ := h
  refine ⟨Z, G, env, er, ?_⟩
  cases ha : ma env with
  | stuck => simp only [ha] at q; exact q.elim
  | exc e => simp only [ha] at q; exact q
  | ok a =>
    simp only [ha, Rz.ok_bind] at q
    refine fun G1 H1 x1 => ⟨Z, G1, env, er.ext x1, ?_⟩
    cases hb : f a env with
    | stuck => rw [hb] at q; exact q.elim
    | exc e => rw [hb] at q; exact fun cls d G' H' x2 => q cls d G' H' (x1.trans x2)
    | ok b => rw [hb] at q; exact fun G' H' x2 => q G' H' (x1.trans x2)
theorem tT_ok {b : Bool} {σ : L2.St} {H : Hp} {Q : Bool → Hp → Prop} {f : Env → Rz Bool} (hf : ∀ env, f env = .ok b) (h : tT (kc X C) W f σ H Q) : Q b H := by
  obtain ⟨Z, G, env, er, q⟩ := h
  rw [hf] at q
  exact q G H (.refl er.sub)
theorem dw_and1 {a : Expr} {m : Env → Rz Bool} {pos : Pos} (h : DT X C W a m) : DW X C W (.BoolOp .And [a] pos) m := ⟨pw_and1 h.pt⟩
theorem dw_or1 {a : Expr} {m : Env → Rz Bool} {pos : Pos} (h : DT X C W a m) : DW X C W (.BoolOp .Or [a] pos) m := ⟨pw_or1 h.pt⟩
theorem dw_and {a b : Expr} {rest : List Expr} {ma mb : Env → Rz Bool} {pos : Pos} (ha : DT X C W a ma) (hb : DW X C W (.BoolOp .And (b :: rest) pos) mb) : DW X C W (.BoolOp .And (a :: b :: rest) pos) (mAnd ma mb) :=
  ⟨PW.imp (pw_and ha.pt hb.pw) fun σ H Q h => by
    have q := tT_seq (f := fun x env => if x = true then mb env else .ok false) h
    obtain ⟨Z, G, env, er, q⟩ := q
    refine ⟨Z, G, env, er, ?_⟩
    cases hm : ma env with
    | stuck => rw [hm] at q; exact q
    | exc e => rw [hm] at q; exact q
    | ok c =>
      rw [hm] at q
      intro G1 H1 x1
      have q := q G1 H1 x1
      cases c with
      | true => exact q
      | false => exact tT_ok (b := false) (fun _ => rfl) q⟩
theorem dw_or {a b : Expr} {rest : List Expr} {ma mb : Env → Rz Bool} {pos : Pos} (ha : DT X C W a ma) (hb : DW X C W (.BoolOp .Or (b :: rest) pos) mb) : DW X C W (.BoolOp .Or (a :: b :: rest) pos) (mOr ma mb) :=
  ⟨PW.imp (pw_or ha.pt hb.pw) fun σ H Q h => by
    have q := tT_seq (f := fun x env => if x = true then .ok true else mb env) h
    obtain ⟨Z, G, env, er, q⟩ := q
    refine ⟨Z, G, env, er, ?_⟩
    cases hm : ma env with
    | stuck => rw [hm] at q; exact q
    | exc e => rw [hm] at q; exact q
    | ok c =>
      rw [hm] at q
      intro G1 H1 x1
      have q := q G1 H1 x1
      cases c with
      | true => exact tT_ok (b := true) (fun _ => rfl) q
      | false => exact q⟩
theorem dt_not {a : Expr} {ma : Env → Rz Bool} {pos : Pos} (ha : DT X C W a ma) : DT X C W (.UnaryOp .Not a pos) (mNot ma) :=
  ⟨PT.imp (pt_not ha.pt) fun σ H Q h => by
    obtain ⟨Z, G, env, er, q⟩ := tT_seq (f := fun x _ => .ok (!x)) h
    refine ⟨Z, G, env, er, ?_⟩
    cases hm : ma env with
    | stuck => rw [hm] at q; exact q
    | exc e => rw [hm] at q; exact q
    | ok c => rw [hm] at q; exact fun G1 H1 x1 => tT_ok (b := !c) (fun _ => rfl) (q G1 H1 x1)⟩
theorem tE_seq {ma : Env → Rz EV} {f : EV → Env → Rz EV} {σ : L2.St} {H : Hp} {Q : VK} (h : tE (kc X C) W (fun env => ma env >>= fun x => f x env) σ H Q)
    {R : VK} (hR : ∀ (Z : Ent) (G1 H1 : Hp) (env : Env) (v : V) (a : EV), ER (kc X C) Z G1 H1 σ env → EVok (kc X C) Z H G1 H1 v a → Sub H H1 → tE (kc X C) W (f a) σ H1 Q → R v H1) : tE (kc X C) W ma σ H R := by
  obtain ⟨Z, G, env, er, q⟩ := h
  refine ⟨Z, G, env, er, ?_⟩
  cases ha : ma env with
  | stuck => simp only [ha] at q; exact q.elim
  | exc e => simp only [ha] at q; exact q
  | ok a =>
    simp only [ha, Rz.ok_bind] at q
    refine fun v G1 H1 x1 va => hR Z G1 H1 env v a (er.ext x1) va x1.h ⟨Z, G1, env, er.ext x1, ?_⟩
    cases hb : f a env with
    | stuck => rw [hb] at q; exact q.elim
    | exc e => rw [hb] at q; exact fun cls d G' H' x2 => q cls d G' H' (x1.trans x2)
    | ok b => rw [hb] at q; exact fun v G' H' x2 vb => q v G' H' (x1.trans x2) (vb.start x1.h)
def mAndV (a b : Env → Rz EV) : Env → Rz EV := fun env => a env >>= fun x => asB x >>= fun k => if k = true then b env else .ok (.fz (.bl false))
def mOrV (a b : Env → Rz EV) : Env → Rz EV := fun env => a env >>= fun x => asB x >>= fun k => if k = true then .ok (.fz (.bl true)) else b env
def mNotV (a : Env → Rz EV) : Env → Rz EV := fun env => a env >>= fun x => asB x >>= fun k => .ok (.fz (.bl (!k)))
theorem asB_seq {a : EV} {f : Bool → Env → Rz EV} {σ : L2.St} {H : Hp} {Q : VK} {K : KC} {Z : Ent} {Hs G1 H1 : Hp} {v : V} (va : EVok K Z Hs G1 H1 v a) (h : tE (kc X C) W (fun env => asB a >>= fun k => f k env) σ H Q) : ∃ k, v = .bl k ∧ tE (kc X C) W (f k) σ H Q := by
  obtain ⟨Z, G, env, er, q⟩ := h
  cases hb : asB a with
  | stuck => simp only [hb] at q; exact q.elim
  | exc e => exact absurd hb asB_exc
  | ok k =>
    simp only [hb, Rz.ok_bind] at q
    exact ⟨k, asB_ok hb va, Z, G, env, er, q⟩
theorem tE_bl {b : Bool} {σ : L2.St} {H : Hp} {Q : VK} {f : Env → Rz EV} (hf : ∀ env, f env = .ok (.fz (.bl b))) (h : tE (kc X C) W f σ H Q) : Q (.bl b) H := by
  obtain ⟨Z, G, env, er, q⟩ := h
  rw [hf] at q
  exact q _ G H (.refl er.sub) (.bl b)
theorem de_one {op} {a : Expr} {m : Env → Rz EV} {pos : Pos} (h : DE X C W a m) : DE X C W (.BoolOp op [a] pos) m := ⟨pe_one h.pe⟩
theorem de_and {a b : Expr} {rest : List Expr} {ma mb : Env → Rz EV} {pos : Pos} (ha : DE X C W a ma) (hb : DE X C W (.BoolOp .And (b :: rest) pos) mb) : DE X C W (.BoolOp .And (a :: b :: rest) pos) (mAndV ma mb) :=
  ⟨PE.imp (pe_and ha.pe hb.pe) fun σ H Q h => tE_seq (f := fun x env => asB x >>= fun k => if k = true then mb env else .ok (.fz (.bl false))) h fun Z G1 H1 env v a er va hs q => by
    obtain ⟨k, rfl, q⟩ := asB_seq (f := fun k env => if k = true then mb env else .ok (.fz (.bl false))) va q
    refine ⟨k, rfl, ?_⟩
    cases k with
    | true => exact q
    | false => exact tE_bl (b := false) (fun _ => rfl) q⟩
theorem de_or {a b : Expr} {rest : List Expr} {ma mb : Env → Rz EV} {pos : Pos} (ha : DE X C W a ma) (hb : DE X C W (.BoolOp .Or (b :: rest) pos) mb) : DE X C W (.BoolOp .Or (a :: b :: rest) pos) (mOrV ma mb) :=
  ⟨PE.imp (pe_or ha.pe hb.pe) fun σ H Q h => tE_seq (f := fun x env => asB x >>= fun k => if k = true then .ok (.fz (.bl true)) else mb env) h fun Z G1 H1 env v a er va hs q => by
    obtain ⟨k, rfl, q⟩ := asB_seq (f := fun k env => if k = true then .ok (.fz (.bl true)) else mb env) va q
    refine ⟨k, rfl, ?_⟩
    cases k with
    | true => exact tE_bl (b := true) (fun _ => rfl) q
    | false => exact q⟩
theorem de_not {a : Expr} {ma : Env → Rz EV} {pos : Pos} (ha : DE X C W a ma) : DE X C W (.UnaryOp .Not a pos) (mNotV ma) :=
  ⟨PE.imp (pe_not ha.pe) fun σ H Q h => tE_seq (f := fun x _ => asB x >>= fun k => .ok (.fz (.bl (!k)))) h fun Z G1 H1 env v a er va hs q => by
    obtain ⟨k, rfl, q⟩ := asB_seq (f := fun k _ => .ok (.fz (.bl (!k)))) va q
    exact ⟨k, rfl, tE_bl (b := !k) (fun _ => rfl) q⟩⟩
def mIf (t : Env → Rz Bool) (a b : Env → Rz EV) : Env → Rz EV := fun env => t env >>= fun x => if x = true then a env else b env
theorem tT_seqE {ma : Env → Rz Bool} {f : Bool → Env → Rz EV} {σ : L2.St} {H : Hp} {Q : VK} (h : tE (kc X C) W (fun env => ma env >>= fun x => f x env) σ H Q) :
    tT (kc X C) W ma σ H fun x H1 => tE (kc X C) W (f x) σ H1 Q := by
  obtain ⟨Z, G, env, er, q⟩ := h
  refine ⟨Z, G, env, er, ?_⟩
  cases ha : ma env with
  | stuck => simp only [ha] at q; exact q.elim
  | exc e => simp only [ha] at q; exact q
  | ok a =>
    simp only [ha, Rz.ok_bind] at q
    refine fun G1 H1 x1 => ⟨Z, G1, env, er.ext x1, ?_⟩
    cases hb : f a env with
    | stuck => rw [hb] at q; exact q.elim
    | exc e => rw [hb] at q; exact fun cls d G' H' x2 => q cls d G' H' (x1.trans x2)
    | ok b => rw [hb] at q; exact fun v G' H' x2 vb => q v G' H' (x1.trans x2) (vb.start x1.h)
theorem de_if {c a b : Expr} {t : Env → Rz Bool} {ma mb : Env → Rz EV} {pos : Pos} (hc : DT X C W c t) (ha : DE X C W a ma) (hb : DE X C W b mb) : DE X C W (.IfExp c a b pos) (mIf t ma mb) :=
  ⟨PE.imp (pe_ifExp hc.pt ha.pe hb.pe) fun σ H Q h => by
    obtain ⟨Z, G, env, er, q⟩ := tT_seqE (f := fun x env => if x = true then ma env else mb env) h
    refine ⟨Z, G, env, er, ?_⟩
    cases hm : t env with
    | stuck => rw [hm] at q; exact q
    | exc e => rw [hm] at q; exact q
    | ok c =>
      rw [hm] at q
      intro G1 H1 x1
      have q := q G1 H1 x1
      cases c with
      | true => exact q
      | false => exact q⟩

def mNil : Env → Rz (List EV) := fun _ => .ok []
def mCons (a : Env → Rz EV) (r : Env → Rz (List EV)) : Env → Rz (List EV) := fun env => a env >>= fun x => r env >>= fun xs => .ok (x.fr :: xs)
theorem EVs.ext {K : KC} {Z : Ent} {Hs G H G' H' : Hp} (x : Ext G H G' H') : ∀ {vs : List V} {es : List EV}, EVs K Z Hs G H vs es → EVs K Z Hs G' H' vs es
  | _, _, .nil => .nil
  | _, _, .cons a b => .cons (a.ext x) (b.ext x)
theorem EVs.start {K : KC} {Z : Ent} {Hs Hs' G H : Hp} (x : Sub Hs' Hs) : ∀ {vs : List V} {es : List EV}, EVs K Z Hs G H vs es → EVs K Z Hs' G H vs es
  | _, _, .nil => .nil
  | _, _, .cons a b => .cons (a.start x) (b.start x)
theorem da_nil : DA X C W [] mNil := ⟨PA.imp pa_nil fun σ H Q ⟨Z, G, env, er, q⟩ => q [] G H (.refl er.sub) .nil⟩
theorem da_cons {e : Expr} {es : List Expr} {m : Env → Rz EV} {r : Env → Rz (List EV)} (h : DE X C W e m) (hr : DA X C W es r) (hs : starEach (e :: es) X.env = (false, eval e X.env) :: starEach es X.env := by rfl) : DA X C W (e :: es) (mCons m r) :=
  ⟨PA.imp (pa_cons h.pe hr.pa hs) fun σ H Q ⟨Z, G, env, er, q⟩ => by
    unfold mCons at q
    refine ⟨Z, G, env, er, ?_⟩
    cases ha : m env with
    | stuck => rw [ha] at q; exact q.elim
    | exc e => rw [ha] at q; exact q
    | ok a =>
      rw [ha] at q
      simp only [Rz.ok_bind] at q
      intro v G1 H1 x1 va
      obtain ⟨G2, x2, s2, va2⟩ := va.fr x1 .refl
      refine ⟨Z, G2, env, er.ext x2, ?_⟩
      cases hb : r env with
      | stuck => rw [hb] at q; exact q.elim
      | exc e => rw [hb] at q; exact fun cls d G' H' x3 => q cls d G' H' (x2.trans x3)
      | ok b => rw [hb] at q; exact fun vs G' H' x3 vb => q (v :: vs) G' H' (x2.trans x3) (.cons (va2.ext x3) (vb.start x2.h))⟩
def allFz : List EV → Option (List D)
  | [] => some []
  | .fz d :: r => (allFz r).map (d :: ·)
  | _ :: _ => none
@[simp] theorem allFz_nil : allFz [] = some [] := rfl
@[simp] theorem allFz_fz (d : D) (r : List EV) : allFz (.fz d :: r) = (allFz r).map (d :: ·) := rfl
theorem allFz_ok {K : KC} {Z : Ent} {Hs G H : Hp} : ∀ {evs : List EV} {vs : List V} {ds : List D}, allFz evs = some ds → EVs K Z Hs G H vs evs → Reps K G vs ds
  | [], _, _, e, .nil => by cases e; exact .nil
  | .fz d :: r, _, ds, e, .cons a b => by
    rw [allFz_fz] at e
    cases q : allFz r with
    | none => rw [q] at e; cases e
    | some es => rw [q] at e; cases e; exact .cons a (allFz_ok q b)
  | .ow _ _ :: _, _, _, e, _ => by cases e
def mTup (a : Env → Rz (List EV)) : Env → Rz EV := fun env => a env >>= fun xs => orStuck (allFz xs) >>= fun ds => if ds.length ≤ sizeLine then .ok (.fz (.tup ds)) else .stuck
def mLst (a : Env → Rz (List EV)) : Env → Rz EV := fun env => a env >>= fun xs => orStuck (allFz xs) >>= fun ds => if ds.length ≤ sizeLine then .ok (.ow true (.lst ds)) else .stuck
theorem tA_seq {ma : Env → Rz (List EV)} {f : List EV → Env → Rz EV} {σ : L2.St} {H : Hp} {Q : VK} (h : tE (kc X C) W (fun env => ma env >>= fun x => f x env) σ H Q)
    {R : List V → Hp → Prop} (hR : ∀ (Z : Ent) (G1 H1 : Hp) (env : Env) (vs : List V) (a : List EV), ER (kc X C) Z G1 H1 σ env → EVs (kc X C) Z H G1 H1 vs a → Sub H H1 →
      (match f a env with
        | .ok ev => ∀ v G' H', Ext G1 H1 G' H' → EVok (kc X C) Z H1 G' H' v ev → Q v H'
        | .exc e => ∀ cls d G' H', Ext G1 H1 G' H' → ExcOk (kc X C) G' H' cls d e → W cls d σ H'
        | .stuck => False) → R vs H1) : tA (kc X C) W ma σ H R := by
  obtain ⟨Z, G, env, er, q⟩ := h
  refine ⟨Z, G, env, er, ?_⟩
  cases ha : ma env with
  | stuck => simp only [ha] at q; exact q.elim
  | exc e => simp only [ha] at q; exact q
  | ok a =>
    simp only [ha, Rz.ok_bind] at q
    refine fun v G1 H1 x1 va => hR Z G1 H1 env v a (er.ext x1) va x1.h ?_
    cases hb : f a env with
    | stuck => rw [hb] at q; exact q.elim
    | exc e => rw [hb] at q; exact fun cls d G' H' x2 => q cls d G' H' (x1.trans x2)
    | ok b => rw [hb] at q; exact fun v G' H' x2 vb => q v G' H' (x1.trans x2) (vb.start x1.h)
theorem disp_inv {xs : List EV} {F : List D → EV} {P : Rz EV → Prop} (hs : P .stuck → False) (h : P (orStuck (allFz xs) >>= fun ds => if ds.length ≤ sizeLine then .ok (F ds) else .stuck)) : ∃ ds, allFz xs = some ds ∧ ds.length ≤ sizeLine ∧ P (.ok (F ds)) := by
  cases q : allFz xs with
  | none => rw [q] at h; exact (hs h).elim
  | some ds =>
    rw [q] at h
    simp only [orStuck_some, Rz.ok_bind] at h
    by_cases z : ds.length ≤ sizeLine
    · rw [if_pos z] at h; exact ⟨ds, rfl, z, h⟩
    · rw [if_neg z] at h; exact (hs h).elim
theorem de_tup {es : List Expr} {x1} {pos : Pos} {a : Env → Rz (List EV)} (h : DA X C W es a) : DE X C W (.Tuple es x1 pos) (mTup a) :=
  ⟨PE.imp (pe_tup h.pa) fun σ H Q h => tA_seq (f := fun xs _ => orStuck (allFz xs) >>= fun ds => if ds.length ≤ sizeLine then .ok (.fz (.tup ds)) else .stuck) h fun Z G1 H1 env vs a er va hs q => by
    obtain ⟨ds, h1, h2, q⟩ := disp_inv (F := fun ds => EV.fz (.tup ds)) (P := fun r => match r with
        | .ok ev => ∀ v G' H', Ext G1 H1 G' H' → EVok (kc X C) Z H1 G' H' v ev → Q v H'
        | .exc e => ∀ cls d G' H', Ext G1 H1 G' H' → ExcOk (kc X C) G' H' cls d e → W cls d σ H'
        | .stuck => False) (fun z => z) q
    have r := allFz_ok h1 va
    refine ⟨by rw [r.length]; exact h2, fun p hp => q (.ref p) _ _ (.lay2 er.sub hp) ?_⟩
    exact .tup (.of upd_same) (r.mono (.upd (er.sub.none hp)))⟩
theorem de_lst {es : List Expr} {pos : Pos} {a : Env → Rz (List EV)} (h : DA X C W es a) : DE X C W (.List es pos) (mLst a) :=
  ⟨PE.imp (pe_lst h.pa) fun σ H Q h => tA_seq (f := fun xs _ => orStuck (allFz xs) >>= fun ds => if ds.length ≤ sizeLine then .ok (.ow true (.lst ds)) else .stuck) h fun Z G1 H1 env vs a er va hs q => by
    obtain ⟨ds, h1, h2, q⟩ := disp_inv (F := fun ds => EV.ow true (.lst ds)) (P := fun r => match r with
        | .ok ev => ∀ v G' H', Ext G1 H1 G' H' → EVok (kc X C) Z H1 G' H' v ev → Q v H'
        | .exc e => ∀ cls d G' H', Ext G1 H1 G' H' → ExcOk (kc X C) G' H' cls d e → W cls d σ H'
        | .stuck => False) (fun z => z) q
    have r := allFz_ok h1 va
    refine ⟨by rw [r.length]; exact h2, fun p hp => q (.ref p) _ _ (.lay er.sub hp) ?_⟩
    exact ⟨p, rfl, ⟨vs, upd_same, r⟩, er.sub.none hp, er.zh.none hp, fun _ => hp⟩⟩
end
end DL
namespace DL
open PySem PySem.Spec PyProof.Rows L2

section
variable {K : KC} {Z : Ent} {G H : Hp} {σ : L2.St} {env : Env}
theorem ER.upTo (er : ER K Z G H σ env) {i : Nat} (hi : i < env.length) : i < σ.length := by rw [er.len]; exact hi
theorem ER.setV (er : ER K Z G H σ env) {i : Nat} {v : V} {d : D} (r : Rep K G v d) : ER K Z G H (σ.set i (some v)) (env.set i (.val d)) := by
  refine ⟨by simpa using er.len, er.zg, er.zh, er.zzz, er.sub, er.new, fun j x e => ?_, fun j x u p e1 e2 o => ?_, fun j k x y u w p e1 e2 o1 e3 e4 o2 => ?_⟩
  · by_cases hj : i = j
    · subst hj
      have hl : i < env.length := by
        have := (List.getElem?_eq_some_iff.mp e).1
        simpa using this
      rw [List.getElem?_set_self hl] at e
      cases e
      exact ⟨_, List.getElem?_set_self (er.upTo hl), v, rfl, r⟩
    · rw [List.getElem?_set_ne hj] at e ⊢
      exact er.at' j x e
  · have hj : i ≠ j := fun hj => by
      subst hj
      have hl : i < env.length := by
        have := (List.getElem?_eq_some_iff.mp e1).1
        simpa using this
      rw [List.getElem?_set_self hl] at e1
      cases e1
      obtain ⟨⟨w, z⟩, _⟩ := o
      cases z
    rw [List.getElem?_set_ne hj] at e1 e2
    exact er.own j x u p e1 e2 o
  · have nb : ∀ {j : Nat} {x : SL} {u : Option V}, (env.set i (.val d))[j]? = some x → x.owns u p → i ≠ j := fun {j x u} e1 o hj => by
      subst hj
      have hl : i < env.length := by
        have := (List.getElem?_eq_some_iff.mp e1).1
        simpa using this
      rw [List.getElem?_set_self hl] at e1
      cases e1
      obtain ⟨⟨w, z⟩, _⟩ := o
      cases z
    have h1 := nb e1 o1
    have h2 := nb e3 o2
    rw [List.getElem?_set_ne h1] at e1 e2
    rw [List.getElem?_set_ne h2] at e3 e4
    exact er.dis j k x y u w p e1 e2 o1 e3 e4 o2
theorem ER.setO (er : ER K Z G H σ env) {i : Nat} {p : Addr} {w : OW} (wo : WOk K G H p w) (g : G p = none) (z : Z.H p = none)
    (fr : ∀ (j : Nat) (x : SL) (v : Option V), j ≠ i → env[j]? = some x → σ[j]? = some v → ¬ x.owns v p) : ER K Z G H (σ.set i (some (.ref p))) (env.set i (.own w)) := by
  refine ⟨by simpa using er.len, er.zg, er.zh, er.zzz, er.sub, er.new, fun j x e => ?_, fun j x u q e1 e2 o => ?_, fun j k x y u w' q e1 e2 o1 e3 e4 o2 => ?_⟩
  · by_cases hj : i = j
    · subst hj
      have hl : i < env.length := by
        have := (List.getElem?_eq_some_iff.mp e).1
        simpa using this
      rw [List.getElem?_set_self hl] at e
      cases e
      exact ⟨_, List.getElem?_set_self (er.upTo hl), p, rfl, wo⟩
    · rw [List.getElem?_set_ne hj] at e ⊢
      exact er.at' j x e
  · by_cases hj : i = j
    · subst hj
      have hl : i < env.length := by
        have := (List.getElem?_eq_some_iff.mp e1).1
        simpa using this
      rw [List.getElem?_set_self (er.upTo hl)] at e2
      cases e2
      obtain ⟨_, z'⟩ := o
      cases z'
      exact ⟨g, z⟩
    · rw [List.getElem?_set_ne hj] at e1 e2
      exact er.own j x u q e1 e2 o
  · have key : ∀ {j : Nat} {x : SL} {u : Option V}, (env.set i (.own w))[j]? = some x → (σ.set i (some (.ref p)))[j]? = some u → x.owns u q → (j = i ∧ q = p) ∨ (j ≠ i ∧ env[j]? = some x ∧ σ[j]? = some u) := fun {j x u} e1 e2 o => by
      by_cases hj : i = j
      · subst hj
        have hl : i < env.length := by
          have := (List.getElem?_eq_some_iff.mp e1).1
          simpa using this
        rw [List.getElem?_set_self (er.upTo hl)] at e2
        cases e2
        obtain ⟨_, z'⟩ := o
        cases z'
        exact .inl ⟨rfl, rfl⟩
      · rw [List.getElem?_set_ne hj] at e1 e2
        exact .inr ⟨fun h => hj h.symm, e1, e2⟩
    rcases key e1 e2 o1 with ⟨rfl, rfl⟩ | ⟨n1, f1, f2⟩
    · rcases key e3 e4 o2 with ⟨rfl, _⟩ | ⟨n2, f3, f4⟩
      · rfl
      · exact absurd o2 (fr k y w' n2 f3 f4)
    · rcases key e3 e4 o2 with ⟨rfl, rfl⟩ | ⟨n2, f3, f4⟩
      · exact absurd o1 (fr j x u n1 f1 f2)
      · exact er.dis j k x y u w' q f1 f2 o1 f3 f4 o2
theorem ER.setN (er : ER K Z G H σ env) {i : Nat} {u : Option V} : ER K Z G H (σ.set i u) (env.set i .no) := by
  have nb : ∀ {j : Nat} {x : SL} {v : Option V} {p : Addr}, (env.set i .no)[j]? = some x → x.owns v p → i ≠ j := fun {j x v p} e1 o hj => by
    subst hj
    have hl : i < env.length := by
      have := (List.getElem?_eq_some_iff.mp e1).1
      simpa using this
    rw [List.getElem?_set_self hl] at e1
    cases e1
    obtain ⟨⟨w, z⟩, _⟩ := o
    cases z
  refine ⟨by simpa using er.len, er.zg, er.zh, er.zzz, er.sub, er.new, fun j x e => ?_, fun j x v p e1 e2 o => ?_, fun j k x y v w p e1 e2 o1 e3 e4 o2 => ?_⟩
  · by_cases hj : i = j
    · subst hj
      have hl : i < env.length := by
        have := (List.getElem?_eq_some_iff.mp e).1
        simpa using this
      rw [List.getElem?_set_self hl] at e
      cases e
      exact ⟨_, List.getElem?_set_self (er.upTo hl), trivial⟩
    · rw [List.getElem?_set_ne hj] at e ⊢
      exact er.at' j x e
  · have hj := nb e1 o
    rw [List.getElem?_set_ne hj] at e1 e2
    exact er.own j x v p e1 e2 o
  · have h1 := nb e1 o1
    have h2 := nb e3 o2
    rw [List.getElem?_set_ne h1] at e1 e2
    rw [List.getElem?_set_ne h2] at e3 e4
    exact er.dis j k x y v w p e1 e2 o1 e3 e4 o2
theorem ER.free (er : ER K Z G H σ env) {p : Addr} (h : H p = none) : Free σ env p := fun i x v e1 e2 o => by
  obtain ⟨⟨w, rfl⟩, rfl⟩ := o
  obtain ⟨v, h3, q, h4, h5⟩ := er.at' i _ e1
  rw [e2] at h3; cases h3; cases h4
  obtain ⟨o, h6, _⟩ := h5.some
  rw [h6] at h; cases h
theorem ER.put (er : ER K Z G H σ env) {i : Nat} {w w' : OW} {p : Addr} {o : HO} (hi : env[i]? = some (.own w)) (hs : σ[i]? = some (some (.ref p))) (ho : WOk K G (upd H p o) p w') : ER K Z G (upd H p o) σ (env.set i (.own w')) := by
  obtain ⟨g, z⟩ := er.own i _ _ p hi hs ⟨⟨w, rfl⟩, rfl⟩
  have hl : i < env.length := (List.getElem?_eq_some_iff.mp hi).1
  have key : ∀ {j : Nat} {x : SL} {v : Option V}, j ≠ i → env[j]? = some x → σ[j]? = some v → ¬ x.owns v p := fun {j x v} n e1 e2 o' => n (er.dis j i x _ v _ p e1 e2 o' hi hs ⟨⟨w, rfl⟩, rfl⟩)
  have er' : ER K Z G (upd H p o) σ (env.set i .no) := by
    have e0 : ER K Z G H (σ.set i (some (.ref p))) (env.set i .no) := er.setN
    rw [show σ.set i (some (V.ref p)) = σ from by
      apply List.ext_getElem?
      intro j
      by_cases hj : i = j
      · subst hj; rw [List.getElem?_set_self (er.upTo hl), hs]
      · rw [List.getElem?_set_ne hj]] at e0
    refine ⟨e0.len, e0.zg, e0.zh.updR z, e0.zzz, e0.sub.updR g, e0.new, fun j x e => ?_, e0.own, e0.dis⟩
    obtain ⟨v, h1, h2⟩ := e0.at' j x e
    refine ⟨v, h1, ?_⟩
    cases x with
    | no => trivial
    | val d => exact h2
    | own w2 =>
      obtain ⟨q, rfl, h4⟩ := h2
      have hj : j ≠ i := fun hj => by
        subst hj
        rw [List.getElem?_set_self hl] at e; cases e
      have e' := e
      rw [List.getElem?_set_ne (Ne.symm hj)] at e'
      have hq : q ≠ p := fun hq => key hj e' h1 ⟨⟨w2, rfl⟩, by rw [hq]⟩
      exact ⟨q, rfl, h4.mono .refl fun o q' => by rw [upd_ne hq]; exact q'⟩
  have e1 := er'.setO (i := i) ho g z (fun j x v n e1 e2 => by
    rw [List.getElem?_set_ne (Ne.symm n)] at e1
    exact key n e1 e2)
  rw [List.set_set] at e1
  rw [show σ.set i (some (V.ref p)) = σ from by
    apply List.ext_getElem?
    intro j
    by_cases hj : i = j
    · subst hj; rw [List.getElem?_set_self (er.upTo hl), hs]
    · rw [List.getElem?_set_ne hj]] at e1
  exact e1
theorem ER.freeze (er : ER K Z G H σ env) {i : Nat} {w : OW} (hi : env[i]? = some (.own w)) : ∃ G', Sub G G' ∧ ER K Z G' H σ (env.set i (.val w.d)) := by
  obtain ⟨v, hs, p, rfl, wo⟩ := er.at' i _ hi
  obtain ⟨g, z⟩ := er.own i _ _ p hi hs ⟨⟨w, rfl⟩, rfl⟩
  obtain ⟨o, h5, h6⟩ := wo.freeze g
  have hl : i < env.length := (List.getElem?_eq_some_iff.mp hi).1
  have hσ : ∀ u : V, u = .ref p → σ.set i (some u) = σ := fun u e => by
    subst e
    apply List.ext_getElem?
    intro j
    by_cases hj : i = j
    · subst hj; rw [List.getElem?_set_self (er.upTo hl), hs]
    · rw [List.getElem?_set_ne hj]
  refine ⟨upd G p o, .upd g, ?_⟩
  have e0 : ER K Z G H (σ.set i (some (.ref p))) (env.set i .no) := er.setN
  rw [hσ _ rfl] at e0
  have e1 : ER K Z (upd G p o) H σ (env.set i .no) := by
    refine ⟨e0.len, e0.zg.trans (.upd g), e0.zh, e0.zzz, e0.sub.upd2 h5, fun a n q => ?_, fun j x e => ?_, fun j x v q e1 e2 o' => ?_, e0.dis⟩
    · by_cases ha : a = p
      · rw [ha]; exact fun nt => nt.no z
      · rw [upd_ne ha] at n; exact e0.new a n q
    · obtain ⟨v, h1, h2⟩ := e0.at' j x e
      refine ⟨v, h1, ?_⟩
      cases x with
      | no => trivial
      | val d => obtain ⟨u, h3, h4⟩ := h2; exact ⟨u, h3, h4.mono (.upd g)⟩
      | own w2 => obtain ⟨q, h3, h4⟩ := h2; exact ⟨q, h3, h4.mono (.upd g) fun _ k => k⟩
    · obtain ⟨h1, h2⟩ := e0.own j x v q e1 e2 o'
      refine ⟨?_, h2⟩
      have hj : j ≠ i := fun hj => by
        subst hj
        rw [List.getElem?_set_self hl] at e1; cases e1
        obtain ⟨⟨w, z⟩, _⟩ := o'
        cases z
      rw [List.getElem?_set_ne (Ne.symm hj)] at e1
      have hq : q ≠ p := fun hq => hj (er.dis j i x _ v _ p e1 e2 (by rw [← hq]; exact o') hi hs ⟨⟨w, rfl⟩, rfl⟩)
      rw [upd_ne hq]; exact h1
  have e2 := e1.setV (i := i) h6
  rw [List.set_set, hσ _ rfl] at e2
  exact e2
end

section
variable {X : Cx} {C : Str → Option Addr} {W : WX}

def mSeq (a b : Env → Out) : Env → Out := fun env => match a env with
  | .nx e => b e
  | o => o
theorem dss_nil : DSs X C W [] Out.nx := ⟨PSs.imp pss_nil fun D σ H ⟨Z, G, env, er, q⟩ => q σ H G .refl er⟩
theorem Post.seq {K : KC} {Z : Ent} {D : Ends} {G : Hp} {o : Out} {b : Env → Out} (h : Post K W Z D G (match o with
  | .nx e => b e
  | o => o)) : Post K W Z { D with nx := tS K W b D } G o := by
  cases o with
  | nx e => exact fun σ H G' s er => ⟨Z, G', e, er, h.mono s⟩
  | bk e => exact h
  | ct e => exact h
  | ret e => exact h
  | exc e env => exact h
  | stuck => exact h
theorem dss_cons {st : Stmt} {rest : List Stmt} {a b : Env → Out} (h1 : DS X C W st a) (h2 : DSs X C W rest b) : DSs X C W (st :: rest) (mSeq a b) :=
  ⟨PSs.imp (pss_cons h1.ps h2.pss) fun D σ H ⟨Z, G, env, er, q⟩ => ⟨Z, G, env, er, Post.seq (b := b) q⟩⟩
theorem dss_one {st : Stmt} {a : Env → Out} (h1 : DS X C W st a) : DSs X C W [st] a := ⟨pss_one h1.ps⟩
theorem ds_pass {pos : Pos} : DS X C W (.Pass pos) Out.nx := ⟨PS.imp ps_pass fun D σ H ⟨Z, G, env, er, q⟩ => q σ H G .refl er⟩
theorem ds_break {pos : Pos} : DS X C W (.Break pos) Out.bk := ⟨PS.imp ps_break fun D σ H ⟨Z, G, env, er, q⟩ => q σ H G .refl er⟩
theorem ds_continue {pos : Pos} : DS X C W (.Continue pos) Out.ct := ⟨PS.imp ps_continue fun D σ H ⟨Z, G, env, er, q⟩ => q σ H G .refl er⟩
def onE (m : Env → Rz EV) (f : EV → Env → Out) : Env → Out := fun env => match m env with
  | .ok ev => f ev env
  | .exc e => .exc e env
  | .stuck => .stuck
theorem onE_go {m : Env → Rz EV} {f : EV → Env → Out} {D : Ends} {σ : L2.St} {H : Hp} {R : VK} (h : tS (kc X C) W (onE m f) D σ H)
    (hR : ∀ (Z : Ent) (G1 H1 : Hp) (env : Env) (v : V) (a : EV), ER (kc X C) Z G1 H1 σ env → Sub Z.H H → Sub H H1 → EVok (kc X C) Z H G1 H1 v a → Post (kc X C) W Z D G1 (f a env) → (∀ q, H q = none → Free σ env q) → R v H1) : tE (kc X C) W m σ H R := by
  obtain ⟨Z, G, env, er, q⟩ := h
  unfold onE at q
  refine ⟨Z, G, env, er, ?_⟩
  cases ha : m env with
  | stuck => rw [ha] at q; exact q.elim
  | exc e =>
    rw [ha] at q
    exact fun cls d G' H' x k => q σ H' G' cls d x.g (er.ext x) k
  | ok a =>
    rw [ha] at q
    exact fun v G1 H1 x va => hR Z G1 H1 env v a (er.ext x) er.zh x.h va (Post.mono x.g q) fun p hp => er.free hp
def mDrop (m : Env → Rz EV) : Env → Out := onE m fun _ env => .nx env
theorem ds_expr {e : Expr} {m : Env → Rz EV} {pos : Pos} (h : DE X C W e m) (hs : swapsWith e none pos.line X.env = pure false := by rfl) : DS X C W (.Expr e pos) (mDrop m) :=
  ⟨PS.imp (ps_expr h.pe hs) fun D σ H h => onE_go h fun Z G1 H1 env v a er z s va q _ => q σ H1 G1 .refl er⟩
def mRet (m : Env → Rz EV) : Env → Out := onE m fun a _ => .ret a
theorem ds_ret {e : Expr} {m : Env → Rz EV} {pos : Pos} (h : DE X C W e m) : DS X C W (.Return (some e) pos) (mRet m) :=
  ⟨PS.imp (ps_ret h.pe) fun D σ H h => onE_go h fun Z G1 H1 env v a er z s va q _ => q σ env v H1 G1 H .refl er z va⟩
theorem ds_retN {pos : Pos} : DS X C W (.Return none pos) (fun _ => .ret (.fz .non)) :=
  ⟨PS.imp ps_retN fun D σ H ⟨Z, G, env, er, q⟩ => q σ env .non H G H .refl er er.zh .non⟩
def stF (i : Nat) : EV → Env → Out := fun a env => match a.fr with
  | .fz d => .nx (env.set i (.val d))
  | _ => .stuck
def stO (i : Nat) : EV → Env → Out := fun a env => match a with
  | .ow true w => .nx (env.set i (.own w))
  | _ => .stuck
@[simp] theorem stF_fz (i : Nat) (d : D) (env : Env) : stF i (.fz d) env = .nx (env.set i (.val d)) := rfl
@[simp] theorem stF_new (i : Nat) (w : OW) (env : Env) : stF i (.ow true w) env = .nx (env.set i (.val w.d)) := rfl
@[simp] theorem stO_new (i : Nat) (w : OW) (env : Env) : stO i (.ow true w) env = .nx (env.set i (.own w)) := rfl
def mSetF (i : Nat) (m : Env → Rz EV) : Env → Out := onE m (stF i)
def mSetO (i : Nat) (m : Env → Rz EV) : Env → Out := onE m (stO i)
theorem frz_go {K : KC} {Z : Ent} {G H Hs : Hp} {σ : L2.St} {env : Env} {v : V} {ev : EV} (er : ER K Z G H σ env) (k : EVok K Z Hs G H v ev) (hf : ∀ q, Hs q = none → Free σ env q) : ∃ G2, Sub G G2 ∧ ER K Z G2 H σ env ∧ EVok K Z Hs G2 H v ev.fr := by
  cases ev with
  | fz d => exact ⟨G, .refl, er, k⟩
  | ow n w =>
    cases n with
    | false => exact ⟨G, .refl, er, k⟩
    | true =>
      obtain ⟨p, rfl, h1, h2, h3, h4⟩ := k
      obtain ⟨o, h5, h6⟩ := h1.freeze h2
      have fr := hf p (h4 rfl)
      refine ⟨upd G p o, .upd h2, ⟨er.len, er.zg.trans (.upd h2), er.zh, er.zzz, er.sub.upd2 h5, fun a n q => ?_, fun j x e => ?_, fun j x v q e1 e2 o' => ?_, er.dis⟩, h6⟩
      · by_cases ha : a = p
        · rw [ha]; exact fun nt => nt.no h3
        · rw [upd_ne ha] at n; exact er.new a n q
      · obtain ⟨v, h1, h2'⟩ := er.at' j x e
        refine ⟨v, h1, ?_⟩
        cases x with
        | no => trivial
        | val d => obtain ⟨u, h3, h4⟩ := h2'; exact ⟨u, h3, h4.mono (.upd h2)⟩
        | own w2 => obtain ⟨q, h3, h4⟩ := h2'; exact ⟨q, h3, h4.mono (.upd h2) fun _ k => k⟩
      · obtain ⟨q1, q2⟩ := er.own j x v q e1 e2 o'
        have hq : q ≠ p := fun hq => fr j x v e1 e2 (by rw [← hq]; exact o')
        exact ⟨by rw [upd_ne hq]; exact q1, q2⟩
theorem ds_setF {i : Nat} {x : Str} {e : Expr} {m : Env → Rz EV} {pos pos' : Pos} (h : DE X C W e m) (hN : X.N.Nodup) (hi : X.N[i]? = some x := by rfl) (hx : Loc X.env.scope x := by first | exact Or.inl rfl | exact Or.inr rfl)
    (hs : swapsWith e (some (.Name x pos')) pos.line X.env = pure false := by rfl) (hf : X.fn x = true ∨ X.env.scope.names.lookup x = some .local := by first | exact .inl rfl | exact .inr rfl) : DS X C W (.Assign [.Name x pos'] e pos) (mSetF i m) :=
  ⟨PS.imp (ps_set hN hi hx h.pe hs hf) fun D σ H h => onE_go h fun Z G1 H1 env v a er z s va q fr => by
    obtain ⟨G2, s2, er2, va2⟩ := frz_go er va fr
    unfold stF at q
    cases ha : a.fr with
    | ow n w => rw [ha] at q; exact q.elim
    | fz d =>
      rw [ha] at q va2
      exact q _ H1 G2 s2 (er2.setV va2)⟩
theorem ds_setO {i : Nat} {x : Str} {e : Expr} {m : Env → Rz EV} {pos pos' : Pos} (h : DE X C W e m) (hN : X.N.Nodup) (hi : X.N[i]? = some x := by rfl) (hx : Loc X.env.scope x := by first | exact Or.inl rfl | exact Or.inr rfl)
    (hs : swapsWith e (some (.Name x pos')) pos.line X.env = pure false := by rfl) (hf : X.fn x = true ∨ X.env.scope.names.lookup x = some .local := by first | exact .inl rfl | exact .inr rfl) : DS X C W (.Assign [.Name x pos'] e pos) (mSetO i m) :=
  ⟨PS.imp (ps_set hN hi hx h.pe hs hf) fun D σ H h => onE_go h fun Z G1 H1 env v a er z s va q fr => by
    unfold stO at q
    split at q
    · rename_i w
      obtain ⟨p, rfl, h1, h2, h3, h4⟩ := va
      exact q _ H1 G1 .refl (er.setO h1 h2 h3 fun j x v _ e1 e2 => fr p (h4 rfl) j x v e1 e2)
    · exact q.elim⟩
def mFrz (i : Nat) (m : Env → Out) : Env → Out := fun env => match env.getD i .no with
  | .own w => m (env.set i (.val w.d))
  | _ => m env
theorem frz_ghost {m : Env → Out} {i : Nat} {D : Ends} {σ : L2.St} {H : Hp} (h : tS (kc X C) W (mFrz i m) D σ H) : tS (kc X C) W m D σ H := by
  obtain ⟨Z, G, env, er, q⟩ := h
  unfold mFrz at q
  split at q
  · rename_i w hw
    obtain ⟨G2, s2, er2⟩ := er.freeze (getD_some hw (by simp))
    exact ⟨Z, G2, _, er2, q.mono s2⟩
  · exact ⟨Z, G, env, er, q⟩
theorem mFrz_own {i : Nat} {m : Env → Out} {env : Env} {w : OW} (h : env.getD i .no = .own w) : mFrz i m env = m (env.set i (.val w.d)) := by
  unfold mFrz; rw [h]
theorem mFrz_val {i : Nat} {m : Env → Out} {env : Env} {d : D} (h : env.getD i .no = .val d) : mFrz i m env = m env := by
  unfold mFrz; rw [h]
theorem ds_frz (i : Nat) {st : Stmt} {m : Env → Out} (h : DS X C W st m) : DS X C W st (mFrz i m) := ⟨PS.imp h.ps fun D σ H q => frz_ghost q⟩
theorem dss_frz (i : Nat) {st : List Stmt} {m : Env → Out} (h : DSs X C W st m) : DSs X C W st (mFrz i m) := ⟨PSs.imp h.pss fun D σ H q => frz_ghost q⟩
def mIfS (t : Env → Rz Bool) (a b : Env → Out) : Env → Out := fun env => match t env with
  | .ok c => if c = true then a env else b env
  | .exc e => .exc e env
  | .stuck => .stuck
theorem ds_if {c : Expr} {t : Env → Rz Bool} {sa sb : List Stmt} {a b : Env → Out} {pos : Pos} (hc : DT X C W c t) (ha : DSs X C W sa a) (hb : DSs X C W sb b) : DS X C W (.If c sa sb pos) (mIfS t a b) :=
  ⟨PS.imp (ps_if hc.pt ha.pss hb.pss) fun D σ H ⟨Z, G, env, er, q⟩ => by
    unfold mIfS at q
    refine ⟨Z, G, env, er, ?_⟩
    cases ht : t env with
    | stuck => rw [ht] at q; exact q.elim
    | exc e => rw [ht] at q; exact fun cls d G' H' x k => q σ H' G' cls d x.g (er.ext x) k
    | ok c =>
      rw [ht] at q
      intro G1 H1 x
      cases c with
      | true => exact ⟨Z, G1, env, er.ext x, Post.mono x.g q⟩
      | false => exact ⟨Z, G1, env, er.ext x, Post.mono x.g q⟩⟩

def tG (K : KC) (vs : List Nat) (p : D → Env → Rz Env) : TG := fun v σ H Q => ∃ Z G env d, ER K Z G H σ env ∧ Rep K G v d ∧ match p d env with
  | .ok env' => ∀ σ', ER K Z G H σ' env' → σ'.length = σ.length → (∀ i, i ∉ vs → σ'[i]? = σ[i]?) → Q σ' H
  | _ => False
structure DG (X : Cx) (C : Str → Option Addr) (tg : Expr) (vs : List Nat) (p : D → Env → Rz Env) : Prop where
  pg : PG X tg (tG (kc X C) vs p)
def pName (i : Nat) : D → Env → Rz Env := fun d env => .ok (env.set i (.val d))
theorem PG.imp {tg : Expr} {t t' : TG} (h : PG X tg t) (k : ∀ v σ H Q, t' v σ H Q → t v σ H Q) : PG X tg t' := ⟨fun pins s σ H v u Q I r q => h.run pins s σ H v u Q I r (k _ _ _ _ q)⟩
theorem dg_name {i : Nat} {x : Str} {pos : Pos} (hN : X.N.Nodup) (hi : X.N[i]? = some x := by rfl) (hx : Loc X.env.scope x := by first | exact Or.inl rfl | exact Or.inr rfl) (hf : X.fn x = true ∨ X.env.scope.names.lookup x = some .local := by first | exact .inl rfl | exact .inr rfl) :
    DG X C (.Name x pos) [i] (pName i) := ⟨PG.imp (pg_name hN hi hx hf) fun v σ H Q ⟨Z, G, env, d, er, r, q⟩ => q _ (er.setV r) (by simp) fun j hj => by
      rw [List.getElem?_set_ne (fun e => hj (by simp [e]))]⟩
def tGs (K : KC) (vs : List Nat) (p : List D → Env → Rz Env) : TGs := fun us σ H Q => ∃ Z G env ds, ER K Z G H σ env ∧ Reps K G us ds ∧ match p ds env with
  | .ok env' => ∀ σ', ER K Z G H σ' env' → σ'.length = σ.length → (∀ i, i ∉ vs → σ'[i]? = σ[i]?) → Q σ' H
  | _ => False
structure DGs (X : Cx) (C : Str → Option Addr) (tgs : List Expr) (vs : List Nat) (p : List D → Env → Rz Env) : Prop where
  pgs : PGs X tgs (tGs (kc X C) vs p)
theorem PGs.imp {tg : List Expr} {t t' : TGs} (h : PGs X tg t) (k : ∀ v σ H Q, t' v σ H Q → t v σ H Q) : PGs X tg t' := ⟨fun pins s σ H v u Q I r q => h.run pins s σ H v u Q I r (k _ _ _ _ q)⟩
def pNil : List D → Env → Rz Env := fun ds env => match ds with
  | [] => .ok env
  | _ => .stuck
def pCons (p : D → Env → Rz Env) (r : List D → Env → Rz Env) : List D → Env → Rz Env := fun ds env => match ds with
  | d :: ds => p d env >>= r ds
  | [] => .stuck
theorem dgs_nil : DGs X C [] [] pNil := ⟨PGs.imp pgs_nil fun v σ H Q ⟨Z, G, env, ds, er, r, q⟩ => by
  cases r with
  | nil => exact ⟨rfl, q σ er rfl fun _ _ => rfl⟩
  | cons a b => exact q.elim⟩
theorem dgs_cons {e : Expr} {es : List Expr} {v1 v2 : List Nat} {p : D → Env → Rz Env} {r : List D → Env → Rz Env} (h1 : DG X C e v1 p) (h2 : DGs X C es v2 r)
    (hs : (assignEach (e :: es) X.env).map (·.2) = assign e X.env :: (assignEach es X.env).map (·.2) := by rfl) : DGs X C (e :: es) (v1 ++ v2) (pCons p r) :=
  ⟨PGs.imp (pgs_cons h1.pg h2.pgs hs) fun us σ H Q ⟨Z, G, env, ds, er, rs, q⟩ => by
    cases rs with
    | nil => exact q.elim
    | @cons u us d ds a b =>
      refine ⟨_, _, rfl, Z, G, env, d, er, a, ?_⟩
      unfold pCons at q
      dsimp only at q
      cases hp : p d env with
      | stuck => rw [hp] at q; exact q.elim
      | exc e => rw [hp] at q; exact q.elim
      | ok e1 =>
        rw [hp] at q
        intro σ1 er1 l1 f1
        refine ⟨Z, G, e1, ds, er1, b, ?_⟩
        simp only [Rz.ok_bind] at q
        cases hr : r ds e1 with
        | stuck => rw [hr] at q; exact q.elim
        | exc e => rw [hr] at q; exact q.elim
        | ok e2 =>
          rw [hr] at q
          exact fun σ2 er2 l2 f2 => q σ2 er2 (l2.trans l1) fun i hi => by
            rw [List.mem_append, not_or] at hi
            rw [f2 i hi.2, f1 i hi.1]⟩
def pTup (r : List D → Env → Rz Env) (n : Nat) : D → Env → Rz Env := fun d env => match d with
  | .tup ds => if ds.length = n then r ds env else .stuck
  | _ => .stuck
theorem dg_tup {es : List Expr} {k : Nat} {vs : List Nat} {r : List D → Env → Rz Env} {n : Nat} {pos : Pos} (h : DGs X C es vs r) (hc : X.calm = true := by rfl)
    (hn : (assignEach es X.env).length = n := by rfl) (hst : (assignEach es X.env).findIdx? (·.1) = none := by rfl) : DG X C (.Tuple es k pos) vs (pTup r n) :=
  ⟨PG.imp (pg_tup hc h.pgs hn hst) fun v σ H Q ⟨Z, G, env, d, er, rr, q⟩ => by
    unfold pTup at q
    cases rr with
    | @tup a vs' ds sq rs =>
      dsimp only at q
      by_cases hl : ds.length = n
      · rw [if_pos hl] at q
        exact ⟨_, _, rfl, er.sub.sqT sq, rs.length.trans hl, Z, G, env, ds, er, rs, q⟩
      · rw [if_neg hl] at q; exact q.elim
    | _ => exact q.elim⟩
def mAsgF (p : D → Env → Rz Env) (m : Env → Rz EV) : Env → Out := onE m fun a env => match a.fr with
  | .fz d => (match p d env with
    | .ok env' => .nx env'
    | _ => .stuck)
  | _ => .stuck
theorem ds_asgF {tg e : Expr} {m : Env → Rz EV} {vs : List Nat} {p : D → Env → Rz Env} {pos : Pos} (h : DE X C W e m) (hg : DG X C tg vs p) (hs : swapsWithSole [tg] e pos.line X.env = pure false := by rfl) (hw : swappedStores [tg] e X.env = pure none := by rfl)
    (h1 : (assignEach [tg] X.env).map (·.2) = [assign tg X.env] := by rfl) : DS X C W (.Assign [tg] e pos) (mAsgF p m) :=
  ⟨PS.imp (ps_asg h.pe hg.pg hs hw h1) fun D σ H h => onE_go h fun Z G1 H1 env v a er z s va q fr => by
    obtain ⟨G2, s2, er2, va2⟩ := frz_go er va fr
    cases ha : a.fr with
    | ow n w => simp only [ha] at q; exact q.elim
    | fz d =>
      simp only [ha] at q
      rw [ha] at va2
      refine ⟨Z, G2, env, d, er2, va2, ?_⟩
      cases hp : p d env with
      | ok env' => rw [hp] at q; exact fun σ' er' _ _ => q σ' H1 G2 s2 er'
      | exc e => rw [hp] at q; exact q.elim
      | stuck => rw [hp] at q; exact q.elim⟩

structure IterOk (K : KC) (J : It) (G : Hp) (ds : List D) : Prop where
  go : ∀ (i : Nat) (G2 H2 : Hp), i < ds.length → Sub G G2 → Sub G2 H2 → J.go i H2
  stop : ∀ (G2 H2 : Hp), Sub G G2 → Sub G2 H2 → J.stop ds.length H2
  yld : ∀ (i : Nat) (x : V) (G2 H2 H3 : Hp), i < ds.length → Sub G G2 → Sub G2 H2 → J.yld i H2 x H3 → ∃ d G3, ds[i]? = some d ∧ Ext G2 H2 G3 H3 ∧ Rep K G3 x d
theorem IterOk.mono {K : KC} {J : It} {G G' : Hp} {ds : List D} (s : Sub G G') (h : IterOk K J G ds) : IterOk K J G' ds :=
  ⟨fun i G2 H2 l a b => h.go i G2 H2 l (s.trans a) b, fun G2 H2 a b => h.stop G2 H2 (s.trans a) b, fun i x G2 H2 H3 l a b y => h.yld i x G2 H2 H3 l (s.trans a) b y⟩
def tI (K : KC) (W : WX) (m : Env → Rz (List D)) : TI := fun σ H R => ∃ Z G env, ER K Z G H σ env ∧ match m env with
  | .ok ds => ∀ J G' H', Ext G H G' H' → IterOk K J G' ds → R J H'
  | .exc e => ∀ cls d G' H', Ext G H G' H' → ExcOk K G' H' cls d e → W cls d σ H'
  | .stuck => False
structure DI (X : Cx) (C : Str → Option Addr) (W : WX) (tg iter : Expr) (m : Env → Rz (List D)) : Prop where
  pi : PI X tg iter (tI (kc X C) W m)
theorem PI.imp {tg iter : Expr} {t t' : TI} (h : PI X tg iter t) (k : ∀ σ H Q, t' σ H Q → t σ H Q) : PI X tg iter t' := ⟨fun pins s σ H Q I q => h.run pins s σ H Q I (k _ _ _ q)⟩
def items : D → Rz (List D)
  | .lst ds => .ok ds
  | .tup ds => .ok ds
  | .scr ns => .ok (ns.map .int)
  | .str x => .ok (x.cps.toList.map fun c => .str ⟨#[c]⟩)
  | _ => .stuck
@[simp] theorem items_lst (ds : List D) : items (.lst ds) = .ok ds := rfl
@[simp] theorem items_tup (ds : List D) : items (.tup ds) = .ok ds := rfl
@[simp] theorem items_scr (ns : List Int) : items (.scr ns) = .ok (ns.map .int) := rfl
@[simp] theorem items_str (x : Str) : items (.str x) = .ok (x.cps.toList.map fun c => .str ⟨#[c]⟩) := rfl
def frD : EV → Rz D := fun a => match a.fr with
  | .fz d => .ok d
  | _ => .stuck
@[simp] theorem frD_fz (d : D) : frD (.fz d) = .ok d := rfl
@[simp] theorem frD_new (w : OW) : frD (.ow true w) = .ok w.d := rfl
def mItems (m : Env → Rz EV) : Env → Rz (List D) := fun env => m env >>= fun a => frD a >>= items
theorem itl_ok {K : KC} {a : Addr} {vs : List V} {ds : List D} {G : Hp} (sq : SqL K.K G a vs) (r : Reps K G vs ds) : IterOk K (Itl K.K a) G ds where
  go := fun i G2 H2 l a b => by
    obtain ⟨d, hd⟩ : ∃ d, ds[i]? = some d := ⟨_, List.getElem?_eq_getElem l⟩
    obtain ⟨v, hv, _⟩ := r.get hd
    exact ⟨vs, v, (a.trans b).sqL sq, hv⟩
  stop := fun G2 H2 a b => ⟨vs, (a.trans b).sqL sq, by rw [r.length]; exact Nat.le_refl _⟩
  yld := fun i x G2 H2 H3 l a b y => by
    obtain ⟨rfl, y⟩ := y
    obtain ⟨d, hd⟩ : ∃ d, ds[i]? = some d := ⟨_, List.getElem?_eq_getElem l⟩
    obtain ⟨v, hv, rv⟩ := r.get hd
    have := y vs ((a.trans b).sqL sq)
    rw [hv] at this; cases this
    exact ⟨d, G2, hd, .refl b, rv.mono a⟩
theorem itt_ok {K : KC} {a : Addr} {vs : List V} {ds : List D} {G : Hp} (sq : SqT K.K G a vs) (r : Reps K G vs ds) : IterOk K (Itt K.K a) G ds where
  go := fun i G2 H2 l a b => by
    obtain ⟨d, hd⟩ : ∃ d, ds[i]? = some d := ⟨_, List.getElem?_eq_getElem l⟩
    obtain ⟨v, hv, _⟩ := r.get hd
    exact ⟨vs, v, (a.trans b).sqT sq, hv⟩
  stop := fun G2 H2 a b => ⟨vs, (a.trans b).sqT sq, by rw [r.length]; exact Nat.le_refl _⟩
  yld := fun i x G2 H2 H3 l a b y => by
    obtain ⟨rfl, y⟩ := y
    obtain ⟨d, hd⟩ : ∃ d, ds[i]? = some d := ⟨_, List.getElem?_eq_getElem l⟩
    obtain ⟨v, hv, rv⟩ := r.get hd
    have := y vs ((a.trans b).sqT sq)
    rw [hv] at this; cases this
    exact ⟨d, G2, hd, .refl b, rv.mono a⟩
theorem its_ok {K : KC} {x : Str} {G : Hp} : IterOk K (Its x) G (x.cps.toList.map fun c => .str ⟨#[c]⟩) where
  go := fun i G2 H2 l a b => by show i < x.cps.size; simpa using l
  stop := fun G2 H2 a b => by show x.cps.size ≤ _; simp
  yld := fun i v G2 H2 H3 l a b y => by
    obtain ⟨rfl, c, hc, rfl⟩ := y
    refine ⟨.str ⟨#[c]⟩, G2, ?_, .refl b, .str _⟩
    rw [List.getElem?_map]
    have : x.cps.toList[i]? = some c := by simpa using hc
    rw [this]; rfl
def iSeq (K : PySem.W.Frag) (tl : TE) : TI := fun σ H R => tl σ H fun x H1 => (∃ a xs, x = .ref a ∧ SqL K H1 a xs ∧ R (Itl K a) H1) ∨ (∃ a xs, x = .ref a ∧ SqT K H1 a xs ∧ R (Itt K a) H1) ∨ (∃ y, x = .str y ∧ R (Its y) H1)
theorem pi_seq {tg l : Expr} {tl : TE} (hl : PE X l tl) : PI X tg l (iSeq X.K tl) := by
  refine ⟨fun pins s σ H R I h => ?_⟩
  refine thn (hl.run pins s σ H _ I h) fun v s1 ⟨x, H1, I1, r1, q1⟩ => ?_
  rcases q1 with ⟨a, xs, e, hq, q⟩ | ⟨a, xs, e, hq, q⟩ | ⟨y, e, q⟩
  · subst e
    cases r1
    obtain ⟨its, rv, p, hz⟩ := I1.list hq
    refine wpAny_pyIter_list p.isList ?_
    refine ⟨s1.heap.objs.size, [s1.heap.objs.size], _, _, H1, rfl, I1.kept (t' := s1.toks) fun b o e => Heap.get?_push_of_some _ e, turn_list a _, ⟨_, Heap.get?_push_size _ rfl, rfl, rfl⟩, fun b hb => ?_, q⟩
    have e : b = s1.heap.objs.size := by simpa using hb
    subst e
    exact I1.fpOk (Nat.le_refl _) (I1.hok.fresh (Nat.le_refl _))
  · subst e
    cases r1
    obtain ⟨its, rv, p, hz⟩ := I1.tuple hq
    refine wpAny_pyIter_tuple (show s1.heap.IsTuple a its.toArray from p) ?_
    refine ⟨s1.heap.objs.size, [s1.heap.objs.size], _, _, H1, rfl, I1.kept (t' := s1.toks) fun b o e => Heap.get?_push_of_some _ e, turn_tuple a _, ⟨_, Heap.get?_push_size _ rfl, rfl, rfl⟩, fun b hb => ?_, q⟩
    have e : b = s1.heap.objs.size := by simpa using hb
    subst e
    exact I1.fpOk (Nat.le_refl _) (I1.hok.fresh (Nat.le_refl _))
  · subst e
    obtain ⟨t, rfl⟩ := r1
    cases ha : y.cps.all (· < 128)
    · exact wpAny_pyIter_wide ha (pi_one (tk := s1.toks) I1 _ (turn_str _ y t "str_iterator" (.inr rfl)) ⟨_, Heap.get?_push_size _ rfl, rfl, rfl⟩ q)
    · exact wpAny_pyIter_ascii ha (pi_one (tk := s1.toks) I1 _ (turn_str _ y t "str_ascii_iterator" (.inl rfl)) ⟨_, Heap.get?_push_size _ rfl, rfl, rfl⟩ q)
end
end DL
namespace DL
open PySem PySem.Spec PyProof.Rows L2
section
variable {X : Cx} {C : Str → Option Addr} {W : WX}
theorem frD_ok {a : EV} {d : D} (h : frD a = .ok d) : a.fr = .fz d := by
  unfold frD at h
  split at h
  · rename_i d' e; cases h; exact e
  · cases h
theorem frD_exc {a : EV} {e : Exn} : frD a ≠ .exc e := by
  unfold frD; split <;> simp
theorem items_exc {d : D} {e : Exn} : items d ≠ .exc e := by
  unfold items; split <;> simp
theorem di_seq {tg e : Expr} {m : Env → Rz EV} (h : DE X C W e m) : DI X C W tg e (mItems m) :=
  ⟨PI.imp (pi_seq h.pe) fun σ H R ⟨Z, G, env, er, q⟩ => by
    unfold mItems at q
    refine ⟨Z, G, env, er, ?_⟩
    cases ha : m env with
    | stuck => rw [ha] at q; exact q.elim
    | exc e => rw [ha] at q; exact q
    | ok a =>
      rw [ha] at q
      simp only [Rz.ok_bind] at q
      intro v G1 H1 x1 va
      obtain ⟨G2, x2, s2, va2⟩ := va.fr x1 .refl
      cases hd : frD a with
      | stuck => rw [hd] at q; exact q.elim
      | exc e => exact absurd hd frD_exc
      | ok d =>
        rw [hd] at q
        simp only [Rz.ok_bind] at q
        rw [frD_ok hd] at va2
        have va3 : Rep (kc X C) G2 v d := va2
        cases hi : items d with
        | stuck => rw [hi] at q; exact q.elim
        | exc e => exact absurd hi items_exc
        | ok ds =>
          rw [hi] at q
          cases va3 with
          | @lst a vs ds' sq rs =>
            cases hi
            exact .inl ⟨a, vs, rfl, .of (x2.s _ _ sq), q _ G2 H1 x2 (itl_ok (.of sq) rs)⟩
          | @tup a vs ds' sq rs =>
            cases hi
            exact .inr (.inl ⟨a, vs, rfl, x2.s.sqT sq, q _ G2 H1 x2 (itt_ok sq rs)⟩)
          | @scr a ns sq =>
            cases hi
            exact .inl ⟨a, _, rfl, x2.s.sqL sq, q _ G2 H1 x2 (itl_ok sq (Reps.ints ns))⟩
          | @str x =>
            cases hi
            exact .inr (.inr ⟨x, rfl, q _ G2 H1 x2 its_ok⟩)
          | _ => cases hi⟩
theorem p62 : (2 : Int) ^ 62 = 4611686018427387904 := by decide +kernel
theorem p64 : (2 : Int) ^ 64 = 18446744073709551616 := by decide +kernel
theorem abs62 {j : Int} (h : j.natAbs < 4611686018427387904) : -(2 ^ 62) ≤ j ∧ j < 2 ^ 62 := by rw [p62]; omega
def upTo (lo : Int) (n : Nat) : List D := (List.range n).map fun (i : Nat) => .int (lo + i)
def mRng1 (a : Env → Rz (List EV)) : Env → Rz (List D) := fun env => a env >>= fun xs => match xs with
  | [.fz (.int j)] => if j.natAbs < 4611686018427387904 then .ok (upTo 0 j.toNat) else .stuck
  | _ => .stuck
def mRng2 (a : Env → Rz (List EV)) : Env → Rz (List D) := fun env => a env >>= fun xs => match xs with
  | [.fz (.int i), .fz (.int j)] => if i.natAbs < 4611686018427387904 ∧ j.natAbs < 4611686018427387904 then .ok (upTo i (j - i).toNat) else .stuck
  | _ => .stuck
theorem itr_ok {K : KC} {lo : Int} {n : Nat} {G : Hp} : IterOk K (Itr lo n) G (upTo lo n) where
  go := fun i G2 H2 l a b => by show i < n; simpa [upTo] using l
  stop := fun G2 H2 a b => by show n ≤ _; simp [upTo]
  yld := fun i v G2 H2 H3 l a b y => by
    obtain ⟨rfl, rfl⟩ := y
    have hl : i < n := by simpa [upTo] using l
    refine ⟨.int (lo + i), G2, ?_, .refl b, .int _⟩
    simp [upTo, hl]
theorem evs1 {K : KC} {Z : Ent} {Hs G H : Hp} {vs : List V} {e : EV} (h : EVs K Z Hs G H vs [e]) : ∃ v, vs = [v] ∧ EVok K Z Hs G H v e := by
  cases h with
  | cons a b => cases b; exact ⟨_, rfl, a⟩
theorem evs2 {K : KC} {Z : Ent} {Hs G H : Hp} {vs : List V} {e f : EV} (h : EVs K Z Hs G H vs [e, f]) : ∃ v u, vs = [v, u] ∧ EVok K Z Hs G H v e ∧ EVok K Z Hs G H u f := by
  cases h with
  | cons a b =>
    obtain ⟨u, rfl, k⟩ := evs1 b
    exact ⟨_, u, rfl, a, k⟩
theorem evs3 {K : KC} {Z : Ent} {Hs G H : Hp} {vs : List V} {e f g : EV} (h : EVs K Z Hs G H vs [e, f, g]) : ∃ v u t, vs = [v, u, t] ∧ EVok K Z Hs G H v e ∧ EVok K Z Hs G H u f ∧ EVok K Z Hs G H t g := by
  cases h with
  | cons a b =>
    obtain ⟨u, t, rfl, k, l⟩ := evs2 b
    exact ⟨_, u, t, rfl, a, k, l⟩
theorem rep_int {K : KC} {G : Hp} {v : V} {i : Int} (h : Rep K G v (.int i)) : v = .int i := by cases h; rfl
theorem rep_bl {K : KC} {G : Hp} {v : V} {i : Bool} (h : Rep K G v (.bl i)) : v = .bl i := by cases h; rfl
theorem rep_str {K : KC} {G : Hp} {v : V} {i : Str} (h : Rep K G v (.str i)) : v = .str i := by cases h; rfl
theorem rep_non {K : KC} {G : Hp} {v : V} (h : Rep K G v .non) : v = .non := by cases h; rfl
theorem di_range1 {tg a : Expr} {m : Env → Rz (List EV)} {p pos : Pos} (hm : X.mg "range" = none) (h : DA X C W [a] m) (hg : Gl X "range" := by rfl) (hs : starEach [a] X.env = [(false, eval a X.env)] := by rfl) :
    DI X C W tg (.Call (.Name "range" p) [a] [] pos) (mRng1 m) :=
  ⟨PI.imp (pi_range1 hg hm h.pa hs) fun σ H R ⟨Z, G, env, er, q⟩ => by
    unfold mRng1 at q
    refine ⟨Z, G, env, er, ?_⟩
    cases ha : m env with
    | stuck => rw [ha] at q; exact q.elim
    | exc e => rw [ha] at q; exact q
    | ok xs =>
      rw [ha] at q
      simp only [Rz.ok_bind] at q
      intro vs G1 H1 x1 va
      split at q
      · rename_i j heq
        split at heq
        · rename_i j'
          by_cases z : j'.natAbs < 4611686018427387904
          · rw [if_pos z] at heq
            cases heq
            obtain ⟨v, rfl, k⟩ := evs1 va
            exact ⟨j', by rw [rep_int k], (abs62 z).1, (abs62 z).2, q _ G1 H1 x1 itr_ok⟩
          · rw [if_neg z] at heq; cases heq
        · cases heq
      · rename_i e heq
        split at heq
        · split at heq <;> cases heq
        · cases heq
      · exact q.elim⟩
theorem di_range2 {tg a b : Expr} {m : Env → Rz (List EV)} {p pos : Pos} (hm : X.mg "range" = none) (h : DA X C W [a, b] m) (hg : Gl X "range" := by rfl) (hs : starEach [a, b] X.env = [(false, eval a X.env), (false, eval b X.env)] := by rfl) (hs2 : starEach [b] X.env = [(false, eval b X.env)] := by rfl) :
    DI X C W tg (.Call (.Name "range" p) [a, b] [] pos) (mRng2 m) :=
  ⟨PI.imp (pi_range2 hg hm h.pa hs hs2) fun σ H R ⟨Z, G, env, er, q⟩ => by
    unfold mRng2 at q
    refine ⟨Z, G, env, er, ?_⟩
    cases ha : m env with
    | stuck => rw [ha] at q; exact q.elim
    | exc e => rw [ha] at q; exact q
    | ok xs =>
      rw [ha] at q
      simp only [Rz.ok_bind] at q
      intro vs G1 H1 x1 va
      split at q
      · rename_i j heq
        split at heq
        · rename_i i' j'
          by_cases z : i'.natAbs < 4611686018427387904 ∧ j'.natAbs < 4611686018427387904
          · rw [if_pos z] at heq
            cases heq
            obtain ⟨v, u, rfl, k, l⟩ := evs2 va
            exact ⟨i', j', by rw [rep_int k, rep_int l], ⟨(abs62 z.1).1, (abs62 z.1).2, (abs62 z.2).1, (abs62 z.2).2⟩, q _ G1 H1 x1 itr_ok⟩
          · rw [if_neg z] at heq; cases heq
        · cases heq
      · rename_i e heq
        split at heq
        · split at heq <;> cases heq
        · cases heq
      · exact q.elim⟩

def forF (p : D → Env → Rz Env) (b : Env → Out) : List D → Env → Out
  | [], env => .nx env
  | d :: ds, env => match p d env with
    | .ok e => (match b e with
      | .nx e' => forF p b ds e'
      | .ct e' => forF p b ds e'
      | .bk e' => .nx e'
      | o => o)
    | _ => .stuck
def mFor (it : Env → Rz (List D)) (p : D → Env → Rz Env) (b : Env → Out) : Env → Out := fun env => match it env with
  | .ok ds => forF p b ds env
  | .exc e => .exc e env
  | .stuck => .stuck
theorem ds_for {tg iter : Expr} {body : List Stmt} {it : Env → Rz (List D)} {vs : List Nat} {p : D → Env → Rz Env} {b : Env → Out} {pos : Pos} (hp : PassesOwn (model X.prog X.w) X.A X.env X.xe) (hi : DI X C W tg iter it) (hg : DG X C tg vs p) (hb : DSs X C W body b) (hc : X.calm = true := by rfl)
    (hs : ∀ x, foldedSetIterable iter X.env x = pure x := by intro _; rfl) : DS X C W (.For tg iter body [] pos) (mFor it p b) :=
  ⟨PS.imp (ps_for hp hc hi.pi hg.pg hb.pss hs) fun D σ H ⟨Z, G, env, er, q⟩ => by
    unfold mFor at q
    refine ⟨Z, G, env, er, ?_⟩
    cases hit : it env with
    | stuck => rw [hit] at q; exact q.elim
    | exc e => rw [hit] at q; exact fun cls d G' H' x k => q σ H' G' cls d x.g (er.ext x) k
    | ok ds =>
      rw [hit] at q
      intro J G1 H1 x1 io
      refine ⟨fun i m σ' H' => m + i = ds.length ∧ ∃ G' env', Sub G1 G' ∧ ER (kc X C) Z G' H' σ' env' ∧ Post (kc X C) W Z D G' (forF p b (ds.drop i) env'), ⟨ds.length, rfl, G1, env, .refl, er.ext x1, Post.mono x1.g q⟩, ?_⟩
      rintro i m σ' H' ⟨hm, G2, env2, s2, er2, q2⟩
      by_cases hl : i < ds.length
      · refine .inr ⟨io.go i G2 H' hl s2 er2.sub, fun σ3 H3 => ∃ G3 env3, Sub G1 G3 ∧ ER (kc X C) Z G3 H3 σ3 env3 ∧ Post (kc X C) W Z D G3 (forF p b (ds.drop (i + 1)) env3), fun σ3 H3 ⟨G3, env3, a, b', c⟩ => ⟨m - 1, by omega, by omega, G3, env3, a, b', c⟩, fun x H3 y => ?_⟩
        obtain ⟨d, G3, hd, x3, rd⟩ := io.yld i x G2 H' H3 hl s2 er2.sub y
        have hdrop : ds.drop i = d :: ds.drop (i + 1) := by
          obtain ⟨hl', e⟩ := List.getElem?_eq_some_iff.mp hd
          rw [List.drop_eq_getElem_cons hl', e]
        rw [hdrop] at q2
        unfold forF at q2
        refine ⟨Z, G3, env2, d, er2.ext x3, rd, ?_⟩
        cases hpd : p d env2 with
        | stuck => rw [hpd] at q2; exact q2.elim
        | exc e => rw [hpd] at q2; exact q2.elim
        | ok e =>
          rw [hpd] at q2
          dsimp only at q2
          intro σ4 er4 _ _
          refine ⟨Z, G3, e, er4, ?_⟩
          have q2 := Post.mono x3.g q2
          have s13 : Sub G1 G3 := s2.trans x3.g
          cases hbe : b e with
          | nx e' => rw [hbe] at q2; exact fun σ5 H5 G5 s5 er5 => ⟨G5, e', s13.trans s5, er5, Post.mono s5 q2⟩
          | ct e' => rw [hbe] at q2; exact fun σ5 H5 G5 s5 er5 => ⟨G5, e', s13.trans s5, er5, Post.mono s5 q2⟩
          | bk e' => rw [hbe] at q2; exact q2
          | ret ev => rw [hbe] at q2; exact q2
          | exc e' en => rw [hbe] at q2; exact q2
          | stuck => rw [hbe] at q2; exact q2
      · have e : i = ds.length := by omega
        subst e
        rw [List.drop_length] at q2
        exact .inl ⟨io.stop G2 H' s2 er2.sub, q2 σ' H' G2 .refl er2⟩⟩
def fuel : Nat := 2 ^ 40
def whF (c : Env → Rz Bool) (b : Env → Out) : Nat → Env → Out
  | 0, _ => .stuck
  | n + 1, env => match c env with
    | .ok true => (match b env with
      | .nx e' => whF c b n e'
      | .ct e' => whF c b n e'
      | .bk e' => .nx e'
      | o => o)
    | .ok false => .nx env
    | .exc e => .exc e env
    | .stuck => .stuck
def mWhile (c : Env → Rz Bool) (b : Env → Out) : Env → Out := whF c b fuel
theorem ds_while {c : Expr} {body : List Stmt} {t : Env → Rz Bool} {b : Env → Out} {pos : Pos} (hp : PassesOwn (model X.prog X.w) X.A X.env X.xe) (hc : DT X C W c t) (hb : DSs X C W body b) : DS X C W (.While c body [] pos) (mWhile t b) :=
  ⟨PS.imp (ps_while hp hc.pt hb.pss) fun D σ H ⟨Z, G, env, er, q⟩ => by
    unfold mWhile at q
    refine ⟨fun m σ' H' => ∃ G' env', ER (kc X C) Z G' H' σ' env' ∧ Post (kc X C) W Z D G' (whF t b m env'), ⟨fuel, G, env, er, q⟩, ?_⟩
    rintro m σ' H' ⟨G', env', er', q'⟩
    cases m with
    | zero => exact q'.elim
    | succ n =>
      unfold whF at q'
      refine ⟨Z, G', env', er', ?_⟩
      cases ht : t env' with
      | stuck => rw [ht] at q'; exact q'.elim
      | exc e => rw [ht] at q'; exact fun cls d G2 H2 x k => q' σ' H2 G2 cls d x.g (er'.ext x) k
      | ok k =>
        rw [ht] at q'
        intro G2 H2 x2
        cases k with
        | false =>
          rw [if_neg Bool.false_ne_true]
          exact q' σ' H2 G2 x2.g (er'.ext x2)
        | true =>
          rw [if_pos rfl]
          dsimp only at q'
          refine ⟨fun σ3 H3 => ∃ G3 env3, ER (kc X C) Z G3 H3 σ3 env3 ∧ Post (kc X C) W Z D G3 (whF t b n env3), fun σ3 H3 h => ⟨n, Nat.lt_succ_self n, h⟩, Z, G2, env', er'.ext x2, ?_⟩
          have q' := Post.mono x2.g q'
          cases hbe : b env' with
          | nx e' => rw [hbe] at q'; exact fun σ5 H5 G5 s5 er5 => ⟨G5, e', er5, Post.mono s5 q'⟩
          | ct e' => rw [hbe] at q'; exact fun σ5 H5 G5 s5 er5 => ⟨G5, e', er5, Post.mono s5 q'⟩
          | bk e' => rw [hbe] at q'; exact q'
          | ret ev => rw [hbe] at q'; exact q'
          | exc e' en => rw [hbe] at q'; exact q'
          | stuck => rw [hbe] at q'; exact q'⟩

def lcF (p : D → Env → Rz Env) (t : Env → Rz Bool) (e : Env → Rz EV) (env : Env) : List D → List D → Rz (List D)
  | [], acc => .ok acc
  | d :: ds, acc => match p d env with
    | .ok en => (match t en with
      | .ok true => (match e en with
        | .ok ev => (match ev.fr with
          | .fz y => if acc.length < sizeLine then lcF p t e env ds (acc ++ [y]) else .stuck
          | _ => .stuck)
        | _ => .stuck)
      | .ok false => lcF p t e env ds acc
      | _ => .stuck)
    | _ => .stuck
def wipeE (env : Env) : List Nat → Env
  | [] => env
  | v :: vs => (wipeE env vs).set v .no
def mLc (it : Env → Rz (List D)) (p : D → Env → Rz Env) (t : Env → Rz Bool) (e : Env → Rz EV) (vs : List Nat) : Env → Rz EV := fun env => it env >>= fun ds => match lcF p t e (wipeE env vs) ds [] with
  | .ok out => .ok (.ow true (.lst out))
  | _ => .stuck
theorem ER.wipe {K : KC} {Z : Ent} {G H : Hp} {σ : L2.St} {env : Env} (er : ER K Z G H σ env) : ∀ vs : List Nat, ER K Z G H (L2.wipe σ vs) (wipeE env vs)
  | [] => er
  | v :: vs => (er.wipe vs).setN
theorem wipe_len (σ : L2.St) : ∀ vs : List Nat, (L2.wipe σ vs).length = σ.length := L2.wipe_length σ
theorem wipe_in (σ : L2.St) : ∀ {vs : List Nat} {i : Nat}, i ∈ vs → i < σ.length → (L2.wipe σ vs)[i]? = some none
  | v :: vs, i, h, l => by
    unfold L2.wipe
    by_cases e : v = i
    · subst e
      rw [List.getElem?_set_self (by rw [L2.wipe_length]; exact l)]
    · rw [List.getElem?_set_ne e]
      exact wipe_in σ (by rcases List.mem_cons.mp h with z | z; exact absurd z.symm e; exact z) l
theorem wipe_out (σ : L2.St) : ∀ {vs : List Nat} {i : Nat}, i ∉ vs → (L2.wipe σ vs)[i]? = σ[i]?
  | [], i, h => rfl
  | v :: vs, i, h => by
    unfold L2.wipe
    rw [List.mem_cons, not_or] at h
    rw [List.getElem?_set_ne (Ne.symm h.1)]
    exact wipe_out σ h.2
theorem wipe_eq {σ σ' : L2.St} {vs us : List Nat} (hl : σ'.length = (L2.wipe σ vs).length) (hu : ∀ i ∈ us, i ∈ vs) (h : ∀ i, i ∉ us → σ'[i]? = (L2.wipe σ vs)[i]?) : L2.wipe σ' vs = L2.wipe σ vs := by
  apply List.ext_getElem?
  intro i
  by_cases hi : i ∈ vs
  · by_cases hl2 : i < σ.length
    · rw [wipe_in σ hi hl2, wipe_in σ' hi (by rw [hl, L2.wipe_length]; exact hl2)]
    · rw [List.getElem?_eq_none (by rw [L2.wipe_length, hl, L2.wipe_length]; omega), List.getElem?_eq_none (by rw [L2.wipe_length]; omega)]
  · rw [wipe_out σ' hi, h i fun z => hi (hu i z)]
structure DTs (X : Cx) (C : Str → Option Addr) (W : WX) (es : List Expr) (m : Env → Rz Bool) : Prop where
  pts : PTs X es (tT (kc X C) W m)
theorem PTs.imp {es : List Expr} {t t' : TT} (h : PTs X es t) (k : ∀ σ H Q, t' σ H Q → t σ H Q) : PTs X es t' := ⟨fun pins s σ H Q I q => h.run pins s σ H Q I (k _ _ _ q)⟩
def mYes : Env → Rz Bool := fun _ => .ok true
theorem dts_nil : DTs X C W [] mYes := ⟨PTs.imp pts_nil fun σ H Q ⟨Z, G, env, er, q⟩ => q G H (.refl er.sub)⟩
theorem dts_one {c : Expr} {t : Env → Rz Bool} (h : DT X C W c t) : DTs X C W [c] t := ⟨pts_one h.pt⟩
abbrev W0 : WX := fun _ _ _ _ => False
theorem lc_go {it : Env → Rz (List D)} {us : List Nat} {p : D → Env → Rz Env} {t : Env → Rz Bool} {e : Env → Rz EV} {vs : List Nat} {σ : L2.St} {H : Hp} {Q : VK} (hu : ∀ i ∈ us, i ∈ vs)
    (h : tE (kc X C) W (mLc it p t e vs) σ H Q) : tLc (tI (kc X C) W it) (tG (kc X C) us p) (tT (kc X C) W0 t) (tE (kc X C) W0 e) vs σ H Q := by
  obtain ⟨Z, G, env, er, q⟩ := h
  unfold mLc at q
  refine ⟨Z, G, env, er, ?_⟩
  cases hit : it env with
  | stuck => rw [hit] at q; exact q.elim
  | exc e => rw [hit] at q; exact q
  | ok ds =>
    rw [hit] at q
    simp only [Rz.ok_bind] at q
    intro J G1 H1 x1 io LD hD
    cases hlc : lcF p t e (wipeE env vs) ds [] with
    | stuck => rw [hlc] at q; exact q.elim
    | exc e => rw [hlc] at q; exact q.elim
    | ok out =>
      rw [hlc] at q
      dsimp only at q
      -- the heap without the new list
      refine ⟨fun i m H' => m + i = ds.length ∧ ∃ G' acc avs, Ext G1 (upd H1 LD (.lst [])) G' (upd H' LD (.lst [])) ∧ H' LD = some (.lst avs) ∧ G' LD = none ∧ Reps (kc X C) G' avs acc ∧ ER (kc X C) Z G' H' (L2.wipe σ vs) (wipeE env vs) ∧ lcF p t e (wipeE env vs) (ds.drop i) acc = .ok out,
        ⟨ds.length, rfl, G1, [], [], (by rw [upd_upd]; exact Ext.refl (x1.s.updR (x1.s.none hD))), upd_same, x1.s.none hD, .nil, ((er.ext x1).ext (.lay x1.s hD)).wipe vs, hlc⟩, ?_⟩
      rintro i m H2 ⟨hm, G2, acc, avs, x2, hl2, hg2, ra, er2, run⟩
      by_cases hl : i < ds.length
      · have s12 : Sub G1 G2 := x2.g
        refine .inr ⟨io.go i G2 H2 hl s12 er2.sub, fun H' => ∃ G' acc avs, Ext G1 (upd H1 LD (.lst [])) G' (upd H' LD (.lst [])) ∧ H' LD = some (.lst avs) ∧ G' LD = none ∧ Reps (kc X C) G' avs acc ∧ ER (kc X C) Z G' H' (L2.wipe σ vs) (wipeE env vs) ∧ lcF p t e (wipeE env vs) (ds.drop (i + 1)) acc = .ok out,
          fun H' h => ⟨m - 1, by omega, by omega, h⟩, fun x H3 y => ?_⟩
        obtain ⟨d, G3, hd, x3, rd⟩ := io.yld i x G2 H2 H3 hl s12 er2.sub y
        have hdrop : ds.drop i = d :: ds.drop (i + 1) := by
          obtain ⟨hl', e⟩ := List.getElem?_eq_some_iff.mp hd
          rw [List.drop_eq_getElem_cons hl', e]
        rw [hdrop] at run
        unfold lcF at run
        refine ⟨Z, G3, wipeE env vs, d, er2.ext x3, rd, ?_⟩
        cases hpd : p d (wipeE env vs) with
        | stuck => rw [hpd] at run; cases run
        | exc e => rw [hpd] at run; cases run
        | ok en =>
          rw [hpd] at run
          dsimp only at run
          intro σ4 er4 l4 f4
          refine ⟨wipe_eq l4 hu f4, Z, G3, en, er4, ?_⟩
          have hl3 : H3 LD = some (.lst avs) := x3.h _ _ hl2
          have hg3 : G3 LD = none := x3.n LD hg2 ⟨_, hl2, rfl⟩
          -- how the end of a turn is told
          have back : ∀ (G5 H5 : Hp), Ext G3 H3 G5 H5 → Ext G1 (upd H1 LD (.lst [])) G5 (upd H5 LD (.lst [])) ∧ H5 LD = some (.lst avs) ∧ G5 LD = none ∧ Reps (kc X C) G5 avs acc ∧ ER (kc X C) Z G5 H5 (L2.wipe σ vs) (wipeE env vs) := fun G5 H5 x5 => by
            have x25 := x3.trans x5
            have hg5 : G5 LD = none := x5.n LD hg3 ⟨_, hl3, rfl⟩
            refine ⟨⟨x2.g.trans x25.g, fun a o k => ?_, x25.s.updR hg5, fun a k n => ?_⟩, x5.h _ _ hl3, hg5, ra.mono x25.g, er2.ext x25⟩
            · by_cases ha : a = LD
              · subst ha; rw [upd_same] at k ⊢; exact k
              · have := x2.h a o k
                rw [upd_ne ha] at this ⊢
                exact x25.h a o this
            · by_cases ha : a = LD
              · rw [ha]; exact hg5
              · refine x25.n a (x2.n a k n) ?_
                have n2 := n.mono x2.h
                obtain ⟨o, e, z⟩ := n2
                rw [upd_ne ha] at e
                exact ⟨o, e, z⟩
          cases ht : t en with
          | stuck => rw [ht] at run; cases run
          | exc e => rw [ht] at run; cases run
          | ok k =>
            rw [ht] at run
            intro G5 H5 x5
            obtain ⟨b1, b2, b3, b4, b5⟩ := back G5 H5 x5
            cases k with
            | false =>
              rw [if_neg Bool.false_ne_true]
              exact ⟨G5, acc, avs, b1, b2, b3, b4, b5, run⟩
            | true =>
              rw [if_pos rfl]
              dsimp only at run
              refine ⟨Z, G5, en, er4.ext x5, ?_⟩
              cases he : e en with
              | stuck => rw [he] at run; cases run
              | exc e => rw [he] at run; cases run
              | ok ev =>
                rw [he] at run
                dsimp only at run
                intro v G6 H6 x6 v6
                obtain ⟨G7, x7, s7, v7⟩ := v6.fr x6 .refl
                cases hf : ev.fr with
                | ow n w => rw [hf] at run; cases run
                | fz y =>
                  rw [hf] at run v7
                  dsimp only at run
                  by_cases hz : acc.length < sizeLine
                  · rw [if_pos hz] at run
                    obtain ⟨c1, c2, c3, c4, c5⟩ := back G7 H6 (x5.trans x7)
                    refine ⟨avs, c2, by rw [b4.length]; exact hz, G7, acc ++ [y], avs ++ [v], ?_, upd_same, c3, c4.append (.cons v7 .nil), ?_, run⟩
                    · rw [upd_upd]; exact c1
                    · -- the slots don't see the new list
                      refine ⟨c5.len, c5.zg, c5.zh.updR ?_, c5.zzz, c5.sub.updR c3, c5.new, fun j x e => ?_, c5.own, c5.dis⟩
                      · cases z : Z.H LD with
                        | none => rfl
                        | some o =>
                          have := (er.ext x1).zh LD o z
                          rw [hD] at this; cases this
                      · obtain ⟨u, h1, h2⟩ := c5.at' j x e
                        refine ⟨u, h1, ?_⟩
                        cases x with
                        | no => trivial
                        | val d => exact h2
                        | own w =>
                          obtain ⟨q', h3, h4⟩ := h2
                          -- an own container stood ahead of the comprehension
                          have hq : q' ≠ LD := fun hq => by
                            subst hq
                            subst h3
                            have e0 := ((er.ext x1).wipe vs).at' j _ e
                            obtain ⟨u', g1, q2, g2, g3⟩ := e0
                            rw [h1] at g1; cases g1
                            cases g2
                            obtain ⟨o, g4, _⟩ := g3.some
                            rw [hD] at g4; cases g4
                          exact ⟨q', h3, h4.mono .refl fun o k => by rw [upd_ne hq]; exact k⟩
                  · rw [if_neg hz] at run; cases run
      · have e : i = ds.length := by omega
        subst e
        rw [List.drop_length] at run
        unfold lcF at run
        cases run
        refine .inl ⟨io.stop G2 H2 x2.g er2.sub, q (.ref LD) G2 H2 ?_ ⟨LD, rfl, ⟨avs, hl2, ra⟩, hg2, ?_, fun _ => x1.h |> fun s => ?_⟩⟩
        · refine ⟨x1.g.trans x2.g, fun a o k => ?_, er2.sub, fun a k n => ?_⟩
          · have ha : a ≠ LD := fun ha => by subst ha; have := x1.h a o k; rw [hD] at this; cases this
            have := x2.h a o (by rw [upd_ne ha]; exact x1.h a o k)
            rw [upd_ne ha] at this; exact this
          · by_cases ha : a = LD
            · rw [ha]; exact hg2
            · refine x2.n a (x1.n a k n) ?_
              obtain ⟨o, e, z⟩ := n.mono x1.h
              exact ⟨o, by rw [upd_ne ha]; exact e, z⟩
        · cases z : Z.H LD with
          | none => rfl
          | some o =>
            have := (er.ext x1).zh LD o z
            rw [hD] at this; cases this
        · exact s.none hD
theorem de_lc {elt tg iter : Expr} {ifs : List Expr} {scope : Scope} {own : List (Str × Nat)} {pos : Pos} {it : Env → Rz (List D)} {us vs : List Nat} {p : D → Env → Rz Env} {t : Env → Rz Bool} {e : Env → Rz EV} (hN : X.N.Nodup) (hi : DI X C W tg iter it) (ok : BlkOk X.N X.env.scope scope own) (hvs : vs = own.map (·.2))
    (hu : ∀ i ∈ us, i ∈ vs)
    (hg : ∀ (s : Shared) (H : Hp) (L : Addr) (cl : List (Str × Addr)) (fp : List Addr), DG (X.blk s H scope (compEnvC scope cl L X.env) fp) C tg us p) (ht : ∀ (s : Shared) (H : Hp) (L : Addr) (cl : List (Str × Addr)) (fp : List Addr), DTs (X.blk s H scope (compEnvC scope cl L X.env) fp) C W0 ifs t)
    (he : ∀ (s : Shared) (H : Hp) (L : Addr) (cl : List (Str × Addr)) (fp : List Addr), DE (X.blk s H scope (compEnvC scope cl L X.env) fp) C W0 elt e) (hc : X.calm = true := by rfl) (hs : ∀ x, foldedSetIterable iter X.env x = pure x := by intro _; rfl) :
    DE X C W (.ListComp elt [⟨tg, iter, ifs, 0⟩] scope pos) (mLc it p t e vs) := by
  subst hvs
  exact ⟨PE.imp (pe_lc hc hN hi.pi ok (fun s H L cl fp => (hg s H L cl fp).pg) (fun s H L cl fp => (ht s H L cl fp).pts) (fun s H L cl fp => (he s H L cl fp).pe) hs) fun σ H Q h => lc_go hu h⟩
theorem ds_setLcF {i : Nat} {y : Str} {py : Pos} {elt tg iter : Expr} {ifs : List Expr} {scope : Scope} {own : List (Str × Nat)} {pos spos : Pos} {it : Env → Rz (List D)} {us vs : List Nat} {p : D → Env → Rz Env} {t : Env → Rz Bool} {e : Env → Rz EV} (hN : X.N.Nodup)
    (hsw : swapsWith (.ListComp elt [⟨tg, iter, ifs, 0⟩] scope pos) (some (.Name y py)) spos.line X.env = pure true) (hi : DI X C W tg iter it) (ok : BlkOk X.N X.env.scope scope own) (hvs : vs = own.map (·.2))
    (hu : ∀ i ∈ us, i ∈ vs)
    (hg : ∀ (s : Shared) (H : Hp) (L : Addr) (cl : List (Str × Addr)) (fp : List Addr), DG (X.blk s H scope (compEnvC scope cl L X.env) fp) C tg us p) (ht : ∀ (s : Shared) (H : Hp) (L : Addr) (cl : List (Str × Addr)) (fp : List Addr), DTs (X.blk s H scope (compEnvC scope cl L X.env) fp) C W0 ifs t)
    (he : ∀ (s : Shared) (H : Hp) (L : Addr) (cl : List (Str × Addr)) (fp : List Addr), DE (X.blk s H scope (compEnvC scope cl L X.env) fp) C W0 elt e) (hy : X.N[i]? = some y := by rfl) (hyl : X.env.scope.names.lookup y = some .local := by rfl) (hc : X.calm = true := by rfl) (hs : ∀ x, foldedSetIterable iter X.env x = pure x := by intro _; rfl) :
    DS X C W (.Assign [.Name y py] (.ListComp elt [⟨tg, iter, ifs, 0⟩] scope pos) spos) (mSetF i (mLc it p t e vs)) := by
  subst hvs
  exact ⟨PS.imp (ps_setLc hc hN hy hyl hsw hi.pi ok (fun s H L cl fp => (hg s H L cl fp).pg) (fun s H L cl fp => (ht s H L cl fp).pts) (fun s H L cl fp => (he s H L cl fp).pe) hs) fun D σ H h => lc_go hu (onE_go h fun Z G1 H1 env v a er z s va q fr => by
    obtain ⟨G2, s2, er2, va2⟩ := frz_go er va fr
    unfold stF at q
    cases ha : a.fr with
    | ow n w => rw [ha] at q; exact q.elim
    | fz d =>
      rw [ha] at q va2
      exact q _ H1 G2 s2 (er2.setV va2))⟩
theorem ds_setLcO {i : Nat} {y : Str} {py : Pos} {elt tg iter : Expr} {ifs : List Expr} {scope : Scope} {own : List (Str × Nat)} {pos spos : Pos} {it : Env → Rz (List D)} {us vs : List Nat} {p : D → Env → Rz Env} {t : Env → Rz Bool} {e : Env → Rz EV} (hN : X.N.Nodup)
    (hsw : swapsWith (.ListComp elt [⟨tg, iter, ifs, 0⟩] scope pos) (some (.Name y py)) spos.line X.env = pure true) (hi : DI X C W tg iter it) (ok : BlkOk X.N X.env.scope scope own) (hvs : vs = own.map (·.2))
    (hu : ∀ i ∈ us, i ∈ vs)
    (hg : ∀ (s : Shared) (H : Hp) (L : Addr) (cl : List (Str × Addr)) (fp : List Addr), DG (X.blk s H scope (compEnvC scope cl L X.env) fp) C tg us p) (ht : ∀ (s : Shared) (H : Hp) (L : Addr) (cl : List (Str × Addr)) (fp : List Addr), DTs (X.blk s H scope (compEnvC scope cl L X.env) fp) C W0 ifs t)
    (he : ∀ (s : Shared) (H : Hp) (L : Addr) (cl : List (Str × Addr)) (fp : List Addr), DE (X.blk s H scope (compEnvC scope cl L X.env) fp) C W0 elt e) (hy : X.N[i]? = some y := by rfl) (hyl : X.env.scope.names.lookup y = some .local := by rfl) (hc : X.calm = true := by rfl) (hs : ∀ x, foldedSetIterable iter X.env x = pure x := by intro _; rfl) :
    DS X C W (.Assign [.Name y py] (.ListComp elt [⟨tg, iter, ifs, 0⟩] scope pos) spos) (mSetO i (mLc it p t e vs)) := by
  subst hvs
  exact ⟨PS.imp (ps_setLc hc hN hy hyl hsw hi.pi ok (fun s H L cl fp => (hg s H L cl fp).pg) (fun s H L cl fp => (ht s H L cl fp).pts) (fun s H L cl fp => (he s H L cl fp).pe) hs) fun D σ H h => lc_go hu (onE_go h fun Z G1 H1 env v a er z s va q fr => by
    unfold stO at q
    split at q
    · rename_i w
      obtain ⟨p, rfl, h1, h2, h3, h4⟩ := va
      exact q _ H1 G1 .refl (er.setO h1 h2 h3 fun j x v _ e1 e2 => fr p (h4 rfl) j x v e1 e2)
    · exact q.elim)⟩

abbrev Fn := List D → Rz EV
def spD (K : KC) (n : Nat) (F : Fn) : Sp := fun vs H Q E => ∃ G ds, Sub G H ∧ Reps K G vs ds ∧ ds.length = n ∧ match F ds with
  | .ok ev => ∀ v G' H', Ext G H G' H' → EVok K ⟨G, H⟩ H G' H' v ev → Q v H'
  | .exc e => ∀ cls d G' H', Ext G H G' H' → ExcOk K G' H' cls d e → E cls d H'
  | .stuck => False
def runB (N : Nat) (b : Env → Out) : Fn := fun ds => match b (ds.map SL.val ++ List.replicate (N - ds.length) SL.no) with
  | .nx _ => .ok (.fz .non)
  | .ret ev => .ok ev
  | .exc e _ => .exc e
  | _ => .stuck
theorem er_start {K : KC} {G H : Hp} {vs : List V} {ds : List D} (s : Sub G H) (r : Reps K G vs ds) (N : List Str) (hN : ds.length ≤ N.length) : ER K ⟨G, H⟩ G H (start N vs) (ds.map SL.val ++ List.replicate (N.length - ds.length) SL.no) := by
  have hl := r.length
  have noown : ∀ (i : Nat) (x : SL) (v : Option V) (p : Addr), (ds.map SL.val ++ List.replicate (N.length - ds.length) SL.no)[i]? = some x → ¬ x.owns v p := fun i x v p e ⟨⟨w, z⟩, _⟩ => by
    subst z
    rw [List.getElem?_append] at e
    split at e
    · rw [List.getElem?_map] at e
      cases q : ds[i]? with
      | none => rw [q] at e; cases e
      | some d => rw [q] at e; cases e
    · rw [List.getElem?_replicate] at e
      split at e <;> cases e
  refine ⟨by simp [L2.start, hl], .refl, .refl, s, s, fun a n z => absurd z n, fun i x e => ?_, fun i x v p e _ o => absurd o (noown i x v p e), fun i j x y v u p e _ o => absurd o (noown i x v p e)⟩
  rw [List.getElem?_append] at e
  unfold L2.start
  rw [List.getElem?_append]
  simp only [List.length_map] at e ⊢
  rw [hl]
  split at e
  · rename_i hi
    rw [if_pos hi]
    rw [List.getElem?_map] at e ⊢
    cases q : ds[i]? with
    | none => rw [q] at e; cases e
    | some d =>
      rw [q] at e; cases e
      obtain ⟨v, h1, h2⟩ := r.get q
      exact ⟨some v, by rw [h1]; rfl, v, rfl, h2⟩
  · rename_i hi
    rw [if_neg hi]
    rw [List.getElem?_replicate] at e ⊢
    split at e
    · rename_i hj
      cases e
      rw [if_pos hj]
      exact ⟨none, rfl, trivial⟩
    · cases e
theorem ER.toExt {K : KC} {Z : Ent} {G H : Hp} {σ : L2.St} {env : Env} (er : ER K Z G H σ env) : Ext Z.G Z.H G H :=
  ⟨er.zg, er.zh, er.sub, fun a n k => by
    cases q : G a with
    | none => rfl
    | some o => exact absurd k (er.new a (by rw [q]; simp) n)⟩
section
variable {P : Program} {w : World} {mg : Str → Option Value} {base : Heap}
theorem fn_data {K : KC} {x qual : Str} {st : Stmt} {f : Addr} {fd : FuncData} {N ps : List Str} {k : Nat} {b : Env → Out} (F : L2.Fun K.K x qual st f fd) (S : FnScope N ps (defScope st)) (hn : ps.length ≤ N.length)
    (hbody : ∀ (cdv : Value) (A : Around) (outer : List PySem.Env) (s : Shared) (H : Hp) (E : XK), Room k (A.deeper (envOfC qual (defScope st) s.heap.objs.size f cdv)) →
      let X := cxOf (L2.CX P w) P w K.K mg base N qual (defScope st) f cdv A outer s H E
      PassesOwn (model X.prog X.w) X.A X.env X.xe → Takes X (fun cls d _ H => E cls d H) → DSs X K.C (fun cls d _ H => E cls d H) (defBody st) b) : FnOk P w K.K mg base (L2.CX P w) (k + 1) f fd ps (spD K ps.length (runB N.length b)) := by
  obtain ⟨oc, od, kV, doc, pm, an, cdv, ct, osl, rfl, lk, hcd⟩ := F.ex
  refine fn_of lk hcd S (fun vs H Q E ⟨G, ds, _, r, l, _⟩ => r.length.trans l) fun A outer s H vs Q E hr ⟨G, ds, hs, r, l, h⟩ => ?_
  refine ⟨_, (hbody cdv A outer s H E hr (passes_of rfl) (takes_of rfl rfl rfl rfl)).pss, ⟨G, H⟩, G, _, er_start hs r N (by rw [l]; exact hn), ?_⟩
  unfold runB at h
  show Post K _ _ _ _ _
  cases hb : b (ds.map SL.val ++ List.replicate (N.length - ds.length) SL.no) with
  | nx e =>
    rw [hb] at h
    exact fun σ H' G' s' er => h .non G' H' er.toExt .non
  | ret ev =>
    rw [hb] at h
    refine fun σ env v H' G' Hs s' er hz va => h v G' H' er.toExt ?_
    exact va.start hz
  | exc e env =>
    rw [hb] at h
    exact fun σ H' G' cls d s' er k => h cls d G' H' er.toExt k
  | bk e => rw [hb] at h; exact h.elim
  | ct e => rw [hb] at h; exact h.elim
  | stuck => rw [hb] at h; exact h.elim
end
end
end DL
namespace DL
open PySem PySem.Spec PyProof.Rows L2

mutual
def toPy : D → PyData
  | .non => .none
  | .bl b => .bool b
  | .int i => .int i
  | .str x => .str x
  | .tup ds => .tuple (toPys ds)
  | .lst ds => .list (toPys ds)
  | _ => .dict []
def toPys : List D → List PyData
  | [] => []
  | d :: ds => toPy d :: toPys ds
end
theorem toPys_map : ∀ ds : List D, toPys ds = ds.map toPy
  | [] => rfl
  | d :: ds => by rw [toPys, List.map_cons, toPys_map ds]
mutual
theorem dp_of {K : KC} {G : Hp} : ∀ {v : V} {d : D}, Rep K G v d → (toPy d).canLay0 = true → Dp K.K G v (toPy d)
  | _, _, .non, _ => .non
  | _, _, .bl b, _ => .bl b
  | _, _, .int i, _ => .int i
  | _, _, .str x, _ => .str x
  | _, _, .tup sq r, h => .tup sq (dps_of r (by unfold toPy at h; exact h))
  | _, _, .lst sq r, h => .lst (.of sq) (dps_of r (by unfold toPy at h; exact h))
  | _, _, .ty _, h => by unfold toPy at h; cases h
  | _, _, .cls _, h => by unfold toPy at h; cases h
  | _, _, .scr _, h => by unfold toPy at h; cases h
  | _, _, .dk _ _, h => by unfold toPy at h; cases h
  | _, _, .dt _ _, h => by unfold toPy at h; cases h
  | _, _, .ins _ _ _, h => by unfold toPy at h; cases h
theorem dps_of {K : KC} {G : Hp} : ∀ {vs : List V} {ds : List D}, Reps K G vs ds → PyData.canLayAll0 (toPys ds) = true → DpAll K.K G vs (toPys ds)
  | _, _, .nil, _ => .nil
  | _, _, .cons a b, h => by
    rw [toPys] at h ⊢
    have h' : ((toPy _).canLay0 && PyData.canLayAll0 (toPys _)) = true := h
    obtain ⟨h1, h2⟩ := Bool.and_eq_true_iff.mp h'
    exact .cons (dp_of a h1) (dps_of b h2)
end

def eqD : D → D → Option Bool
  | .int i, .int j => some (decide (i = j))
  | .str i, .str j => some (decide (i = j))
  | .bl i, .bl j => some (decide (i = j))
  | x, y => if SeqAt.shaped (toPy x) = true ∧ SeqAt.shaped (toPy y) = true then some (PyData.eqv (toPy x) (toPy y)) else none
@[simp] theorem eqD_int (i j : Int) : eqD (.int i) (.int j) = some (decide (i = j)) := rfl
@[simp] theorem eqD_str (i j : Str) : eqD (.str i) (.str j) = some (decide (i = j)) := rfl
@[simp] theorem eqD_bl (i j : Bool) : eqD (.bl i) (.bl j) = some (decide (i = j)) := rfl
def opEq (a b : EV) : Rz EV := orStuck (eqD a.d b.d) >>= fun k => .ok (.fz (.bl k))
def opNe (a b : EV) : Rz EV := orStuck (eqD a.d b.d) >>= fun k => .ok (.fz (.bl (!k)))
theorem orStuck_exc {α : Type} {o : Option α} {e : Exn} : orStuck o ≠ .exc e := by cases o <;> simp [orStuck]
theorem noexc_bind {α : Type} {o : Option α} {f : α → Rz EV} (h : ∀ a e, f a ≠ .exc e) (e : Exn) : (orStuck o >>= f) ≠ .exc e := by
  cases o with
  | none => intro z; cases z
  | some a => exact h a e
theorem ne_eq : NoExc opEq := ⟨fun a b e => noexc_bind (fun _ _ z => by cases z) e⟩
theorem ne_ne : NoExc opNe := ⟨fun a b e => noexc_bind (fun _ _ z => by cases z) e⟩
section
variable {X : Cx} {C : Str → Option Addr} {W : WX}
theorem giveB {K : KC} {Z : Ent} {G H : Hp} {Q : VK} {k : Bool} (s : Sub G H) (q : ∀ v G' H', Ext G H G' H' → EVok K Z H G' H' v (.fz (.bl k)) → Q v H') : Q (.bl k) H := q _ G H (.refl s) (.bl k)
theorem giveI {K : KC} {Z : Ent} {G H : Hp} {Q : VK} {k : Int} (s : Sub G H) (q : ∀ v G' H', Ext G H G' H' → EVok K Z H G' H' v (.fz (.int k)) → Q v H') : Q (.int k) H := q _ G H (.refl s) (.int k)
theorem giveS {K : KC} {Z : Ent} {G H : Hp} {Q : VK} {k : Str} (s : Sub G H) (q : ∀ v G' H', Ext G H G' H' → EVok K Z H G' H' v (.fz (.str k)) → Q v H') : Q (.str k) H := q _ G H (.refl s) (.str k)
theorem giveN {K : KC} {Z : Ent} {G H : Hp} {Q : VK} (s : Sub G H) (q : ∀ v G' H', Ext G H G' H' → EVok K Z H G' H' v (.fz .non) → Q v H') : Q .non H := q _ G H (.refl s) .non
theorem giveL {K : KC} {Z : Ent} {G H : Hp} {Q : VK} {vs : List V} {ds : List D} (s : Sub G H) (zh : Sub Z.H H) (r : Reps K G vs ds) (q : ∀ v G' H', Ext G H G' H' → EVok K Z H G' H' v (.ow true (.lst ds)) → Q v H') : ∀ p, H p = none → Q (.ref p) (upd H p (.lst vs)) := fun p hp =>
  q (.ref p) G _ (.lay s hp) ⟨p, rfl, ⟨vs, upd_same, r⟩, s.none hp, zh.none hp, fun _ => hp⟩
theorem giveT {K : KC} {Z : Ent} {G H : Hp} {Q : VK} {vs : List V} {ds : List D} (s : Sub G H) (r : Reps K G vs ds) (q : ∀ v G' H', Ext G H G' H' → EVok K Z H G' H' v (.fz (.tup ds)) → Q v H') : ∀ p, H p = none → Q (.ref p) (upd H p (.tup vs)) := fun p hp =>
  q (.ref p) _ _ (.lay2 s hp) (.tup (.of upd_same) (r.mono (.upd (s.none hp))))
def rEqA (K : PySem.W.Frag) : R2 := fun x y H Q => rEq x y H Q ∨ rEqD K x y H Q
def rNeA (K : PySem.W.Frag) : R2 := fun x y H Q => rNe x y H Q ∨ rNeD K x y H Q
theorem eq_core {K : KC} {H : Hp} {x y : V} {a b : D} {k : Bool} (ra : Rep K H x a) (rb : Rep K H y b) (h : eqD a b = some k) :
    (scal x y = true ∧ k = decide (x = y)) ∨ (∃ d e, Dp K.K H x d ∧ Dp K.K H y e ∧ SeqAt.shaped d = true ∧ SeqAt.shaped e = true ∧ k = PyData.eqv d e) := by
  have deep : (if SeqAt.shaped (toPy a) = true ∧ SeqAt.shaped (toPy b) = true then some (PyData.eqv (toPy a) (toPy b)) else none) = some k → (∃ d e, Dp K.K H x d ∧ Dp K.K H y e ∧ SeqAt.shaped d = true ∧ SeqAt.shaped e = true ∧ k = PyData.eqv d e) := fun h => by
    by_cases z : SeqAt.shaped (toPy a) = true ∧ SeqAt.shaped (toPy b) = true
    · rw [if_pos z] at h
      cases h
      exact ⟨_, _, dp_of ra (SeqAt.canLay_of_shaped z.1), dp_of rb (SeqAt.canLay_of_shaped z.2), z.1, z.2, rfl⟩
    · rw [if_neg z] at h; cases h
  unfold eqD at h
  split at h
  · cases h
    cases ra; cases rb
    exact .inl ⟨rfl, by simp⟩
  · cases h
    cases ra; cases rb
    exact .inl ⟨rfl, by simp⟩
  · cases h
    cases ra; cases rb
    exact .inl ⟨rfl, by simp⟩
  · exact .inr (deep h)
theorem od_eq (hu : X.A.units + 64 < cLine) : OpD X C (compareOp .Eq) opEq := by
  refine ⟨rEqA X.K, OpR.or op_eq (op_eqD hu), fun Z G H Hs x y a b Q s zh va vb q => ?_⟩
  unfold opEq at q
  cases h : eqD a.d b.d with
  | none => rw [h] at q; exact q.elim
  | some k =>
    rw [h] at q
    have q := giveB s q
    rcases eq_core (va.rep s) (vb.rep s) h with ⟨h1, rfl⟩ | ⟨d, e, h1, h2, h3, h4, rfl⟩
    · exact .inl ⟨h1, q⟩
    · exact .inr ⟨d, e, h1, h2, h3, h4, q⟩
theorem od_ne (hu : X.A.units + 64 < cLine) : OpD X C (compareOp .NotEq) opNe := by
  refine ⟨rNeA X.K, OpR.or op_ne (op_neD hu), fun Z G H Hs x y a b Q s zh va vb q => ?_⟩
  unfold opNe at q
  cases h : eqD a.d b.d with
  | none => rw [h] at q; exact q.elim
  | some k =>
    rw [h] at q
    have q := giveB s q
    rcases eq_core (va.rep s) (vb.rep s) h with ⟨h1, rfl⟩ | ⟨d, e, h1, h2, h3, h4, rfl⟩
    · exact .inl ⟨h1, q⟩
    · exact .inr ⟨d, e, h1, h2, h3, h4, q⟩

theorem OpD.of {f : Value → Value → Sem Value} {g : EV → EV → Rz EV} {r : R2} (ho : OpR X f r)
    (h : ∀ (Z : Ent) (G H Hs : Hp) (x y : V) (a b ev : EV) (Q : VK), Sub G H → Sub Z.H H → EVok (kc X C) Z Hs G H x a → EVok (kc X C) Z Hs G H y b → g a b = .ok ev → (∀ v G' H', Ext G H G' H' → EVok (kc X C) Z H G' H' v ev → Q v H') → r x y H Q) : OpD X C f g :=
  ⟨r, ho, fun Z G H Hs x y a b Q s zh va vb q => by
    cases hg : g a b with
    | ok ev => rw [hg] at q; exact h Z G H Hs x y a b ev Q s zh va vb hg q
    | exc e => rw [hg] at q; exact q.elim
    | stuck => rw [hg] at q; exact q.elim⟩
def opI (c : Int → Int → Bool) (g : Int → Int → D) (a b : EV) : Rz EV := match a, b with
  | .fz (.int i), .fz (.int j) => if c i j = true then .ok (.fz (g i j)) else .stuck
  | _, _ => .stuck
@[simp] theorem opI_int (c : Int → Int → Bool) (g : Int → Int → D) (i j : Int) : opI c g (.fz (.int i)) (.fz (.int j)) = if c i j = true then .ok (.fz (g i j)) else .stuck := rfl
theorem opI_inv {c : Int → Int → Bool} {g : Int → Int → D} {a b : EV} {P : Rz EV → Prop} (hs : ¬ P .stuck) (h : P (opI c g a b)) : ∃ i j, a = .fz (.int i) ∧ b = .fz (.int j) ∧ c i j = true ∧ P (.ok (.fz (g i j))) := by
  unfold opI at h
  split at h
  · rename_i i j
    by_cases z : c i j = true
    · rw [if_pos z] at h; exact ⟨i, j, rfl, rfl, z, h⟩
    · rw [if_neg z] at h; exact absurd h hs
  · exact absurd h hs
theorem ne_opI {c : Int → Int → Bool} {g : Int → Int → D} : NoExc (opI c g) := ⟨fun a b e h => by
  obtain ⟨_, _, _, _, _, z⟩ := opI_inv (P := fun r => r = .exc e) (by intro z; cases z) h
  cases z⟩
theorem od_I {f : Value → Value → Sem Value} {c : Int → Int → Bool} {CC : Int → Int → Prop} {g : Int → Int → Int} (ho : OpR X f (rI CC fun i j => .int (g i j))) (hc : ∀ i j, c i j = true → CC i j) : OpD X C f (opI c fun i j => .int (g i j)) :=
  ⟨_, ho, fun Z G H Hs x y a b Q s zh va vb q => by
    obtain ⟨i, j, rfl, rfl, h, q⟩ := opI_inv (P := fun r => match r with
      | .ok ev => ∀ v G' H', Ext G H G' H' → EVok (kc X C) Z H G' H' v ev → Q v H'
      | _ => False) (fun z => z) q
    exact ⟨i, j, rep_int va, rep_int vb, hc i j h, giveI s q⟩⟩
theorem od_I0 {f : Value → Value → Sem Value} {g : Int → Int → Int} (ho : OpR X f (rI0 fun i j => .int (g i j))) : OpD X C f (opI (fun _ _ => true) fun i j => .int (g i j)) :=
  ⟨_, ho, fun Z G H Hs x y a b Q s zh va vb q => by
    obtain ⟨i, j, rfl, rfl, h, q⟩ := opI_inv (P := fun r => match r with
      | .ok ev => ∀ v G' H', Ext G H G' H' → EVok (kc X C) Z H G' H' v ev → Q v H'
      | _ => False) (fun z => z) q
    exact ⟨i, j, rep_int va, rep_int vb, giveI s q⟩⟩
abbrev opSub : EV → EV → Rz EV := opI (fun _ _ => true) fun i j => .int (i - j)
abbrev opMul : EV → EV → Rz EV := opI (fun i j => decide (i.natAbs < 18446744073709551616) || decide (j.natAbs < 18446744073709551616)) fun i j => .int (i * j)
abbrev opDiv : EV → EV → Rz EV := opI (fun _ j => decide (0 < j) && decide (j < 1073741824)) fun i j => .int (i / j)
abbrev opMod : EV → EV → Rz EV := opI (fun _ j => decide (0 < j)) fun i j => .int (i % j)
abbrev opPow : EV → EV → Rz EV := opI (fun i j => decide (0 ≤ j) && decide (j ≤ 1000000) && decide (i.natAbs < 2 ^ 64)) fun i j => .int (i ^ j.toNat)
theorem od_sub : OpD X C (binaryOp .Sub) opSub := od_I0 op_sub
theorem od_mul : OpD X C (binaryOp .Mult) opMul := od_I op_mul fun i j h => by
  simp only [Bool.or_eq_true, decide_eq_true_eq] at h
  unfold CMul
  rw [p64]
  omega
theorem od_div : OpD X C (binaryOp .FloorDiv) opDiv := od_I op_fdiv fun i j h => by
  simp only [Bool.and_eq_true, decide_eq_true_eq] at h; exact h
theorem od_mod : OpD X C (binaryOp .Mod) opMod := od_I op_mod fun i j h => by
  simp only [decide_eq_true_eq] at h; exact h
theorem od_pow : OpD X C (binaryOp .Pow) opPow := od_I op_pow fun i j h => by
  simp only [Bool.and_eq_true, decide_eq_true_eq] at h; exact ⟨h.1.1, h.1.2, h.2⟩
def strLt (a b : Str) : Bool := decide (a.cps.toList < b.cps.toList)
def opO (p : Int → Int → Bool) (r : Str → Str → Bool) (a b : EV) : Rz EV := match a, b with
  | .fz (.int i), .fz (.int j) => .ok (.fz (.bl (p i j)))
  | .fz (.str i), .fz (.str j) => .ok (.fz (.bl (r i j)))
  | _, _ => .stuck
@[simp] theorem opO_int (p : Int → Int → Bool) (r : Str → Str → Bool) (i j : Int) : opO p r (.fz (.int i)) (.fz (.int j)) = .ok (.fz (.bl (p i j))) := rfl
@[simp] theorem opO_str (p : Int → Int → Bool) (r : Str → Str → Bool) (i j : Str) : opO p r (.fz (.str i)) (.fz (.str j)) = .ok (.fz (.bl (r i j))) := rfl
theorem ne_opO {p : Int → Int → Bool} {r : Str → Str → Bool} : NoExc (opO p r) := ⟨fun a b e h => by
  unfold opO at h; split at h <;> cases h⟩
theorem od_O {f : Value → Value → Sem Value} {p : Int → Int → Bool} {r : Str → Str → Bool} (h1 : OpR X f (rI0 fun i j => .bl (p i j))) (h2 : OpR X f (fun x y H Q => ∃ i j, x = .str i ∧ y = .str j ∧ Q (.bl (r i j)) H)) : OpD X C f (opO p r) :=
  .of (OpR.or h1 h2) fun Z G H Hs x y a b ev Q s zh va vb hg q => by
    unfold opO at hg
    split at hg
    · cases hg; exact .inl ⟨_, _, rep_int va, rep_int vb, giveB s q⟩
    · cases hg; exact .inr ⟨_, _, rep_str va, rep_str vb, giveB s q⟩
    · cases hg
abbrev opLt : EV → EV → Rz EV := opO (fun i j => decide (i < j)) strLt
abbrev opLe : EV → EV → Rz EV := opO (fun i j => decide (i ≤ j)) fun i j => !strLt j i
abbrev opGt : EV → EV → Rz EV := opO (fun i j => decide (j < i)) fun i j => strLt j i
abbrev opGe : EV → EV → Rz EV := opO (fun i j => decide (j ≤ i)) fun i j => !strLt i j
theorem od_lt : OpD X C (compareOp .Lt) opLt := od_O op_lt op_lt_str
theorem od_le : OpD X C (compareOp .LtE) opLe := od_O op_le op_le_str
theorem od_gt : OpD X C (compareOp .Gt) opGt := od_O op_gt op_gt_str
theorem od_ge : OpD X C (compareOp .GtE) opGe := od_O op_ge op_ge_str
def lstOf : EV → Option (List D)
  | .fz (.lst ds) => some ds
  | .ow _ (.lst ds) => some ds
  | _ => none
@[simp] theorem lstOf_fz (ds : List D) : lstOf (.fz (.lst ds)) = some ds := rfl
@[simp] theorem lstOf_ow (n : Bool) (ds : List D) : lstOf (.ow n (.lst ds)) = some ds := rfl
theorem lstOf_ok {K : KC} {Z : Ent} {Hs G H : Hp} {v : V} {ev : EV} {ds : List D} (s : Sub G H) (h : lstOf ev = some ds) (k : EVok K Z Hs G H v ev) : ∃ p vs, v = .ref p ∧ H p = some (.lst vs) ∧ Reps K G vs ds := by
  unfold lstOf at h
  split at h
  · cases h
    cases k with
    | lst e r => exact ⟨_, _, rfl, s _ _ e, r⟩
  · cases h
    obtain ⟨p, rfl, ⟨vs, e, r⟩, _⟩ := k
    exact ⟨p, vs, rfl, e, r⟩
  · cases h
def opAdd (a b : EV) : Rz EV := match a, b with
  | .fz (.int i), .fz (.int j) => .ok (.fz (.int (i + j)))
  | .fz (.str i), .fz (.str j) => if i.length + j.length ≤ sizeLine then .ok (.fz (.str (i ++ j))) else .stuck
  | .fz (.tup i), .fz (.tup j) => if i.length + j.length ≤ sizeLine then .ok (.fz (.tup (i ++ j))) else .stuck
  | a, b => match lstOf a, lstOf b with
    | some i, some j => if i.length + j.length ≤ sizeLine then .ok (.ow true (.lst (i ++ j))) else .stuck
    | _, _ => .stuck
@[simp] theorem opAdd_int (i j : Int) : opAdd (.fz (.int i)) (.fz (.int j)) = .ok (.fz (.int (i + j))) := rfl
@[simp] theorem opAdd_str (i j : Str) : opAdd (.fz (.str i)) (.fz (.str j)) = if i.length + j.length ≤ sizeLine then .ok (.fz (.str (i ++ j))) else .stuck := rfl
@[simp] theorem opAdd_tup (i j : List D) : opAdd (.fz (.tup i)) (.fz (.tup j)) = if i.length + j.length ≤ sizeLine then .ok (.fz (.tup (i ++ j))) else .stuck := rfl
@[simp] theorem opAdd_ff (i j : List D) : opAdd (.fz (.lst i)) (.fz (.lst j)) = if i.length + j.length ≤ sizeLine then .ok (.ow true (.lst (i ++ j))) else .stuck := rfl
@[simp] theorem opAdd_fo (n : Bool) (i j : List D) : opAdd (.fz (.lst i)) (.ow n (.lst j)) = if i.length + j.length ≤ sizeLine then .ok (.ow true (.lst (i ++ j))) else .stuck := rfl
@[simp] theorem opAdd_of (n : Bool) (i j : List D) : opAdd (.ow n (.lst i)) (.fz (.lst j)) = if i.length + j.length ≤ sizeLine then .ok (.ow true (.lst (i ++ j))) else .stuck := rfl
@[simp] theorem opAdd_oo (n m : Bool) (i j : List D) : opAdd (.ow n (.lst i)) (.ow m (.lst j)) = if i.length + j.length ≤ sizeLine then .ok (.ow true (.lst (i ++ j))) else .stuck := rfl
theorem ne_add : NoExc opAdd := ⟨fun a b e h => by
  unfold opAdd at h
  split at h
  · cases h
  · split at h <;> cases h
  · split at h <;> cases h
  · split at h
    · split at h <;> cases h
    · cases h⟩
theorem od_add : OpD X C (binaryOp .Add) opAdd :=
  .of (OpR.or op_add (OpR.or op_add_str (OpR.or op_catA op_cat))) fun Z G H Hs x y a b ev Q s zh va vb hg q => by
    unfold opAdd at hg
    split at hg
    · cases hg; exact .inl ⟨_, _, rep_int va, rep_int vb, giveI s q⟩
    · split at hg
      · rename_i hz
        cases hg
        exact .inr (.inl ⟨_, _, rep_str va, rep_str vb, hz, giveS s q⟩)
      · cases hg
    · rename_i i j
      split at hg
      · rename_i hz
        cases hg
        refine .inr (.inr (.inl ?_))
        have va' : Rep (kc X C) G x (.tup i) := va
        have vb' : Rep (kc X C) G y (.tup j) := vb
        cases va' with
        | @tup p us _ sq r =>
          cases vb' with
          | @tup p' us' _ sq' r' =>
            refine ⟨p, p', us, us', rfl, rfl, s.sqT sq, s.sqT sq', by rw [r.length, r'.length]; exact hz, fun e => ?_, fun _ e => ?_, fun _ _ => giveT s (r.append r') q⟩
            · subst e
              cases r
              exact q _ G H (.refl s) (.tup sq' r')
            · subst e
              cases r'
              rw [List.append_nil] at q
              exact q _ G H (.refl s) (.tup sq r)
      · cases hg
    · split at hg
      · rename_i i j hi hj
        split at hg
        · rename_i hz
          cases hg
          obtain ⟨p, us, rfl, e, r⟩ := lstOf_ok s hi va
          obtain ⟨p', us', rfl, e', r'⟩ := lstOf_ok s hj vb
          exact .inr (.inr (.inr ⟨p, p', us, us', rfl, rfl, e, e', by rw [r.length, r'.length]; exact hz, giveL s zh (r.append r') q⟩))
        · cases hg
      · cases hg

def flatD : D → Bool
  | .int _ | .str _ | .non => true
  | _ => false
def eqF : D → D → Bool
  | .int i, .int j => decide (i = j)
  | .str i, .str j => decide (i = j)
  | .non, .non => true
  | _, _ => false
theorem flat_of {K : KC} {G : Hp} {v : V} {d : D} (r : Rep K G v d) (h : flatD d = true) : flatV v = true := by
  cases r <;> first | rfl | (cases h)
theorem flats_of {K : KC} {G : Hp} : ∀ {vs : List V} {ds : List D}, Reps K G vs ds → ds.all flatD = true → vs.all flatV = true
  | _, _, .nil, _ => rfl
  | _, _, .cons a b, h => by
    rw [List.all_cons, Bool.and_eq_true] at h ⊢
    exact ⟨flat_of a h.1, flats_of b h.2⟩
theorem eqF_of {K : KC} {G : Hp} {v u : V} {d e : D} (r : Rep K G v d) (r' : Rep K G u e) (h : flatD d = true) (h' : flatD e = true) : eqV v u = eqF d e := by
  cases r <;> first | (cases h; done) | skip
  all_goals (cases r' <;> first | (cases h'; done) | rfl | simp [eqV, eqF])
theorem inF_of {K : KC} {G : Hp} {v : V} {d : D} (r : Rep K G v d) (h : flatD d = true) : ∀ {vs : List V} {ds : List D}, Reps K G vs ds → ds.all flatD = true → inV v vs = ds.any fun e => eqF e d
  | _, _, .nil, _ => rfl
  | _, _, .cons a b, k => by
    rw [List.all_cons, Bool.and_eq_true] at k
    show (eqV _ v || inV v _) = _
    rw [List.any_cons, eqF_of a r k.1 h, inF_of r h b k.2]
def inDs (x : D) (ds : List D) (isList : Bool) : Option Bool :=
  if flatD x = true ∧ ds.all flatD = true then some (ds.any fun e => eqF e x)
  else if isList = true ∧ SeqAt.shaped (toPy x) = true ∧ SeqAt.shaped (.list (toPys ds)) = true then some ((toPys ds).any fun e => PyData.eqv e (toPy x)) else none
def sign? (y : Str) : Option Nat := match y.cps.toList with
  | [c] => some c
  | _ => none
theorem sign_of {y : Str} {c : Nat} (h : sign? y = some c) : y = ⟨#[c]⟩ := by
  unfold sign? at h
  split at h
  · rename_i c2 e
    injection h with h
    subst h
    cases y with
    | mk a =>
      have : a = #[c2] := by
        apply Array.toList_inj.mp
        exact e
      rw [this]
  · cases h
@[simp] theorem sign?_one (c : Nat) : sign? ⟨#[c]⟩ = some c := rfl
def inD (a b : EV) : Option Bool := match b.d with
  | .lst ds => inDs a.d ds true
  | .tup ds => inDs a.d ds false
  | .str z => match a.d with
    | .str y => (sign? y).map fun c => decide (c ∈ z.cps.toList)
    | _ => none
  | _ => none
def opIn (a b : EV) : Rz EV := orStuck (inD a b) >>= fun k => .ok (.fz (.bl k))
def opNi (a b : EV) : Rz EV := orStuck (inD a b) >>= fun k => .ok (.fz (.bl (!k)))
theorem ne_in : NoExc opIn := ⟨fun a b e => noexc_bind (fun _ _ z => by cases z) e⟩
theorem ne_ni : NoExc opNi := ⟨fun a b e => noexc_bind (fun _ _ z => by cases z) e⟩
end
end DL
namespace DL
open PySem PySem.Spec PyProof.Rows L2
section
variable {X : Cx} {C : Str → Option Addr} {W : WX}
theorem canLayAll_map {ds : List D} (h : SeqAt.shaped (.list (toPys ds)) = true) : PyData.canLayAll0 (toPys ds) = true := SeqAt.canLay_of_shaped h
def rInA (K : PySem.W.Frag) (neg : Bool) : R2 := fun x y H Q => ∃ k, Q (.bl (if neg then !k else k)) H ∧
  ((∃ p xs, y = .ref p ∧ (SqL K H p xs ∨ SqT K H p xs) ∧ flatV x = true ∧ xs.all flatV = true ∧ k = inV x xs) ∨
   (∃ d ds, Dp K H x d ∧ Dp K H y (.list ds) ∧ SeqAt.shaped d = true ∧ SeqAt.shaped (.list ds) = true ∧ k = ds.any fun z => PyData.eqv z d) ∨
   (∃ (c : Nat) (z : Str), x = .str ⟨#[c]⟩ ∧ y = .str z ∧ k = decide (c ∈ z.cps.toList)))
theorem op_inA (hu : X.A.units + 65 < cLine) : OpR X (compareOp .In) (rInA X.K false) := by
  intro pins s σ H x y v u Q I rx ry ⟨k, q, h⟩
  rcases h with ⟨p, xs, h1, h2, h3, h4, rfl⟩ | ⟨d, ds, h1, h2, h3, h4, rfl⟩ | ⟨c, z, h1, h2, rfl⟩
  · exact op_in_seq pins s σ H x y v u Q I rx ry ⟨p, xs, h1, h2, h3, h4, q⟩
  · exact op_inD hu pins s σ H x y v u Q I rx ry ⟨d, ds, h1, h2, h3, h4, q⟩
  · exact op_in_sign pins s σ H x y v u Q I rx ry ⟨c, z, h1, h2, q⟩
theorem op_niA (hu : X.A.units + 65 < cLine) : OpR X (compareOp .NotIn) (rInA X.K true) := by
  intro pins s σ H x y v u Q I rx ry ⟨k, q, h⟩
  rcases h with ⟨p, xs, h1, h2, h3, h4, rfl⟩ | ⟨d, ds, h1, h2, h3, h4, rfl⟩ | ⟨c, z, h1, h2, rfl⟩
  · exact op_notIn_seq pins s σ H x y v u Q I rx ry ⟨p, xs, h1, h2, h3, h4, q⟩
  · exact op_notInD hu pins s σ H x y v u Q I rx ry ⟨d, ds, h1, h2, h3, h4, q⟩
  · exact op_notIn_sign pins s σ H x y v u Q I rx ry ⟨c, z, h1, h2, q⟩
theorem in_core {K : KC} {H : Hp} {x y : V} {a b : EV} {k : Bool} (ra : Rep K H x a.d) (rb : Rep K H y b.d) (h : inD a b = some k) :
    (∃ p xs, y = .ref p ∧ (SqL K.K H p xs ∨ SqT K.K H p xs) ∧ flatV x = true ∧ xs.all flatV = true ∧ k = inV x xs) ∨
    (∃ d ds, Dp K.K H x d ∧ Dp K.K H y (.list ds) ∧ SeqAt.shaped d = true ∧ SeqAt.shaped (.list ds) = true ∧ k = ds.any fun z => PyData.eqv z d) ∨
    (∃ (c : Nat) (z : Str), x = .str ⟨#[c]⟩ ∧ y = .str z ∧ k = decide (c ∈ z.cps.toList)) := by
  unfold inD at h
  cases hb : b.d with
  | lst ds =>
    rw [hb] at h rb
    cases rb with
    | @lst p us _ e r =>
      dsimp only at h
      unfold inDs at h
      split at h
      · rename_i z
        cases h
        exact .inl ⟨p, us, rfl, .inl (.of e), flat_of ra z.1, flats_of r z.2, (inF_of ra z.1 r z.2).symm⟩
      · split at h
        · rename_i z
          cases h
          exact .inr (.inl ⟨_, _, dp_of ra (SeqAt.canLay_of_shaped z.2.1), .lst (.of e) (dps_of r (canLayAll_map z.2.2)), z.2.1, z.2.2, rfl⟩)
        · cases h
  | tup ds =>
    rw [hb] at h rb
    cases rb with
    | @tup p us _ e r =>
      dsimp only at h
      unfold inDs at h
      split at h
      · rename_i z
        cases h
        exact .inl ⟨p, us, rfl, .inr e, flat_of ra z.1, flats_of r z.2, (inF_of ra z.1 r z.2).symm⟩
      · split at h
        · rename_i z
          exact absurd z.1 (by simp)
        · cases h
  | str z =>
    rw [hb] at h rb
    dsimp only at h
    split at h
    · rename_i y hc
      cases hy : sign? y with
      | none => rw [hy] at h; cases h
      | some c =>
        rw [hy] at h
        cases h
        rw [hc, sign_of hy] at ra
        exact .inr (.inr ⟨c, z, rep_str ra, rep_str rb, rfl⟩)
    · cases h
  | non => rw [hb] at h; cases h
  | bl _ => rw [hb] at h; cases h
  | int _ => rw [hb] at h; cases h
  | scr _ => rw [hb] at h; cases h
  | dct _ => rw [hb] at h; cases h
  | ins _ _ => rw [hb] at h; cases h
  | cls _ => rw [hb] at h; cases h
  | ty _ => rw [hb] at h; cases h
theorem od_in (hu : X.A.units + 65 < cLine) : OpD X C (compareOp .In) opIn :=
  .of (op_inA hu) fun Z G H Hs x y a b ev Q s zh va vb hg q => by
    unfold opIn at hg
    cases h : inD a b with
    | none => rw [h] at hg; cases hg
    | some k =>
      rw [h] at hg
      cases hg
      exact ⟨k, giveB s q, in_core (va.rep s) (vb.rep s) h⟩
theorem od_ni (hu : X.A.units + 65 < cLine) : OpD X C (compareOp .NotIn) opNi :=
  .of (op_niA hu) fun Z G H Hs x y a b ev Q s zh va vb hg q => by
    unfold opNi at hg
    cases h : inD a b with
    | none => rw [h] at hg; cases hg
    | some k =>
      rw [h] at hg
      cases hg
      exact ⟨k, giveB s q, in_core (va.rep s) (vb.rep s) h⟩
def isNon : D → Bool
  | .non => true
  | _ => false
def opIs (a b : EV) : Rz EV := match b with
  | .fz .non => .ok (.fz (.bl (isNon a.d)))
  | _ => .stuck
def opIsn (a b : EV) : Rz EV := match b with
  | .fz .non => .ok (.fz (.bl (!isNon a.d)))
  | _ => .stuck
theorem ne_is : NoExc opIs := ⟨fun a b e h => by unfold opIs at h; split at h <;> cases h⟩
theorem ne_isn : NoExc opIsn := ⟨fun a b e h => by unfold opIsn at h; split at h <;> cases h⟩
theorem non_core {K : KC} {H : Hp} {x : V} {d : D} (r : Rep K H x d) : decide (x = .non) = isNon d := by cases r <;> first | rfl | simp
theorem od_is : OpD X C (compareOp .Is) opIs :=
  .of op_isN fun Z G H Hs x y a b ev Q s zh va vb hg q => by
    unfold opIs at hg
    split at hg
    · cases hg
      refine ⟨rep_non vb, ?_⟩
      rw [non_core (va.rep s)]
      exact giveB s q
    · cases hg
theorem od_isn : OpD X C (compareOp .IsNot) opIsn :=
  .of op_notN fun Z G H Hs x y a b ev Q s zh va vb hg q => by
    unfold opIsn at hg
    split at hg
    · cases hg
      refine ⟨rep_non vb, ?_⟩
      rw [non_core (va.rep s)]
      exact giveB s q
    · cases hg

def atD (xs : List D) (i : Int) : Option D := atI xs i
def ixD (a b : EV) : Option D := match b with
  | .fz (.int i) => (match a with
    | .fz (.lst ds) => atI ds i
    | .ow _ (.lst ds) => atI ds i
    | .fz (.tup ds) => atI ds i
    | .fz (.scr ns) => (atI ns i).map .int
    | .fz (.str z) => if z.length ≤ sizeLine then (atI z.cps.toList i).map fun c => .str ⟨#[c]⟩ else none
    | _ => none)
  | _ => none
def opIx (a b : EV) : Rz EV := orStuck (ixD a b) >>= fun d => .ok (.fz d)
theorem ne_ix : NoExc opIx := ⟨fun a b e => noexc_bind (fun _ _ z => by cases z) e⟩
theorem atI_reps {K : KC} {G : Hp} {vs : List V} {ds : List D} {i : Int} {d : D} (r : Reps K G vs ds) (h : atI ds i = some d) : ∃ v, atI vs i = some v ∧ Rep K G v d := by
  unfold atI at h ⊢
  rw [r.length]
  cases q : ixN ds.length i with
  | none => rw [q] at h; cases h
  | some j =>
    rw [q] at h
    obtain ⟨v, h1, h2⟩ := r.get (i := j) h
    exact ⟨v, h1, h2⟩
theorem atI_map {α β : Type} (f : α → β) (xs : List α) (i : Int) : atI (xs.map f) i = (atI xs i).map f := by
  unfold atI
  rw [List.length_map]
  cases ixN xs.length i with
  | none => rfl
  | some j => simp
theorem de_ix {a b : Expr} {ma mb : Env → Rz EV} {pos : Pos} (ha : DE X C W a ma) (hb : DE X C W b mb) (hs : PlainIx b := by exact fun _ _ => rfl) : DE X C W (.Subscript a b pos) (m2 ma mb opIx) :=
  ⟨PE.imp (pe_ix ix_seq ha.pe hb.pe hs) fun σ H Q h => two_go (r := rIx X.K) (fun Z G H Hs x y a b Q s zh va vb q => by
    unfold opIx at q
    cases hg : ixD a b with
    | none => rw [hg] at q; exact q.elim
    | some d =>
      rw [hg] at q
      have q : ∀ v G' H', Ext G H G' H' → Rep (kc X C) G' v d → Q v H' := fun v G' H' x r => q v G' H' x r
      unfold ixD at hg
      split at hg
      · rename_i i
        have hy : y = .int i := rep_int vb
        split at hg
        · rename_i ds
          have va' : Rep (kc X C) G x (.lst ds) := va
          cases va' with
          | @lst p us _ e r =>
            obtain ⟨v, h1, h2⟩ := atI_reps r hg
            exact .inl ⟨p, us, i, v, rfl, hy, .of (s _ _ e), h1, q v G H (.refl s) h2⟩
        · obtain ⟨p, e, ⟨us, e', r⟩, _⟩ := va
          obtain ⟨v, h1, h2⟩ := atI_reps r hg
          exact .inl ⟨p, us, i, v, e, hy, .of e', h1, q v G H (.refl s) h2⟩
        · rename_i ds
          have va' : Rep (kc X C) G x (.tup ds) := va
          cases va' with
          | @tup p us _ e r =>
            obtain ⟨v, h1, h2⟩ := atI_reps r hg
            exact .inr (.inl ⟨p, us, i, v, rfl, hy, s.sqT e, h1, q v G H (.refl s) h2⟩)
        · rename_i ns
          have va' : Rep (kc X C) G x (.scr ns) := va
          cases va' with
          | @scr p _ e =>
            cases hn : atI ns i with
            | none => rw [hn] at hg; cases hg
            | some n =>
              rw [hn] at hg
              cases hg
              exact .inl ⟨p, _, i, .int n, rfl, hy, s.sqL e, by rw [atI_map, hn]; rfl, q _ G H (.refl s) (.int n)⟩
        · rename_i z
          split at hg
          · rename_i hz
            cases hn : atI z.cps.toList i with
            | none => rw [hn] at hg; cases hg
            | some n =>
              rw [hn] at hg
              cases hg
              exact .inr (.inr ⟨z, i, n, rep_str va, hy, hz, hn, q _ G H (.refl s) (.str _)⟩)
          · cases hg
        · cases hg
      · cases hg) ne_ix.no h⟩

def CallD (X : Cx) (C : Str → Option Addr) (f : Value) (g : List EV → Rz EV) : Prop :=
  ∃ r : List V → Hp → VK → Prop, CallR X f r ∧ ∀ (Z : Ent) (G H Hs : Hp) (vs : List V) (evs : List EV) (ev : EV) (Q : VK), Sub G H → Sub Z.H H → EVs (kc X C) Z Hs G H vs evs → g evs = .ok ev →
    (∀ v G' H', Ext G H G' H' → EVok (kc X C) Z H G' H' v ev → Q v H') → r vs H Q
def mCall (a : Env → Rz (List EV)) (g : List EV → Rz EV) : Env → Rz EV := fun env => a env >>= fun xs => g xs
structure NoExcL (g : List EV → Rz EV) : Prop where
  no : ∀ a e, g a ≠ .exc e
theorem callD_go {r : List V → Hp → VK → Prop} {m : Env → Rz (List EV)} {g : List EV → Rz EV} {σ : L2.St} {H : Hp} {Q : VK} (ng : NoExcL g) (hr : ∀ (Z : Ent) (G H Hs : Hp) (vs : List V) (evs : List EV) (ev : EV) (Q : VK), Sub G H → Sub Z.H H → EVs (kc X C) Z Hs G H vs evs → g evs = .ok ev →
    (∀ v G' H', Ext G H G' H' → EVok (kc X C) Z H G' H' v ev → Q v H') → r vs H Q) (h : tE (kc X C) W (mCall m g) σ H Q) : tCB r (tA (kc X C) W m) σ H Q :=
  tA_seq (f := fun xs _ => g xs) h fun Z G1 H1 env vs a er va hs q => by
    cases hg : g a with
    | ok ev => rw [hg] at q; exact hr Z G1 H1 H vs a ev Q er.sub er.zh va hg q
    | exc e => exact absurd hg (ng.no a e)
    | stuck => rw [hg] at q; exact q.elim
theorem de_callB {x : Str} {id : String} {p pos : Pos} {e : Expr} {es : List Expr} {m : Env → Rz (List EV)} {g : List EV → Rz EV} (hc : CallD X C (.builtin id) g) (ng : NoExcL g) (hm : X.mg x = none) (hv : bootBuiltins x = some (.builtin id)) (ha : DA X C W (e :: es) m) (hg : Gl X x := by rfl) (hn : x ≠ "__name__" := by decide) (hdb : (x == ("__debug__" : Str)) = false := by decide)
    (he : starEach (e :: es) X.env = (false, eval e X.env) :: starEach es X.env := by rfl) (hpl : (backTo pos (starEach es X.env)).any (·.1) = false := by rfl) : DE X C W (.Call (.Name x p) (e :: es) [] pos) (mCall m g) := by
  obtain ⟨r, h1, h2⟩ := hc
  exact ⟨PE.imp (pe_callB h1 hg hm hv ha.pa hn hdb he hpl) fun σ H Q h => callD_go ng h2 h⟩
theorem de_callTy {x : Str} {T : String} {p pos : Pos} {e : Expr} {es : List Expr} {m : Env → Rz (List EV)} {g : List EV → Rz EV} (hc : CallD X C (.type T) g) (ng : NoExcL g) (hm : X.mg x = none) (hv : bootBuiltins x = some (.type T)) (ha : DA X C W (e :: es) m) (hg : Gl X x := by rfl) (hn : x ≠ "__name__" := by decide) (hdb : (x == ("__debug__" : Str)) = false := by decide)
    (he : starEach (e :: es) X.env = (false, eval e X.env) :: starEach es X.env := by rfl) (hpl : (backTo pos (starEach es X.env)).any (·.1) = false := by rfl) : DE X C W (.Call (.Name x p) (e :: es) [] pos) (mCall m g) := by
  obtain ⟨r, h1, h2⟩ := hc
  exact ⟨PE.imp (pe_callTy h1 hg hm hv ha.pa hn hdb he hpl) fun σ H Q h => callD_go ng h2 h⟩
def g1 (f : D → Option D) : List EV → Rz EV
  | [a] => orStuck (f a.d) >>= fun d => .ok (.fz d)
  | _ => .stuck
@[simp] theorem g1_one (f : D → Option D) (a : EV) : g1 f [a] = orStuck (f a.d) >>= fun d => .ok (.fz d) := rfl
theorem ne_g1 {f : D → Option D} : NoExcL (g1 f) := ⟨fun a e h => by
  unfold g1 at h
  split at h
  · exact noexc_bind (fun _ _ z => by cases z) e h
  · cases h⟩
theorem cd_g1 {fv : Value} {f : D → Option D} {r : List V → Hp → VK → Prop} (hr : CallR X fv r) (h : ∀ (H : Hp) (x : V) (a d : D) (Q : VK), Rep (kc X C) H x a → f a = some d → (∀ v G, Rep (kc X C) G v d → Q v H) → r [x] H Q) (hs : ∀ a d, f a = some d → (∃ i, d = .int i) ∨ (∃ i, d = .bl i) ∨ (∃ i, d = .str i)) : CallD X C fv (g1 f) :=
  ⟨r, hr, fun Z G H Hs vs evs ev Q s zh va hg q => by
    unfold g1 at hg
    split at hg
    · rename_i a
      obtain ⟨v, rfl, k⟩ := evs1 va
      cases hf : f a.d with
      | none => rw [hf] at hg; cases hg
      | some d =>
        rw [hf] at hg
        cases hg
        refine h H v a.d d Q (k.rep s) hf fun u G' ru => ?_
        have ru' : Rep (kc X C) G u d := by
          rcases hs _ _ hf with ⟨i, rfl⟩ | ⟨i, rfl⟩ | ⟨i, rfl⟩
          · rw [rep_int ru]; exact .int i
          · rw [rep_bl ru]; exact .bl i
          · rw [rep_str ru]; exact .str i
        exact q u G H (.refl s) ru'
    · cases hg⟩
def lenD : D → Option D
  | .lst ds => some (.int ds.length)
  | .tup ds => some (.int ds.length)
  | .scr ns => some (.int ns.length)
  | .str z => if z.length ≤ sizeLine then some (.int z.length) else none
  | _ => none
abbrev gLen := g1 lenD
theorem cd_len : CallD X C (.builtin "len") gLen := cd_g1 call_len (fun H x a d Q r h q => by
    unfold lenD at h
    split at h
    · cases h
      cases r with
      | @lst p us ds e r => exact ⟨_, us.length, rfl, .inl ⟨us, .of e, rfl⟩, by rw [r.length]; exact q _ H (.int _)⟩
    · cases h
      cases r with
      | @tup p us ds e r => exact ⟨_, us.length, rfl, .inr ⟨us, e, rfl⟩, by rw [r.length]; exact q _ H (.int _)⟩
    · cases h
      cases r with
      | @scr p ns e => exact ⟨_, _, rfl, .inl ⟨_, e, rfl⟩, by rw [List.length_map]; exact q _ H (.int _)⟩
    · rename_i z
      split at h
      · rename_i hz
        cases h
        cases r
        exact ⟨_, z.length, rfl, ⟨hz, rfl⟩, q _ H (.int _)⟩
      · cases h
    · cases h) fun a d h => by
  unfold lenD at h
  split at h <;> first | (cases h; exact .inl ⟨_, rfl⟩) | skip
  · split at h
    · cases h; exact .inl ⟨_, rfl⟩
    · cases h
  · cases h
def absD : D → Option D
  | .int i => some (.int (if i < 0 then -i else i))
  | _ => none
abbrev gAbs := g1 absD
theorem cd_abs : CallD X C (.builtin "abs") gAbs := cd_g1 call_abs (fun H x a d Q r h q => by
    unfold absD at h
    split at h
    · cases h
      cases r
      exact ⟨_, rfl, q _ H (.int _)⟩
    · cases h) fun a d h => by
  unfold absD at h
  split at h
  · cases h; exact .inl ⟨_, rfl⟩
  · cases h
def intD : D → Option D
  | .int i => some (.int i)
  | .bl b => some (.int (if b then 1 else 0))
  | _ => none
abbrev gInt := g1 intD
theorem cd_int : CallD X C (.type "int") gInt := cd_g1 call_int1 (fun H x a d Q r h q => by
    unfold intD at h
    split at h
    · cases h
      cases r
      exact .inl ⟨_, rfl, q _ H (.int _)⟩
    · cases h
      cases r
      exact .inr ⟨_, rfl, q _ H (.int _)⟩
    · cases h) fun a d h => by
  unfold intD at h
  split at h
  · cases h; exact .inl ⟨_, rfl⟩
  · cases h; exact .inl ⟨_, rfl⟩
  · cases h
def gMM (f : Int → Int → Int) : List EV → Rz EV
  | [.fz (.int i), .fz (.int j)] => .ok (.fz (.int (f i j)))
  | _ => .stuck
@[simp] theorem gMM_two (f : Int → Int → Int) (i j : Int) : gMM f [.fz (.int i), .fz (.int j)] = .ok (.fz (.int (f i j))) := rfl
theorem ne_gMM {f : Int → Int → Int} : NoExcL (gMM f) := ⟨fun a e h => by unfold gMM at h; split at h <;> cases h⟩
abbrev gMax := gMM fun i j => if j > i then j else i
abbrev gMin := gMM fun i j => if j < i then j else i
theorem cd_max (hc : X.calm = true) : CallD X C (.builtin "max") gMax := ⟨_, call_max2 hc, fun Z G H Hs vs evs ev Q s zh va hg q => by
  unfold gMax gMM at hg
  split at hg
  · cases hg
    obtain ⟨v, u, rfl, k, l⟩ := evs2 va
    exact ⟨_, _, by rw [rep_int k, rep_int l], giveI s q⟩
  · cases hg⟩
theorem cd_min (hc : X.calm = true) : CallD X C (.builtin "min") gMin := ⟨_, call_min2 hc, fun Z G H Hs vs evs ev Q s zh va hg q => by
  unfold gMin gMM at hg
  split at hg
  · cases hg
    obtain ⟨v, u, rfl, k, l⟩ := evs2 va
    exact ⟨_, _, by rw [rep_int k, rep_int l], giveI s q⟩
  · cases hg⟩
def bls : List D → Option (List Bool)
  | [] => some []
  | .bl b :: r => (bls r).map (b :: ·)
  | _ :: _ => none
theorem bls_ok : ∀ {ds : List D} {bs : List Bool}, bls ds = some bs → ds = bs.map D.bl
  | [], _, h => by cases h; rfl
  | .bl b :: r, bs, h => by
    have h' : (bls r).map (b :: ·) = some bs := h
    cases q : bls r with
    | none => rw [q] at h'; cases h'
    | some cs => rw [q] at h'; cases h'; rw [bls_ok q]; rfl
  | .non :: _, _, h | .int _ :: _, _, h | .str _ :: _, _, h | .tup _ :: _, _, h | .lst _ :: _, _, h | .scr _ :: _, _, h | .dct _ :: _, _, h | .ins _ _ :: _, _, h | .cls _ :: _, _, h | .ty _ :: _, _, h => by cases h
@[simp] theorem bls_map : ∀ bs : List Bool, bls (bs.map D.bl) = some bs
  | [] => rfl
  | b :: r => by show (bls (r.map D.bl)).map (b :: ·) = _; rw [bls_map r]; rfl
def allD (f : List Bool → Bool) : D → Option D
  | .lst ds => (bls ds).map fun bs => .bl (f bs)
  | _ => none
abbrev gAll := g1 (allD fun bs => bs.all id)
abbrev gAny := g1 (allD fun bs => bs.any id)
theorem allD_inv {f : List Bool → Bool} {a d : D} (h : allD f a = some d) : ∃ bs : List Bool, a = .lst (bs.map D.bl) ∧ d = .bl (f bs) := by
  unfold allD at h
  split at h
  · rename_i ds
    cases q : bls ds with
    | none => rw [q] at h; cases h
    | some bs => rw [q] at h; cases h; exact ⟨bs, by rw [bls_ok q], rfl⟩
  · cases h
theorem cd_all (hc : X.calm = true) : CallD X C (.builtin "all") gAll := cd_g1 (cr_all hc) (fun H x a d Q r h q => by
    obtain ⟨bs, rfl, rfl⟩ := allD_inv h
    cases r with
    | @lst p us ds e r => rw [Reps.of_bls r] at e; exact ⟨p, bs, rfl, .of e, q _ H (.bl _)⟩) fun a d h => by
  obtain ⟨bs, rfl, rfl⟩ := allD_inv h
  exact .inr (.inl ⟨_, rfl⟩)
theorem cd_any (hc : X.calm = true) : CallD X C (.builtin "any") gAny := cd_g1 (cr_any hc) (fun H x a d Q r h q => by
    obtain ⟨bs, rfl, rfl⟩ := allD_inv h
    cases r with
    | @lst p us ds e r => rw [Reps.of_bls r] at e; exact ⟨p, bs, rfl, .of e, q _ H (.bl _)⟩) fun a d h => by
  obtain ⟨bs, rfl, rfl⟩ := allD_inv h
  exact .inr (.inl ⟨_, rfl⟩)

def strsD : List D → Option (List Str)
  | [] => some []
  | .str b :: r => (strsD r).map (b :: ·)
  | _ :: _ => none
theorem strsD_ok : ∀ {ds : List D} {bs : List Str}, strsD ds = some bs → ds = bs.map D.str
  | [], _, h => by cases h; rfl
  | .str b :: r, bs, h => by
    have h' : (strsD r).map (b :: ·) = some bs := h
    cases q : strsD r with
    | none => rw [q] at h'; cases h'
    | some cs => rw [q] at h'; cases h'; rw [strsD_ok q]; rfl
  | .non :: _, _, h | .int _ :: _, _, h | .bl _ :: _, _, h | .tup _ :: _, _, h | .lst _ :: _, _, h | .scr _ :: _, _, h | .dct _ :: _, _, h | .ins _ _ :: _, _, h | .cls _ :: _, _, h | .ty _ :: _, _, h => by cases h
@[simp] theorem strsD_map : ∀ bs : List Str, strsD (bs.map D.str) = some bs
  | [] => rfl
  | b :: r => by show (strsD (r.map D.str)).map (b :: ·) = _; rw [strsD_map r]; rfl
def joinD (s : Str) (xs : List D) : Rz EV := orStuck (strsD xs) >>= fun ys => if (ys.map (·.length)).sum + ys.length * s.length ≤ 16777216 then .ok (.fz (.str (Txt.join s ys))) else .stuck
theorem joinD_inv {s : Str} {xs : List D} {ev : EV} (h : joinD s xs = .ok ev) : ∃ ys : List Str, xs = ys.map D.str ∧ (ys.map (·.length)).sum + ys.length * s.length ≤ 16777216 ∧ ev = .fz (.str (Txt.join s ys)) := by
  unfold joinD at h
  cases q : strsD xs with
  | none => rw [q] at h; cases h
  | some ys =>
    rw [q] at h
    simp only [orStuck_some, Rz.ok_bind] at h
    split at h
    · rename_i hz; cases h; exact ⟨ys, strsD_ok q, hz, rfl⟩
    · cases h
theorem joinD_exc {s : Str} {xs : List D} {e : Exn} : joinD s xs ≠ .exc e := noexc_bind (fun ys e => by split <;> (intro z; cases z)) e
def isS : EV → Rz Str
  | .fz (.str s) => .ok s
  | _ => .stuck
@[simp] theorem isS_str (s : Str) : isS (.fz (.str s)) = .ok s := rfl
def mM1 (ma mb : Env → Rz EV) (g : Str → EV → Rz EV) : Env → Rz EV := fun env => ma env >>= fun a => isS a >>= fun s => mb env >>= fun b => g s b
def mM0 (ma : Env → Rz EV) (g : Str → Rz EV) : Env → Rz EV := fun env => ma env >>= fun a => isS a >>= fun s => g s
def M1D (X : Cx) (C : Str → Option Addr) (r : V → List V → Hp → VK → Prop) (g : Str → EV → Rz EV) : Prop :=
  (∀ s b e, g s b ≠ .exc e) ∧ ∀ (Z : Ent) (G H Hs : Hp) (s : Str) (y : V) (b ev : EV) (Q : VK), Sub G H → Sub Z.H H → EVok (kc X C) Z Hs G H y b → g s b = .ok ev → (∀ v G' H', Ext G H G' H' → EVok (kc X C) Z H G' H' v ev → Q v H') → r (.str s) [y] H Q
theorem m1_go {ma mb : Env → Rz EV} {g : Str → EV → Rz EV} {r : V → List V → Hp → VK → Prop} {σ : L2.St} {H : Hp} {Q : VK} (hr : M1D X C r g)
    (h : tE (kc X C) W (mM1 ma mb g) σ H Q) : tM1 r (tE (kc X C) W ma) (tE (kc X C) W mb) σ H Q := by
  obtain ⟨ng, hr⟩ := hr
  obtain ⟨Z, G, env, er, q⟩ := h
  unfold mM1 at q
  refine ⟨Z, G, env, er, ?_⟩
  cases ha : ma env with
  | stuck => rw [ha] at q; exact q.elim
  | exc e => rw [ha] at q; exact q
  | ok a =>
    rw [ha] at q
    simp only [Rz.ok_bind] at q
    intro x G1 H1 x1 va
    cases hs : isS a with
    | stuck => rw [hs] at q; exact q.elim
    | exc e => unfold isS at hs; split at hs <;> cases hs
    | ok s =>
      have hsa : a = .fz (.str s) := by
        unfold isS at hs
        split at hs
        · cases hs; rfl
        · cases hs
      subst hsa
      have hx : x = .str s := rep_str va
      subst hx
      rw [hs] at q
      simp only [Rz.ok_bind] at q
      refine ⟨⟨s, rfl⟩, Z, G1, env, er.ext x1, ?_⟩
      cases hb : mb env with
      | stuck => rw [hb] at q; exact q.elim
      | exc e => rw [hb] at q; exact fun cls d G' H' x2 => q cls d G' H' (x1.trans x2)
      | ok b =>
        rw [hb] at q
        simp only [Rz.ok_bind] at q
        intro y G2 H2 x2 vb
        cases hg : g s b with
        | stuck => rw [hg] at q; exact q.elim
        | exc e => exact absurd hg (ng s b e)
        | ok ev =>
          rw [hg] at q
          exact hr Z G2 H2 H1 s y b ev Q x2.s (er.zh.trans (x1.h.trans x2.h)) vb hg fun v G' H' x3 ve => q v G' H' ((x1.trans x2).trans x3) (ve.start (x1.h.trans x2.h))
def M0D (X : Cx) (C : Str → Option Addr) (r : V → List V → Hp → VK → Prop) (g : Str → Rz EV) : Prop :=
  (∀ s e, g s ≠ .exc e) ∧ ∀ (Z : Ent) (G H : Hp) (s : Str) (ev : EV) (Q : VK), Sub G H → Sub Z.H H → g s = .ok ev → (∀ v G' H', Ext G H G' H' → EVok (kc X C) Z H G' H' v ev → Q v H') → r (.str s) [] H Q
theorem m0_go {ma : Env → Rz EV} {g : Str → Rz EV} {r : V → List V → Hp → VK → Prop} {σ : L2.St} {H : Hp} {Q : VK} (hr : M0D X C r g)
    (h : tE (kc X C) W (mM0 ma g) σ H Q) : tM0 r (tE (kc X C) W ma) σ H Q := by
  obtain ⟨ng, hr⟩ := hr
  obtain ⟨Z, G, env, er, q⟩ := h
  unfold mM0 at q
  refine ⟨Z, G, env, er, ?_⟩
  cases ha : ma env with
  | stuck => rw [ha] at q; exact q.elim
  | exc e => rw [ha] at q; exact q
  | ok a =>
    rw [ha] at q
    simp only [Rz.ok_bind] at q
    intro x G1 H1 x1 va
    cases hs : isS a with
    | stuck => rw [hs] at q; exact q.elim
    | exc e => unfold isS at hs; split at hs <;> cases hs
    | ok s =>
      have hsa : a = .fz (.str s) := by
        unfold isS at hs
        split at hs
        · cases hs; rfl
        · cases hs
      subst hsa
      have hx : x = .str s := rep_str va
      subst hx
      rw [hs] at q
      simp only [Rz.ok_bind] at q
      refine ⟨⟨s, rfl⟩, ?_⟩
      cases hg : g s with
      | stuck => rw [hg] at q; exact q.elim
      | exc e => exact absurd hg (ng s e)
      | ok ev =>
        rw [hg] at q
        exact hr Z G1 H1 s ev Q x1.s (er.zh.trans x1.h) hg fun v G' H' x3 ve => q v G' H' (x1.trans x3) (ve.start x1.h)
def gJoin (s : Str) (b : EV) : Rz EV := match b.d with
  | .lst xs => joinD s xs
  | .tup xs => joinD s xs
  | _ => .stuck
theorem md_join : M1D X C (fun x xs H Q => ∃ a p, ∃ ys : List Str, x = .str a ∧ xs = [.ref p] ∧ (SqL X.K H p (ys.map V.str) ∨ SqT X.K H p (ys.map V.str)) ∧ (ys.map (·.length)).sum + ys.length * a.length ≤ 16777216 ∧ Q (.str (Txt.join a ys)) H) gJoin :=
  ⟨fun s b e h => by
    unfold gJoin at h
    split at h
    · exact joinD_exc h
    · exact joinD_exc h
    · (cases h), fun Z G H Hs s y b ev Q sb zh vb hg q => by
    have rb := vb.rep sb
    unfold gJoin at hg
    split at hg
    · rename_i xs hb
      obtain ⟨ys, rfl, hz, rfl⟩ := joinD_inv hg
      rw [hb] at rb
      cases rb with
      | @lst p us _ e r => rw [Reps.of_strs r] at e; exact ⟨s, p, ys, rfl, rfl, .inl (.of e), hz, giveS sb q⟩
    · rename_i xs hb
      obtain ⟨ys, rfl, hz, rfl⟩ := joinD_inv hg
      rw [hb] at rb
      cases rb with
      | @tup p us _ e r => rw [Reps.of_strs r] at e; exact ⟨s, p, ys, rfl, rfl, .inr e, hz, giveS sb q⟩
    · cases hg⟩
theorem de_join {o e : Expr} {ma mb : Env → Rz EV} {apos pos : Pos} (ho : DE X C W o ma) (he : DE X C W e mb) (hs : starEach [e] X.env = [(false, eval e X.env)] := by rfl) (hbase : attributeBase o "join" X.env (eval o X.env) = eval o X.env := by rfl) (hline : (apos.endLine == pos.line) = true := by rfl) :
    DE X C W (.Call (.Attribute o "join" apos) [e] [] pos) (mM1 ma mb gJoin) := ⟨PE.imp (pe_join ho.pe he.pe hs hbase hline) fun σ H Q h => m1_go md_join h⟩
def newStrs (ys : List Str) : EV := .ow true (.lst (ys.map .str))
def gSplit (s : Str) (b : EV) : Rz EV := match b with
  | .fz (.str z) => if (z.length == 0) = false ∧ s.length + 2 ≤ sizeLine then .ok (newStrs (Txt.split s z)) else .stuck
  | _ => .stuck
@[simp] theorem gSplit_str (s z : Str) : gSplit s (.fz (.str z)) = if (z.length == 0) = false ∧ s.length + 2 ≤ sizeLine then .ok (newStrs (Txt.split s z)) else .stuck := rfl
theorem md_split : M1D X C (fun x xs H Q => ∃ a b, x = .str a ∧ xs = [.str b] ∧ (b.length == 0) = false ∧ a.length + 2 ≤ sizeLine ∧ rNewStrs (Txt.split a b) H Q) gSplit :=
  ⟨fun s b e h => by
    unfold gSplit at h
    split at h
    · split at h <;> (cases h)
    · (cases h), fun Z G H Hs s y b ev Q sb zh vb hg q => by
    unfold gSplit at hg
    split at hg
    · split at hg
      · rename_i hz
        cases hg
        refine ⟨s, _, rfl, by rw [rep_str vb], hz.1, hz.2, ?_⟩
        exact giveL sb zh (Reps.strs _) q
      · cases hg
    · cases hg⟩
theorem de_split {o e : Expr} {ma mb : Env → Rz EV} {apos pos : Pos} (ho : DE X C W o ma) (he : DE X C W e mb) (hs : starEach [e] X.env = [(false, eval e X.env)] := by rfl) (hbase : attributeBase o "split" X.env (eval o X.env) = eval o X.env := by rfl) (hline : (apos.endLine == pos.line) = true := by rfl) :
    DE X C W (.Call (.Attribute o "split" apos) [e] [] pos) (mM1 ma mb gSplit) := ⟨PE.imp (pe_split ho.pe he.pe hs hbase hline) fun σ H Q h => m1_go md_split h⟩

def cutD (xs : List D) (lo hi : Option Int) : List D := (xs.drop (HT.sIx xs.length 0 lo)).take (HT.sIx xs.length xs.length hi - HT.sIx xs.length 0 lo)
theorem cut_reps {K : KC} {G : Hp} {vs : List V} {ds : List D} {lo hi : Option Int} (r : Reps K G vs ds) : Reps K G (cutV vs lo hi) (cutD ds lo hi) := by
  unfold cutV cutD
  rw [r.length]
  exact (r.drop _).take _
def mPart (m : Option (Env → Rz EV)) : Env → Rz (Option Int) := fun env => match m with
  | none => .ok none
  | some m => m env >>= fun a => match a with
    | .fz (.int i) => .ok (some i)
    | _ => .stuck
def gSl (a : EV) (lo hi : Option Int) : Rz EV := match a with
  | .fz (.lst ds) => .ok (.ow true (.lst (cutD ds lo hi)))
  | .ow _ (.lst ds) => .ok (.ow true (.lst (cutD ds lo hi)))
  | .fz (.tup ds) => .ok (.fz (.tup (cutD ds lo hi)))
  | .fz (.str z) => if z.length ≤ sizeLine then .ok (.fz (.str (cutS z lo hi))) else .stuck
  | _ => .stuck
def mSl (m : Env → Rz EV) (lo hi : Option (Env → Rz EV)) : Env → Rz EV := fun env => m env >>= fun a => mPart lo env >>= fun l => mPart hi env >>= fun h => gSl a l h
def tO (K : KC) (W : WX) (m : Env → Rz (Option Int)) : TO := fun σ H Q => ∃ Z G env, ER K Z G H σ env ∧ match m env with
  | .ok o => ∀ G' H', Ext G H G' H' → Q o H'
  | .exc e => ∀ cls d G' H', Ext G H G' H' → ExcOk K G' H' cls d e → W cls d σ H'
  | .stuck => False
structure DO (X : Cx) (C : Str → Option Addr) (W : WX) (e : Option Expr) (m : Option (Env → Rz EV)) : Prop where
  po : PO X e (tO (kc X C) W (mPart m))
theorem PO.imp {e : Option Expr} {t t' : TO} (h : PO X e t) (k : ∀ σ H Q, t' σ H Q → t σ H Q) : PO X e t' := ⟨fun pins s σ H Q I q => h.run pins s σ H Q I (k _ _ _ q)⟩
theorem do_none : DO X C W none none := ⟨PO.imp po_none fun σ H Q ⟨Z, G, env, er, q⟩ => q G H (.refl er.sub)⟩
theorem do_some {e : Expr} {m : Env → Rz EV} (h : DE X C W e m) : DO X C W (some e) (some m) := ⟨PO.imp (po_some h.pe) fun σ H Q ⟨Z, G, env, er, q⟩ => by
  unfold mPart at q
  dsimp only at q
  refine ⟨Z, G, env, er, ?_⟩
  cases ha : m env with
  | stuck => rw [ha] at q; exact q.elim
  | exc e => rw [ha] at q; exact q
  | ok a =>
    rw [ha] at q
    simp only [Rz.ok_bind] at q
    intro v G1 H1 x1 va
    cases a with
    | ow n w => exact q.elim
    | fz d =>
      cases d with
      | int i => exact ⟨i, rep_int va, q G1 H1 x1⟩
      | _ => exact q.elim⟩
def rSlX (K : PySem.W.Frag) : V → Option Int → Option Int → Hp → VK → Prop := fun x lo hi H Q => rSlL K x lo hi H Q ∨ rSlA K x lo hi H Q ∨ (∃ z, x = .str z ∧ z.length ≤ sizeLine ∧ Q (.str (cutS z lo hi)) H)
theorem sl_any (hs : SlR X (fun x lo hi H Q => ∃ z, x = .str z ∧ z.length ≤ sizeLine ∧ Q (.str (cutS z lo hi)) H)) : SlR X (rSlX X.K) := SlR.or sl_list (SlR.or sl_tupA hs)
theorem mPart_go {m : Option (Env → Rz EV)} {f : Option Int → Env → Rz EV} {Z : Ent} {G H : Hp} {σ : L2.St} {env : Env} {R : Option Int → Hp → Prop} {Q : VK} (er : ER (kc X C) Z G H σ env)
    (q : match (mPart m env >>= fun l => f l env) with
      | .ok ev => ∀ v G' H', Ext G H G' H' → EVok (kc X C) Z H G' H' v ev → Q v H'
      | .exc e => ∀ cls d G' H', Ext G H G' H' → ExcOk (kc X C) G' H' cls d e → W cls d σ H'
      | .stuck => False)
    (hR : ∀ l G1 H1, Ext G H G1 H1 → ER (kc X C) Z G1 H1 σ env → (match f l env with
      | .ok ev => ∀ v G' H', Ext G1 H1 G' H' → EVok (kc X C) Z H1 G' H' v ev → Q v H'
      | .exc e => ∀ cls d G' H', Ext G1 H1 G' H' → ExcOk (kc X C) G' H' cls d e → W cls d σ H'
      | .stuck => False) → R l H1) : tO (kc X C) W (mPart m) σ H R := by
  refine ⟨Z, G, env, er, ?_⟩
  cases ha : mPart m env with
  | stuck => rw [ha] at q; exact q.elim
  | exc e => rw [ha] at q; exact q
  | ok l =>
    rw [ha] at q
    simp only [Rz.ok_bind] at q
    refine fun G1 H1 x1 => hR l G1 H1 x1 (er.ext x1) ?_
    cases hb : f l env with
    | stuck => rw [hb] at q; exact q.elim
    | exc e => rw [hb] at q; exact fun cls d G' H' x2 => q cls d G' H' (x1.trans x2)
    | ok b => rw [hb] at q; exact fun v G' H' x2 vb => q v G' H' (x1.trans x2) (vb.start x1.h)
theorem gSl_exc {a : EV} {l h : Option Int} {e : Exn} : gSl a l h ≠ .exc e := by
  unfold gSl
  split <;> first | (intro z; cases z) | (split <;> (intro z; cases z))
theorem cut_whole {ds : List D} {lo hi : Option Int} (h : HT.sIx ds.length 0 lo = 0 ∧ HT.sIx ds.length ds.length hi = ds.length) : cutD ds lo hi = ds := by
  unfold cutD
  rw [h.1, h.2]
  simp
theorem de_sl {e : Expr} {lo hi : Option Expr} {m : Env → Rz EV} {ml mh : Option (Env → Rz EV)} {p2 pos : Pos} (h : DE X C W e m) (hl : DO X C W lo ml) (hh : DO X C W hi mh) :
    DE X C W (.Subscript e (.Slice lo hi none p2) pos) (mSl m ml mh) :=
  ⟨PE.imp (pe_slice (sl_any sl_str) h.pe hl.po hh.po) fun σ H Q ⟨Z, G, env, er, q⟩ => by
    unfold mSl at q
    refine ⟨Z, G, env, er, ?_⟩
    cases ha : m env with
    | stuck => rw [ha] at q; exact q.elim
    | exc e => rw [ha] at q; exact q
    | ok a =>
      rw [ha] at q
      simp only [Rz.ok_bind] at q
      intro v G1 H1 x1 va
      have er1 := er.ext x1
      have q1 : match (mPart ml env >>= fun l => (fun l env => mPart mh env >>= fun h => gSl a l h) l env) with
        | .ok ev => ∀ v G' H', Ext G1 H1 G' H' → EVok (kc X C) Z H1 G' H' v ev → Q v H'
        | .exc e => ∀ cls d G' H', Ext G1 H1 G' H' → ExcOk (kc X C) G' H' cls d e → W cls d σ H'
        | .stuck => False := by
        cases hz : (mPart ml env >>= fun l => mPart mh env >>= fun h => gSl a l h) with
        | stuck => rw [hz] at q; exact q.elim
        | exc e => rw [hz] at q; exact fun cls d G' H' x2 => q cls d G' H' (x1.trans x2)
        | ok b => rw [hz] at q; exact fun v G' H' x2 vb => q v G' H' (x1.trans x2) (vb.start x1.h)
      refine mPart_go (f := fun l env => mPart mh env >>= fun h => gSl a l h) (Q := Q) er1 q1 fun l G2 H2 x2 er2 q2 => ?_
      refine mPart_go (f := fun h _ => gSl a l h) (Q := Q) er2 q2 fun h G3 H3 x3 er3 q3 => ?_
      have va3 := va.ext (x2.trans x3)
      have s3 := er3.sub
      cases hg : gSl a l h with
      | stuck => rw [hg] at q3; exact q3.elim
      | exc e => exact absurd hg gSl_exc
      | ok ev =>
        rw [hg] at q3
        dsimp only at q3
        unfold gSl at hg
        split at hg
        · rename_i ds
          cases hg
          have va' : Rep (kc X C) G3 v (.lst ds) := va3
          cases va' with
          | @lst p us _ e r => exact .inl ⟨p, us, rfl, .of (s3 _ _ e), giveL s3 er3.zh (cut_reps r) q3⟩
        · cases hg
          obtain ⟨p, e, ⟨us, e', r⟩, _⟩ := va3
          exact .inl ⟨p, us, e, .of e', giveL s3 er3.zh (cut_reps r) q3⟩
        · rename_i ds
          cases hg
          have va' : Rep (kc X C) G3 v (.tup ds) := va3
          cases va' with
          | @tup p us _ e r =>
            refine .inr (.inl ⟨p, us, rfl, s3.sqT e, fun hw => ?_, fun _ => giveT s3 (cut_reps r) q3⟩)
            rw [r.length] at hw
            rw [cut_whole hw] at q3
            exact q3 _ G3 H3 (.refl s3) (.tup e r)
        · rename_i z
          split at hg
          · rename_i hz
            cases hg
            exact .inr (.inr ⟨z, rep_str va3, hz, giveS s3 q3⟩)
          · cases hg
        · cases hg⟩

def mApp (i : Nat) (m : Env → Rz EV) : Env → Out := fun env => match env.getD i .no with
  | .own (.lst ds) => (match m env with
    | .ok a => (match a.fr with
      | .fz d => if ds.length < sizeLine then .nx (env.set i (.own (.lst (ds ++ [d])))) else .stuck
      | _ => .stuck)
    | .exc e => .exc e env
    | .stuck => .stuck)
  | _ => .stuck
theorem tyV_list {K : PySem.W.Frag} {H : Hp} {p : Addr} {vs : List V} (h : H p = some (.lst vs)) : tyV K "list" (.ref p) H := Or.inl ⟨rfl, _, Or.inl (Or.inl h)⟩
theorem ds_app (i : Nat) {x : Str} {e : Expr} {m : Env → Rz EV} {xp apos cpos pos : Pos} (he : DE X C W e m) (hN : X.N[i]? = some x := by rfl) (hv : Vis X.env.scope x := by first | exact Or.inl rfl | exact Or.inr (Or.inl rfl) | exact Or.inr (Or.inr rfl)) (hd : (x == ("__debug__" : Str)) = false := by decide)
    (hcd : (x == ("__classdict__" : Str)) = false := by decide)
    (hbase : attributeBase (.Name x xp) "append" X.env (eval (.Name x xp) X.env) = eval (.Name x xp) X.env := by rfl)
    (hfew : ((backTo cpos (starEach [e] X.env)).all (fun x => !x.1) && (backToKw cpos (keywordEach [] X.env)).all (fun x => x.1.isSome)
      && decide ([e].length + ([] : List Keyword).length + (if ([] : List Keyword).isEmpty then 0 else 1) < 30)) = true := by rfl)
    (hline : (apos.endLine == cpos.line) = true := by rfl) (hs : starEach [e] X.env = (false, eval e X.env) :: starEach [] X.env := by rfl) (hplain : (backTo cpos (starEach [] X.env)).any (·.1) = false := by rfl)
    (hsw : swapsWith (.Call (.Attribute (.Name x xp) "append" apos) [e] [] cpos) none pos.line X.env = pure false := by rfl) :
    DS X C W (.Expr (.Call (.Attribute (.Name x xp) "append" apos) [e] [] cpos) pos) (mApp i m) :=
  ⟨PS.imp (ps_expr (pe_bm PySem.F.plainAttrs_list PySem.F.slot_list_append PySem.F.type_list_append mt_append (pe_var hN hv hd hcd) (pa_cons he.pe pa_nil hs) hbase hfew hline hs hplain) hsw) fun D σ H ⟨Z, G, env, er, q⟩ => by
    unfold mApp at q
    split at q
    · rename_i ds hi
      have hi := getD_some hi (by simp)
      obtain ⟨v, h1, p, rfl, us, h3, h4⟩ := er.at' i _ hi
      refine ⟨.ref p, h1, tyV_list h3, Z, G, env, er, ?_⟩
      cases ha : m env with
      | stuck => rw [ha] at q; exact q.elim
      | exc e =>
        rw [ha] at q
        exact fun cls d G' H' x k => q σ H' G' cls d x.g (er.ext x) k
      | ok a =>
        rw [ha] at q
        intro y G1 H1 x1 va
        obtain ⟨G2, s2, er2, va2⟩ := frz_go (er.ext x1) va fun p hp => er.free hp
        dsimp only at q
        cases hf : a.fr with
        | ow n w => rw [hf] at q; exact q.elim
        | fz d =>
          rw [hf] at q va2
          dsimp only at q
          split at q
          · rename_i hz
            have hH1 := x1.h _ _ h3
            refine ⟨p, us, y, rfl, rfl, hH1, by rw [h4.length]; exact hz, q _ _ G2 (x1.g.trans s2) (er2.put hi h1 ⟨_, upd_same, ?_⟩)⟩
            exact (h4.mono (x1.g.trans s2)).append (.cons va2 .nil)
          · exact q.elim
    · exact q.elim⟩
end
end DL
namespace DL
open PySem PySem.Spec PyProof.Rows L2
section
variable {X : Cx} {C : Str → Option Addr} {W : WX}
def tyName : D → Option String
  | .non => some "NoneType"
  | .bl _ => some "bool"
  | .int _ => some "int"
  | .str _ => some "str"
  | .tup _ => some "tuple"
  | .lst _ => some "list"
  | .scr _ => some "list"
  | .dct _ => some "dict"
  | _ => none
theorem ty_of {K : KC} {H : Hp} {x : V} {d : D} {t : String} (r : Rep K H x d) (h : tyName d = some t) : TyX K.K H x (.type t) := by
  cases r with
  | non => cases h; exact .base .non
  | bl b => cases h; exact .base (.bl b)
  | int i => cases h; exact .base (.int i)
  | str s => cases h; exact .base (.str s)
  | tup sq r =>
    cases h
    rcases sq with (e | ⟨o, e⟩) | ⟨o, its, n, e, c, _⟩
    · exact .base (.tup e)
    · exact .fTuple e
    · exact .kTuple e c
  | lst e r => cases h; exact .base (.lst e)
  | scr sq =>
    cases h
    rcases sq with (e | ⟨o, e⟩) | ⟨o, its, n, e, c, _⟩
    · exact .base (.lst e)
    · exact .base (.frz e)
    · exact .kList e c
  | dk e r => cases h; exact .base (.dK e)
  | dt e r => cases h; exact .base (.dT e)
  | ty _ => cases h
  | cls _ => cases h
  | ins _ _ _ => cases h
def isTy (T : String) (d : D) : Option Bool := (tyName d).bind fun t => kitB t T
def gIsi : List EV → Rz EV
  | [a, .fz (.ty T)] => orStuck (isTy T a.d) >>= fun k => .ok (.fz (.bl k))
  | _ => .stuck
@[simp] theorem gIsi_ty (a : EV) (T : String) : gIsi [a, .fz (.ty T)] = orStuck (isTy T a.d) >>= fun k => .ok (.fz (.bl k)) := rfl
theorem ne_gIsi : NoExcL gIsi := ⟨fun a e h => by
  unfold gIsi at h
  split at h
  · exact noexc_bind (fun _ _ z => by cases z) e h
  · cases h⟩
theorem cd_isi : CallD X C (.builtin "isinstance") gIsi := ⟨_, call_isi, fun Z G H Hs vs evs ev Q s zh va hg q => by
  unfold gIsi at hg
  split at hg
  · rename_i a T
    obtain ⟨v, u, rfl, k, l⟩ := evs2 va
    have l' : Rep (kc X C) G u (.ty T) := l
    cases l'
    unfold isTy at hg
    cases ht : tyName a.d with
    | none => rw [ht] at hg; cases hg
    | some t =>
      rw [ht] at hg
      simp only [Option.bind_some] at hg
      cases hk : kitB t T with
      | none => rw [hk] at hg; cases hg
      | some b =>
        rw [hk] at hg
        cases hg
        exact ⟨v, .ty T, .type t, .type T, b, rfl, .ty T, ty_of (k.rep s) ht, kit_ty hk, giveB s q⟩
  · cases hg⟩
theorem de_bltn {x : Str} {n : String} {pos : Pos} (hm : X.mg x = none) (hv : bootBuiltins x = some (.type n)) (hg : Gl X x := by rfl) (hn : x ≠ "__name__" := by decide) (hd : (x == ("__debug__" : Str)) = false := by decide) : DE X C W (.Name x pos) (mC (.ty n)) :=
  de_of_val (pe_bltn hg hm hv (v := .ty n) rfl hn hd) fun _ => .ty n
theorem isTy_bl (T : String) (b : Bool) : isTy T (.bl b) = kitB "bool" T := rfl
theorem isTy_int (T : String) (b : Int) : isTy T (.int b) = kitB "int" T := rfl
theorem isTy_str (T : String) (b : Str) : isTy T (.str b) = kitB "str" T := rfl
theorem isTy_tup (T : String) (b : List D) : isTy T (.tup b) = kitB "tuple" T := rfl
theorem isTy_lst (T : String) (b : List D) : isTy T (.lst b) = kitB "list" T := rfl
theorem isTy_non (T : String) : isTy T .non = kitB "NoneType" T := rfl
theorem kitB_bb : kitB "bool" "bool" = some true := by decide +kernel
theorem kitB_bi : kitB "bool" "int" = some true := by decide +kernel
theorem kitB_bs : kitB "bool" "str" = some false := by decide +kernel
theorem kitB_bt : kitB "bool" "tuple" = some false := by decide +kernel
theorem kitB_bl : kitB "bool" "list" = some false := by decide +kernel
theorem kitB_ib : kitB "int" "bool" = some false := by decide +kernel
theorem kitB_ii : kitB "int" "int" = some true := by decide +kernel
theorem kitB_is : kitB "int" "str" = some false := by decide +kernel
theorem kitB_it : kitB "int" "tuple" = some false := by decide +kernel
theorem kitB_il : kitB "int" "list" = some false := by decide +kernel
theorem kitB_sb : kitB "str" "bool" = some false := by decide +kernel
theorem kitB_si : kitB "str" "int" = some false := by decide +kernel
theorem kitB_ss : kitB "str" "str" = some true := by decide +kernel
theorem kitB_st : kitB "str" "tuple" = some false := by decide +kernel
theorem kitB_sl : kitB "str" "list" = some false := by decide +kernel
theorem kitB_tb : kitB "tuple" "bool" = some false := by decide +kernel
theorem kitB_ti : kitB "tuple" "int" = some false := by decide +kernel
theorem kitB_ts : kitB "tuple" "str" = some false := by decide +kernel
theorem kitB_tt : kitB "tuple" "tuple" = some true := by decide +kernel
theorem kitB_tl : kitB "tuple" "list" = some false := by decide +kernel
theorem kitB_lb : kitB "list" "bool" = some false := by decide +kernel
theorem kitB_li : kitB "list" "int" = some false := by decide +kernel
theorem kitB_ls : kitB "list" "str" = some false := by decide +kernel
theorem kitB_lt : kitB "list" "tuple" = some false := by decide +kernel
theorem kitB_ll : kitB "list" "list" = some true := by decide +kernel
theorem kitB_nb : kitB "NoneType" "bool" = some false := by decide +kernel
theorem kitB_ni : kitB "NoneType" "int" = some false := by decide +kernel
theorem kitB_ns : kitB "NoneType" "str" = some false := by decide +kernel
theorem kitB_nt : kitB "NoneType" "tuple" = some false := by decide +kernel
theorem kitB_nl : kitB "NoneType" "list" = some false := by decide +kernel

mutual
def pureD : D → Bool
  | .non | .bl _ | .int _ | .str _ | .ty _ | .cls _ => true
  | .tup ds => pureDs ds
  | _ => false
def pureDs : List D → Bool
  | [] => true
  | d :: ds => pureD d && pureDs ds
end
def tups (H : Hp) : Hp := fun a => match H a with
  | some (.tup vs) => some (.tup vs)
  | some (.frz o (.tup vs)) => some (.frz o (.tup vs))
  | _ => none
theorem tups_sub (H : Hp) : Sub (tups H) H := fun a o e => by
  unfold tups at e
  split at e
  · rename_i vs h; rw [h, e]
  · rename_i ob vs h; rw [h, e]
  · cases e
theorem tups_get {H : Hp} {a : Addr} {vs : List V} (h : H a = some (.tup vs)) : tups H a = some (.tup vs) := by unfold tups; rw [h]
theorem tups_getF {H : Hp} {a : Addr} {ob : Obj} {vs : List V} (h : H a = some (.frz ob (.tup vs))) : tups H a = some (.frz ob (.tup vs)) := by unfold tups; rw [h]
mutual
theorem pure_rep {K : KC} {H : Hp} : ∀ {v : V} {d : D}, Rep K H v d → pureD d = true → Rep K (tups H) v d
  | _, _, .non, _ => .non
  | _, _, .bl b, _ => .bl b
  | _, _, .int i, _ => .int i
  | _, _, .str x, _ => .str x
  | _, _, .ty n, _ => .ty n
  | _, _, .cls e, _ => .cls e
  | _, _, .tup sq r, h => .tup (by
      rcases sq with (e | ⟨o, e⟩) | e
      · exact .inl (.inl (tups_get e))
      · exact .inl (.inr ⟨o, tups_getF e⟩)
      · exact .inr e) (pure_reps r (by unfold pureD at h; exact h))
  | _, _, .lst _ _, h => by unfold pureD at h; cases h
  | _, _, .scr _, h => by unfold pureD at h; cases h
  | _, _, .dk _ _, h => by unfold pureD at h; cases h
  | _, _, .dt _ _, h => by unfold pureD at h; cases h
  | _, _, .ins _ _ _, h => by unfold pureD at h; cases h
theorem pure_reps {K : KC} {H : Hp} : ∀ {vs : List V} {ds : List D}, Reps K H vs ds → pureDs ds = true → Reps K (tups H) vs ds
  | _, _, .nil, _ => .nil
  | _, _, .cons a b, h => by
    unfold pureDs at h
    obtain ⟨h1, h2⟩ := Bool.and_eq_true_iff.mp h
    exact .cons (pure_rep a h1) (pure_reps b h2)
end
def pureFs (fs : List (Str × D)) : Bool := fs.all fun f => pureD f.2
theorem pure_repF {K : KC} {H : Hp} : ∀ {vs : List (Str × V)} {ds : List (Str × D)}, RepF K H vs ds → pureFs ds = true → RepF K (tups H) vs ds
  | _, _, .nil, _ => .nil
  | _, _, .cons a b, h => by
    unfold pureFs at h
    rw [List.all_cons] at h
    obtain ⟨h1, h2⟩ := Bool.and_eq_true_iff.mp h
    exact .cons (pure_rep a h1) (pure_repF b h2)
def orH (A B : Hp) : Hp := fun a => match A a with
  | some o => some o
  | none => B a
theorem orH_l (A B : Hp) : Sub A (orH A B) := fun a o e => by unfold orH; rw [e]
theorem orH_r {A B H : Hp} (h : Sub A H) (k : Sub B H) : Sub B (orH A B) := fun a o e => by
  unfold orH
  cases q : A a with
  | none => exact e
  | some u' =>
    have h1 := h a u' q
    have h2 := k a o e
    rw [h1] at h2
    exact h2
theorem orH_none {A B : Hp} {a : Addr} (h : A a = none) : orH A B a = B a := by unfold orH; rw [h]
theorem tups_nt {H : Hp} {a : Addr} (h : NT H a) : tups H a = none := by
  obtain ⟨o, e, k⟩ := h
  unfold tups
  rw [e]
  split
  · rename_i h; cases h; cases k
  · rename_i h; cases h; cases k
  · rfl
theorem orH_sub {A B H : Hp} (h : Sub A H) (k : Sub B H) : Sub (orH A B) H := fun a o e => by
  unfold orH at e
  cases q : A a with
  | none => rw [q] at e; exact k a o e
  | some u' => rw [q] at e; cases e; exact h a _ q

def allFzB : List EV → Bool
  | [] => true
  | .fz _ :: r => allFzB r
  | _ :: _ => false
def lend : EV → Rz EV
  | .fz d => if pureD d = true then .ok (.fz d) else .stuck
  | .ow true (.lst ds) => if pureDs ds = true then .ok (.ow true (.lst ds)) else .stuck
  | _ => .stuck
def own? : EV → EV
  | .ow _ w => .ow true w
  | e => e
def appF (F : Fn) (evs : List EV) : Rz EV := match F (evs.map EV.d) with
  | .ok r => if allFzB evs = true then .ok (own? r) else lend (own? r)
  | .exc e => if allFzB evs = true then .exc e else if pureFs e.fs = true then .exc e else .stuck
  | .stuck => .stuck
theorem EVs.reps {K : KC} {Z : Ent} {Hs G H : Hp} (s : Sub G H) : ∀ {vs : List V} {evs : List EV}, EVs K Z Hs G H vs evs → Reps K H vs (evs.map EV.d)
  | _, _, .nil => .nil
  | _, _, .cons a b => .cons (a.rep s) (b.reps s)
theorem EVs.repsF {K : KC} {Z : Ent} {Hs G H : Hp} : ∀ {vs : List V} {evs : List EV}, EVs K Z Hs G H vs evs → allFzB evs = true → Reps K G vs (evs.map EV.d)
  | _, _, .nil, _ => .nil
  | _, _, .cons (e := .fz d) a b, h => .cons a (b.repsF h)
  | _, _, .cons (e := .ow n w) a b, h => by cases h
theorem EVs.length {K : KC} {Z : Ent} {Hs G H : Hp} : ∀ {vs : List V} {evs : List EV}, EVs K Z Hs G H vs evs → vs.length = evs.length
  | _, _, .nil => rfl
  | _, _, .cons a b => congrArg Nat.succ b.length
theorem ask_fn {F : Fn} {n : Nat} {Z : Ent} {G1 H1 : Hp} {σ : L2.St} {env : Env} {vs : List V} {evs : List EV} {Hs : Hp} {Q : VK} {E : XK} (er : ER (kc X C) Z G1 H1 σ env) (va : EVs (kc X C) Z Hs G1 H1 vs evs) (hn : evs.length = n)
    (q : match appF F evs with
      | .ok ev => ∀ v G' H', Ext G1 H1 G' H' → EVok (kc X C) Z H1 G' H' v ev → Q v H'
      | .exc e => ∀ cls d G' H', Ext G1 H1 G' H' → ExcOk (kc X C) G' H' cls d e → E cls d H'
      | .stuck => False) : spD (kc X C) n F vs H1 Q E := by
  unfold appF at q
  have zz : ∀ {G' H' : Hp} {v : V} {ev : EV} {G0 : Hp}, EVok (kc X C) ⟨G0, H1⟩ H1 G' H' v ev → EVok (kc X C) Z H1 G' H' v (own? ev) := fun {G' H' v ev G0} k => by
    cases ev with
    | fz d => exact k
    | ow n w =>
      obtain ⟨p, e, h1, h2, h3, h4⟩ := k
      exact ⟨p, e, h1, h2, er.zh.none h3, fun _ => h3⟩
  by_cases hf : allFzB evs = true
  · refine ⟨G1, evs.map EV.d, er.sub, va.repsF hf, by rw [List.length_map]; exact hn, ?_⟩
    cases hF : F (evs.map EV.d) with
    | stuck => rw [hF] at q; exact q
    | exc e =>
      rw [hF] at q
      dsimp only at q
      rw [if_pos hf] at q
      exact q
    | ok ev =>
      rw [hF] at q
      dsimp only at q
      rw [if_pos hf] at q
      exact fun v G' H' x k => q v G' H' x (zz k)
  · refine ⟨H1, evs.map EV.d, .refl, va.reps er.sub, by rw [List.length_map]; exact hn, ?_⟩
    have lower : ∀ {G' H' : Hp}, Ext H1 H1 G' H' → Ext G1 H1 (orH G1 (tups H')) H' := fun {G' H'} x =>
      ⟨orH_l _ _, x.h, orH_sub (er.sub.trans x.h) (tups_sub H'), fun a e n => by rw [orH_none e]; exact tups_nt (n.mono x.h)⟩
    cases hF : F (evs.map EV.d) with
    | stuck => rw [hF] at q; exact q
    | exc e =>
      rw [hF] at q
      dsimp only at q
      rw [if_neg hf] at q
      intro cls d G' H' x k
      by_cases hp : pureFs e.fs = true
      · rw [if_pos hp] at q
        refine q cls d _ H' (lower x) ?_
        obtain ⟨a, h1, h2, h3⟩ := k
        refine ⟨a, h1, h2, ?_⟩
        rcases h3 with h3 | ⟨dd, fs, h3, h4, h5⟩
        · exact .inl h3
        · exact .inr ⟨dd, fs, h3, h4, (pure_repF (h5.mono x.s) hp).mono (orH_r (er.sub.trans x.h) (tups_sub H'))⟩
      · rw [if_neg hp] at q; exact q.elim
    | ok ev =>
      rw [hF] at q
      dsimp only at q
      rw [if_neg hf] at q
      intro v G' H' x k
      have lo := lower x
      have tr : Sub (tups H') (orH G1 (tups H')) := orH_r (er.sub.trans x.h) (tups_sub H')
      cases ev with
      | fz d =>
        have q' : match (if pureD d = true then Rz.ok (EV.fz d) else .stuck) with
          | .ok ev => ∀ v G' H', Ext G1 H1 G' H' → EVok (kc X C) Z H1 G' H' v ev → Q v H'
          | .exc e => ∀ cls d G' H', Ext G1 H1 G' H' → ExcOk (kc X C) G' H' cls d e → E cls d H'
          | .stuck => False := q
        by_cases hp : pureD d = true
        · rw [if_pos hp] at q'
          exact q' v _ H' lo ((pure_rep (Rep.mono x.s k) hp).mono tr)
        · rw [if_neg hp] at q'; exact q'.elim
      | ow n w =>
        obtain ⟨p, e, h1, h2, h3, h4⟩ := k
        cases w with
        | dct kvs => exact q.elim
        | lst ds =>
          have q' : match (if pureDs ds = true then Rz.ok (EV.ow true (.lst ds)) else .stuck) with
            | .ok ev => ∀ v G' H', Ext G1 H1 G' H' → EVok (kc X C) Z H1 G' H' v ev → Q v H'
            | .exc e => ∀ cls d G' H', Ext G1 H1 G' H' → ExcOk (kc X C) G' H' cls d e → E cls d H'
            | .stuck => False := q
          by_cases hp : pureDs ds = true
          · rw [if_pos hp] at q'
            obtain ⟨vs, e1, r1⟩ := h1
            have h3' : H1 p = none := h3
            refine q' v _ H' lo ⟨p, e, ⟨vs, e1, (pure_reps (r1.mono x.s) hp).mono tr⟩, ?_, er.zh.none h3', fun _ => h3'⟩
            rw [orH_none (er.sub.none h3')]
            exact tups_nt ⟨_, e1, rfl⟩
          · rw [if_neg hp] at q'; exact q'.elim
def mFn (F : Fn) (a : Env → Rz (List EV)) (n : Nat) : Env → Rz EV := fun env => a env >>= fun evs => if evs.length = n then appF F evs else .stuck
theorem call_go {F : Fn} {n : Nat} {m : Env → Rz (List EV)} {σ : L2.St} {H : Hp} {Q : VK} (h : tE (kc X C) W (mFn F m n) σ H Q) : tCallS (spD (kc X C) n F) (WE W) (tA (kc X C) W m) σ H Q :=
  tA_seq (f := fun evs _ => if evs.length = n then appF F evs else .stuck) h fun Z G1 H1 env vs a er va hs q => by
    by_cases hn : a.length = n
    · rw [if_pos hn] at q
      exact ask_fn er va hn q
    · rw [if_neg hn] at q; exact q.elim
theorem de_fn {F : Fn} {k : Nat} {f : Addr} {fd : FuncData} {ps : List Str} {x : Str} {p pos : Pos} {e : Expr} {es : List Expr} {m : Env → Rz (List EV)} (FO : FnOk X.prog X.w X.K X.mg X.base (L2.CX X.prog X.w) k f fd ps (spD (kc X C) ps.length F)) (hr : Room k X.A) (hm : X.mg x = some (.ref f)) (hk : PySem.W.keepIn X.K (.ref f) = true) (hb : Binds X.K fd ps [])
    (tk : Takes X W) (ha : DA X C W (e :: es) m) (hg : Gl X x := by rfl) (hdb : (x == ("__debug__" : Str)) = false := by decide) (he : starEach (e :: es) X.env = (false, eval e X.env) :: starEach es X.env := by rfl) (hpl : (backTo pos (starEach es X.env)).any (·.1) = false := by rfl) :
    DE X C W (.Call (.Name x p) (e :: es) [] pos) (mFn F m ps.length) :=
  ⟨PE.imp (pe_callS FO hr hg hm hk hb (fun σ => passAt tk σ) ha.pa hdb he hpl) fun σ H Q h => call_go h⟩
def mPar (i j : Nat) (m : Env → Rz (List EV)) : Env → Out := fun env => match m env with
  | .ok evs => (match allFz evs with
    | some [d, e] => .nx ((env.set i (.val d)).set j (.val e))
    | _ => .stuck)
  | .exc e => .exc e env
  | .stuck => .stuck
theorem ds_par {i j : Nat} {x y : Str} {a b : Expr} {m : Env → Rz (List EV)} {px py pt pos : Pos} {kt k2 pt2} (ha : DA X C W [a, b] m) (hN : X.N.Nodup) (hc : X.calm = true := by rfl) (hi : X.N[i]? = some x := by rfl) (hj : X.N[j]? = some y := by rfl) (hij : i ≠ j := by decide)
    (hx : X.env.scope.names.lookup x = some .local := by rfl) (hy : X.env.scope.names.lookup y = some .local := by rfl)
    (hw : swappedStores [.Tuple [.Name x px, .Name y py] kt pt] (.Tuple [a, b] k2 pt2) X.env = pure (some [x, y]) := by rfl)
    (hs : swapsWithSole [.Tuple [.Name x px, .Name y py] kt pt] (.Tuple [a, b] k2 pt2) pos.line X.env = pure false := by rfl) :
    DS X C W (.Assign [.Tuple [.Name x px, .Name y py] kt pt] (.Tuple [a, b] k2 pt2) pos) (mPar i j m) :=
  ⟨PS.imp (ps_par hc hN hi hj hij hx hy ha.pa hw hs) fun D σ H ⟨Z, G, env, er, q⟩ => by
    unfold mPar at q
    refine ⟨Z, G, env, er, ?_⟩
    cases hm : m env with
    | stuck => rw [hm] at q; exact q.elim
    | exc e => rw [hm] at q; exact fun cls d G' H' x k => q σ H' G' cls d x.g (er.ext x) k
    | ok evs =>
      rw [hm] at q
      dsimp only at q
      intro vs G1 H1 x1 va
      split at q
      · rename_i d e hz
        have r := allFz_ok hz va
        cases r with
        | cons r1 r2 =>
          cases r2 with
          | cons r2 r3 =>
            cases r3
            exact ⟨_, _, rfl, q _ H1 G1 x1.g (((er.ext x1).setV r1).setV r2)⟩
      · exact q.elim⟩
end
end DL
namespace DL
open PySem PySem.Spec PyProof.Rows L2
section
variable {X : Cx} {C : Str → Option Addr} {W : WX}
def mChn (ma mb mc : Env → Rz EV) (g g' : EV → EV → Rz EV) : Env → Rz EV := fun env => ma env >>= fun a => mb env >>= fun b => g a b >>= fun r => asB r >>= fun k => if k = true then (mc env >>= fun c => g' b c) else .ok (.fz (.bl false))
theorem de_chain {op op' : CmpOp} {g g' : EV → EV → Rz EV} {a b c : Expr} {ma mb mc : Env → Rz EV} {pos : Pos} (ho : OpD X C (compareOp op) g) (hg : NoExc g) (ho' : OpD X C (compareOp op') g') (hg' : NoExc g') (ha : DE X C W a ma) (hb : DE X C W b mb) (hc : DE X C W c mc)
    (hpe : ∀ (r r' : R2) (ta tb tc : TE), OpR X (compareOp op) r → OpR X (compareOp op') r' → PE X a ta → PE X b tb → PE X c tc → PE X (.Compare a [op, op'] [b, c] pos) (tChain r r' ta tb tc)) :
    DE X C W (.Compare a [op, op'] [b, c] pos) (mChn ma mb mc g g') := by
  obtain ⟨r, h1, h2⟩ := ho
  obtain ⟨r', h1', h2'⟩ := ho'
  refine ⟨PE.imp (hpe r r' _ _ _ h1 h1' ha.pe hb.pe hc.pe) fun σ H Q ⟨Z, G, env, er, q⟩ => ?_⟩
  unfold mChn at q
  refine ⟨Z, G, env, er, ?_⟩
  cases ea : ma env with
  | stuck => rw [ea] at q; exact q.elim
  | exc e => rw [ea] at q; exact q
  | ok a =>
    rw [ea] at q
    refine fun x G1 H1 x1 va => ⟨Z, G1, env, er.ext x1, ?_⟩
    cases eb : mb env with
    | stuck => rw [eb] at q; exact q.elim
    | exc e => rw [eb] at q; exact fun cls d G' H' x2 => q cls d G' H' (x1.trans x2)
    | ok b =>
      rw [eb] at q
      simp only [Rz.ok_bind] at q
      intro y G2 H2 x2 vb
      have er2 := er.ext (x1.trans x2)
      have zh2 : Sub Z.H H2 := er2.zh
      refine h2 Z G2 H2 H x y a b _ x2.s zh2 (va.ext x2) (vb.start x1.h) ?_
      cases eg : g a b with
      | stuck => rw [eg] at q; exact q.elim
      | exc e => exact absurd eg (hg.no a b e)
      | ok ev =>
        rw [eg] at q
        simp only [Rz.ok_bind] at q
        intro z G3 H3 x3 vz
        cases ek : asB ev with
        | stuck => rw [ek] at q; exact q.elim
        | exc e => exact absurd ek asB_exc
        | ok k =>
          rw [ek] at q
          simp only [Rz.ok_bind] at q
          refine ⟨k, asB_ok ek vz, ?_⟩
          have xx := x1.trans (x2.trans x3)
          cases k with
          | false =>
            rw [if_neg Bool.false_ne_true] at q ⊢
            exact q _ G3 H3 xx (.bl false)
          | true =>
            rw [if_pos rfl] at q ⊢
            refine ⟨Z, G3, env, er.ext xx, ?_⟩
            cases ec : mc env with
            | stuck => rw [ec] at q; exact q.elim
            | exc e => rw [ec] at q; exact fun cls d G' H' x4 => q cls d G' H' (xx.trans x4)
            | ok c =>
              rw [ec] at q
              simp only [Rz.ok_bind] at q
              intro u G4 H4 x4 vc
              refine h2' Z G4 H4 H y u b c Q x4.s (zh2.trans (x3.h.trans x4.h)) ((vb.ext (x3.trans x4)).start x1.h) (vc.start xx.h) ?_
              cases eg' : g' b c with
              | stuck => rw [eg'] at q; exact q.elim
              | exc e => exact absurd eg' (hg'.no b c e)
              | ok ev' =>
                rw [eg'] at q
                exact fun v G' H' x5 ve => q v G' H' (xx.trans (x4.trans x5)) (ve.start (xx.trans x4).h)
theorem de_gS {x y : Str} {pos : Pos} (hm : ∃ t, X.mg x = some (.str y t)) (hg : Gl X x := by rfl) (hd : (x == ("__debug__" : Str)) = false := by decide) : DE X C W (.Name x pos) (mC (.str y)) := by
  obtain ⟨t, h⟩ := hm
  exact de_globS h hg hd
theorem de_gI {x : Str} {y : Int} {pos : Pos} (hm : ∃ t, X.mg x = some (.int y t)) (hg : Gl X x := by rfl) (hd : (x == ("__debug__" : Str)) = false := by decide) : DE X C W (.Name x pos) (mC (.int y)) := by
  obtain ⟨t, h⟩ := hm
  exact de_globI h hg hd
end
theorem room5 {k : Nat} {A : Around} (r : Room k A) : A.units + 65 < cLine := by have := r.un; omega
section
variable {P : Program} {w : World} {mg : Str → Option Value} {base : Heap}
def FnG (P : Program) (w : World) (K : KC) (mg : Str → Option Value) (base : Heap) (k : Nat) (x : Str) (ps : List Str) (F : Fn) : Prop :=
  ∃ fd, FnOk P w K.K mg base (L2.CX P w) k (He.ga K.K x) fd ps (spD K ps.length F) ∧ Binds K.K fd ps [] ∧ PySem.W.keepIn K.K (.ref (He.ga K.K x)) = true ∧ mg x = some (.ref (He.ga K.K x))
theorem fn_dataD {K : KC} {x qual : Str} {params : Arguments} {body : List Stmt} {scope : Scope} {dvs : List V} {kws : List (Str × V)} {f : Addr} {fd : FuncData} {N ps : List Str} {k : Nat} {b : Env → Out} (F : FunD K.K x qual params body scope dvs kws f fd) (S : FnScope N ps scope) (hn : ps.length ≤ N.length)
    (hbody : ∀ (cdv : Value) (A : Around) (outer : List PySem.Env) (s : Shared) (H : Hp) (E : XK), Room k (A.deeper (envOfC qual scope s.heap.objs.size f cdv)) →
      PassesOwn (model P w) (A.deeper (envOfC qual scope s.heap.objs.size f cdv)) (envOfC qual scope s.heap.objs.size f cdv) (cxOf (L2.CX P w) P w K.K mg base N qual scope f cdv A outer s H E).xe →
      Takes (cxOf (L2.CX P w) P w K.K mg base N qual scope f cdv A outer s H E) (fun cls d _ H => E cls d H) → DSs (cxOf (L2.CX P w) P w K.K mg base N qual scope f cdv A outer s H E) K.C (fun cls d _ H => E cls d H) body b) : FnOk P w K.K mg base (L2.CX P w) (k + 1) f fd ps (spD K ps.length (runB N.length b)) := by
  refine F.ok S (fun vs H Q E ⟨G, ds, _, r, l, _⟩ => r.length.trans l) fun cdv A outer s H vs Q E hr ⟨G, ds, hs, r, l, h⟩ => ?_
  refine ⟨_, (hbody cdv A outer s H E hr (passes_of rfl) (takes_of rfl rfl rfl rfl)).pss, ⟨G, H⟩, G, _, er_start hs r N (by rw [l]; exact hn), ?_⟩
  unfold runB at h
  show Post K _ _ _ _ _
  cases hb : b (ds.map SL.val ++ List.replicate (N.length - ds.length) SL.no) with
  | nx e =>
    rw [hb] at h
    exact fun σ H' G' s' er => h .non G' H' er.toExt .non
  | ret ev =>
    rw [hb] at h
    refine fun σ env v H' G' Hs s' er hz va => h v G' H' er.toExt ?_
    exact va.start hz
  | exc e env =>
    rw [hb] at h
    exact fun σ H' G' cls d s' er k => h cls d G' H' er.toExt k
  | bk e => rw [hb] at h; exact h.elim
  | ct e => rw [hb] at h; exact h.elim
  | stuck => rw [hb] at h; exact h.elim
theorem fn_global {K : KC} {x : Str} {params : Arguments} {body : List Stmt} {scope : Scope} {N ps : List Str} {k : Nat} {b : Env → Out} (F : ∃ fd, FunD K.K x x params body scope [] [] (He.ga K.K x) fd) (hm : mg x = some (.ref (He.ga K.K x))) (S : FnScope N ps scope) (hn : ps.length ≤ N.length)
    (hbind : ∀ (kV doc pm : Value) (an : Option Addr) (cdv ct : Value) (us : List Value), us.length = ps.length → bindArgs (PySem.W.fnOf x x params body scope .none kV doc pm an cdv ct) ⟨us, []⟩ = pure (ps.zip us))
    (hbody : ∀ (cdv : Value) (A : Around) (outer : List PySem.Env) (s : Shared) (H : Hp) (E : XK), Room k (A.deeper (envOfC x scope s.heap.objs.size (He.ga K.K x) cdv)) →
      PassesOwn (model P w) (A.deeper (envOfC x scope s.heap.objs.size (He.ga K.K x) cdv)) (envOfC x scope s.heap.objs.size (He.ga K.K x) cdv) (cxOf (L2.CX P w) P w K.K mg base N x scope (He.ga K.K x) cdv A outer s H E).xe →
      Takes (cxOf (L2.CX P w) P w K.K mg base N x scope (He.ga K.K x) cdv A outer s H E) (fun cls d _ H => E cls d H) → DSs (cxOf (L2.CX P w) P w K.K mg base N x scope (He.ga K.K x) cdv A outer s H E) K.C (fun cls d _ H => E cls d H) body b) :
    FnG P w K mg base (k + 1) x ps (runB N.length b) := by
  obtain ⟨fd, F⟩ := F
  exact ⟨fd, fn_dataD F S hn hbody, F.bindsN hbind, F.kp, hm⟩
end
section
variable {X : Cx} {C : Str → Option Addr} {W : WX}
theorem de_call {F : Fn} {k n : Nat} {ps : List Str} {x : Str} {p pos : Pos} {e : Expr} {es : List Expr} {m : Env → Rz (List EV)} (FO : FnG X.prog X.w (kc X C) X.mg X.base k x ps F) (hr : Room k X.A)
    (tk : Takes X W) (ha : DA X C W (e :: es) m) (hg : Gl X x := by rfl) (hdb : (x == ("__debug__" : Str)) = false := by decide) (he : starEach (e :: es) X.env = (false, eval e X.env) :: starEach es X.env := by rfl) (hpl : (backTo pos (starEach es X.env)).any (·.1) = false := by rfl) (hn : n = ps.length := by rfl) :
    DE X C W (.Call (.Name x p) (e :: es) [] pos) (mFn F m n) := by
  obtain ⟨fd, h1, h2, h3, h4⟩ := FO
  subst hn
  exact de_fn h1 hr h4 h3 h2 tk ha hg hdb he hpl
end
theorem law_end {l : PySem.W.OpenLaw} {k : Nat} {q : Program} {loose : List Str} {XP : (Str → Option Value) → Heap → Prop} {YP : World → Heap → Prop} {d : DefRec} {x : Str} {F : Fn} {C : PySem.W.Frag → Str → Option Addr}
    (hn : l.most = some 63) (hdf : d.params.defaults = []) (hr : Room k callerA)
    (hF : ∀ ns : List Int, ns.length ≤ 63 → F [.scr ns] = .ok (.fz (.bl true)))
    (H : ∀ (w : World) (mg : Str → Option Value) (fa : Addr) (h : Heap), YP w h → h.Ns mainGlobals mg → mg d.name = some (.ref fa) →
      ∃ (K : PySem.W.Frag) (fd : FuncData), K.In h ∧ (∀ (s : Shared) (u : Value), BindsTo s fd ⟨[u], []⟩ [(x, u)]) ∧
        ∀ base : Heap, K.In base → base.Ns mainGlobals mg → FnOk l.prog w K mg base (L2.CX l.prog w) k fa fd [x] (spD ⟨K, C K⟩ 1 F)) :
    PySem.W.WalkO q loose XP YP l.row.toRowW d [] (fun f vs => PySem.call f vs) := by
  refine Att.attach_call hn hdf fun w s₀ s₁ mg mb fa o pm cd doc a vs ns G Y ho hd hcd hmg hobj hints hlen hg => ?_
  obtain ⟨K, fd, KX, hb, hFn⟩ := H w mg fa _ Y G.T.g hmg
  refine law_call KX G.T.g G.T.b G.T.builtins G.T.nolimit hg hobj hints (Nat.le_trans hlen (by decide)) hr hFn hb (fun H hO hS => ?_) fun H e s' z => ?_
  · refine ⟨H, [.scr ns], .refl, .cons (.scr hS) .nil, rfl, ?_⟩
    rw [hF ns hlen]
    exact fun v G' H' x k => rep_bl k
  · obtain ⟨_, _, _, _, _, _, _, _, _, _, _, _, z⟩ := z
    exact z
end DL
namespace DL
open PySem L2

theorem for_inv {α : Type} {p : D → Env → Rz Env} {b : Env → Out} (en : α → D) (I : Nat → Env → Prop) : ∀ (xs : List α) (k : Nat) (e0 : Env),
    (∀ (i : Nat) (x : α) (e : Env), xs[i]? = some x → I (k + i) e → ∃ e1 e2, p (en x) e = .ok e1 ∧ (b e1 = .nx e2 ∨ b e1 = .ct e2) ∧ I (k + i + 1) e2) → I k e0 →
    ∃ e', forF p b (xs.map en) e0 = .nx e' ∧ I (k + xs.length) e'
  | [], k, e0, _, h0 => ⟨e0, rfl, h0⟩
  | x :: xs, k, e0, h, h0 => by
    obtain ⟨e1, e2, h1, h2, h3⟩ := h 0 x e0 rfl h0
    obtain ⟨e', h4, h5⟩ := for_inv en I xs (k + 1) e2 (fun i y e hi he => by
      have e5 : k + 1 + i = k + (i + 1) := by omega
      rw [e5] at he
      obtain ⟨f1, f2, g1, g2, g3⟩ := h (i + 1) y e hi he
      refine ⟨f1, f2, g1, g2, ?_⟩
      have e6 : k + 1 + i + 1 = k + (i + 1) + 1 := by omega
      rw [e6]; exact g3) h3
    refine ⟨e', ?_, ?_⟩
    · rw [List.map_cons, forF, h1]
      dsimp only
      rcases h2 with h2 | h2 <;> (rw [h2]; exact h4)
    · rw [List.length_cons]
      have e7 : k + (xs.length + 1) = k + 1 + xs.length := by omega
      rw [e7]; exact h5
theorem for_ret {α : Type} {p : D → Env → Rz Env} {b : Env → Out} (en : α → D) (I : Nat → Env → Prop) (O : Out → Prop) : ∀ (xs : List α) (k : Nat) (e0 : Env),
    (∀ (i : Nat) (x : α) (e : Env), xs[i]? = some x → I (k + i) e → ∃ e1, p (en x) e = .ok e1 ∧ ((∃ e2, (b e1 = .nx e2 ∨ b e1 = .ct e2) ∧ I (k + i + 1) e2) ∨ (∃ ev, b e1 = .ret ev ∧ O (.ret ev)) ∨ ∃ e2, b e1 = .bk e2 ∧ O (.nx e2))) → I k e0 →
    (∃ e', forF p b (xs.map en) e0 = .nx e' ∧ I (k + xs.length) e') ∨ O (forF p b (xs.map en) e0)
  | [], k, e0, _, h0 => .inl ⟨e0, rfl, h0⟩
  | x :: xs, k, e0, h, h0 => by
    obtain ⟨e1, h1, h2⟩ := h 0 x e0 rfl h0
    rw [List.map_cons, forF, h1]
    dsimp only
    rcases h2 with ⟨e2, h2, h3⟩ | ⟨ev, h2, h3⟩ | ⟨e2, h2, h3⟩
    · have r := for_ret en I O xs (k + 1) e2 (fun i y e hi he => by
        have e5 : k + 1 + i = k + (i + 1) := by omega
        rw [e5] at he
        obtain ⟨f1, g1, g2⟩ := h (i + 1) y e hi he
        have e6 : k + 1 + i + 1 = k + (i + 1) + 1 := by omega
        rw [e6]
        exact ⟨f1, g1, g2⟩) h3
      have e7 : k + (x :: xs).length = k + 1 + xs.length := by rw [List.length_cons]; omega
      rw [e7]
      rcases h2 with h2 | h2 <;> (rw [h2]; exact r)
    · rw [h2]; exact .inr h3
    · rw [h2]; exact .inr h3
theorem lc_map {p : D → Env → Rz Env} {t : Env → Rz Bool} {e : Env → Rz EV} {env : Env} {α : Type} {en : α → D} {f : α → D} {k : α → Bool} {pe : α → Env} :
    ∀ (xs : List α) (acc : List D), (∀ x ∈ xs, p (en x) env = .ok (pe x) ∧ t (pe x) = .ok (k x) ∧ (k x = true → ∃ ev, e (pe x) = .ok ev ∧ ev.fr = .fz (f x))) → acc.length + xs.length ≤ sizeLine →
      lcF p t e env (xs.map en) acc = .ok (acc ++ (xs.filter k).map f)
  | [], acc, _, _ => by simp [lcF]
  | x :: xs, acc, h, hl => by
    obtain ⟨h1, h2, h3⟩ := h x List.mem_cons_self
    have hl' : acc.length + (xs.length + 1) ≤ sizeLine := hl
    rw [List.map_cons, lcF, h1]
    dsimp only
    rw [h2]
    cases hk : k x with
    | false =>
      dsimp only
      rw [lc_map xs acc (fun y hy => h y (List.mem_cons_of_mem _ hy)) (by omega), List.filter_cons_of_neg (by simp [hk])]
    | true =>
      obtain ⟨ev, h4, h5⟩ := h3 hk
      dsimp only
      rw [h4]
      dsimp only
      rw [h5]
      dsimp only
      rw [if_pos (by omega), lc_map xs _ (fun y hy => h y (List.mem_cons_of_mem _ hy)) (by simp; omega), List.filter_cons_of_pos hk, List.map_cons, List.append_assoc]
      rfl
theorem mLc_all {it : Env → Rz (List D)} {i : Nat} {e : Env → Rz EV} {env : Env} {α : Type} {en : α → D} {f : α → D} {xs : List α} (hi : it env = .ok (xs.map en))
    (he : ∀ x ∈ xs, ∃ ev, e ((env.set i .no).set i (.val (en x))) = .ok ev ∧ ev.fr = .fz (f x)) (hl : xs.length ≤ sizeLine) :
    mLc it (pName i) mYes e [i] env = .ok (.ow true (.lst (xs.map f))) := by
  unfold mLc
  rw [hi]
  simp only [Rz.ok_bind]
  rw [show wipeE env [i] = env.set i .no from rfl]
  rw [lc_map (pe := fun x => (env.set i .no).set i (.val (en x))) (k := fun _ => true) (f := f) xs [] (fun x hx => ⟨rfl, rfl, fun _ => he x hx⟩) (by simpa using hl)]
  rw [List.filter_eq_self.mpr (fun _ _ => rfl)]
  rfl
theorem mLc_if {it : Env → Rz (List D)} {i : Nat} {t : Env → Rz Bool} {e : Env → Rz EV} {env : Env} {α : Type} {en : α → D} {f : α → D} {k : α → Bool} {xs : List α} (hi : it env = .ok (xs.map en))
    (ht : ∀ x ∈ xs, t ((env.set i .no).set i (.val (en x))) = .ok (k x))
    (he : ∀ x ∈ xs, k x = true → ∃ ev, e ((env.set i .no).set i (.val (en x))) = .ok ev ∧ ev.fr = .fz (f x)) (hl : xs.length ≤ sizeLine) :
    mLc it (pName i) t e [i] env = .ok (.ow true (.lst ((xs.filter k).map f))) := by
  unfold mLc
  rw [hi]
  simp only [Rz.ok_bind]
  rw [show wipeE env [i] = env.set i .no from rfl]
  rw [lc_map (pe := fun x => (env.set i .no).set i (.val (en x))) (k := k) (f := f) xs [] (fun x hx => ⟨rfl, ht x hx, he x hx⟩) (by simpa using hl)]
  simp
theorem wh_inv {c : Env → Rz Bool} {b : Env → Out} {α : Type} (en : α → Env) (k : α → Bool) (step : α → α) (μ : α → Nat) (I : α → Prop)
    (hc : ∀ a, I a → c (en a) = .ok (k a)) (hb : ∀ a, I a → k a = true → (b (en a) = .nx (en (step a)) ∨ b (en a) = .ct (en (step a))) ∧ I (step a) ∧ μ (step a) < μ a) :
    ∀ (n : Nat) (a : α), I a → μ a < n → ∃ a', whF c b n (en a) = .nx (en a') ∧ I a' ∧ k a' = false
  | 0, a, _, h => absurd h (Nat.not_lt_zero _)
  | n + 1, a, ha, h => by
    rw [whF, hc a ha]
    cases hk : k a with
    | false => exact ⟨a, rfl, ha, hk⟩
    | true =>
      obtain ⟨h1, h2, h3⟩ := hb a ha hk
      obtain ⟨a', h4, h5⟩ := wh_inv en k step μ I hc hb n (step a) h2 (by omega)
      refine ⟨a', ?_, h5⟩
      dsimp only
      rcases h1 with h1 | h1 <;> (rw [h1]; exact h4)
theorem fuel_big {n : Nat} (h : n < 1000000000000) : n < fuel := Nat.lt_of_lt_of_le h (by unfold fuel; decide)
theorem size_big {n : Nat} (h : n ≤ 16777216) : n ≤ sizeLine := by rw [sizeLine_eq]; exact h
theorem gAll_map (bs : List Bool) : gAll [.fz (.lst (bs.map .bl))] = .ok (.fz (.bl (bs.all id))) := by simp [allD]
theorem gAny_map (bs : List Bool) : gAny [.fz (.lst (bs.map .bl))] = .ok (.fz (.bl (bs.any id))) := by simp [allD]
theorem gLen_lst (ds : List D) : gLen [.fz (.lst ds)] = .ok (.fz (.int ds.length)) := rfl
theorem gLen_tup (ds : List D) : gLen [.fz (.tup ds)] = .ok (.fz (.int ds.length)) := rfl
theorem gLen_scr (ds : List Int) : gLen [.fz (.scr ds)] = .ok (.fz (.int ds.length)) := rfl
theorem gLen_ow (n : Bool) (ds : List D) : gLen [.ow n (.lst ds)] = .ok (.fz (.int ds.length)) := rfl
abbrev mk (l : List Nat) : Str := ⟨l.toArray⟩
theorem mk_len (l : List Nat) : (mk l).length = l.length := by simp [Str.length]
theorem mk_of (s : Str) : mk s.cps.toList = s := by cases s; simp [mk]
theorem gLen_mk (l : List Nat) (h : l.length ≤ 16777216) : gLen [.fz (.str (mk l))] = .ok (.fz (.int l.length)) := by
  have hz : l.length ≤ sizeLine := size_big h
  simp [lenD, hz, mk_len]
theorem items_mk (l : List Nat) : items (.str (mk l)) = .ok (l.map fun c => .str ⟨#[c]⟩) := by simp
theorem in_sign (c : Nat) (l : List Nat) : opIn (.fz (.str ⟨#[c]⟩)) (.fz (.str (mk l))) = .ok (.fz (.bl (decide (c ∈ l)))) := by simp [opIn, inD]
theorem ni_sign (c : Nat) (l : List Nat) : opNi (.fz (.str ⟨#[c]⟩)) (.fz (.str (mk l))) = .ok (.fz (.bl (!decide (c ∈ l)))) := by simp [opNi, inD]
theorem ix0_mk (c : Nat) (r : List Nat) (h : (c :: r).length ≤ 16777216) : opIx (.fz (.str (mk (c :: r)))) (.fz (.int 0)) = .ok (.fz (.str ⟨#[c]⟩)) := by
  have hz : (mk (c :: r)).length ≤ sizeLine := by rw [mk_len]; exact size_big h
  simp [opIx, ixD, hz, atI, ixN]
theorem ix_lst (ds : List D) (i : Nat) (d : D) (h : ds[i]? = some d) : opIx (.fz (.lst ds)) (.fz (.int i)) = .ok (.fz d) := by
  simp [opIx, ixD, atI_nat h]
theorem ix_ow (n : Bool) (ds : List D) (i : Nat) (d : D) (h : ds[i]? = some d) : opIx (.ow n (.lst ds)) (.fz (.int i)) = .ok (.fz d) := by
  simp [opIx, ixD, atI_nat h]
theorem ix_tup (ds : List D) (i : Nat) (d : D) (h : ds[i]? = some d) : opIx (.fz (.tup ds)) (.fz (.int i)) = .ok (.fz d) := by
  simp [opIx, ixD, atI_nat h]
theorem ix_scr (ns : List Int) (i : Nat) (n : Int) (h : ns[i]? = some n) : opIx (.fz (.scr ns)) (.fz (.int i)) = .ok (.fz (.int n)) := by
  simp [opIx, ixD, atI_nat h]
theorem ix_mk (l : List Nat) (i : Nat) (c : Nat) (hl : l.length ≤ 16777216) (h : l[i]? = some c) : opIx (.fz (.str (mk l))) (.fz (.int i)) = .ok (.fz (.str ⟨#[c]⟩)) := by
  have hz : (mk l).length ≤ sizeLine := by rw [mk_len]; exact size_big hl
  have e := atI_nat (xs := l) h
  simp [opIx, ixD, hz, e]
def joinL (sep : List Nat) : List (List Nat) → List Nat
  | [] => []
  | [x] => x
  | x :: y :: r => x ++ sep ++ joinL sep (y :: r)
theorem mk_app (a b : List Nat) : mk a ++ mk b = mk (a ++ b) := by
  show Str.mk ((mk a).cps ++ (mk b).cps) = _
  simp [mk]
theorem join_mk (sep : List Nat) (ls : List (List Nat)) : Txt.join (mk sep) (ls.map mk) = mk (joinL sep ls) := by
  show Builtin.Str.glued (mk sep) (ls.map mk) = _
  rw [StrLaws.glued_eq_join]
  induction ls with
  | nil => rfl
  | cons x r ih =>
    cases r with
    | nil => rfl
    | cons y r =>
      rw [List.map_cons, List.map_cons] at *
      show mk x ++ mk sep ++ Str.join (mk sep) (mk y :: r.map mk) = _
      rw [ih, mk_app, mk_app]
      rfl
theorem joinL_one (l : List Nat) : joinL [] (l.map fun c => [c]) = l := by
  induction l with
  | nil => rfl
  | cons c r ih =>
    cases r with
    | nil => rfl
    | cons d r => show [c] ++ [] ++ joinL [] ((d :: r).map fun c => [c]) = _; rw [ih]; rfl
theorem gJoin_d {sep : List Nat} {b : EV} {ls : List (List Nat)} (hb : b.d = .lst (ls.map fun l => .str (mk l))) (hl : (ls.map List.length).sum + ls.length * sep.length ≤ 16777216) : gJoin (mk sep) b = .ok (.fz (.str (mk (joinL sep ls)))) := by
  have e : (ls.map fun l => D.str (mk l)) = (ls.map mk).map D.str := by rw [List.map_map]; rfl
  unfold gJoin
  rw [hb]
  dsimp only
  rw [e]
  unfold joinD
  rw [strsD_map]
  simp only [orStuck_some, Rz.ok_bind]
  rw [if_pos (by
    rw [List.map_map, show (Str.length ∘ mk) = List.length from funext mk_len, List.length_map, mk_len]
    exact hl), join_mk]
theorem gJoin_one {b : EV} {l : List Nat} (hb : b.d = .lst (l.map fun c => .str (mk [c]))) (hl : l.length ≤ 16777216) : gJoin (mk []) b = .ok (.fz (.str (mk l))) := by
  rw [gJoin_d (ls := l.map fun c => [c]) (by rw [hb, List.map_map]; rfl) (by
    have : ∀ l : List Nat, (List.map List.length (l.map fun c => [c])).sum = l.length := by
      intro l
      induction l with
      | nil => rfl
      | cons c r ih => rw [List.map_cons, List.map_cons, List.sum_cons, ih, List.length_cons, List.length_cons, List.length_nil]; omega
    rw [this, List.length_nil]
    omega), joinL_one]
theorem s_nil : ("" : Str) = mk [] := by decide +kernel
theorem opEq_d {a b : EV} {k : Bool} (h : eqD a.d b.d = some k) : opEq a b = .ok (.fz (.bl k)) := by
  unfold opEq; rw [h]; rfl
theorem opNe_d {a b : EV} {k : Bool} (h : eqD a.d b.d = some k) : opNe a b = .ok (.fz (.bl (!k))) := by
  unfold opNe; rw [h]; rfl
theorem opEq_bl (i j : Bool) : opEq (.fz (.bl i)) (.fz (.bl j)) = .ok (.fz (.bl (decide (i = j)))) := rfl
theorem opNe_bl (i j : Bool) : opNe (.fz (.bl i)) (.fz (.bl j)) = .ok (.fz (.bl (!decide (i = j)))) := rfl
theorem opEq_int (i j : Int) : opEq (.fz (.int i)) (.fz (.int j)) = .ok (.fz (.bl (decide (i = j)))) := rfl
theorem opNe_int (i j : Int) : opNe (.fz (.int i)) (.fz (.int j)) = .ok (.fz (.bl (!decide (i = j)))) := rfl
theorem opEq_str (i j : Str) : opEq (.fz (.str i)) (.fz (.str j)) = .ok (.fz (.bl (decide (i = j)))) := rfl
theorem opNe_str (i j : Str) : opNe (.fz (.str i)) (.fz (.str j)) = .ok (.fz (.bl (!decide (i = j)))) := rfl
theorem mk_inj {a b : List Nat} : mk a = mk b ↔ a = b := by
  constructor
  · intro h
    have h1 : (mk a).cps = (mk b).cps := by rw [h]
    simpa using h1
  · intro h; rw [h]
theorem ifV_T {t : Env → Rz Bool} {a b : Env → Rz EV} {env : Env} (h : t env = .ok true) : mIf t a b env = a env := by
  unfold mIf; rw [h]; rfl
theorem ifV_F {t : Env → Rz Bool} {a b : Env → Rz EV} {env : Env} (h : t env = .ok false) : mIf t a b env = b env := by
  unfold mIf; rw [h]; rfl
end DL
namespace LW
open PySem L2 DL
def b__law_cell : DL.Env → Out :=
    (mSeq (mIfS (mB (m2 (mV 1) (mCall (mCons (mV 0) mNil) gLen) opLt))
      (mRet (mCall (mCons (m2 (mV 0) (mV 1) opIx) mNil) gAbs))
      Out.nx)
    (mRet (mC (.int 1000001002002001005001004003000000000002001000003001002003000000002000000000000003001))))
def F__law_cell : Fn := runB 2 b__law_cell
def l1__law_draws : DL.Env → Out :=
    (mIfS (mAnd (mB (m2 (mV 0) (m2 (mC (.int 10)) (mC (.int 18)) opPow) opGe)) (mB (m2 (mV 3) (mC (.int 0)) opGt)))
        (mSeq (mApp 2 (m2 (mCall (mCons (mV 3) mNil) gInt) (mC (.int 1000)) opMod))
        (mSetF 3 (m2 (mV 3) (mC (.int 1000)) opDiv)))
        (mSeq (mSetF 5 (m2 (mCall (mCons (m2 (m2 (m2 (mV 0) (mC (.int 3)) opAdd) (m2 (mV 4) (mC (.int 5)) opAdd) opMul) (mC (.int 7919)) opMul) mNil) gInt) (mC (.int 100003)) opMod))
        (mApp 2 (m2 (m2 (mCall (mCons (m2 (m2 (m2 (mV 5) (mV 5) opMul) (mV 0) opAdd) (m2 (mC (.int 11)) (mV 4) opMul) opAdd) mNil) gInt) (mC (.int 99991)) opMod) (mC (.int 100)) opDiv))))
def b__law_draws : DL.Env → Out :=
    (mSeq (mSetO 2 (mLst mNil))
    (mSeq (mSetF 3 (mV 0))
    (mSeq (mFor (mRng1 (mCons (mV 1) mNil)) (pName 4)
      l1__law_draws)
    (mRet (mV 2)))))
def F__law_draws : Fn := runB 6 b__law_draws
def e1_is_word : DL.Env → Rz EV :=
    (m2 (mV 1) (m2 (m2 (mC (.str "abcdefghijklmnopqrstuvwxyz")) (mC (.str "ABCDEFGHIJKLMNOPQRSTUVWXYZ")) opAdd) (mC (.str "0123456789")) opAdd) opIn)
def b_is_word : DL.Env → Out :=
    (mRet (mAndV (mChn (mC (.int 1)) (mCall (mCons (mV 0) mNil) gLen) (mC (.int 6)) opLe opLe) (mCall (mCons (mLc (mItems (mV 0)) (pName 1) mYes e1_is_word [1]) mNil) gAll)))
def F_is_word : Fn := runB 2 b_is_word
def b_is_sign : DL.Env → Out :=
    (mRet (mAndV (mFn F_is_word (mCons (mV 0) mNil) 1) (m2 (m2 (mV 0) (mC (.int 0)) opIx) (mC (.str "abcdefghijklmnopqrstuvwxyz")) opIn)))
def F_is_sign : Fn := runB 1 b_is_sign
def b_is_name : DL.Env → Out :=
    (mRet (mAndV (mFn F_is_word (mCons (mV 0) mNil) 1) (m2 (m2 (mV 0) (mC (.int 0)) opIx) (mC (.str "ABCDEFGHIJKLMNOPQRSTUVWXYZ")) opIn)))
def F_is_name : Fn := runB 1 b_is_name
end LW
namespace LW
open PySem L2 DL
def cLow : List Nat := [97, 98, 99, 100, 101, 102, 103, 104, 105, 106, 107, 108, 109, 110, 111, 112, 113, 114, 115, 116, 117, 118, 119, 120, 121, 122]
def cUpp : List Nat := [65, 66, 67, 68, 69, 70, 71, 72, 73, 74, 75, 76, 77, 78, 79, 80, 81, 82, 83, 84, 85, 86, 87, 88, 89, 90]
def cDig : List Nat := [48, 49, 50, 51, 52, 53, 54, 55, 56, 57]
theorem s_low : ("abcdefghijklmnopqrstuvwxyz" : Str) = mk cLow := by decide +kernel
theorem s_upp : ("ABCDEFGHIJKLMNOPQRSTUVWXYZ" : Str) = mk cUpp := by decide +kernel
theorem s_dig : ("0123456789" : Str) = mk cDig := by decide +kernel
theorem s_all : ("abcdefghijklmnopqrstuvwxyzABCDEFGHIJKLMNOPQRSTUVWXYZ0123456789" : Str) = mk (cLow ++ cUpp ++ cDig) := by decide +kernel
def isW (l : List Nat) : Bool := decide (1 ≤ l.length) && decide (l.length ≤ 6) && l.all fun c => decide (c ∈ cLow ++ cUpp ++ cDig)
def isX (first : List Nat) (l : List Nat) : Bool := isW l && (match l with
  | c :: _ => decide (c ∈ first)
  | [] => false)
abbrev isSg := isX cLow
abbrev isNm := isX cUpp
theorem add_low : opAdd (.fz (.str "abcdefghijklmnopqrstuvwxyz")) (.fz (.str "ABCDEFGHIJKLMNOPQRSTUVWXYZ")) = .ok (.fz (.str (mk (cLow ++ cUpp)))) := by
  rw [s_low, s_upp, opAdd_str, if_pos (size_big (by decide))]
  rfl
theorem add_dig : opAdd (.fz (.str (mk (cLow ++ cUpp)))) (.fz (.str "0123456789")) = .ok (.fz (.str (mk (cLow ++ cUpp ++ cDig)))) := by
  rw [s_dig, opAdd_str, if_pos (size_big (by decide))]
  rfl
theorem ev_is_word (l : List Nat) (h : l.length ≤ 16777216) : F_is_word [.str (mk l)] = .ok (.fz (.bl (isW l))) := by
  unfold F_is_word runB b_is_word mRet onE mAndV mChn
  simp only [mCall, mCons, mNil, mV, mC, rdSlot, List.map_cons, List.map_nil, List.length_cons, List.length_nil, List.cons_append, List.nil_append, List.getD_cons_zero, Rz.ok_bind, EV.fr_fz, gLen_mk l h, opO_int, asB_bl]
  have e1 : mLc (mItems (mV 0)) (pName 1) mYes e1_is_word [1] (SL.val (.str (mk l)) :: List.replicate (2 - (0 + 1)) SL.no) =
      .ok (.ow true (.lst ((l.map fun c => decide (c ∈ cLow ++ cUpp ++ cDig)).map .bl))) := by
    rw [List.map_map]
    refine mLc_all (en := fun c => .str ⟨#[c]⟩) ?_ (fun c _ => ⟨.fz (.bl (decide (c ∈ cLow ++ cUpp ++ cDig))), ?_, rfl⟩) (size_big h)
    · simp [mItems, mV, rdSlot]
    · simp only [e1_is_word, m2, mV, mC, Rz.ok_bind, add_low, add_dig]
      exact in_sign c _
  by_cases h1 : 1 ≤ l.length
  · have h1' : (1 : Int) ≤ (l.length : Int) := by omega
    simp only [h1', decide_true, if_true, Rz.ok_bind, asB_bl]
    by_cases h2 : l.length ≤ 6
    · have h2' : (l.length : Int) ≤ 6 := by omega
      simp only [h2', decide_true, if_true, e1, Rz.ok_bind, EV.fr_new, OW.d_lst, gAll_map]
      simp [isW, h1, h2, Function.comp_def]
    · have h2' : ¬ (l.length : Int) ≤ 6 := by omega
      simp [h2', isW, h2]
  · have h1' : ¬ (1 : Int) ≤ (l.length : Int) := by omega
    simp [h1', isW, h1]
theorem isW_cons {l : List Nat} (h : isW l = true) : ∃ c r, l = c :: r := by
  cases l with
  | nil => cases h
  | cons c r => exact ⟨c, r, rfl⟩
theorem appF_one {F : Fn} {d r : D} (h : F [d] = .ok (.fz r)) : appF F [.fz d] = .ok (.fz r) := by
  unfold appF
  rw [show [EV.fz d].map EV.d = [d] from rfl, h]
  rfl
theorem appF_two {F : Fn} {d e r : D} (h : F [d, e] = .ok (.fz r)) : appF F [.fz d, .fz e] = .ok (.fz r) := by
  unfold appF
  rw [show [EV.fz d, EV.fz e].map EV.d = [d, e] from rfl, h]
  rfl
theorem ev_is_sign (l : List Nat) (h : l.length ≤ 16777216) : F_is_sign [.str (mk l)] = .ok (.fz (.bl (isSg l))) := by
  unfold F_is_sign runB b_is_sign mRet onE mAndV mFn
  simp only [mCons, mNil, mV, mC, rdSlot, List.map_cons, List.map_nil, List.length_cons, List.length_nil, List.cons_append, List.nil_append, List.getD_cons_zero, Rz.ok_bind, EV.fr_fz, if_true, m2, appF_one (ev_is_word l h), asB_bl]
  by_cases hw : isW l = true
  · obtain ⟨c, r, rfl⟩ := isW_cons hw
    simp only [hw, if_true, ix0_mk c r h, Rz.ok_bind, s_low, in_sign]
    simp [isX, hw]
  · have hw' : isW l = false := by simpa using hw
    simp [hw', isSg, isX]
theorem ev_is_name (l : List Nat) (h : l.length ≤ 16777216) : F_is_name [.str (mk l)] = .ok (.fz (.bl (isNm l))) := by
  unfold F_is_name runB b_is_name mRet onE mAndV mFn
  simp only [mCons, mNil, mV, mC, rdSlot, List.map_cons, List.map_nil, List.length_cons, List.length_nil, List.cons_append, List.nil_append, List.getD_cons_zero, Rz.ok_bind, EV.fr_fz, if_true, m2, appF_one (ev_is_word l h), asB_bl]
  by_cases hw : isW l = true
  · obtain ⟨c, r, rfl⟩ := isW_cons hw
    simp only [hw, if_true, ix0_mk c r h, Rz.ok_bind, s_upp, in_sign]
    simp [isX, hw]
  · have hw' : isW l = false := by simpa using hw
    simp [hw', isNm, isX]

def bigCell : Int := 1000001002002001005001004003000000000002001000003001002003000000002000000000000003001
def cellOf (ns : List Int) (i : Nat) : Int := match ns[i]? with
  | some n => if n < 0 then -n else n
  | none => bigCell
theorem cellOf_nn (ns : List Int) (i : Nat) : 0 ≤ cellOf ns i := by
  unfold cellOf
  split
  · split <;> omega
  · decide
theorem ev_cell (ns : List Int) (i : Nat) : F__law_cell [.scr ns, .int i] = .ok (.fz (.int (cellOf ns i))) := by
  unfold F__law_cell runB b__law_cell mSeq mIfS mRet onE mB
  simp only [mCall, mCons, mNil, mV, mC, m2, rdSlot, List.map_cons, List.map_nil, List.length_cons, List.length_nil, List.cons_append, List.nil_append, List.getD_cons_zero, List.getD_cons_succ, Rz.ok_bind, EV.fr_fz, gLen_scr, opO_int, asB_bl]
  by_cases h : i < ns.length
  · have h' : (i : Int) < (ns.length : Int) := by omega
    have e : ns[i]? = some ns[i] := List.getElem?_eq_getElem h
    simp only [h', decide_true, if_true, ix_scr ns i _ e, Rz.ok_bind, EV.fr_fz]
    simp [absD, cellOf, e]
  · have h' : ¬ (i : Int) < (ns.length : Int) := by omega
    have e : ns[i]? = none := List.getElem?_eq_none (by omega)
    simp [h', cellOf, e, bigCell]
def drawsFrom (cell : Int) : Nat → Nat → Int → List Int
  | 0, _, _ => []
  | n + 1, k, left => if 1000000000000000000 ≤ cell ∧ 0 < left then left % 1000 :: drawsFrom cell n (k + 1) (left / 1000)
    else ((((cell + 3) * ((k : Int) + 5) * 7919 % 100003) * ((cell + 3) * ((k : Int) + 5) * 7919 % 100003) + cell + 11 * (k : Int)) % 99991 / 100) :: drawsFrom cell n (k + 1) left
def draws (cell : Int) (n : Nat) : List Int := drawsFrom cell n 0 cell
theorem drawsFrom_length (cell : Int) : ∀ (n k : Nat) (left : Int), (drawsFrom cell n k left).length = n
  | 0, _, _ => rfl
  | n + 1, k, left => by
    unfold drawsFrom
    split <;> simp [drawsFrom_length cell n]
theorem draws_length (cell : Int) (n : Nat) : (draws cell n).length = n := drawsFrom_length cell n 0 cell
theorem drawsFrom_nn (cell : Int) : ∀ (n k : Nat) (left : Int), ∀ x ∈ drawsFrom cell n k left, 0 ≤ x ∧ x < 1000
  | 0, _, _, x, h => by cases h
  | n + 1, k, left, x, h => by
    unfold drawsFrom at h
    split at h
    · rcases List.mem_cons.mp h with rfl | h
      · exact ⟨Int.emod_nonneg _ (by decide), Int.emod_lt_of_pos _ (by decide)⟩
      · exact drawsFrom_nn cell n _ _ x h
    · rcases List.mem_cons.mp h with rfl | h
      · generalize ((cell + 3) * ((k : Int) + 5) * 7919 % 100003) * ((cell + 3) * ((k : Int) + 5) * 7919 % 100003) + cell + 11 * (k : Int) = z
        have h1 := Int.emod_nonneg z (show (99991 : Int) ≠ 0 by decide)
        have h2 := Int.emod_lt_of_pos z (show (0 : Int) < 99991 by decide)
        omega
      · exact drawsFrom_nn cell n _ _ x h
theorem draws_nn (cell : Int) (n : Nat) : ∀ x ∈ draws cell n, 0 ≤ x ∧ x < 1000 := drawsFrom_nn cell n 0 cell
def DrInv (cell : Int) (n : Nat) (i : Nat) (e : DL.Env) : Prop := ∃ (row : List Int) (left : Int) (v4 v5 : SL), e = [.val (.int cell), .val (.int n), .own (.lst (row.map .int)), .val (.int left), v4, v5] ∧ row.length = i ∧ row ++ drawsFrom cell (n - i) i left = draws cell n
theorem mul_small {i j : Int} (h : j.natAbs < 18446744073709551616) : opMul (.fz (.int i)) (.fz (.int j)) = .ok (.fz (.int (i * j))) := by
  unfold opMul
  rw [opI_int, if_pos (by
    rw [Bool.or_eq_true, decide_eq_true_eq, decide_eq_true_eq]
    exact .inr h)]
theorem div_small {i j : Int} (h : 0 < j ∧ j < 1073741824) : opDiv (.fz (.int i)) (.fz (.int j)) = .ok (.fz (.int (i / j))) := by
  unfold opDiv
  rw [opI_int, if_pos (by rw [Bool.and_eq_true, decide_eq_true_eq, decide_eq_true_eq]; exact h)]
theorem mod_pos {i j : Int} (h : 0 < j) : opMod (.fz (.int i)) (.fz (.int j)) = .ok (.fz (.int (i % j))) := by
  unfold opMod
  rw [opI_int, if_pos (by rw [decide_eq_true_eq]; exact h)]
theorem sub_ints (i j : Int) : opSub (.fz (.int i)) (.fz (.int j)) = .ok (.fz (.int (i - j))) := rfl
theorem pow_18 : opPow (.fz (.int 10)) (.fz (.int 18)) = .ok (.fz (.int 1000000000000000000)) := by
  unfold opPow
  rw [opI_int, if_pos (by decide +kernel), show (10 : Int) ^ (18 : Int).toNat = 1000000000000000000 by decide +kernel]
theorem int_int (i : Int) : gInt [.fz (.int i)] = .ok (.fz (.int i)) := rfl
theorem app_ok {i : Nat} {m : DL.Env → Rz EV} {env : DL.Env} {ds : List D} {a : EV} {d : D} (h : env.getD i .no = .own (.lst ds)) (hm : m env = .ok a) (hf : a.fr = .fz d) (hl : ds.length < sizeLine) : mApp i m env = .nx (env.set i (.own (.lst (ds ++ [d])))) := by
  unfold mApp
  rw [h]
  dsimp only
  rw [hm]
  dsimp only
  rw [hf]
  dsimp only
  rw [if_pos hl]
theorem setF_ok {i : Nat} {m : DL.Env → Rz EV} {env : DL.Env} {a : EV} {d : D} (hm : m env = .ok a) (hf : a.fr = .fz d) : mSetF i m env = .nx (env.set i (.val d)) := by
  unfold mSetF onE
  rw [hm]
  dsimp only
  unfold stF
  rw [hf]
theorem setO_ok {i : Nat} {m : DL.Env → Rz EV} {env : DL.Env} {w : OW} (hm : m env = .ok (.ow true w)) : mSetO i m env = .nx (env.set i (.own w)) := by
  unfold mSetO onE
  rw [hm]
  rfl
theorem seq_ok {a b : DL.Env → Out} {env e : DL.Env} (h : a env = .nx e) : mSeq a b env = b e := by
  unfold mSeq
  rw [h]
theorem seq_ret {a b : DL.Env → Out} {env : DL.Env} {ev : EV} (h : a env = .ret ev) : mSeq a b env = .ret ev := by
  unfold mSeq
  rw [h]
theorem ifT {t : DL.Env → Rz Bool} {a b : DL.Env → Out} {env : DL.Env} (h : t env = .ok true) : mIfS t a b env = a env := by
  unfold mIfS
  rw [h]
  rfl
theorem ifF {t : DL.Env → Rz Bool} {a b : DL.Env → Out} {env : DL.Env} (h : t env = .ok false) : mIfS t a b env = b env := by
  unfold mIfS
  rw [h]
  rfl
theorem for_ok {it : DL.Env → Rz (List D)} {p : D → DL.Env → Rz DL.Env} {b : DL.Env → Out} {env : DL.Env} {ds : List D} (h : it env = .ok ds) : mFor it p b env = forF p b ds env := by
  unfold mFor
  rw [h]
theorem rng1_ok {a : DL.Env → Rz EV} {env : DL.Env} {n : Nat} (h : a env = .ok (.fz (.int n))) (hn : n < 4611686018427387904) : mRng1 (mCons a mNil) env = .ok ((List.range n).map fun (i : Nat) => .int i) := by
  unfold mRng1 mCons mNil
  rw [h]
  simp only [Rz.ok_bind, EV.fr_fz]
  rw [if_pos (by rw [Int.natAbs_natCast]; exact hn)]
  unfold DL.upTo
  rw [Int.toNat_natCast]
  simp only [Int.zero_add]
theorem drBody_hi {cell left : Int} {n x : Nat} {row : List Int} {v5 : SL} (h1 : 1000000000000000000 ≤ cell) (h2 : 0 < left) (hl : row.length < sizeLine) :
    l1__law_draws [.val (.int cell), .val (.int n), .own (.lst (row.map .int)), .val (.int left), .val (.int x), v5] = .nx [.val (.int cell), .val (.int n), .own (.lst ((row ++ [left % 1000]).map .int)), .val (.int (left / 1000)), .val (.int x), v5] := by
  unfold l1__law_draws
  rw [ifT (by simp only [mAnd, mB, m2, mV, mC, rdSlot, List.getD_cons_zero, List.getD_cons_succ, Rz.ok_bind, pow_18, opO_int, asB_bl, decide_eq_true h1, decide_eq_true h2, if_true]),
    seq_ok (app_ok (ds := row.map .int) (a := .fz (.int (left % 1000))) rfl (by simp only [m2, mCall, mCons, mNil, mV, mC, rdSlot, List.getD_cons_zero, List.getD_cons_succ, Rz.ok_bind, EV.fr_fz, int_int, mod_pos (show (0 : Int) < 1000 by decide)]) rfl (by rw [List.length_map]; exact hl)),
    setF_ok (a := .fz (.int (left / 1000))) (by simp only [m2, mV, mC, rdSlot, List.set_cons_zero, List.set_cons_succ, List.getD_cons_zero, List.getD_cons_succ, Rz.ok_bind, div_small (show (0 : Int) < 1000 ∧ (1000 : Int) < 1073741824 by decide)]) rfl]
  simp
theorem drBody_lo {cell left : Int} {n x : Nat} {row : List Int} {v5 : SL} (h : ¬ (1000000000000000000 ≤ cell ∧ 0 < left)) (hx : x ≤ 1000) (hl : row.length < sizeLine) :
    l1__law_draws [.val (.int cell), .val (.int n), .own (.lst (row.map .int)), .val (.int left), .val (.int x), v5] = .nx [.val (.int cell), .val (.int n), .own (.lst ((row ++ [(((cell + 3) * ((x : Int) + 5) * 7919 % 100003) * ((cell + 3) * ((x : Int) + 5) * 7919 % 100003) + cell + 11 * (x : Int)) % 99991 / 100]).map .int)), .val (.int left), .val (.int x), .val (.int ((cell + 3) * ((x : Int) + 5) * 7919 % 100003))] := by
  have h4 : ((x : Int) + 5).natAbs < 18446744073709551616 := by omega
  have h5 : (x : Int).natAbs < 18446744073709551616 := by omega
  have h7 : (7919 : Int).natAbs < 18446744073709551616 := by decide
  have hl1 := Int.emod_nonneg ((cell + 3) * ((x : Int) + 5) * 7919) (show (100003 : Int) ≠ 0 by decide)
  have hl2 := Int.emod_lt_of_pos ((cell + 3) * ((x : Int) + 5) * 7919) (show (0 : Int) < 100003 by decide)
  unfold l1__law_draws
  rw [ifF (by
    simp only [mAnd, mB, m2, mV, mC, rdSlot, List.getD_cons_zero, List.getD_cons_succ, Rz.ok_bind, pow_18, opO_int, asB_bl]
    by_cases b1 : 1000000000000000000 ≤ cell
    · have b2 : ¬ 0 < left := fun z => h ⟨b1, z⟩
      simp only [decide_eq_true b1, decide_eq_false b2, if_true]
    · simp only [decide_eq_false b1, Bool.false_eq_true, if_false]),
    seq_ok (setF_ok (a := .fz (.int ((cell + 3) * ((x : Int) + 5) * 7919 % 100003))) (by
      simp only [m2, mCall, mCons, mNil, mV, mC, rdSlot, List.getD_cons_zero, List.getD_cons_succ, Rz.ok_bind, EV.fr_fz, int_int, opAdd_int, mul_small h4, mul_small h7, mod_pos (show (0 : Int) < 100003 by decide)]) rfl)]
  generalize (cell + 3) * ((x : Int) + 5) * 7919 % 100003 = z at hl1 hl2 ⊢
  have h6 : z.natAbs < 18446744073709551616 := by omega
  rw [app_ok (ds := row.map .int) (a := .fz (.int ((z * z + cell + 11 * (x : Int)) % 99991 / 100))) rfl (by
      simp only [m2, mCall, mCons, mNil, mV, mC, rdSlot, List.set_cons_zero, List.set_cons_succ, List.getD_cons_zero, List.getD_cons_succ, Rz.ok_bind, EV.fr_fz, int_int, opAdd_int, mul_small h5, mul_small h6, mod_pos (show (0 : Int) < 99991 by decide), div_small (show (0 : Int) < 100 ∧ (100 : Int) < 1073741824 by decide)]) rfl (by rw [List.length_map]; exact hl)]
  simp
theorem ev_draws (cell : Int) (n : Nat) (hn : n ≤ 1000) : F__law_draws [.int cell, .int n] = .ok (.ow false (.lst ((draws cell n).map .int))) := by
  unfold F__law_draws runB
  have e0 : b__law_draws ([D.int cell, .int n].map SL.val ++ List.replicate (6 - [D.int cell, .int n].length) SL.no) = .ret (.ow false (.lst ((draws cell n).map .int))) := by
    unfold b__law_draws
    rw [seq_ok (setO_ok (w := .lst []) rfl), seq_ok (setF_ok (a := .fz (.int cell)) rfl rfl)]
    rw [show (List.set (List.set (List.map SL.val [D.int cell, D.int n] ++ List.replicate (6 - [D.int cell, D.int n].length) SL.no) 2 (SL.own (OW.lst []))) 3 (.val (.int cell))) = [.val (.int cell), .val (.int n), .own (.lst []), .val (.int cell), .no, .no] from rfl]
    obtain ⟨e', h1, row, left, v4, v5, rfl, h2, h3⟩ := for_inv (p := pName 4) (b := l1__law_draws) (fun (i : Nat) => D.int i) (DrInv cell n) (List.range n) 0
      [.val (.int cell), .val (.int n), .own (.lst []), .val (.int cell), .no, .no] (by
        rintro i x e hx ⟨row, left, v4, v5, rfl, h2, h3⟩
        rw [Nat.zero_add] at h2 h3 ⊢
        have hi : i < n := by
          have := (List.getElem?_eq_some_iff.mp hx).1
          simpa using this
        have hxi : x = i := by
          have := (List.getElem?_eq_some_iff.mp hx).2
          simpa using this.symm
        subst hxi
        rw [show n - x = n - (x + 1) + 1 by omega, drawsFrom] at h3
        have hrow : row.length < sizeLine := Nat.lt_of_lt_of_le (by omega : row.length < 1001) (size_big (by decide))
        by_cases h18 : 1000000000000000000 ≤ cell ∧ 0 < left
        · rw [if_pos h18] at h3
          exact ⟨_, _, rfl, .inl (drBody_hi h18.1 h18.2 hrow), row ++ [left % 1000], left / 1000, _, _, rfl, by simp [h2], by rw [List.append_assoc]; exact h3⟩
        · rw [if_neg h18] at h3
          exact ⟨_, _, rfl, .inl (drBody_lo h18 (by omega) hrow), _, left, _, _, rfl, by simp [h2], by rw [List.append_assoc]; exact h3⟩) ⟨[], cell, .no, .no, rfl, rfl, rfl⟩
    rw [List.length_range, Nat.zero_add] at h2 h3
    rw [Nat.sub_self] at h3
    have h4 : row = draws cell n := by rw [← h3]; simp [drawsFrom]
    subst h4
    rw [seq_ok (by rw [for_ok (rng1_ok (n := n) rfl (by omega))]; exact h1)]
    rfl
  rw [e0]
theorem appF_ow2 {F : Fn} {d e : D} {b : Bool} {w : OW} (h : F [d, e] = .ok (.ow b w)) : appF F [.fz d, .fz e] = .ok (.ow true w) := by
  unfold appF
  rw [show [EV.fz d, EV.fz e].map EV.d = [d, e] from rfl, h]
  rfl
theorem appF_ow1 {F : Fn} {d : D} {b : Bool} {w : OW} (h : F [d] = .ok (.ow b w)) : appF F [.fz d] = .ok (.ow true w) := by
  unfold appF
  rw [show [EV.fz d].map EV.d = [d] from rfl, h]
  rfl
theorem ap_draws (cell : Int) (n : Nat) (hn : n ≤ 1000) : ∃ ds : List Nat, appF F__law_draws [.fz (.int cell), .fz (.int n)] = .ok (.ow true (.lst (ds.map fun (k : Nat) => .int k))) ∧ ds.length = n ∧ ∀ x ∈ ds, x < 1000 := by
  refine ⟨(draws cell n).map Int.toNat, ?_, by rw [List.length_map, draws_length], fun x hx => ?_⟩
  · rw [appF_ow2 (ev_draws cell n hn), List.map_map]
    congr 3
    apply List.map_congr_left
    intro x hx
    have := (draws_nn cell n x hx).1
    show D.int x = D.int ((x.toNat : Nat) : Int)
    rw [Int.toNat_of_nonneg this]
  · obtain ⟨y, hy, rfl⟩ := List.mem_map.mp hx
    have := draws_nn cell n y hy
    omega
theorem ix_nat (ds : List Nat) (i : Nat) (h : i < ds.length) : opIx (.fz (.lst (ds.map fun (k : Nat) => .int k))) (.fz (.int i)) = .ok (.fz (.int (ds[i] : Nat))) := by
  apply ix_lst
  rw [List.getElem?_map, List.getElem?_eq_getElem h]
  rfl
theorem mod_nat (a b : Nat) (h : 0 < b) : opMod (.fz (.int (a : Nat))) (.fz (.int (b : Nat))) = .ok (.fz (.int ((a % b : Nat) : Int))) := by
  rw [mod_pos (by omega)]
  rfl
theorem add_nat (a b : Nat) : opAdd (.fz (.int (a : Nat))) (.fz (.int (b : Nat))) = .ok (.fz (.int ((a + b : Nat) : Int))) := by
  rw [opAdd_int]
  rfl
end LW
namespace LW.K01
open PySem PySem.Spec PyProof.Rows L2 DL
def top (i : Nat) : Stmt := PySem.Challenge.pw_awaitbook_k01_words_that_are_signs_or_na.main.body.getD i (.Pass ⟨0, 0, 0, 0⟩)
structure Tx (K : PySem.W.Frag) (mg : Str → Option Value) (C : Str → Option Addr) : Prop where
  n_abs : mg "abs" = none
  n_all : mg "all" = none
  n_bool : mg "bool" = none
  n_int : mg "int" = none
  n_isinstance : mg "isinstance" = none
  n_len : mg "len" = none
  n_max : mg "max" = none
  n_range : mg "range" = none
  c_LOWER : ∃ t, mg "LOWER" = some (.str "abcdefghijklmnopqrstuvwxyz" t)
  c_UPPER : ∃ t, mg "UPPER" = some (.str "ABCDEFGHIJKLMNOPQRSTUVWXYZ" t)
  c_DIGITS : ∃ t, mg "DIGITS" = some (.str "0123456789" t)
  g_is_word : mg "is_word" = some (.ref (He.ga K "is_word"))
  u_is_word : ∃ fd, FunD K "is_word" "is_word" (defArgs (top 4)) (defBody (top 4)) (defScope (top 4)) [] [] (He.ga K "is_word") fd
  g_is_sign : mg "is_sign" = some (.ref (He.ga K "is_sign"))
  u_is_sign : ∃ fd, FunD K "is_sign" "is_sign" (defArgs (top 5)) (defBody (top 5)) (defScope (top 5)) [] [] (He.ga K "is_sign") fd
  g_is_name : mg "is_name" = some (.ref (He.ga K "is_name"))
  u_is_name : ∃ fd, FunD K "is_name" "is_name" (defArgs (top 6)) (defBody (top 6)) (defScope (top 6)) [] [] (He.ga K "is_name") fd
  g__law_cell : mg "_law_cell" = some (.ref (He.ga K "_law_cell"))
  u__law_cell : ∃ fd, FunD K "_law_cell" "_law_cell" (defArgs (top 8)) (defBody (top 8)) (defScope (top 8)) [] [] (He.ga K "_law_cell") fd
  g__law_draws : mg "_law_draws" = some (.ref (He.ga K "_law_draws"))
  u__law_draws : ∃ fd, FunD K "_law_draws" "_law_draws" (defArgs (top 9)) (defBody (top 9)) (defScope (top 9)) [] [] (He.ga K "_law_draws") fd
  g__law_written : mg "_law_written" = some (.ref (He.ga K "_law_written"))
  u__law_written : ∃ fd, FunD K "_law_written" "_law_written" (defArgs (top 10)) (defBody (top 10)) (defScope (top 10)) [] [] (He.ga K "_law_written") fd
  g__law_agrees : mg "_law_agrees" = some (.ref (He.ga K "_law_agrees"))
  u__law_agrees : ∃ fd, FunD K "_law_agrees" "_law_agrees" (defArgs (top 11)) (defBody (top 11)) (defScope (top 11)) [] [] (He.ga K "_law_agrees") fd
section
variable {P : Program} {w : World} {K : PySem.W.Frag} {mg : Str → Option Value} {base : Heap} {C : Str → Option Addr}
abbrev s_is_word : Stmt := top 4
abbrev N_is_word : List Str := ["word", "char"]
theorem sc_is_word : FnScope N_is_word ["word"] (defScope s_is_word) := ⟨rfl, rfl, rfl, by decide +kernel, rfl, by decide +kernel, by decide +kernel⟩
theorem ok_is_word (T : Tx K mg C) : FnG P w ⟨K, C⟩ mg base 1 "is_word" ["word"] F_is_word := by
  refine fn_global (N := N_is_word) (b := b_is_word) T.u_is_word T.g_is_word sc_is_word (by decide) (fun _ _ _ _ _ _ us hl => match us, hl with | [_], _ => rfl) (fun cdv A outer s H E hr hp tk => ?_)
  have nd := sc_is_word.nd
  have hu4 := hr.units
  have hu5 := room5 hr
  exact (dss_one (ds_ret (de_and (de_chain od_le ne_opO od_le ne_opO de_int (de_callB cd_len ne_g1 T.n_len (by decide +kernel) (da_cons (de_var 0) da_nil)) de_int (fun _ _ _ _ _ h1 h2 h3 h4 h5 => pe_chain h1 h2 h3 h4 h5)) (de_one (de_callB (cd_all rfl) ne_g1 T.n_all (by decide +kernel) (da_cons (de_lc nd (di_seq (de_var 0)) (blkOk_by (own := [("char", 1)]) (N := N_is_word) (sc := defScope s_is_word) (by decide +kernel)) rfl (by decide) (fun _ _ _ _ _ => (dg_name nd (i := 1))) (fun _ _ _ _ _ => dts_nil) (fun _ _ _ _ _ => (de_cmp (od_in hu5) ne_in (de_var 1) (de_op od_add ne_add (de_op od_add ne_add (de_gS T.c_LOWER) (de_gS T.c_UPPER)) (de_gS T.c_DIGITS))))) da_nil))))))
abbrev s_is_sign : Stmt := top 5
abbrev N_is_sign : List Str := ["word"]
theorem sc_is_sign : FnScope N_is_sign ["word"] (defScope s_is_sign) := ⟨rfl, rfl, rfl, by decide +kernel, rfl, by decide +kernel, by decide +kernel⟩
theorem ok_is_sign (T : Tx K mg C) (O_is_word : FnG P w ⟨K, C⟩ mg base 1 "is_word" ["word"] F_is_word) : FnG P w ⟨K, C⟩ mg base 2 "is_sign" ["word"] F_is_sign := by
  refine fn_global (N := N_is_sign) (b := b_is_sign) T.u_is_sign T.g_is_sign sc_is_sign (by decide) (fun _ _ _ _ _ _ us hl => match us, hl with | [_], _ => rfl) (fun cdv A outer s H E hr hp tk => ?_)
  have nd := sc_is_sign.nd
  have hu4 := hr.units
  have hu5 := room5 hr
  exact (dss_one (ds_ret (de_and (de_call O_is_word (hr.mono (by decide)) tk (da_cons (de_var 0) da_nil)) (de_one (de_cmp (od_in hu5) ne_in (de_ix (de_var 0) de_int) (de_gS T.c_LOWER))))))
abbrev s_is_name : Stmt := top 6
abbrev N_is_name : List Str := ["word"]
theorem sc_is_name : FnScope N_is_name ["word"] (defScope s_is_name) := ⟨rfl, rfl, rfl, by decide +kernel, rfl, by decide +kernel, by decide +kernel⟩
theorem ok_is_name (T : Tx K mg C) (O_is_word : FnG P w ⟨K, C⟩ mg base 1 "is_word" ["word"] F_is_word) : FnG P w ⟨K, C⟩ mg base 2 "is_name" ["word"] F_is_name := by
  refine fn_global (N := N_is_name) (b := b_is_name) T.u_is_name T.g_is_name sc_is_name (by decide) (fun _ _ _ _ _ _ us hl => match us, hl with | [_], _ => rfl) (fun cdv A outer s H E hr hp tk => ?_)
  have nd := sc_is_name.nd
  have hu4 := hr.units
  have hu5 := room5 hr
  exact (dss_one (ds_ret (de_and (de_call O_is_word (hr.mono (by decide)) tk (da_cons (de_var 0) da_nil)) (de_one (de_cmp (od_in hu5) ne_in (de_ix (de_var 0) de_int) (de_gS T.c_UPPER))))))
abbrev s__law_cell : Stmt := top 8
abbrev N__law_cell : List Str := ["_law_script", "_law_at"]
theorem sc__law_cell : FnScope N__law_cell ["_law_script", "_law_at"] (defScope s__law_cell) := ⟨rfl, rfl, rfl, by decide +kernel, rfl, by decide +kernel, by decide +kernel⟩
theorem ok__law_cell (T : Tx K mg C) : FnG P w ⟨K, C⟩ mg base 1 "_law_cell" ["_law_script", "_law_at"] F__law_cell := by
  refine fn_global (N := N__law_cell) (b := b__law_cell) T.u__law_cell T.g__law_cell sc__law_cell (by decide) (fun _ _ _ _ _ _ us hl => match us, hl with | [_, _], _ => rfl) (fun cdv A outer s H E hr hp tk => ?_)
  have nd := sc__law_cell.nd
  have hu4 := hr.units
  have hu5 := room5 hr
  exact (dss_cons (ds_if (dt_cmp od_lt ne_opO (de_var 1) (de_callB cd_len ne_g1 T.n_len (by decide +kernel) (da_cons (de_var 0) da_nil)))
      (dss_one (ds_ret (de_callB cd_abs ne_g1 T.n_abs (by decide +kernel) (da_cons (de_ix (de_var 0) (de_var 1)) da_nil))))
      dss_nil)
    (dss_one (ds_ret de_int)))
abbrev s__law_draws : Stmt := top 9
abbrev N__law_draws : List Str := ["_law_cell_here", "_law_count", "_law_row", "_law_left", "_law_k", "_law_low"]
theorem sc__law_draws : FnScope N__law_draws ["_law_cell_here", "_law_count"] (defScope s__law_draws) := ⟨rfl, rfl, rfl, by decide +kernel, rfl, by decide +kernel, by decide +kernel⟩
theorem ok__law_draws (T : Tx K mg C) : FnG P w ⟨K, C⟩ mg base 1 "_law_draws" ["_law_cell_here", "_law_count"] F__law_draws := by
  refine fn_global (N := N__law_draws) (b := b__law_draws) T.u__law_draws T.g__law_draws sc__law_draws (by decide) (fun _ _ _ _ _ _ us hl => match us, hl with | [_, _], _ => rfl) (fun cdv A outer s H E hr hp tk => ?_)
  have nd := sc__law_draws.nd
  have hu4 := hr.units
  have hu5 := room5 hr
  exact (dss_cons (ds_setO (i := 2) (de_lst da_nil) nd)
    (dss_cons (ds_setF (i := 3) (de_var 0) nd)
    (dss_cons (ds_for hp (di_range1 T.n_range (da_cons (de_var 1) da_nil)) (dg_name nd (i := 4))
      (dss_one (ds_if (DW.dt (dw_and (dt_cmp od_ge ne_opO (de_var 0) (de_op od_pow ne_opI de_int de_int)) (dw_and1 (dt_cmp od_gt ne_opO (de_var 3) de_int))))
        (dss_cons (ds_app 2 (de_op od_mod ne_opI (de_callTy cd_int ne_g1 T.n_int (by decide +kernel) (da_cons (de_var 3) da_nil)) de_int))
        (dss_one (ds_setF (i := 3) (de_op od_div ne_opI (de_var 3) de_int) nd)))
        (dss_cons (ds_setF (i := 5) (de_op od_mod ne_opI (de_callTy cd_int ne_g1 T.n_int (by decide +kernel) (da_cons (de_op od_mul ne_opI (de_op od_mul ne_opI (de_op od_add ne_add (de_var 0) de_int) (de_op od_add ne_add (de_var 4) de_int)) de_int) da_nil)) de_int) nd)
        (dss_one (ds_app 2 (de_op od_div ne_opI (de_op od_mod ne_opI (de_callTy cd_int ne_g1 T.n_int (by decide +kernel) (da_cons (de_op od_add ne_add (de_op od_add ne_add (de_op od_mul ne_opI (de_var 5) (de_var 5)) (de_var 0)) (de_op od_mul ne_opI de_int (de_var 4))) da_nil)) de_int) de_int)))))))
    (dss_one (ds_ret (de_var 2))))))
abbrev s__law_written : Stmt := top 10
abbrev N__law_written : List Str := ["_law_word", "_law_firsts", "_law_letters", "_law_x"]
theorem sc__law_written : FnScope N__law_written ["_law_word", "_law_firsts"] (defScope s__law_written) := ⟨rfl, rfl, rfl, by decide +kernel, rfl, by decide +kernel, by decide +kernel⟩
def e1__law_written : DL.Env → Rz EV :=
    (m2 (mV 3) (mV 2) opIn)
def b__law_written : DL.Env → Out :=
    (mSeq (mSetF 2 (mC (.str "abcdefghijklmnopqrstuvwxyzABCDEFGHIJKLMNOPQRSTUVWXYZ0123456789")))
    (mSeq (mIfS (mOr (mB (m2 (mCall (mCons (mV 0) mNil) gLen) (mC (.int 1)) opLt)) (mOr (mB (m2 (mCall (mCons (mV 0) mNil) gLen) (mC (.int 6)) opGt)) (mB (m2 (m2 (mV 0) (mC (.int 0)) opIx) (mV 1) opNi))))
      (mRet (mC (.bl false)))
      Out.nx)
    (mRet (mCall (mCons (mLc (mItems (mV 0)) (pName 3) mYes e1__law_written [3]) mNil) gAll))))
def F__law_written : Fn := runB 4 b__law_written
theorem ok__law_written (T : Tx K mg C) : FnG P w ⟨K, C⟩ mg base 1 "_law_written" ["_law_word", "_law_firsts"] F__law_written := by
  refine fn_global (N := N__law_written) (b := b__law_written) T.u__law_written T.g__law_written sc__law_written (by decide) (fun _ _ _ _ _ _ us hl => match us, hl with | [_, _], _ => rfl) (fun cdv A outer s H E hr hp tk => ?_)
  have nd := sc__law_written.nd
  have hu4 := hr.units
  have hu5 := room5 hr
  exact (dss_cons (ds_setF (i := 2) de_str nd)
    (dss_cons (ds_if (DW.dt (dw_or (dt_cmp od_lt ne_opO (de_callB cd_len ne_g1 T.n_len (by decide +kernel) (da_cons (de_var 0) da_nil)) de_int) (dw_or (dt_cmp od_gt ne_opO (de_callB cd_len ne_g1 T.n_len (by decide +kernel) (da_cons (de_var 0) da_nil)) de_int) (dw_or1 (dt_cmp (od_ni hu5) ne_ni (de_ix (de_var 0) de_int) (de_var 1))))))
      (dss_one (ds_ret de_bl))
      dss_nil)
    (dss_one (ds_ret (de_callB (cd_all rfl) ne_g1 T.n_all (by decide +kernel) (da_cons (de_lc nd (di_seq (de_var 0)) (blkOk_by (own := [("_law_x", 3)]) (N := N__law_written) (sc := defScope s__law_written) (by decide +kernel)) rfl (by decide) (fun _ _ _ _ _ => (dg_name nd (i := 3))) (fun _ _ _ _ _ => dts_nil) (fun _ _ _ _ _ => (de_cmp (od_in hu5) ne_in (de_var 3) (de_var 2)))) da_nil))))))
abbrev s__law_agrees : Stmt := top 11
abbrev N__law_agrees : List Str := ["_law_word", "_law_sign", "_law_name"]
theorem sc__law_agrees : FnScope N__law_agrees ["_law_word"] (defScope s__law_agrees) := ⟨rfl, rfl, rfl, by decide +kernel, rfl, by decide +kernel, by decide +kernel⟩
def b__law_agrees : DL.Env → Out :=
    (mSeq (mPar 1 2 (mCons (mFn F_is_sign (mCons (mV 0) mNil) 1) (mCons (mFn F_is_name (mCons (mV 0) mNil) 1) mNil)))
    (mSeq (mIfS (mOr (mNot (mB (mCall (mCons (mV 1) (mCons (mC (.ty "bool")) mNil)) gIsi))) (mNot (mB (mCall (mCons (mV 2) (mCons (mC (.ty "bool")) mNil)) gIsi))))
      (mRet (mC (.bl false)))
      Out.nx)
    (mSeq (mIfS (mB (m2 (mV 1) (mFn F__law_written (mCons (mV 0) (mCons (mC (.str "abcdefghijklmnopqrstuvwxyz")) mNil)) 2) opNe))
      (mRet (mC (.bl false)))
      Out.nx)
    (mRet (m2 (mV 2) (mFn F__law_written (mCons (mV 0) (mCons (mC (.str "ABCDEFGHIJKLMNOPQRSTUVWXYZ")) mNil)) 2) opEq)))))
def F__law_agrees : Fn := runB 3 b__law_agrees
theorem ok__law_agrees (T : Tx K mg C) (O_is_name : FnG P w ⟨K, C⟩ mg base 2 "is_name" ["word"] F_is_name) (O_is_sign : FnG P w ⟨K, C⟩ mg base 2 "is_sign" ["word"] F_is_sign) (O__law_written : FnG P w ⟨K, C⟩ mg base 1 "_law_written" ["_law_word", "_law_firsts"] F__law_written) : FnG P w ⟨K, C⟩ mg base 3 "_law_agrees" ["_law_word"] F__law_agrees := by
  refine fn_global (N := N__law_agrees) (b := b__law_agrees) T.u__law_agrees T.g__law_agrees sc__law_agrees (by decide) (fun _ _ _ _ _ _ us hl => match us, hl with | [_], _ => rfl) (fun cdv A outer s H E hr hp tk => ?_)
  have nd := sc__law_agrees.nd
  have hu4 := hr.units
  have hu5 := room5 hr
  exact (dss_cons (ds_par (i := 1) (j := 2) (da_cons (de_call O_is_sign (hr.mono (by decide)) tk (da_cons (de_var 0) da_nil)) (da_cons (de_call O_is_name (hr.mono (by decide)) tk (da_cons (de_var 0) da_nil)) da_nil)) nd)
    (dss_cons (ds_if (DW.dt (dw_or (dt_not (dt_val (de_callB cd_isi ne_gIsi T.n_isinstance (by decide +kernel) (da_cons (de_var 1) (da_cons (de_bltn T.n_bool (by decide +kernel)) da_nil))))) (dw_or1 (dt_not (dt_val (de_callB cd_isi ne_gIsi T.n_isinstance (by decide +kernel) (da_cons (de_var 2) (da_cons (de_bltn T.n_bool (by decide +kernel)) da_nil))))))))
      (dss_one (ds_ret de_bl))
      dss_nil)
    (dss_cons (ds_if (dt_cmp (od_ne hu4) ne_ne (de_var 1) (de_call O__law_written (hr.mono (by decide)) tk (da_cons (de_var 0) (da_cons de_str da_nil))))
      (dss_one (ds_ret de_bl))
      dss_nil)
    (dss_one (ds_ret (de_cmp (od_eq hu4) ne_eq (de_var 2) (de_call O__law_written (hr.mono (by decide)) tk (da_cons (de_var 0) (da_cons de_str da_nil)))))))))
abbrev s_law : Stmt := top 12
abbrev N_law : List Str := ["_law_script", "_law_chars", "_law_plain", "_law_words", "_law_at", "_law_draws_here", "_law_pool", "_law_k", "_law_word"]
theorem sc_law : FnScope N_law ["_law_script"] (defScope s_law) := ⟨rfl, rfl, rfl, by decide +kernel, rfl, by decide +kernel, by decide +kernel⟩
def e1_law : DL.Env → Rz EV :=
    (m2 (mV 6) (m2 (mCall (mCons (m2 (mV 5) (m2 (mC (.int 2)) (mV 7) opAdd) opIx) mNil) gInt) (mCall (mCons (mV 6) mNil) gLen) opMod) opIx)
def l1_law : DL.Env → Out :=
    (mSeq (mSetF 5 (mFn F__law_draws (mCons (mFn F__law_cell (mCons (mV 0) (mCons (mV 4) mNil)) 2) (mCons (mC (.int 10)) mNil)) 2))
      (mSeq (mSetF 6 (mIf (mB (m2 (m2 (mCall (mCons (m2 (mV 5) (mC (.int 1)) opIx) mNil) gInt) (mC (.int 3)) opMod) (mC (.int 0)) opEq)) (mV 1) (mV 2)))
      (mApp 3 (mM1 (mC (.str "")) (mLc (mRng1 (mCons (m2 (mCall (mCons (m2 (mV 5) (mC (.int 0)) opIx) mNil) gInt) (mC (.int 9)) opMod) mNil)) (pName 7) mYes e1_law [7]) gJoin))))
def e2_law : DL.Env → Rz EV :=
    (mFn F__law_agrees (mCons (mV 8) mNil) 1)
def b_law : DL.Env → Out :=
    (mSeq (mSetF 1 (mC (.str " !\"#$&'()*+,-./0123456789:;<=>?@ABCDEFGHIJKLMNOPQRSTUVWXYZ[\\]^_`")))
    (mSeq (mSetF 1 (m2 (mV 1) (mC (.str "abcdefghijklmnopqrstuvwxyz{|}~\n")) opAdd))
    (mSeq (mSetF 2 (mC (.str "abcdefghijklmnopqrstuvwxyzABCDEFGHIJKLMNOPQRSTUVWXYZ0123456789")))
    (mSeq (mSetO 3 (mLst (mCons (mC (.str "")) (mCons (mC (.str "$")) (mCons (mC (.str "a")) (mCons (mC (.str "Z")) (mCons (mC (.str "z9")) (mCons (mC (.str "9z")) (mCons (mC (.str "0")) (mCons (mC (.str "abcdef")) (mCons (mC (.str "abcdefg")) (mCons (mC (.str "Ab0dEf")) (mCons (mC (.str "Ab0dEfg")) (mCons (mC (.str "a_b")) (mCons (mC (.str "a b")) (mCons (mC (.str " a")) (mCons (mC (.str "a\n")) (mCons (mC (.str "A-")) (mCons (mC (.str "aZ")) mNil)))))))))))))))))))
    (mSeq (mFor (mRng1 (mCons (mCall (mCons (mC (.int 1)) (mCons (mCall (mCons (mV 0) mNil) gLen) mNil)) gMax) mNil)) (pName 4)
      l1_law)
    (mFrz 3 (mRet (mCall (mCons (mLc (mItems (mV 3)) (pName 8) mYes e2_law [8]) mNil) gAll))))))))
def F_law : Fn := runB 9 b_law
theorem ok_law (T : Tx K mg C) {fd : FuncData} (U : FunD K "law" "law" (defArgs (top 12)) (defBody (top 12)) (defScope (top 12)) [] [] (He.ga K "law") fd) (O__law_draws : FnG P w ⟨K, C⟩ mg base 1 "_law_draws" ["_law_cell_here", "_law_count"] F__law_draws) (O__law_cell : FnG P w ⟨K, C⟩ mg base 1 "_law_cell" ["_law_script", "_law_at"] F__law_cell) (O__law_agrees : FnG P w ⟨K, C⟩ mg base 3 "_law_agrees" ["_law_word"] F__law_agrees) : FnOk P w K mg base (L2.CX P w) 4 (He.ga K "law") fd ["_law_script"] (spD ⟨K, C⟩ 1 F_law) := by
  refine fn_dataD (K := ⟨K, C⟩) (N := N_law) (b := b_law) U sc_law (by decide) (fun cdv A outer s H E hr hp tk => ?_)
  have nd := sc_law.nd
  have hu4 := hr.units
  have hu5 := room5 hr
  exact (dss_cons (ds_setF (i := 1) de_str nd)
    (dss_cons (ds_setF (i := 1) (de_op od_add ne_add (de_var 1) de_str) nd)
    (dss_cons (ds_setF (i := 2) de_str nd)
    (dss_cons (ds_setO (i := 3) (de_lst (da_cons de_str (da_cons de_str (da_cons de_str (da_cons de_str (da_cons de_str (da_cons de_str (da_cons de_str (da_cons de_str (da_cons de_str (da_cons de_str (da_cons de_str (da_cons de_str (da_cons de_str (da_cons de_str (da_cons de_str (da_cons de_str (da_cons de_str da_nil)))))))))))))))))) nd)
    (dss_cons (ds_for hp (di_range1 T.n_range (da_cons (de_callB (cd_max rfl) ne_gMM T.n_max (by decide +kernel) (da_cons de_int (da_cons (de_callB cd_len ne_g1 T.n_len (by decide +kernel) (da_cons (de_var 0) da_nil)) da_nil))) da_nil)) (dg_name nd (i := 4))
      (dss_cons (ds_setF (i := 5) (de_call O__law_draws (hr.mono (by decide)) tk (da_cons (de_call O__law_cell (hr.mono (by decide)) tk (da_cons (de_var 0) (da_cons (de_var 4) da_nil))) (da_cons de_int da_nil))) nd)
      (dss_cons (ds_setF (i := 6) (de_if (dt_cmp (od_eq hu4) ne_eq (de_op od_mod ne_opI (de_callTy cd_int ne_g1 T.n_int (by decide +kernel) (da_cons (de_ix (de_var 5) de_int) da_nil)) de_int) de_int) (de_var 1) (de_var 2)) nd)
      (dss_one (ds_app 3 (de_join de_str (de_lc nd (di_range1 T.n_range (da_cons (de_op od_mod ne_opI (de_callTy cd_int ne_g1 T.n_int (by decide +kernel) (da_cons (de_ix (de_var 5) de_int) da_nil)) de_int) da_nil)) (blkOk_by (own := [("_law_k", 7)]) (N := N_law) (sc := defScope s_law) (by decide +kernel)) rfl (by decide) (fun _ _ _ _ _ => (dg_name nd (i := 7))) (fun _ _ _ _ _ => dts_nil) (fun _ _ _ _ _ => (de_ix (de_var 6) (de_op od_mod ne_opI (de_callTy cd_int ne_g1 T.n_int (by decide +kernel) (da_cons (de_ix (de_var 5) (de_op od_add ne_add de_int (de_var 7))) da_nil)) (de_callB cd_len ne_g1 T.n_len (by decide +kernel) (da_cons (de_var 6) da_nil))))))))))))
    (dss_one (ds_frz 3 (ds_ret (de_callB (cd_all rfl) ne_g1 T.n_all (by decide +kernel) (da_cons (de_lc nd (di_seq (de_var 3)) (blkOk_by (own := [("_law_word", 8)]) (N := N_law) (sc := defScope s_law) (by decide +kernel)) rfl (by decide) (fun _ _ _ _ _ => (dg_name nd (i := 8))) (fun _ _ _ _ _ => dts_nil) (fun _ _ _ _ _ => (de_call O__law_agrees (hr.mono (by decide)) takes0 (da_cons (de_var 8) da_nil)))) da_nil))))))))))
theorem all_law (T : Tx K mg C) {fd : FuncData} (U : FunD K "law" "law" (defArgs (top 12)) (defBody (top 12)) (defScope (top 12)) [] [] (He.ga K "law") fd) : FnOk P w K mg base (L2.CX P w) 4 (He.ga K "law") fd ["_law_script"] (spD ⟨K, C⟩ 1 F_law) := by
  have O_is_word : FnG P w ⟨K, C⟩ mg base 1 "is_word" ["word"] F_is_word := ok_is_word T
  have O_is_sign : FnG P w ⟨K, C⟩ mg base 2 "is_sign" ["word"] F_is_sign := ok_is_sign T O_is_word
  have O_is_name : FnG P w ⟨K, C⟩ mg base 2 "is_name" ["word"] F_is_name := ok_is_name T O_is_word
  have O__law_cell : FnG P w ⟨K, C⟩ mg base 1 "_law_cell" ["_law_script", "_law_at"] F__law_cell := ok__law_cell T
  have O__law_draws : FnG P w ⟨K, C⟩ mg base 1 "_law_draws" ["_law_cell_here", "_law_count"] F__law_draws := ok__law_draws T
  have O__law_written : FnG P w ⟨K, C⟩ mg base 1 "_law_written" ["_law_word", "_law_firsts"] F__law_written := ok__law_written T
  have O__law_agrees : FnG P w ⟨K, C⟩ mg base 3 "_law_agrees" ["_law_word"] F__law_agrees := ok__law_agrees T O_is_name O_is_sign O__law_written
  exact ok_law T U O__law_draws O__law_cell O__law_agrees
end
end LW.K01
namespace LW.K01
open PySem L2 DL
theorem ev_written (l first : List Nat) (h : l.length ≤ 16777216) : F__law_written [.str (mk l), .str (mk first)] = .ok (.fz (.bl (isX first l))) := by
  unfold F__law_written runB b__law_written
  rw [seq_ok (setF_ok (a := .fz (.str (mk (cLow ++ cUpp ++ cDig)))) (by simp only [mC, s_all]) rfl)]
  rw [show (List.map SL.val [D.str (mk l), D.str (mk first)] ++ List.replicate (4 - [D.str (mk l), D.str (mk first)].length) SL.no).set 2 (.val (.str (mk (cLow ++ cUpp ++ cDig)))) = [.val (.str (mk l)), .val (.str (mk first)), .val (.str (mk (cLow ++ cUpp ++ cDig))), .no] from rfl]
  have e1 : mLc (mItems (mV 0)) (pName 3) mYes e1__law_written [3] [.val (.str (mk l)), .val (.str (mk first)), .val (.str (mk (cLow ++ cUpp ++ cDig))), .no] =
      .ok (.ow true (.lst ((l.map fun c => decide (c ∈ cLow ++ cUpp ++ cDig)).map .bl))) := by
    rw [List.map_map]
    refine mLc_all (en := fun c => .str ⟨#[c]⟩) ?_ (fun c _ => ⟨.fz (.bl (decide (c ∈ cLow ++ cUpp ++ cDig))), ?_, rfl⟩) (size_big h)
    · simp [mItems, mV, rdSlot]
    · simp only [e1__law_written, m2, mV, Rz.ok_bind, List.set_cons_zero, List.set_cons_succ, List.getD_cons_zero, List.getD_cons_succ, rdSlot]
      exact in_sign c _
  have hl : mCall (mCons (mV 0) mNil) gLen [.val (.str (mk l)), .val (.str (mk first)), .val (.str (mk (cLow ++ cUpp ++ cDig))), .no] = .ok (.fz (.int l.length)) := by
    simp only [mCall, mCons, mNil, mV, rdSlot, List.getD_cons_zero, Rz.ok_bind, EV.fr_fz, gLen_mk l h]
  by_cases h1 : l.length < 1
  · rw [seq_ret (ev := .fz (.bl false)) (by
      rw [ifT (by
        have : (l.length : Int) < 1 := by omega
        simp only [mOr, mB, m2, hl, mC, Rz.ok_bind, opO_int, asB_bl, this, decide_true, if_true])]
      rfl)]
    simp [isX, isW, show ¬ 1 ≤ l.length by omega]
  by_cases h2 : 6 < l.length
  · rw [seq_ret (ev := .fz (.bl false)) (by
      rw [ifT (by
        have a1 : ¬ (l.length : Int) < 1 := by omega
        have a2 : (6 : Int) < (l.length : Int) := by omega
        simp only [mOr, mB, m2, hl, mC, Rz.ok_bind, opO_int, asB_bl, a1, a2, decide_true, decide_false, if_true, if_false, Bool.false_eq_true])]
      rfl)]
    simp [isX, isW, show ¬ l.length ≤ 6 by omega]
  obtain ⟨c, r, rfl⟩ : ∃ c r, l = c :: r := by
    cases l with
    | nil => simp at h1
    | cons c r => exact ⟨c, r, rfl⟩
  have hif : (mOr (mB (m2 (mCall (mCons (mV 0) mNil) gLen) (mC (.int 1)) opLt)) (mOr (mB (m2 (mCall (mCons (mV 0) mNil) gLen) (mC (.int 6)) opGt)) (mB (m2 (m2 (mV 0) (mC (.int 0)) opIx) (mV 1) opNi)))) [.val (.str (mk (c :: r))), .val (.str (mk first)), .val (.str (mk (cLow ++ cUpp ++ cDig))), .no] = .ok (!decide (c ∈ first)) := by
    have a1 : ¬ (((c :: r).length : Nat) : Int) < 1 := by omega
    have a2 : ¬ (6 : Int) < (((c :: r).length : Nat) : Int) := by omega
    simp only [mOr, mB, m2, hl, mC, mV, rdSlot, List.getD_cons_zero, List.getD_cons_succ, Rz.ok_bind, opO_int, asB_bl, a1, a2, decide_false, if_false, Bool.false_eq_true, ix0_mk c r h, ni_sign]
  by_cases h3 : c ∈ first
  · rw [seq_ok (by rw [ifF (by rw [hif]; simp [h3])])]
    unfold mRet onE
    simp only [mCall, mCons, mNil, e1, Rz.ok_bind, EV.fr_new, OW.d_lst, gAll_map]
    simp only [isX, isW, h3, decide_true, Bool.and_true, List.all_map, Function.comp_def, id]
    rw [decide_eq_true (show 1 ≤ (c :: r).length by omega), decide_eq_true (show (c :: r).length ≤ 6 by omega)]
    rfl
  · rw [seq_ret (ev := .fz (.bl false)) (by rw [ifT (by rw [hif]; simp [h3])]; rfl)]
    simp [isX, h3]
theorem ev_agrees (l : List Nat) (h : l.length ≤ 16777216) : F__law_agrees [.str (mk l)] = .ok (.fz (.bl true)) := by
  unfold F__law_agrees runB b__law_agrees
  have w1 := ev_written l cLow h
  have w2 := ev_written l cUpp h
  rw [← s_low] at w1
  rw [← s_upp] at w2
  rw [seq_ok (b := _) (e := [.val (.str (mk l)), .val (.bl (isSg l)), .val (.bl (isNm l))]) (by
    simp only [mPar, mFn, mCons, mNil, mV, rdSlot, List.map_cons, List.map_nil, List.length_cons, List.length_nil, List.cons_append, List.nil_append, List.getD_cons_zero, Rz.ok_bind, EV.fr_fz, if_true, appF_one (ev_is_sign l h), appF_one (ev_is_name l h)]
    rfl)]
  rw [seq_ok (by
    rw [ifF (by simp only [mOr, mNot, mB, mCall, mCons, mNil, mV, mC, rdSlot, List.getD_cons_zero, List.getD_cons_succ, Rz.ok_bind, EV.fr_fz, gIsi_ty, EV.d, isTy_bl, kitB_bb, orStuck, asB_bl, Bool.not_true, Bool.false_eq_true, if_false])])]
  rw [seq_ok (by
    rw [ifF (by simp only [mFn, m2, mB, mCall, mCons, mNil, mV, mC, rdSlot, List.map_cons, List.map_nil, List.length_cons, List.length_nil, List.getD_cons_zero, List.getD_cons_succ, Rz.ok_bind, EV.fr_fz, if_true, appF_two w1, opNe_bl, decide_true, Bool.not_true, asB_bl])])]
  unfold mRet onE
  simp only [mFn, m2, mB, mCall, mCons, mNil, mV, mC, rdSlot, List.map_cons, List.map_nil, List.length_cons, List.length_nil, List.getD_cons_zero, List.getD_cons_succ, Rz.ok_bind, EV.fr_fz, if_true, appF_two w2, opEq_bl, decide_true]
def cChars : List Nat := ((" !\"#$&'()*+,-./0123456789:;<=>?@ABCDEFGHIJKLMNOPQRSTUVWXYZ[\\]^_`" : Str).cps ++ ("abcdefghijklmnopqrstuvwxyz{|}~\n" : Str).cps).toList
theorem add_chars : opAdd (.fz (.str " !\"#$&'()*+,-./0123456789:;<=>?@ABCDEFGHIJKLMNOPQRSTUVWXYZ[\\]^_`")) (.fz (.str "abcdefghijklmnopqrstuvwxyz{|}~\n")) = .ok (.fz (.str (mk cChars))) := by
  rw [opAdd_str, if_pos (size_big (by decide +kernel)), cChars, mk]
  rfl
def tx (l : List Nat) : D := .str (mk l)
def w0 : List (List Nat) := [[], [36], [97], [90], [122, 57], [57, 122], [48], [97, 98, 99, 100, 101, 102], [97, 98, 99, 100, 101, 102, 103], [65, 98, 48, 100, 69, 102], [65, 98, 48, 100, 69, 102, 103], [97, 95, 98], [97, 32, 98], [32, 97], [97, 10], [65, 45], [97, 90]]
theorem w0_eq : [D.str "", .str "$", .str "a", .str "Z", .str "z9", .str "9z", .str "0", .str "abcdef", .str "abcdefg", .str "Ab0dEf", .str "Ab0dEfg", .str "a_b", .str "a b", .str " a", .str "a\n", .str "A-", .str "aZ"] = w0.map tx := by
  rw [w0]
  simp only [List.map_cons, List.map_nil, tx]
  rfl
def Inv (ns : List Int) (i : Nat) (e : DL.Env) : Prop := ∃ (ws : List (List Nat)) (a b c d f : SL), e = [.val (.scr ns), .val (.str (mk cChars)), .val (.str (mk (cLow ++ cUpp ++ cDig))), .own (.lst (ws.map tx)), a, b, c, d, f] ∧ ws.length = 17 + i ∧ ∀ l ∈ ws, l.length ≤ 16777216
theorem step (ns : List Int) (x : Nat) (ws : List (List Nat)) (b c d f : SL) (hw : ws.length < 100) :
    ∃ (l : List Nat) (b' c' d' : SL), l.length ≤ 16777216 ∧ l1_law [.val (.scr ns), .val (.str (mk cChars)), .val (.str (mk (cLow ++ cUpp ++ cDig))), .own (.lst (ws.map tx)), .val (.int x), b, c, d, f] = .nx [.val (.scr ns), .val (.str (mk cChars)), .val (.str (mk (cLow ++ cUpp ++ cDig))), .own (.lst ((ws ++ [l]).map tx)), .val (.int x), b', c', d', f] := by
  obtain ⟨ds, hdr, hdl, hdn⟩ := ap_draws (cellOf ns x) 10 (by decide)
  have i0 : opIx (.fz (.lst (ds.map fun (k : Nat) => .int k))) (.fz (.int 0)) = .ok (.fz (.int (ds[0] : Nat))) := ix_nat ds 0 (by omega)
  have i1 : opIx (.fz (.lst (ds.map fun (k : Nat) => .int k))) (.fz (.int 1)) = .ok (.fz (.int (ds[1] : Nat))) := ix_nat ds 1 (by omega)
  unfold l1_law
  rw [seq_ok (setF_ok (a := .ow true (.lst (ds.map fun (k : Nat) => .int k))) (d := .lst (ds.map fun (k : Nat) => .int k)) (by
    simp only [mFn, mCons, mNil, mV, mC, rdSlot, List.map_cons, List.map_nil, List.length_cons, List.length_nil, List.getD_cons_zero, List.getD_cons_succ, Rz.ok_bind, EV.fr_fz, if_true, appF_two (ev_cell ns x)]
    exact hdr) rfl)]
  obtain ⟨pool, hp0, hp1, hp2⟩ : ∃ pool : List Nat, 0 < pool.length ∧ pool.length ≤ 16777216 ∧
      mIf (mB (m2 (m2 (mCall (mCons (m2 (mV 5) (mC (.int 1)) opIx) mNil) gInt) (mC (.int 3)) opMod) (mC (.int 0)) opEq)) (mV 1) (mV 2) [.val (.scr ns), .val (.str (mk cChars)), .val (.str (mk (cLow ++ cUpp ++ cDig))), .own (.lst (ws.map tx)), .val (.int x), .val (.lst (ds.map fun (k : Nat) => .int k)), c, d, f] = .ok (.fz (.str (mk pool))) := by
    have hm : m2 (mCall (mCons (m2 (mV 5) (mC (.int 1)) opIx) mNil) gInt) (mC (.int 3)) opMod [.val (.scr ns), .val (.str (mk cChars)), .val (.str (mk (cLow ++ cUpp ++ cDig))), .own (.lst (ws.map tx)), .val (.int x), .val (.lst (ds.map fun (k : Nat) => .int k)), c, d, f] = .ok (.fz (.int ((ds[1] % 3 : Nat) : Int))) := by
      simp only [m2, mCall, mCons, mNil, mV, mC, rdSlot, List.getD_cons_zero, List.getD_cons_succ, Rz.ok_bind, EV.fr_fz, i1, int_int]
      exact mod_nat _ 3 (by decide)
    by_cases h3 : ds[1] % 3 = 0
    · refine ⟨cChars, by decide +kernel, by decide +kernel, ?_⟩
      rw [ifV_T (by unfold mB; rw [show ∀ (ma mb : DL.Env → Rz EV) g e, m2 ma mb g e = (ma e >>= fun a => mb e >>= fun b => g a b) from fun _ _ _ _ => rfl, hm]; simp only [mC, Rz.ok_bind, opEq_int, asB_bl, h3]; rfl)]
      rfl
    · refine ⟨cLow ++ cUpp ++ cDig, by decide +kernel, by decide +kernel, ?_⟩
      rw [ifV_F (by
        unfold mB; rw [show ∀ (ma mb : DL.Env → Rz EV) g e, m2 ma mb g e = (ma e >>= fun a => mb e >>= fun b => g a b) from fun _ _ _ _ => rfl, hm]
        have : ¬ ((ds[1] % 3 : Nat) : Int) = 0 := by omega
        simp only [mC, Rz.ok_bind, opEq_int, asB_bl, this, decide_false])]
      rfl
  simp only [List.set_cons_zero, List.set_cons_succ]
  rw [seq_ok (setF_ok hp2 rfl)]
  simp only [List.set_cons_zero, List.set_cons_succ]
  have hk : ∀ k ∈ List.range (ds[0] % 9), ∃ ev, e1_law (([.val (.scr ns), .val (.str (mk cChars)), .val (.str (mk (cLow ++ cUpp ++ cDig))), .own (.lst (ws.map tx)), .val (.int x), .val (.lst (ds.map fun (k : Nat) => .int k)), .val (.str (mk pool)), d, f].set 7 .no).set 7 (.val ((fun (k : Nat) => D.int k) k))) = .ok ev ∧ ev.fr = .fz ((fun (k : Nat) => D.str (mk [pool.getD ((ds.getD (2 + k) 0) % pool.length) 0])) k) := fun k hk => by
    have hk9 : k < 8 := by
      have := List.mem_range.mp hk
      have := Nat.mod_lt ds[0] (show 0 < 9 by decide)
      omega
    have hi : 2 + k < ds.length := by omega
    have hj : ds[2 + k] % pool.length < pool.length := Nat.mod_lt _ hp0
    refine ⟨.fz (.str (mk [pool[ds[2 + k] % pool.length]])), ?_, ?_⟩
    · unfold e1_law
      simp only [m2, mCall, mCons, mNil, mV, mC, rdSlot, List.set_cons_zero, List.set_cons_succ, List.getD_cons_zero, List.getD_cons_succ, Rz.ok_bind, EV.fr_fz, int_int, gLen_mk pool hp1]
      rw [show opAdd (.fz (.int 2)) (.fz (.int k)) = .ok (.fz (.int ((2 + k : Nat) : Int))) from add_nat 2 k]
      simp only [Rz.ok_bind, ix_nat ds _ hi, EV.fr_fz, int_int, mod_nat _ _ hp0]
      exact ix_mk pool _ _ hp1 (List.getElem?_eq_getElem hj)
    · show EV.fz _ = EV.fz (D.str (mk [pool.getD (ds.getD (2 + k) 0 % pool.length) 0]))
      rw [List.getD_eq_getElem?_getD, List.getD_eq_getElem?_getD, List.getElem?_eq_getElem hi, Option.getD_some, List.getElem?_eq_getElem hj, Option.getD_some]
  have hn : mRng1 (mCons (m2 (mCall (mCons (m2 (mV 5) (mC (.int 0)) opIx) mNil) gInt) (mC (.int 9)) opMod) mNil) [.val (.scr ns), .val (.str (mk cChars)), .val (.str (mk (cLow ++ cUpp ++ cDig))), .own (.lst (ws.map tx)), .val (.int x), .val (.lst (ds.map fun (k : Nat) => .int k)), .val (.str (mk pool)), d, f] = .ok ((List.range (ds[0] % 9)).map fun (i : Nat) => .int i) := by
    refine rng1_ok ?_ (by omega)
    simp only [m2, mCall, mCons, mNil, mV, mC, rdSlot, List.getD_cons_zero, List.getD_cons_succ, Rz.ok_bind, EV.fr_fz, i0, int_int]
    exact mod_nat _ 9 (by decide)
  have hc := mLc_all (i := 7) hn hk (size_big (by rw [List.length_range]; omega))
  refine ⟨(List.range (ds[0] % 9)).map fun k => pool.getD ((ds.getD (2 + k) 0) % pool.length) 0, .val (.lst (ds.map fun (k : Nat) => .int k)), .val (.str (mk pool)), d, ?_, ?_⟩
  · rw [List.length_map, List.length_range]; omega
  rw [app_ok (ds := ws.map tx) (a := .fz (tx ((List.range (ds[0] % 9)).map fun k => pool.getD ((ds.getD (2 + k) 0) % pool.length) 0))) rfl (by
    unfold mM1
    rw [hc]
    simp only [mC, Rz.ok_bind, s_nil, isS]
    exact gJoin_one (by rw [List.map_map]; rfl) (by rw [List.length_map, List.length_range]; omega)) rfl (by rw [List.length_map]; exact Nat.lt_of_lt_of_le hw (size_big (by decide)))]
  rw [List.map_append]
  rfl
theorem ev_law (ns : List Int) (hns : ns.length ≤ 63) : F_law [.scr ns] = .ok (.fz (.bl true)) := by
  unfold F_law runB b_law
  rw [seq_ok (setF_ok (a := .fz (.str " !\"#$&'()*+,-./0123456789:;<=>?@ABCDEFGHIJKLMNOPQRSTUVWXYZ[\\]^_`")) rfl rfl)]
  rw [seq_ok (setF_ok (a := .fz (.str (mk cChars))) add_chars rfl)]
  rw [seq_ok (setF_ok (a := .fz (.str (mk (cLow ++ cUpp ++ cDig)))) (by simp only [mC, s_all]) rfl)]
  rw [seq_ok (setO_ok (w := .lst (w0.map tx)) (by rw [← w0_eq]; rfl))]
  have hmax : mCall (mCons (mC (.int 1)) (mCons (mCall (mCons (mV 0) mNil) gLen) mNil)) gMax [.val (.scr ns), .val (.str (mk cChars)), .val (.str (mk (cLow ++ cUpp ++ cDig))), .own (.lst (w0.map tx)), .no, .no, .no, .no, .no] = .ok (.fz (.int ((max 1 ns.length : Nat) : Int))) := by
    simp only [mCall, mCons, mNil, mV, mC, rdSlot, List.getD_cons_zero, Rz.ok_bind, EV.fr_fz, gLen_scr]
    show gMM _ _ = _
    rw [gMM_two]
    congr 3
    split <;> omega
  obtain ⟨e', h1, ws, a, b, c, d, f, rfl, h2, h3⟩ := for_inv (p := pName 4) (b := l1_law) (fun (i : Nat) => D.int i) (Inv ns) (List.range (max 1 ns.length)) 0
      [.val (.scr ns), .val (.str (mk cChars)), .val (.str (mk (cLow ++ cUpp ++ cDig))), .own (.lst (w0.map tx)), .no, .no, .no, .no, .no] (by
        rintro i x e hx ⟨ws, a, b, c, d, f, rfl, h2, h3⟩
        have hi : i < max 1 ns.length := by
          have := (List.getElem?_eq_some_iff.mp hx).1
          simpa using this
        obtain ⟨l, b', c', d', hl, h4⟩ := step ns x ws b c d f (by omega)
        exact ⟨_, _, rfl, .inl h4, ws ++ [l], _, _, _, _, _, rfl, by simp [h2]; omega, fun y hy => by
          rcases List.mem_append.mp hy with hy | hy
          · exact h3 y hy
          · rw [List.mem_singleton.mp hy]; exact hl⟩) ⟨w0, _, _, _, _, _, rfl, rfl, by decide +kernel⟩
  rw [List.length_range, Nat.zero_add] at h2
  rw [seq_ok (by rw [show (List.set (List.set (List.set (List.set (List.map SL.val [D.scr ns] ++ List.replicate (9 - [D.scr ns].length) SL.no) 1 (SL.val (D.str " !\"#$&'()*+,-./0123456789:;<=>?@ABCDEFGHIJKLMNOPQRSTUVWXYZ[\\]^_`"))) 1 (SL.val (D.str (mk cChars)))) 2 (SL.val (D.str (mk (cLow ++ cUpp ++ cDig))))) 3 (SL.own (OW.lst (w0.map tx)))) = [.val (.scr ns), .val (.str (mk cChars)), .val (.str (mk (cLow ++ cUpp ++ cDig))), .own (.lst (w0.map tx)), .no, .no, .no, .no, .no] from rfl]; rw [for_ok (rng1_ok hmax (by omega))]; exact h1)]
  have e2 : mLc (mItems (mV 3)) (pName 8) mYes e2_law [8] [.val (.scr ns), .val (.str (mk cChars)), .val (.str (mk (cLow ++ cUpp ++ cDig))), .val (.lst (ws.map tx)), a, b, c, d, f] = .ok (.ow true (.lst ((ws.map fun _ => true).map .bl))) := by
    rw [List.map_map]
    refine mLc_all (en := tx) ?_ (fun l hl => ⟨.fz (.bl true), ?_, rfl⟩) (size_big (by omega))
    · rfl
    · unfold e2_law
      simp only [mFn, mCons, mNil, mV, rdSlot, List.length_cons, List.length_nil, List.set_cons_zero, List.set_cons_succ, List.getD_cons_zero, List.getD_cons_succ, Rz.ok_bind, EV.fr_fz, if_true]
      exact appF_one (ev_agrees l (h3 l hl))
  rw [mFrz_own (w := .lst (ws.map tx)) rfl]
  simp only [List.set_cons_zero, List.set_cons_succ, OW.d_lst]
  unfold mRet onE
  simp only [mCall, mCons, mNil, e2, Rz.ok_bind, EV.fr_new, OW.d_lst, gAll_map]
  simp
end LW.K01
namespace LW.K01
open PySem PySem.Spec PyProof.Rows L2 DL
def d_is_word : He.DefD := ⟨("is_word", none), "is_word", "is_word", defArgs (top 4), defBody (top 4), defScope (top 4), [], []⟩
def d_is_sign : He.DefD := ⟨("is_sign", none), "is_sign", "is_sign", defArgs (top 5), defBody (top 5), defScope (top 5), [], []⟩
def d_is_name : He.DefD := ⟨("is_name", none), "is_name", "is_name", defArgs (top 6), defBody (top 6), defScope (top 6), [], []⟩
def d__law_cell : He.DefD := ⟨("_law_cell", none), "_law_cell", "_law_cell", defArgs (top 8), defBody (top 8), defScope (top 8), [], []⟩
def d__law_draws : He.DefD := ⟨("_law_draws", none), "_law_draws", "_law_draws", defArgs (top 9), defBody (top 9), defScope (top 9), [], []⟩
def d__law_written : He.DefD := ⟨("_law_written", none), "_law_written", "_law_written", defArgs (top 10), defBody (top 10), defScope (top 10), [], []⟩
def d__law_agrees : He.DefD := ⟨("_law_agrees", none), "_law_agrees", "_law_agrees", defArgs (top 11), defBody (top 11), defScope (top 11), [], []⟩
def d_law : He.DefD := ⟨("law", none), "law", "law", defArgs (top 12), defBody (top 12), defScope (top 12), [], []⟩
def fn : List He.DefD := ([d_is_word, d_is_sign, d_is_name, d__law_cell, d__law_draws, d__law_written, d__law_agrees, d_law] : List He.DefD)
def fa : List He.Fa := ([.glo "is_word", .glo "is_sign", .glo "is_name", .glo "_law_cell", .glo "_law_draws", .glo "_law_written", .glo "_law_agrees", .glo "law", .free "abs", .free "all", .free "bool", .free "int", .free "isinstance", .free "len", .free "max", .free "range", .str "LOWER" "abcdefghijklmnopqrstuvwxyz", .str "UPPER" "ABCDEFGHIJKLMNOPQRSTUVWXYZ", .str "DIGITS" "0123456789"] : List He.Fa)
def loose : List Str := (["LOWER", "UPPER", "DIGITS", "is_word", "is_sign", "is_name", "_law_cell", "_law_draws", "_law_written", "_law_agrees"] : List Str)
abbrev R : PySem.W.OpenRow := PySem.W.OpenLaw.row PySem.Challenge.rw_awaitbook_k01_words_that_are_signs_or_na
abbrev hk : PySem.W.Hook := He.hookD 4 fa fn
def ob (s : PySem.W.SharedT) : He.AlD := He.obsDG 4 fa fn (HandSHeadRun.getT s)
theorem ob_eq (s : PySem.W.SharedT) : ob s = hk.obs s.abs := He.obsDG_eq (HandSHeadRun.getT_eq s)
theorem run (w : World) : HandSHeadRun.RunEq R (PySem.W.view R.prog [12]) hk ob 20000 loose w := by
  intro os
  kernel_rfl
theorem facts {K : PySem.W.Frag} {h : Heap} {mg : Str → Option Value} (X : K.In h) (G : h.Ns mainGlobals mg) (c : He.SaysD fa fn K) : Tx K mg (fun _ => none) where
  n_abs := He.free_ok X G (c.fact 8 (f := .free "abs") rfl)
  n_all := He.free_ok X G (c.fact 9 (f := .free "all") rfl)
  n_bool := He.free_ok X G (c.fact 10 (f := .free "bool") rfl)
  n_int := He.free_ok X G (c.fact 11 (f := .free "int") rfl)
  n_isinstance := He.free_ok X G (c.fact 12 (f := .free "isinstance") rfl)
  n_len := He.free_ok X G (c.fact 13 (f := .free "len") rfl)
  n_max := He.free_ok X G (c.fact 14 (f := .free "max") rfl)
  n_range := He.free_ok X G (c.fact 15 (f := .free "range") rfl)
  c_LOWER := He.str_ok X G (c.fact 16 (f := .str "LOWER" "abcdefghijklmnopqrstuvwxyz") rfl)
  c_UPPER := He.str_ok X G (c.fact 17 (f := .str "UPPER" "ABCDEFGHIJKLMNOPQRSTUVWXYZ") rfl)
  c_DIGITS := He.str_ok X G (c.fact 18 (f := .str "DIGITS" "0123456789") rfl)
  g_is_word := He.glo_ok X G (c.fact 0 (f := .glo "is_word") rfl)
  u_is_word := c.def_ 0 (d := d_is_word) rfl
  g_is_sign := He.glo_ok X G (c.fact 1 (f := .glo "is_sign") rfl)
  u_is_sign := c.def_ 1 (d := d_is_sign) rfl
  g_is_name := He.glo_ok X G (c.fact 2 (f := .glo "is_name") rfl)
  u_is_name := c.def_ 2 (d := d_is_name) rfl
  g__law_cell := He.glo_ok X G (c.fact 3 (f := .glo "_law_cell") rfl)
  u__law_cell := c.def_ 3 (d := d__law_cell) rfl
  g__law_draws := He.glo_ok X G (c.fact 4 (f := .glo "_law_draws") rfl)
  u__law_draws := c.def_ 4 (d := d__law_draws) rfl
  g__law_written := He.glo_ok X G (c.fact 5 (f := .glo "_law_written") rfl)
  u__law_written := c.def_ 5 (d := d__law_written) rfl
  g__law_agrees := He.glo_ok X G (c.fact 6 (f := .glo "_law_agrees") rfl)
  u__law_agrees := c.def_ 6 (d := d__law_agrees) rfl
theorem law_fd {P : Program} {w : World} {K : PySem.W.Frag} {h : Heap} {mg : Str → Option Value} {f : Addr} (X : K.In h) (G : h.Ns mainGlobals mg) (hfa : mg ("law" : Str) = some (.ref f)) (c : He.SaysD fa fn K) :
    ∃ fd : FuncData, (∀ (s : Shared) (v : Value), BindsTo s fd ⟨[v], []⟩ [("_law_script", v)]) ∧ ∀ base : Heap, K.In base → base.Ns mainGlobals mg → FnOk P w K mg base (L2.CX P w) 4 f fd ["_law_script"] (spD ⟨K, fun _ => none⟩ 1 F_law) := by
  obtain ⟨fd, U⟩ := c.def_ 7 (d := d_law) rfl
  have e := hfa.symm.trans (He.glo_ok X G (c.fact 7 (f := .glo "law") rfl))
  cases e
  have b := FunD.bindsA (ps := ["_law_script"]) U fun _ _ _ _ _ _ us hl => match us, hl with | [_], _ => rfl
  exact ⟨fd, fun s v => b s [v] rfl, fun base _ _ => all_law (facts X G c) U⟩
end LW.K01
open PySem PySem.W PySem.Calls PyProof.Rows
theorem PySem.Challenge.cw_awaitbook_k01_words_that_are_signs_or_na_holds : PySem.Challenge.rw_awaitbook_k01_words_that_are_signs_or_na.Holds := by
  w_on; o_law
  refine HandSHeadRun.head_any (r := OpenLaw.row PySem.Challenge.rw_awaitbook_k01_words_that_are_signs_or_na) (q := view (OpenLaw.row PySem.Challenge.rw_awaitbook_k01_words_that_are_signs_or_na).prog [12]) (H := LW.K01.hk) (ob := LW.K01.ob) (M := 20000) (loose := LW.K01.loose) (d := HandSHeadRun.topDef (OpenLaw.row PySem.Challenge.rw_awaitbook_k01_words_that_are_signs_or_na).prog 12) (kwd := []) LW.K01.ob_eq
    (by kernel_rfl) (fun s => by kernel_rfl) LW.K01.run (by kernel_rfl) (by kernel_rfl) (by kernel_rfl) (by rfl) (by first | assumption | decide +kernel) (by decide +kernel) ⟨rfl, rfl, rfl, rfl, rfl, by decide +kernel⟩ ?hw ?hc
  case hw => w_witness2
  case hc =>
    refine DL.law_end (l := PySem.Challenge.rw_awaitbook_k01_words_that_are_signs_or_na) (k := 4) (x := "_law_script") (F := LW.K01.F_law) (C := fun _ _ => none) rfl (by kernel_rfl) ⟨rfl, by decide, by decide⟩ LW.K01.ev_law ?H
    intro w mg fa h Y G hmg0
    obtain ⟨K, KX, c⟩ := Y
    have hmg : mg ("law" : PySem.Str) = some (.ref fa) := by
      have e : (HandSHeadRun.topDef (OpenLaw.row PySem.Challenge.rw_awaitbook_k01_words_that_are_signs_or_na).prog 12).name = ("law" : PySem.Str) := by kernel_rfl
      rw [← e]
      exact hmg0
    obtain ⟨fd, hb, hF⟩ := LW.K01.law_fd (P := (PySem.Challenge.rw_awaitbook_k01_words_that_are_signs_or_na).prog) (w := w) KX G hmg c
    exact ⟨K, fd, KX, hb, hF⟩
