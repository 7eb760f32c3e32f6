import PyProof.Rows.All
import Wide.All
import OpenK.AllK
import Wide.FinOn
import KE.KStateDown
import Lean
import HandS.Base
import HandS.Call
import HandS.List
import HandS.Comp
import HandS.Iter
import HandS.Text
import HandS.Exc
import HandS.Words
import HandS.TupAny
import HandS.Deep
import HandS.IsInst
import HandS.ExcOwn
import HandS.WordsExc
import HandS.Defaults
import HandS.HeadHook2
import HandS.HeadEnd
import PyProof.StrLaws
import KE.KExcSuper
import HandS.ExcInit
import HandS.ExcSuper
import HandS.ClsMeth
import HandS.ExcField
import HandS.ExcIs
import KE.KExcIs
import HandS.Head0
import HandS.Head1
import HandS.Head2
import HandS.More
import HandS.Style
import HandS.TryOnly
import HandS.Set
import HandS.SetFor
import HandS.SetKeys
import HandS.Strs
import HandS.TupSets
import PyProof.Rows.SortShellAny
import HandS.Star
import PySem.Challenge.RW_awaitbook_k02_sets_of_signs_made_or_refu
import HandS.HeadHook1
set_option Elab.async false
set_option linter.all false
set_option maxRecDepth 100000
set_option maxHeartbeats 0
namespace DL
open PySem PySem.Spec PyProof.Rows L2

inductive D where
  | non | bl (b : Bool) | int (i : Int) | str (x : Str)
  | tup (xs : List D) | lst (xs : List D)
  | scr (ns : List Int)
  | dct (kvs : List (D × D))
  | ins (c : Str) (fs : List (Str × D))
  | cls (c : Str)
  | ty (n : String)
instance : Inhabited D := ⟨.non⟩

structure CT where
  cls : Str → Option Addr
  ex : Option (Addr × Addr × Option Addr) := none
  slf : Option Addr := none
instance : CoeFun CT fun _ => Str → Option Addr := ⟨CT.cls⟩
structure KC where
  K : PySem.W.Frag
  C : CT

def dkV : Key → D
  | .inl i => .int i
  | .inr x => .str x

mutual
inductive Rep (K : KC) (G : Hp) : V → D → Prop
  | non : Rep K G .non .non
  | bl (b : Bool) : Rep K G (.bl b) (.bl b)
  | int (i : Int) : Rep K G (.int i) (.int i)
  | str (x : Str) : Rep K G (.str x) (.str x)
  | ty (n : String) : Rep K G (.ty n) (.ty n)
  | cls {c : Str} {a : Addr} : K.C c = some a → Rep K G (.ref a) (.cls c)
  | tup {a : Addr} {vs : List V} {ds : List D} : SqT K.K G a vs → Reps K G vs ds → Rep K G (.ref a) (.tup ds)
  | lst {a : Addr} {vs : List V} {ds : List D} : G a = some (.lst vs) → Reps K G vs ds → Rep K G (.ref a) (.lst ds)
  | scr {a : Addr} {ns : List Int} : SqL K.K G a (ns.map V.int) → Rep K G (.ref a) (.scr ns)
  | dk {a : Addr} {kvs : List (Key × V)} {ds : List (D × D)} : G a = some (.dK kvs) → RepK K G kvs ds → Rep K G (.ref a) (.dct ds)
  | dt {a : Addr} {kvs : List (List Key × V)} {ds : List (D × D)} : G a = some (.dT kvs) → RepT K G kvs ds → Rep K G (.ref a) (.dct ds)
  | ins {a dx C : Addr} {c : Str} {fs : List (Str × V)} {ds : List (Str × D)} : K.C c = some C → G a = some (.ins C dx fs) → RepF K G fs ds → Rep K G (.ref a) (.ins c ds)
inductive Reps (K : KC) (G : Hp) : List V → List D → Prop
  | nil : Reps K G [] []
  | cons {v : V} {vs : List V} {d : D} {ds : List D} : Rep K G v d → Reps K G vs ds → Reps K G (v :: vs) (d :: ds)
inductive RepF (K : KC) (G : Hp) : List (Str × V) → List (Str × D) → Prop
  | nil : RepF K G [] []
  | cons {f : Str} {v : V} {vs : List (Str × V)} {d : D} {ds : List (Str × D)} : Rep K G v d → RepF K G vs ds → RepF K G ((f, v) :: vs) ((f, d) :: ds)
inductive RepK (K : KC) (G : Hp) : List (Key × V) → List (D × D) → Prop
  | nil : RepK K G [] []
  | cons {k : Key} {v : V} {vs : List (Key × V)} {d : D} {ds : List (D × D)} : Rep K G v d → RepK K G vs ds → RepK K G ((k, v) :: vs) ((dkV k, d) :: ds)
inductive RepT (K : KC) (G : Hp) : List (List Key × V) → List (D × D) → Prop
  | nil : RepT K G [] []
  | cons {k : List Key} {v : V} {vs : List (List Key × V)} {d : D} {ds : List (D × D)} : Rep K G v d → RepT K G vs ds → RepT K G ((k, v) :: vs) ((.tup (k.map dkV), d) :: ds)
end

def Sub (G H : Hp) : Prop := ∀ a o, G a = some o → H a = some o
theorem Sub.refl {G : Hp} : Sub G G := fun _ _ h => h
theorem Sub.trans {A B C : Hp} (h : Sub A B) (k : Sub B C) : Sub A C := fun a o e => k a o (h a o e)
theorem Sub.none {A B : Hp} (h : Sub A B) {a : Addr} (e : B a = none) : A a = none := by
  cases q : A a with
  | none => rfl
  | some o => rw [h a o q] at e; cases e
theorem Sub.rd {A B : Hp} (h : Sub A B) {a : Addr} {u : HO} (r : Rd A a u) : Rd B a u := r.elim (fun z => .inl (h _ _ z)) fun ⟨o, z⟩ => .inr ⟨o, h _ _ z⟩
theorem Sub.sqT {K : PySem.W.Frag} {A B : Hp} (h : Sub A B) {a : Addr} {vs : List V} (r : SqT K A a vs) : SqT K B a vs := r.elim (fun z => .inl (h.rd z)) .inr
theorem Sub.sqL {K : PySem.W.Frag} {A B : Hp} (h : Sub A B) {a : Addr} {vs : List V} (r : SqL K A a vs) : SqL K B a vs := r.elim (fun z => .inl (h.rd z)) .inr
theorem Sub.upd {G : Hp} {p : Addr} {o : HO} (h : G p = Option.none) : Sub G (L2.upd G p o) := fun a u e => by
  rw [upd_ne (ne_of_none e h)]; exact e
theorem Sub.upd2 {G H : Hp} {p : Addr} {o : HO} (h : Sub G H) (e : H p = some o) : Sub (L2.upd G p o) H := fun a u q => by
  by_cases z : a = p
  · subst z; rw [upd_same] at q; cases q; exact e
  · rw [upd_ne z] at q; exact h a u q
theorem Sub.updR {G H : Hp} {p : Addr} {o : HO} (h : Sub G H) (e : G p = Option.none) : Sub G (L2.upd H p o) := fun a u q => by
  rw [upd_ne (ne_of_none q e)]; exact h a u q

section
variable {K : KC} {G G' : Hp}
mutual
theorem Rep.mono (h : Sub G G') : ∀ {v : V} {d : D}, Rep K G v d → Rep K G' v d
  | _, _, .non => .non
  | _, _, .bl b => .bl b
  | _, _, .int i => .int i
  | _, _, .str x => .str x
  | _, _, .ty n => .ty n
  | _, _, .cls e => .cls e
  | _, _, .tup s r => .tup (h.sqT s) (Reps.mono h r)
  | _, _, .lst s r => .lst (h _ _ s) (Reps.mono h r)
  | _, _, .scr s => .scr (h.sqL s)
  | _, _, .dk s r => .dk (h _ _ s) (RepK.mono h r)
  | _, _, .dt s r => .dt (h _ _ s) (RepT.mono h r)
  | _, _, .ins c s r => .ins c (h _ _ s) (RepF.mono h r)
theorem Reps.mono (h : Sub G G') : ∀ {v : List V} {d : List D}, Reps K G v d → Reps K G' v d
  | _, _, .nil => .nil
  | _, _, .cons a b => .cons (Rep.mono h a) (Reps.mono h b)
theorem RepF.mono (h : Sub G G') : ∀ {v : List (Str × V)} {d : List (Str × D)}, RepF K G v d → RepF K G' v d
  | _, _, .nil => .nil
  | _, _, .cons a b => .cons (Rep.mono h a) (RepF.mono h b)
theorem RepK.mono (h : Sub G G') : ∀ {v : List (Key × V)} {d : List (D × D)}, RepK K G v d → RepK K G' v d
  | _, _, .nil => .nil
  | _, _, .cons a b => .cons (Rep.mono h a) (RepK.mono h b)
theorem RepT.mono (h : Sub G G') : ∀ {v : List (List Key × V)} {d : List (D × D)}, RepT K G v d → RepT K G' v d
  | _, _, .nil => .nil
  | _, _, .cons a b => .cons (Rep.mono h a) (RepT.mono h b)
end
theorem Reps.length : ∀ {vs : List V} {ds : List D}, Reps K G vs ds → vs.length = ds.length
  | _, _, .nil => rfl
  | _, _, .cons _ b => congrArg Nat.succ b.length
theorem Reps.get : ∀ {vs : List V} {ds : List D} {i : Nat} {d : D}, Reps K G vs ds → ds[i]? = some d → ∃ v, vs[i]? = some v ∧ Rep K G v d
  | _, _, _, _, .nil, e => by simp at e
  | _, _, 0, _, .cons a _, e => by simp at e; subst e; exact ⟨_, rfl, a⟩
  | _, _, i + 1, _, .cons _ b, e => by
    obtain ⟨v, h1, h2⟩ := Reps.get (i := i) b (by simpa using e)
    exact ⟨v, by simpa using h1, h2⟩
theorem Reps.append : ∀ {vs us : List V} {ds es : List D}, Reps K G vs ds → Reps K G us es → Reps K G (vs ++ us) (ds ++ es)
  | _, _, _, _, .nil, s => s
  | _, _, _, _, .cons a b, s => .cons a (b.append s)
theorem Reps.take : ∀ {vs : List V} {ds : List D} (n : Nat), Reps K G vs ds → Reps K G (vs.take n) (ds.take n)
  | _, _, 0, _ => .nil
  | _, _, _ + 1, .nil => .nil
  | _, _, n + 1, .cons a b => .cons a (b.take n)
theorem Reps.drop : ∀ {vs : List V} {ds : List D} (n : Nat), Reps K G vs ds → Reps K G (vs.drop n) (ds.drop n)
  | _, _, 0, r => r
  | _, _, _ + 1, .nil => .nil
  | _, _, n + 1, .cons _ b => b.drop n
theorem Reps.reverse {vs : List V} {ds : List D} (h : Reps K G vs ds) : Reps K G vs.reverse ds.reverse := by
  induction h using Reps.rec (motive_1 := fun _ _ _ => True) (motive_3 := fun _ _ _ => True) (motive_4 := fun _ _ _ => True) (motive_5 := fun _ _ _ => True) with
  | nil => exact .nil
  | cons a b _ ih => rw [List.reverse_cons, List.reverse_cons]; exact ih.append (.cons a .nil)
  | _ => trivial
theorem Reps.ints : ∀ (ns : List Int), Reps K G (ns.map V.int) (ns.map D.int)
  | [] => .nil
  | _ :: r => .cons (.int _) (Reps.ints r)
theorem Reps.of_ints : ∀ {ns : List Int} {vs : List V}, Reps K G vs (ns.map D.int) → vs = ns.map V.int
  | [], _, .nil => rfl
  | _ :: _, _, .cons a b => by cases a; rw [Reps.of_ints b]; rfl
theorem Reps.of_strs : ∀ {ns : List Str} {vs : List V}, Reps K G vs (ns.map D.str) → vs = ns.map V.str
  | [], _, .nil => rfl
  | _ :: _, _, .cons a b => by cases a; rw [Reps.of_strs b]; rfl
theorem Reps.of_bls : ∀ {ns : List Bool} {vs : List V}, Reps K G vs (ns.map D.bl) → vs = ns.map V.bl
  | [], _, .nil => rfl
  | _ :: _, _, .cons a b => by cases a; rw [Reps.of_bls b]; rfl
theorem Reps.strs : ∀ (ns : List Str), Reps K G (ns.map V.str) (ns.map D.str)
  | [] => .nil
  | _ :: r => .cons (.str _) (Reps.strs r)
theorem Reps.set : ∀ {vs : List V} {ds : List D} {v : V} {d : D} (i : Nat), Rep K G v d → Reps K G vs ds → Reps K G (vs.set i v) (ds.set i d)
  | _, _, _, _, _, _, .nil => .nil
  | _, _, _, _, 0, r, .cons _ b => .cons r b
  | _, _, _, _, i + 1, r, .cons a b => .cons a (Reps.set i r b)
theorem RepF.look : ∀ {vs : List (Str × V)} {ds : List (Str × D)} {f : Str} {d : D}, RepF K G vs ds → ds.lookup f = some d → ∃ v, vs.lookup f = some v ∧ Rep K G v d
  | _, _, _, _, .nil, e => by simp at e
  | (g, v) :: _, (_, d') :: _, f, d, .cons a b, e => by
    rw [List.lookup_cons] at e ⊢
    cases q : (f == g) with
    | true => rw [q] at e; cases e; exact ⟨_, rfl, a⟩
    | false => rw [q] at e; exact RepF.look b e
theorem RepF.look_none : ∀ {vs : List (Str × V)} {ds : List (Str × D)} {f : Str}, RepF K G vs ds → ds.lookup f = none → vs.lookup f = none
  | _, _, _, .nil, _ => rfl
  | (g, v) :: _, (_, d') :: _, f, .cons a b, e => by
    rw [List.lookup_cons] at e ⊢
    cases q : (f == g) with
    | true => rw [q] at e; cases e
    | false => rw [q] at e; exact RepF.look_none b e
end

structure Exn where
  cls : Str
  fs : List (Str × D)
inductive Rz (α : Type) where
  | ok (a : α) | exc (e : Exn) | stuck
namespace Rz
variable {α β γ : Type}
def bind (x : Rz α) (f : α → Rz β) : Rz β := match x with
  | .ok a => f a
  | .exc e => .exc e
  | .stuck => .stuck
instance : Monad Rz := { pure := .ok, bind := bind }
@[simp] theorem pure_eq (a : α) : (pure a : Rz α) = .ok a := rfl
@[simp] theorem ok_bind (a : α) (f : α → Rz β) : ((Rz.ok a) >>= f) = f a := rfl
@[simp] theorem exc_bind (e : Exn) (f : α → Rz β) : ((Rz.exc e : Rz α) >>= f) = .exc e := rfl
@[simp] theorem stuck_bind (f : α → Rz β) : ((Rz.stuck : Rz α) >>= f) = .stuck := rfl
theorem bind_assoc (x : Rz α) (f : α → Rz β) (g : β → Rz γ) : (x >>= f) >>= g = x >>= fun a => f a >>= g := by
  cases x <;> rfl
end Rz
def orStuck {α : Type} : Option α → Rz α
  | some a => .ok a
  | none => .stuck
@[simp] theorem orStuck_some {α : Type} (a : α) : orStuck (some a) = .ok a := rfl

inductive OW where
  | lst (ds : List D)
  | dct (kvs : List (D × D))
  | ins (c : Str) (fs : List (Str × D))
  | self (c : Str) (fs : List (Str × D))
inductive SL where
  | no | val (d : D) | own (w : OW) | exn (e : Exn)
abbrev Env := List SL
instance : Inhabited SL := ⟨.no⟩
inductive EV where
  | fz (d : D) | ow (new : Bool) (w : OW)
def OW.d : OW → D
  | .lst ds => .lst ds
  | .dct kvs => .dct kvs
  | .ins c fs => .ins c fs
  | .self c fs => .ins c fs
@[simp] theorem OW.d_self (c : Str) (fs : List (Str × D)) : (OW.self c fs).d = .ins c fs := rfl
@[simp] theorem OW.d_ins (c : Str) (fs : List (Str × D)) : (OW.ins c fs).d = .ins c fs := rfl
@[simp] theorem OW.d_lst (ds : List D) : (OW.lst ds).d = .lst ds := rfl
@[simp] theorem OW.d_dct (ds : List (D × D)) : (OW.dct ds).d = .dct ds := rfl
def EV.d : EV → D
  | .fz d => d
  | .ow _ w => w.d
@[simp] theorem EV.d_fz (d : D) : (EV.fz d).d = d := rfl
@[simp] theorem EV.d_ow (n : Bool) (w : OW) : (EV.ow n w).d = w.d := rfl

def WOk (K : KC) (G H : Hp) (p : Addr) : OW → Prop
  | .lst ds => ∃ vs, H p = some (.lst vs) ∧ Reps K G vs ds
  | .dct ds => (∃ kvs, H p = some (.dK kvs) ∧ RepK K G kvs ds) ∨ ∃ kvs, H p = some (.dT kvs) ∧ RepT K G kvs ds
  | .ins c ds => ∃ Ca dx vs, K.C.cls c = some Ca ∧ H p = some (.ins Ca dx vs) ∧ RepF K G vs ds
  | .self c ds => K.C.slf = some p ∧ ∃ Ca dx vs, K.C.cls c = some Ca ∧ H p = some (.ins Ca dx vs) ∧ RepF K G vs ds
theorem WOk.mono {K : KC} {G G' H H' : Hp} {p : Addr} {w : OW} (h : Sub G G') (k : ∀ o, H p = some o → H' p = some o) (x : WOk K G H p w) : WOk K G' H' p w := by
  cases w with
  | lst ds => obtain ⟨vs, e, r⟩ := x; exact ⟨vs, k _ e, r.mono h⟩
  | dct ds =>
    rcases x with ⟨vs, e, r⟩ | ⟨vs, e, r⟩
    · exact .inl ⟨vs, k _ e, r.mono h⟩
    · exact .inr ⟨vs, k _ e, r.mono h⟩
  | ins c ds => obtain ⟨Ca, dx, vs, q, e, r⟩ := x; exact ⟨Ca, dx, vs, q, k _ e, r.mono h⟩
  | self c ds => obtain ⟨z, Ca, dx, vs, q, e, r⟩ := x; exact ⟨z, Ca, dx, vs, q, k _ e, r.mono h⟩
def noTup : HO → Bool
  | .tup _ => false
  | .xd _ => false
  | .frz _ (.tup _) => false
  | _ => true
def NT (H : Hp) (a : Addr) : Prop := ∃ o, H a = .some o ∧ noTup o = true
theorem NT.mono {H H' : Hp} {a : Addr} (s : Sub H H') (h : NT H a) : NT H' a := let ⟨o, e, k⟩ := h; ⟨o, s a o e, k⟩
theorem NT.no {H : Hp} {a : Addr} (h : NT H a) (e : H a = none) : False := by
  obtain ⟨o, k, _⟩ := h
  rw [e] at k; cases k
theorem WOk.nt {K : KC} {G H : Hp} {p : Addr} {w : OW} (x : WOk K G H p w) : NT H p := by
  cases w with
  | lst ds => obtain ⟨vs, e, r⟩ := x; exact ⟨_, e, rfl⟩
  | dct ds =>
    rcases x with ⟨vs, e, r⟩ | ⟨vs, e, r⟩
    · exact ⟨_, e, rfl⟩
    · exact ⟨_, e, rfl⟩
  | ins c ds => obtain ⟨Ca, dx, vs, q, e, r⟩ := x; exact ⟨_, e, rfl⟩
  | self c ds => obtain ⟨z, Ca, dx, vs, q, e, r⟩ := x; exact ⟨_, e, rfl⟩
theorem WOk.rep {K : KC} {G H : Hp} {p : Addr} {w : OW} (h : Sub G H) (x : WOk K G H p w) : Rep K H (.ref p) w.d := by
  cases w with
  | lst ds => obtain ⟨vs, e, r⟩ := x; exact .lst e (r.mono h)
  | dct ds =>
    rcases x with ⟨vs, e, r⟩ | ⟨vs, e, r⟩
    · exact .dk e (r.mono h)
    · exact .dt e (r.mono h)
  | ins c ds => obtain ⟨Ca, dx, vs, q, e, r⟩ := x; exact .ins q e (r.mono h)
  | self c ds => obtain ⟨z, Ca, dx, vs, q, e, r⟩ := x; exact .ins q e (r.mono h)
theorem WOk.some {K : KC} {G H : Hp} {p : Addr} {w : OW} (x : WOk K G H p w) : ∃ o, H p = .some o ∧ ∀ G' H', Sub G G' → H' p = .some o → WOk K G' H' p w := by
  cases w with
  | lst ds => obtain ⟨vs, e, r⟩ := x; exact ⟨_, e, fun G' H' h k => ⟨vs, k, r.mono h⟩⟩
  | dct ds =>
    rcases x with ⟨vs, e, r⟩ | ⟨vs, e, r⟩
    · exact ⟨_, e, fun G' H' h k => .inl ⟨vs, k, r.mono h⟩⟩
    · exact ⟨_, e, fun G' H' h k => .inr ⟨vs, k, r.mono h⟩⟩
  | ins c ds => obtain ⟨Ca, dx, vs, q, e, r⟩ := x; exact ⟨_, e, fun G' H' h k => ⟨Ca, dx, vs, q, k, r.mono h⟩⟩
  | self c ds => obtain ⟨z, Ca, dx, vs, q, e, r⟩ := x; exact ⟨_, e, fun G' H' h k => ⟨z, Ca, dx, vs, q, k, r.mono h⟩⟩
theorem WOk.freeze {K : KC} {G H : Hp} {p : Addr} {w : OW} (n : G p = none) (x : WOk K G H p w) : ∃ o, H p = .some o ∧ Rep K (upd G p o) (.ref p) w.d := by
  cases w with
  | lst ds => obtain ⟨vs, e, r⟩ := x; exact ⟨_, e, .lst upd_same (r.mono (.upd n))⟩
  | dct ds =>
    rcases x with ⟨vs, e, r⟩ | ⟨vs, e, r⟩
    · exact ⟨_, e, .dk upd_same (r.mono (.upd n))⟩
    · exact ⟨_, e, .dt upd_same (r.mono (.upd n))⟩
  | ins c ds => obtain ⟨Ca, dx, vs, q, e, r⟩ := x; exact ⟨_, e, .ins q upd_same (r.mono (.upd n))⟩
  | self c ds => obtain ⟨z, Ca, dx, vs, q, e, r⟩ := x; exact ⟨_, e, .ins q upd_same (r.mono (.upd n))⟩

structure Ent where
  G : Hp
  H : Hp
def ExcOk (K : KC) (G H : Hp) (cls : Value) (d : Option Addr) (e : Exn) : Prop :=
  ∃ a, K.C e.cls = some a ∧ cls = .ref a ∧ ((e.fs = [] ∧ d = none) ∨ ∃ dd fs, d = some dd ∧ G dd = some (.xd fs) ∧ RepF K G fs e.fs)
theorem ExcOk.mono {K : KC} {G G' H H' : Hp} {cls : Value} {d : Option Addr} {e : Exn} (h : Sub G G') (x : ExcOk K G H cls d e) : ExcOk K G' H' cls d e := by
  obtain ⟨a, h1, h2, h3⟩ := x
  refine ⟨a, h1, h2, ?_⟩
  rcases h3 with h3 | ⟨dd, fs, h4, h5, h6⟩
  · exact .inl h3
  · exact .inr ⟨dd, fs, h4, h _ _ h5, RepF.mono h h6⟩
def SlotOk (K : KC) (G H : Hp) (v : Option V) : SL → Prop
  | .no => True
  | .val d => ∃ u, v = some u ∧ Rep K G u d
  | .own w => ∃ p, v = some (.ref p) ∧ WOk K G H p w
  | .exn e => ∃ a Ca d, K.C.ex = some (a, Ca, d) ∧ v = some (.ref a) ∧ ExcOk K G G (.ref Ca) d e
theorem SlotOk.xmono {K : KC} {G G' H H' : Hp} {v : Option V} {e : Exn} (s : Sub G G') (h : SlotOk K G H v (.exn e)) : SlotOk K G' H' v (.exn e) := by
  obtain ⟨a, Ca, d, h1, h2, h3⟩ := h
  exact ⟨a, Ca, d, h1, h2, h3.mono s⟩
def SL.owns (x : SL) (v : Option V) (p : Addr) : Prop := (∃ w, x = .own w) ∧ v = some (.ref p)
structure ER (K : KC) (Z : Ent) (G H : Hp) (σ : L2.St) (env : Env) : Prop where
  len : σ.length = env.length
  zg : Sub Z.G G
  zh : Sub Z.H H
  zzz : Sub Z.G Z.H
  sub : Sub G H
  new : ∀ a, G a ≠ none → Z.G a = none → ¬ NT Z.H a
  at' : ∀ (i : Nat) (x : SL), env[i]? = some x → ∃ v, σ[i]? = some v ∧ SlotOk K G H v x
  own : ∀ (i : Nat) (x : SL) (v : Option V) (p : Addr), env[i]? = some x → σ[i]? = some v → x.owns v p → G p = none ∧ Z.H p = none
  dis : ∀ (i j : Nat) (x y : SL) (v u : Option V) (p : Addr), env[i]? = some x → σ[i]? = some v → x.owns v p → env[j]? = some y → σ[j]? = some u → y.owns u p → i = j
def Free (σ : L2.St) (env : Env) (p : Addr) : Prop := ∀ (i : Nat) (x : SL) (v : Option V), env[i]? = some x → σ[i]? = some v → ¬ x.owns v p

structure Ext (G H G' H' : Hp) : Prop where
  g : Sub G G'
  h : Sub H H'
  s : Sub G' H'
  n : ∀ a, G a = none → NT H a → G' a = none
theorem Ext.refl {G H : Hp} (s : Sub G H) : Ext G H G H := ⟨.refl, .refl, s, fun _ h _ => h⟩
theorem Ext.trans {G H G1 H1 G2 H2 : Hp} (x : Ext G H G1 H1) (y : Ext G1 H1 G2 H2) : Ext G H G2 H2 :=
  ⟨x.g.trans y.g, x.h.trans y.h, y.s, fun a e n => y.n a (x.n a e n) (n.mono x.h)⟩
theorem Ext.lay {G H : Hp} (s : Sub G H) {p : Addr} {o : HO} (h : H p = none) : Ext G H G (upd H p o) :=
  ⟨.refl, .upd h, s.updR (s.none h), fun _ e _ => e⟩
theorem Ext.lay2 {G H : Hp} (s : Sub G H) {p : Addr} {o : HO} (h : H p = none) : Ext G H (upd G p o) (upd H p o) :=
  ⟨.upd (s.none h), .upd h, fun a u e => by
    by_cases z : a = p
    · subst z; rw [upd_same] at e ⊢; exact e
    · rw [upd_ne z] at e ⊢; exact s a u e, fun a e n => by rw [upd_ne (fun z => n.no (by rw [z]; exact h))]; exact e⟩
theorem Ext.freeze {G H G' H' : Hp} (x : Ext G H G' H') {p : Addr} {o : HO} (h : H p = none) (e : H' p = some o) : Ext G H (upd G' p o) H' := by
  refine ⟨fun a u q => ?_, x.h, x.s.upd2 e, fun a q n => ?_⟩
  · by_cases z : a = p
    · subst z
      have := x.s _ _ (x.g _ _ q)
      rw [e] at this; cases this
      exact upd_same
    · rw [upd_ne z]; exact x.g a u q
  · rw [upd_ne (fun z => n.no (by rw [z]; exact h))]; exact x.n a q n

theorem ER.ext {K : KC} {Z : Ent} {G H G' H' : Hp} {σ : L2.St} {env : Env} (e : ER K Z G H σ env) (x : Ext G H G' H') : ER K Z G' H' σ env := by
  refine ⟨e.len, e.zg.trans x.g, e.zh.trans x.h, e.zzz, x.s, fun a n z nt => ?_, fun i y q => ?_, fun i y v p q1 q2 o => ?_, e.dis⟩
  · by_cases g : G a = none
    · exact absurd (x.n a g (nt.mono e.zh)) n
    · exact e.new a g z nt
  · obtain ⟨v, h1, h2⟩ := e.at' i y q
    refine ⟨v, h1, ?_⟩
    cases y with
    | no => trivial
    | val d => obtain ⟨u, h3, h4⟩ := h2; exact ⟨u, h3, h4.mono x.g⟩
    | own w => obtain ⟨p, h3, h4⟩ := h2; exact ⟨p, h3, h4.mono x.g fun o q => x.h p o q⟩
    | exn e => exact SlotOk.xmono x.g h2
  · obtain ⟨h1, h2⟩ := e.own i y v p q1 q2 o
    refine ⟨x.n p h1 ?_, h2⟩
    obtain ⟨⟨w, rfl⟩, rfl⟩ := o
    obtain ⟨v, h3, p', h4, h5⟩ := e.at' i _ q1
    rw [q2] at h3; cases h3
    cases h4
    exact h5.nt

def EVok (K : KC) (Z : Ent) (Hs : Hp) (G' H' : Hp) (v : V) : EV → Prop
  | .fz d => Rep K G' v d
  | .ow new w => ∃ p, v = .ref p ∧ WOk K G' H' p w ∧ G' p = none ∧ Z.H p = none ∧ (new = true → Hs p = none)
theorem EVok.ext {K : KC} {Z : Ent} {Hs G H G' H' : Hp} {v : V} {ev : EV} (x : Ext G H G' H') (h : EVok K Z Hs G H v ev) : EVok K Z Hs G' H' v ev := by
  cases ev with
  | fz d => exact Rep.mono x.g h
  | ow n w =>
    obtain ⟨p, e, h1, h2, h3, h4⟩ := h
    exact ⟨p, e, h1.mono x.g fun o q => x.h p o q, x.n p h2 h1.nt, h3, h4⟩
theorem EVok.start {K : KC} {Z : Ent} {Hs Hs' G H : Hp} {v : V} {ev : EV} (x : Sub Hs' Hs) (h : EVok K Z Hs G H v ev) : EVok K Z Hs' G H v ev := by
  cases ev with
  | fz d => exact h
  | ow n w =>
    obtain ⟨p, e, h1, h2, h3, h4⟩ := h
    exact ⟨p, e, h1, h2, h3, fun q => x.none (h4 q)⟩
theorem EVok.rep {K : KC} {Z : Ent} {Hs G H : Hp} {v : V} {ev : EV} (s : Sub G H) (h : EVok K Z Hs G H v ev) : Rep K H v ev.d := by
  cases ev with
  | fz d => exact Rep.mono s h
  | ow n w =>
    obtain ⟨p, e, h1, _⟩ := h
    subst e
    exact h1.rep s
inductive EVs (K : KC) (Z : Ent) (Hs G H : Hp) : List V → List EV → Prop
  | nil : EVs K Z Hs G H [] []
  | cons {v : V} {vs : List V} {e : EV} {es : List EV} : EVok K Z Hs G H v e → EVs K Z Hs G H vs es → EVs K Z Hs G H (v :: vs) (e :: es)
def EV.fr : EV → EV
  | .ow true w => .fz w.d
  | e => e
@[simp] theorem EV.fr_fz (d : D) : (EV.fz d).fr = .fz d := rfl
@[simp] theorem EV.fr_new (w : OW) : (EV.ow true w).fr = .fz w.d := rfl
@[simp] theorem EV.fr_old (w : OW) : (EV.ow false w).fr = .ow false w := rfl
theorem EVok.fr {K : KC} {Z : Ent} {Hs G H G' H' : Hp} {v : V} {ev : EV} (x : Ext G H G' H') (hs : Sub H Hs) (h : EVok K Z Hs G' H' v ev) : ∃ G2, Ext G H G2 H' ∧ Sub G' G2 ∧ EVok K Z Hs G2 H' v ev.fr := by
  cases ev with
  | fz d => exact ⟨G', x, .refl, h⟩
  | ow n w =>
    cases n with
    | false => exact ⟨G', x, .refl, h⟩
    | true =>
      obtain ⟨p, e, h1, h2, h3, h4⟩ := h
      subst e
      obtain ⟨o, h5, h6⟩ := h1.freeze h2
      exact ⟨upd G' p o, x.freeze (hs.none (h4 rfl)) h5, .upd h2, h6⟩
end DL
namespace DL
open PySem PySem.Spec PyProof.Rows L2

abbrev kc (X : Cx) (C : CT) : KC := ⟨X.K, C⟩
def tE (K : KC) (W : WX) (m : Env → Rz EV) : TE := fun σ H Q => ∃ Z G env, ER K Z G H σ env ∧ match m env with
  | .ok ev => ∀ v G' H', Ext G H G' H' → EVok K Z H G' H' v ev → Q v H'
  | .exc e => ∀ cls d G' H', Ext G H G' H' → ExcOk K G' H' cls d e → W cls d σ H'
  | .stuck => False
def tT (K : KC) (W : WX) (m : Env → Rz Bool) : TT := fun σ H Q => ∃ Z G env, ER K Z G H σ env ∧ match m env with
  | .ok b => ∀ G' H', Ext G H G' H' → Q b H'
  | .exc e => ∀ cls d G' H', Ext G H G' H' → ExcOk K G' H' cls d e → W cls d σ H'
  | .stuck => False
def tA (K : KC) (W : WX) (m : Env → Rz (List EV)) : TA := fun σ H Q => ∃ Z G env, ER K Z G H σ env ∧ match m env with
  | .ok evs => ∀ vs G' H', Ext G H G' H' → EVs K Z H G' H' vs evs → Q vs H'
  | .exc e => ∀ cls d G' H', Ext G H G' H' → ExcOk K G' H' cls d e → W cls d σ H'
  | .stuck => False
structure DE (X : Cx) (C : CT) (W : WX) (e : Expr) (m : Env → Rz EV) : Prop where
  pe : PE X e (tE (kc X C) W m)
structure DT (X : Cx) (C : CT) (W : WX) (e : Expr) (m : Env → Rz Bool) : Prop where
  pt : PT X e (tT (kc X C) W m)
structure DA (X : Cx) (C : CT) (W : WX) (es : List Expr) (m : Env → Rz (List EV)) : Prop where
  pa : PA X es (tA (kc X C) W m)
inductive Out where
  | nx (env : Env) | bk (env : Env) | ct (env : Env) | ret (ev : EV) | exc (e : Exn) (env : Env) | stuck
def Post (K : KC) (W : WX) (Z : Ent) (D : Ends) (G : Hp) : Out → Prop
  | .nx env => ∀ σ H G', Sub G G' → ER K Z G' H σ env → D.nx σ H
  | .bk env => ∀ σ H G', Sub G G' → ER K Z G' H σ env → D.bk σ H
  | .ct env => ∀ σ H G', Sub G G' → ER K Z G' H σ env → D.ct σ H
  | .ret ev => ∀ σ env v H G' Hs, Sub G G' → ER K Z G' H σ env → Sub Z.H Hs → EVok K Z Hs G' H v ev → D.rt v H
  | .exc e env => ∀ σ H G' cls d, Sub G G' → ER K Z G' H σ env → ExcOk K G' H cls d e → W cls d σ H
  | .stuck => False
theorem Post.mono {K : KC} {W : WX} {Z : Ent} {D : Ends} {G G1 : Hp} {o : Out} (s : Sub G G1) (h : Post K W Z D G o) : Post K W Z D G1 o := by
  cases o with
  | nx env => exact fun σ H G' q => h σ H G' (s.trans q)
  | bk env => exact fun σ H G' q => h σ H G' (s.trans q)
  | ct env => exact fun σ H G' q => h σ H G' (s.trans q)
  | ret ev => exact fun σ env v H G' Hs q => h σ env v H G' Hs (s.trans q)
  | exc e env => exact fun σ H G' cls d q => h σ H G' cls d (s.trans q)
  | stuck => exact h
def tS (K : KC) (W : WX) (m : Env → Out) : TS := fun D σ H => ∃ Z G env, ER K Z G H σ env ∧ Post K W Z D G (m env)
structure DS (X : Cx) (C : CT) (W : WX) (st : Stmt) (m : Env → Out) : Prop where
  ps : PS X st (tS (kc X C) W m)
structure DSs (X : Cx) (C : CT) (W : WX) (st : List Stmt) (m : Env → Out) : Prop where
  pss : PSs X st (tS (kc X C) W m)

theorem PE.imp {X : Cx} {e : Expr} {t t' : TE} (h : PE X e t) (k : ∀ σ H Q, t' σ H Q → t σ H Q) : PE X e t' := ⟨fun pins s σ H Q I q => h.run pins s σ H Q I (k _ _ _ q)⟩
theorem PT.imp {X : Cx} {e : Expr} {t t' : TT} (h : PT X e t) (k : ∀ σ H Q, t' σ H Q → t σ H Q) : PT X e t' := ⟨fun pins s σ H Q I q => h.run pins s σ H Q I (k _ _ _ q)⟩
theorem PA.imp {X : Cx} {e : List Expr} {t t' : TA} (h : PA X e t) (k : ∀ σ H Q, t' σ H Q → t σ H Q) : PA X e t' := ⟨fun pos pins s σ H Q I q => h.run pos pins s σ H Q I (k _ _ _ q)⟩
theorem PS.imp {X : Cx} {e : Stmt} {t t' : TS} (h : PS X e t) (k : ∀ D σ H, t' D σ H → t D σ H) : PS X e t' := ⟨fun pins s σ H D I q => h.run pins s σ H D I (k _ _ _ q)⟩
theorem PSs.imp {X : Cx} {e : List Stmt} {t t' : TS} (h : PSs X e t) (k : ∀ D σ H, t' D σ H → t D σ H) : PSs X e t' := ⟨fun pins s σ H D I q => h.run pins s σ H D I (k _ _ _ q)⟩

theorem tE.go {K : KC} {W : WX} {m : Env → Rz EV} {Z : Ent} {G H : Hp} {σ : L2.St} {env : Env} {Q : VK} (e : ER K Z G H σ env)
    (h : match m env with
      | .ok ev => ∀ v G' H', Ext G H G' H' → EVok K Z H G' H' v ev → Q v H'
      | .exc e => ∀ cls d G' H', Ext G H G' H' → ExcOk K G' H' cls d e → W cls d σ H'
      | .stuck => False) : tE K W m σ H Q := ⟨Z, G, env, e, h⟩

section
variable {X : Cx} {C : CT} {W : WX}

def mC (d : D) : Env → Rz EV := fun _ => .ok (.fz d)
theorem de_of_val {e : Expr} {v : V} {d : D} (h : PE X e (tC v)) (r : ∀ G, Rep (kc X C) G v d) : DE X C W e (mC d) := ⟨PE.imp h fun σ H Q ⟨Z, G, env, er, q⟩ =>
  q v G H (.refl er.sub) (r G)⟩
theorem de_int {i j pos} : DE X C W (.Constant (.int i) j pos) (mC (.int i)) := de_of_val pe_int fun _ => .int i
theorem de_bl {b j pos} : DE X C W (.Constant (.bool b) j pos) (mC (.bl b)) := de_of_val pe_bl fun _ => .bl b
theorem de_non {j pos} : DE X C W (.Constant .none j pos) (mC .non) := de_of_val pe_non fun _ => .non
theorem de_str {x j pos} : DE X C W (.Constant (.str x) j pos) (mC (.str x)) := de_of_val pe_str fun _ => .str x
theorem de_globS {x y : Str} {t : Tok} {pos : Pos} (hm : X.mg x = some (.str y t)) (hg : Gl X x := by rfl) (hd : (x == ("__debug__" : Str)) = false := by decide) : DE X C W (.Name x pos) (mC (.str y)) :=
  de_of_val (pe_glob hg hm (v := .str y) ⟨t, rfl⟩ hd) fun _ => .str y
theorem de_globI {x : Str} {y : Int} {t : Tok} {pos : Pos} (hm : X.mg x = some (.int y t)) (hg : Gl X x := by rfl) (hd : (x == ("__debug__" : Str)) = false := by decide) : DE X C W (.Name x pos) (mC (.int y)) :=
  de_of_val (pe_glob hg hm (v := .int y) ⟨t, rfl⟩ hd) fun _ => .int y
def rdSlot : SL → Rz EV
  | .no => .stuck
  | .val d => .ok (.fz d)
  | .own w => .ok (.ow false w)
  | .exn _ => .stuck
def mV (i : Nat) : Env → Rz EV := fun env => rdSlot (env.getD i .no)
theorem getD_some {env : Env} {i : Nat} {x : SL} (h : env.getD i .no = x) (hx : x ≠ .no) : env[i]? = some x := by
  rw [List.getD_eq_getElem?_getD] at h
  cases q : env[i]? with
  | none => rw [q] at h; exact absurd h.symm hx
  | some y => rw [q] at h; exact congrArg some h
theorem de_var (i : Nat) {x : Str} {pos : Pos} (hN : X.N[i]? = some x := by rfl) (hv : Vis X.env.scope x := by first | exact Or.inl rfl | exact Or.inr (Or.inl rfl) | exact Or.inr (Or.inr rfl)) (hd : (x == ("__debug__" : Str)) = false := by decide)
    (hcd : (x == ("__classdict__" : Str)) = false := by decide) : DE X C W (.Name x pos) (mV i) := ⟨PE.imp (pe_var hN hv hd hcd) fun σ H Q ⟨Z, G, env, er, q⟩ => by
  unfold mV at q
  cases hx : env.getD i .no with
  | no => rw [hx] at q; exact q.elim
  | exn e => rw [hx] at q; exact q.elim
  | val d =>
    rw [hx] at q
    obtain ⟨v, h1, u, h2, h3⟩ := er.at' i _ (getD_some hx (by simp))
    subst h2
    exact ⟨u, h1, q u G H (.refl er.sub) h3⟩
  | own w =>
    rw [hx] at q
    have hi := getD_some hx (by simp)
    obtain ⟨v, h1, p, h2, h3⟩ := er.at' i _ hi
    subst h2
    obtain ⟨o1, o2⟩ := er.own i _ _ p hi h1 ⟨⟨w, rfl⟩, rfl⟩
    exact ⟨.ref p, h1, q _ G H (.refl er.sub) ⟨p, rfl, h3, o1, o2, fun z => by cases z⟩⟩⟩

def OpD (X : Cx) (C : CT) (f : Value → Value → Sem Value) (g : EV → EV → Rz EV) : Prop :=
  ∃ r : R2, OpR X f r ∧ ∀ (Z : Ent) (G H Hs : Hp) (x y : V) (a b : EV) (Q : VK), Sub G H → Sub Z.H H → EVok (kc X C) Z Hs G H x a → EVok (kc X C) Z Hs G H y b →
    (match g a b with
      | .ok ev => ∀ v G' H', Ext G H G' H' → EVok (kc X C) Z H G' H' v ev → Q v H'
      | _ => False) → r x y H Q
def m2 (ma mb : Env → Rz EV) (g : EV → EV → Rz EV) : Env → Rz EV := fun env => ma env >>= fun a => mb env >>= fun b => g a b
theorem two_go {ma mb : Env → Rz EV} {g : EV → EV → Rz EV} {r : R2} {σ : L2.St} {H : Hp} {Q : VK}
    (ho : ∀ (Z : Ent) (G H Hs : Hp) (x y : V) (a b : EV) (Q : VK), Sub G H → Sub Z.H H → EVok (kc X C) Z Hs G H x a → EVok (kc X C) Z Hs G H y b →
      (match g a b with
        | .ok ev => ∀ v G' H', Ext G H G' H' → EVok (kc X C) Z H G' H' v ev → Q v H'
        | _ => False) → r x y H Q)
    (hg : ∀ a b e, g a b ≠ .exc e) (h : tE (kc X C) W (m2 ma mb g) σ H Q) : tOp r (tE (kc X C) W ma) (tE (kc X C) W mb) σ H Q := by
  obtain ⟨Z, G, env, er, q⟩ := h
  unfold m2 at q
  refine ⟨Z, G, env, er, ?_⟩
  cases ha : ma env with
  | stuck => rw [ha] at q; exact q.elim
  | exc e => rw [ha] at q; exact q
  | ok a =>
    rw [ha] at q
    refine fun x G1 H1 x1 va => ⟨Z, G1, env, er.ext x1, ?_⟩
    cases hb : mb env with
    | stuck => rw [hb] at q; exact q.elim
    | exc e =>
      rw [hb] at q
      exact fun cls d G' H' x2 => q cls d G' H' (x1.trans x2)
    | ok b =>
      rw [hb] at q
      refine fun y G2 H2 x2 vb => ?_
      refine ho Z G2 H2 H x y a b Q x2.s (er.zh.trans (x1.h.trans x2.h)) (va.ext x2) (vb.start x1.h) ?_
      simp only [Rz.ok_bind] at q
      cases hgg : g a b with
      | stuck => rw [hgg] at q; exact q.elim
      | exc e => exact absurd hgg (hg a b e)
      | ok ev =>
        rw [hgg] at q
        exact fun v G' H' x3 ve => q v G' H' ((x1.trans x2).trans x3) (ve.start (x1.h.trans x2.h))
structure NoExc (g : EV → EV → Rz EV) : Prop where
  no : ∀ a b e, g a b ≠ .exc e
theorem de_op {op : Operator} {g : EV → EV → Rz EV} {a b : Expr} {ma mb : Env → Rz EV} {pos : Pos} (ho : OpD X C (binaryOp op) g) (hg : NoExc g) (ha : DE X C W a ma) (hb : DE X C W b mb) : DE X C W (.BinOp a op b pos) (m2 ma mb g) := by
  obtain ⟨r, h1, h2⟩ := ho
  exact ⟨PE.imp (pe_op h1 ha.pe hb.pe) fun σ H Q h => two_go h2 hg.no h⟩
theorem de_cmp {op : CmpOp} {g : EV → EV → Rz EV} {a b : Expr} {ma mb : Env → Rz EV} {pos : Pos} (ho : OpD X C (compareOp op) g) (hg : NoExc g) (ha : DE X C W a ma) (hb : DE X C W b mb) (hm : behindInMarks op b = false := by first | exact nomark _ | rfl) : DE X C W (.Compare a [op] [b] pos) (m2 ma mb g) := by
  obtain ⟨r, h1, h2⟩ := ho
  exact ⟨PE.imp (pe_cmpR h1 ha.pe hb.pe hm) fun σ H Q h => two_go h2 hg.no h⟩
def asB : EV → Rz Bool
  | .fz (.bl b) => .ok b
  | _ => .stuck
@[simp] theorem asB_bl (b : Bool) : asB (.fz (.bl b)) = .ok b := rfl
def mB (m : Env → Rz EV) : Env → Rz Bool := fun env => m env >>= asB
theorem asB_ok {K : KC} {Z : Ent} {Hs G H : Hp} {v : V} {ev : EV} {b : Bool} (h : asB ev = .ok b) (k : EVok K Z Hs G H v ev) : v = .bl b := by
  unfold asB at h
  split at h
  · cases h; cases k; rfl
  · cases h
theorem asB_exc {ev : EV} {e : Exn} : asB ev ≠ .exc e := by
  unfold asB; split <;> simp
theorem tB_go {m : Env → Rz EV} {σ : L2.St} {H : Hp} {Q : Bool → Hp → Prop} (h : tT (kc X C) W (mB m) σ H Q) : tE (kc X C) W m σ H fun x H1 => ∃ k, x = .bl k ∧ Q k H1 := by
  obtain ⟨Z, G, env, er, q⟩ := h
  unfold mB at q
  refine ⟨Z, G, env, er, ?_⟩
  cases ha : m env with
  | stuck => rw [ha] at q; exact q.elim
  | exc e => rw [ha] at q; exact q
  | ok ev =>
    rw [ha] at q
    simp only [Rz.ok_bind] at q
    cases hb : asB ev with
    | stuck => rw [hb] at q; exact q.elim
    | exc e => exact absurd hb asB_exc
    | ok b =>
      rw [hb] at q
      exact fun v G' H' x k => ⟨b, asB_ok hb k, q G' H' x⟩
theorem dt_cmp {op : CmpOp} {g : EV → EV → Rz EV} {a b : Expr} {ma mb : Env → Rz EV} {pos : Pos} (ho : OpD X C (compareOp op) g) (hg : NoExc g) (ha : DE X C W a ma) (hb : DE X C W b mb) (hm : behindInMarks op b = false := by first | exact nomark _ | rfl) : DT X C W (.Compare a [op] [b] pos) (mB (m2 ma mb g)) := by
  obtain ⟨r, h1, h2⟩ := ho
  exact ⟨PT.imp (pt_cmpR h1 ha.pe hb.pe hm) fun σ H Q h => two_go h2 hg.no (tB_go h)⟩
theorem dt_val {e : Expr} {m : Env → Rz EV} (h : DE X C W e m) (he : ∀ whole, isTrue e X.env whole = (do let v ← whole; standAt e.pos; holding [v] (truthy v)) := by intro _; rfl) : DT X C W e (mB m) :=
  ⟨PT.imp (pt_val h.pe he) fun σ H Q h => tB_go h⟩
def mTV (m : Env → Rz Bool) : Env → Rz EV := fun env => m env >>= fun b => .ok (.fz (.bl b))

def mAnd (a b : Env → Rz Bool) : Env → Rz Bool := fun env => a env >>= fun x => if x = true then b env else .ok false
def mOr (a b : Env → Rz Bool) : Env → Rz Bool := fun env => a env >>= fun x => if x = true then .ok true else b env
def mNot (a : Env → Rz Bool) : Env → Rz Bool := fun env => a env >>= fun x => .ok (!x)
structure DW (X : Cx) (C : CT) (W : WX) (e : Expr) (m : Env → Rz Bool) : Prop where
  pw : PW X e (tT (kc X C) W m)
theorem DW.dt {e : Expr} {m : Env → Rz Bool} (h : DW X C W e m) : DT X C W e m := ⟨h.pw.pt⟩
theorem PW.imp {e : Expr} {t t' : TT} (h : PW X e t) (k : ∀ σ H Q, t' σ H Q → t σ H Q) : PW X e t' := ⟨fun wh pins s σ H Q I q => h.run wh pins s σ H Q I (k _ _ _ q)⟩
theorem tT_seq {ma : Env → Rz Bool} {f : Bool → Env → Rz Bool} {σ : L2.St} {H : Hp} {Q : Bool → Hp → Prop} (h : tT (kc X C) W (fun env => ma env >>= fun x => f x env) σ H Q) :
    tT (kc X C) W ma σ H fun x H1 => tT (kc X C) W (f x) σ H1 Q := by
  obtain ⟨Z, G, env, er, q⟩ := h
  refine ⟨Z, G, env, er, ?_⟩
  cases ha : ma env with
  | stuck => simp only [ha] at q; exact q.elim
  | exc e => simp only [ha] at q; exact q
  | ok a =>
    simp only [ha, Rz.ok_bind] at q
    refine fun G1 H1 x1 => ⟨Z, G1, env, er.ext x1, ?_⟩
    cases hb : f a env with
    | stuck => rw [hb] at q; exact q.elim
    | exc e => rw [hb] at q; exact fun cls d G' H' x2 => q cls d G' H' (x1.trans x2)
    | ok b => rw [hb] at q; exact fun G' H' x2 => q G' H' (x1.trans x2)
theorem tT_ok {b : Bool} {σ : L2.St} {H : Hp} {Q : Bool → Hp → Prop} {f : Env → Rz Bool} (hf : ∀ env, f env = .ok b) (h : tT (kc X C) W f σ H Q) : Q b H := by
  obtain ⟨Z, G, env, er, q⟩ := h
  rw [hf] at q
  exact q G H (.refl er.sub)
theorem dw_and1 {a : Expr} {m : Env → Rz Bool} {pos : Pos} (h : DT X C W a m) : DW X C W (.BoolOp .And [a] pos) m := ⟨pw_and1 h.pt⟩
theorem dw_or1 {a : Expr} {m : Env → Rz Bool} {pos : Pos} (h : DT X C W a m) : DW X C W (.BoolOp .Or [a] pos) m := ⟨pw_or1 h.pt⟩
theorem dw_and {a b : Expr} {rest : List Expr} {ma mb : Env → Rz Bool} {pos : Pos} (ha : DT X C W a ma) (hb : DW X C W (.BoolOp .And (b :: rest) pos) mb) : DW X C W (.BoolOp .And (a :: b :: rest) pos) (mAnd ma mb) :=
  ⟨PW.imp (pw_and ha.pt hb.pw) fun σ H Q h => by
    have q := tT_seq (f := fun x env => if x = true then mb env else .ok false) h
    obtain ⟨Z, G, env, er, q⟩ := q
    refine ⟨Z, G, env, er, ?_⟩
    cases hm : ma env with
    | stuck => rw [hm] at q; exact q
    | exc e => rw [hm] at q; exact q
    | ok c =>
      rw [hm] at q
      intro G1 H1 x1
      have q := q G1 H1 x1
      cases c with
      | true => exact q
      | false => exact tT_ok (b := false) (fun _ => rfl) q⟩
theorem dw_or {a b : Expr} {rest : List Expr} {ma mb : Env → Rz Bool} {pos : Pos} (ha : DT X C W a ma) (hb : DW X C W (.BoolOp .Or (b :: rest) pos) mb) : DW X C W (.BoolOp .Or (a :: b :: rest) pos) (mOr ma mb) :=
  ⟨PW.imp (pw_or ha.pt hb.pw) fun σ H Q h => by
    have q := tT_seq (f := fun x env => if x = true then .ok true else mb env) h
    obtain ⟨Z, G, env, er, q⟩ := q
    refine ⟨Z, G, env, er, ?_⟩
    cases hm : ma env with
    | stuck => rw [hm] at q; exact q
    | exc e => rw [hm] at q; exact q
    | ok c =>
      rw [hm] at q
      intro G1 H1 x1
      have q := q G1 H1 x1
      cases c with
      | true => exact tT_ok (b := true) (fun _ => rfl) q
      | false => exact q⟩
theorem dt_not {a : Expr} {ma : Env → Rz Bool} {pos : Pos} (ha : DT X C W a ma) : DT X C W (.UnaryOp .Not a pos) (mNot ma) :=
  ⟨PT.imp (pt_not ha.pt) fun σ H Q h => by
    obtain ⟨Z, G, env, er, q⟩ := tT_seq (f := fun x _ => .ok (!x)) h
    refine ⟨Z, G, env, er, ?_⟩
    cases hm : ma env with
    | stuck => rw [hm] at q; exact q
    | exc e => rw [hm] at q; exact q
    | ok c => rw [hm] at q; exact fun G1 H1 x1 => tT_ok (b := !c) (fun _ => rfl) (q G1 H1 x1)⟩
theorem tE_seq {ma : Env → Rz EV} {f : EV → Env → Rz EV} {σ : L2.St} {H : Hp} {Q : VK} (h : tE (kc X C) W (fun env => ma env >>= fun x => f x env) σ H Q)
    {R : VK} (hR : ∀ (Z : Ent) (G1 H1 : Hp) (env : Env) (v : V) (a : EV), ER (kc X C) Z G1 H1 σ env → EVok (kc X C) Z H G1 H1 v a → Sub H H1 → tE (kc X C) W (f a) σ H1 Q → R v H1) : tE (kc X C) W ma σ H R := by
  obtain ⟨Z, G, env, er, q⟩ := h
  refine ⟨Z, G, env, er, ?_⟩
  cases ha : ma env with
  | stuck => simp only [ha] at q; exact q.elim
  | exc e => simp only [ha] at q; exact q
  | ok a =>
    simp only [ha, Rz.ok_bind] at q
    refine fun v G1 H1 x1 va => hR Z G1 H1 env v a (er.ext x1) va x1.h ⟨Z, G1, env, er.ext x1, ?_⟩
    cases hb : f a env with
    | stuck => rw [hb] at q; exact q.elim
    | exc e => rw [hb] at q; exact fun cls d G' H' x2 => q cls d G' H' (x1.trans x2)
    | ok b => rw [hb] at q; exact fun v G' H' x2 vb => q v G' H' (x1.trans x2) (vb.start x1.h)
def mAndV (a b : Env → Rz EV) : Env → Rz EV := fun env => a env >>= fun x => asB x >>= fun k => if k = true then b env else .ok (.fz (.bl false))
def mOrV (a b : Env → Rz EV) : Env → Rz EV := fun env => a env >>= fun x => asB x >>= fun k => if k = true then .ok (.fz (.bl true)) else b env
def mNotV (a : Env → Rz EV) : Env → Rz EV := fun env => a env >>= fun x => asB x >>= fun k => .ok (.fz (.bl (!k)))
theorem asB_seq {a : EV} {f : Bool → Env → Rz EV} {σ : L2.St} {H : Hp} {Q : VK} {K : KC} {Z : Ent} {Hs G1 H1 : Hp} {v : V} (va : EVok K Z Hs G1 H1 v a) (h : tE (kc X C) W (fun env => asB a >>= fun k => f k env) σ H Q) : ∃ k, v = .bl k ∧ tE (kc X C) W (f k) σ H Q := by
  obtain ⟨Z, G, env, er, q⟩ := h
  cases hb : asB a with
  | stuck => simp only [hb] at q; exact q.elim
  | exc e => exact absurd hb asB_exc
  | ok k =>
    simp only [hb, Rz.ok_bind] at q
    exact ⟨k, asB_ok hb va, Z, G, env, er, q⟩
theorem tE_bl {b : Bool} {σ : L2.St} {H : Hp} {Q : VK} {f : Env → Rz EV} (hf : ∀ env, f env = .ok (.fz (.bl b))) (h : tE (kc X C) W f σ H Q) : Q (.bl b) H := by
  obtain ⟨Z, G, env, er, q⟩ := h
  rw [hf] at q
  exact q _ G H (.refl er.sub) (.bl b)
theorem de_one {op} {a : Expr} {m : Env → Rz EV} {pos : Pos} (h : DE X C W a m) : DE X C W (.BoolOp op [a] pos) m := ⟨pe_one h.pe⟩
theorem de_and {a b : Expr} {rest : List Expr} {ma mb : Env → Rz EV} {pos : Pos} (ha : DE X C W a ma) (hb : DE X C W (.BoolOp .And (b :: rest) pos) mb) : DE X C W (.BoolOp .And (a :: b :: rest) pos) (mAndV ma mb) :=
  ⟨PE.imp (pe_and ha.pe hb.pe) fun σ H Q h => tE_seq (f := fun x env => asB x >>= fun k => if k = true then mb env else .ok (.fz (.bl false))) h fun Z G1 H1 env v a er va hs q => by
    obtain ⟨k, rfl, q⟩ := asB_seq (f := fun k env => if k = true then mb env else .ok (.fz (.bl false))) va q
    refine ⟨k, rfl, ?_⟩
    cases k with
    | true => exact q
    | false => exact tE_bl (b := false) (fun _ => rfl) q⟩
theorem de_or {a b : Expr} {rest : List Expr} {ma mb : Env → Rz EV} {pos : Pos} (ha : DE X C W a ma) (hb : DE X C W (.BoolOp .Or (b :: rest) pos) mb) : DE X C W (.BoolOp .Or (a :: b :: rest) pos) (mOrV ma mb) :=
  ⟨PE.imp (pe_or ha.pe hb.pe) fun σ H Q h => tE_seq (f := fun x env => asB x >>= fun k => if k = true then .ok (.fz (.bl true)) else mb env) h fun Z G1 H1 env v a er va hs q => by
    obtain ⟨k, rfl, q⟩ := asB_seq (f := fun k env => if k = true then .ok (.fz (.bl true)) else mb env) va q
    refine ⟨k, rfl, ?_⟩
    cases k with
    | true => exact tE_bl (b := true) (fun _ => rfl) q
    | false => exact q⟩
theorem de_not {a : Expr} {ma : Env → Rz EV} {pos : Pos} (ha : DE X C W a ma) : DE X C W (.UnaryOp .Not a pos) (mNotV ma) :=
  ⟨PE.imp (pe_not ha.pe) fun σ H Q h => tE_seq (f := fun x _ => asB x >>= fun k => .ok (.fz (.bl (!k)))) h fun Z G1 H1 env v a er va hs q => by
    obtain ⟨k, rfl, q⟩ := asB_seq (f := fun k _ => .ok (.fz (.bl (!k)))) va q
    exact ⟨k, rfl, tE_bl (b := !k) (fun _ => rfl) q⟩⟩
def mIf (t : Env → Rz Bool) (a b : Env → Rz EV) : Env → Rz EV := fun env => t env >>= fun x => if x = true then a env else b env
theorem tT_seqE {ma : Env → Rz Bool} {f : Bool → Env → Rz EV} {σ : L2.St} {H : Hp} {Q : VK} (h : tE (kc X C) W (fun env => ma env >>= fun x => f x env) σ H Q) :
    tT (kc X C) W ma σ H fun x H1 => tE (kc X C) W (f x) σ H1 Q := by
  obtain ⟨Z, G, env, er, q⟩ := h
  refine ⟨Z, G, env, er, ?_⟩
  cases ha : ma env with
  | stuck => simp only [ha] at q; exact q.elim
  | exc e => simp only [ha] at q; exact q
  | ok a =>
    simp only [ha, Rz.ok_bind] at q
    refine fun G1 H1 x1 => ⟨Z, G1, env, er.ext x1, ?_⟩
    cases hb : f a env with
    | stuck => rw [hb] at q; exact q.elim
    | exc e => rw [hb] at q; exact fun cls d G' H' x2 => q cls d G' H' (x1.trans x2)
    | ok b => rw [hb] at q; exact fun v G' H' x2 vb => q v G' H' (x1.trans x2) (vb.start x1.h)
theorem de_if {c a b : Expr} {t : Env → Rz Bool} {ma mb : Env → Rz EV} {pos : Pos} (hc : DT X C W c t) (ha : DE X C W a ma) (hb : DE X C W b mb) : DE X C W (.IfExp c a b pos) (mIf t ma mb) :=
  ⟨PE.imp (pe_ifExp hc.pt ha.pe hb.pe) fun σ H Q h => by
    obtain ⟨Z, G, env, er, q⟩ := tT_seqE (f := fun x env => if x = true then ma env else mb env) h
    refine ⟨Z, G, env, er, ?_⟩
    cases hm : t env with
    | stuck => rw [hm] at q; exact q
    | exc e => rw [hm] at q; exact q
    | ok c =>
      rw [hm] at q
      intro G1 H1 x1
      have q := q G1 H1 x1
      cases c with
      | true => exact q
      | false => exact q⟩

def mNil : Env → Rz (List EV) := fun _ => .ok []
def mCons (a : Env → Rz EV) (r : Env → Rz (List EV)) : Env → Rz (List EV) := fun env => a env >>= fun x => r env >>= fun xs => .ok (x.fr :: xs)
theorem EVs.ext {K : KC} {Z : Ent} {Hs G H G' H' : Hp} (x : Ext G H G' H') : ∀ {vs : List V} {es : List EV}, EVs K Z Hs G H vs es → EVs K Z Hs G' H' vs es
  | _, _, .nil => .nil
  | _, _, .cons a b => .cons (a.ext x) (b.ext x)
theorem EVs.start {K : KC} {Z : Ent} {Hs Hs' G H : Hp} (x : Sub Hs' Hs) : ∀ {vs : List V} {es : List EV}, EVs K Z Hs G H vs es → EVs K Z Hs' G H vs es
  | _, _, .nil => .nil
  | _, _, .cons a b => .cons (a.start x) (b.start x)
theorem da_nil : DA X C W [] mNil := ⟨PA.imp pa_nil fun σ H Q ⟨Z, G, env, er, q⟩ => q [] G H (.refl er.sub) .nil⟩
theorem da_cons {e : Expr} {es : List Expr} {m : Env → Rz EV} {r : Env → Rz (List EV)} (h : DE X C W e m) (hr : DA X C W es r) (hs : starEach (e :: es) X.env = (false, eval e X.env) :: starEach es X.env := by rfl) : DA X C W (e :: es) (mCons m r) :=
  ⟨PA.imp (pa_cons h.pe hr.pa hs) fun σ H Q ⟨Z, G, env, er, q⟩ => by
    unfold mCons at q
    refine ⟨Z, G, env, er, ?_⟩
    cases ha : m env with
    | stuck => rw [ha] at q; exact q.elim
    | exc e => rw [ha] at q; exact q
    | ok a =>
      rw [ha] at q
      simp only [Rz.ok_bind] at q
      intro v G1 H1 x1 va
      obtain ⟨G2, x2, s2, va2⟩ := va.fr x1 .refl
      refine ⟨Z, G2, env, er.ext x2, ?_⟩
      cases hb : r env with
      | stuck => rw [hb] at q; exact q.elim
      | exc e => rw [hb] at q; exact fun cls d G' H' x3 => q cls d G' H' (x2.trans x3)
      | ok b => rw [hb] at q; exact fun vs G' H' x3 vb => q (v :: vs) G' H' (x2.trans x3) (.cons (va2.ext x3) (vb.start x2.h))⟩
def allFz : List EV → Option (List D)
  | [] => some []
  | .fz d :: r => (allFz r).map (d :: ·)
  | _ :: _ => none
@[simp] theorem allFz_nil : allFz [] = some [] := rfl
@[simp] theorem allFz_fz (d : D) (r : List EV) : allFz (.fz d :: r) = (allFz r).map (d :: ·) := rfl
theorem allFz_ok {K : KC} {Z : Ent} {Hs G H : Hp} : ∀ {evs : List EV} {vs : List V} {ds : List D}, allFz evs = some ds → EVs K Z Hs G H vs evs → Reps K G vs ds
  | [], _, _, e, .nil => by cases e; exact .nil
  | .fz d :: r, _, ds, e, .cons a b => by
    rw [allFz_fz] at e
    cases q : allFz r with
    | none => rw [q] at e; cases e
    | some es => rw [q] at e; cases e; exact .cons a (allFz_ok q b)
  | .ow _ _ :: _, _, _, e, _ => by cases e
def mTup (a : Env → Rz (List EV)) : Env → Rz EV := fun env => a env >>= fun xs => orStuck (allFz xs) >>= fun ds => if ds.length ≤ sizeLine then .ok (.fz (.tup ds)) else .stuck
def mLst (a : Env → Rz (List EV)) : Env → Rz EV := fun env => a env >>= fun xs => orStuck (allFz xs) >>= fun ds => if ds.length ≤ sizeLine then .ok (.ow true (.lst ds)) else .stuck
theorem tA_seq {ma : Env → Rz (List EV)} {f : List EV → Env → Rz EV} {σ : L2.St} {H : Hp} {Q : VK} (h : tE (kc X C) W (fun env => ma env >>= fun x => f x env) σ H Q)
    {R : List V → Hp → Prop} (hR : ∀ (Z : Ent) (G1 H1 : Hp) (env : Env) (vs : List V) (a : List EV), ER (kc X C) Z G1 H1 σ env → EVs (kc X C) Z H G1 H1 vs a → Sub H H1 →
      (match f a env with
        | .ok ev => ∀ v G' H', Ext G1 H1 G' H' → EVok (kc X C) Z H1 G' H' v ev → Q v H'
        | .exc e => ∀ cls d G' H', Ext G1 H1 G' H' → ExcOk (kc X C) G' H' cls d e → W cls d σ H'
        | .stuck => False) → R vs H1) : tA (kc X C) W ma σ H R := by
  obtain ⟨Z, G, env, er, q⟩ := h
  refine ⟨Z, G, env, er, ?_⟩
  cases ha : ma env with
  | stuck => simp only [ha] at q; exact q.elim
  | exc e => simp only [ha] at q; exact q
  | ok a =>
    simp only [ha, Rz.ok_bind] at q
    refine fun v G1 H1 x1 va => hR Z G1 H1 env v a (er.ext x1) va x1.h ?_
    cases hb : f a env with
    | stuck => rw [hb] at q; exact q.elim
    | exc e => rw [hb] at q; exact fun cls d G' H' x2 => q cls d G' H' (x1.trans x2)
    | ok b => rw [hb] at q; exact fun v G' H' x2 vb => q v G' H' (x1.trans x2) (vb.start x1.h)
theorem disp_inv {xs : List EV} {F : List D → EV} {P : Rz EV → Prop} (hs : P .stuck → False) (h : P (orStuck (allFz xs) >>= fun ds => if ds.length ≤ sizeLine then .ok (F ds) else .stuck)) : ∃ ds, allFz xs = some ds ∧ ds.length ≤ sizeLine ∧ P (.ok (F ds)) := by
  cases q : allFz xs with
  | none => rw [q] at h; exact (hs h).elim
  | some ds =>
    rw [q] at h
    simp only [orStuck_some, Rz.ok_bind] at h
    by_cases z : ds.length ≤ sizeLine
    · rw [if_pos z] at h; exact ⟨ds, rfl, z, h⟩
    · rw [if_neg z] at h; exact (hs h).elim
theorem de_tup {es : List Expr} {x1} {pos : Pos} {a : Env → Rz (List EV)} (h : DA X C W es a) : DE X C W (.Tuple es x1 pos) (mTup a) :=
  ⟨PE.imp (pe_tup h.pa) fun σ H Q h => tA_seq (f := fun xs _ => orStuck (allFz xs) >>= fun ds => if ds.length ≤ sizeLine then .ok (.fz (.tup ds)) else .stuck) h fun Z G1 H1 env vs a er va hs q => by
    obtain ⟨ds, h1, h2, q⟩ := disp_inv (F := fun ds => EV.fz (.tup ds)) (P := fun r => match r with
        | .ok ev => ∀ v G' H', Ext G1 H1 G' H' → EVok (kc X C) Z H1 G' H' v ev → Q v H'
        | .exc e => ∀ cls d G' H', Ext G1 H1 G' H' → ExcOk (kc X C) G' H' cls d e → W cls d σ H'
        | .stuck => False) (fun z => z) q
    have r := allFz_ok h1 va
    refine ⟨by rw [r.length]; exact h2, fun p hp => q (.ref p) _ _ (.lay2 er.sub hp) ?_⟩
    exact .tup (.of upd_same) (r.mono (.upd (er.sub.none hp)))⟩
theorem de_lst {es : List Expr} {pos : Pos} {a : Env → Rz (List EV)} (h : DA X C W es a) : DE X C W (.List es pos) (mLst a) :=
  ⟨PE.imp (pe_lst h.pa) fun σ H Q h => tA_seq (f := fun xs _ => orStuck (allFz xs) >>= fun ds => if ds.length ≤ sizeLine then .ok (.ow true (.lst ds)) else .stuck) h fun Z G1 H1 env vs a er va hs q => by
    obtain ⟨ds, h1, h2, q⟩ := disp_inv (F := fun ds => EV.ow true (.lst ds)) (P := fun r => match r with
        | .ok ev => ∀ v G' H', Ext G1 H1 G' H' → EVok (kc X C) Z H1 G' H' v ev → Q v H'
        | .exc e => ∀ cls d G' H', Ext G1 H1 G' H' → ExcOk (kc X C) G' H' cls d e → W cls d σ H'
        | .stuck => False) (fun z => z) q
    have r := allFz_ok h1 va
    refine ⟨by rw [r.length]; exact h2, fun p hp => q (.ref p) _ _ (.lay er.sub hp) ?_⟩
    exact ⟨p, rfl, ⟨vs, upd_same, r⟩, er.sub.none hp, er.zh.none hp, fun _ => hp⟩⟩
end
end DL
namespace DL
open PySem PySem.Spec PyProof.Rows L2

section
variable {K : KC} {Z : Ent} {G H : Hp} {σ : L2.St} {env : Env}
theorem ER.upTo (er : ER K Z G H σ env) {i : Nat} (hi : i < env.length) : i < σ.length := by rw [er.len]; exact hi
theorem ER.setV (er : ER K Z G H σ env) {i : Nat} {v : V} {d : D} (r : Rep K G v d) : ER K Z G H (σ.set i (some v)) (env.set i (.val d)) := by
  refine ⟨by simpa using er.len, er.zg, er.zh, er.zzz, er.sub, er.new, fun j x e => ?_, fun j x u p e1 e2 o => ?_, fun j k x y u w p e1 e2 o1 e3 e4 o2 => ?_⟩
  · by_cases hj : i = j
    · subst hj
      have hl : i < env.length := by
        have := (List.getElem?_eq_some_iff.mp e).1
        simpa using this
      rw [List.getElem?_set_self hl] at e
      cases e
      exact ⟨_, List.getElem?_set_self (er.upTo hl), v, rfl, r⟩
    · rw [List.getElem?_set_ne hj] at e ⊢
      exact er.at' j x e
  · have hj : i ≠ j := fun hj => by
      subst hj
      have hl : i < env.length := by
        have := (List.getElem?_eq_some_iff.mp e1).1
        simpa using this
      rw [List.getElem?_set_self hl] at e1
      cases e1
      obtain ⟨⟨w, z⟩, _⟩ := o
      cases z
    rw [List.getElem?_set_ne hj] at e1 e2
    exact er.own j x u p e1 e2 o
  · have nb : ∀ {j : Nat} {x : SL} {u : Option V}, (env.set i (.val d))[j]? = some x → x.owns u p → i ≠ j := fun {j x u} e1 o hj => by
      subst hj
      have hl : i < env.length := by
        have := (List.getElem?_eq_some_iff.mp e1).1
        simpa using this
      rw [List.getElem?_set_self hl] at e1
      cases e1
      obtain ⟨⟨w, z⟩, _⟩ := o
      cases z
    have h1 := nb e1 o1
    have h2 := nb e3 o2
    rw [List.getElem?_set_ne h1] at e1 e2
    rw [List.getElem?_set_ne h2] at e3 e4
    exact er.dis j k x y u w p e1 e2 o1 e3 e4 o2
theorem ER.setO (er : ER K Z G H σ env) {i : Nat} {p : Addr} {w : OW} (wo : WOk K G H p w) (g : G p = none) (z : Z.H p = none)
    (fr : ∀ (j : Nat) (x : SL) (v : Option V), j ≠ i → env[j]? = some x → σ[j]? = some v → ¬ x.owns v p) : ER K Z G H (σ.set i (some (.ref p))) (env.set i (.own w)) := by
  refine ⟨by simpa using er.len, er.zg, er.zh, er.zzz, er.sub, er.new, fun j x e => ?_, fun j x u q e1 e2 o => ?_, fun j k x y u w' q e1 e2 o1 e3 e4 o2 => ?_⟩
  · by_cases hj : i = j
    · subst hj
      have hl : i < env.length := by
        have := (List.getElem?_eq_some_iff.mp e).1
        simpa using this
      rw [List.getElem?_set_self hl] at e
      cases e
      exact ⟨_, List.getElem?_set_self (er.upTo hl), p, rfl, wo⟩
    · rw [List.getElem?_set_ne hj] at e ⊢
      exact er.at' j x e
  · by_cases hj : i = j
    · subst hj
      have hl : i < env.length := by
        have := (List.getElem?_eq_some_iff.mp e1).1
        simpa using this
      rw [List.getElem?_set_self (er.upTo hl)] at e2
      cases e2
      obtain ⟨_, z'⟩ := o
      cases z'
      exact ⟨g, z⟩
    · rw [List.getElem?_set_ne hj] at e1 e2
      exact er.own j x u q e1 e2 o
  · have key : ∀ {j : Nat} {x : SL} {u : Option V}, (env.set i (.own w))[j]? = some x → (σ.set i (some (.ref p)))[j]? = some u → x.owns u q → (j = i ∧ q = p) ∨ (j ≠ i ∧ env[j]? = some x ∧ σ[j]? = some u) := fun {j x u} e1 e2 o => by
      by_cases hj : i = j
      · subst hj
        have hl : i < env.length := by
          have := (List.getElem?_eq_some_iff.mp e1).1
          simpa using this
        rw [List.getElem?_set_self (er.upTo hl)] at e2
        cases e2
        obtain ⟨_, z'⟩ := o
        cases z'
        exact .inl ⟨rfl, rfl⟩
      · rw [List.getElem?_set_ne hj] at e1 e2
        exact .inr ⟨fun h => hj h.symm, e1, e2⟩
    rcases key e1 e2 o1 with ⟨rfl, rfl⟩ | ⟨n1, f1, f2⟩
    · rcases key e3 e4 o2 with ⟨rfl, _⟩ | ⟨n2, f3, f4⟩
      · rfl
      · exact absurd o2 (fr k y w' n2 f3 f4)
    · rcases key e3 e4 o2 with ⟨rfl, rfl⟩ | ⟨n2, f3, f4⟩
      · exact absurd o1 (fr j x u n1 f1 f2)
      · exact er.dis j k x y u w' q f1 f2 o1 f3 f4 o2
theorem ER.setN (er : ER K Z G H σ env) {i : Nat} {u : Option V} : ER K Z G H (σ.set i u) (env.set i .no) := by
  have nb : ∀ {j : Nat} {x : SL} {v : Option V} {p : Addr}, (env.set i .no)[j]? = some x → x.owns v p → i ≠ j := fun {j x v p} e1 o hj => by
    subst hj
    have hl : i < env.length := by
      have := (List.getElem?_eq_some_iff.mp e1).1
      simpa using this
    rw [List.getElem?_set_self hl] at e1
    cases e1
    obtain ⟨⟨w, z⟩, _⟩ := o
    cases z
  refine ⟨by simpa using er.len, er.zg, er.zh, er.zzz, er.sub, er.new, fun j x e => ?_, fun j x v p e1 e2 o => ?_, fun j k x y v w p e1 e2 o1 e3 e4 o2 => ?_⟩
  · by_cases hj : i = j
    · subst hj
      have hl : i < env.length := by
        have := (List.getElem?_eq_some_iff.mp e).1
        simpa using this
      rw [List.getElem?_set_self hl] at e
      cases e
      exact ⟨_, List.getElem?_set_self (er.upTo hl), trivial⟩
    · rw [List.getElem?_set_ne hj] at e ⊢
      exact er.at' j x e
  · have hj := nb e1 o
    rw [List.getElem?_set_ne hj] at e1 e2
    exact er.own j x v p e1 e2 o
  · have h1 := nb e1 o1
    have h2 := nb e3 o2
    rw [List.getElem?_set_ne h1] at e1 e2
    rw [List.getElem?_set_ne h2] at e3 e4
    exact er.dis j k x y v w p e1 e2 o1 e3 e4 o2
theorem ER.free (er : ER K Z G H σ env) {p : Addr} (h : H p = none) : Free σ env p := fun i x v e1 e2 o => by
  obtain ⟨⟨w, rfl⟩, rfl⟩ := o
  obtain ⟨v, h3, q, h4, h5⟩ := er.at' i _ e1
  rw [e2] at h3; cases h3; cases h4
  obtain ⟨o, h6, _⟩ := h5.some
  rw [h6] at h; cases h
theorem ER.put (er : ER K Z G H σ env) {i : Nat} {w w' : OW} {p : Addr} {o : HO} (hi : env[i]? = some (.own w)) (hs : σ[i]? = some (some (.ref p))) (ho : WOk K G (upd H p o) p w') : ER K Z G (upd H p o) σ (env.set i (.own w')) := by
  obtain ⟨g, z⟩ := er.own i _ _ p hi hs ⟨⟨w, rfl⟩, rfl⟩
  have hl : i < env.length := (List.getElem?_eq_some_iff.mp hi).1
  have key : ∀ {j : Nat} {x : SL} {v : Option V}, j ≠ i → env[j]? = some x → σ[j]? = some v → ¬ x.owns v p := fun {j x v} n e1 e2 o' => n (er.dis j i x _ v _ p e1 e2 o' hi hs ⟨⟨w, rfl⟩, rfl⟩)
  have er' : ER K Z G (upd H p o) σ (env.set i .no) := by
    have e0 : ER K Z G H (σ.set i (some (.ref p))) (env.set i .no) := er.setN
    rw [show σ.set i (some (V.ref p)) = σ from by
      apply List.ext_getElem?
      intro j
      by_cases hj : i = j
      · subst hj; rw [List.getElem?_set_self (er.upTo hl), hs]
      · rw [List.getElem?_set_ne hj]] at e0
    refine ⟨e0.len, e0.zg, e0.zh.updR z, e0.zzz, e0.sub.updR g, e0.new, fun j x e => ?_, e0.own, e0.dis⟩
    obtain ⟨v, h1, h2⟩ := e0.at' j x e
    refine ⟨v, h1, ?_⟩
    cases x with
    | no => trivial
    | val d => exact h2
    | exn e => exact h2
    | own w2 =>
      obtain ⟨q, rfl, h4⟩ := h2
      have hj : j ≠ i := fun hj => by
        subst hj
        rw [List.getElem?_set_self hl] at e; cases e
      have e' := e
      rw [List.getElem?_set_ne (Ne.symm hj)] at e'
      have hq : q ≠ p := fun hq => key hj e' h1 ⟨⟨w2, rfl⟩, by rw [hq]⟩
      exact ⟨q, rfl, h4.mono .refl fun o q' => by rw [upd_ne hq]; exact q'⟩
  have e1 := er'.setO (i := i) ho g z (fun j x v n e1 e2 => by
    rw [List.getElem?_set_ne (Ne.symm n)] at e1
    exact key n e1 e2)
  rw [List.set_set] at e1
  rw [show σ.set i (some (V.ref p)) = σ from by
    apply List.ext_getElem?
    intro j
    by_cases hj : i = j
    · subst hj; rw [List.getElem?_set_self (er.upTo hl), hs]
    · rw [List.getElem?_set_ne hj]] at e1
  exact e1
theorem ER.freeze (er : ER K Z G H σ env) {i : Nat} {w : OW} (hi : env[i]? = some (.own w)) : ∃ G', Sub G G' ∧ ER K Z G' H σ (env.set i (.val w.d)) := by
  obtain ⟨v, hs, p, rfl, wo⟩ := er.at' i _ hi
  obtain ⟨g, z⟩ := er.own i _ _ p hi hs ⟨⟨w, rfl⟩, rfl⟩
  obtain ⟨o, h5, h6⟩ := wo.freeze g
  have hl : i < env.length := (List.getElem?_eq_some_iff.mp hi).1
  have hσ : ∀ u : V, u = .ref p → σ.set i (some u) = σ := fun u e => by
    subst e
    apply List.ext_getElem?
    intro j
    by_cases hj : i = j
    · subst hj; rw [List.getElem?_set_self (er.upTo hl), hs]
    · rw [List.getElem?_set_ne hj]
  refine ⟨upd G p o, .upd g, ?_⟩
  have e0 : ER K Z G H (σ.set i (some (.ref p))) (env.set i .no) := er.setN
  rw [hσ _ rfl] at e0
  have e1 : ER K Z (upd G p o) H σ (env.set i .no) := by
    refine ⟨e0.len, e0.zg.trans (.upd g), e0.zh, e0.zzz, e0.sub.upd2 h5, fun a n q => ?_, fun j x e => ?_, fun j x v q e1 e2 o' => ?_, e0.dis⟩
    · by_cases ha : a = p
      · rw [ha]; exact fun nt => nt.no z
      · rw [upd_ne ha] at n; exact e0.new a n q
    · obtain ⟨v, h1, h2⟩ := e0.at' j x e
      refine ⟨v, h1, ?_⟩
      cases x with
      | no => trivial
      | val d => obtain ⟨u, h3, h4⟩ := h2; exact ⟨u, h3, h4.mono (.upd g)⟩
      | exn e => exact SlotOk.xmono (.upd g) h2
      | own w2 => obtain ⟨q, h3, h4⟩ := h2; exact ⟨q, h3, h4.mono (.upd g) fun _ k => k⟩
    · obtain ⟨h1, h2⟩ := e0.own j x v q e1 e2 o'
      refine ⟨?_, h2⟩
      have hj : j ≠ i := fun hj => by
        subst hj
        rw [List.getElem?_set_self hl] at e1; cases e1
        obtain ⟨⟨w, z⟩, _⟩ := o'
        cases z
      rw [List.getElem?_set_ne (Ne.symm hj)] at e1
      have hq : q ≠ p := fun hq => hj (er.dis j i x _ v _ p e1 e2 (by rw [← hq]; exact o') hi hs ⟨⟨w, rfl⟩, rfl⟩)
      rw [upd_ne hq]; exact h1
  have e2 := e1.setV (i := i) h6
  rw [List.set_set, hσ _ rfl] at e2
  exact e2
end

section
variable {X : Cx} {C : CT} {W : WX}

def mSeq (a b : Env → Out) : Env → Out := fun env => match a env with
  | .nx e => b e
  | o => o
theorem dss_nil : DSs X C W [] Out.nx := ⟨PSs.imp pss_nil fun D σ H ⟨Z, G, env, er, q⟩ => q σ H G .refl er⟩
theorem Post.seq {K : KC} {Z : Ent} {D : Ends} {G : Hp} {o : Out} {b : Env → Out} (h : Post K W Z D G (match o with
  | .nx e => b e
  | o => o)) : Post K W Z { D with nx := tS K W b D } G o := by
  cases o with
  | nx e => exact fun σ H G' s er => ⟨Z, G', e, er, h.mono s⟩
  | bk e => exact h
  | ct e => exact h
  | ret e => exact h
  | exc e env => exact h
  | stuck => exact h
theorem dss_cons {st : Stmt} {rest : List Stmt} {a b : Env → Out} (h1 : DS X C W st a) (h2 : DSs X C W rest b) : DSs X C W (st :: rest) (mSeq a b) :=
  ⟨PSs.imp (pss_cons h1.ps h2.pss) fun D σ H ⟨Z, G, env, er, q⟩ => ⟨Z, G, env, er, Post.seq (b := b) q⟩⟩
theorem dss_one {st : Stmt} {a : Env → Out} (h1 : DS X C W st a) : DSs X C W [st] a := ⟨pss_one h1.ps⟩
theorem ds_pass {pos : Pos} : DS X C W (.Pass pos) Out.nx := ⟨PS.imp ps_pass fun D σ H ⟨Z, G, env, er, q⟩ => q σ H G .refl er⟩
theorem ds_break {pos : Pos} : DS X C W (.Break pos) Out.bk := ⟨PS.imp ps_break fun D σ H ⟨Z, G, env, er, q⟩ => q σ H G .refl er⟩
theorem ds_continue {pos : Pos} : DS X C W (.Continue pos) Out.ct := ⟨PS.imp ps_continue fun D σ H ⟨Z, G, env, er, q⟩ => q σ H G .refl er⟩
def onE (m : Env → Rz EV) (f : EV → Env → Out) : Env → Out := fun env => match m env with
  | .ok ev => f ev env
  | .exc e => .exc e env
  | .stuck => .stuck
theorem onE_go {m : Env → Rz EV} {f : EV → Env → Out} {D : Ends} {σ : L2.St} {H : Hp} {R : VK} (h : tS (kc X C) W (onE m f) D σ H)
    (hR : ∀ (Z : Ent) (G1 H1 : Hp) (env : Env) (v : V) (a : EV), ER (kc X C) Z G1 H1 σ env → Sub Z.H H → Sub H H1 → EVok (kc X C) Z H G1 H1 v a → Post (kc X C) W Z D G1 (f a env) → (∀ q, H q = none → Free σ env q) → R v H1) : tE (kc X C) W m σ H R := by
  obtain ⟨Z, G, env, er, q⟩ := h
  unfold onE at q
  refine ⟨Z, G, env, er, ?_⟩
  cases ha : m env with
  | stuck => rw [ha] at q; exact q.elim
  | exc e =>
    rw [ha] at q
    exact fun cls d G' H' x k => q σ H' G' cls d x.g (er.ext x) k
  | ok a =>
    rw [ha] at q
    exact fun v G1 H1 x va => hR Z G1 H1 env v a (er.ext x) er.zh x.h va (Post.mono x.g q) fun p hp => er.free hp
def mDrop (m : Env → Rz EV) : Env → Out := onE m fun _ env => .nx env
theorem ds_expr {e : Expr} {m : Env → Rz EV} {pos : Pos} (h : DE X C W e m) (hs : swapsWith e none pos.line X.env = pure false := by rfl) : DS X C W (.Expr e pos) (mDrop m) :=
  ⟨PS.imp (ps_expr h.pe hs) fun D σ H h => onE_go h fun Z G1 H1 env v a er z s va q _ => q σ H1 G1 .refl er⟩
def mRet (m : Env → Rz EV) : Env → Out := onE m fun a _ => .ret a
theorem ds_ret {e : Expr} {m : Env → Rz EV} {pos : Pos} (h : DE X C W e m) : DS X C W (.Return (some e) pos) (mRet m) :=
  ⟨PS.imp (ps_ret h.pe) fun D σ H h => onE_go h fun Z G1 H1 env v a er z s va q _ => q σ env v H1 G1 H .refl er z va⟩
theorem ds_retN {pos : Pos} : DS X C W (.Return none pos) (fun _ => .ret (.fz .non)) :=
  ⟨PS.imp ps_retN fun D σ H ⟨Z, G, env, er, q⟩ => q σ env .non H G H .refl er er.zh .non⟩
def stF (i : Nat) : EV → Env → Out := fun a env => match a.fr with
  | .fz d => .nx (env.set i (.val d))
  | _ => .stuck
def stO (i : Nat) : EV → Env → Out := fun a env => match a with
  | .ow true w => .nx (env.set i (.own w))
  | _ => .stuck
@[simp] theorem stF_fz (i : Nat) (d : D) (env : Env) : stF i (.fz d) env = .nx (env.set i (.val d)) := rfl
@[simp] theorem stF_new (i : Nat) (w : OW) (env : Env) : stF i (.ow true w) env = .nx (env.set i (.val w.d)) := rfl
@[simp] theorem stO_new (i : Nat) (w : OW) (env : Env) : stO i (.ow true w) env = .nx (env.set i (.own w)) := rfl
def mSetF (i : Nat) (m : Env → Rz EV) : Env → Out := onE m (stF i)
def mSetO (i : Nat) (m : Env → Rz EV) : Env → Out := onE m (stO i)
theorem frz_go {K : KC} {Z : Ent} {G H Hs : Hp} {σ : L2.St} {env : Env} {v : V} {ev : EV} (er : ER K Z G H σ env) (k : EVok K Z Hs G H v ev) (hf : ∀ q, Hs q = none → Free σ env q) : ∃ G2, Sub G G2 ∧ ER K Z G2 H σ env ∧ EVok K Z Hs G2 H v ev.fr := by
  cases ev with
  | fz d => exact ⟨G, .refl, er, k⟩
  | ow n w =>
    cases n with
    | false => exact ⟨G, .refl, er, k⟩
    | true =>
      obtain ⟨p, rfl, h1, h2, h3, h4⟩ := k
      obtain ⟨o, h5, h6⟩ := h1.freeze h2
      have fr := hf p (h4 rfl)
      refine ⟨upd G p o, .upd h2, ⟨er.len, er.zg.trans (.upd h2), er.zh, er.zzz, er.sub.upd2 h5, fun a n q => ?_, fun j x e => ?_, fun j x v q e1 e2 o' => ?_, er.dis⟩, h6⟩
      · by_cases ha : a = p
        · rw [ha]; exact fun nt => nt.no h3
        · rw [upd_ne ha] at n; exact er.new a n q
      · obtain ⟨v, h1, h2'⟩ := er.at' j x e
        refine ⟨v, h1, ?_⟩
        cases x with
        | no => trivial
        | val d => obtain ⟨u, h3, h4⟩ := h2'; exact ⟨u, h3, h4.mono (.upd h2)⟩
        | exn e => exact SlotOk.xmono (.upd h2) h2'
        | own w2 => obtain ⟨q, h3, h4⟩ := h2'; exact ⟨q, h3, h4.mono (.upd h2) fun _ k => k⟩
      · obtain ⟨q1, q2⟩ := er.own j x v q e1 e2 o'
        have hq : q ≠ p := fun hq => fr j x v e1 e2 (by rw [← hq]; exact o')
        exact ⟨by rw [upd_ne hq]; exact q1, q2⟩
theorem ds_setF {i : Nat} {x : Str} {e : Expr} {m : Env → Rz EV} {pos pos' : Pos} (h : DE X C W e m) (hN : X.N.Nodup) (hi : X.N[i]? = some x := by rfl) (hx : Loc X.env.scope x := by first | exact Or.inl rfl | exact Or.inr rfl)
    (hs : swapsWith e (some (.Name x pos')) pos.line X.env = pure false := by rfl) (hf : X.fn x = true ∨ X.env.scope.names.lookup x = some .local := by first | exact .inl rfl | exact .inr rfl) : DS X C W (.Assign [.Name x pos'] e pos) (mSetF i m) :=
  ⟨PS.imp (ps_set hN hi hx h.pe hs hf) fun D σ H h => onE_go h fun Z G1 H1 env v a er z s va q fr => by
    obtain ⟨G2, s2, er2, va2⟩ := frz_go er va fr
    unfold stF at q
    cases ha : a.fr with
    | ow n w => rw [ha] at q; exact q.elim
    | fz d =>
      rw [ha] at q va2
      exact q _ H1 G2 s2 (er2.setV va2)⟩
theorem ds_setO {i : Nat} {x : Str} {e : Expr} {m : Env → Rz EV} {pos pos' : Pos} (h : DE X C W e m) (hN : X.N.Nodup) (hi : X.N[i]? = some x := by rfl) (hx : Loc X.env.scope x := by first | exact Or.inl rfl | exact Or.inr rfl)
    (hs : swapsWith e (some (.Name x pos')) pos.line X.env = pure false := by rfl) (hf : X.fn x = true ∨ X.env.scope.names.lookup x = some .local := by first | exact .inl rfl | exact .inr rfl) : DS X C W (.Assign [.Name x pos'] e pos) (mSetO i m) :=
  ⟨PS.imp (ps_set hN hi hx h.pe hs hf) fun D σ H h => onE_go h fun Z G1 H1 env v a er z s va q fr => by
    unfold stO at q
    split at q
    · rename_i w
      obtain ⟨p, rfl, h1, h2, h3, h4⟩ := va
      exact q _ H1 G1 .refl (er.setO h1 h2 h3 fun j x v _ e1 e2 => fr p (h4 rfl) j x v e1 e2)
    · exact q.elim⟩
def mFrz (i : Nat) (m : Env → Out) : Env → Out := fun env => match env.getD i .no with
  | .own w => m (env.set i (.val w.d))
  | _ => m env
theorem frz_ghost {m : Env → Out} {i : Nat} {D : Ends} {σ : L2.St} {H : Hp} (h : tS (kc X C) W (mFrz i m) D σ H) : tS (kc X C) W m D σ H := by
  obtain ⟨Z, G, env, er, q⟩ := h
  unfold mFrz at q
  split at q
  · rename_i w hw
    obtain ⟨G2, s2, er2⟩ := er.freeze (getD_some hw (by simp))
    exact ⟨Z, G2, _, er2, q.mono s2⟩
  · exact ⟨Z, G, env, er, q⟩
theorem mFrz_own {i : Nat} {m : Env → Out} {env : Env} {w : OW} (h : env.getD i .no = .own w) : mFrz i m env = m (env.set i (.val w.d)) := by
  unfold mFrz; rw [h]
theorem mFrz_val {i : Nat} {m : Env → Out} {env : Env} {d : D} (h : env.getD i .no = .val d) : mFrz i m env = m env := by
  unfold mFrz; rw [h]
theorem ds_frz (i : Nat) {st : Stmt} {m : Env → Out} (h : DS X C W st m) : DS X C W st (mFrz i m) := ⟨PS.imp h.ps fun D σ H q => frz_ghost q⟩
theorem dss_frz (i : Nat) {st : List Stmt} {m : Env → Out} (h : DSs X C W st m) : DSs X C W st (mFrz i m) := ⟨PSs.imp h.pss fun D σ H q => frz_ghost q⟩
def mIfS (t : Env → Rz Bool) (a b : Env → Out) : Env → Out := fun env => match t env with
  | .ok c => if c = true then a env else b env
  | .exc e => .exc e env
  | .stuck => .stuck
theorem ds_if {c : Expr} {t : Env → Rz Bool} {sa sb : List Stmt} {a b : Env → Out} {pos : Pos} (hc : DT X C W c t) (ha : DSs X C W sa a) (hb : DSs X C W sb b) : DS X C W (.If c sa sb pos) (mIfS t a b) :=
  ⟨PS.imp (ps_if hc.pt ha.pss hb.pss) fun D σ H ⟨Z, G, env, er, q⟩ => by
    unfold mIfS at q
    refine ⟨Z, G, env, er, ?_⟩
    cases ht : t env with
    | stuck => rw [ht] at q; exact q.elim
    | exc e => rw [ht] at q; exact fun cls d G' H' x k => q σ H' G' cls d x.g (er.ext x) k
    | ok c =>
      rw [ht] at q
      intro G1 H1 x
      cases c with
      | true => exact ⟨Z, G1, env, er.ext x, Post.mono x.g q⟩
      | false => exact ⟨Z, G1, env, er.ext x, Post.mono x.g q⟩⟩

def tG (K : KC) (vs : List Nat) (p : D → Env → Rz Env) : TG := fun v σ H Q => ∃ Z G env d, ER K Z G H σ env ∧ Rep K G v d ∧ match p d env with
  | .ok env' => ∀ σ', ER K Z G H σ' env' → σ'.length = σ.length → (∀ i, i ∉ vs → σ'[i]? = σ[i]?) → Q σ' H
  | _ => False
structure DG (X : Cx) (C : CT) (tg : Expr) (vs : List Nat) (p : D → Env → Rz Env) : Prop where
  pg : PG X tg (tG (kc X C) vs p)
def pName (i : Nat) : D → Env → Rz Env := fun d env => .ok (env.set i (.val d))
theorem PG.imp {tg : Expr} {t t' : TG} (h : PG X tg t) (k : ∀ v σ H Q, t' v σ H Q → t v σ H Q) : PG X tg t' := ⟨fun pins s σ H v u Q I r q => h.run pins s σ H v u Q I r (k _ _ _ _ q)⟩
theorem dg_name {i : Nat} {x : Str} {pos : Pos} (hN : X.N.Nodup) (hi : X.N[i]? = some x := by rfl) (hx : Loc X.env.scope x := by first | exact Or.inl rfl | exact Or.inr rfl) (hf : X.fn x = true ∨ X.env.scope.names.lookup x = some .local := by first | exact .inl rfl | exact .inr rfl) :
    DG X C (.Name x pos) [i] (pName i) := ⟨PG.imp (pg_name hN hi hx hf) fun v σ H Q ⟨Z, G, env, d, er, r, q⟩ => q _ (er.setV r) (by simp) fun j hj => by
      rw [List.getElem?_set_ne (fun e => hj (by simp [e]))]⟩
def tGs (K : KC) (vs : List Nat) (p : List D → Env → Rz Env) : TGs := fun us σ H Q => ∃ Z G env ds, ER K Z G H σ env ∧ Reps K G us ds ∧ match p ds env with
  | .ok env' => ∀ σ', ER K Z G H σ' env' → σ'.length = σ.length → (∀ i, i ∉ vs → σ'[i]? = σ[i]?) → Q σ' H
  | _ => False
structure DGs (X : Cx) (C : CT) (tgs : List Expr) (vs : List Nat) (p : List D → Env → Rz Env) : Prop where
  pgs : PGs X tgs (tGs (kc X C) vs p)
theorem PGs.imp {tg : List Expr} {t t' : TGs} (h : PGs X tg t) (k : ∀ v σ H Q, t' v σ H Q → t v σ H Q) : PGs X tg t' := ⟨fun pins s σ H v u Q I r q => h.run pins s σ H v u Q I r (k _ _ _ _ q)⟩
def pNil : List D → Env → Rz Env := fun ds env => match ds with
  | [] => .ok env
  | _ => .stuck
def pCons (p : D → Env → Rz Env) (r : List D → Env → Rz Env) : List D → Env → Rz Env := fun ds env => match ds with
  | d :: ds => p d env >>= r ds
  | [] => .stuck
theorem dgs_nil : DGs X C [] [] pNil := ⟨PGs.imp pgs_nil fun v σ H Q ⟨Z, G, env, ds, er, r, q⟩ => by
  cases r with
  | nil => exact ⟨rfl, q σ er rfl fun _ _ => rfl⟩
  | cons a b => exact q.elim⟩
theorem dgs_cons {e : Expr} {es : List Expr} {v1 v2 : List Nat} {p : D → Env → Rz Env} {r : List D → Env → Rz Env} (h1 : DG X C e v1 p) (h2 : DGs X C es v2 r)
    (hs : (assignEach (e :: es) X.env).map (·.2) = assign e X.env :: (assignEach es X.env).map (·.2) := by rfl) : DGs X C (e :: es) (v1 ++ v2) (pCons p r) :=
  ⟨PGs.imp (pgs_cons h1.pg h2.pgs hs) fun us σ H Q ⟨Z, G, env, ds, er, rs, q⟩ => by
    cases rs with
    | nil => exact q.elim
    | @cons u us d ds a b =>
      refine ⟨_, _, rfl, Z, G, env, d, er, a, ?_⟩
      unfold pCons at q
      dsimp only at q
      cases hp : p d env with
      | stuck => rw [hp] at q; exact q.elim
      | exc e => rw [hp] at q; exact q.elim
      | ok e1 =>
        rw [hp] at q
        intro σ1 er1 l1 f1
        refine ⟨Z, G, e1, ds, er1, b, ?_⟩
        simp only [Rz.ok_bind] at q
        cases hr : r ds e1 with
        | stuck => rw [hr] at q; exact q.elim
        | exc e => rw [hr] at q; exact q.elim
        | ok e2 =>
          rw [hr] at q
          exact fun σ2 er2 l2 f2 => q σ2 er2 (l2.trans l1) fun i hi => by
            rw [List.mem_append, not_or] at hi
            rw [f2 i hi.2, f1 i hi.1]⟩
def pTup (r : List D → Env → Rz Env) (n : Nat) : D → Env → Rz Env := fun d env => match d with
  | .tup ds => if ds.length = n then r ds env else .stuck
  | _ => .stuck
theorem dg_tup {es : List Expr} {k : Nat} {vs : List Nat} {r : List D → Env → Rz Env} {n : Nat} {pos : Pos} (h : DGs X C es vs r) (hc : X.calm = true := by rfl)
    (hn : (assignEach es X.env).length = n := by rfl) (hst : (assignEach es X.env).findIdx? (·.1) = none := by rfl) : DG X C (.Tuple es k pos) vs (pTup r n) :=
  ⟨PG.imp (pg_tup hc h.pgs hn hst) fun v σ H Q ⟨Z, G, env, d, er, rr, q⟩ => by
    unfold pTup at q
    cases rr with
    | @tup a vs' ds sq rs =>
      dsimp only at q
      by_cases hl : ds.length = n
      · rw [if_pos hl] at q
        exact ⟨_, _, rfl, er.sub.sqT sq, rs.length.trans hl, Z, G, env, ds, er, rs, q⟩
      · rw [if_neg hl] at q; exact q.elim
    | _ => exact q.elim⟩
def mAsgF (p : D → Env → Rz Env) (m : Env → Rz EV) : Env → Out := onE m fun a env => match a.fr with
  | .fz d => (match p d env with
    | .ok env' => .nx env'
    | _ => .stuck)
  | _ => .stuck
theorem ds_asgF {tg e : Expr} {m : Env → Rz EV} {vs : List Nat} {p : D → Env → Rz Env} {pos : Pos} (h : DE X C W e m) (hg : DG X C tg vs p) (hs : swapsWithSole [tg] e pos.line X.env = pure false := by rfl) (hw : swappedStores [tg] e X.env = pure none := by rfl)
    (h1 : (assignEach [tg] X.env).map (·.2) = [assign tg X.env] := by rfl) : DS X C W (.Assign [tg] e pos) (mAsgF p m) :=
  ⟨PS.imp (ps_asg h.pe hg.pg hs hw h1) fun D σ H h => onE_go h fun Z G1 H1 env v a er z s va q fr => by
    obtain ⟨G2, s2, er2, va2⟩ := frz_go er va fr
    cases ha : a.fr with
    | ow n w => simp only [ha] at q; exact q.elim
    | fz d =>
      simp only [ha] at q
      rw [ha] at va2
      refine ⟨Z, G2, env, d, er2, va2, ?_⟩
      cases hp : p d env with
      | ok env' => rw [hp] at q; exact fun σ' er' _ _ => q σ' H1 G2 s2 er'
      | exc e => rw [hp] at q; exact q.elim
      | stuck => rw [hp] at q; exact q.elim⟩

structure IterOk (K : KC) (J : It) (G : Hp) (ds : List D) : Prop where
  go : ∀ (i : Nat) (G2 H2 : Hp), i < ds.length → Sub G G2 → Sub G2 H2 → J.go i H2
  stop : ∀ (G2 H2 : Hp), Sub G G2 → Sub G2 H2 → J.stop ds.length H2
  yld : ∀ (i : Nat) (x : V) (G2 H2 H3 : Hp), i < ds.length → Sub G G2 → Sub G2 H2 → J.yld i H2 x H3 → ∃ d G3, ds[i]? = some d ∧ Ext G2 H2 G3 H3 ∧ Rep K G3 x d
theorem IterOk.mono {K : KC} {J : It} {G G' : Hp} {ds : List D} (s : Sub G G') (h : IterOk K J G ds) : IterOk K J G' ds :=
  ⟨fun i G2 H2 l a b => h.go i G2 H2 l (s.trans a) b, fun G2 H2 a b => h.stop G2 H2 (s.trans a) b, fun i x G2 H2 H3 l a b y => h.yld i x G2 H2 H3 l (s.trans a) b y⟩
def tI (K : KC) (W : WX) (m : Env → Rz (List D)) : TI := fun σ H R => ∃ Z G env, ER K Z G H σ env ∧ match m env with
  | .ok ds => ∀ J G' H', Ext G H G' H' → IterOk K J G' ds → R J H'
  | .exc e => ∀ cls d G' H', Ext G H G' H' → ExcOk K G' H' cls d e → W cls d σ H'
  | .stuck => False
structure DI (X : Cx) (C : CT) (W : WX) (tg iter : Expr) (m : Env → Rz (List D)) : Prop where
  pi : PI X tg iter (tI (kc X C) W m)
theorem PI.imp {tg iter : Expr} {t t' : TI} (h : PI X tg iter t) (k : ∀ σ H Q, t' σ H Q → t σ H Q) : PI X tg iter t' := ⟨fun pins s σ H Q I q => h.run pins s σ H Q I (k _ _ _ q)⟩
def items : D → Rz (List D)
  | .lst ds => .ok ds
  | .tup ds => .ok ds
  | .scr ns => .ok (ns.map .int)
  | .str x => .ok (x.cps.toList.map fun c => .str ⟨#[c]⟩)
  | _ => .stuck
@[simp] theorem items_lst (ds : List D) : items (.lst ds) = .ok ds := rfl
@[simp] theorem items_tup (ds : List D) : items (.tup ds) = .ok ds := rfl
@[simp] theorem items_scr (ns : List Int) : items (.scr ns) = .ok (ns.map .int) := rfl
@[simp] theorem items_str (x : Str) : items (.str x) = .ok (x.cps.toList.map fun c => .str ⟨#[c]⟩) := rfl
def frD : EV → Rz D := fun a => match a.fr with
  | .fz d => .ok d
  | _ => .stuck
@[simp] theorem frD_fz (d : D) : frD (.fz d) = .ok d := rfl
@[simp] theorem frD_new (w : OW) : frD (.ow true w) = .ok w.d := rfl
def mItems (m : Env → Rz EV) : Env → Rz (List D) := fun env => m env >>= fun a => frD a >>= items
theorem itl_ok {K : KC} {a : Addr} {vs : List V} {ds : List D} {G : Hp} (sq : SqL K.K G a vs) (r : Reps K G vs ds) : IterOk K (Itl K.K a) G ds where
  go := fun i G2 H2 l a b => by
    obtain ⟨d, hd⟩ : ∃ d, ds[i]? = some d := ⟨_, List.getElem?_eq_getElem l⟩
    obtain ⟨v, hv, _⟩ := r.get hd
    exact ⟨vs, v, (a.trans b).sqL sq, hv⟩
  stop := fun G2 H2 a b => ⟨vs, (a.trans b).sqL sq, by rw [r.length]; exact Nat.le_refl _⟩
  yld := fun i x G2 H2 H3 l a b y => by
    obtain ⟨rfl, y⟩ := y
    obtain ⟨d, hd⟩ : ∃ d, ds[i]? = some d := ⟨_, List.getElem?_eq_getElem l⟩
    obtain ⟨v, hv, rv⟩ := r.get hd
    have := y vs ((a.trans b).sqL sq)
    rw [hv] at this; cases this
    exact ⟨d, G2, hd, .refl b, rv.mono a⟩
theorem itt_ok {K : KC} {a : Addr} {vs : List V} {ds : List D} {G : Hp} (sq : SqT K.K G a vs) (r : Reps K G vs ds) : IterOk K (Itt K.K a) G ds where
  go := fun i G2 H2 l a b => by
    obtain ⟨d, hd⟩ : ∃ d, ds[i]? = some d := ⟨_, List.getElem?_eq_getElem l⟩
    obtain ⟨v, hv, _⟩ := r.get hd
    exact ⟨vs, v, (a.trans b).sqT sq, hv⟩
  stop := fun G2 H2 a b => ⟨vs, (a.trans b).sqT sq, by rw [r.length]; exact Nat.le_refl _⟩
  yld := fun i x G2 H2 H3 l a b y => by
    obtain ⟨rfl, y⟩ := y
    obtain ⟨d, hd⟩ : ∃ d, ds[i]? = some d := ⟨_, List.getElem?_eq_getElem l⟩
    obtain ⟨v, hv, rv⟩ := r.get hd
    have := y vs ((a.trans b).sqT sq)
    rw [hv] at this; cases this
    exact ⟨d, G2, hd, .refl b, rv.mono a⟩
theorem its_ok {K : KC} {x : Str} {G : Hp} : IterOk K (Its x) G (x.cps.toList.map fun c => .str ⟨#[c]⟩) where
  go := fun i G2 H2 l a b => by show i < x.cps.size; simpa using l
  stop := fun G2 H2 a b => by show x.cps.size ≤ _; simp
  yld := fun i v G2 H2 H3 l a b y => by
    obtain ⟨rfl, c, hc, rfl⟩ := y
    refine ⟨.str ⟨#[c]⟩, G2, ?_, .refl b, .str _⟩
    rw [List.getElem?_map]
    have : x.cps.toList[i]? = some c := by simpa using hc
    rw [this]; rfl
def iSeq (K : PySem.W.Frag) (tl : TE) : TI := fun σ H R => tl σ H fun x H1 => (∃ a xs, x = .ref a ∧ SqL K H1 a xs ∧ R (Itl K a) H1) ∨ (∃ a xs, x = .ref a ∧ SqT K H1 a xs ∧ R (Itt K a) H1) ∨ (∃ y, x = .str y ∧ R (Its y) H1)
theorem pi_seq {tg l : Expr} {tl : TE} (hl : PE X l tl) : PI X tg l (iSeq X.K tl) := by
  refine ⟨fun pins s σ H R I h => ?_⟩
  refine thn (hl.run pins s σ H _ I h) fun v s1 ⟨x, H1, I1, r1, q1⟩ => ?_
  rcases q1 with ⟨a, xs, e, hq, q⟩ | ⟨a, xs, e, hq, q⟩ | ⟨y, e, q⟩
  · subst e
    cases r1
    obtain ⟨its, rv, p, hz⟩ := I1.list hq
    refine wpAny_pyIter_list p.isList ?_
    refine ⟨s1.heap.objs.size, [s1.heap.objs.size], _, _, H1, rfl, I1.kept (t' := s1.toks) fun b o e => Heap.get?_push_of_some _ e, turn_list a _, ⟨_, Heap.get?_push_size _ rfl, rfl, rfl⟩, fun b hb => ?_, q⟩
    have e : b = s1.heap.objs.size := by simpa using hb
    subst e
    exact I1.fpOk (Nat.le_refl _) (I1.hok.fresh (Nat.le_refl _))
  · subst e
    cases r1
    obtain ⟨its, rv, p, hz⟩ := I1.tuple hq
    refine wpAny_pyIter_tuple (show s1.heap.IsTuple a its.toArray from p) ?_
    refine ⟨s1.heap.objs.size, [s1.heap.objs.size], _, _, H1, rfl, I1.kept (t' := s1.toks) fun b o e => Heap.get?_push_of_some _ e, turn_tuple a _, ⟨_, Heap.get?_push_size _ rfl, rfl, rfl⟩, fun b hb => ?_, q⟩
    have e : b = s1.heap.objs.size := by simpa using hb
    subst e
    exact I1.fpOk (Nat.le_refl _) (I1.hok.fresh (Nat.le_refl _))
  · subst e
    obtain ⟨t, rfl⟩ := r1
    cases ha : y.cps.all (· < 128)
    · exact wpAny_pyIter_wide ha (pi_one (tk := s1.toks) I1 _ (turn_str _ y t "str_iterator" (.inr rfl)) ⟨_, Heap.get?_push_size _ rfl, rfl, rfl⟩ q)
    · exact wpAny_pyIter_ascii ha (pi_one (tk := s1.toks) I1 _ (turn_str _ y t "str_ascii_iterator" (.inl rfl)) ⟨_, Heap.get?_push_size _ rfl, rfl, rfl⟩ q)
end
end DL
namespace DL
open PySem PySem.Spec PyProof.Rows L2
section
variable {X : Cx} {C : CT} {W : WX}
theorem frD_ok {a : EV} {d : D} (h : frD a = .ok d) : a.fr = .fz d := by
  unfold frD at h
  split at h
  · rename_i d' e; cases h; exact e
  · cases h
theorem frD_exc {a : EV} {e : Exn} : frD a ≠ .exc e := by
  unfold frD; split <;> simp
theorem items_exc {d : D} {e : Exn} : items d ≠ .exc e := by
  unfold items; split <;> simp
theorem di_seq {tg e : Expr} {m : Env → Rz EV} (h : DE X C W e m) : DI X C W tg e (mItems m) :=
  ⟨PI.imp (pi_seq h.pe) fun σ H R ⟨Z, G, env, er, q⟩ => by
    unfold mItems at q
    refine ⟨Z, G, env, er, ?_⟩
    cases ha : m env with
    | stuck => rw [ha] at q; exact q.elim
    | exc e => rw [ha] at q; exact q
    | ok a =>
      rw [ha] at q
      simp only [Rz.ok_bind] at q
      intro v G1 H1 x1 va
      obtain ⟨G2, x2, s2, va2⟩ := va.fr x1 .refl
      cases hd : frD a with
      | stuck => rw [hd] at q; exact q.elim
      | exc e => exact absurd hd frD_exc
      | ok d =>
        rw [hd] at q
        simp only [Rz.ok_bind] at q
        rw [frD_ok hd] at va2
        have va3 : Rep (kc X C) G2 v d := va2
        cases hi : items d with
        | stuck => rw [hi] at q; exact q.elim
        | exc e => exact absurd hi items_exc
        | ok ds =>
          rw [hi] at q
          cases va3 with
          | @lst a vs ds' sq rs =>
            cases hi
            exact .inl ⟨a, vs, rfl, .of (x2.s _ _ sq), q _ G2 H1 x2 (itl_ok (.of sq) rs)⟩
          | @tup a vs ds' sq rs =>
            cases hi
            exact .inr (.inl ⟨a, vs, rfl, x2.s.sqT sq, q _ G2 H1 x2 (itt_ok sq rs)⟩)
          | @scr a ns sq =>
            cases hi
            exact .inl ⟨a, _, rfl, x2.s.sqL sq, q _ G2 H1 x2 (itl_ok sq (Reps.ints ns))⟩
          | @str x =>
            cases hi
            exact .inr (.inr ⟨x, rfl, q _ G2 H1 x2 its_ok⟩)
          | _ => cases hi⟩
theorem p62 : (2 : Int) ^ 62 = 4611686018427387904 := by decide +kernel
theorem p64 : (2 : Int) ^ 64 = 18446744073709551616 := by decide +kernel
theorem abs62 {j : Int} (h : j.natAbs < 4611686018427387904) : -(2 ^ 62) ≤ j ∧ j < 2 ^ 62 := by rw [p62]; omega
def upTo (lo : Int) (n : Nat) : List D := (List.range n).map fun (i : Nat) => .int (lo + i)
def mRng1 (a : Env → Rz (List EV)) : Env → Rz (List D) := fun env => a env >>= fun xs => match xs with
  | [.fz (.int j)] => if j.natAbs < 4611686018427387904 then .ok (upTo 0 j.toNat) else .stuck
  | _ => .stuck
def mRng2 (a : Env → Rz (List EV)) : Env → Rz (List D) := fun env => a env >>= fun xs => match xs with
  | [.fz (.int i), .fz (.int j)] => if i.natAbs < 4611686018427387904 ∧ j.natAbs < 4611686018427387904 then .ok (upTo i (j - i).toNat) else .stuck
  | _ => .stuck
theorem itr_ok {K : KC} {lo : Int} {n : Nat} {G : Hp} : IterOk K (Itr lo n) G (upTo lo n) where
  go := fun i G2 H2 l a b => by show i < n; simpa [upTo] using l
  stop := fun G2 H2 a b => by show n ≤ _; simp [upTo]
  yld := fun i v G2 H2 H3 l a b y => by
    obtain ⟨rfl, rfl⟩ := y
    have hl : i < n := by simpa [upTo] using l
    refine ⟨.int (lo + i), G2, ?_, .refl b, .int _⟩
    simp [upTo, hl]
theorem evs1 {K : KC} {Z : Ent} {Hs G H : Hp} {vs : List V} {e : EV} (h : EVs K Z Hs G H vs [e]) : ∃ v, vs = [v] ∧ EVok K Z Hs G H v e := by
  cases h with
  | cons a b => cases b; exact ⟨_, rfl, a⟩
theorem evs2 {K : KC} {Z : Ent} {Hs G H : Hp} {vs : List V} {e f : EV} (h : EVs K Z Hs G H vs [e, f]) : ∃ v u, vs = [v, u] ∧ EVok K Z Hs G H v e ∧ EVok K Z Hs G H u f := by
  cases h with
  | cons a b =>
    obtain ⟨u, rfl, k⟩ := evs1 b
    exact ⟨_, u, rfl, a, k⟩
theorem evs3 {K : KC} {Z : Ent} {Hs G H : Hp} {vs : List V} {e f g : EV} (h : EVs K Z Hs G H vs [e, f, g]) : ∃ v u t, vs = [v, u, t] ∧ EVok K Z Hs G H v e ∧ EVok K Z Hs G H u f ∧ EVok K Z Hs G H t g := by
  cases h with
  | cons a b =>
    obtain ⟨u, t, rfl, k, l⟩ := evs2 b
    exact ⟨_, u, t, rfl, a, k, l⟩
theorem rep_int {K : KC} {G : Hp} {v : V} {i : Int} (h : Rep K G v (.int i)) : v = .int i := by cases h; rfl
theorem rep_bl {K : KC} {G : Hp} {v : V} {i : Bool} (h : Rep K G v (.bl i)) : v = .bl i := by cases h; rfl
theorem rep_str {K : KC} {G : Hp} {v : V} {i : Str} (h : Rep K G v (.str i)) : v = .str i := by cases h; rfl
theorem rep_non {K : KC} {G : Hp} {v : V} (h : Rep K G v .non) : v = .non := by cases h; rfl
theorem di_range1 {tg a : Expr} {m : Env → Rz (List EV)} {p pos : Pos} (hm : X.mg "range" = none) (h : DA X C W [a] m) (hg : Gl X "range" := by rfl) (hs : starEach [a] X.env = [(false, eval a X.env)] := by rfl) :
    DI X C W tg (.Call (.Name "range" p) [a] [] pos) (mRng1 m) :=
  ⟨PI.imp (pi_range1 hg hm h.pa hs) fun σ H R ⟨Z, G, env, er, q⟩ => by
    unfold mRng1 at q
    refine ⟨Z, G, env, er, ?_⟩
    cases ha : m env with
    | stuck => rw [ha] at q; exact q.elim
    | exc e => rw [ha] at q; exact q
    | ok xs =>
      rw [ha] at q
      simp only [Rz.ok_bind] at q
      intro vs G1 H1 x1 va
      split at q
      · rename_i j heq
        split at heq
        · rename_i j'
          by_cases z : j'.natAbs < 4611686018427387904
          · rw [if_pos z] at heq
            cases heq
            obtain ⟨v, rfl, k⟩ := evs1 va
            exact ⟨j', by rw [rep_int k], (abs62 z).1, (abs62 z).2, q _ G1 H1 x1 itr_ok⟩
          · rw [if_neg z] at heq; cases heq
        · cases heq
      · rename_i e heq
        split at heq
        · split at heq <;> cases heq
        · cases heq
      · exact q.elim⟩
theorem di_range2 {tg a b : Expr} {m : Env → Rz (List EV)} {p pos : Pos} (hm : X.mg "range" = none) (h : DA X C W [a, b] m) (hg : Gl X "range" := by rfl) (hs : starEach [a, b] X.env = [(false, eval a X.env), (false, eval b X.env)] := by rfl) (hs2 : starEach [b] X.env = [(false, eval b X.env)] := by rfl) :
    DI X C W tg (.Call (.Name "range" p) [a, b] [] pos) (mRng2 m) :=
  ⟨PI.imp (pi_range2 hg hm h.pa hs hs2) fun σ H R ⟨Z, G, env, er, q⟩ => by
    unfold mRng2 at q
    refine ⟨Z, G, env, er, ?_⟩
    cases ha : m env with
    | stuck => rw [ha] at q; exact q.elim
    | exc e => rw [ha] at q; exact q
    | ok xs =>
      rw [ha] at q
      simp only [Rz.ok_bind] at q
      intro vs G1 H1 x1 va
      split at q
      · rename_i j heq
        split at heq
        · rename_i i' j'
          by_cases z : i'.natAbs < 4611686018427387904 ∧ j'.natAbs < 4611686018427387904
          · rw [if_pos z] at heq
            cases heq
            obtain ⟨v, u, rfl, k, l⟩ := evs2 va
            exact ⟨i', j', by rw [rep_int k, rep_int l], ⟨(abs62 z.1).1, (abs62 z.1).2, (abs62 z.2).1, (abs62 z.2).2⟩, q _ G1 H1 x1 itr_ok⟩
          · rw [if_neg z] at heq; cases heq
        · cases heq
      · rename_i e heq
        split at heq
        · split at heq <;> cases heq
        · cases heq
      · exact q.elim⟩

def forF (p : D → Env → Rz Env) (b : Env → Out) : List D → Env → Out
  | [], env => .nx env
  | d :: ds, env => match p d env with
    | .ok e => (match b e with
      | .nx e' => forF p b ds e'
      | .ct e' => forF p b ds e'
      | .bk e' => .nx e'
      | o => o)
    | _ => .stuck
def mFor (it : Env → Rz (List D)) (p : D → Env → Rz Env) (b : Env → Out) : Env → Out := fun env => match it env with
  | .ok ds => forF p b ds env
  | .exc e => .exc e env
  | .stuck => .stuck
theorem ds_for {tg iter : Expr} {body : List Stmt} {it : Env → Rz (List D)} {vs : List Nat} {p : D → Env → Rz Env} {b : Env → Out} {pos : Pos} (hp : PassesOwn (model X.prog X.w) X.A X.env X.xe) (hi : DI X C W tg iter it) (hg : DG X C tg vs p) (hb : DSs X C W body b) (hc : X.calm = true := by rfl)
    (hs : ∀ x, foldedSetIterable iter X.env x = pure x := by intro _; rfl) : DS X C W (.For tg iter body [] pos) (mFor it p b) :=
  ⟨PS.imp (ps_for hp hc hi.pi hg.pg hb.pss hs) fun D σ H ⟨Z, G, env, er, q⟩ => by
    unfold mFor at q
    refine ⟨Z, G, env, er, ?_⟩
    cases hit : it env with
    | stuck => rw [hit] at q; exact q.elim
    | exc e => rw [hit] at q; exact fun cls d G' H' x k => q σ H' G' cls d x.g (er.ext x) k
    | ok ds =>
      rw [hit] at q
      intro J G1 H1 x1 io
      refine ⟨fun i m σ' H' => m + i = ds.length ∧ ∃ G' env', Sub G1 G' ∧ ER (kc X C) Z G' H' σ' env' ∧ Post (kc X C) W Z D G' (forF p b (ds.drop i) env'), ⟨ds.length, rfl, G1, env, .refl, er.ext x1, Post.mono x1.g q⟩, ?_⟩
      rintro i m σ' H' ⟨hm, G2, env2, s2, er2, q2⟩
      by_cases hl : i < ds.length
      · refine .inr ⟨io.go i G2 H' hl s2 er2.sub, fun σ3 H3 => ∃ G3 env3, Sub G1 G3 ∧ ER (kc X C) Z G3 H3 σ3 env3 ∧ Post (kc X C) W Z D G3 (forF p b (ds.drop (i + 1)) env3), fun σ3 H3 ⟨G3, env3, a, b', c⟩ => ⟨m - 1, by omega, by omega, G3, env3, a, b', c⟩, fun x H3 y => ?_⟩
        obtain ⟨d, G3, hd, x3, rd⟩ := io.yld i x G2 H' H3 hl s2 er2.sub y
        have hdrop : ds.drop i = d :: ds.drop (i + 1) := by
          obtain ⟨hl', e⟩ := List.getElem?_eq_some_iff.mp hd
          rw [List.drop_eq_getElem_cons hl', e]
        rw [hdrop] at q2
        unfold forF at q2
        refine ⟨Z, G3, env2, d, er2.ext x3, rd, ?_⟩
        cases hpd : p d env2 with
        | stuck => rw [hpd] at q2; exact q2.elim
        | exc e => rw [hpd] at q2; exact q2.elim
        | ok e =>
          rw [hpd] at q2
          dsimp only at q2
          intro σ4 er4 _ _
          refine ⟨Z, G3, e, er4, ?_⟩
          have q2 := Post.mono x3.g q2
          have s13 : Sub G1 G3 := s2.trans x3.g
          cases hbe : b e with
          | nx e' => rw [hbe] at q2; exact fun σ5 H5 G5 s5 er5 => ⟨G5, e', s13.trans s5, er5, Post.mono s5 q2⟩
          | ct e' => rw [hbe] at q2; exact fun σ5 H5 G5 s5 er5 => ⟨G5, e', s13.trans s5, er5, Post.mono s5 q2⟩
          | bk e' => rw [hbe] at q2; exact q2
          | ret ev => rw [hbe] at q2; exact q2
          | exc e' en => rw [hbe] at q2; exact q2
          | stuck => rw [hbe] at q2; exact q2
      · have e : i = ds.length := by omega
        subst e
        rw [List.drop_length] at q2
        exact .inl ⟨io.stop G2 H' s2 er2.sub, q2 σ' H' G2 .refl er2⟩⟩
def fuel : Nat := 2 ^ 40
def whF (c : Env → Rz Bool) (b : Env → Out) : Nat → Env → Out
  | 0, _ => .stuck
  | n + 1, env => match c env with
    | .ok true => (match b env with
      | .nx e' => whF c b n e'
      | .ct e' => whF c b n e'
      | .bk e' => .nx e'
      | o => o)
    | .ok false => .nx env
    | .exc e => .exc e env
    | .stuck => .stuck
def mWhile (c : Env → Rz Bool) (b : Env → Out) : Env → Out := whF c b fuel
theorem ds_while {c : Expr} {body : List Stmt} {t : Env → Rz Bool} {b : Env → Out} {pos : Pos} (hp : PassesOwn (model X.prog X.w) X.A X.env X.xe) (hc : DT X C W c t) (hb : DSs X C W body b) : DS X C W (.While c body [] pos) (mWhile t b) :=
  ⟨PS.imp (ps_while hp hc.pt hb.pss) fun D σ H ⟨Z, G, env, er, q⟩ => by
    unfold mWhile at q
    refine ⟨fun m σ' H' => ∃ G' env', ER (kc X C) Z G' H' σ' env' ∧ Post (kc X C) W Z D G' (whF t b m env'), ⟨fuel, G, env, er, q⟩, ?_⟩
    rintro m σ' H' ⟨G', env', er', q'⟩
    cases m with
    | zero => exact q'.elim
    | succ n =>
      unfold whF at q'
      refine ⟨Z, G', env', er', ?_⟩
      cases ht : t env' with
      | stuck => rw [ht] at q'; exact q'.elim
      | exc e => rw [ht] at q'; exact fun cls d G2 H2 x k => q' σ' H2 G2 cls d x.g (er'.ext x) k
      | ok k =>
        rw [ht] at q'
        intro G2 H2 x2
        cases k with
        | false =>
          rw [if_neg Bool.false_ne_true]
          exact q' σ' H2 G2 x2.g (er'.ext x2)
        | true =>
          rw [if_pos rfl]
          dsimp only at q'
          refine ⟨fun σ3 H3 => ∃ G3 env3, ER (kc X C) Z G3 H3 σ3 env3 ∧ Post (kc X C) W Z D G3 (whF t b n env3), fun σ3 H3 h => ⟨n, Nat.lt_succ_self n, h⟩, Z, G2, env', er'.ext x2, ?_⟩
          have q' := Post.mono x2.g q'
          cases hbe : b env' with
          | nx e' => rw [hbe] at q'; exact fun σ5 H5 G5 s5 er5 => ⟨G5, e', er5, Post.mono s5 q'⟩
          | ct e' => rw [hbe] at q'; exact fun σ5 H5 G5 s5 er5 => ⟨G5, e', er5, Post.mono s5 q'⟩
          | bk e' => rw [hbe] at q'; exact q'
          | ret ev => rw [hbe] at q'; exact q'
          | exc e' en => rw [hbe] at q'; exact q'
          | stuck => rw [hbe] at q'; exact q'⟩

def lcF (p : D → Env → Rz Env) (t : Env → Rz Bool) (e : Env → Rz EV) (env : Env) : List D → List D → Rz (List D)
  | [], acc => .ok acc
  | d :: ds, acc => match p d env with
    | .ok en => (match t en with
      | .ok true => (match e en with
        | .ok ev => (match ev.fr with
          | .fz y => if acc.length < sizeLine then lcF p t e env ds (acc ++ [y]) else .stuck
          | _ => .stuck)
        | _ => .stuck)
      | .ok false => lcF p t e env ds acc
      | _ => .stuck)
    | _ => .stuck
def wipeE (env : Env) : List Nat → Env
  | [] => env
  | v :: vs => (wipeE env vs).set v .no
def mLc (it : Env → Rz (List D)) (p : D → Env → Rz Env) (t : Env → Rz Bool) (e : Env → Rz EV) (vs : List Nat) : Env → Rz EV := fun env => it env >>= fun ds => match lcF p t e (wipeE env vs) ds [] with
  | .ok out => .ok (.ow true (.lst out))
  | _ => .stuck
theorem ER.wipe {K : KC} {Z : Ent} {G H : Hp} {σ : L2.St} {env : Env} (er : ER K Z G H σ env) : ∀ vs : List Nat, ER K Z G H (L2.wipe σ vs) (wipeE env vs)
  | [] => er
  | v :: vs => (er.wipe vs).setN
theorem wipe_len (σ : L2.St) : ∀ vs : List Nat, (L2.wipe σ vs).length = σ.length := L2.wipe_length σ
theorem wipe_in (σ : L2.St) : ∀ {vs : List Nat} {i : Nat}, i ∈ vs → i < σ.length → (L2.wipe σ vs)[i]? = some none
  | v :: vs, i, h, l => by
    unfold L2.wipe
    by_cases e : v = i
    · subst e
      rw [List.getElem?_set_self (by rw [L2.wipe_length]; exact l)]
    · rw [List.getElem?_set_ne e]
      exact wipe_in σ (by rcases List.mem_cons.mp h with z | z; exact absurd z.symm e; exact z) l
theorem wipe_out (σ : L2.St) : ∀ {vs : List Nat} {i : Nat}, i ∉ vs → (L2.wipe σ vs)[i]? = σ[i]?
  | [], i, h => rfl
  | v :: vs, i, h => by
    unfold L2.wipe
    rw [List.mem_cons, not_or] at h
    rw [List.getElem?_set_ne (Ne.symm h.1)]
    exact wipe_out σ h.2
theorem wipe_eq {σ σ' : L2.St} {vs us : List Nat} (hl : σ'.length = (L2.wipe σ vs).length) (hu : ∀ i ∈ us, i ∈ vs) (h : ∀ i, i ∉ us → σ'[i]? = (L2.wipe σ vs)[i]?) : L2.wipe σ' vs = L2.wipe σ vs := by
  apply List.ext_getElem?
  intro i
  by_cases hi : i ∈ vs
  · by_cases hl2 : i < σ.length
    · rw [wipe_in σ hi hl2, wipe_in σ' hi (by rw [hl, L2.wipe_length]; exact hl2)]
    · rw [List.getElem?_eq_none (by rw [L2.wipe_length, hl, L2.wipe_length]; omega), List.getElem?_eq_none (by rw [L2.wipe_length]; omega)]
  · rw [wipe_out σ' hi, h i fun z => hi (hu i z)]
structure DTs (X : Cx) (C : CT) (W : WX) (es : List Expr) (m : Env → Rz Bool) : Prop where
  pts : PTs X es (tT (kc X C) W m)
theorem PTs.imp {es : List Expr} {t t' : TT} (h : PTs X es t) (k : ∀ σ H Q, t' σ H Q → t σ H Q) : PTs X es t' := ⟨fun pins s σ H Q I q => h.run pins s σ H Q I (k _ _ _ q)⟩
def mYes : Env → Rz Bool := fun _ => .ok true
theorem dts_nil : DTs X C W [] mYes := ⟨PTs.imp pts_nil fun σ H Q ⟨Z, G, env, er, q⟩ => q G H (.refl er.sub)⟩
theorem dts_one {c : Expr} {t : Env → Rz Bool} (h : DT X C W c t) : DTs X C W [c] t := ⟨pts_one h.pt⟩
abbrev W0 : WX := fun _ _ _ _ => False
theorem lc_go {it : Env → Rz (List D)} {us : List Nat} {p : D → Env → Rz Env} {t : Env → Rz Bool} {e : Env → Rz EV} {vs : List Nat} {σ : L2.St} {H : Hp} {Q : VK} (hu : ∀ i ∈ us, i ∈ vs)
    (h : tE (kc X C) W (mLc it p t e vs) σ H Q) : tLc (tI (kc X C) W it) (tG (kc X C) us p) (tT (kc X C) W0 t) (tE (kc X C) W0 e) vs σ H Q := by
  obtain ⟨Z, G, env, er, q⟩ := h
  unfold mLc at q
  refine ⟨Z, G, env, er, ?_⟩
  cases hit : it env with
  | stuck => rw [hit] at q; exact q.elim
  | exc e => rw [hit] at q; exact q
  | ok ds =>
    rw [hit] at q
    simp only [Rz.ok_bind] at q
    intro J G1 H1 x1 io LD hD
    cases hlc : lcF p t e (wipeE env vs) ds [] with
    | stuck => rw [hlc] at q; exact q.elim
    | exc e => rw [hlc] at q; exact q.elim
    | ok out =>
      rw [hlc] at q
      dsimp only at q
      -- the heap without the new list
      refine ⟨fun i m H' => m + i = ds.length ∧ ∃ G' acc avs, Ext G1 (upd H1 LD (.lst [])) G' (upd H' LD (.lst [])) ∧ H' LD = some (.lst avs) ∧ G' LD = none ∧ Reps (kc X C) G' avs acc ∧ ER (kc X C) Z G' H' (L2.wipe σ vs) (wipeE env vs) ∧ lcF p t e (wipeE env vs) (ds.drop i) acc = .ok out,
        ⟨ds.length, rfl, G1, [], [], (by rw [upd_upd]; exact Ext.refl (x1.s.updR (x1.s.none hD))), upd_same, x1.s.none hD, .nil, ((er.ext x1).ext (.lay x1.s hD)).wipe vs, hlc⟩, ?_⟩
      rintro i m H2 ⟨hm, G2, acc, avs, x2, hl2, hg2, ra, er2, run⟩
      by_cases hl : i < ds.length
      · have s12 : Sub G1 G2 := x2.g
        refine .inr ⟨io.go i G2 H2 hl s12 er2.sub, fun H' => ∃ G' acc avs, Ext G1 (upd H1 LD (.lst [])) G' (upd H' LD (.lst [])) ∧ H' LD = some (.lst avs) ∧ G' LD = none ∧ Reps (kc X C) G' avs acc ∧ ER (kc X C) Z G' H' (L2.wipe σ vs) (wipeE env vs) ∧ lcF p t e (wipeE env vs) (ds.drop (i + 1)) acc = .ok out,
          fun H' h => ⟨m - 1, by omega, by omega, h⟩, fun x H3 y => ?_⟩
        obtain ⟨d, G3, hd, x3, rd⟩ := io.yld i x G2 H2 H3 hl s12 er2.sub y
        have hdrop : ds.drop i = d :: ds.drop (i + 1) := by
          obtain ⟨hl', e⟩ := List.getElem?_eq_some_iff.mp hd
          rw [List.drop_eq_getElem_cons hl', e]
        rw [hdrop] at run
        unfold lcF at run
        refine ⟨Z, G3, wipeE env vs, d, er2.ext x3, rd, ?_⟩
        cases hpd : p d (wipeE env vs) with
        | stuck => rw [hpd] at run; cases run
        | exc e => rw [hpd] at run; cases run
        | ok en =>
          rw [hpd] at run
          dsimp only at run
          intro σ4 er4 l4 f4
          refine ⟨wipe_eq l4 hu f4, Z, G3, en, er4, ?_⟩
          have hl3 : H3 LD = some (.lst avs) := x3.h _ _ hl2
          have hg3 : G3 LD = none := x3.n LD hg2 ⟨_, hl2, rfl⟩
          -- how the end of a turn is told
          have back : ∀ (G5 H5 : Hp), Ext G3 H3 G5 H5 → Ext G1 (upd H1 LD (.lst [])) G5 (upd H5 LD (.lst [])) ∧ H5 LD = some (.lst avs) ∧ G5 LD = none ∧ Reps (kc X C) G5 avs acc ∧ ER (kc X C) Z G5 H5 (L2.wipe σ vs) (wipeE env vs) := fun G5 H5 x5 => by
            have x25 := x3.trans x5
            have hg5 : G5 LD = none := x5.n LD hg3 ⟨_, hl3, rfl⟩
            refine ⟨⟨x2.g.trans x25.g, fun a o k => ?_, x25.s.updR hg5, fun a k n => ?_⟩, x5.h _ _ hl3, hg5, ra.mono x25.g, er2.ext x25⟩
            · by_cases ha : a = LD
              · subst ha; rw [upd_same] at k ⊢; exact k
              · have := x2.h a o k
                rw [upd_ne ha] at this ⊢
                exact x25.h a o this
            · by_cases ha : a = LD
              · rw [ha]; exact hg5
              · refine x25.n a (x2.n a k n) ?_
                have n2 := n.mono x2.h
                obtain ⟨o, e, z⟩ := n2
                rw [upd_ne ha] at e
                exact ⟨o, e, z⟩
          cases ht : t en with
          | stuck => rw [ht] at run; cases run
          | exc e => rw [ht] at run; cases run
          | ok k =>
            rw [ht] at run
            intro G5 H5 x5
            obtain ⟨b1, b2, b3, b4, b5⟩ := back G5 H5 x5
            cases k with
            | false =>
              rw [if_neg Bool.false_ne_true]
              exact ⟨G5, acc, avs, b1, b2, b3, b4, b5, run⟩
            | true =>
              rw [if_pos rfl]
              dsimp only at run
              refine ⟨Z, G5, en, er4.ext x5, ?_⟩
              cases he : e en with
              | stuck => rw [he] at run; cases run
              | exc e => rw [he] at run; cases run
              | ok ev =>
                rw [he] at run
                dsimp only at run
                intro v G6 H6 x6 v6
                obtain ⟨G7, x7, s7, v7⟩ := v6.fr x6 .refl
                cases hf : ev.fr with
                | ow n w => rw [hf] at run; cases run
                | fz y =>
                  rw [hf] at run v7
                  dsimp only at run
                  by_cases hz : acc.length < sizeLine
                  · rw [if_pos hz] at run
                    obtain ⟨c1, c2, c3, c4, c5⟩ := back G7 H6 (x5.trans x7)
                    refine ⟨avs, c2, by rw [b4.length]; exact hz, G7, acc ++ [y], avs ++ [v], ?_, upd_same, c3, c4.append (.cons v7 .nil), ?_, run⟩
                    · rw [upd_upd]; exact c1
                    · -- the slots don't see the new list
                      refine ⟨c5.len, c5.zg, c5.zh.updR ?_, c5.zzz, c5.sub.updR c3, c5.new, fun j x e => ?_, c5.own, c5.dis⟩
                      · cases z : Z.H LD with
                        | none => rfl
                        | some o =>
                          have := (er.ext x1).zh LD o z
                          rw [hD] at this; cases this
                      · obtain ⟨u, h1, h2⟩ := c5.at' j x e
                        refine ⟨u, h1, ?_⟩
                        cases x with
                        | no => trivial
                        | val d => exact h2
                        | exn e => exact h2
                        | own w =>
                          obtain ⟨q', h3, h4⟩ := h2
                          -- an own container stood ahead of the comprehension
                          have hq : q' ≠ LD := fun hq => by
                            subst hq
                            subst h3
                            have e0 := ((er.ext x1).wipe vs).at' j _ e
                            obtain ⟨u', g1, q2, g2, g3⟩ := e0
                            rw [h1] at g1; cases g1
                            cases g2
                            obtain ⟨o, g4, _⟩ := g3.some
                            rw [hD] at g4; cases g4
                          exact ⟨q', h3, h4.mono .refl fun o k => by rw [upd_ne hq]; exact k⟩
                  · rw [if_neg hz] at run; cases run
      · have e : i = ds.length := by omega
        subst e
        rw [List.drop_length] at run
        unfold lcF at run
        cases run
        refine .inl ⟨io.stop G2 H2 x2.g er2.sub, q (.ref LD) G2 H2 ?_ ⟨LD, rfl, ⟨avs, hl2, ra⟩, hg2, ?_, fun _ => x1.h |> fun s => ?_⟩⟩
        · refine ⟨x1.g.trans x2.g, fun a o k => ?_, er2.sub, fun a k n => ?_⟩
          · have ha : a ≠ LD := fun ha => by subst ha; have := x1.h a o k; rw [hD] at this; cases this
            have := x2.h a o (by rw [upd_ne ha]; exact x1.h a o k)
            rw [upd_ne ha] at this; exact this
          · by_cases ha : a = LD
            · rw [ha]; exact hg2
            · refine x2.n a (x1.n a k n) ?_
              obtain ⟨o, e, z⟩ := n.mono x1.h
              exact ⟨o, by rw [upd_ne ha]; exact e, z⟩
        · cases z : Z.H LD with
          | none => rfl
          | some o =>
            have := (er.ext x1).zh LD o z
            rw [hD] at this; cases this
        · exact s.none hD
theorem de_lc {elt tg iter : Expr} {ifs : List Expr} {scope : Scope} {own : List (Str × Nat)} {pos : Pos} {it : Env → Rz (List D)} {us vs : List Nat} {p : D → Env → Rz Env} {t : Env → Rz Bool} {e : Env → Rz EV} (hN : X.N.Nodup) (hi : DI X C W tg iter it) (ok : BlkOk X.N X.env.scope scope own) (hvs : vs = own.map (·.2))
    (hu : ∀ i ∈ us, i ∈ vs)
    (hg : ∀ (s : Shared) (H : Hp) (L : Addr) (cl : List (Str × Addr)) (fp : List Addr), DG (X.blk s H scope (compEnvC scope cl L X.env) fp) C tg us p) (ht : ∀ (s : Shared) (H : Hp) (L : Addr) (cl : List (Str × Addr)) (fp : List Addr), DTs (X.blk s H scope (compEnvC scope cl L X.env) fp) C W0 ifs t)
    (he : ∀ (s : Shared) (H : Hp) (L : Addr) (cl : List (Str × Addr)) (fp : List Addr), DE (X.blk s H scope (compEnvC scope cl L X.env) fp) C W0 elt e) (hc : X.calm = true := by rfl) (hs : ∀ x, foldedSetIterable iter X.env x = pure x := by intro _; rfl) :
    DE X C W (.ListComp elt [⟨tg, iter, ifs, 0⟩] scope pos) (mLc it p t e vs) := by
  subst hvs
  exact ⟨PE.imp (pe_lc hc hN hi.pi ok (fun s H L cl fp => (hg s H L cl fp).pg) (fun s H L cl fp => (ht s H L cl fp).pts) (fun s H L cl fp => (he s H L cl fp).pe) hs) fun σ H Q h => lc_go hu h⟩
theorem ds_setLcF {i : Nat} {y : Str} {py : Pos} {elt tg iter : Expr} {ifs : List Expr} {scope : Scope} {own : List (Str × Nat)} {pos spos : Pos} {it : Env → Rz (List D)} {us vs : List Nat} {p : D → Env → Rz Env} {t : Env → Rz Bool} {e : Env → Rz EV} (hN : X.N.Nodup)
    (hsw : swapsWith (.ListComp elt [⟨tg, iter, ifs, 0⟩] scope pos) (some (.Name y py)) spos.line X.env = pure true) (hi : DI X C W tg iter it) (ok : BlkOk X.N X.env.scope scope own) (hvs : vs = own.map (·.2))
    (hu : ∀ i ∈ us, i ∈ vs)
    (hg : ∀ (s : Shared) (H : Hp) (L : Addr) (cl : List (Str × Addr)) (fp : List Addr), DG (X.blk s H scope (compEnvC scope cl L X.env) fp) C tg us p) (ht : ∀ (s : Shared) (H : Hp) (L : Addr) (cl : List (Str × Addr)) (fp : List Addr), DTs (X.blk s H scope (compEnvC scope cl L X.env) fp) C W0 ifs t)
    (he : ∀ (s : Shared) (H : Hp) (L : Addr) (cl : List (Str × Addr)) (fp : List Addr), DE (X.blk s H scope (compEnvC scope cl L X.env) fp) C W0 elt e) (hy : X.N[i]? = some y := by rfl) (hyl : X.env.scope.names.lookup y = some .local := by rfl) (hc : X.calm = true := by rfl) (hs : ∀ x, foldedSetIterable iter X.env x = pure x := by intro _; rfl) :
    DS X C W (.Assign [.Name y py] (.ListComp elt [⟨tg, iter, ifs, 0⟩] scope pos) spos) (mSetF i (mLc it p t e vs)) := by
  subst hvs
  exact ⟨PS.imp (ps_setLc hc hN hy hyl hsw hi.pi ok (fun s H L cl fp => (hg s H L cl fp).pg) (fun s H L cl fp => (ht s H L cl fp).pts) (fun s H L cl fp => (he s H L cl fp).pe) hs) fun D σ H h => lc_go hu (onE_go h fun Z G1 H1 env v a er z s va q fr => by
    obtain ⟨G2, s2, er2, va2⟩ := frz_go er va fr
    unfold stF at q
    cases ha : a.fr with
    | ow n w => rw [ha] at q; exact q.elim
    | fz d =>
      rw [ha] at q va2
      exact q _ H1 G2 s2 (er2.setV va2))⟩
theorem ds_setLcO {i : Nat} {y : Str} {py : Pos} {elt tg iter : Expr} {ifs : List Expr} {scope : Scope} {own : List (Str × Nat)} {pos spos : Pos} {it : Env → Rz (List D)} {us vs : List Nat} {p : D → Env → Rz Env} {t : Env → Rz Bool} {e : Env → Rz EV} (hN : X.N.Nodup)
    (hsw : swapsWith (.ListComp elt [⟨tg, iter, ifs, 0⟩] scope pos) (some (.Name y py)) spos.line X.env = pure true) (hi : DI X C W tg iter it) (ok : BlkOk X.N X.env.scope scope own) (hvs : vs = own.map (·.2))
    (hu : ∀ i ∈ us, i ∈ vs)
    (hg : ∀ (s : Shared) (H : Hp) (L : Addr) (cl : List (Str × Addr)) (fp : List Addr), DG (X.blk s H scope (compEnvC scope cl L X.env) fp) C tg us p) (ht : ∀ (s : Shared) (H : Hp) (L : Addr) (cl : List (Str × Addr)) (fp : List Addr), DTs (X.blk s H scope (compEnvC scope cl L X.env) fp) C W0 ifs t)
    (he : ∀ (s : Shared) (H : Hp) (L : Addr) (cl : List (Str × Addr)) (fp : List Addr), DE (X.blk s H scope (compEnvC scope cl L X.env) fp) C W0 elt e) (hy : X.N[i]? = some y := by rfl) (hyl : X.env.scope.names.lookup y = some .local := by rfl) (hc : X.calm = true := by rfl) (hs : ∀ x, foldedSetIterable iter X.env x = pure x := by intro _; rfl) :
    DS X C W (.Assign [.Name y py] (.ListComp elt [⟨tg, iter, ifs, 0⟩] scope pos) spos) (mSetO i (mLc it p t e vs)) := by
  subst hvs
  exact ⟨PS.imp (ps_setLc hc hN hy hyl hsw hi.pi ok (fun s H L cl fp => (hg s H L cl fp).pg) (fun s H L cl fp => (ht s H L cl fp).pts) (fun s H L cl fp => (he s H L cl fp).pe) hs) fun D σ H h => lc_go hu (onE_go h fun Z G1 H1 env v a er z s va q fr => by
    unfold stO at q
    split at q
    · rename_i w
      obtain ⟨p, rfl, h1, h2, h3, h4⟩ := va
      exact q _ H1 G1 .refl (er.setO h1 h2 h3 fun j x v _ e1 e2 => fr p (h4 rfl) j x v e1 e2)
    · exact q.elim)⟩

abbrev Fn := List D → Rz EV
def spD (K : KC) (n : Nat) (F : Fn) : Sp := fun vs H Q E => ∃ G ds, Sub G H ∧ Reps K G vs ds ∧ ds.length = n ∧ match F ds with
  | .ok ev => ∀ v G' H', Ext G H G' H' → EVok K ⟨G, H⟩ H G' H' v ev → Q v H'
  | .exc e => ∀ cls d G' H', Ext G H G' H' → ExcOk K G' H' cls d e → E cls d H'
  | .stuck => False
def runB (N : Nat) (b : Env → Out) : Fn := fun ds => match b (ds.map SL.val ++ List.replicate (N - ds.length) SL.no) with
  | .nx _ => .ok (.fz .non)
  | .ret ev => .ok ev
  | .exc e _ => .exc e
  | _ => .stuck
theorem er_start {K : KC} {G H : Hp} {vs : List V} {ds : List D} (s : Sub G H) (r : Reps K G vs ds) (N : List Str) (hN : ds.length ≤ N.length) : ER K ⟨G, H⟩ G H (start N vs) (ds.map SL.val ++ List.replicate (N.length - ds.length) SL.no) := by
  have hl := r.length
  have noown : ∀ (i : Nat) (x : SL) (v : Option V) (p : Addr), (ds.map SL.val ++ List.replicate (N.length - ds.length) SL.no)[i]? = some x → ¬ x.owns v p := fun i x v p e ⟨⟨w, z⟩, _⟩ => by
    subst z
    rw [List.getElem?_append] at e
    split at e
    · rw [List.getElem?_map] at e
      cases q : ds[i]? with
      | none => rw [q] at e; cases e
      | some d => rw [q] at e; cases e
    · rw [List.getElem?_replicate] at e
      split at e <;> cases e
  refine ⟨by simp [L2.start, hl], .refl, .refl, s, s, fun a n z => absurd z n, fun i x e => ?_, fun i x v p e _ o => absurd o (noown i x v p e), fun i j x y v u p e _ o => absurd o (noown i x v p e)⟩
  rw [List.getElem?_append] at e
  unfold L2.start
  rw [List.getElem?_append]
  simp only [List.length_map] at e ⊢
  rw [hl]
  split at e
  · rename_i hi
    rw [if_pos hi]
    rw [List.getElem?_map] at e ⊢
    cases q : ds[i]? with
    | none => rw [q] at e; cases e
    | some d =>
      rw [q] at e; cases e
      obtain ⟨v, h1, h2⟩ := r.get q
      exact ⟨some v, by rw [h1]; rfl, v, rfl, h2⟩
  · rename_i hi
    rw [if_neg hi]
    rw [List.getElem?_replicate] at e ⊢
    split at e
    · rename_i hj
      cases e
      rw [if_pos hj]
      exact ⟨none, rfl, trivial⟩
    · cases e
theorem ER.toExt {K : KC} {Z : Ent} {G H : Hp} {σ : L2.St} {env : Env} (er : ER K Z G H σ env) : Ext Z.G Z.H G H :=
  ⟨er.zg, er.zh, er.sub, fun a n k => by
    cases q : G a with
    | none => rfl
    | some o => exact absurd k (er.new a (by rw [q]; simp) n)⟩
section
variable {P : Program} {w : World} {mg : Str → Option Value} {base : Heap}
theorem fn_data {K : KC} {x qual : Str} {st : Stmt} {f : Addr} {fd : FuncData} {N ps : List Str} {k : Nat} {b : Env → Out} (F : L2.Fun K.K x qual st f fd) (S : FnScope N ps (defScope st)) (hn : ps.length ≤ N.length)
    (hbody : ∀ (cdv : Value) (A : Around) (outer : List PySem.Env) (s : Shared) (H : Hp) (E : XK), Room k (A.deeper (envOfC qual (defScope st) s.heap.objs.size f cdv)) →
      let X := cxOf (L2.CX P w) P w K.K mg base N qual (defScope st) f cdv A outer s H E
      PassesOwn (model X.prog X.w) X.A X.env X.xe → Takes X (fun cls d _ H => E cls d H) → DSs X K.C (fun cls d _ H => E cls d H) (defBody st) b) : FnOk P w K.K mg base (L2.CX P w) (k + 1) f fd ps (spD K ps.length (runB N.length b)) := by
  obtain ⟨oc, od, kV, doc, pm, an, cdv, ct, osl, rfl, lk, hcd⟩ := F.ex
  refine fn_of lk hcd S (fun vs H Q E ⟨G, ds, _, r, l, _⟩ => r.length.trans l) fun A outer s H vs Q E hr ⟨G, ds, hs, r, l, h⟩ => ?_
  refine ⟨_, (hbody cdv A outer s H E hr (passes_of rfl) (takes_of rfl rfl rfl rfl)).pss, ⟨G, H⟩, G, _, er_start hs r N (by rw [l]; exact hn), ?_⟩
  unfold runB at h
  show Post K _ _ _ _ _
  cases hb : b (ds.map SL.val ++ List.replicate (N.length - ds.length) SL.no) with
  | nx e =>
    rw [hb] at h
    exact fun σ H' G' s' er => h .non G' H' er.toExt .non
  | ret ev =>
    rw [hb] at h
    refine fun σ env v H' G' Hs s' er hz va => h v G' H' er.toExt ?_
    exact va.start hz
  | exc e env =>
    rw [hb] at h
    exact fun σ H' G' cls d s' er k => h cls d G' H' er.toExt k
  | bk e => rw [hb] at h; exact h.elim
  | ct e => rw [hb] at h; exact h.elim
  | stuck => rw [hb] at h; exact h.elim
end
end
end DL
namespace DL
open PySem PySem.Spec PyProof.Rows L2

mutual
def toPy : D → PyData
  | .non => .none
  | .bl b => .bool b
  | .int i => .int i
  | .str x => .str x
  | .tup ds => .tuple (toPys ds)
  | .lst ds => .list (toPys ds)
  | _ => .dict []
def toPys : List D → List PyData
  | [] => []
  | d :: ds => toPy d :: toPys ds
end
theorem toPys_map : ∀ ds : List D, toPys ds = ds.map toPy
  | [] => rfl
  | d :: ds => by rw [toPys, List.map_cons, toPys_map ds]
mutual
theorem dp_of {K : KC} {G : Hp} : ∀ {v : V} {d : D}, Rep K G v d → (toPy d).canLay0 = true → Dp K.K G v (toPy d)
  | _, _, .non, _ => .non
  | _, _, .bl b, _ => .bl b
  | _, _, .int i, _ => .int i
  | _, _, .str x, _ => .str x
  | _, _, .tup sq r, h => .tup sq (dps_of r (by unfold toPy at h; exact h))
  | _, _, .lst sq r, h => .lst (.of sq) (dps_of r (by unfold toPy at h; exact h))
  | _, _, .ty _, h => by unfold toPy at h; cases h
  | _, _, .cls _, h => by unfold toPy at h; cases h
  | _, _, .scr _, h => by unfold toPy at h; cases h
  | _, _, .dk _ _, h => by unfold toPy at h; cases h
  | _, _, .dt _ _, h => by unfold toPy at h; cases h
  | _, _, .ins _ _ _, h => by unfold toPy at h; cases h
theorem dps_of {K : KC} {G : Hp} : ∀ {vs : List V} {ds : List D}, Reps K G vs ds → PyData.canLayAll0 (toPys ds) = true → DpAll K.K G vs (toPys ds)
  | _, _, .nil, _ => .nil
  | _, _, .cons a b, h => by
    rw [toPys] at h ⊢
    have h' : ((toPy _).canLay0 && PyData.canLayAll0 (toPys _)) = true := h
    obtain ⟨h1, h2⟩ := Bool.and_eq_true_iff.mp h'
    exact .cons (dp_of a h1) (dps_of b h2)
end

def eqD : D → D → Option Bool
  | .int i, .int j => some (decide (i = j))
  | .str i, .str j => some (decide (i = j))
  | .bl i, .bl j => some (decide (i = j))
  | x, y => if SeqAt.shaped (toPy x) = true ∧ SeqAt.shaped (toPy y) = true then some (PyData.eqv (toPy x) (toPy y)) else none
@[simp] theorem eqD_int (i j : Int) : eqD (.int i) (.int j) = some (decide (i = j)) := rfl
@[simp] theorem eqD_str (i j : Str) : eqD (.str i) (.str j) = some (decide (i = j)) := rfl
@[simp] theorem eqD_bl (i j : Bool) : eqD (.bl i) (.bl j) = some (decide (i = j)) := rfl
def opEq (a b : EV) : Rz EV := orStuck (eqD a.d b.d) >>= fun k => .ok (.fz (.bl k))
def opNe (a b : EV) : Rz EV := orStuck (eqD a.d b.d) >>= fun k => .ok (.fz (.bl (!k)))
theorem orStuck_exc {α : Type} {o : Option α} {e : Exn} : orStuck o ≠ .exc e := by cases o <;> simp [orStuck]
theorem noexc_bind {α : Type} {o : Option α} {f : α → Rz EV} (h : ∀ a e, f a ≠ .exc e) (e : Exn) : (orStuck o >>= f) ≠ .exc e := by
  cases o with
  | none => intro z; cases z
  | some a => exact h a e
theorem ne_eq : NoExc opEq := ⟨fun a b e => noexc_bind (fun _ _ z => by cases z) e⟩
theorem ne_ne : NoExc opNe := ⟨fun a b e => noexc_bind (fun _ _ z => by cases z) e⟩
section
variable {X : Cx} {C : CT} {W : WX}
theorem giveB {K : KC} {Z : Ent} {G H : Hp} {Q : VK} {k : Bool} (s : Sub G H) (q : ∀ v G' H', Ext G H G' H' → EVok K Z H G' H' v (.fz (.bl k)) → Q v H') : Q (.bl k) H := q _ G H (.refl s) (.bl k)
theorem giveI {K : KC} {Z : Ent} {G H : Hp} {Q : VK} {k : Int} (s : Sub G H) (q : ∀ v G' H', Ext G H G' H' → EVok K Z H G' H' v (.fz (.int k)) → Q v H') : Q (.int k) H := q _ G H (.refl s) (.int k)
theorem giveS {K : KC} {Z : Ent} {G H : Hp} {Q : VK} {k : Str} (s : Sub G H) (q : ∀ v G' H', Ext G H G' H' → EVok K Z H G' H' v (.fz (.str k)) → Q v H') : Q (.str k) H := q _ G H (.refl s) (.str k)
theorem giveN {K : KC} {Z : Ent} {G H : Hp} {Q : VK} (s : Sub G H) (q : ∀ v G' H', Ext G H G' H' → EVok K Z H G' H' v (.fz .non) → Q v H') : Q .non H := q _ G H (.refl s) .non
theorem giveL {K : KC} {Z : Ent} {G H : Hp} {Q : VK} {vs : List V} {ds : List D} (s : Sub G H) (zh : Sub Z.H H) (r : Reps K G vs ds) (q : ∀ v G' H', Ext G H G' H' → EVok K Z H G' H' v (.ow true (.lst ds)) → Q v H') : ∀ p, H p = none → Q (.ref p) (upd H p (.lst vs)) := fun p hp =>
  q (.ref p) G _ (.lay s hp) ⟨p, rfl, ⟨vs, upd_same, r⟩, s.none hp, zh.none hp, fun _ => hp⟩
theorem giveT {K : KC} {Z : Ent} {G H : Hp} {Q : VK} {vs : List V} {ds : List D} (s : Sub G H) (r : Reps K G vs ds) (q : ∀ v G' H', Ext G H G' H' → EVok K Z H G' H' v (.fz (.tup ds)) → Q v H') : ∀ p, H p = none → Q (.ref p) (upd H p (.tup vs)) := fun p hp =>
  q (.ref p) _ _ (.lay2 s hp) (.tup (.of upd_same) (r.mono (.upd (s.none hp))))
def rEqA (K : PySem.W.Frag) : R2 := fun x y H Q => rEq x y H Q ∨ rEqD K x y H Q
def rNeA (K : PySem.W.Frag) : R2 := fun x y H Q => rNe x y H Q ∨ rNeD K x y H Q
theorem eq_core {K : KC} {H : Hp} {x y : V} {a b : D} {k : Bool} (ra : Rep K H x a) (rb : Rep K H y b) (h : eqD a b = some k) :
    (scal x y = true ∧ k = decide (x = y)) ∨ (∃ d e, Dp K.K H x d ∧ Dp K.K H y e ∧ SeqAt.shaped d = true ∧ SeqAt.shaped e = true ∧ k = PyData.eqv d e) := by
  have deep : (if SeqAt.shaped (toPy a) = true ∧ SeqAt.shaped (toPy b) = true then some (PyData.eqv (toPy a) (toPy b)) else none) = some k → (∃ d e, Dp K.K H x d ∧ Dp K.K H y e ∧ SeqAt.shaped d = true ∧ SeqAt.shaped e = true ∧ k = PyData.eqv d e) := fun h => by
    by_cases z : SeqAt.shaped (toPy a) = true ∧ SeqAt.shaped (toPy b) = true
    · rw [if_pos z] at h
      cases h
      exact ⟨_, _, dp_of ra (SeqAt.canLay_of_shaped z.1), dp_of rb (SeqAt.canLay_of_shaped z.2), z.1, z.2, rfl⟩
    · rw [if_neg z] at h; cases h
  unfold eqD at h
  split at h
  · cases h
    cases ra; cases rb
    exact .inl ⟨rfl, by simp⟩
  · cases h
    cases ra; cases rb
    exact .inl ⟨rfl, by simp⟩
  · cases h
    cases ra; cases rb
    exact .inl ⟨rfl, by simp⟩
  · exact .inr (deep h)
theorem od_eq (hu : X.A.units + 64 < cLine) : OpD X C (compareOp .Eq) opEq := by
  refine ⟨rEqA X.K, OpR.or op_eq (op_eqD hu), fun Z G H Hs x y a b Q s zh va vb q => ?_⟩
  unfold opEq at q
  cases h : eqD a.d b.d with
  | none => rw [h] at q; exact q.elim
  | some k =>
    rw [h] at q
    have q := giveB s q
    rcases eq_core (va.rep s) (vb.rep s) h with ⟨h1, rfl⟩ | ⟨d, e, h1, h2, h3, h4, rfl⟩
    · exact .inl ⟨h1, q⟩
    · exact .inr ⟨d, e, h1, h2, h3, h4, q⟩
theorem od_ne (hu : X.A.units + 64 < cLine) : OpD X C (compareOp .NotEq) opNe := by
  refine ⟨rNeA X.K, OpR.or op_ne (op_neD hu), fun Z G H Hs x y a b Q s zh va vb q => ?_⟩
  unfold opNe at q
  cases h : eqD a.d b.d with
  | none => rw [h] at q; exact q.elim
  | some k =>
    rw [h] at q
    have q := giveB s q
    rcases eq_core (va.rep s) (vb.rep s) h with ⟨h1, rfl⟩ | ⟨d, e, h1, h2, h3, h4, rfl⟩
    · exact .inl ⟨h1, q⟩
    · exact .inr ⟨d, e, h1, h2, h3, h4, q⟩

theorem OpD.of {f : Value → Value → Sem Value} {g : EV → EV → Rz EV} {r : R2} (ho : OpR X f r)
    (h : ∀ (Z : Ent) (G H Hs : Hp) (x y : V) (a b ev : EV) (Q : VK), Sub G H → Sub Z.H H → EVok (kc X C) Z Hs G H x a → EVok (kc X C) Z Hs G H y b → g a b = .ok ev → (∀ v G' H', Ext G H G' H' → EVok (kc X C) Z H G' H' v ev → Q v H') → r x y H Q) : OpD X C f g :=
  ⟨r, ho, fun Z G H Hs x y a b Q s zh va vb q => by
    cases hg : g a b with
    | ok ev => rw [hg] at q; exact h Z G H Hs x y a b ev Q s zh va vb hg q
    | exc e => rw [hg] at q; exact q.elim
    | stuck => rw [hg] at q; exact q.elim⟩
def opI (c : Int → Int → Bool) (g : Int → Int → D) (a b : EV) : Rz EV := match a, b with
  | .fz (.int i), .fz (.int j) => if c i j = true then .ok (.fz (g i j)) else .stuck
  | _, _ => .stuck
@[simp] theorem opI_int (c : Int → Int → Bool) (g : Int → Int → D) (i j : Int) : opI c g (.fz (.int i)) (.fz (.int j)) = if c i j = true then .ok (.fz (g i j)) else .stuck := rfl
theorem opI_inv {c : Int → Int → Bool} {g : Int → Int → D} {a b : EV} {P : Rz EV → Prop} (hs : ¬ P .stuck) (h : P (opI c g a b)) : ∃ i j, a = .fz (.int i) ∧ b = .fz (.int j) ∧ c i j = true ∧ P (.ok (.fz (g i j))) := by
  unfold opI at h
  split at h
  · rename_i i j
    by_cases z : c i j = true
    · rw [if_pos z] at h; exact ⟨i, j, rfl, rfl, z, h⟩
    · rw [if_neg z] at h; exact absurd h hs
  · exact absurd h hs
theorem ne_opI {c : Int → Int → Bool} {g : Int → Int → D} : NoExc (opI c g) := ⟨fun a b e h => by
  obtain ⟨_, _, _, _, _, z⟩ := opI_inv (P := fun r => r = .exc e) (by intro z; cases z) h
  cases z⟩
theorem od_I {f : Value → Value → Sem Value} {c : Int → Int → Bool} {CC : Int → Int → Prop} {g : Int → Int → Int} (ho : OpR X f (rI CC fun i j => .int (g i j))) (hc : ∀ i j, c i j = true → CC i j) : OpD X C f (opI c fun i j => .int (g i j)) :=
  ⟨_, ho, fun Z G H Hs x y a b Q s zh va vb q => by
    obtain ⟨i, j, rfl, rfl, h, q⟩ := opI_inv (P := fun r => match r with
      | .ok ev => ∀ v G' H', Ext G H G' H' → EVok (kc X C) Z H G' H' v ev → Q v H'
      | _ => False) (fun z => z) q
    exact ⟨i, j, rep_int va, rep_int vb, hc i j h, giveI s q⟩⟩
theorem od_I0 {f : Value → Value → Sem Value} {g : Int → Int → Int} (ho : OpR X f (rI0 fun i j => .int (g i j))) : OpD X C f (opI (fun _ _ => true) fun i j => .int (g i j)) :=
  ⟨_, ho, fun Z G H Hs x y a b Q s zh va vb q => by
    obtain ⟨i, j, rfl, rfl, h, q⟩ := opI_inv (P := fun r => match r with
      | .ok ev => ∀ v G' H', Ext G H G' H' → EVok (kc X C) Z H G' H' v ev → Q v H'
      | _ => False) (fun z => z) q
    exact ⟨i, j, rep_int va, rep_int vb, giveI s q⟩⟩
abbrev opSub : EV → EV → Rz EV := opI (fun _ _ => true) fun i j => .int (i - j)
abbrev opMul : EV → EV → Rz EV := opI (fun i j => decide (i.natAbs < 18446744073709551616) || decide (j.natAbs < 18446744073709551616)) fun i j => .int (i * j)
abbrev opDiv : EV → EV → Rz EV := opI (fun _ j => decide (0 < j) && decide (j < 1073741824)) fun i j => .int (i / j)
abbrev opMod : EV → EV → Rz EV := opI (fun _ j => decide (0 < j)) fun i j => .int (i % j)
abbrev opPow : EV → EV → Rz EV := opI (fun i j => decide (0 ≤ j) && decide (j ≤ 1000000) && decide (i.natAbs < 2 ^ 64)) fun i j => .int (i ^ j.toNat)
theorem od_sub : OpD X C (binaryOp .Sub) opSub := od_I0 op_sub
theorem od_mul : OpD X C (binaryOp .Mult) opMul := od_I op_mul fun i j h => by
  simp only [Bool.or_eq_true, decide_eq_true_eq] at h
  unfold CMul
  rw [p64]
  omega
theorem od_div : OpD X C (binaryOp .FloorDiv) opDiv := od_I op_fdiv fun i j h => by
  simp only [Bool.and_eq_true, decide_eq_true_eq] at h; exact h
theorem od_mod : OpD X C (binaryOp .Mod) opMod := od_I op_mod fun i j h => by
  simp only [decide_eq_true_eq] at h; exact h
theorem od_pow : OpD X C (binaryOp .Pow) opPow := od_I op_pow fun i j h => by
  simp only [Bool.and_eq_true, decide_eq_true_eq] at h; exact ⟨h.1.1, h.1.2, h.2⟩
def strLt (a b : Str) : Bool := decide (a.cps.toList < b.cps.toList)
def opO (p : Int → Int → Bool) (r : Str → Str → Bool) (a b : EV) : Rz EV := match a, b with
  | .fz (.int i), .fz (.int j) => .ok (.fz (.bl (p i j)))
  | .fz (.str i), .fz (.str j) => .ok (.fz (.bl (r i j)))
  | _, _ => .stuck
@[simp] theorem opO_int (p : Int → Int → Bool) (r : Str → Str → Bool) (i j : Int) : opO p r (.fz (.int i)) (.fz (.int j)) = .ok (.fz (.bl (p i j))) := rfl
@[simp] theorem opO_str (p : Int → Int → Bool) (r : Str → Str → Bool) (i j : Str) : opO p r (.fz (.str i)) (.fz (.str j)) = .ok (.fz (.bl (r i j))) := rfl
theorem ne_opO {p : Int → Int → Bool} {r : Str → Str → Bool} : NoExc (opO p r) := ⟨fun a b e h => by
  unfold opO at h; split at h <;> cases h⟩
theorem od_O {f : Value → Value → Sem Value} {p : Int → Int → Bool} {r : Str → Str → Bool} (h1 : OpR X f (rI0 fun i j => .bl (p i j))) (h2 : OpR X f (fun x y H Q => ∃ i j, x = .str i ∧ y = .str j ∧ Q (.bl (r i j)) H)) : OpD X C f (opO p r) :=
  .of (OpR.or h1 h2) fun Z G H Hs x y a b ev Q s zh va vb hg q => by
    unfold opO at hg
    split at hg
    · cases hg; exact .inl ⟨_, _, rep_int va, rep_int vb, giveB s q⟩
    · cases hg; exact .inr ⟨_, _, rep_str va, rep_str vb, giveB s q⟩
    · cases hg
abbrev opLt : EV → EV → Rz EV := opO (fun i j => decide (i < j)) strLt
abbrev opLe : EV → EV → Rz EV := opO (fun i j => decide (i ≤ j)) fun i j => !strLt j i
abbrev opGt : EV → EV → Rz EV := opO (fun i j => decide (j < i)) fun i j => strLt j i
abbrev opGe : EV → EV → Rz EV := opO (fun i j => decide (j ≤ i)) fun i j => !strLt i j
theorem od_lt : OpD X C (compareOp .Lt) opLt := od_O op_lt op_lt_str
theorem od_le : OpD X C (compareOp .LtE) opLe := od_O op_le op_le_str
theorem od_gt : OpD X C (compareOp .Gt) opGt := od_O op_gt op_gt_str
theorem od_ge : OpD X C (compareOp .GtE) opGe := od_O op_ge op_ge_str
def lstOf : EV → Option (List D)
  | .fz (.lst ds) => some ds
  | .ow _ (.lst ds) => some ds
  | _ => none
@[simp] theorem lstOf_fz (ds : List D) : lstOf (.fz (.lst ds)) = some ds := rfl
@[simp] theorem lstOf_ow (n : Bool) (ds : List D) : lstOf (.ow n (.lst ds)) = some ds := rfl
theorem lstOf_ok {K : KC} {Z : Ent} {Hs G H : Hp} {v : V} {ev : EV} {ds : List D} (s : Sub G H) (h : lstOf ev = some ds) (k : EVok K Z Hs G H v ev) : ∃ p vs, v = .ref p ∧ H p = some (.lst vs) ∧ Reps K G vs ds := by
  unfold lstOf at h
  split at h
  · cases h
    cases k with
    | lst e r => exact ⟨_, _, rfl, s _ _ e, r⟩
  · cases h
    obtain ⟨p, rfl, ⟨vs, e, r⟩, _⟩ := k
    exact ⟨p, vs, rfl, e, r⟩
  · cases h
def opAdd (a b : EV) : Rz EV := match a, b with
  | .fz (.int i), .fz (.int j) => .ok (.fz (.int (i + j)))
  | .fz (.str i), .fz (.str j) => if i.length + j.length ≤ sizeLine then .ok (.fz (.str (i ++ j))) else .stuck
  | .fz (.tup i), .fz (.tup j) => if i.length + j.length ≤ sizeLine then .ok (.fz (.tup (i ++ j))) else .stuck
  | a, b => match lstOf a, lstOf b with
    | some i, some j => if i.length + j.length ≤ sizeLine then .ok (.ow true (.lst (i ++ j))) else .stuck
    | _, _ => .stuck
@[simp] theorem opAdd_int (i j : Int) : opAdd (.fz (.int i)) (.fz (.int j)) = .ok (.fz (.int (i + j))) := rfl
@[simp] theorem opAdd_str (i j : Str) : opAdd (.fz (.str i)) (.fz (.str j)) = if i.length + j.length ≤ sizeLine then .ok (.fz (.str (i ++ j))) else .stuck := rfl
@[simp] theorem opAdd_tup (i j : List D) : opAdd (.fz (.tup i)) (.fz (.tup j)) = if i.length + j.length ≤ sizeLine then .ok (.fz (.tup (i ++ j))) else .stuck := rfl
@[simp] theorem opAdd_ff (i j : List D) : opAdd (.fz (.lst i)) (.fz (.lst j)) = if i.length + j.length ≤ sizeLine then .ok (.ow true (.lst (i ++ j))) else .stuck := rfl
@[simp] theorem opAdd_fo (n : Bool) (i j : List D) : opAdd (.fz (.lst i)) (.ow n (.lst j)) = if i.length + j.length ≤ sizeLine then .ok (.ow true (.lst (i ++ j))) else .stuck := rfl
@[simp] theorem opAdd_of (n : Bool) (i j : List D) : opAdd (.ow n (.lst i)) (.fz (.lst j)) = if i.length + j.length ≤ sizeLine then .ok (.ow true (.lst (i ++ j))) else .stuck := rfl
@[simp] theorem opAdd_oo (n m : Bool) (i j : List D) : opAdd (.ow n (.lst i)) (.ow m (.lst j)) = if i.length + j.length ≤ sizeLine then .ok (.ow true (.lst (i ++ j))) else .stuck := rfl
theorem ne_add : NoExc opAdd := ⟨fun a b e h => by
  unfold opAdd at h
  split at h
  · cases h
  · split at h <;> cases h
  · split at h <;> cases h
  · split at h
    · split at h <;> cases h
    · cases h⟩
theorem od_add : OpD X C (binaryOp .Add) opAdd :=
  .of (OpR.or op_add (OpR.or op_add_str (OpR.or op_catA op_cat))) fun Z G H Hs x y a b ev Q s zh va vb hg q => by
    unfold opAdd at hg
    split at hg
    · cases hg; exact .inl ⟨_, _, rep_int va, rep_int vb, giveI s q⟩
    · split at hg
      · rename_i hz
        cases hg
        exact .inr (.inl ⟨_, _, rep_str va, rep_str vb, hz, giveS s q⟩)
      · cases hg
    · rename_i i j
      split at hg
      · rename_i hz
        cases hg
        refine .inr (.inr (.inl ?_))
        have va' : Rep (kc X C) G x (.tup i) := va
        have vb' : Rep (kc X C) G y (.tup j) := vb
        cases va' with
        | @tup p us _ sq r =>
          cases vb' with
          | @tup p' us' _ sq' r' =>
            refine ⟨p, p', us, us', rfl, rfl, s.sqT sq, s.sqT sq', by rw [r.length, r'.length]; exact hz, fun e => ?_, fun _ e => ?_, fun _ _ => giveT s (r.append r') q⟩
            · subst e
              cases r
              exact q _ G H (.refl s) (.tup sq' r')
            · subst e
              cases r'
              rw [List.append_nil] at q
              exact q _ G H (.refl s) (.tup sq r)
      · cases hg
    · split at hg
      · rename_i i j hi hj
        split at hg
        · rename_i hz
          cases hg
          obtain ⟨p, us, rfl, e, r⟩ := lstOf_ok s hi va
          obtain ⟨p', us', rfl, e', r'⟩ := lstOf_ok s hj vb
          exact .inr (.inr (.inr ⟨p, p', us, us', rfl, rfl, e, e', by rw [r.length, r'.length]; exact hz, giveL s zh (r.append r') q⟩))
        · cases hg
      · cases hg

def flatD : D → Bool
  | .int _ | .str _ | .non => true
  | _ => false
def eqF : D → D → Bool
  | .int i, .int j => decide (i = j)
  | .str i, .str j => decide (i = j)
  | .non, .non => true
  | _, _ => false
theorem flat_of {K : KC} {G : Hp} {v : V} {d : D} (r : Rep K G v d) (h : flatD d = true) : flatV v = true := by
  cases r <;> first | rfl | (cases h)
theorem flats_of {K : KC} {G : Hp} : ∀ {vs : List V} {ds : List D}, Reps K G vs ds → ds.all flatD = true → vs.all flatV = true
  | _, _, .nil, _ => rfl
  | _, _, .cons a b, h => by
    rw [List.all_cons, Bool.and_eq_true] at h ⊢
    exact ⟨flat_of a h.1, flats_of b h.2⟩
theorem eqF_of {K : KC} {G : Hp} {v u : V} {d e : D} (r : Rep K G v d) (r' : Rep K G u e) (h : flatD d = true) (h' : flatD e = true) : eqV v u = eqF d e := by
  cases r <;> first | (cases h; done) | skip
  all_goals (cases r' <;> first | (cases h'; done) | rfl | simp [eqV, eqF])
theorem inF_of {K : KC} {G : Hp} {v : V} {d : D} (r : Rep K G v d) (h : flatD d = true) : ∀ {vs : List V} {ds : List D}, Reps K G vs ds → ds.all flatD = true → inV v vs = ds.any fun e => eqF e d
  | _, _, .nil, _ => rfl
  | _, _, .cons a b, k => by
    rw [List.all_cons, Bool.and_eq_true] at k
    show (eqV _ v || inV v _) = _
    rw [List.any_cons, eqF_of a r k.1 h, inF_of r h b k.2]
def inDs (x : D) (ds : List D) (isList : Bool) : Option Bool :=
  if flatD x = true ∧ ds.all flatD = true then some (ds.any fun e => eqF e x)
  else if isList = true ∧ SeqAt.shaped (toPy x) = true ∧ SeqAt.shaped (.list (toPys ds)) = true then some ((toPys ds).any fun e => PyData.eqv e (toPy x)) else none
def sign? (y : Str) : Option Nat := match y.cps.toList with
  | [c] => some c
  | _ => none
theorem sign_of {y : Str} {c : Nat} (h : sign? y = some c) : y = ⟨#[c]⟩ := by
  unfold sign? at h
  split at h
  · rename_i c2 e
    injection h with h
    subst h
    cases y with
    | mk a =>
      have : a = #[c2] := by
        apply Array.toList_inj.mp
        exact e
      rw [this]
  · cases h
@[simp] theorem sign?_one (c : Nat) : sign? ⟨#[c]⟩ = some c := rfl
def inD (a b : EV) : Option Bool := match b.d with
  | .lst ds => inDs a.d ds true
  | .tup ds => inDs a.d ds false
  | .str z => match a.d with
    | .str y => (sign? y).map fun c => decide (c ∈ z.cps.toList)
    | _ => none
  | _ => none
def opIn (a b : EV) : Rz EV := orStuck (inD a b) >>= fun k => .ok (.fz (.bl k))
def opNi (a b : EV) : Rz EV := orStuck (inD a b) >>= fun k => .ok (.fz (.bl (!k)))
theorem ne_in : NoExc opIn := ⟨fun a b e => noexc_bind (fun _ _ z => by cases z) e⟩
theorem ne_ni : NoExc opNi := ⟨fun a b e => noexc_bind (fun _ _ z => by cases z) e⟩
end
end DL
namespace DL
open PySem PySem.Spec PyProof.Rows L2
section
variable {X : Cx} {C : CT} {W : WX}
theorem canLayAll_map {ds : List D} (h : SeqAt.shaped (.list (toPys ds)) = true) : PyData.canLayAll0 (toPys ds) = true := SeqAt.canLay_of_shaped h
def rInA (K : PySem.W.Frag) (neg : Bool) : R2 := fun x y H Q => ∃ k, Q (.bl (if neg then !k else k)) H ∧
  ((∃ p xs, y = .ref p ∧ (SqL K H p xs ∨ SqT K H p xs) ∧ flatV x = true ∧ xs.all flatV = true ∧ k = inV x xs) ∨
   (∃ d ds, Dp K H x d ∧ Dp K H y (.list ds) ∧ SeqAt.shaped d = true ∧ SeqAt.shaped (.list ds) = true ∧ k = ds.any fun z => PyData.eqv z d) ∨
   (∃ (c : Nat) (z : Str), x = .str ⟨#[c]⟩ ∧ y = .str z ∧ k = decide (c ∈ z.cps.toList)))
theorem op_inA (hu : X.A.units + 65 < cLine) : OpR X (compareOp .In) (rInA X.K false) := by
  intro pins s σ H x y v u Q I rx ry ⟨k, q, h⟩
  rcases h with ⟨p, xs, h1, h2, h3, h4, rfl⟩ | ⟨d, ds, h1, h2, h3, h4, rfl⟩ | ⟨c, z, h1, h2, rfl⟩
  · exact op_in_seq pins s σ H x y v u Q I rx ry ⟨p, xs, h1, h2, h3, h4, q⟩
  · exact op_inD hu pins s σ H x y v u Q I rx ry ⟨d, ds, h1, h2, h3, h4, q⟩
  · exact op_in_sign pins s σ H x y v u Q I rx ry ⟨c, z, h1, h2, q⟩
theorem op_niA (hu : X.A.units + 65 < cLine) : OpR X (compareOp .NotIn) (rInA X.K true) := by
  intro pins s σ H x y v u Q I rx ry ⟨k, q, h⟩
  rcases h with ⟨p, xs, h1, h2, h3, h4, rfl⟩ | ⟨d, ds, h1, h2, h3, h4, rfl⟩ | ⟨c, z, h1, h2, rfl⟩
  · exact op_notIn_seq pins s σ H x y v u Q I rx ry ⟨p, xs, h1, h2, h3, h4, q⟩
  · exact op_notInD hu pins s σ H x y v u Q I rx ry ⟨d, ds, h1, h2, h3, h4, q⟩
  · exact op_notIn_sign pins s σ H x y v u Q I rx ry ⟨c, z, h1, h2, q⟩
theorem in_core {K : KC} {H : Hp} {x y : V} {a b : EV} {k : Bool} (ra : Rep K H x a.d) (rb : Rep K H y b.d) (h : inD a b = some k) :
    (∃ p xs, y = .ref p ∧ (SqL K.K H p xs ∨ SqT K.K H p xs) ∧ flatV x = true ∧ xs.all flatV = true ∧ k = inV x xs) ∨
    (∃ d ds, Dp K.K H x d ∧ Dp K.K H y (.list ds) ∧ SeqAt.shaped d = true ∧ SeqAt.shaped (.list ds) = true ∧ k = ds.any fun z => PyData.eqv z d) ∨
    (∃ (c : Nat) (z : Str), x = .str ⟨#[c]⟩ ∧ y = .str z ∧ k = decide (c ∈ z.cps.toList)) := by
  unfold inD at h
  cases hb : b.d with
  | lst ds =>
    rw [hb] at h rb
    cases rb with
    | @lst p us _ e r =>
      dsimp only at h
      unfold inDs at h
      split at h
      · rename_i z
        cases h
        exact .inl ⟨p, us, rfl, .inl (.of e), flat_of ra z.1, flats_of r z.2, (inF_of ra z.1 r z.2).symm⟩
      · split at h
        · rename_i z
          cases h
          exact .inr (.inl ⟨_, _, dp_of ra (SeqAt.canLay_of_shaped z.2.1), .lst (.of e) (dps_of r (canLayAll_map z.2.2)), z.2.1, z.2.2, rfl⟩)
        · cases h
  | tup ds =>
    rw [hb] at h rb
    cases rb with
    | @tup p us _ e r =>
      dsimp only at h
      unfold inDs at h
      split at h
      · rename_i z
        cases h
        exact .inl ⟨p, us, rfl, .inr e, flat_of ra z.1, flats_of r z.2, (inF_of ra z.1 r z.2).symm⟩
      · split at h
        · rename_i z
          exact absurd z.1 (by simp)
        · cases h
  | str z =>
    rw [hb] at h rb
    dsimp only at h
    split at h
    · rename_i y hc
      cases hy : sign? y with
      | none => rw [hy] at h; cases h
      | some c =>
        rw [hy] at h
        cases h
        rw [hc, sign_of hy] at ra
        exact .inr (.inr ⟨c, z, rep_str ra, rep_str rb, rfl⟩)
    · cases h
  | non => rw [hb] at h; cases h
  | bl _ => rw [hb] at h; cases h
  | int _ => rw [hb] at h; cases h
  | scr _ => rw [hb] at h; cases h
  | dct _ => rw [hb] at h; cases h
  | ins _ _ => rw [hb] at h; cases h
  | cls _ => rw [hb] at h; cases h
  | ty _ => rw [hb] at h; cases h
theorem od_in (hu : X.A.units + 65 < cLine) : OpD X C (compareOp .In) opIn :=
  .of (op_inA hu) fun Z G H Hs x y a b ev Q s zh va vb hg q => by
    unfold opIn at hg
    cases h : inD a b with
    | none => rw [h] at hg; cases hg
    | some k =>
      rw [h] at hg
      cases hg
      exact ⟨k, giveB s q, in_core (va.rep s) (vb.rep s) h⟩
theorem od_ni (hu : X.A.units + 65 < cLine) : OpD X C (compareOp .NotIn) opNi :=
  .of (op_niA hu) fun Z G H Hs x y a b ev Q s zh va vb hg q => by
    unfold opNi at hg
    cases h : inD a b with
    | none => rw [h] at hg; cases hg
    | some k =>
      rw [h] at hg
      cases hg
      exact ⟨k, giveB s q, in_core (va.rep s) (vb.rep s) h⟩
def isNon : D → Bool
  | .non => true
  | _ => false
def opIs (a b : EV) : Rz EV := match b with
  | .fz .non => .ok (.fz (.bl (isNon a.d)))
  | _ => .stuck
def opIsn (a b : EV) : Rz EV := match b with
  | .fz .non => .ok (.fz (.bl (!isNon a.d)))
  | _ => .stuck
theorem ne_is : NoExc opIs := ⟨fun a b e h => by unfold opIs at h; split at h <;> cases h⟩
theorem ne_isn : NoExc opIsn := ⟨fun a b e h => by unfold opIsn at h; split at h <;> cases h⟩
theorem non_core {K : KC} {H : Hp} {x : V} {d : D} (r : Rep K H x d) : decide (x = .non) = isNon d := by cases r <;> first | rfl | simp
theorem od_is : OpD X C (compareOp .Is) opIs :=
  .of op_isN fun Z G H Hs x y a b ev Q s zh va vb hg q => by
    unfold opIs at hg
    split at hg
    · cases hg
      refine ⟨rep_non vb, ?_⟩
      rw [non_core (va.rep s)]
      exact giveB s q
    · cases hg
theorem od_isn : OpD X C (compareOp .IsNot) opIsn :=
  .of op_notN fun Z G H Hs x y a b ev Q s zh va vb hg q => by
    unfold opIsn at hg
    split at hg
    · cases hg
      refine ⟨rep_non vb, ?_⟩
      rw [non_core (va.rep s)]
      exact giveB s q
    · cases hg

def atD (xs : List D) (i : Int) : Option D := atI xs i
def ixD (a b : EV) : Option D := match b with
  | .fz (.int i) => (match a with
    | .fz (.lst ds) => atI ds i
    | .ow _ (.lst ds) => atI ds i
    | .fz (.tup ds) => atI ds i
    | .fz (.scr ns) => (atI ns i).map .int
    | .fz (.str z) => if z.length ≤ sizeLine then (atI z.cps.toList i).map fun c => .str ⟨#[c]⟩ else none
    | _ => none)
  | _ => none
def opIx (a b : EV) : Rz EV := orStuck (ixD a b) >>= fun d => .ok (.fz d)
theorem ne_ix : NoExc opIx := ⟨fun a b e => noexc_bind (fun _ _ z => by cases z) e⟩
theorem atI_reps {K : KC} {G : Hp} {vs : List V} {ds : List D} {i : Int} {d : D} (r : Reps K G vs ds) (h : atI ds i = some d) : ∃ v, atI vs i = some v ∧ Rep K G v d := by
  unfold atI at h ⊢
  rw [r.length]
  cases q : ixN ds.length i with
  | none => rw [q] at h; cases h
  | some j =>
    rw [q] at h
    obtain ⟨v, h1, h2⟩ := r.get (i := j) h
    exact ⟨v, h1, h2⟩
theorem atI_map {α β : Type} (f : α → β) (xs : List α) (i : Int) : atI (xs.map f) i = (atI xs i).map f := by
  unfold atI
  rw [List.length_map]
  cases ixN xs.length i with
  | none => rfl
  | some j => simp
theorem de_ix {a b : Expr} {ma mb : Env → Rz EV} {pos : Pos} (ha : DE X C W a ma) (hb : DE X C W b mb) (hs : PlainIx b := by exact fun _ _ => rfl) : DE X C W (.Subscript a b pos) (m2 ma mb opIx) :=
  ⟨PE.imp (pe_ix ix_seq ha.pe hb.pe hs) fun σ H Q h => two_go (r := rIx X.K) (fun Z G H Hs x y a b Q s zh va vb q => by
    unfold opIx at q
    cases hg : ixD a b with
    | none => rw [hg] at q; exact q.elim
    | some d =>
      rw [hg] at q
      have q : ∀ v G' H', Ext G H G' H' → Rep (kc X C) G' v d → Q v H' := fun v G' H' x r => q v G' H' x r
      unfold ixD at hg
      split at hg
      · rename_i i
        have hy : y = .int i := rep_int vb
        split at hg
        · rename_i ds
          have va' : Rep (kc X C) G x (.lst ds) := va
          cases va' with
          | @lst p us _ e r =>
            obtain ⟨v, h1, h2⟩ := atI_reps r hg
            exact .inl ⟨p, us, i, v, rfl, hy, .of (s _ _ e), h1, q v G H (.refl s) h2⟩
        · obtain ⟨p, e, ⟨us, e', r⟩, _⟩ := va
          obtain ⟨v, h1, h2⟩ := atI_reps r hg
          exact .inl ⟨p, us, i, v, e, hy, .of e', h1, q v G H (.refl s) h2⟩
        · rename_i ds
          have va' : Rep (kc X C) G x (.tup ds) := va
          cases va' with
          | @tup p us _ e r =>
            obtain ⟨v, h1, h2⟩ := atI_reps r hg
            exact .inr (.inl ⟨p, us, i, v, rfl, hy, s.sqT e, h1, q v G H (.refl s) h2⟩)
        · rename_i ns
          have va' : Rep (kc X C) G x (.scr ns) := va
          cases va' with
          | @scr p _ e =>
            cases hn : atI ns i with
            | none => rw [hn] at hg; cases hg
            | some n =>
              rw [hn] at hg
              cases hg
              exact .inl ⟨p, _, i, .int n, rfl, hy, s.sqL e, by rw [atI_map, hn]; rfl, q _ G H (.refl s) (.int n)⟩
        · rename_i z
          split at hg
          · rename_i hz
            cases hn : atI z.cps.toList i with
            | none => rw [hn] at hg; cases hg
            | some n =>
              rw [hn] at hg
              cases hg
              exact .inr (.inr ⟨z, i, n, rep_str va, hy, hz, hn, q _ G H (.refl s) (.str _)⟩)
          · cases hg
        · cases hg
      · cases hg) ne_ix.no h⟩

def CallD (X : Cx) (C : CT) (f : Value) (g : List EV → Rz EV) : Prop :=
  ∃ r : List V → Hp → VK → Prop, CallR X f r ∧ ∀ (Z : Ent) (G H Hs : Hp) (vs : List V) (evs : List EV) (ev : EV) (Q : VK), Sub G H → Sub Z.H H → EVs (kc X C) Z Hs G H vs evs → g evs = .ok ev →
    (∀ v G' H', Ext G H G' H' → EVok (kc X C) Z H G' H' v ev → Q v H') → r vs H Q
def mCall (a : Env → Rz (List EV)) (g : List EV → Rz EV) : Env → Rz EV := fun env => a env >>= fun xs => g xs
structure NoExcL (g : List EV → Rz EV) : Prop where
  no : ∀ a e, g a ≠ .exc e
theorem callD_go {r : List V → Hp → VK → Prop} {m : Env → Rz (List EV)} {g : List EV → Rz EV} {σ : L2.St} {H : Hp} {Q : VK} (ng : NoExcL g) (hr : ∀ (Z : Ent) (G H Hs : Hp) (vs : List V) (evs : List EV) (ev : EV) (Q : VK), Sub G H → Sub Z.H H → EVs (kc X C) Z Hs G H vs evs → g evs = .ok ev →
    (∀ v G' H', Ext G H G' H' → EVok (kc X C) Z H G' H' v ev → Q v H') → r vs H Q) (h : tE (kc X C) W (mCall m g) σ H Q) : tCB r (tA (kc X C) W m) σ H Q :=
  tA_seq (f := fun xs _ => g xs) h fun Z G1 H1 env vs a er va hs q => by
    cases hg : g a with
    | ok ev => rw [hg] at q; exact hr Z G1 H1 H vs a ev Q er.sub er.zh va hg q
    | exc e => exact absurd hg (ng.no a e)
    | stuck => rw [hg] at q; exact q.elim
theorem de_callB {x : Str} {id : String} {p pos : Pos} {e : Expr} {es : List Expr} {m : Env → Rz (List EV)} {g : List EV → Rz EV} (hc : CallD X C (.builtin id) g) (ng : NoExcL g) (hm : X.mg x = none) (hv : bootBuiltins x = some (.builtin id)) (ha : DA X C W (e :: es) m) (hg : Gl X x := by rfl) (hn : x ≠ "__name__" := by decide) (hdb : (x == ("__debug__" : Str)) = false := by decide)
    (he : starEach (e :: es) X.env = (false, eval e X.env) :: starEach es X.env := by rfl) (hpl : (backTo pos (starEach es X.env)).any (·.1) = false := by rfl) : DE X C W (.Call (.Name x p) (e :: es) [] pos) (mCall m g) := by
  obtain ⟨r, h1, h2⟩ := hc
  exact ⟨PE.imp (pe_callB h1 hg hm hv ha.pa hn hdb he hpl) fun σ H Q h => callD_go ng h2 h⟩
theorem de_callTy {x : Str} {T : String} {p pos : Pos} {e : Expr} {es : List Expr} {m : Env → Rz (List EV)} {g : List EV → Rz EV} (hc : CallD X C (.type T) g) (ng : NoExcL g) (hm : X.mg x = none) (hv : bootBuiltins x = some (.type T)) (ha : DA X C W (e :: es) m) (hg : Gl X x := by rfl) (hn : x ≠ "__name__" := by decide) (hdb : (x == ("__debug__" : Str)) = false := by decide)
    (he : starEach (e :: es) X.env = (false, eval e X.env) :: starEach es X.env := by rfl) (hpl : (backTo pos (starEach es X.env)).any (·.1) = false := by rfl) : DE X C W (.Call (.Name x p) (e :: es) [] pos) (mCall m g) := by
  obtain ⟨r, h1, h2⟩ := hc
  exact ⟨PE.imp (pe_callTy h1 hg hm hv ha.pa hn hdb he hpl) fun σ H Q h => callD_go ng h2 h⟩
def g1 (f : D → Option D) : List EV → Rz EV
  | [a] => orStuck (f a.d) >>= fun d => .ok (.fz d)
  | _ => .stuck
@[simp] theorem g1_one (f : D → Option D) (a : EV) : g1 f [a] = orStuck (f a.d) >>= fun d => .ok (.fz d) := rfl
theorem ne_g1 {f : D → Option D} : NoExcL (g1 f) := ⟨fun a e h => by
  unfold g1 at h
  split at h
  · exact noexc_bind (fun _ _ z => by cases z) e h
  · cases h⟩
theorem cd_g1 {fv : Value} {f : D → Option D} {r : List V → Hp → VK → Prop} (hr : CallR X fv r) (h : ∀ (H : Hp) (x : V) (a d : D) (Q : VK), Rep (kc X C) H x a → f a = some d → (∀ v G, Rep (kc X C) G v d → Q v H) → r [x] H Q) (hs : ∀ a d, f a = some d → (∃ i, d = .int i) ∨ (∃ i, d = .bl i) ∨ (∃ i, d = .str i)) : CallD X C fv (g1 f) :=
  ⟨r, hr, fun Z G H Hs vs evs ev Q s zh va hg q => by
    unfold g1 at hg
    split at hg
    · rename_i a
      obtain ⟨v, rfl, k⟩ := evs1 va
      cases hf : f a.d with
      | none => rw [hf] at hg; cases hg
      | some d =>
        rw [hf] at hg
        cases hg
        refine h H v a.d d Q (k.rep s) hf fun u G' ru => ?_
        have ru' : Rep (kc X C) G u d := by
          rcases hs _ _ hf with ⟨i, rfl⟩ | ⟨i, rfl⟩ | ⟨i, rfl⟩
          · rw [rep_int ru]; exact .int i
          · rw [rep_bl ru]; exact .bl i
          · rw [rep_str ru]; exact .str i
        exact q u G H (.refl s) ru'
    · cases hg⟩
def lenD : D → Option D
  | .lst ds => some (.int ds.length)
  | .tup ds => some (.int ds.length)
  | .scr ns => some (.int ns.length)
  | .str z => if z.length ≤ sizeLine then some (.int z.length) else none
  | _ => none
abbrev gLen := g1 lenD
theorem cd_len : CallD X C (.builtin "len") gLen := cd_g1 call_len (fun H x a d Q r h q => by
    unfold lenD at h
    split at h
    · cases h
      cases r with
      | @lst p us ds e r => exact ⟨_, us.length, rfl, .inl ⟨us, .of e, rfl⟩, by rw [r.length]; exact q _ H (.int _)⟩
    · cases h
      cases r with
      | @tup p us ds e r => exact ⟨_, us.length, rfl, .inr ⟨us, e, rfl⟩, by rw [r.length]; exact q _ H (.int _)⟩
    · cases h
      cases r with
      | @scr p ns e => exact ⟨_, _, rfl, .inl ⟨_, e, rfl⟩, by rw [List.length_map]; exact q _ H (.int _)⟩
    · rename_i z
      split at h
      · rename_i hz
        cases h
        cases r
        exact ⟨_, z.length, rfl, ⟨hz, rfl⟩, q _ H (.int _)⟩
      · cases h
    · cases h) fun a d h => by
  unfold lenD at h
  split at h <;> first | (cases h; exact .inl ⟨_, rfl⟩) | skip
  · split at h
    · cases h; exact .inl ⟨_, rfl⟩
    · cases h
  · cases h
def absD : D → Option D
  | .int i => some (.int (if i < 0 then -i else i))
  | _ => none
abbrev gAbs := g1 absD
theorem cd_abs : CallD X C (.builtin "abs") gAbs := cd_g1 call_abs (fun H x a d Q r h q => by
    unfold absD at h
    split at h
    · cases h
      cases r
      exact ⟨_, rfl, q _ H (.int _)⟩
    · cases h) fun a d h => by
  unfold absD at h
  split at h
  · cases h; exact .inl ⟨_, rfl⟩
  · cases h
def intD : D → Option D
  | .int i => some (.int i)
  | .bl b => some (.int (if b then 1 else 0))
  | _ => none
abbrev gInt := g1 intD
theorem cd_int : CallD X C (.type "int") gInt := cd_g1 call_int1 (fun H x a d Q r h q => by
    unfold intD at h
    split at h
    · cases h
      cases r
      exact .inl ⟨_, rfl, q _ H (.int _)⟩
    · cases h
      cases r
      exact .inr ⟨_, rfl, q _ H (.int _)⟩
    · cases h) fun a d h => by
  unfold intD at h
  split at h
  · cases h; exact .inl ⟨_, rfl⟩
  · cases h; exact .inl ⟨_, rfl⟩
  · cases h
def gMM (f : Int → Int → Int) : List EV → Rz EV
  | [.fz (.int i), .fz (.int j)] => .ok (.fz (.int (f i j)))
  | _ => .stuck
@[simp] theorem gMM_two (f : Int → Int → Int) (i j : Int) : gMM f [.fz (.int i), .fz (.int j)] = .ok (.fz (.int (f i j))) := rfl
theorem ne_gMM {f : Int → Int → Int} : NoExcL (gMM f) := ⟨fun a e h => by unfold gMM at h; split at h <;> cases h⟩
abbrev gMax := gMM fun i j => if j > i then j else i
abbrev gMin := gMM fun i j => if j < i then j else i
theorem cd_max (hc : X.calm = true) : CallD X C (.builtin "max") gMax := ⟨_, call_max2 hc, fun Z G H Hs vs evs ev Q s zh va hg q => by
  unfold gMax gMM at hg
  split at hg
  · cases hg
    obtain ⟨v, u, rfl, k, l⟩ := evs2 va
    exact ⟨_, _, by rw [rep_int k, rep_int l], giveI s q⟩
  · cases hg⟩
theorem cd_min (hc : X.calm = true) : CallD X C (.builtin "min") gMin := ⟨_, call_min2 hc, fun Z G H Hs vs evs ev Q s zh va hg q => by
  unfold gMin gMM at hg
  split at hg
  · cases hg
    obtain ⟨v, u, rfl, k, l⟩ := evs2 va
    exact ⟨_, _, by rw [rep_int k, rep_int l], giveI s q⟩
  · cases hg⟩
def bls : List D → Option (List Bool)
  | [] => some []
  | .bl b :: r => (bls r).map (b :: ·)
  | _ :: _ => none
theorem bls_ok : ∀ {ds : List D} {bs : List Bool}, bls ds = some bs → ds = bs.map D.bl
  | [], _, h => by cases h; rfl
  | .bl b :: r, bs, h => by
    have h' : (bls r).map (b :: ·) = some bs := h
    cases q : bls r with
    | none => rw [q] at h'; cases h'
    | some cs => rw [q] at h'; cases h'; rw [bls_ok q]; rfl
  | .non :: _, _, h | .int _ :: _, _, h | .str _ :: _, _, h | .tup _ :: _, _, h | .lst _ :: _, _, h | .scr _ :: _, _, h | .dct _ :: _, _, h | .ins _ _ :: _, _, h | .cls _ :: _, _, h | .ty _ :: _, _, h => by cases h
@[simp] theorem bls_map : ∀ bs : List Bool, bls (bs.map D.bl) = some bs
  | [] => rfl
  | b :: r => by show (bls (r.map D.bl)).map (b :: ·) = _; rw [bls_map r]; rfl
def allD (f : List Bool → Bool) : D → Option D
  | .lst ds => (bls ds).map fun bs => .bl (f bs)
  | _ => none
abbrev gAll := g1 (allD fun bs => bs.all id)
abbrev gAny := g1 (allD fun bs => bs.any id)
theorem allD_inv {f : List Bool → Bool} {a d : D} (h : allD f a = some d) : ∃ bs : List Bool, a = .lst (bs.map D.bl) ∧ d = .bl (f bs) := by
  unfold allD at h
  split at h
  · rename_i ds
    cases q : bls ds with
    | none => rw [q] at h; cases h
    | some bs => rw [q] at h; cases h; exact ⟨bs, by rw [bls_ok q], rfl⟩
  · cases h
theorem cd_all (hc : X.calm = true) : CallD X C (.builtin "all") gAll := cd_g1 (cr_all hc) (fun H x a d Q r h q => by
    obtain ⟨bs, rfl, rfl⟩ := allD_inv h
    cases r with
    | @lst p us ds e r => rw [Reps.of_bls r] at e; exact ⟨p, bs, rfl, .of e, q _ H (.bl _)⟩) fun a d h => by
  obtain ⟨bs, rfl, rfl⟩ := allD_inv h
  exact .inr (.inl ⟨_, rfl⟩)
theorem cd_any (hc : X.calm = true) : CallD X C (.builtin "any") gAny := cd_g1 (cr_any hc) (fun H x a d Q r h q => by
    obtain ⟨bs, rfl, rfl⟩ := allD_inv h
    cases r with
    | @lst p us ds e r => rw [Reps.of_bls r] at e; exact ⟨p, bs, rfl, .of e, q _ H (.bl _)⟩) fun a d h => by
  obtain ⟨bs, rfl, rfl⟩ := allD_inv h
  exact .inr (.inl ⟨_, rfl⟩)

def strsD : List D → Option (List Str)
  | [] => some []
  | .str b :: r => (strsD r).map (b :: ·)
  | _ :: _ => none
theorem strsD_ok : ∀ {ds : List D} {bs : List Str}, strsD ds = some bs → ds = bs.map D.str
  | [], _, h => by cases h; rfl
  | .str b :: r, bs, h => by
    have h' : (strsD r).map (b :: ·) = some bs := h
    cases q : strsD r with
    | none => rw [q] at h'; cases h'
    | some cs => rw [q] at h'; cases h'; rw [strsD_ok q]; rfl
  | .non :: _, _, h | .int _ :: _, _, h | .bl _ :: _, _, h | .tup _ :: _, _, h | .lst _ :: _, _, h | .scr _ :: _, _, h | .dct _ :: _, _, h | .ins _ _ :: _, _, h | .cls _ :: _, _, h | .ty _ :: _, _, h => by cases h
@[simp] theorem strsD_map : ∀ bs : List Str, strsD (bs.map D.str) = some bs
  | [] => rfl
  | b :: r => by show (strsD (r.map D.str)).map (b :: ·) = _; rw [strsD_map r]; rfl
def joinD (s : Str) (xs : List D) : Rz EV := orStuck (strsD xs) >>= fun ys => if (ys.map (·.length)).sum + ys.length * s.length ≤ 16777216 then .ok (.fz (.str (Txt.join s ys))) else .stuck
theorem joinD_inv {s : Str} {xs : List D} {ev : EV} (h : joinD s xs = .ok ev) : ∃ ys : List Str, xs = ys.map D.str ∧ (ys.map (·.length)).sum + ys.length * s.length ≤ 16777216 ∧ ev = .fz (.str (Txt.join s ys)) := by
  unfold joinD at h
  cases q : strsD xs with
  | none => rw [q] at h; cases h
  | some ys =>
    rw [q] at h
    simp only [orStuck_some, Rz.ok_bind] at h
    split at h
    · rename_i hz; cases h; exact ⟨ys, strsD_ok q, hz, rfl⟩
    · cases h
theorem joinD_exc {s : Str} {xs : List D} {e : Exn} : joinD s xs ≠ .exc e := noexc_bind (fun ys e => by split <;> (intro z; cases z)) e
def isS : EV → Rz Str
  | .fz (.str s) => .ok s
  | _ => .stuck
@[simp] theorem isS_str (s : Str) : isS (.fz (.str s)) = .ok s := rfl
def mM1 (ma mb : Env → Rz EV) (g : Str → EV → Rz EV) : Env → Rz EV := fun env => ma env >>= fun a => isS a >>= fun s => mb env >>= fun b => g s b
def mM0 (ma : Env → Rz EV) (g : Str → Rz EV) : Env → Rz EV := fun env => ma env >>= fun a => isS a >>= fun s => g s
def M1D (X : Cx) (C : CT) (r : V → List V → Hp → VK → Prop) (g : Str → EV → Rz EV) : Prop :=
  (∀ s b e, g s b ≠ .exc e) ∧ ∀ (Z : Ent) (G H Hs : Hp) (s : Str) (y : V) (b ev : EV) (Q : VK), Sub G H → Sub Z.H H → EVok (kc X C) Z Hs G H y b → g s b = .ok ev → (∀ v G' H', Ext G H G' H' → EVok (kc X C) Z H G' H' v ev → Q v H') → r (.str s) [y] H Q
theorem m1_go {ma mb : Env → Rz EV} {g : Str → EV → Rz EV} {r : V → List V → Hp → VK → Prop} {σ : L2.St} {H : Hp} {Q : VK} (hr : M1D X C r g)
    (h : tE (kc X C) W (mM1 ma mb g) σ H Q) : tM1 r (tE (kc X C) W ma) (tE (kc X C) W mb) σ H Q := by
  obtain ⟨ng, hr⟩ := hr
  obtain ⟨Z, G, env, er, q⟩ := h
  unfold mM1 at q
  refine ⟨Z, G, env, er, ?_⟩
  cases ha : ma env with
  | stuck => rw [ha] at q; exact q.elim
  | exc e => rw [ha] at q; exact q
  | ok a =>
    rw [ha] at q
    simp only [Rz.ok_bind] at q
    intro x G1 H1 x1 va
    cases hs : isS a with
    | stuck => rw [hs] at q; exact q.elim
    | exc e => unfold isS at hs; split at hs <;> cases hs
    | ok s =>
      have hsa : a = .fz (.str s) := by
        unfold isS at hs
        split at hs
        · cases hs; rfl
        · cases hs
      subst hsa
      have hx : x = .str s := rep_str va
      subst hx
      rw [hs] at q
      simp only [Rz.ok_bind] at q
      refine ⟨⟨s, rfl⟩, Z, G1, env, er.ext x1, ?_⟩
      cases hb : mb env with
      | stuck => rw [hb] at q; exact q.elim
      | exc e => rw [hb] at q; exact fun cls d G' H' x2 => q cls d G' H' (x1.trans x2)
      | ok b =>
        rw [hb] at q
        simp only [Rz.ok_bind] at q
        intro y G2 H2 x2 vb
        cases hg : g s b with
        | stuck => rw [hg] at q; exact q.elim
        | exc e => exact absurd hg (ng s b e)
        | ok ev =>
          rw [hg] at q
          exact hr Z G2 H2 H1 s y b ev Q x2.s (er.zh.trans (x1.h.trans x2.h)) vb hg fun v G' H' x3 ve => q v G' H' ((x1.trans x2).trans x3) (ve.start (x1.h.trans x2.h))
def M0D (X : Cx) (C : CT) (r : V → List V → Hp → VK → Prop) (g : Str → Rz EV) : Prop :=
  (∀ s e, g s ≠ .exc e) ∧ ∀ (Z : Ent) (G H : Hp) (s : Str) (ev : EV) (Q : VK), Sub G H → Sub Z.H H → g s = .ok ev → (∀ v G' H', Ext G H G' H' → EVok (kc X C) Z H G' H' v ev → Q v H') → r (.str s) [] H Q
theorem m0_go {ma : Env → Rz EV} {g : Str → Rz EV} {r : V → List V → Hp → VK → Prop} {σ : L2.St} {H : Hp} {Q : VK} (hr : M0D X C r g)
    (h : tE (kc X C) W (mM0 ma g) σ H Q) : tM0 r (tE (kc X C) W ma) σ H Q := by
  obtain ⟨ng, hr⟩ := hr
  obtain ⟨Z, G, env, er, q⟩ := h
  unfold mM0 at q
  refine ⟨Z, G, env, er, ?_⟩
  cases ha : ma env with
  | stuck => rw [ha] at q; exact q.elim
  | exc e => rw [ha] at q; exact q
  | ok a =>
    rw [ha] at q
    simp only [Rz.ok_bind] at q
    intro x G1 H1 x1 va
    cases hs : isS a with
    | stuck => rw [hs] at q; exact q.elim
    | exc e => unfold isS at hs; split at hs <;> cases hs
    | ok s =>
      have hsa : a = .fz (.str s) := by
        unfold isS at hs
        split at hs
        · cases hs; rfl
        · cases hs
      subst hsa
      have hx : x = .str s := rep_str va
      subst hx
      rw [hs] at q
      simp only [Rz.ok_bind] at q
      refine ⟨⟨s, rfl⟩, ?_⟩
      cases hg : g s with
      | stuck => rw [hg] at q; exact q.elim
      | exc e => exact absurd hg (ng s e)
      | ok ev =>
        rw [hg] at q
        exact hr Z G1 H1 s ev Q x1.s (er.zh.trans x1.h) hg fun v G' H' x3 ve => q v G' H' (x1.trans x3) (ve.start x1.h)
def gJoin (s : Str) (b : EV) : Rz EV := match b.d with
  | .lst xs => joinD s xs
  | .tup xs => joinD s xs
  | _ => .stuck
theorem md_join : M1D X C (fun x xs H Q => ∃ a p, ∃ ys : List Str, x = .str a ∧ xs = [.ref p] ∧ (SqL X.K H p (ys.map V.str) ∨ SqT X.K H p (ys.map V.str)) ∧ (ys.map (·.length)).sum + ys.length * a.length ≤ 16777216 ∧ Q (.str (Txt.join a ys)) H) gJoin :=
  ⟨fun s b e h => by
    unfold gJoin at h
    split at h
    · exact joinD_exc h
    · exact joinD_exc h
    · (cases h), fun Z G H Hs s y b ev Q sb zh vb hg q => by
    have rb := vb.rep sb
    unfold gJoin at hg
    split at hg
    · rename_i xs hb
      obtain ⟨ys, rfl, hz, rfl⟩ := joinD_inv hg
      rw [hb] at rb
      cases rb with
      | @lst p us _ e r => rw [Reps.of_strs r] at e; exact ⟨s, p, ys, rfl, rfl, .inl (.of e), hz, giveS sb q⟩
    · rename_i xs hb
      obtain ⟨ys, rfl, hz, rfl⟩ := joinD_inv hg
      rw [hb] at rb
      cases rb with
      | @tup p us _ e r => rw [Reps.of_strs r] at e; exact ⟨s, p, ys, rfl, rfl, .inr e, hz, giveS sb q⟩
    · cases hg⟩
theorem de_join {o e : Expr} {ma mb : Env → Rz EV} {apos pos : Pos} (ho : DE X C W o ma) (he : DE X C W e mb) (hs : starEach [e] X.env = [(false, eval e X.env)] := by rfl) (hbase : attributeBase o "join" X.env (eval o X.env) = eval o X.env := by rfl) (hline : (apos.endLine == pos.line) = true := by rfl) :
    DE X C W (.Call (.Attribute o "join" apos) [e] [] pos) (mM1 ma mb gJoin) := ⟨PE.imp (pe_join ho.pe he.pe hs hbase hline) fun σ H Q h => m1_go md_join h⟩
def newStrs (ys : List Str) : EV := .ow true (.lst (ys.map .str))
def gSplit (s : Str) (b : EV) : Rz EV := match b with
  | .fz (.str z) => if (z.length == 0) = false ∧ s.length + 2 ≤ sizeLine then .ok (newStrs (Txt.split s z)) else .stuck
  | _ => .stuck
@[simp] theorem gSplit_str (s z : Str) : gSplit s (.fz (.str z)) = if (z.length == 0) = false ∧ s.length + 2 ≤ sizeLine then .ok (newStrs (Txt.split s z)) else .stuck := rfl
theorem md_split : M1D X C (fun x xs H Q => ∃ a b, x = .str a ∧ xs = [.str b] ∧ (b.length == 0) = false ∧ a.length + 2 ≤ sizeLine ∧ rNewStrs (Txt.split a b) H Q) gSplit :=
  ⟨fun s b e h => by
    unfold gSplit at h
    split at h
    · split at h <;> (cases h)
    · (cases h), fun Z G H Hs s y b ev Q sb zh vb hg q => by
    unfold gSplit at hg
    split at hg
    · split at hg
      · rename_i hz
        cases hg
        refine ⟨s, _, rfl, by rw [rep_str vb], hz.1, hz.2, ?_⟩
        exact giveL sb zh (Reps.strs _) q
      · cases hg
    · cases hg⟩
theorem de_split {o e : Expr} {ma mb : Env → Rz EV} {apos pos : Pos} (ho : DE X C W o ma) (he : DE X C W e mb) (hs : starEach [e] X.env = [(false, eval e X.env)] := by rfl) (hbase : attributeBase o "split" X.env (eval o X.env) = eval o X.env := by rfl) (hline : (apos.endLine == pos.line) = true := by rfl) :
    DE X C W (.Call (.Attribute o "split" apos) [e] [] pos) (mM1 ma mb gSplit) := ⟨PE.imp (pe_split ho.pe he.pe hs hbase hline) fun σ H Q h => m1_go md_split h⟩

def cutD (xs : List D) (lo hi : Option Int) : List D := (xs.drop (HT.sIx xs.length 0 lo)).take (HT.sIx xs.length xs.length hi - HT.sIx xs.length 0 lo)
theorem cut_reps {K : KC} {G : Hp} {vs : List V} {ds : List D} {lo hi : Option Int} (r : Reps K G vs ds) : Reps K G (cutV vs lo hi) (cutD ds lo hi) := by
  unfold cutV cutD
  rw [r.length]
  exact (r.drop _).take _
def mPart (m : Option (Env → Rz EV)) : Env → Rz (Option Int) := fun env => match m with
  | none => .ok none
  | some m => m env >>= fun a => match a with
    | .fz (.int i) => .ok (some i)
    | _ => .stuck
def gSl (a : EV) (lo hi : Option Int) : Rz EV := match a with
  | .fz (.lst ds) => .ok (.ow true (.lst (cutD ds lo hi)))
  | .ow _ (.lst ds) => .ok (.ow true (.lst (cutD ds lo hi)))
  | .fz (.tup ds) => .ok (.fz (.tup (cutD ds lo hi)))
  | .fz (.str z) => if z.length ≤ sizeLine then .ok (.fz (.str (cutS z lo hi))) else .stuck
  | _ => .stuck
def mSl (m : Env → Rz EV) (lo hi : Option (Env → Rz EV)) : Env → Rz EV := fun env => m env >>= fun a => mPart lo env >>= fun l => mPart hi env >>= fun h => gSl a l h
def tO (K : KC) (W : WX) (m : Env → Rz (Option Int)) : TO := fun σ H Q => ∃ Z G env, ER K Z G H σ env ∧ match m env with
  | .ok o => ∀ G' H', Ext G H G' H' → Q o H'
  | .exc e => ∀ cls d G' H', Ext G H G' H' → ExcOk K G' H' cls d e → W cls d σ H'
  | .stuck => False
structure DO (X : Cx) (C : CT) (W : WX) (e : Option Expr) (m : Option (Env → Rz EV)) : Prop where
  po : PO X e (tO (kc X C) W (mPart m))
theorem PO.imp {e : Option Expr} {t t' : TO} (h : PO X e t) (k : ∀ σ H Q, t' σ H Q → t σ H Q) : PO X e t' := ⟨fun pins s σ H Q I q => h.run pins s σ H Q I (k _ _ _ q)⟩
theorem do_none : DO X C W none none := ⟨PO.imp po_none fun σ H Q ⟨Z, G, env, er, q⟩ => q G H (.refl er.sub)⟩
theorem do_some {e : Expr} {m : Env → Rz EV} (h : DE X C W e m) : DO X C W (some e) (some m) := ⟨PO.imp (po_some h.pe) fun σ H Q ⟨Z, G, env, er, q⟩ => by
  unfold mPart at q
  dsimp only at q
  refine ⟨Z, G, env, er, ?_⟩
  cases ha : m env with
  | stuck => rw [ha] at q; exact q.elim
  | exc e => rw [ha] at q; exact q
  | ok a =>
    rw [ha] at q
    simp only [Rz.ok_bind] at q
    intro v G1 H1 x1 va
    cases a with
    | ow n w => exact q.elim
    | fz d =>
      cases d with
      | int i => exact ⟨i, rep_int va, q G1 H1 x1⟩
      | _ => exact q.elim⟩
def rSlX (K : PySem.W.Frag) : V → Option Int → Option Int → Hp → VK → Prop := fun x lo hi H Q => rSlL K x lo hi H Q ∨ rSlA K x lo hi H Q ∨ (∃ z, x = .str z ∧ z.length ≤ sizeLine ∧ Q (.str (cutS z lo hi)) H)
theorem sl_any (hs : SlR X (fun x lo hi H Q => ∃ z, x = .str z ∧ z.length ≤ sizeLine ∧ Q (.str (cutS z lo hi)) H)) : SlR X (rSlX X.K) := SlR.or sl_list (SlR.or sl_tupA hs)
theorem mPart_go {m : Option (Env → Rz EV)} {f : Option Int → Env → Rz EV} {Z : Ent} {G H : Hp} {σ : L2.St} {env : Env} {R : Option Int → Hp → Prop} {Q : VK} (er : ER (kc X C) Z G H σ env)
    (q : match (mPart m env >>= fun l => f l env) with
      | .ok ev => ∀ v G' H', Ext G H G' H' → EVok (kc X C) Z H G' H' v ev → Q v H'
      | .exc e => ∀ cls d G' H', Ext G H G' H' → ExcOk (kc X C) G' H' cls d e → W cls d σ H'
      | .stuck => False)
    (hR : ∀ l G1 H1, Ext G H G1 H1 → ER (kc X C) Z G1 H1 σ env → (match f l env with
      | .ok ev => ∀ v G' H', Ext G1 H1 G' H' → EVok (kc X C) Z H1 G' H' v ev → Q v H'
      | .exc e => ∀ cls d G' H', Ext G1 H1 G' H' → ExcOk (kc X C) G' H' cls d e → W cls d σ H'
      | .stuck => False) → R l H1) : tO (kc X C) W (mPart m) σ H R := by
  refine ⟨Z, G, env, er, ?_⟩
  cases ha : mPart m env with
  | stuck => rw [ha] at q; exact q.elim
  | exc e => rw [ha] at q; exact q
  | ok l =>
    rw [ha] at q
    simp only [Rz.ok_bind] at q
    refine fun G1 H1 x1 => hR l G1 H1 x1 (er.ext x1) ?_
    cases hb : f l env with
    | stuck => rw [hb] at q; exact q.elim
    | exc e => rw [hb] at q; exact fun cls d G' H' x2 => q cls d G' H' (x1.trans x2)
    | ok b => rw [hb] at q; exact fun v G' H' x2 vb => q v G' H' (x1.trans x2) (vb.start x1.h)
theorem gSl_exc {a : EV} {l h : Option Int} {e : Exn} : gSl a l h ≠ .exc e := by
  unfold gSl
  split <;> first | (intro z; cases z) | (split <;> (intro z; cases z))
theorem cut_whole {ds : List D} {lo hi : Option Int} (h : HT.sIx ds.length 0 lo = 0 ∧ HT.sIx ds.length ds.length hi = ds.length) : cutD ds lo hi = ds := by
  unfold cutD
  rw [h.1, h.2]
  simp
theorem de_sl {e : Expr} {lo hi : Option Expr} {m : Env → Rz EV} {ml mh : Option (Env → Rz EV)} {p2 pos : Pos} (h : DE X C W e m) (hl : DO X C W lo ml) (hh : DO X C W hi mh) :
    DE X C W (.Subscript e (.Slice lo hi none p2) pos) (mSl m ml mh) :=
  ⟨PE.imp (pe_slice (sl_any sl_str) h.pe hl.po hh.po) fun σ H Q ⟨Z, G, env, er, q⟩ => by
    unfold mSl at q
    refine ⟨Z, G, env, er, ?_⟩
    cases ha : m env with
    | stuck => rw [ha] at q; exact q.elim
    | exc e => rw [ha] at q; exact q
    | ok a =>
      rw [ha] at q
      simp only [Rz.ok_bind] at q
      intro v G1 H1 x1 va
      have er1 := er.ext x1
      have q1 : match (mPart ml env >>= fun l => (fun l env => mPart mh env >>= fun h => gSl a l h) l env) with
        | .ok ev => ∀ v G' H', Ext G1 H1 G' H' → EVok (kc X C) Z H1 G' H' v ev → Q v H'
        | .exc e => ∀ cls d G' H', Ext G1 H1 G' H' → ExcOk (kc X C) G' H' cls d e → W cls d σ H'
        | .stuck => False := by
        cases hz : (mPart ml env >>= fun l => mPart mh env >>= fun h => gSl a l h) with
        | stuck => rw [hz] at q; exact q.elim
        | exc e => rw [hz] at q; exact fun cls d G' H' x2 => q cls d G' H' (x1.trans x2)
        | ok b => rw [hz] at q; exact fun v G' H' x2 vb => q v G' H' (x1.trans x2) (vb.start x1.h)
      refine mPart_go (f := fun l env => mPart mh env >>= fun h => gSl a l h) (Q := Q) er1 q1 fun l G2 H2 x2 er2 q2 => ?_
      refine mPart_go (f := fun h _ => gSl a l h) (Q := Q) er2 q2 fun h G3 H3 x3 er3 q3 => ?_
      have va3 := va.ext (x2.trans x3)
      have s3 := er3.sub
      cases hg : gSl a l h with
      | stuck => rw [hg] at q3; exact q3.elim
      | exc e => exact absurd hg gSl_exc
      | ok ev =>
        rw [hg] at q3
        dsimp only at q3
        unfold gSl at hg
        split at hg
        · rename_i ds
          cases hg
          have va' : Rep (kc X C) G3 v (.lst ds) := va3
          cases va' with
          | @lst p us _ e r => exact .inl ⟨p, us, rfl, .of (s3 _ _ e), giveL s3 er3.zh (cut_reps r) q3⟩
        · cases hg
          obtain ⟨p, e, ⟨us, e', r⟩, _⟩ := va3
          exact .inl ⟨p, us, e, .of e', giveL s3 er3.zh (cut_reps r) q3⟩
        · rename_i ds
          cases hg
          have va' : Rep (kc X C) G3 v (.tup ds) := va3
          cases va' with
          | @tup p us _ e r =>
            refine .inr (.inl ⟨p, us, rfl, s3.sqT e, fun hw => ?_, fun _ => giveT s3 (cut_reps r) q3⟩)
            rw [r.length] at hw
            rw [cut_whole hw] at q3
            exact q3 _ G3 H3 (.refl s3) (.tup e r)
        · rename_i z
          split at hg
          · rename_i hz
            cases hg
            exact .inr (.inr ⟨z, rep_str va3, hz, giveS s3 q3⟩)
          · cases hg
        · cases hg⟩

def mApp (i : Nat) (m : Env → Rz EV) : Env → Out := fun env => match env.getD i .no with
  | .own (.lst ds) => (match m env with
    | .ok a => (match a.fr with
      | .fz d => if ds.length < sizeLine then .nx (env.set i (.own (.lst (ds ++ [d])))) else .stuck
      | _ => .stuck)
    | .exc e => .exc e env
    | .stuck => .stuck)
  | _ => .stuck
theorem tyV_list {K : PySem.W.Frag} {H : Hp} {p : Addr} {vs : List V} (h : H p = some (.lst vs)) : tyV K "list" (.ref p) H := Or.inl ⟨rfl, _, Or.inl (Or.inl h)⟩
theorem ds_app (i : Nat) {x : Str} {e : Expr} {m : Env → Rz EV} {xp apos cpos pos : Pos} (he : DE X C W e m) (hN : X.N[i]? = some x := by rfl) (hv : Vis X.env.scope x := by first | exact Or.inl rfl | exact Or.inr (Or.inl rfl) | exact Or.inr (Or.inr rfl)) (hd : (x == ("__debug__" : Str)) = false := by decide)
    (hcd : (x == ("__classdict__" : Str)) = false := by decide)
    (hbase : attributeBase (.Name x xp) "append" X.env (eval (.Name x xp) X.env) = eval (.Name x xp) X.env := by rfl)
    (hfew : ((backTo cpos (starEach [e] X.env)).all (fun x => !x.1) && (backToKw cpos (keywordEach [] X.env)).all (fun x => x.1.isSome)
      && decide ([e].length + ([] : List Keyword).length + (if ([] : List Keyword).isEmpty then 0 else 1) < 30)) = true := by rfl)
    (hline : (apos.endLine == cpos.line) = true := by rfl) (hs : starEach [e] X.env = (false, eval e X.env) :: starEach [] X.env := by rfl) (hplain : (backTo cpos (starEach [] X.env)).any (·.1) = false := by rfl)
    (hsw : swapsWith (.Call (.Attribute (.Name x xp) "append" apos) [e] [] cpos) none pos.line X.env = pure false := by rfl) :
    DS X C W (.Expr (.Call (.Attribute (.Name x xp) "append" apos) [e] [] cpos) pos) (mApp i m) :=
  ⟨PS.imp (ps_expr (pe_bm PySem.F.plainAttrs_list PySem.F.slot_list_append PySem.F.type_list_append mt_append (pe_var hN hv hd hcd) (pa_cons he.pe pa_nil hs) hbase hfew hline hs hplain) hsw) fun D σ H ⟨Z, G, env, er, q⟩ => by
    unfold mApp at q
    split at q
    · rename_i ds hi
      have hi := getD_some hi (by simp)
      obtain ⟨v, h1, p, rfl, us, h3, h4⟩ := er.at' i _ hi
      refine ⟨.ref p, h1, tyV_list h3, Z, G, env, er, ?_⟩
      cases ha : m env with
      | stuck => rw [ha] at q; exact q.elim
      | exc e =>
        rw [ha] at q
        exact fun cls d G' H' x k => q σ H' G' cls d x.g (er.ext x) k
      | ok a =>
        rw [ha] at q
        intro y G1 H1 x1 va
        obtain ⟨G2, s2, er2, va2⟩ := frz_go (er.ext x1) va fun p hp => er.free hp
        dsimp only at q
        cases hf : a.fr with
        | ow n w => rw [hf] at q; exact q.elim
        | fz d =>
          rw [hf] at q va2
          dsimp only at q
          split at q
          · rename_i hz
            have hH1 := x1.h _ _ h3
            refine ⟨p, us, y, rfl, rfl, hH1, by rw [h4.length]; exact hz, q _ _ G2 (x1.g.trans s2) (er2.put hi h1 ⟨_, upd_same, ?_⟩)⟩
            exact (h4.mono (x1.g.trans s2)).append (.cons va2 .nil)
          · exact q.elim
    · exact q.elim⟩
end
end DL
namespace DL
open PySem PySem.Spec PyProof.Rows L2
section
variable {X : Cx} {C : CT} {W : WX}
def tyName : D → Option String
  | .non => some "NoneType"
  | .bl _ => some "bool"
  | .int _ => some "int"
  | .str _ => some "str"
  | .tup _ => some "tuple"
  | .lst _ => some "list"
  | .scr _ => some "list"
  | .dct _ => some "dict"
  | _ => none
theorem ty_of {K : KC} {H : Hp} {x : V} {d : D} {t : String} (r : Rep K H x d) (h : tyName d = some t) : TyX K.K H x (.type t) := by
  cases r with
  | non => cases h; exact .base .non
  | bl b => cases h; exact .base (.bl b)
  | int i => cases h; exact .base (.int i)
  | str s => cases h; exact .base (.str s)
  | tup sq r =>
    cases h
    rcases sq with (e | ⟨o, e⟩) | ⟨o, its, n, e, c, _⟩
    · exact .base (.tup e)
    · exact .fTuple e
    · exact .kTuple e c
  | lst e r => cases h; exact .base (.lst e)
  | scr sq =>
    cases h
    rcases sq with (e | ⟨o, e⟩) | ⟨o, its, n, e, c, _⟩
    · exact .base (.lst e)
    · exact .base (.frz e)
    · exact .kList e c
  | dk e r => cases h; exact .base (.dK e)
  | dt e r => cases h; exact .base (.dT e)
  | ty _ => cases h
  | cls _ => cases h
  | ins _ _ _ => cases h
def isTy (T : String) (d : D) : Option Bool := (tyName d).bind fun t => kitB t T
def gIsi : List EV → Rz EV
  | [a, .fz (.ty T)] => orStuck (isTy T a.d) >>= fun k => .ok (.fz (.bl k))
  | _ => .stuck
@[simp] theorem gIsi_ty (a : EV) (T : String) : gIsi [a, .fz (.ty T)] = orStuck (isTy T a.d) >>= fun k => .ok (.fz (.bl k)) := rfl
theorem ne_gIsi : NoExcL gIsi := ⟨fun a e h => by
  unfold gIsi at h
  split at h
  · exact noexc_bind (fun _ _ z => by cases z) e h
  · cases h⟩
theorem cd_isi : CallD X C (.builtin "isinstance") gIsi := ⟨_, call_isi, fun Z G H Hs vs evs ev Q s zh va hg q => by
  unfold gIsi at hg
  split at hg
  · rename_i a T
    obtain ⟨v, u, rfl, k, l⟩ := evs2 va
    have l' : Rep (kc X C) G u (.ty T) := l
    cases l'
    unfold isTy at hg
    cases ht : tyName a.d with
    | none => rw [ht] at hg; cases hg
    | some t =>
      rw [ht] at hg
      simp only [Option.bind_some] at hg
      cases hk : kitB t T with
      | none => rw [hk] at hg; cases hg
      | some b =>
        rw [hk] at hg
        cases hg
        exact ⟨v, .ty T, .type t, .type T, b, rfl, .ty T, ty_of (k.rep s) ht, kit_ty hk, giveB s q⟩
  · cases hg⟩
theorem de_bltn {x : Str} {n : String} {pos : Pos} (hm : X.mg x = none) (hv : bootBuiltins x = some (.type n)) (hg : Gl X x := by rfl) (hn : x ≠ "__name__" := by decide) (hd : (x == ("__debug__" : Str)) = false := by decide) : DE X C W (.Name x pos) (mC (.ty n)) :=
  de_of_val (pe_bltn hg hm hv (v := .ty n) rfl hn hd) fun _ => .ty n
theorem isTy_bl (T : String) (b : Bool) : isTy T (.bl b) = kitB "bool" T := rfl
theorem isTy_int (T : String) (b : Int) : isTy T (.int b) = kitB "int" T := rfl
theorem isTy_str (T : String) (b : Str) : isTy T (.str b) = kitB "str" T := rfl
theorem isTy_tup (T : String) (b : List D) : isTy T (.tup b) = kitB "tuple" T := rfl
theorem isTy_lst (T : String) (b : List D) : isTy T (.lst b) = kitB "list" T := rfl
theorem isTy_non (T : String) : isTy T .non = kitB "NoneType" T := rfl
theorem kitB_bb : kitB "bool" "bool" = some true := by decide +kernel
theorem kitB_bi : kitB "bool" "int" = some true := by decide +kernel
theorem kitB_bs : kitB "bool" "str" = some false := by decide +kernel
theorem kitB_bt : kitB "bool" "tuple" = some false := by decide +kernel
theorem kitB_bl : kitB "bool" "list" = some false := by decide +kernel
theorem kitB_ib : kitB "int" "bool" = some false := by decide +kernel
theorem kitB_ii : kitB "int" "int" = some true := by decide +kernel
theorem kitB_is : kitB "int" "str" = some false := by decide +kernel
theorem kitB_it : kitB "int" "tuple" = some false := by decide +kernel
theorem kitB_il : kitB "int" "list" = some false := by decide +kernel
theorem kitB_sb : kitB "str" "bool" = some false := by decide +kernel
theorem kitB_si : kitB "str" "int" = some false := by decide +kernel
theorem kitB_ss : kitB "str" "str" = some true := by decide +kernel
theorem kitB_st : kitB "str" "tuple" = some false := by decide +kernel
theorem kitB_sl : kitB "str" "list" = some false := by decide +kernel
theorem kitB_tb : kitB "tuple" "bool" = some false := by decide +kernel
theorem kitB_ti : kitB "tuple" "int" = some false := by decide +kernel
theorem kitB_ts : kitB "tuple" "str" = some false := by decide +kernel
theorem kitB_tt : kitB "tuple" "tuple" = some true := by decide +kernel
theorem kitB_tl : kitB "tuple" "list" = some false := by decide +kernel
theorem kitB_lb : kitB "list" "bool" = some false := by decide +kernel
theorem kitB_li : kitB "list" "int" = some false := by decide +kernel
theorem kitB_ls : kitB "list" "str" = some false := by decide +kernel
theorem kitB_lt : kitB "list" "tuple" = some false := by decide +kernel
theorem kitB_ll : kitB "list" "list" = some true := by decide +kernel
theorem kitB_nb : kitB "NoneType" "bool" = some false := by decide +kernel
theorem kitB_ni : kitB "NoneType" "int" = some false := by decide +kernel
theorem kitB_ns : kitB "NoneType" "str" = some false := by decide +kernel
theorem kitB_nt : kitB "NoneType" "tuple" = some false := by decide +kernel
theorem kitB_nl : kitB "NoneType" "list" = some false := by decide +kernel

mutual
def pureD : D → Bool
  | .non | .bl _ | .int _ | .str _ | .ty _ | .cls _ => true
  | .tup ds => pureDs ds
  | _ => false
def pureDs : List D → Bool
  | [] => true
  | d :: ds => pureD d && pureDs ds
end
def tups (H : Hp) : Hp := fun a => match H a with
  | some (.tup vs) => some (.tup vs)
  | some (.frz o (.tup vs)) => some (.frz o (.tup vs))
  | some (.xd fs) => some (.xd fs)
  | _ => none
theorem tups_sub (H : Hp) : Sub (tups H) H := fun a o e => by
  unfold tups at e
  split at e
  · rename_i vs h; rw [h, e]
  · rename_i ob vs h; rw [h, e]
  · rename_i fs h; rw [h, e]
  · cases e
theorem tups_get {H : Hp} {a : Addr} {vs : List V} (h : H a = some (.tup vs)) : tups H a = some (.tup vs) := by unfold tups; rw [h]
theorem tups_getF {H : Hp} {a : Addr} {ob : Obj} {vs : List V} (h : H a = some (.frz ob (.tup vs))) : tups H a = some (.frz ob (.tup vs)) := by unfold tups; rw [h]
theorem tups_getX {H : Hp} {a : Addr} {fs : List (Str × V)} (h : H a = some (.xd fs)) : tups H a = some (.xd fs) := by unfold tups; rw [h]
mutual
theorem pure_rep {K : KC} {H : Hp} : ∀ {v : V} {d : D}, Rep K H v d → pureD d = true → Rep K (tups H) v d
  | _, _, .non, _ => .non
  | _, _, .bl b, _ => .bl b
  | _, _, .int i, _ => .int i
  | _, _, .str x, _ => .str x
  | _, _, .ty n, _ => .ty n
  | _, _, .cls e, _ => .cls e
  | _, _, .tup sq r, h => .tup (by
      rcases sq with (e | ⟨o, e⟩) | e
      · exact .inl (.inl (tups_get e))
      · exact .inl (.inr ⟨o, tups_getF e⟩)
      · exact .inr e) (pure_reps r (by unfold pureD at h; exact h))
  | _, _, .lst _ _, h => by unfold pureD at h; cases h
  | _, _, .scr _, h => by unfold pureD at h; cases h
  | _, _, .dk _ _, h => by unfold pureD at h; cases h
  | _, _, .dt _ _, h => by unfold pureD at h; cases h
  | _, _, .ins _ _ _, h => by unfold pureD at h; cases h
theorem pure_reps {K : KC} {H : Hp} : ∀ {vs : List V} {ds : List D}, Reps K H vs ds → pureDs ds = true → Reps K (tups H) vs ds
  | _, _, .nil, _ => .nil
  | _, _, .cons a b, h => by
    unfold pureDs at h
    obtain ⟨h1, h2⟩ := Bool.and_eq_true_iff.mp h
    exact .cons (pure_rep a h1) (pure_reps b h2)
end
def pureFs (fs : List (Str × D)) : Bool := fs.all fun f => pureD f.2
theorem pure_repF {K : KC} {H : Hp} : ∀ {vs : List (Str × V)} {ds : List (Str × D)}, RepF K H vs ds → pureFs ds = true → RepF K (tups H) vs ds
  | _, _, .nil, _ => .nil
  | _, _, .cons a b, h => by
    unfold pureFs at h
    rw [List.all_cons] at h
    obtain ⟨h1, h2⟩ := Bool.and_eq_true_iff.mp h
    exact .cons (pure_rep a h1) (pure_repF b h2)
def orH (A B : Hp) : Hp := fun a => match A a with
  | some o => some o
  | none => B a
theorem orH_l (A B : Hp) : Sub A (orH A B) := fun a o e => by unfold orH; rw [e]
theorem orH_r {A B H : Hp} (h : Sub A H) (k : Sub B H) : Sub B (orH A B) := fun a o e => by
  unfold orH
  cases q : A a with
  | none => exact e
  | some u' =>
    have h1 := h a u' q
    have h2 := k a o e
    rw [h1] at h2
    exact h2
theorem orH_none {A B : Hp} {a : Addr} (h : A a = none) : orH A B a = B a := by unfold orH; rw [h]
theorem tups_nt {H : Hp} {a : Addr} (h : NT H a) : tups H a = none := by
  obtain ⟨o, e, k⟩ := h
  unfold tups
  rw [e]
  split
  · rename_i h; cases h; cases k
  · rename_i h; cases h; cases k
  · rename_i h; cases h; cases k
  · rfl
theorem orH_sub {A B H : Hp} (h : Sub A H) (k : Sub B H) : Sub (orH A B) H := fun a o e => by
  unfold orH at e
  cases q : A a with
  | none => rw [q] at e; exact k a o e
  | some u' => rw [q] at e; cases e; exact h a _ q

def allFzB : List EV → Bool
  | [] => true
  | .fz _ :: r => allFzB r
  | _ :: _ => false
def lend : EV → Rz EV
  | .fz d => if pureD d = true then .ok (.fz d) else .stuck
  | .ow true (.lst ds) => if pureDs ds = true then .ok (.ow true (.lst ds)) else .stuck
  | _ => .stuck
def own? : EV → EV
  | .ow _ w => .ow true w
  | e => e
def appF (F : Fn) (evs : List EV) : Rz EV := match F (evs.map EV.d) with
  | .ok r => if allFzB evs = true then .ok (own? r) else lend (own? r)
  | .exc e => if allFzB evs = true then .exc e else if pureFs e.fs = true then .exc e else .stuck
  | .stuck => .stuck
theorem EVs.reps {K : KC} {Z : Ent} {Hs G H : Hp} (s : Sub G H) : ∀ {vs : List V} {evs : List EV}, EVs K Z Hs G H vs evs → Reps K H vs (evs.map EV.d)
  | _, _, .nil => .nil
  | _, _, .cons a b => .cons (a.rep s) (b.reps s)
theorem EVs.repsF {K : KC} {Z : Ent} {Hs G H : Hp} : ∀ {vs : List V} {evs : List EV}, EVs K Z Hs G H vs evs → allFzB evs = true → Reps K G vs (evs.map EV.d)
  | _, _, .nil, _ => .nil
  | _, _, .cons (e := .fz d) a b, h => .cons a (b.repsF h)
  | _, _, .cons (e := .ow n w) a b, h => by cases h
theorem EVs.length {K : KC} {Z : Ent} {Hs G H : Hp} : ∀ {vs : List V} {evs : List EV}, EVs K Z Hs G H vs evs → vs.length = evs.length
  | _, _, .nil => rfl
  | _, _, .cons a b => congrArg Nat.succ b.length
theorem ask_fn {F : Fn} {n : Nat} {Z : Ent} {G1 H1 : Hp} {σ : L2.St} {env : Env} {vs : List V} {evs : List EV} {Hs : Hp} {Q : VK} {E : XK} (er : ER (kc X C) Z G1 H1 σ env) (va : EVs (kc X C) Z Hs G1 H1 vs evs) (hn : evs.length = n)
    (q : match appF F evs with
      | .ok ev => ∀ v G' H', Ext G1 H1 G' H' → EVok (kc X C) Z H1 G' H' v ev → Q v H'
      | .exc e => ∀ cls d G' H', Ext G1 H1 G' H' → ExcOk (kc X C) G' H' cls d e → E cls d H'
      | .stuck => False) : spD (kc X C) n F vs H1 Q E := by
  unfold appF at q
  have zz : ∀ {G' H' : Hp} {v : V} {ev : EV} {G0 : Hp}, EVok (kc X C) ⟨G0, H1⟩ H1 G' H' v ev → EVok (kc X C) Z H1 G' H' v (own? ev) := fun {G' H' v ev G0} k => by
    cases ev with
    | fz d => exact k
    | ow n w =>
      obtain ⟨p, e, h1, h2, h3, h4⟩ := k
      exact ⟨p, e, h1, h2, er.zh.none h3, fun _ => h3⟩
  by_cases hf : allFzB evs = true
  · refine ⟨G1, evs.map EV.d, er.sub, va.repsF hf, by rw [List.length_map]; exact hn, ?_⟩
    cases hF : F (evs.map EV.d) with
    | stuck => rw [hF] at q; exact q
    | exc e =>
      rw [hF] at q
      dsimp only at q
      rw [if_pos hf] at q
      exact q
    | ok ev =>
      rw [hF] at q
      dsimp only at q
      rw [if_pos hf] at q
      exact fun v G' H' x k => q v G' H' x (zz k)
  · refine ⟨H1, evs.map EV.d, .refl, va.reps er.sub, by rw [List.length_map]; exact hn, ?_⟩
    have lower : ∀ {G' H' : Hp}, Ext H1 H1 G' H' → Ext G1 H1 (orH G1 (tups H')) H' := fun {G' H'} x =>
      ⟨orH_l _ _, x.h, orH_sub (er.sub.trans x.h) (tups_sub H'), fun a e n => by rw [orH_none e]; exact tups_nt (n.mono x.h)⟩
    cases hF : F (evs.map EV.d) with
    | stuck => rw [hF] at q; exact q
    | exc e =>
      rw [hF] at q
      dsimp only at q
      rw [if_neg hf] at q
      intro cls d G' H' x k
      by_cases hp : pureFs e.fs = true
      · rw [if_pos hp] at q
        refine q cls d _ H' (lower x) ?_
        obtain ⟨a, h1, h2, h3⟩ := k
        refine ⟨a, h1, h2, ?_⟩
        rcases h3 with h3 | ⟨dd, fs, h3, h4, h5⟩
        · exact .inl h3
        · exact .inr ⟨dd, fs, h3, orH_r (er.sub.trans x.h) (tups_sub H') _ _ (tups_getX (x.s _ _ h4)), (pure_repF (h5.mono x.s) hp).mono (orH_r (er.sub.trans x.h) (tups_sub H'))⟩
      · rw [if_neg hp] at q; exact q.elim
    | ok ev =>
      rw [hF] at q
      dsimp only at q
      rw [if_neg hf] at q
      intro v G' H' x k
      have lo := lower x
      have tr : Sub (tups H') (orH G1 (tups H')) := orH_r (er.sub.trans x.h) (tups_sub H')
      cases ev with
      | fz d =>
        have q' : match (if pureD d = true then Rz.ok (EV.fz d) else .stuck) with
          | .ok ev => ∀ v G' H', Ext G1 H1 G' H' → EVok (kc X C) Z H1 G' H' v ev → Q v H'
          | .exc e => ∀ cls d G' H', Ext G1 H1 G' H' → ExcOk (kc X C) G' H' cls d e → E cls d H'
          | .stuck => False := q
        by_cases hp : pureD d = true
        · rw [if_pos hp] at q'
          exact q' v _ H' lo ((pure_rep (Rep.mono x.s k) hp).mono tr)
        · rw [if_neg hp] at q'; exact q'.elim
      | ow n w =>
        obtain ⟨p, e, h1, h2, h3, h4⟩ := k
        cases w with
        | dct kvs => exact q.elim
        | ins c fs => exact q.elim
        | self c fs => exact q.elim
        | lst ds =>
          have q' : match (if pureDs ds = true then Rz.ok (EV.ow true (.lst ds)) else .stuck) with
            | .ok ev => ∀ v G' H', Ext G1 H1 G' H' → EVok (kc X C) Z H1 G' H' v ev → Q v H'
            | .exc e => ∀ cls d G' H', Ext G1 H1 G' H' → ExcOk (kc X C) G' H' cls d e → E cls d H'
            | .stuck => False := q
          by_cases hp : pureDs ds = true
          · rw [if_pos hp] at q'
            obtain ⟨vs, e1, r1⟩ := h1
            have h3' : H1 p = none := h3
            refine q' v _ H' lo ⟨p, e, ⟨vs, e1, (pure_reps (r1.mono x.s) hp).mono tr⟩, ?_, er.zh.none h3', fun _ => h3'⟩
            rw [orH_none (er.sub.none h3')]
            exact tups_nt ⟨_, e1, rfl⟩
          · rw [if_neg hp] at q'; exact q'.elim
def mFn (F : Fn) (a : Env → Rz (List EV)) (n : Nat) : Env → Rz EV := fun env => a env >>= fun evs => if evs.length = n then appF F evs else .stuck
theorem call_go {F : Fn} {n : Nat} {m : Env → Rz (List EV)} {σ : L2.St} {H : Hp} {Q : VK} (h : tE (kc X C) W (mFn F m n) σ H Q) : tCallS (spD (kc X C) n F) (WE W) (tA (kc X C) W m) σ H Q :=
  tA_seq (f := fun evs _ => if evs.length = n then appF F evs else .stuck) h fun Z G1 H1 env vs a er va hs q => by
    by_cases hn : a.length = n
    · rw [if_pos hn] at q
      exact ask_fn er va hn q
    · rw [if_neg hn] at q; exact q.elim
theorem de_fn {F : Fn} {k : Nat} {f : Addr} {fd : FuncData} {ps : List Str} {x : Str} {p pos : Pos} {e : Expr} {es : List Expr} {m : Env → Rz (List EV)} (FO : FnOk X.prog X.w X.K X.mg X.base (L2.CX X.prog X.w) k f fd ps (spD (kc X C) ps.length F)) (hr : Room k X.A) (hm : X.mg x = some (.ref f)) (hk : PySem.W.keepIn X.K (.ref f) = true) (hb : Binds X.K fd ps [])
    (tk : Takes X W) (ha : DA X C W (e :: es) m) (hg : Gl X x := by rfl) (hdb : (x == ("__debug__" : Str)) = false := by decide) (he : starEach (e :: es) X.env = (false, eval e X.env) :: starEach es X.env := by rfl) (hpl : (backTo pos (starEach es X.env)).any (·.1) = false := by rfl) :
    DE X C W (.Call (.Name x p) (e :: es) [] pos) (mFn F m ps.length) :=
  ⟨PE.imp (pe_callS FO hr hg hm hk hb (fun σ => passAt tk σ) ha.pa hdb he hpl) fun σ H Q h => call_go h⟩
def mPar (i j : Nat) (m : Env → Rz (List EV)) : Env → Out := fun env => match m env with
  | .ok evs => (match allFz evs with
    | some [d, e] => .nx ((env.set i (.val d)).set j (.val e))
    | _ => .stuck)
  | .exc e => .exc e env
  | .stuck => .stuck
theorem ds_par {i j : Nat} {x y : Str} {a b : Expr} {m : Env → Rz (List EV)} {px py pt pos : Pos} {kt k2 pt2} (ha : DA X C W [a, b] m) (hN : X.N.Nodup) (hc : X.calm = true := by rfl) (hi : X.N[i]? = some x := by rfl) (hj : X.N[j]? = some y := by rfl) (hij : i ≠ j := by decide)
    (hx : X.env.scope.names.lookup x = some .local := by rfl) (hy : X.env.scope.names.lookup y = some .local := by rfl)
    (hw : swappedStores [.Tuple [.Name x px, .Name y py] kt pt] (.Tuple [a, b] k2 pt2) X.env = pure (some [x, y]) := by rfl)
    (hs : swapsWithSole [.Tuple [.Name x px, .Name y py] kt pt] (.Tuple [a, b] k2 pt2) pos.line X.env = pure false := by rfl) :
    DS X C W (.Assign [.Tuple [.Name x px, .Name y py] kt pt] (.Tuple [a, b] k2 pt2) pos) (mPar i j m) :=
  ⟨PS.imp (ps_par hc hN hi hj hij hx hy ha.pa hw hs) fun D σ H ⟨Z, G, env, er, q⟩ => by
    unfold mPar at q
    refine ⟨Z, G, env, er, ?_⟩
    cases hm : m env with
    | stuck => rw [hm] at q; exact q.elim
    | exc e => rw [hm] at q; exact fun cls d G' H' x k => q σ H' G' cls d x.g (er.ext x) k
    | ok evs =>
      rw [hm] at q
      dsimp only at q
      intro vs G1 H1 x1 va
      split at q
      · rename_i d e hz
        have r := allFz_ok hz va
        cases r with
        | cons r1 r2 =>
          cases r2 with
          | cons r2 r3 =>
            cases r3
            exact ⟨_, _, rfl, q _ H1 G1 x1.g (((er.ext x1).setV r1).setV r2)⟩
      · exact q.elim⟩
end
end DL
namespace DL
open PySem PySem.Spec PyProof.Rows L2
section
variable {X : Cx} {C : CT} {W : WX}
def mChn (ma mb mc : Env → Rz EV) (g g' : EV → EV → Rz EV) : Env → Rz EV := fun env => ma env >>= fun a => mb env >>= fun b => g a b >>= fun r => asB r >>= fun k => if k = true then (mc env >>= fun c => g' b c) else .ok (.fz (.bl false))
theorem de_chain {op op' : CmpOp} {g g' : EV → EV → Rz EV} {a b c : Expr} {ma mb mc : Env → Rz EV} {pos : Pos} (ho : OpD X C (compareOp op) g) (hg : NoExc g) (ho' : OpD X C (compareOp op') g') (hg' : NoExc g') (ha : DE X C W a ma) (hb : DE X C W b mb) (hc : DE X C W c mc)
    (hpe : ∀ (r r' : R2) (ta tb tc : TE), OpR X (compareOp op) r → OpR X (compareOp op') r' → PE X a ta → PE X b tb → PE X c tc → PE X (.Compare a [op, op'] [b, c] pos) (tChain r r' ta tb tc)) :
    DE X C W (.Compare a [op, op'] [b, c] pos) (mChn ma mb mc g g') := by
  obtain ⟨r, h1, h2⟩ := ho
  obtain ⟨r', h1', h2'⟩ := ho'
  refine ⟨PE.imp (hpe r r' _ _ _ h1 h1' ha.pe hb.pe hc.pe) fun σ H Q ⟨Z, G, env, er, q⟩ => ?_⟩
  unfold mChn at q
  refine ⟨Z, G, env, er, ?_⟩
  cases ea : ma env with
  | stuck => rw [ea] at q; exact q.elim
  | exc e => rw [ea] at q; exact q
  | ok a =>
    rw [ea] at q
    refine fun x G1 H1 x1 va => ⟨Z, G1, env, er.ext x1, ?_⟩
    cases eb : mb env with
    | stuck => rw [eb] at q; exact q.elim
    | exc e => rw [eb] at q; exact fun cls d G' H' x2 => q cls d G' H' (x1.trans x2)
    | ok b =>
      rw [eb] at q
      simp only [Rz.ok_bind] at q
      intro y G2 H2 x2 vb
      have er2 := er.ext (x1.trans x2)
      have zh2 : Sub Z.H H2 := er2.zh
      refine h2 Z G2 H2 H x y a b _ x2.s zh2 (va.ext x2) (vb.start x1.h) ?_
      cases eg : g a b with
      | stuck => rw [eg] at q; exact q.elim
      | exc e => exact absurd eg (hg.no a b e)
      | ok ev =>
        rw [eg] at q
        simp only [Rz.ok_bind] at q
        intro z G3 H3 x3 vz
        cases ek : asB ev with
        | stuck => rw [ek] at q; exact q.elim
        | exc e => exact absurd ek asB_exc
        | ok k =>
          rw [ek] at q
          simp only [Rz.ok_bind] at q
          refine ⟨k, asB_ok ek vz, ?_⟩
          have xx := x1.trans (x2.trans x3)
          cases k with
          | false =>
            rw [if_neg Bool.false_ne_true] at q ⊢
            exact q _ G3 H3 xx (.bl false)
          | true =>
            rw [if_pos rfl] at q ⊢
            refine ⟨Z, G3, env, er.ext xx, ?_⟩
            cases ec : mc env with
            | stuck => rw [ec] at q; exact q.elim
            | exc e => rw [ec] at q; exact fun cls d G' H' x4 => q cls d G' H' (xx.trans x4)
            | ok c =>
              rw [ec] at q
              simp only [Rz.ok_bind] at q
              intro u G4 H4 x4 vc
              refine h2' Z G4 H4 H y u b c Q x4.s (zh2.trans (x3.h.trans x4.h)) ((vb.ext (x3.trans x4)).start x1.h) (vc.start xx.h) ?_
              cases eg' : g' b c with
              | stuck => rw [eg'] at q; exact q.elim
              | exc e => exact absurd eg' (hg'.no b c e)
              | ok ev' =>
                rw [eg'] at q
                exact fun v G' H' x5 ve => q v G' H' (xx.trans (x4.trans x5)) (ve.start (xx.trans x4).h)
theorem de_gS {x y : Str} {pos : Pos} (hm : ∃ t, X.mg x = some (.str y t)) (hg : Gl X x := by rfl) (hd : (x == ("__debug__" : Str)) = false := by decide) : DE X C W (.Name x pos) (mC (.str y)) := by
  obtain ⟨t, h⟩ := hm
  exact de_globS h hg hd
theorem de_gI {x : Str} {y : Int} {pos : Pos} (hm : ∃ t, X.mg x = some (.int y t)) (hg : Gl X x := by rfl) (hd : (x == ("__debug__" : Str)) = false := by decide) : DE X C W (.Name x pos) (mC (.int y)) := by
  obtain ⟨t, h⟩ := hm
  exact de_globI h hg hd
end
theorem room5 {k : Nat} {A : Around} (r : Room k A) : A.units + 65 < cLine := by have := r.un; omega
section
variable {P : Program} {w : World} {mg : Str → Option Value} {base : Heap}
def FnG (P : Program) (w : World) (K : KC) (mg : Str → Option Value) (base : Heap) (k : Nat) (x : Str) (ps : List Str) (F : Fn) : Prop :=
  ∃ fd, FnOk P w K.K mg base (L2.CX P w) k (He.ga K.K x) fd ps (spD K ps.length F) ∧ Binds K.K fd ps [] ∧ PySem.W.keepIn K.K (.ref (He.ga K.K x)) = true ∧ mg x = some (.ref (He.ga K.K x))
theorem fn_dataD {K : KC} {x qual : Str} {params : Arguments} {body : List Stmt} {scope : Scope} {dvs : List V} {kws : List (Str × V)} {f : Addr} {fd : FuncData} {N ps : List Str} {k : Nat} {b : Env → Out} (F : FunD K.K x qual params body scope dvs kws f fd) (S : FnScope N ps scope) (hn : ps.length ≤ N.length)
    (hbody : ∀ (cdv : Value) (A : Around) (outer : List PySem.Env) (s : Shared) (H : Hp) (E : XK), Room k (A.deeper (envOfC qual scope s.heap.objs.size f cdv)) →
      PassesOwn (model P w) (A.deeper (envOfC qual scope s.heap.objs.size f cdv)) (envOfC qual scope s.heap.objs.size f cdv) (cxOf (L2.CX P w) P w K.K mg base N qual scope f cdv A outer s H E).xe →
      Takes (cxOf (L2.CX P w) P w K.K mg base N qual scope f cdv A outer s H E) (fun cls d _ H => E cls d H) → DSs (cxOf (L2.CX P w) P w K.K mg base N qual scope f cdv A outer s H E) K.C (fun cls d _ H => E cls d H) body b) : FnOk P w K.K mg base (L2.CX P w) (k + 1) f fd ps (spD K ps.length (runB N.length b)) := by
  refine F.ok S (fun vs H Q E ⟨G, ds, _, r, l, _⟩ => r.length.trans l) fun cdv A outer s H vs Q E hr ⟨G, ds, hs, r, l, h⟩ => ?_
  refine ⟨_, (hbody cdv A outer s H E hr (passes_of rfl) (takes_of rfl rfl rfl rfl)).pss, ⟨G, H⟩, G, _, er_start hs r N (by rw [l]; exact hn), ?_⟩
  unfold runB at h
  show Post K _ _ _ _ _
  cases hb : b (ds.map SL.val ++ List.replicate (N.length - ds.length) SL.no) with
  | nx e =>
    rw [hb] at h
    exact fun σ H' G' s' er => h .non G' H' er.toExt .non
  | ret ev =>
    rw [hb] at h
    refine fun σ env v H' G' Hs s' er hz va => h v G' H' er.toExt ?_
    exact va.start hz
  | exc e env =>
    rw [hb] at h
    exact fun σ H' G' cls d s' er k => h cls d G' H' er.toExt k
  | bk e => rw [hb] at h; exact h.elim
  | ct e => rw [hb] at h; exact h.elim
  | stuck => rw [hb] at h; exact h.elim
theorem fn_global {K : KC} {x : Str} {params : Arguments} {body : List Stmt} {scope : Scope} {N ps : List Str} {k : Nat} {b : Env → Out} (F : ∃ fd, FunD K.K x x params body scope [] [] (He.ga K.K x) fd) (hm : mg x = some (.ref (He.ga K.K x))) (S : FnScope N ps scope) (hn : ps.length ≤ N.length)
    (hbind : ∀ (kV doc pm : Value) (an : Option Addr) (cdv ct : Value) (us : List Value), us.length = ps.length → bindArgs (PySem.W.fnOf x x params body scope .none kV doc pm an cdv ct) ⟨us, []⟩ = pure (ps.zip us))
    (hbody : ∀ (cdv : Value) (A : Around) (outer : List PySem.Env) (s : Shared) (H : Hp) (E : XK), Room k (A.deeper (envOfC x scope s.heap.objs.size (He.ga K.K x) cdv)) →
      PassesOwn (model P w) (A.deeper (envOfC x scope s.heap.objs.size (He.ga K.K x) cdv)) (envOfC x scope s.heap.objs.size (He.ga K.K x) cdv) (cxOf (L2.CX P w) P w K.K mg base N x scope (He.ga K.K x) cdv A outer s H E).xe →
      Takes (cxOf (L2.CX P w) P w K.K mg base N x scope (He.ga K.K x) cdv A outer s H E) (fun cls d _ H => E cls d H) → DSs (cxOf (L2.CX P w) P w K.K mg base N x scope (He.ga K.K x) cdv A outer s H E) K.C (fun cls d _ H => E cls d H) body b) :
    FnG P w K mg base (k + 1) x ps (runB N.length b) := by
  obtain ⟨fd, F⟩ := F
  exact ⟨fd, fn_dataD F S hn hbody, F.bindsN hbind, F.kp, hm⟩
end
section
variable {X : Cx} {C : CT} {W : WX}
theorem de_call {F : Fn} {k n : Nat} {ps : List Str} {x : Str} {p pos : Pos} {e : Expr} {es : List Expr} {m : Env → Rz (List EV)} (FO : FnG X.prog X.w (kc X C) X.mg X.base k x ps F) (hr : Room k X.A)
    (tk : Takes X W) (ha : DA X C W (e :: es) m) (hg : Gl X x := by rfl) (hdb : (x == ("__debug__" : Str)) = false := by decide) (he : starEach (e :: es) X.env = (false, eval e X.env) :: starEach es X.env := by rfl) (hpl : (backTo pos (starEach es X.env)).any (·.1) = false := by rfl) (hn : n = ps.length := by rfl) :
    DE X C W (.Call (.Name x p) (e :: es) [] pos) (mFn F m n) := by
  obtain ⟨fd, h1, h2, h3, h4⟩ := FO
  subst hn
  exact de_fn h1 hr h4 h3 h2 tk ha hg hdb he hpl
end
theorem law_end {l : PySem.W.OpenLaw} {k : Nat} {q : Program} {loose : List Str} {XP : (Str → Option Value) → Heap → Prop} {YP : World → Heap → Prop} {d : DefRec} {x : Str} {F : Fn} {C : PySem.W.Frag → CT}
    (hn : l.most = some 63) (hdf : d.params.defaults = []) (hr : Room k callerA)
    (hF : ∀ ns : List Int, ns.length ≤ 63 → F [.scr ns] = .ok (.fz (.bl true)))
    (H : ∀ (w : World) (mg : Str → Option Value) (fa : Addr) (h : Heap), YP w h → h.Ns mainGlobals mg → mg d.name = some (.ref fa) →
      ∃ (K : PySem.W.Frag) (fd : FuncData), K.In h ∧ (∀ (s : Shared) (u : Value), BindsTo s fd ⟨[u], []⟩ [(x, u)]) ∧
        ∀ base : Heap, K.In base → base.Ns mainGlobals mg → FnOk l.prog w K mg base (L2.CX l.prog w) k fa fd [x] (spD ⟨K, C K⟩ 1 F)) :
    PySem.W.WalkO q loose XP YP l.row.toRowW d [] (fun f vs => PySem.call f vs) := by
  refine Att.attach_call hn hdf fun w s₀ s₁ mg mb fa o pm cd doc a vs ns G Y ho hd hcd hmg hobj hints hlen hg => ?_
  obtain ⟨K, fd, KX, hb, hFn⟩ := H w mg fa _ Y G.T.g hmg
  refine law_call KX G.T.g G.T.b G.T.builtins G.T.nolimit hg hobj hints (Nat.le_trans hlen (by decide)) hr hFn hb (fun H hO hS => ?_) fun H e s' z => ?_
  · refine ⟨H, [.scr ns], .refl, .cons (.scr hS) .nil, rfl, ?_⟩
    rw [hF ns hlen]
    exact fun v G' H' x k => rep_bl k
  · obtain ⟨_, _, _, _, _, _, _, _, _, _, _, _, z⟩ := z
    exact z
end DL
namespace DL
open PySem L2

theorem for_inv {α : Type} {p : D → Env → Rz Env} {b : Env → Out} (en : α → D) (I : Nat → Env → Prop) : ∀ (xs : List α) (k : Nat) (e0 : Env),
    (∀ (i : Nat) (x : α) (e : Env), xs[i]? = some x → I (k + i) e → ∃ e1 e2, p (en x) e = .ok e1 ∧ (b e1 = .nx e2 ∨ b e1 = .ct e2) ∧ I (k + i + 1) e2) → I k e0 →
    ∃ e', forF p b (xs.map en) e0 = .nx e' ∧ I (k + xs.length) e'
  | [], k, e0, _, h0 => ⟨e0, rfl, h0⟩
  | x :: xs, k, e0, h, h0 => by
    obtain ⟨e1, e2, h1, h2, h3⟩ := h 0 x e0 rfl h0
    obtain ⟨e', h4, h5⟩ := for_inv en I xs (k + 1) e2 (fun i y e hi he => by
      have e5 : k + 1 + i = k + (i + 1) := by omega
      rw [e5] at he
      obtain ⟨f1, f2, g1, g2, g3⟩ := h (i + 1) y e hi he
      refine ⟨f1, f2, g1, g2, ?_⟩
      have e6 : k + 1 + i + 1 = k + (i + 1) + 1 := by omega
      rw [e6]; exact g3) h3
    refine ⟨e', ?_, ?_⟩
    · rw [List.map_cons, forF, h1]
      dsimp only
      rcases h2 with h2 | h2 <;> (rw [h2]; exact h4)
    · rw [List.length_cons]
      have e7 : k + (xs.length + 1) = k + 1 + xs.length := by omega
      rw [e7]; exact h5
theorem for_ret {α : Type} {p : D → Env → Rz Env} {b : Env → Out} (en : α → D) (I : Nat → Env → Prop) (O : Out → Prop) : ∀ (xs : List α) (k : Nat) (e0 : Env),
    (∀ (i : Nat) (x : α) (e : Env), xs[i]? = some x → I (k + i) e → ∃ e1, p (en x) e = .ok e1 ∧ ((∃ e2, (b e1 = .nx e2 ∨ b e1 = .ct e2) ∧ I (k + i + 1) e2) ∨ (∃ ev, b e1 = .ret ev ∧ O (.ret ev)) ∨ ∃ e2, b e1 = .bk e2 ∧ O (.nx e2))) → I k e0 →
    (∃ e', forF p b (xs.map en) e0 = .nx e' ∧ I (k + xs.length) e') ∨ O (forF p b (xs.map en) e0)
  | [], k, e0, _, h0 => .inl ⟨e0, rfl, h0⟩
  | x :: xs, k, e0, h, h0 => by
    obtain ⟨e1, h1, h2⟩ := h 0 x e0 rfl h0
    rw [List.map_cons, forF, h1]
    dsimp only
    rcases h2 with ⟨e2, h2, h3⟩ | ⟨ev, h2, h3⟩ | ⟨e2, h2, h3⟩
    · have r := for_ret en I O xs (k + 1) e2 (fun i y e hi he => by
        have e5 : k + 1 + i = k + (i + 1) := by omega
        rw [e5] at he
        obtain ⟨f1, g1, g2⟩ := h (i + 1) y e hi he
        have e6 : k + 1 + i + 1 = k + (i + 1) + 1 := by omega
        rw [e6]
        exact ⟨f1, g1, g2⟩) h3
      have e7 : k + (x :: xs).length = k + 1 + xs.length := by rw [List.length_cons]; omega
      rw [e7]
      rcases h2 with h2 | h2 <;> (rw [h2]; exact r)
    · rw [h2]; exact .inr h3
    · rw [h2]; exact .inr h3
theorem lc_map {p : D → Env → Rz Env} {t : Env → Rz Bool} {e : Env → Rz EV} {env : Env} {α : Type} {en : α → D} {f : α → D} {k : α → Bool} {pe : α → Env} :
    ∀ (xs : List α) (acc : List D), (∀ x ∈ xs, p (en x) env = .ok (pe x) ∧ t (pe x) = .ok (k x) ∧ (k x = true → ∃ ev, e (pe x) = .ok ev ∧ ev.fr = .fz (f x))) → acc.length + xs.length ≤ sizeLine →
      lcF p t e env (xs.map en) acc = .ok (acc ++ (xs.filter k).map f)
  | [], acc, _, _ => by simp [lcF]
  | x :: xs, acc, h, hl => by
    obtain ⟨h1, h2, h3⟩ := h x List.mem_cons_self
    have hl' : acc.length + (xs.length + 1) ≤ sizeLine := hl
    rw [List.map_cons, lcF, h1]
    dsimp only
    rw [h2]
    cases hk : k x with
    | false =>
      dsimp only
      rw [lc_map xs acc (fun y hy => h y (List.mem_cons_of_mem _ hy)) (by omega), List.filter_cons_of_neg (by simp [hk])]
    | true =>
      obtain ⟨ev, h4, h5⟩ := h3 hk
      dsimp only
      rw [h4]
      dsimp only
      rw [h5]
      dsimp only
      rw [if_pos (by omega), lc_map xs _ (fun y hy => h y (List.mem_cons_of_mem _ hy)) (by simp; omega), List.filter_cons_of_pos hk, List.map_cons, List.append_assoc]
      rfl
theorem mLc_all {it : Env → Rz (List D)} {i : Nat} {e : Env → Rz EV} {env : Env} {α : Type} {en : α → D} {f : α → D} {xs : List α} (hi : it env = .ok (xs.map en))
    (he : ∀ x ∈ xs, ∃ ev, e ((env.set i .no).set i (.val (en x))) = .ok ev ∧ ev.fr = .fz (f x)) (hl : xs.length ≤ sizeLine) :
    mLc it (pName i) mYes e [i] env = .ok (.ow true (.lst (xs.map f))) := by
  unfold mLc
  rw [hi]
  simp only [Rz.ok_bind]
  rw [show wipeE env [i] = env.set i .no from rfl]
  rw [lc_map (pe := fun x => (env.set i .no).set i (.val (en x))) (k := fun _ => true) (f := f) xs [] (fun x hx => ⟨rfl, rfl, fun _ => he x hx⟩) (by simpa using hl)]
  rw [List.filter_eq_self.mpr (fun _ _ => rfl)]
  rfl
theorem mLc_if {it : Env → Rz (List D)} {i : Nat} {t : Env → Rz Bool} {e : Env → Rz EV} {env : Env} {α : Type} {en : α → D} {f : α → D} {k : α → Bool} {xs : List α} (hi : it env = .ok (xs.map en))
    (ht : ∀ x ∈ xs, t ((env.set i .no).set i (.val (en x))) = .ok (k x))
    (he : ∀ x ∈ xs, k x = true → ∃ ev, e ((env.set i .no).set i (.val (en x))) = .ok ev ∧ ev.fr = .fz (f x)) (hl : xs.length ≤ sizeLine) :
    mLc it (pName i) t e [i] env = .ok (.ow true (.lst ((xs.filter k).map f))) := by
  unfold mLc
  rw [hi]
  simp only [Rz.ok_bind]
  rw [show wipeE env [i] = env.set i .no from rfl]
  rw [lc_map (pe := fun x => (env.set i .no).set i (.val (en x))) (k := k) (f := f) xs [] (fun x hx => ⟨rfl, ht x hx, he x hx⟩) (by simpa using hl)]
  simp
theorem wh_inv {c : Env → Rz Bool} {b : Env → Out} {α : Type} (en : α → Env) (k : α → Bool) (step : α → α) (μ : α → Nat) (I : α → Prop)
    (hc : ∀ a, I a → c (en a) = .ok (k a)) (hb : ∀ a, I a → k a = true → (b (en a) = .nx (en (step a)) ∨ b (en a) = .ct (en (step a))) ∧ I (step a) ∧ μ (step a) < μ a) :
    ∀ (n : Nat) (a : α), I a → μ a < n → ∃ a', whF c b n (en a) = .nx (en a') ∧ I a' ∧ k a' = false
  | 0, a, _, h => absurd h (Nat.not_lt_zero _)
  | n + 1, a, ha, h => by
    rw [whF, hc a ha]
    cases hk : k a with
    | false => exact ⟨a, rfl, ha, hk⟩
    | true =>
      obtain ⟨h1, h2, h3⟩ := hb a ha hk
      obtain ⟨a', h4, h5⟩ := wh_inv en k step μ I hc hb n (step a) h2 (by omega)
      refine ⟨a', ?_, h5⟩
      dsimp only
      rcases h1 with h1 | h1 <;> (rw [h1]; exact h4)
theorem fuel_big {n : Nat} (h : n < 1000000000000) : n < fuel := Nat.lt_of_lt_of_le h (by unfold fuel; decide)
theorem size_big {n : Nat} (h : n ≤ 16777216) : n ≤ sizeLine := by rw [sizeLine_eq]; exact h
theorem gAll_map (bs : List Bool) : gAll [.fz (.lst (bs.map .bl))] = .ok (.fz (.bl (bs.all id))) := by simp [allD]
theorem gAny_map (bs : List Bool) : gAny [.fz (.lst (bs.map .bl))] = .ok (.fz (.bl (bs.any id))) := by simp [allD]
theorem gLen_lst (ds : List D) : gLen [.fz (.lst ds)] = .ok (.fz (.int ds.length)) := rfl
theorem gLen_tup (ds : List D) : gLen [.fz (.tup ds)] = .ok (.fz (.int ds.length)) := rfl
theorem gLen_scr (ds : List Int) : gLen [.fz (.scr ds)] = .ok (.fz (.int ds.length)) := rfl
theorem gLen_ow (n : Bool) (ds : List D) : gLen [.ow n (.lst ds)] = .ok (.fz (.int ds.length)) := rfl
abbrev mk (l : List Nat) : Str := ⟨l.toArray⟩
theorem mk_len (l : List Nat) : (mk l).length = l.length := by simp [Str.length]
theorem mk_of (s : Str) : mk s.cps.toList = s := by cases s; simp [mk]
theorem gLen_mk (l : List Nat) (h : l.length ≤ 16777216) : gLen [.fz (.str (mk l))] = .ok (.fz (.int l.length)) := by
  have hz : l.length ≤ sizeLine := size_big h
  simp [lenD, hz, mk_len]
theorem items_mk (l : List Nat) : items (.str (mk l)) = .ok (l.map fun c => .str ⟨#[c]⟩) := by simp
theorem in_sign (c : Nat) (l : List Nat) : opIn (.fz (.str ⟨#[c]⟩)) (.fz (.str (mk l))) = .ok (.fz (.bl (decide (c ∈ l)))) := by simp [opIn, inD]
theorem ni_sign (c : Nat) (l : List Nat) : opNi (.fz (.str ⟨#[c]⟩)) (.fz (.str (mk l))) = .ok (.fz (.bl (!decide (c ∈ l)))) := by simp [opNi, inD]
theorem ix0_mk (c : Nat) (r : List Nat) (h : (c :: r).length ≤ 16777216) : opIx (.fz (.str (mk (c :: r)))) (.fz (.int 0)) = .ok (.fz (.str ⟨#[c]⟩)) := by
  have hz : (mk (c :: r)).length ≤ sizeLine := by rw [mk_len]; exact size_big h
  simp [opIx, ixD, hz, atI, ixN]
theorem ix_lst (ds : List D) (i : Nat) (d : D) (h : ds[i]? = some d) : opIx (.fz (.lst ds)) (.fz (.int i)) = .ok (.fz d) := by
  simp [opIx, ixD, atI_nat h]
theorem ix_ow (n : Bool) (ds : List D) (i : Nat) (d : D) (h : ds[i]? = some d) : opIx (.ow n (.lst ds)) (.fz (.int i)) = .ok (.fz d) := by
  simp [opIx, ixD, atI_nat h]
theorem ix_tup (ds : List D) (i : Nat) (d : D) (h : ds[i]? = some d) : opIx (.fz (.tup ds)) (.fz (.int i)) = .ok (.fz d) := by
  simp [opIx, ixD, atI_nat h]
theorem ix_scr (ns : List Int) (i : Nat) (n : Int) (h : ns[i]? = some n) : opIx (.fz (.scr ns)) (.fz (.int i)) = .ok (.fz (.int n)) := by
  simp [opIx, ixD, atI_nat h]
theorem ix_mk (l : List Nat) (i : Nat) (c : Nat) (hl : l.length ≤ 16777216) (h : l[i]? = some c) : opIx (.fz (.str (mk l))) (.fz (.int i)) = .ok (.fz (.str ⟨#[c]⟩)) := by
  have hz : (mk l).length ≤ sizeLine := by rw [mk_len]; exact size_big hl
  have e := atI_nat (xs := l) h
  simp [opIx, ixD, hz, e]
def joinL (sep : List Nat) : List (List Nat) → List Nat
  | [] => []
  | [x] => x
  | x :: y :: r => x ++ sep ++ joinL sep (y :: r)
theorem mk_app (a b : List Nat) : mk a ++ mk b = mk (a ++ b) := by
  show Str.mk ((mk a).cps ++ (mk b).cps) = _
  simp [mk]
theorem join_mk (sep : List Nat) (ls : List (List Nat)) : Txt.join (mk sep) (ls.map mk) = mk (joinL sep ls) := by
  show Builtin.Str.glued (mk sep) (ls.map mk) = _
  rw [StrLaws.glued_eq_join]
  induction ls with
  | nil => rfl
  | cons x r ih =>
    cases r with
    | nil => rfl
    | cons y r =>
      rw [List.map_cons, List.map_cons] at *
      show mk x ++ mk sep ++ Str.join (mk sep) (mk y :: r.map mk) = _
      rw [ih, mk_app, mk_app]
      rfl
theorem joinL_one (l : List Nat) : joinL [] (l.map fun c => [c]) = l := by
  induction l with
  | nil => rfl
  | cons c r ih =>
    cases r with
    | nil => rfl
    | cons d r => show [c] ++ [] ++ joinL [] ((d :: r).map fun c => [c]) = _; rw [ih]; rfl
theorem gJoin_d {sep : List Nat} {b : EV} {ls : List (List Nat)} (hb : b.d = .lst (ls.map fun l => .str (mk l))) (hl : (ls.map List.length).sum + ls.length * sep.length ≤ 16777216) : gJoin (mk sep) b = .ok (.fz (.str (mk (joinL sep ls)))) := by
  have e : (ls.map fun l => D.str (mk l)) = (ls.map mk).map D.str := by rw [List.map_map]; rfl
  unfold gJoin
  rw [hb]
  dsimp only
  rw [e]
  unfold joinD
  rw [strsD_map]
  simp only [orStuck_some, Rz.ok_bind]
  rw [if_pos (by
    rw [List.map_map, show (Str.length ∘ mk) = List.length from funext mk_len, List.length_map, mk_len]
    exact hl), join_mk]
theorem gJoin_one {b : EV} {l : List Nat} (hb : b.d = .lst (l.map fun c => .str (mk [c]))) (hl : l.length ≤ 16777216) : gJoin (mk []) b = .ok (.fz (.str (mk l))) := by
  rw [gJoin_d (ls := l.map fun c => [c]) (by rw [hb, List.map_map]; rfl) (by
    have : ∀ l : List Nat, (List.map List.length (l.map fun c => [c])).sum = l.length := by
      intro l
      induction l with
      | nil => rfl
      | cons c r ih => rw [List.map_cons, List.map_cons, List.sum_cons, ih, List.length_cons, List.length_cons, List.length_nil]; omega
    rw [this, List.length_nil]
    omega), joinL_one]
theorem s_nil : ("" : Str) = mk [] := by decide +kernel
theorem opEq_d {a b : EV} {k : Bool} (h : eqD a.d b.d = some k) : opEq a b = .ok (.fz (.bl k)) := by
  unfold opEq; rw [h]; rfl
theorem opNe_d {a b : EV} {k : Bool} (h : eqD a.d b.d = some k) : opNe a b = .ok (.fz (.bl (!k))) := by
  unfold opNe; rw [h]; rfl
theorem opEq_bl (i j : Bool) : opEq (.fz (.bl i)) (.fz (.bl j)) = .ok (.fz (.bl (decide (i = j)))) := rfl
theorem opNe_bl (i j : Bool) : opNe (.fz (.bl i)) (.fz (.bl j)) = .ok (.fz (.bl (!decide (i = j)))) := rfl
theorem opEq_int (i j : Int) : opEq (.fz (.int i)) (.fz (.int j)) = .ok (.fz (.bl (decide (i = j)))) := rfl
theorem opNe_int (i j : Int) : opNe (.fz (.int i)) (.fz (.int j)) = .ok (.fz (.bl (!decide (i = j)))) := rfl
theorem opEq_str (i j : Str) : opEq (.fz (.str i)) (.fz (.str j)) = .ok (.fz (.bl (decide (i = j)))) := rfl
theorem opNe_str (i j : Str) : opNe (.fz (.str i)) (.fz (.str j)) = .ok (.fz (.bl (!decide (i = j)))) := rfl
theorem mk_inj {a b : List Nat} : mk a = mk b ↔ a = b := by
  constructor
  · intro h
    have h1 : (mk a).cps = (mk b).cps := by rw [h]
    simpa using h1
  · intro h; rw [h]
theorem ifV_T {t : Env → Rz Bool} {a b : Env → Rz EV} {env : Env} (h : t env = .ok true) : mIf t a b env = a env := by
  unfold mIf; rw [h]; rfl
theorem ifV_F {t : Env → Rz Bool} {a b : Env → Rz EV} {env : Env} (h : t env = .ok false) : mIf t a b env = b env := by
  unfold mIf; rw [h]; rfl
end DL
namespace DX
open PySem PySem.Spec PySem.W PyProof.Rows L2
section
open PySem.Calls
variable {prog : Program} {w : World} {A : Around} {E : Value → Shared → Prop} {h : Heap} {g : Array GenState} {d : Drawn} {t : Nat} {os : OsState}
variable {nm q : Str} {C N : Addr} {bs bm : List Value} {hdct : Bool} {sn : List Str} {sub : List Value} {ab : Bool} {col : Option Bool} {dd : Option Addr} {k0 k1 k2 k3 k5 : Option Value}
theorem call_mw {u e t0 : Addr} {rest : List Value} {Q : Value → Shared → Prop}
    (hC : h.get? C = some (excClassObj nm q C N bs bm hdct sn sub ab col dd k0 k1 k2 k3 k5 "ValueError.__new__")) (he : h.get? e = some (HandSPX.excO C t0)) (hu : h.get? u = some (kxs_mw "ValueError.__init__" e)) (hrest : rest.length ≤ sizeLine)
    (hq : ∀ h' t1, (∀ b o, b ≠ e → h.get? b = some o → h'.get? b = some o) → h'.get? e = some (HandSPX.excO C t1) → Q .none ⟨h', g, d, t, os⟩) :
    wpAny (model prog w) A (call (.ref u) rest) Q E ⟨h, g, d, t, os⟩ := by
  refine wpAny_call (codeAny_of_tree ?_)
  show wpAny _ A.in1 (callAny (.ref u) ⟨rest, []⟩) _ _ _
  simp only [callAny]
  refine wpAny_bind (wpAny_load hu ?_)
  simp only [kxs_mw, show (Value.type "method-wrapper" == Value.type "method" || Value.type "method-wrapper" == Value.type "builtin_function_or_method" || Value.type "method-wrapper" == Value.type "method-wrapper") = true by decide, if_true]
  refine KFB.if_so (by decide) ?_
  refine wpAny_bind (ESX.check_bound F.excBase_ValueError hC he rfl ?_)
  refine wpAny_bind (wpAny_pure (wpAny_pure ?_))
  refine ⟨Code.quiet_builtin _ (by decide +kernel), codeAny_builtin F.excBase_ValueError.initEntry ?_⟩
  rw [Around.under_plainId F.excBase_ValueError.init.plain _]
  wp_walk
  refine hq _ h.objs.size (fun b o hb ho => ?_) ?_
  · rw [Heap.get?_update_other _ _ (Ne.symm hb)]
    exact Heap.get?_push_of_some _ ho
  · rw [Heap.get?_update_self _ (Heap.get?_push_of_some _ he) rfl]
    rfl
end
def cxS (CX : CXT) (P : Program) (w : World) (K : PySem.W.Frag) (mg : Str → Option Value) (base : Heap) (N : List Str) (qual : Str) (scope : Scope) (f : Addr) (cd : Value) (cc : Addr) (A : Around) (outer : List Env) (s : Shared) (H : Hp) (E : XK) : Cx where
  prog := P
  w := w
  K := K
  mg := mg
  base := base
  A := A.deeper (ksEnv qual scope s.heap.objs.size f cd cc)
  N := N
  s_0 := s
  H_0 := H
  env := ksEnv qual scope s.heap.objs.size f cd cc
  outer := outer
  stack := ksEnv qual scope s.heap.objs.size f cd cc :: outer
  ex := []
  calm := true
  fn := fun x => x != "__class__"
  pn := []
  xe := fun e s' => wpAny (model P w) (A.deeper (ksEnv qual scope s.heap.objs.size f cd cc)) (leaving (ksEnv qual scope s.heap.objs.size f cd cc) e) (fun _ s'' => CX outer H s E e s'') (fun e' s'' => CX outer H s E e' s'') s'
structure SScope (ps : List Str) (sc : Scope) : Prop where
  kind : sc.kind = .function
  co : sc.isCoroutine = false
  gen : sc.isGenerator = false
  nd : ps.Nodup
  loc : ∀ x ∈ ps, sc.names.lookup x = some .local
  nocell : ∀ x ∈ sc.names, x.2 ≠ .cell
  free : ∀ x ∈ sc.names, x.2 = .free → x.1 = "__class__"
theorem lookup_rev {α : Type} : ∀ {ps : List Str} {us : List α} {i : Nat} {x : Str} {v : α}, ps.Nodup → ps[i]? = some x → us[i]? = some v → (ps.zip us).reverse.lookup x = some v
  | [], _, _, _, _, _, h, _ => by simp at h
  | _ :: _, [], _, _, _, _, _, h => by simp at h
  | p :: ps, u :: us, 0, x, v, nd, h1, h2 => by
    simp at h1 h2
    subst h1; subst h2
    rw [List.zip_cons_cons, List.reverse_cons, List.lookup_append]
    have e : (ps.zip us).reverse.lookup p = none := by
      cases q : (ps.zip us).reverse.lookup p with
      | none => rfl
      | some z =>
        have m := PySem.mem_of_lookup q
        exact absurd (List.of_mem_zip (List.mem_reverse.mp m)).1 (List.nodup_cons.mp nd).1
    rw [e]
    simp
  | p :: ps, u :: us, i + 1, x, v, nd, h1, h2 => by
    rw [List.zip_cons_cons, List.reverse_cons, List.lookup_append, lookup_rev (i := i) (List.nodup_cons.mp nd).2 (by simpa using h1) (by simpa using h2)]
    rfl
theorem inv_startS {CX : CXT} {P : Program} {w : World} {K : PySem.W.Frag} {mg : Str → Option Value} {base : Heap} {ps : List Str} {qual : Str} {scope : Scope} {f : Addr} {cd : Value} {cc : Addr} {A : Around} {outer : List Env} {s : Shared} {H : Hp} {E : XK} {us : List Value} {vs : List V} {h1 : Heap} {tk : Nat} {cl : Value} {cld : Option Addr} {cv : Option Value} {csl : Array (Option Value)}
    (S : SScope ps scope) (hd : A.handled = none) (e0 : Env0 P w K mg base A outer s H) (hl : vs.length = ps.length) (r : Vals vs us) (hcc : K.lookup cc = some ⟨cl, cld, .cell cv, csl⟩)
    (ns : h1.Ns s.heap.objs.size (fun x => (ps.zip us).reverse.lookup x)) (hk : ∀ b o, s.heap.get? b = some o → h1.get? b = some o) :
    Inv (cxS CX P w K mg base ps qual scope f cd cc A outer s H E) [] (vs.map some) H { s with heap := h1, toks := tk } := by
  have noA : ∀ b : Addr, b ∉ (cxS CX P w K mg base ps qual scope f cd cc A outer s H E).ex := fun b z => absurd (show b ∈ ([] : List Addr) from z) (by simp)
  have lc : ∀ {x : Str} {c : Addr}, ([("__class__", cc)] : List (Str × Addr)).lookup x = some c → x = "__class__" ∧ c = cc := fun {x c} z => by
    have m := PySem.mem_of_lookup z
    rw [List.mem_singleton] at m
    cases m
    exact ⟨rfl, rfl⟩
  refine ⟨⟨e0.mod, S.kind, rfl, rfl, Nat.le_refl _, fun y z c h1 h2 => ?_, fun y hy => ?_, fun y c hf h => ?_, fun _ => hd, Around.frames_deeper e0.frames, .inr ⟨rfl, rfl⟩, fun b z => absurd z (noA b), e0.bs, e0.bsz, fun b _ _ => noA b, fun b z => absurd z (noA b), e0.funs, e0.frf⟩,
    rfl, e0.bare, Un.kept hk, ⟨_, ns, fun i y v h1 h2 h3 => ?_⟩, fun y c h => ?_, e0.hok.fresh (Nat.le_refl _), fun y c h => ?_, fun p hp => absurd (show p ∈ ([] : List (Addr × Obj)) from hp) (by simp), e0.hok.kept hk, ?_⟩
  · exact (lc h1).1.trans (lc h2).1.symm
  · have hy : scope.names.lookup y = some .cell ∨ scope.names.lookup y = some .free := hy
    rcases hy with hy | hy
    · exact absurd rfl (S.nocell _ (PySem.mem_of_lookup hy))
    · have e : y = "__class__" := S.free _ (PySem.mem_of_lookup hy) rfl
      subst e
      exact ⟨cc, by show ([(("__class__" : Str), cc)] : List (Str × Addr)).lookup ("__class__" : Str) = some cc; simp⟩
  · have e := (lc h).1
    subst e
    exact absurd (show (("__class__" : Str) != ("__class__" : Str)) = true from hf) (by simp)
  · obtain ⟨u, hu, rv⟩ := r.get (i := i) (x := v) (by
      rw [List.getElem?_map] at h2
      cases e : vs[i]? with
      | none => rw [e] at h2; cases h2
      | some a => rw [e] at h2; cases h2; rfl)
    exact ⟨u, rv, .inl ⟨S.loc y (List.mem_of_getElem? h1), lookup_rev S.nd h1 hu⟩⟩
  · have e := (lc h).2
    subst e
    exact ⟨cv, _, hk _ _ ((e0.bs _ _ (e0.mod.kin _ _ hcc)).1), rfl⟩
  · have e := (lc h).2
    subst e
    exact (e0.bs _ _ (e0.mod.kin _ _ hcc)).2
  · rw [List.length_map]; exact hl
structure SupC (K : PySem.W.Frag) (C D : Addr) : Prop where
  oex : OexC K C
  sup : ks_superIn K C D "__init__" = some (some (.builtin "ValueError.__init__"))
  ve : subIn K (.ref C) (.type "ValueError") = some true
  mro : mroIn K C (.ref D) = some true
theorem super_stmt {X : Cx} {pins : List (Addr × Obj)} {σ : L2.St} {H : Hp} {s : Shared} {body : List Stmt} {f cc cda a C D : Addr} {oc ccl cl : Value} {od cdd cld : Option Addr} {osl ccs csl : Array (Option Value)} {fd : FuncData} {ar : Arg} {vs : Array Value} {file : Str} {tf : Tok} {cdD : ClassData}
    {e : Expr} {v : V} {p0 p1 ap pos ps : Pos} {Q : Flow → Shared → Prop} (I : Inv X pins σ H s) (gs : Gl X "super") (ms : X.mg "super" = none) (hkc : X.env.kindOf "__class__" = some .free) (hfu : X.env.func = some f) (hco : X.env.code = .ref cda)
    (hcell : X.env.cells.lookup ("__class__" : Str) = some cc) (lf : X.K.lookup f = some ⟨oc, od, .func fd, osl⟩) (hp : (fd.params.posonlyargs ++ fd.params.args).head? = some ar) (la : X.K.lookup cda = some ⟨ccl, cdd, .fields vs, ccs⟩) (hvs : vs[2]? = some (.str file tf)) (hfile : ((X.prog.main.file : Str) == file) = true)
    (htop : (X.prog.main.scope.names.lookup ("super" : Str)).isSome = false) (lcc : X.K.lookup cc = some ⟨cl, cld, .cell (some (.ref D)), csl⟩) (hD : clsIn X.K D = some cdD) (T : SupC X.K C D) (ho : nsIn X.K cStatics "thirdparty.any" = some none)
    (hN : X.N[0]? = some ar.arg) (hv : X.env.kindOf ar.arg = some .local) (hσ : σ[0]? = some (some (.ref a))) (ha : H a = some (exo a C none)) (he : PE X e (tC v))
    (h : ∀ s', Inv X pins σ H s' → Q .next s')
    (hi : interactive X.env = false := by rfl) (hsw : swapsWith (.Call (.Attribute (.Call (.Name "super" p0) [] [] p1) "__init__" ap) [e] [] pos) none ps.line X.env = pure false := by rfl)
    (hst : starEach [e] X.env = [(false, eval e X.env)] := by rfl) {pl : Sem Bool}
    (hcall : eval (.Call (.Attribute (.Call (.Name "super" p0) [] [] p1) "__init__" ap) [e] [] pos) X.env = (do
      let ov ← attributeBase (.Call (.Name "super" p0) [] [] p1) "__init__" X.env (eval (.Call (.Name "super" p0) [] [] p1) X.env)
      standAt ap.atName
      let (f, first) ← holding [ov] (getMethod ov "__init__" pl)
      callWith pos f first (backTo pos (starEach [e] X.env)) []) := by rfl) :
    _root_.PySem.wpAt (model X.prog X.w) X.A (.func body X.env) (exec (.Expr (.Call (.Attribute (.Call (.Name "super" p0) [] [] p1) "__init__" ap) [e] [] pos) ps) X.env) Q X.xe s := by
  obtain ⟨nm, q, N, bs, bm, sn, sub, ab, col, dd, k0, k1, k2, k3, k5, hC, hbm⟩ := T.oex.cls
  refine ks_wpAt_Expr_any (ks_wpAt_MethodCall (pl := pl) ?_ hcall) hi hsw
  · obtain ⟨mb, b1, b2⟩ := I.mod.blt
    obtain ⟨m, hn, hl⟩ := I.loc
    obtain ⟨u, ru, l⟩ := hl 0 ar.arg (.ref a) hN hσ (.inl hv)
    obtain rfl : u = Value.ref a := ru
    have hm : m ar.arg = some (.ref a) := by
      rcases l with ⟨_, z⟩ | ⟨z, _⟩
      · exact z
      · rw [hv] at z; rcases z with z | z <;> cases z
    obtain ⟨oD, hD1, hD2⟩ : ∃ oD, s.heap.get? D = some oD ∧ oD.data = .cls cdD := by
      unfold clsIn at hD
      split at hD
      · rename_i c d cd' sl ho'
        cases hD
        exact ⟨_, I.kIn _ _ ho', rfl⟩
      · cases hD
    obtain ⟨t1, hx⟩ := exo_at I.hok ha
    have IA : InstAt s.heap a { cls := .ref C, dict := none, data := .fields #[.ref t1, .none, .none, .none, .bool false, .none] } C none := ⟨hx, rfl, rfl, trivial⟩
    obtain ⟨cdC, hcl⟩ : ∃ cdC, clsIn X.K C = some cdC := by
      have z := T.sup
      unfold ks_superIn at z
      cases q : clsIn X.K C with
      | none => rw [q] at z; cases z
      | some c => exact ⟨c, rfl⟩
    have hxC : a ≠ C := ks_ne I.kIn IA hcl
    refine ks_wpAt_super_base gs hkc (by decide) hfu (I.kIn _ _ lf) rfl hp hco (I.kIn _ _ la) rfl hvs hfile htop ?_
    refine ks_loadName_global I.ok.kind gs (Calls.loadGlobal_builtin (by rw [I.ok.glob]; exact I.mod.glob.keeps I.bk) ms (by rw [I.ok.blt]; exact b1.keeps I.bk) ((b2 _ (by decide +kernel)).trans (by first | rfl | kernel_rfl)) ⟨rfl, ?_⟩)
    refine wpAny_loadName_free I.ok.kind hkc hcell ⟨_, I.kIn _ _ lcc, rfl⟩ ?_
    refine wpAny_loadName_local I.ok.kind hv hn hm ?_
    refine ks_wpAny_isType_cls hD1 hD2 ⟨rfl, ?_⟩
    obtain ⟨hh, g, d, t, os⟩ := s
    refine ks_wpAny_call_super hD1 hD2 hx rfl (fun c => by simp) (looks_mroIn I.kIn T.mro) (fun h2 e2 k2 => ?_)
    have I2 : Inv X ((hh.objs.size, ks_superObj D a C) :: pins) σ H { (⟨hh, g, d, t, os⟩ : Shared) with heap := h2, toks := t } := ClX.pin_new I k2 (Nat.le_refl _) e2 (fun v => by simp)
    refine kxs_getMethod kxs_ValueError e2 (looks_opaque I2.kIn ho) (l₀ := cdC.mro) (fun A Q E s k q => wpAny_bind ((looks_clsIn I2.kIn hcl) A _ E s k (wpAny_pure q))) rfl I2.kIn ?_ ?_ hxC (by decide) ?_
    · have z := T.sup
      unfold ks_superIn at z
      rw [hcl] at z
      exact z
    · have IA2 : InstAt h2 a { cls := .ref C, dict := none, data := .fields #[.ref t1, .none, .none, .none, .bool false, .none] } C none := ⟨k2 _ _ hx, rfl, rfl, trivial⟩
      exact IA2.type.andThen (looks_subIn I2.kIn T.ve)
    · have I3 : Inv X ((h2.objs.size, kxs_mw "ValueError.__init__" a) :: (hh.objs.size, ks_superObj D a C) :: pins) σ H { (⟨h2, g, d, t, os⟩ : Shared) with heap := h2.push (kxs_mw "ValueError.__init__" a), toks := t + 1 } :=
        ClX.pin_new I2 (fun b o z => Heap.get?_push_of_some _ z) (Nat.le_refl _) (Heap.get?_push_size _ rfl) (fun v => by simp)
      have hst' : starEach [e] X.env = (false, eval e X.env) :: starEach [] X.env := by rw [hst]; rfl
      dsimp only
      rw [hst']
      refine kxs_callWith (i := "ValueError.__init__") (x := a) rfl (Calls.evalArgs_plain ?_)
      show wpAny _ _ (spliced (backTo pos ((false, eval e X.env) :: starEach [] X.env))) _ _ _
      rw [← hst']
      refine thn ((pa_cons he pa_nil hst').run pos _ _ σ H (fun vs H1 => vs = [v] ∧ H1 = H) I3 ⟨rfl, rfl⟩) fun us s4 ⟨vs4, H4, I4, r4, ev, eH⟩ => ?_
      subst ev
      subst eH
      refine ⟨(I4.pin _ (List.mem_append_right _ List.mem_cons_self)).1, ?_⟩
      obtain ⟨t4, ho4⟩ := exo_at I4.hok ha
      have hu4 := (I4.pin _ (List.mem_append_right _ List.mem_cons_self)).1
      have hlen : us.length ≤ sizeLine := by
        rw [← Paired.length r4, sizeLine_eq]
        exact (show 1 ≤ 16777216 by decide)
      obtain ⟨hp4, g4, d4, tk4, os4⟩ := s4
      refine call_mw (I4.kIn _ _ hC) ho4 hu4 hlen fun h' t5 k hx' => ?_
      have J := I4.write (t' := tk4) (x := a) (e := a) (o := exo a C none) (by rw [ha]; exact True.intro) (.inl rfl) k ⟨_, hx'⟩ (exo_ok hx')
      have eu : upd H4 a (exo a C none) = H4 := by
        funext b
        by_cases hb : b = a
        · rw [hb, upd_same, ha]
        · rw [upd_ne hb]
      rw [eu] at J
      exact h _ (ClX.unpin (ClX.unpin J))
structure FunS (P : Program) (K : PySem.W.Frag) (qual : Str) (params : Arguments) (body : List Stmt) (scope : Scope) (D f : Addr) (fd : FuncData) : Prop where
  ex : ∃ (oc : Value) (od : Option Addr) (kV doc pm : Value) (an : Option Addr) (cda : Addr) (ct : Value) (osl : Array (Option Value)) (cc : Addr) (cl : Value) (cld : Option Addr) (csl : Array (Option Value)) (ccl : Value) (cdd : Option Addr) (vs : Array Value) (ccs : Array (Option Value)) (file : Str) (tf : Tok),
    fd = ksFn "__init__" qual params body scope .none kV doc pm an (.ref cda) ct cc ∧ K.lookup f = some ⟨oc, od, .func fd, osl⟩ ∧ codeIn K (.ref cda) qual = true ∧ K.lookup cc = some ⟨cl, cld, .cell (some (.ref D)), csl⟩ ∧
    K.lookup cda = some ⟨ccl, cdd, .fields vs, ccs⟩ ∧ vs[2]? = some (.str file tf) ∧ ((P.main.file : Str) == file) = true
  kp : keepIn K (.ref f) = true
  cls : ∃ cd, clsIn K D = some cd
  st : nsIn K cStatics "thirdparty.any" = some none
theorem fn_super {P : Program} {w : World} {K : PySem.W.Frag} {mg : Str → Option Value} {base : Heap} {CX : CXT} {k : Nat} {qual : Str} {params : Arguments} {rest : List Stmt} {scope : Scope} {D f : Addr} {fd : FuncData} {p0 p1 ap pos pst : Pos} {e : Expr} {v : V} {ps : List Str} {ar : Arg} {t : TS}
    (F : FunS P K qual params (.Expr (.Call (.Attribute (.Call (.Name "super" p0) [] [] p1) "__init__" ap) [e] [] pos) pst :: rest) scope D f fd) (S : SScope ps scope) (hp : (params.posonlyargs ++ params.args).head? = some ar) (hN : ps[0]? = some ar.arg)
    (gs : scope.names.lookup ("super" : Str) = some .globalImplicit) (hkc : scope.names.lookup ("__class__" : Str) = some .free) (ms : mg "super" = none) (htop : (P.main.scope.names.lookup ("super" : Str)).isSome = false)
    (he : ∀ (cda cc : Addr) (A : Around) (outer : List Env) (s : Shared) (H : Hp) (E : XK), PE (cxS CX P w K mg base ps qual scope f (.ref cda) cc A outer s H E) e (tC v))
    (hrest : ∀ (cda cc : Addr) (A : Around) (outer : List Env) (s : Shared) (H : Hp) (E : XK), PSs (cxS CX P w K mg base ps qual scope f (.ref cda) cc A outer s H E) rest t) {pl : Sem Bool}
    (hrow : ∀ (cda cc L : Addr), interactive (ksEnv qual scope L f (.ref cda) cc) = false ∧ swapsWith (.Call (.Attribute (.Call (.Name "super" p0) [] [] p1) "__init__" ap) [e] [] pos) none pst.line (ksEnv qual scope L f (.ref cda) cc) = pure false ∧ starEach [e] (ksEnv qual scope L f (.ref cda) cc) = [(false, eval e (ksEnv qual scope L f (.ref cda) cc))] ∧
      eval (.Call (.Attribute (.Call (.Name "super" p0) [] [] p1) "__init__" ap) [e] [] pos) (ksEnv qual scope L f (.ref cda) cc) = (do
        let ov ← attributeBase (.Call (.Name "super" p0) [] [] p1) "__init__" (ksEnv qual scope L f (.ref cda) cc) (eval (.Call (.Name "super" p0) [] [] p1) (ksEnv qual scope L f (.ref cda) cc))
        standAt ap.atName
        let (f', first) ← holding [ov] (getMethod ov "__init__" pl)
        callWith pos f' first (backTo pos (starEach [e] (ksEnv qual scope L f (.ref cda) cc))) [])) :
    FnOk P w K mg base CX (k + 1) f fd ps (fun vs H Q _ => vs.length = ps.length ∧ ∃ (C a : Addr), vs[0]? = some (.ref a) ∧ SupC K C D ∧ H a = some (exo a C none) ∧ t { nx := fun _ H' => Q .non H', rt := Q } (vs.map some) H) := by
  refine ⟨fun vs H Q E z => z.1, fun A outer s H args us vs Q E hr e0 hb r ⟨hl, C, a, h0, T, ha, hq⟩ => ?_⟩
  obtain ⟨oc, od, kV, doc, pm, an, cda, ct, osl, cc, cl, cld, csl, ccl, cdd, cvs, ccs, file, tf, rfl, lf, hcd, lcc, la, hvs, hfile⟩ := F.ex
  obtain ⟨cdD, hD⟩ := F.cls
  have KX : K.In s.heap := e0.mod.kin.keeps fun b o e => (e0.bs b o e).1
  have lim : s.heap.NoLimit := e0.mod.nolimit.keeps fun b o e => (e0.bs b o e).1
  refine ks_codeAny_call_defAt hr.depth (KX _ _ lf) rfl lim (codeRec_of KX hcd) rfl hb S.nocell (fun y hy => S.loc y.1 (List.of_mem_zip hy).1) (fun h₀ ns hk => ?_) S.co S.gen S.kind
  have I : Inv (cxS CX P w K mg base ps qual scope f (.ref cda) cc A outer s H E) [] (vs.map some) H { s with heap := h₀, toks := s.toks + (ps.zip us).length } := inv_startS S hr.hd e0 hl r lcc ns hk
  have hv : scope.names.lookup ar.arg = some .local := S.loc _ (List.mem_of_getElem? hN)
  obtain ⟨r1, r2, r3, r4⟩ := hrow cda cc s.heap.objs.size
  refine ks_wpAt_execs_cons ?_
  refine super_stmt (X := cxS CX P w K mg base ps qual scope f (.ref cda) cc A outer s H E) I gs ms hkc rfl rfl (by show ([(("__class__" : Str), cc)] : List (Str × Addr)).lookup ("__class__" : Str) = some cc; simp) lf hp la hvs hfile htop lcc hD T F.st hN hv (by rw [List.getElem?_map, h0]; rfl) ha (he _ _ _ _ _ _ _) (fun s1 I1 => ?_) r1 r2 r3 r4
  refine wpAt_of_wpAny (wpAny_mono ((hrest cda cc A outer s H E).run [] s1 (vs.map some) H _ I1 hq) (fun fl s' hs => ?_) fun e s' hs => hs)
  have fin : ∀ {σ' : L2.St} {H' : Hp} {v : V} {u : Value}, Inv (cxS CX P w K mg base ps qual scope f (.ref cda) cc A outer s H E) [] σ' H' s' → RelV v u → Q v H' → CE outer P w H s Q u s' :=
    fun {σ' H' v u} J rv q => ⟨v, H', J.os, J.bare, J.base, J.hok, rv, q⟩
  cases fl with
  | ret u =>
    obtain ⟨v, σ', H', J, rv, q⟩ := hs
    exact fin J rv q
  | next =>
    obtain ⟨σ', H', J, q⟩ := hs
    exact fin (v := V.non) (u := Value.none) J rfl q
  | brk =>
    obtain ⟨_, _, _, q⟩ := hs
    exact False.elim q
  | cont =>
    obtain ⟨_, _, _, q⟩ := hs
    exact False.elim q
end DX
namespace DL
open PySem PySem.Spec PyProof.Rows L2
def spX (Ca : Addr) (fs : List Str) : Sp := fun vs H Q _ => ∃ (a : Addr) (ws : List V), vs = .ref a :: ws ∧ ws.length = fs.length ∧ H a = some (exo a Ca none) ∧
  ∀ dx, H dx = none → dx ≠ a → Q .non (upd (upd H dx (exd dx (fs.zip ws).reverse)) a (exo a Ca (some dx)))
def ExG (P : Program) (w : World) (K : KC) (mg : Str → Option Value) (base : Heap) (k : Nat) (x : Str) (fs : List Str) : Prop :=
  ∃ (Ca fI : Addr) (fd : FuncData) (ps : List Str), mg x = some (.ref Ca) ∧ K.C.cls x = some Ca ∧ OexC K.K Ca ∧ PySem.W.findIn K.K (.ref Ca) "__init__" = some (some (.ref fI)) ∧ PySem.W.typeIn K.K (.ref fI) = some (.type "function") ∧
    FnOk P w K.K mg base (L2.CX P w) k fI fd ps (spX Ca fs) ∧ Binds K.K fd ps []
def mRaise (x : Str) (fs : List Str) (m : Env → Rz (List EV)) : Env → Out := fun env => match m env with
  | .ok evs => (match allFz evs with
    | some ds => if ds.length = fs.length then .exc ⟨x, (fs.zip ds).reverse⟩ env else .stuck
    | none => .stuck)
  | .exc e => .exc e env
  | .stuck => .stuck
theorem RepF.append {K : KC} {G : Hp} : ∀ {vs us : List (Str × V)} {ds es : List (Str × D)}, RepF K G vs ds → RepF K G us es → RepF K G (vs ++ us) (ds ++ es)
  | _, _, _, _, .nil, s => s
  | _, _, _, _, .cons a b, s => .cons a (b.append s)
theorem RepF.zipR {K : KC} {G : Hp} : ∀ {fs : List Str} {vs : List V} {ds : List D}, Reps K G vs ds → RepF K G (fs.zip vs).reverse (fs.zip ds).reverse
  | [], _, _, _ => .nil
  | _ :: _, _, _, .nil => .nil
  | f :: fs, _, _, .cons a b => by
    rw [List.zip_cons_cons, List.zip_cons_cons, List.reverse_cons, List.reverse_cons]
    exact (RepF.zipR b).append (.cons a .nil)
section
variable {X : Cx} {C : CT} {W : WX}
theorem ds_raise {k : Nat} {x : Str} {fs : List Str} {p pos pos2 : Pos} {e : Expr} {es : List Expr} {m : Env → Rz (List EV)} (EG : ExG X.prog X.w (kc X C) X.mg X.base k x fs) (hr : Room (k + 1) X.A) (tk : Takes X W) (ha : DA X C W (e :: es) m)
    (hc : X.calm = true := by rfl) (hfs : fs.length ≤ 1000 := by decide) (hg : Gl X x := by rfl) (hdb : (x == ("__debug__" : Str)) = false := by decide) (he : starEach (e :: es) X.env = (false, eval e X.env) :: starEach es X.env := by rfl) (hpl : (backTo pos (starEach es X.env)).any (·.1) = false := by rfl) :
    DS X C W (.Raise (some (.Call (.Name x p) (e :: es) [] pos)) none pos2) (mRaise x fs m) := by
  obtain ⟨Ca, fI, fd, ps, hm, hC, T, iC, tI, FO, hb⟩ := EG
  refine ⟨PS.imp (ps_raise hc tk (pmk_oex (CX := L2.CX X.prog X.w) T iC tI FO hr hb .nil (passes_call tk fun _ _ _ _ z => z.elim) hg hm ha.pa hdb he hpl)) fun D σ H ⟨Z, G, env, er, q⟩ => ?_⟩
  unfold mRaise at q
  refine ⟨Z, G, env, er, ?_⟩
  cases hq : m env with
  | stuck => rw [hq] at q; exact q.elim
  | exc e =>
    rw [hq] at q
    exact fun cls d G' H' xx k => q σ H' G' cls d xx.g (er.ext xx) k
  | ok evs =>
    rw [hq] at q
    dsimp only at q
    intro vs G1 H1 x1 va
    cases hz : allFz evs with
    | none => rw [hz] at q; exact q.elim
    | some ds =>
      rw [hz] at q
      dsimp only at q
      by_cases hl : ds.length = fs.length
      · rw [if_pos hl] at q
        have rr := allFz_ok hz va
        have lv : vs.length = fs.length := rr.length.trans hl
        refine ⟨by omega, fun a ha => ⟨a, vs, by rw [List.append_nil], lv, upd_same, fun dx hdx hne => ⟨rfl, dx, (fs.zip vs).reverse, upd_same, ?_, ?_, ?_⟩⟩⟩
        · rw [upd_ne hne, upd_same]
        · rw [upd_ne hne] at hdx; exact hdx
        · have hd1 : H1 dx = none := by rw [upd_ne hne] at hdx; exact hdx
          have eH : upd (del (upd (upd (upd H1 a (exo a Ca none)) dx (exd dx (fs.zip vs).reverse)) a (exo a Ca (some dx))) a) dx (.xd (fs.zip vs).reverse) = upd H1 dx (.xd (fs.zip vs).reverse) := by
            funext b
            by_cases hb1 : b = dx
            · rw [hb1, upd_same, upd_same]
            · rw [upd_ne hb1, upd_ne hb1]
              by_cases hb2 : b = a
              · rw [hb2, del_same, ha]
              · rw [del_ne hb2, upd_ne hb2, upd_ne hb1, upd_ne hb2]
          rw [eH]
          have xe := x1.trans (Ext.lay2 (o := .xd (fs.zip vs).reverse) x1.s hd1)
          refine q σ _ _ (.ref Ca) (some dx) xe.g (er.ext xe) ⟨Ca, hC, rfl, .inr ⟨dx, _, rfl, upd_same, ?_⟩⟩
          exact (RepF.zipR rr).mono (.upd (x1.s.none hd1))
      · rw [if_neg hl] at q; exact q.elim
end
section
variable {K K' : KC}
mutual
theorem Rep.cx (h1 : K.K = K'.K) (h2 : K.C.cls = K'.C.cls) {G : Hp} : ∀ {v : V} {d : D}, Rep K G v d → Rep K' G v d
  | _, _, .non => .non
  | _, _, .bl b => .bl b
  | _, _, .int i => .int i
  | _, _, .str x => .str x
  | _, _, .ty n => .ty n
  | _, _, .cls e => .cls (h2 ▸ e)
  | _, _, .tup s r => .tup (h1 ▸ s) (Reps.cx h1 h2 r)
  | _, _, .lst s r => .lst s (Reps.cx h1 h2 r)
  | _, _, .scr s => .scr (h1 ▸ s)
  | _, _, .dk s r => .dk s (RepK.cx h1 h2 r)
  | _, _, .dt s r => .dt s (RepT.cx h1 h2 r)
  | _, _, .ins c s r => .ins (h2 ▸ c) s (RepF.cx h1 h2 r)
theorem Reps.cx (h1 : K.K = K'.K) (h2 : K.C.cls = K'.C.cls) {G : Hp} : ∀ {v : List V} {d : List D}, Reps K G v d → Reps K' G v d
  | _, _, .nil => .nil
  | _, _, .cons a b => .cons (Rep.cx h1 h2 a) (Reps.cx h1 h2 b)
theorem RepF.cx (h1 : K.K = K'.K) (h2 : K.C.cls = K'.C.cls) {G : Hp} : ∀ {v : List (Str × V)} {d : List (Str × D)}, RepF K G v d → RepF K' G v d
  | _, _, .nil => .nil
  | _, _, .cons a b => .cons (Rep.cx h1 h2 a) (RepF.cx h1 h2 b)
theorem RepK.cx (h1 : K.K = K'.K) (h2 : K.C.cls = K'.C.cls) {G : Hp} : ∀ {v : List (Key × V)} {d : List (D × D)}, RepK K G v d → RepK K' G v d
  | _, _, .nil => .nil
  | _, _, .cons a b => .cons (Rep.cx h1 h2 a) (RepK.cx h1 h2 b)
theorem RepT.cx (h1 : K.K = K'.K) (h2 : K.C.cls = K'.C.cls) {G : Hp} : ∀ {v : List (List Key × V)} {d : List (D × D)}, RepT K G v d → RepT K' G v d
  | _, _, .nil => .nil
  | _, _, .cons a b => .cons (Rep.cx h1 h2 a) (RepT.cx h1 h2 b)
end
theorem WOk.cx (h1 : K.K = K'.K) (h2 : K.C.cls = K'.C.cls) (h3 : ∀ p, K.C.slf = Option.some p → K'.C.slf = Option.some p) {G H : Hp} {p : Addr} {w : OW} (x : WOk K G H p w) : WOk K' G H p w := by
  cases w with
  | lst ds => obtain ⟨vs, e, r⟩ := x; exact ⟨vs, e, r.cx h1 h2⟩
  | dct ds =>
    rcases x with ⟨vs, e, r⟩ | ⟨vs, e, r⟩
    · exact .inl ⟨vs, e, r.cx h1 h2⟩
    · exact .inr ⟨vs, e, r.cx h1 h2⟩
  | ins c ds => obtain ⟨Ca, dx, vs, q, e, r⟩ := x; exact ⟨Ca, dx, vs, h2 ▸ q, e, r.cx h1 h2⟩
  | self c ds => obtain ⟨z, Ca, dx, vs, q, e, r⟩ := x; exact ⟨h3 _ z, Ca, dx, vs, h2 ▸ q, e, r.cx h1 h2⟩
theorem EVok.cx (h1 : K.K = K'.K) (h2 : K.C.cls = K'.C.cls) (h3 : ∀ p, K.C.slf = some p → K'.C.slf = some p) {Z : Ent} {Hs G H : Hp} {v : V} {ev : EV} (x : EVok K Z Hs G H v ev) : EVok K' Z Hs G H v ev := by
  cases ev with
  | fz d => exact Rep.cx h1 h2 x
  | ow n w => obtain ⟨p, e, a, b⟩ := x; exact ⟨p, e, a.cx h1 h2 h3, b⟩
theorem ExcOk.cx (h1 : K.K = K'.K) (h2 : K.C.cls = K'.C.cls) {G H : Hp} {cls : Value} {d : Option Addr} {e : Exn} (x : ExcOk K G H cls d e) : ExcOk K' G H cls d e := by
  obtain ⟨a, q1, q2, q3⟩ := x
  refine ⟨a, h2 ▸ q1, q2, ?_⟩
  rcases q3 with q3 | ⟨dd, fs, q4, q5, q6⟩
  · exact .inl q3
  · exact .inr ⟨dd, fs, q4, q5, q6.cx h1 h2⟩
theorem ER.cx (h1 : K.K = K'.K) (h2 : K.C.cls = K'.C.cls) (h3 : ∀ p, K.C.slf = some p → K'.C.slf = some p) (hn : K.C.ex = none) {Z : Ent} {G H : Hp} {σ : L2.St} {env : Env} (er : ER K Z G H σ env) : ER K' Z G H σ env :=
  ⟨er.len, er.zg, er.zh, er.zzz, er.sub, er.new, (fun i x e => by
    obtain ⟨v, q1, q2⟩ := er.at' i x e
    refine ⟨v, q1, ?_⟩
    cases x with
    | no => trivial
    | val d => obtain ⟨u, q3, q4⟩ := q2; exact ⟨u, q3, q4.cx h1 h2⟩
    | own w => obtain ⟨u, q3, q4⟩ := q2; exact ⟨u, q3, q4.cx h1 h2 h3⟩
    | exn e => obtain ⟨a, Ca, d, q3, _⟩ := q2; rw [hn] at q3; cases q3), er.own, er.dis⟩
def unX : SL → SL
  | .exn _ => .no
  | x => x
theorem unX_own {x : SL} {v : Option V} {p : Addr} (h : (unX x).owns v p) : x.owns v p := by
  cases x with
  | exn e => obtain ⟨⟨w, z⟩, _⟩ := h; cases z
  | _ => exact h
theorem getMap {env : Env} {i : Nat} {x : SL} (e : (env.map unX)[i]? = some x) : ∃ y, env[i]? = some y ∧ x = unX y := by
  rw [List.getElem?_map] at e
  cases q : env[i]? with
  | none => rw [q] at e; cases e
  | some y => rw [q] at e; cases e; exact ⟨y, rfl, rfl⟩
theorem ER.unX (h1 : K.K = K'.K) (h2 : K.C.cls = K'.C.cls) (h3 : ∀ p, K.C.slf = some p → K'.C.slf = some p) {Z : Ent} {G H : Hp} {σ : L2.St} {env : Env} (er : ER K Z G H σ env) : ER K' Z G H σ (env.map DL.unX) :=
  ⟨by rw [List.length_map]; exact er.len, er.zg, er.zh, er.zzz, er.sub, er.new, fun i x e => by
    obtain ⟨y, e', rfl⟩ := getMap e
    obtain ⟨v, q1, q2⟩ := er.at' i y e'
    refine ⟨v, q1, ?_⟩
    cases y with
    | no => trivial
    | val d => obtain ⟨u, q3, q4⟩ := q2; exact ⟨u, q3, q4.cx h1 h2⟩
    | own w => obtain ⟨u, q3, q4⟩ := q2; exact ⟨u, q3, q4.cx h1 h2 h3⟩
    | exn e => trivial, fun i x v p e1 e2 o => by
    obtain ⟨y, e', rfl⟩ := getMap e1
    exact er.own i y v p e' e2 (unX_own o), fun i j x y v u p e1 e2 o1 e3 e4 o2 => by
    obtain ⟨x', e1', rfl⟩ := getMap e1
    obtain ⟨y', e3', rfl⟩ := getMap e3
    exact er.dis i j x' y' v u p e1' e2 (unX_own o1) e3' e4 (unX_own o2)⟩
theorem ER.setX {Z : Ent} {G H : Hp} {σ : L2.St} {env : Env} (er : ER K Z G H σ env) {i : Nat} {v : V} {e : Exn} (ok : SlotOk K G H (some v) (.exn e)) : ER K Z G H (σ.set i (some v)) (env.set i (.exn e)) := by
  have e0 : ER K Z G H (σ.set i (some v)) (env.set i .no) := er.setN
  have nb : ∀ {j : Nat} {x : SL} {v : Option V} {p : Addr}, (env.set i (.exn e))[j]? = some x → x.owns v p → (env.set i .no)[j]? = some x := fun {j x v p} e1 o => by
    by_cases hj : i = j
    · subst hj
      have hl : i < env.length := by
        have := (List.getElem?_eq_some_iff.mp e1).1
        simpa using this
      rw [List.getElem?_set_self hl] at e1
      cases e1
      obtain ⟨⟨w, z⟩, _⟩ := o
      cases z
    · rw [List.getElem?_set_ne hj] at e1 ⊢
      exact e1
  refine ⟨by simpa using er.len, er.zg, er.zh, er.zzz, er.sub, er.new, fun j x e1 => ?_, fun j x u p e1 e2 o => e0.own j x u p (nb e1 o) e2 o, fun j k x y u w p e1 e2 o1 e3 e4 o2 => e0.dis j k x y u w p (nb e1 o1) e2 o1 (nb e3 o2) e4 o2⟩
  by_cases hj : i = j
  · subst hj
    have hl : i < env.length := by
      have := (List.getElem?_eq_some_iff.mp e1).1
      simpa using this
    rw [List.getElem?_set_self hl] at e1
    cases e1
    exact ⟨_, List.getElem?_set_self (er.upTo hl), ok⟩
  · rw [List.getElem?_set_ne hj] at e1 ⊢
    exact er.at' j x e1
end
def fin (i : Nat) : Out → Out
  | .nx env => .nx ((env.map unX).set i .no)
  | .bk env => .bk ((env.map unX).set i .no)
  | .ct env => .ct ((env.map unX).set i .no)
  | .ret ev => .ret ev
  | _ => .stuck
def mTry (i : Nat) (S : Str → Option Bool) (mb ms : Env → Out) : Env → Out := fun env => match mb env with
  | .exc e env1 => (match S e.cls with
    | some true => fin i (ms (env1.set i (.exn e)))
    | some false => .exc e env1
    | none => .stuck)
  | o => o
abbrev W0x : WX := fun _ _ _ _ => False
section
variable {X : Cx} {C : CT} {W : WX}
theorem ds_try {i : Nat} {x n : Str} {c : Value} {S : Str → Option Bool} {b₀ : Stmt} {body suite : List Stmt} {np pos' pos : Pos} {mb ms : Env → Out} (hC : C.ex = none) (hs : X.stack = X.env :: X.outer) (hf : X.env.frame = some X.env.locals) (hN : X.N.Nodup) (hi : X.N[i]? = some n) (hln : X.env.kindOf n = some .local)
    (hc : Names X x c) (hS : ∀ (y : Str) (a : Addr) (b : Bool), S y = some b → C.cls y = some a → PySem.W.exmOne X.K (.ref a) c = some b) (tk : Takes X W)
    (hb : ∀ (W : WX) (pn : List (Addr × Obj)) (xe : Value → Shared → Prop), Takes (X.tr pn xe) W → PassesOwn (model X.prog X.w) X.A X.env xe → DSs (X.tr pn xe) C W body mb)
    (hsu : ∀ (a : Addr) (oe : Obj) (Ca : Addr) (d : Option Addr) (pn : List (Addr × Obj)), Zc (.ref Ca) d oe → (∃ vs, oe.data = .fields vs) → DSs (X.suite a ((a, oe) :: pn)) ⟨C.cls, some (a, Ca, d), C.slf⟩ W0x (b₀ :: suite) ms) :
    DS X C W (.Try body [.ExceptHandler (some (.Name x np)) (some n) (b₀ :: suite) pos'] [] [] pos) (mTry i S mb ms) := by
  refine ⟨PS.imp (ps_try_as (tb := fun W => tS (kc X C) W mb) (ts := fun a cls d => fun D σ H => ∃ Ca, cls = .ref Ca ∧ tS ⟨X.K, ⟨C.cls, some (a, Ca, d), C.slf⟩⟩ W0x ms D σ H) hs hf hN hi hln hc tk (fun W pn xe h1 h2 => (hb W pn xe h1 h2).pss) (fun a oe cls d pn hz hv => ⟨fun pins s σ H D I ⟨Ca, e, h⟩ => ?_⟩)) fun D σ H ⟨Z, G, env, er, q⟩ => ⟨Z, G, env, er, ?_⟩⟩
  · subst e
    exact (hsu a oe Ca d pn hz hv).pss.run pins s σ H D I h
  · unfold mTry at q
    cases hm : mb env with
    | nx e => rw [hm] at q; exact q
    | bk e => rw [hm] at q; exact q
    | ct e => rw [hm] at q; exact q
    | ret e => rw [hm] at q; exact q
    | stuck => rw [hm] at q; exact q.elim
    | exc e env1 =>
      rw [hm] at q
      dsimp only at q
      intro σ1 H1 G1 cls d sg er1 ko
      obtain ⟨Ca, k1, rfl, k3⟩ := id ko
      cases hSe : S e.cls with
      | none => rw [hSe] at q; exact q.elim
      | some b =>
        rw [hSe] at q
        refine ⟨b, hS _ _ _ hSe k1, fun hb1 a ha => ?_, fun hb0 => ?_⟩
        · subst hb1
          dsimp only at q
          have er2 : ER ⟨X.K, ⟨C.cls, some (a, Ca, d), C.slf⟩⟩ Z G1 H1 σ1 env1 := ER.cx (K := kc X C) (K' := ⟨X.K, ⟨C.cls, some (a, Ca, d), C.slf⟩⟩) rfl rfl (fun _ z => z) hC er1
          have ko2 : ExcOk ⟨X.K, ⟨C.cls, some (a, Ca, d), C.slf⟩⟩ G1 G1 (.ref Ca) d e := ExcOk.cx (K := kc X C) (K' := ⟨X.K, ⟨C.cls, some (a, Ca, d), C.slf⟩⟩) rfl rfl (ko.mono .refl)
          refine ⟨Ca, rfl, Z, G1, _, er2.setX ⟨a, Ca, d, rfl, rfl, ko2⟩, ?_⟩
          cases hq : ms (env1.set i (.exn e)) with
          | nx e3 =>
            rw [hq] at q
            exact fun σ3 H3 G3 s3 er3 => q _ _ _ (sg.trans s3) ((ER.unX (K := ⟨X.K, ⟨C.cls, some (a, Ca, d), C.slf⟩⟩) (K' := kc X C) rfl rfl (fun _ z => z) er3).setN)
          | bk e3 =>
            rw [hq] at q
            exact fun σ3 H3 G3 s3 er3 => q _ _ _ (sg.trans s3) ((ER.unX (K := ⟨X.K, ⟨C.cls, some (a, Ca, d), C.slf⟩⟩) (K' := kc X C) rfl rfl (fun _ z => z) er3).setN)
          | ct e3 =>
            rw [hq] at q
            exact fun σ3 H3 G3 s3 er3 => q _ _ _ (sg.trans s3) ((ER.unX (K := ⟨X.K, ⟨C.cls, some (a, Ca, d), C.slf⟩⟩) (K' := kc X C) rfl rfl (fun _ z => z) er3).setN)
          | ret ev =>
            rw [hq] at q
            exact fun σ3 env3 v H3 G3 Hs s3 er3 hz va => q _ _ v _ _ Hs (sg.trans s3) (ER.unX (K := ⟨X.K, ⟨C.cls, some (a, Ca, d), C.slf⟩⟩) (K' := kc X C) rfl rfl (fun _ z => z) er3) hz (EVok.cx (K := ⟨X.K, ⟨C.cls, some (a, Ca, d), C.slf⟩⟩) (K' := kc X C) rfl rfl (fun _ z => z) va)
          | exc e' env' => rw [hq] at q; exact q.elim
          | stuck => rw [hq] at q; exact q.elim
        · subst hb0
          dsimp only at q
          exact q σ1 H1 G1 _ d sg er1 ko
end
end DL
namespace DL
open PySem PySem.Spec PyProof.Rows L2
section
variable {X : Cx} {cl : Str → Option Addr} {sl : Option Addr} {W : WX} {a Ca : Addr} {oe : Obj} {d : Option Addr} {pn : List (Addr × Obj)}
def exAt (env : Env) (i : Nat) : Rz Exn := match env.getD i .no with
  | .exn e => .ok e
  | _ => .stuck
def mXf (i : Nat) (f : Str) : Env → Rz EV := fun env => exAt env i >>= fun e => orStuck (e.fs.lookup f) >>= fun x => .ok (.fz x)
def mIsE (i : Nat) (S : Str → Option Bool) : Env → Rz EV := fun env => exAt env i >>= fun e => orStuck (S e.cls) >>= fun b => .ok (.fz (.bl b))
theorem exAt_ok {env : Env} {i : Nat} {e : Exn} (h : exAt env i = .ok e) : env[i]? = some (.exn e) := by
  unfold exAt at h
  cases q : env.getD i .no with
  | exn e' => rw [q] at h; cases h; exact getD_some q (by simp)
  | no => rw [q] at h; cases h
  | val d => rw [q] at h; cases h
  | own w => rw [q] at h; cases h
theorem exAt_exc {env : Env} {i : Nat} {e : Exn} : exAt env i ≠ .exc e := by
  unfold exAt
  split <;> simp
theorem de_xf {i : Nat} {x n : Str} {p pos : Pos} (T : XfC X.K Ca) (hno : PySem.W.findIn X.K (.ref Ca) n = some none) (hz : Zc (.ref Ca) d oe) (hf : ∃ vs, oe.data = .fields vs)
    (hN : X.N[i]? = some x := by rfl) (hv : Vis X.env.scope x := by first | exact Or.inl rfl | exact Or.inr (Or.inl rfl) | exact Or.inr (Or.inr rfl)) (hd : (x == ("__debug__" : Str)) = false := by decide) (hcd : (x == ("__classdict__" : Str)) = false := by decide)
    (hb : attributeBase (.Name x p) n X.env (eval (.Name x p) X.env) = eval (.Name x p) X.env := by rfl) : DE (X.suite a ((a, oe) :: pn)) ⟨cl, some (a, Ca, d), sl⟩ W (.Attribute (.Name x p) n pos) (mXf i n) :=
  ⟨PE.imp (pe_xf (X := X) (pos := pos) T hno hz hf (pe_var (X := X.suite a ((a, oe) :: pn)) (i := i) hN hv hd hcd) hb) fun σ H Q ⟨Z, G, env, er, q⟩ => by
    unfold mXf at q
    cases he : exAt env i with
    | stuck => rw [he] at q; exact q.elim
    | exc e => exact absurd he exAt_exc
    | ok e =>
      rw [he] at q
      simp only [Rz.ok_bind] at q
      obtain ⟨v, h1, a', Ca', d', h2, rfl, h3⟩ := er.at' i _ (exAt_ok he)
      cases h2
      cases hl : e.fs.lookup n with
      | none => rw [hl] at q; exact q.elim
      | some y =>
        rw [hl] at q
        simp only [orStuck_some, Rz.ok_bind] at q
        obtain ⟨a2, k1, k2, k3⟩ := h3
        rcases k3 with ⟨k3, _⟩ | ⟨dd, fs, k4, k5, k6⟩
        · rw [k3] at hl; cases hl
        · obtain ⟨u, u1, u2⟩ := k6.look hl
          exact ⟨_, h1, rfl, rfl, dd, fs, u, k4, er.sub _ _ k5, u1, q u G H (.refl er.sub) u2⟩⟩
theorem call_isD (C : ExcC X.K Ca) (hz : Zc (.ref Ca) d oe) (hf : ∃ vs, oe.data = .fields vs) : CallR (X.suite a ((a, oe) :: pn)) (.builtin "isinstance") (fun xs H Q => ((d = none) ∨ ∃ dd fs, d = some dd ∧ H dd = some (.xd fs)) ∧ rIsE X.K Ca a xs H Q) := by
  intro pins s σ H xs us Q I r ⟨hd, c, cv, b, ex, hcv, e, q⟩
  subst ex
  obtain ⟨u1, u2, rfl, rx, rt⟩ : ∃ u1 u2, us = [u1, u2] ∧ RelV (.ref a) u1 ∧ RelV c u2 := by
    cases r with
    | cons rx rr => cases rr with
      | cons rt rr => cases rr; exact ⟨_, _, rfl, rx, rt⟩
  have e1 : u1 = Value.ref a := rx
  have e2 := hcv _ rt
  rw [e1, e2]
  have hget := (I.pin (a, oe) (List.mem_append.mpr (.inl List.mem_cons_self))).1
  obtain ⟨vs, hv⟩ := hf
  have J : ∃ od, PySem.W.InstAt s.heap a oe Ca od := by
    rcases hd with hd | ⟨dd, fs, hd, hx⟩
    · exact ⟨none, hget, hz.1, by unfold PySem.W.notCls; rw [hv] <;> rfl, by rw [hz.2, hd]; trivial⟩
    · obtain ⟨mA, ⟨od, es, ep, ho, _⟩, _⟩ := I.hok dd _ hx
      exact ⟨some od, hget, hz.1, by unfold PySem.W.notCls; rw [hv] <;> rfl, by rw [hz.2, hd]; exact ho⟩
  obtain ⟨od, J⟩ := J
  obtain ⟨cd, hcd, _⟩ := PySem.W.any_some C.hd
  exact PySem.W.kia_one (PySem.W.kitx_exc (by rw [hcd]; rfl) C.hg C.hk C.hs C.ha C.hn C.ht C.hm) I.kIn J e (fun z => nomatch z) fun tk => ⟨.bl b, H, I.kept (t' := tk) fun _ _ z => z, rfl, q⟩
theorem isE_go {i : Nat} {c : V} {cv : Value} {S : Str → Option Bool} {σ : L2.St} {H : Hp} {Q : VK} (hcv : ∀ u, RelV c u → u = cv) (hS : ∀ (y : Str) (b : Bool), S y = some b → cl y = some Ca → PySem.W.kitOne X.K (.ref Ca) cv = some b)
    (h : tE ⟨X.K, ⟨cl, some (a, Ca, d), sl⟩⟩ W (mIsE i S) σ H Q) : tCB (fun xs H Q => ((d = none) ∨ ∃ dd fs, d = some dd ∧ H dd = some (.xd fs)) ∧ rIsE X.K Ca a xs H Q) (tCons (tVar i) (tCons (tC c) tNil)) σ H Q := by
  obtain ⟨Z, G, env, er, q⟩ := h
  unfold mIsE at q
  cases he : exAt env i with
  | stuck => rw [he] at q; exact q.elim
  | exc e => exact absurd he exAt_exc
  | ok e =>
    rw [he] at q
    simp only [Rz.ok_bind] at q
    obtain ⟨v, h1, a', Ca', d', h2, rfl, h3⟩ := er.at' i _ (exAt_ok he)
    cases h2
    cases hl : S e.cls with
    | none => rw [hl] at q; exact q.elim
    | some b =>
      rw [hl] at q
      simp only [orStuck_some, Rz.ok_bind] at q
      obtain ⟨a2, k1, k2, k3⟩ := h3
      cases k2
      refine ⟨_, h1, ?_, c, cv, b, rfl, hcv, hS _ _ hl k1, q (.bl b) G H (.refl er.sub) (.bl b)⟩
      rcases k3 with ⟨_, k3⟩ | ⟨dd, fs, k4, k5, k6⟩
      · exact .inl k3
      · exact .inr ⟨dd, fs, k4, er.sub _ _ k5⟩
theorem de_isE {i : Nat} {x y : Str} {Cb : Addr} {S : Str → Option Bool} {p p1 p2 pos : Pos} (E : ExcC X.K Ca) (hz : Zc (.ref Ca) d oe) (hf : ∃ vs, oe.data = .fields vs) (hm : X.mg "isinstance" = none) (hy : X.mg y = some (.ref Cb)) (hS : ∀ (z : Str) (b : Bool), S z = some b → cl z = some Ca → PySem.W.kitOne X.K (.ref Ca) (.ref Cb) = some b)
    (hg : Gl X "isinstance" := by rfl) (hgy : Gl X y := by rfl) (hdy : (y == ("__debug__" : Str)) = false := by decide) (hN : X.N[i]? = some x := by rfl) (hv : Vis X.env.scope x := by first | exact Or.inl rfl | exact Or.inr (Or.inl rfl) | exact Or.inr (Or.inr rfl)) (hd : (x == ("__debug__" : Str)) = false := by decide) (hcd : (x == ("__classdict__" : Str)) = false := by decide) :
    DE (X.suite a ((a, oe) :: pn)) ⟨cl, some (a, Ca, d), sl⟩ W (.Call (.Name "isinstance" p) [.Name x p1, .Name y p2] [] pos) (mIsE i S) :=
  ⟨PE.imp (pe_callB (call_isD E hz hf) hg hm (by decide +kernel) (pa_cons (pe_var (X := X.suite a ((a, oe) :: pn)) (i := i) hN hv hd hcd) (pa_cons (pe_glob (X := X.suite a ((a, oe) :: pn)) hgy hy (v := .ref Cb) rfl hdy) pa_nil))) fun σ H Q h => isE_go (fun u r => r) hS h⟩
theorem de_isEb {i : Nat} {x y : Str} {T : String} {S : Str → Option Bool} {p p1 p2 pos : Pos} (E : ExcC X.K Ca) (hz : Zc (.ref Ca) d oe) (hf : ∃ vs, oe.data = .fields vs) (hm : X.mg "isinstance" = none) (hy : X.mg y = none) (hb : bootBuiltins y = some (.type T)) (hS : ∀ (z : Str) (b : Bool), S z = some b → cl z = some Ca → PySem.W.kitOne X.K (.ref Ca) (.type T) = some b)
    (hg : Gl X "isinstance" := by rfl) (hgy : Gl X y := by rfl) (hny : y ≠ "__name__" := by decide) (hdy : (y == ("__debug__" : Str)) = false := by decide) (hN : X.N[i]? = some x := by rfl) (hv : Vis X.env.scope x := by first | exact Or.inl rfl | exact Or.inr (Or.inl rfl) | exact Or.inr (Or.inr rfl)) (hd : (x == ("__debug__" : Str)) = false := by decide) (hcd : (x == ("__classdict__" : Str)) = false := by decide) :
    DE (X.suite a ((a, oe) :: pn)) ⟨cl, some (a, Ca, d), sl⟩ W (.Call (.Name "isinstance" p) [.Name x p1, .Name y p2] [] pos) (mIsE i S) :=
  ⟨PE.imp (pe_callB (call_isD E hz hf) hg hm (by decide +kernel) (pa_cons (pe_var (X := X.suite a ((a, oe) :: pn)) (i := i) hN hv hd hcd) (pa_cons (pe_bltn (X := X.suite a ((a, oe) :: pn)) hgy hy hb (v := .ty T) rfl hny hdy) pa_nil))) fun σ H Q h => isE_go (fun u r => r) hS h⟩
end
end DL
namespace DL
open PySem PySem.Spec PyProof.Rows L2
def spS (K : PySem.W.Frag) (D : Addr) (fs : List Str) : Sp := fun vs H Q E => ∃ C, DX.SupC K C D ∧ (∀ f ∈ fs, PySem.W.findIn K (.ref C) f = some none) ∧ spX C fs vs H Q E
abbrev spT (K : PySem.W.Frag) (D : Addr) (n : Nat) (t : TS) : Sp := fun vs H Q _ => vs.length = n ∧ ∃ (C a : Addr), vs[0]? = some (.ref a) ∧ DX.SupC K C D ∧ H a = some (exo a C none) ∧ t { nx := fun _ H' => Q .non H', rt := Q } (vs.map some) H
theorem spT_one {K : PySem.W.Frag} {D : Addr} {f : Str} (vs : List V) (H : Hp) (Q : VK) (E : XK) (h : spS K D [f] vs H Q E) : spT K D 2 (tOst K f (tVar 0) (tVar 1)) vs H Q E := by
  obtain ⟨C, S, hf, a, ws, rfl, hl, ha, q⟩ := h
  match ws, hl with
  | [y], _ => exact ⟨rfl, C, a, rfl, S, ha, y, rfl, _, rfl, a, C, rfl, S.oex, hf f (by simp), .inl ⟨ha, q⟩⟩
theorem spT_two {K : PySem.W.Frag} {D : Addr} {f g : Str} (hfg : f ≠ g) (vs : List V) (H : Hp) (Q : VK) (E : XK) (h : spS K D [f, g] vs H Q E) :
    spT K D 3 (tSeq (tOst K f (tVar 0) (tVar 1)) (tOst K g (tVar 0) (tVar 2))) vs H Q E := by
  obtain ⟨C, S, hf, a, ws, rfl, hl, ha, q⟩ := h
  match ws, hl with
  | [y, z], _ =>
    refine ⟨rfl, C, a, rfl, S, ha, y, rfl, _, rfl, a, C, rfl, S.oex, hf f (by simp), .inl ⟨ha, fun dx hdx hne => ⟨z, rfl, _, rfl, a, C, rfl, S.oex, hf g (by simp), .inr ⟨dx, [(f, y)], upd_same, by rw [upd_ne hne, upd_same], by simp, ?_⟩⟩⟩⟩
    have e : upd (upd (upd H dx (exd dx [(f, y)])) a (exo a C (some dx))) dx (exd dx [(g, z), (f, y)]) = upd (upd H dx (exd dx ([f, g].zip [y, z]).reverse)) a (exo a C (some dx)) := by
      funext b
      by_cases hb : b = dx
      · rw [hb, upd_same, upd_ne hne, upd_same]
        rfl
      · rw [upd_ne hb]
        by_cases hb2 : b = a
        · rw [hb2, upd_same, upd_same]
        · rw [upd_ne hb2, upd_ne hb2, upd_ne hb, upd_ne hb]
    show Q .non (upd (upd (upd H dx (exd dx [(f, y)])) a (exo a C (some dx))) dx (exd dx [(g, z), (f, y)]))
    rw [e]
    exact q dx hdx hne
theorem exG_of {P : Program} {w : World} {K : KC} {mg : Str → Option Value} {base : Heap} {k : Nat} {x : Str} {Ca D fI : Addr} {fd : FuncData} {fs ps : List Str} (hm : mg x = some (.ref Ca)) (hC : K.C.cls x = some Ca) (S : DX.SupC K.K Ca D) (hi : PySem.W.findIn K.K (.ref Ca) "__init__" = some (some (.ref fI)))
    (ht : PySem.W.typeIn K.K (.ref fI) = some (.type "function")) (hf : ∀ f ∈ fs, PySem.W.findIn K.K (.ref Ca) f = some none) (FO : FnOk P w K.K mg base (L2.CX P w) k fI fd ps (spS K.K D fs)) (hb : Binds K.K fd ps []) : ExG P w K mg base k x fs :=
  ⟨Ca, fI, fd, ps, hm, hC, S.oex, hi, ht, FO.imp fun vs H Q E z => ⟨Ca, S, hf, z⟩, hb⟩
theorem FunS.bindsN {P : Program} {K : PySem.W.Frag} {qual : Str} {params : Arguments} {body : List Stmt} {scope : Scope} {D f : Addr} {fd : FuncData} {ps : List Str} (F : DX.FunS P K qual params body scope D f fd)
    (h : ∀ (kV doc pm : Value) (an : Option Addr) (cda : Addr) (ct : Value) (cc : Addr) (us : List Value), us.length = ps.length → bindArgs (PySem.W.ksFn "__init__" qual params body scope .none kV doc pm an (.ref cda) ct cc) ⟨us, []⟩ = pure (ps.zip us)) : Binds K fd ps [] := by
  obtain ⟨oc, od, kV, doc, pm, an, cda, ct, osl, cc, cl, cld, csl, ccl, cdd, vs, ccs, file, tf, rfl, _⟩ := F.ex
  exact .all (h kV doc pm an cda ct cc)
def oexB (K : PySem.W.Frag) (C : Addr) : Bool := (match K.lookup C with
  | some ⟨.type "type", _, .cls cd, sl⟩ => (match cd.mro, sl.toList with
    | .ref C' :: bm, [_, _, _, _, some (.builtin n), _] => decide (C' = C) && (decide (n = "ValueError.__new__") && (!cd.hasDel && (cd.hasDict && PySem.HandSPX.refsVE bm)))
    | _, _ => false)
  | _ => false) && (He.eqO (PySem.W.findIn K (.ref C) "__setattr__") (some (some (.builtin "object.__setattr__"))) && (decide (PySem.W.subIn K (.ref C) (.type "BaseException") = some true) && (decide (PySem.W.typeIn K (.ref C) = some (.type "type")) && PySem.W.keepIn K (.ref C))))
theorem oexB_ok {K : PySem.W.Frag} {C : Addr} (h : oexB K C = true) : OexC K C := by
  obtain ⟨h1, h⟩ := He.ba h
  obtain ⟨h2, h⟩ := He.ba h
  obtain ⟨h3, h⟩ := He.ba h
  obtain ⟨h4, h5⟩ := He.ba h
  refine ⟨?_, He.eqO_ok h2, of_decide_eq_true h3, of_decide_eq_true h4, h5⟩
  cases q : K.lookup C with
  | none => rw [q] at h1; cases h1
  | some o =>
    rw [q] at h1
    obtain ⟨oc, od, dt, ⟨sl⟩⟩ := o
    split at h1
    · rename_i dd cd sl' hz
      cases hz
      split at h1
      · rename_i C' bm k0 k1 k2 k3 n k5 hm hs
        obtain ⟨a1, h1⟩ := He.ba h1
        obtain ⟨a2, h1⟩ := He.ba h1
        obtain ⟨a3, h1⟩ := He.ba h1
        obtain ⟨a4, a5⟩ := He.ba h1
        have b1 : C' = C := of_decide_eq_true a1
        have b2 : n = "ValueError.__new__" := of_decide_eq_true a2
        have b3 : cd.hasDel = false := by simpa using a3
        subst b1 b2
        obtain ⟨nm, bs, mro, ns, qn, hd, sn, sb, ab, col, del⟩ := cd
        dsimp only at hm b3 a4
        dsimp only at hs
        subst hm b3 a4 hs
        exact ⟨nm, qn, ns, bs, bm, sn, sb, ab, col, od, k0, k1, k2, k3, k5, rfl, a5⟩
      · cases h1
    · cases h1
end DL
namespace DL
open PySem PySem.Spec PyProof.Rows L2
def supB (K : PySem.W.Frag) (C D : Addr) : Bool := oexB K C && (decide (PySem.W.ks_superIn K C D "__init__" = some (some (.builtin "ValueError.__init__"))) && (decide (PySem.W.subIn K (.ref C) (.type "ValueError") = some true) && decide (PySem.W.mroIn K C (.ref D) = some true)))
theorem supB_ok {K : PySem.W.Frag} {C D : Addr} (h : supB K C D = true) : DX.SupC K C D := by
  obtain ⟨h1, h⟩ := He.ba h
  obtain ⟨h2, h⟩ := He.ba h
  obtain ⟨h3, h4⟩ := He.ba h
  exact ⟨oexB_ok h1, of_decide_eq_true h2, of_decide_eq_true h3, of_decide_eq_true h4⟩
def initB (K : PySem.W.Frag) (C D : Addr) : Bool := He.eqO (PySem.W.findIn K (.ref C) "__init__") (some (some (.ref (He.ma K D "__init__")))) && decide (PySem.W.typeIn K (.ref (He.ma K D "__init__")) = some (.type "function"))
def excB (K : PySem.W.Frag) (D : Addr) : Bool := He.eqO (PySem.W.findIn K (.ref D) "__getattribute__") (some (some (.builtin "BaseException.__getattribute__"))) && (He.eqO (PySem.W.findIn K (.ref D) "__getattr__") (some none) && (decide (PySem.W.subIn K (.ref D) (.type "BaseException") = some true) && (PySem.W.hasDictIn K D &&
  (He.eqO (PySem.W.findIn K (.ref D) "__class__") (some (some (.builtin "object.__class__"))) && (He.eqO (PySem.W.specialIn K (.builtin "object.__class__") "__get__") (some (some (.builtin "getset_descriptor.__get__"))) && (decide (PySem.W.takesIn K (.builtin "object.__class__") = some true) && decide (PySem.W.mroIn K D (.type "object") = some true)))))))
theorem excB_ok {K : PySem.W.Frag} {D : Addr} (h : excB K D = true) : ExcC K D := by
  obtain ⟨h1, h⟩ := He.ba h
  obtain ⟨h2, h⟩ := He.ba h
  obtain ⟨h3, h⟩ := He.ba h
  obtain ⟨h4, h⟩ := He.ba h
  obtain ⟨h5, h⟩ := He.ba h
  obtain ⟨h6, h⟩ := He.ba h
  obtain ⟨h7, h8⟩ := He.ba h
  exact ⟨He.eqO_ok h1, He.eqO_ok h2, of_decide_eq_true h3, h4, He.eqO_ok h5, He.eqO_ok h6, of_decide_eq_true h7, of_decide_eq_true h8⟩
theorem ExcC.xf {K : PySem.W.Frag} {D : Addr} (h : ExcC K D) : XfC K D := ⟨h.hg, h.hk, h.hs, h.hd⟩
abbrev FnS : Type := Option (Str × Str × Arguments × FuncBody × Scope × Addr × List Str × Addr)
def fnS (K : PySem.W.Frag) (p : Str × Option Str) : FnS := match K.lookup (He.fAd K p) with
  | some ⟨_, _, .func fd, _⟩ => some (fd.name, fd.qualname, fd.params, fd.body, fd.scope, fd.globals, fd.closure.map (·.1), fd.builtins)
  | _ => none
structure DefS where
  x : Str
  qual : Str
  params : Arguments
  body : List Stmt
  scope : Scope
def DefS.val (d : DefS) : FnS := some ("__init__", d.qual, d.params, .stmts d.body, d.scope, mainGlobals, ["__class__"], builtinsNs)
def cellB (K : PySem.W.Frag) (D : Addr) : List (Str × Addr) → Bool
  | [(_, c)] => (match K.lookup c with
    | some ⟨_, _, .cell (some (.ref a)), _⟩ => decide (a = D)
    | _ => false)
  | _ => false
def fileB (K : PySem.W.Frag) (file : Str) : Value → Bool
  | .ref c => (match K.lookup c with
    | some ⟨_, _, .fields vs, _⟩ => (match (vs : Array Value)[2]? with
      | some (Value.str f _) => file == f
      | _ => false)
    | _ => false)
  | _ => false
def noneB : Value → Bool
  | .none => true
  | _ => false
def DefS.ok (file : Str) (K : PySem.W.Frag) (d : DefS) : Bool := PySem.W.keepIn K (.ref (He.ma K (He.ga K d.x) "__init__")) && ((PySem.W.clsIn K (He.ga K d.x)).isSome && (He.eqO (PySem.W.nsIn K cStatics "thirdparty.any") (some none) && (match K.lookup (He.ma K (He.ga K d.x) "__init__") with
  | some ⟨_, _, .func fd, _⟩ => PySem.W.codeIn K fd.code d.qual && (noneB fd.defaults && (cellB K (He.ga K d.x) fd.closure && fileB K file fd.code))
  | _ => false)))
theorem DefS.funS {P : Program} {K : PySem.W.Frag} {d : DefS} {file : Str} (e : fnS K (d.x, some "__init__") = d.val) (c : d.ok file K = true) (hf : P.main.file = file) : ∃ fd, DX.FunS P K d.qual d.params d.body d.scope (He.ga K d.x) (He.ma K (He.ga K d.x) "__init__") fd := by
  obtain ⟨kp, c⟩ := He.ba c
  obtain ⟨hc, c⟩ := He.ba c
  obtain ⟨hst, c⟩ := He.ba c
  unfold fnS He.fAd at e
  dsimp only at e
  cases q : K.lookup (He.ma K (He.ga K d.x) "__init__") with
  | none => rw [q] at c; cases c
  | some o =>
    obtain ⟨oc, od, dt, osl⟩ := o
    rw [q] at c e
    cases dt with
    | func fd =>
      obtain ⟨n1, n2, n3, n4, n5, n6, n7, n8, n9, n10, n11, n12, n13, n14, n15⟩ := fd
      have e2 : (some (n1, n2, n3, n4, n5, n6, n7.map (·.1), n15) : FnS) = d.val := e
      unfold DefS.val at e2
      simp only [Option.some.injEq, Prod.mk.injEq] at e2
      obtain ⟨h1, h2, h3, h4, h5, h6, h7, h8⟩ := e2
      subst h1 h2 h3 h4 h5 h6 h8
      have c2 : (PySem.W.codeIn K n13 d.qual && (noneB n8 && (cellB K (He.ga K d.x) n7 && fileB K file n13))) = true := c
      obtain ⟨k1, c2⟩ := He.ba c2
      obtain ⟨k2, c2⟩ := He.ba c2
      obtain ⟨k3, k4⟩ := He.ba c2
      match n7, h7, k3 with
      | [(nm, cc)], h7, k3 =>
        have h9 : nm = "__class__" := by simpa using h7
        subst h9
        cases n8 with
        | none =>
          cases n13 with
          | ref cda =>
            unfold cellB at k3
            dsimp only at k3
            unfold fileB at k4
            dsimp only at k4
            split at k3
            · rename_i cl cld a csl hcc
              have ha : a = He.ga K d.x := of_decide_eq_true k3
              subst ha
              split at k4
              · rename_i ccl cdd vs ccs hcd
                split at k4
                · rename_i f tf hv
                  exact ⟨_, ⟨oc, od, n9, n10, n11, n12, cda, n14, osl, cc, cl, cld, csl, ccl, cdd, vs, ccs, f, tf, rfl, q, k1, hcc, hcd, hv, by rw [hf]; exact k4⟩, kp, Option.isSome_iff_exists.mp hc, He.eqO_ok hst⟩
                · cases k4
              · cases k4
            · cases k3
          | _ => cases k4
        | _ => cases k2
    | _ => cases c
def rcA (K : PySem.W.Frag) (C : Addr) (m : Str) (T : String) (j : Nat) : Addr := match PySem.W.recIn K (He.ma K C m) T with
  | some l => (match l[j]? with
    | some (.ref g) => g
    | _ => 0)
  | none => 0
structure DefC where
  T : String
  j : Nat
  d : He.DefD
def DefC.ad (K : PySem.W.Frag) (c : DefC) : Addr := match c.d.at_.2 with
  | some m => rcA K (He.ga K c.d.at_.1) m c.T c.j
  | none => 0
def fnA (K : PySem.W.Frag) (a : Addr) : He.FnW := match K.lookup a with
  | some ⟨_, _, .func fd, _⟩ => some (fd.name, fd.qualname, fd.params, fd.body, fd.scope, fd.globals, fd.closure, fd.builtins)
  | _ => none
def okA (K : PySem.W.Frag) (a : Addr) (d : He.DefD) : Bool := PySem.W.keepIn K (.ref a) && (match K.lookup a with
  | some ⟨_, _, .func fd, _⟩ => PySem.W.codeIn K fd.code d.qual && (He.dflB K fd.defaults (d.dvs K) && He.kwdB K fd.kwdefaults (d.kws K))
  | _ => false)
theorem funD_at {K : PySem.W.Frag} {a : Addr} {d : He.DefD} (e : fnA K a = d.val) (c : okA K a d = true) : ∃ fd, FunD K d.name d.qual d.params d.body d.scope (d.dvs K) (d.kws K) a fd := by
  obtain ⟨kp, c⟩ := He.ba c
  unfold fnA at e
  split at c
  · rename_i oc od fd osl lk
    rw [lk] at e
    obtain ⟨m1, m2, m3, m4, m5, m6, m7, m8, m9, m10, m11, m12, m13, m14, m15⟩ := fd
    have e : (some (m1, m2, m3, m4, m5, m6, m7, m15) : He.FnW) = d.val := e
    unfold He.DefD.val at e
    simp only [Option.some.injEq, Prod.mk.injEq] at e
    obtain ⟨h1, h2, h3, h4, h5, h6, h7, h8⟩ := e
    subst h1 h2 h3 h4 h5 h6 h7 h8
    obtain ⟨k1, c⟩ := He.ba (show (PySem.W.codeIn K m13 d.qual && (He.dflB K m8 (d.dvs K) && He.kwdB K m9 (d.kws K))) = true from c)
    obtain ⟨k3, k4⟩ := He.ba c
    exact ⟨_, ⟨oc, od, m8, m9, m10, m11, m12, m13, m14, osl, rfl, lk, k1, He.dflB_ok k3, He.kwdB_ok k4⟩, kp⟩
  · cases c
def asE (g : Addr → Option Obj) : Nat → List Addr
  | 0 => [mainGlobals, cStatics]
  | n + 1 => He.growD g (asE g n)
abbrev AlE : Type := Bool × List He.FnW × List FnS × List He.FnW
structure Ask where
  file : Str
  fa : List He.Fa
  fb : List (PySem.W.Frag → Bool)
  fn : List He.DefD
  fs : List DefS
  fc : List DefC := []
def obsE (q : Ask) (K : PySem.W.Frag) : AlE := ((q.fa.all fun f => f.ok K) && ((q.fb.all fun f => f K) && ((q.fn.all fun d => d.ok K) && ((q.fs.all fun d => d.ok q.file K) && q.fc.all fun d => okA K (d.ad K) d.d))), q.fn.map fun d => He.fnW K d.at_, q.fs.map fun d => fnS K (d.x, some "__init__"), q.fc.map fun d => fnA K (d.ad K))
def valE (q : Ask) : AlE := (true, q.fn.map He.DefD.val, q.fs.map DefS.val, q.fc.map fun d => d.d.val)
def SaysE (q : Ask) (K : PySem.W.Frag) : Prop := obsE q K = valE q
def obsEG (n : Nat) (q : Ask) (g : Addr → Option Obj) : AlE := obsE q (He.frG g (asE g n))
def hookE (n : Nat) (q : Ask) : PySem.W.Hook where
  α := AlE
  obs := fun s => obsEG n q s.heap.get?
  val := fun _ => valE q
  says := fun _ h => ∃ K : PySem.W.Frag, K.In h ∧ SaysE q K
  of := fun _ _ e => ⟨_, He.frG_in, e⟩
  keeps := fun _ _ _ ⟨K, hK, c⟩ k => ⟨K, PySem.W.Frag.In.keeps hK k, c⟩
theorem obsEG_eq {n : Nat} {q : Ask} {g : Addr → Option Obj} {s : Shared} (h : ∀ a, g a = s.heap.get? a) : obsEG n q g = (hookE n q).obs s := by
  have e : g = s.heap.get? := funext h
  rw [e] <;> rfl
section
variable {q : Ask} {K : PySem.W.Frag}
theorem SaysE.all (c : SaysE q K) : (q.fa.all fun f => f.ok K) = true ∧ (q.fb.all fun f => f K) = true ∧ (q.fn.all fun d => d.ok K) = true ∧ (q.fs.all fun d => d.ok q.file K) = true ∧ (q.fc.all fun d => okA K (d.ad K) d.d) = true := by
  have c1 : ((q.fa.all fun f => f.ok K) && ((q.fb.all fun f => f K) && ((q.fn.all fun d => d.ok K) && ((q.fs.all fun d => d.ok q.file K) && q.fc.all fun d => okA K (d.ad K) d.d)))) = true := congrArg (fun z : AlE => z.1) c
  obtain ⟨h1, c1⟩ := He.ba c1
  obtain ⟨h2, c1⟩ := He.ba c1
  obtain ⟨h3, c1⟩ := He.ba c1
  obtain ⟨h4, h5⟩ := He.ba c1
  exact ⟨h1, h2, h3, h4, h5⟩
theorem SaysE.fact (c : SaysE q K) (i : Nat) {f : He.Fa} (h : q.fa[i]? = some f := by rfl) : f.ok K = true := List.all_eq_true.mp c.all.1 f (List.mem_of_getElem? h)
theorem SaysE.fb (c : SaysE q K) (i : Nat) {f : PySem.W.Frag → Bool} (h : q.fb[i]? = some f := by rfl) : f K = true := List.all_eq_true.mp c.all.2.1 f (List.mem_of_getElem? h)
theorem SaysE.def_ (c : SaysE q K) (i : Nat) {d : He.DefD} (h : q.fn[i]? = some d := by rfl) : ∃ fd, FunD K d.name d.qual d.params d.body d.scope (d.dvs K) (d.kws K) (He.fAd K d.at_) fd := by
  have e : q.fn.map (fun d => He.fnW K d.at_) = q.fn.map He.DefD.val := congrArg (fun z : AlE => z.2.1) c
  have e2 : (q.fn.map fun d => He.fnW K d.at_)[i]? = (q.fn.map He.DefD.val)[i]? := by rw [e]
  rw [List.getElem?_map, List.getElem?_map, h] at e2
  exact He.DefD.funD (Option.some.inj e2) (List.all_eq_true.mp c.all.2.2.1 d (List.mem_of_getElem? h))
theorem SaysE.ini (c : SaysE q K) (i : Nat) {d : DefS} {P : Program} (hf : P.main.file = q.file) (h : q.fs[i]? = some d := by rfl) : ∃ fd, DX.FunS P K d.qual d.params d.body d.scope (He.ga K d.x) (He.ma K (He.ga K d.x) "__init__") fd := by
  have e : q.fs.map (fun d => fnS K (d.x, some "__init__")) = q.fs.map DefS.val := congrArg (fun z : AlE => z.2.2.1) c
  have e2 : (q.fs.map fun d => fnS K (d.x, some "__init__"))[i]? = (q.fs.map DefS.val)[i]? := by rw [e]
  rw [List.getElem?_map, List.getElem?_map, h] at e2
  exact DefS.funS (Option.some.inj e2) (List.all_eq_true.mp c.all.2.2.2.1 d (List.mem_of_getElem? h)) hf
theorem SaysE.rec (c : SaysE q K) (i : Nat) {d : DefC} (h : q.fc[i]? = some d := by rfl) : ∃ fd, FunD K d.d.name d.d.qual d.d.params d.d.body d.d.scope (d.d.dvs K) (d.d.kws K) (d.ad K) fd := by
  have e : q.fc.map (fun d => fnA K (d.ad K)) = q.fc.map fun d => d.d.val := congrArg (fun z : AlE => z.2.2.2) c
  have e2 : (q.fc.map fun d => fnA K (d.ad K))[i]? = (q.fc.map fun d => d.d.val)[i]? := by rw [e]
  rw [List.getElem?_map, List.getElem?_map, h] at e2
  exact funD_at (Option.some.inj e2) (List.all_eq_true.mp c.all.2.2.2.2 d (List.mem_of_getElem? h))
end
end DL
namespace DL
open PySem PySem.Spec PyProof.Rows L2
def fldD (cs : List Str) (f : Str) : D → Option D
  | .ins c fs => if c ∈ cs then fs.lookup f else none
  | _ => none
theorem fldD_ins (cs : List Str) (f c : Str) (fs : List (Str × D)) : fldD cs f (.ins c fs) = if c ∈ cs then fs.lookup f else none := rfl
def mFld (cs : List Str) (f : Str) (m : Env → Rz EV) : Env → Rz EV := fun env => m env >>= fun a => orStuck (fldD cs f a.d) >>= fun d => .ok (.fz d)
def putD (f : Str) (v : D) : List (Str × D) → List (Str × D)
  | [] => [(f, v)]
  | (g, x) :: r => if g = f then (g, v) :: r else (g, x) :: putD f v r
theorem RepF.put {K : KC} {G : Hp} {f : Str} {v : V} {d : D} (h : Rep K G v d) : ∀ {vs : List (Str × V)} {ds : List (Str × D)}, RepF K G vs ds → RepF K G (putF f v vs) (putD f d ds)
  | _, _, .nil => .cons h .nil
  | (g, x) :: vs, (_, y) :: ds, .cons a b => by
    unfold putF putD
    by_cases e : g = f
    · rw [if_pos e, if_pos e]; exact .cons h b
    · rw [if_neg e, if_neg e]; exact .cons a (b.put h)
theorem RepF.length {K : KC} {G : Hp} : ∀ {vs : List (Str × V)} {ds : List (Str × D)}, RepF K G vs ds → vs.length = ds.length
  | _, _, .nil => rfl
  | _, _, .cons _ b => congrArg Nat.succ b.length
def FldOk (K : PySem.W.Frag) (C : CT) (cs : List Str) (f : Str) : Prop := ∀ c ∈ cs, ∀ Ca, C.cls c = some Ca → Cls K Ca ∧ NoAttr K Ca f
section
variable {X : Cx} {C : CT} {W : WX}
theorem ins_of {K : KC} {Z : Ent} {Hs G H : Hp} {v : V} {a : EV} {c : Str} {fs : List (Str × D)} (s : Sub G H) (va : EVok K Z Hs G H v a) (h : a.d = .ins c fs) :
    ∃ p Ca dx vs, v = .ref p ∧ K.C.cls c = some Ca ∧ H p = some (.ins Ca dx vs) ∧ RepF K G vs fs := by
  cases a with
  | fz d =>
    have hd : d = .ins c fs := h
    subst hd
    cases va with
    | ins q e r => exact ⟨_, _, _, _, rfl, q, s _ _ e, r⟩
  | ow n w =>
    obtain ⟨p, rfl, wo, _⟩ := va
    cases w with
    | lst ds => cases h
    | dct ds => cases h
    | ins c' fs' => cases h; obtain ⟨Ca, dx, vs, q, e, r⟩ := wo; exact ⟨p, Ca, dx, vs, rfl, q, e, r⟩
    | self c' fs' => cases h; obtain ⟨_, Ca, dx, vs, q, e, r⟩ := wo; exact ⟨p, Ca, dx, vs, rfl, q, e, r⟩
theorem de_fld {cs : List Str} {f : Str} {e : Expr} {m : Env → Rz EV} {pos : Pos} (hc : FldOk X.K C cs f) (he : DE X C W e m) (hb : attributeBase e f X.env (eval e X.env) = eval e X.env := by rfl) : DE X C W (.Attribute e f pos) (mFld cs f m) :=
  ⟨PE.imp (pe_fld he.pe hb) fun σ H Q ⟨Z, G, env, er, q⟩ => by
    unfold mFld at q
    refine ⟨Z, G, env, er, ?_⟩
    cases ha : m env with
    | stuck => rw [ha] at q; exact q.elim
    | exc e => rw [ha] at q; exact q
    | ok a =>
      rw [ha] at q
      simp only [Rz.ok_bind] at q
      intro v G1 H1 x1 va
      cases hd : a.d with
      | ins c fs =>
        rw [hd, fldD_ins] at q
        by_cases hcc : c ∈ cs
        · rw [if_pos hcc] at q
          cases hl : fs.lookup f with
          | none => rw [hl] at q; exact q.elim
          | some y =>
            rw [hl] at q
            simp only [orStuck_some, Rz.ok_bind] at q
            obtain ⟨p, Ca, dx, vs, e1, e2, e3, r⟩ := ins_of x1.s va hd
            obtain ⟨u, u1, u2⟩ := r.look hl
            obtain ⟨k1, k2⟩ := hc c hcc Ca e2
            exact ⟨p, Ca, dx, vs, u, e1, e3, k1, k2, u1, q u G1 H1 x1 u2⟩
        · rw [if_neg hcc] at q; exact q.elim
      | _ => rw [hd] at q; exact q.elim⟩
def mSetFld (i : Nat) (cs : List Str) (f : Str) (m : Env → Rz EV) : Env → Out := fun env => match m env with
  | .ok a => (match a.fr with
    | .fz d => (match env.getD i .no with
      | .own (.self c fs) => if c ∈ cs ∧ fs.length < 1000 then .nx (env.set i (.own (.self c (putD f d fs)))) else .stuck
      | _ => .stuck)
    | _ => .stuck)
  | .exc e => .exc e env
  | .stuck => .stuck
theorem ds_setFld (i : Nat) {cs : List Str} {x f : Str} {e : Expr} {m : Env → Rz EV} {xp p' pos : Pos} (hc : FldOk X.K C cs f) (he : DE X C W e m) (hs : swapsWith e (some (.Attribute (.Name x xp) f p')) pos.line X.env = pure false := by rfl)
    (hN : X.N[i]? = some x := by rfl) (hv : Vis X.env.scope x := by first | exact Or.inl rfl | exact Or.inr (Or.inl rfl) | exact Or.inr (Or.inr rfl)) (hd : (x == ("__debug__" : Str)) = false := by decide) (hcd : (x == ("__classdict__" : Str)) = false := by decide) :
    DS X C W (.Assign [.Attribute (.Name x xp) f p'] e pos) (mSetFld i cs f m) :=
  ⟨PS.imp (ps_fld (pe_var hN hv hd hcd) he.pe hs) fun D σ H ⟨Z, G, env, er, q⟩ => by
    unfold mSetFld at q
    refine ⟨Z, G, env, er, ?_⟩
    cases ha : m env with
    | stuck => rw [ha] at q; exact q.elim
    | exc e =>
      rw [ha] at q
      exact fun cls d G' H' x k => q σ H' G' cls d x.g (er.ext x) k
    | ok a =>
      rw [ha] at q
      intro y G1 H1 x1 va
      obtain ⟨G2, s2, er2, va2⟩ := frz_go (er.ext x1) va fun p hp => er.free hp
      dsimp only at q
      cases hf : a.fr with
      | ow n w => rw [hf] at q; exact q.elim
      | fz d =>
        rw [hf] at q va2
        dsimp only at q
        split at q
        · rename_i c fs hi
          have hi := getD_some hi (by simp)
          split at q
          · rename_i hz
            obtain ⟨v, h1, p, rfl, sl, Ca, dx, vs, k1, h3, h4⟩ := er2.at' i _ hi
            obtain ⟨k2, k3⟩ := hc c hz.1 Ca k1
            refine ⟨.ref p, h1, p, Ca, dx, vs, rfl, h3, k2, k3, by rw [h4.length]; exact hz.2, q _ _ G2 (x1.g.trans s2) (er2.put hi h1 ⟨sl, Ca, dx, _, k1, upd_same, h4.put va2⟩)⟩
          · exact q.elim
        · exact q.elim⟩
end
theorem spD_cx {K K' : KC} (h1 : K.K = K'.K) (h2 : K.C.cls = K'.C.cls) (h3 : K.C.slf = none) {n : Nat} {F : Fn} {vs : List V} {H : Hp} {Q : VK} {E : XK} (h : spD K' n F vs H Q E) : spD K n F vs H Q E := by
  obtain ⟨G, ds, s, r, l, q⟩ := h
  refine ⟨G, ds, s, Reps.cx h1.symm h2.symm r, l, ?_⟩
  cases hF : F ds with
  | stuck => rw [hF] at q; exact q
  | exc e => rw [hF] at q; exact fun cls d G' H' x k => q cls d G' H' x (ExcOk.cx h1 h2 k)
  | ok ev => rw [hF] at q; exact fun v G' H' x k => q v G' H' x (EVok.cx h1 h2 (fun p z => by rw [h3] at z; cases z) k)
theorem FnG.cx {P : Program} {w : World} {K : PySem.W.Frag} {C C' : CT} {mg : Str → Option Value} {base : Heap} {k : Nat} {x : Str} {ps : List Str} {F : Fn} (h2 : C.cls = C'.cls) (h3 : C.slf = none) (h : FnG P w ⟨K, C⟩ mg base k x ps F) : FnG P w ⟨K, C'⟩ mg base k x ps F := by
  obtain ⟨fd, f1, f2, f3, f4⟩ := h
  exact ⟨fd, f1.imp fun vs H Q E z => spD_cx (K := ⟨K, C⟩) (K' := ⟨K, C'⟩) rfl h2 h3 z, f2, f3, f4⟩
end DL
namespace DL
open PySem PySem.Spec PyProof.Rows L2
theorem del_sub {H : Hp} {a : Addr} : Sub (del H a) H := fun b o e => by
  by_cases hb : b = a
  · rw [hb, del_same] at e; cases e
  · rw [del_ne hb] at e; exact e
theorem sub_del {G H : Hp} {a : Addr} (s : Sub G H) (g : G a = none) : Sub G (del H a) := fun b o e => by
  rw [del_ne (ne_of_none e g)]; exact s b o e
theorem er_startI {K : KC} {G H : Hp} {a : Addr} {w : OW} {ws : List V} {ds : List D} (s : Sub G H) (g : G a = none) (wo : WOk K G H a w) (r : Reps K G ws ds) (M : Nat) :
    ER K ⟨G, del H a⟩ G H (some (.ref a) :: (ws.map some ++ List.replicate M none)) (.own w :: (ds.map SL.val ++ List.replicate M SL.no)) := by
  have hl := r.length
  have noown : ∀ (i : Nat) (x : SL) (v : Option V) (p : Addr), (ds.map SL.val ++ List.replicate M SL.no)[i]? = some x → ¬ x.owns v p := fun i x v p e ⟨⟨w, z⟩, _⟩ => by
    subst z
    rcases List.mem_append.mp (List.mem_of_getElem? e) with m | m
    · obtain ⟨d, _, z⟩ := List.mem_map.mp m
      cases z
    · cases (List.mem_replicate.mp m).2
  refine ⟨by simp [hl], .refl, del_sub, sub_del s g, s, fun b n z => absurd z n, fun i x e => ?_, fun i x v p e e2 o => ?_, fun i j x y v u p e1 e2 o1 e3 e4 o2 => ?_⟩
  · cases i with
    | zero => cases e; exact ⟨_, rfl, a, rfl, wo⟩
    | succ i =>
      have e' : (ds.map SL.val ++ List.replicate M SL.no)[i]? = some x := e
      show ∃ v, (ws.map some ++ List.replicate M none)[i]? = some v ∧ _
      rw [List.getElem?_append] at e' ⊢
      rw [List.length_map] at e' ⊢
      rw [hl]
      by_cases hi : i < ds.length
      · rw [if_pos hi] at e' ⊢
        rw [List.getElem?_map] at e' ⊢
        cases q : ds[i]? with
        | none => rw [q] at e'; cases e'
        | some d =>
          rw [q] at e'; cases e'
          obtain ⟨u, h1, h2⟩ := r.get q
          exact ⟨some u, by rw [h1]; rfl, u, rfl, h2⟩
      · rw [if_neg hi] at e' ⊢
        rw [List.getElem?_replicate] at e' ⊢
        by_cases hm : i - ds.length < M
        · rw [if_pos hm] at e' ⊢
          cases e'
          exact ⟨none, rfl, trivial⟩
        · rw [if_neg hm] at e'; cases e'
  · cases i with
    | zero =>
      cases e; cases e2
      obtain ⟨_, z⟩ := o
      cases z
      exact ⟨g, del_same⟩
    | succ i => exact absurd o (noown i x v p e)
  · cases i with
    | zero => cases j with
      | zero => rfl
      | succ j => exact absurd o2 (noown j y u p e3)
    | succ i => exact absurd o1 (noown i x v p e1)
abbrev IFn := List D → Rz (List (Str × D))
def runI (N : Nat) (c : Str) (b : Env → Out) : IFn := fun ds => match b (.own (.self c []) :: (ds.map SL.val ++ List.replicate (N - (ds.length + 1)) SL.no)) with
  | .nx env => (match env.getD 0 .no with
    | .own (.self c' fs) => if c' = c then .ok fs else .stuck
    | _ => .stuck)
  | .exc e _ => .exc e
  | _ => .stuck
structure Mkd (G H : Hp) (a : Addr) (G' H' : Hp) : Prop where
  g : Sub G G'
  s : Sub G' H'
  h : Sub (del H a) H'
  n : ∀ b, G b = none → NT (del H a) b → G' b = none
def spI (K : KC) (c : Str) (n : Nat) (IF : IFn) : Sp := fun vs H Q E => ∃ (a Ca dx : Addr) (ws : List V) (G : Hp) (ds : List D), vs = .ref a :: ws ∧ K.C.cls c = some Ca ∧ H a = some (.ins Ca dx []) ∧ G a = none ∧ Sub G H ∧ Reps K G ws ds ∧ ds.length = n ∧
  match IF ds with
  | .ok fs => ∀ G' H' dx' vs', Mkd G H a G' H' → G' a = none → H' a = some (.ins Ca dx' vs') → RepF K G' vs' fs → Q .non H'
  | .exc e => ∀ cls d G' H', Mkd G H a G' H' → ExcOk K G' H' cls d e → E cls d H'
  | .stuck => False
theorem fn_init {P : Program} {w : World} {mg : Str → Option Value} {base : Heap} {K : PySem.W.Frag} {C : CT} {c x qual : Str} {params : Arguments} {body : List Stmt} {scope : Scope} {dvs : List V} {kws : List (Str × V)} {f : Addr} {fd : FuncData} {N ps : List Str} {k n : Nat} {b : Env → Out} (F : FunD K x qual params body scope dvs kws f fd) (S : FnScope N ps scope) (hn : ps.length = n + 1)
    (hbody : ∀ (a : Addr) (cdv : Value) (A : Around) (outer : List PySem.Env) (s : Shared) (H : Hp) (E : XK), Room k (A.deeper (envOfC qual scope s.heap.objs.size f cdv)) →
      PassesOwn (model P w) (A.deeper (envOfC qual scope s.heap.objs.size f cdv)) (envOfC qual scope s.heap.objs.size f cdv) (cxOf (L2.CX P w) P w K mg base N qual scope f cdv A outer s H E).xe →
      Takes (cxOf (L2.CX P w) P w K mg base N qual scope f cdv A outer s H E) (fun cls d _ H => E cls d H) → DSs (cxOf (L2.CX P w) P w K mg base N qual scope f cdv A outer s H E) ⟨C.cls, none, some a⟩ (fun cls d _ H => E cls d H) body b) :
    FnOk P w K mg base (L2.CX P w) (k + 1) f fd ps (spI ⟨K, C⟩ c n (runI N.length c b)) := by
  refine F.ok S (fun vs H Q E ⟨a, Ca, dx, ws, G, ds, e, _, _, _, _, r, l, _⟩ => by rw [e, List.length_cons, r.length, l, hn]) fun cdv A outer s H vs Q E hr ⟨a, Ca, dx, ws, G, ds, e, hC, ha, ga, hs, r, l, h⟩ => ?_
  subst e
  have r2 : Reps ⟨K, ⟨C.cls, none, some a⟩⟩ G ws ds := Reps.cx (K := ⟨K, C⟩) (K' := ⟨K, ⟨C.cls, none, some a⟩⟩) rfl rfl r
  have wo : WOk ⟨K, ⟨C.cls, none, some a⟩⟩ G H a (.self c []) := ⟨rfl, Ca, dx, [], hC, ha, .nil⟩
  have hst : start N (V.ref a :: ws) = some (.ref a) :: (ws.map some ++ List.replicate (N.length - (ds.length + 1)) none) := by
    unfold L2.start
    rw [List.map_cons, List.cons_append, List.length_cons, r.length]
  refine ⟨_, (hbody a cdv A outer s H E hr (passes_of rfl) (takes_of rfl rfl rfl rfl)).pss, ⟨G, del H a⟩, G, _, by rw [hst]; exact er_startI hs ga wo r2 (N.length - (ds.length + 1)), ?_⟩
  unfold runI at h
  have mk : ∀ {G' H' : Hp} {σ : L2.St} {env : Env}, ER ⟨K, ⟨C.cls, none, some a⟩⟩ ⟨G, del H a⟩ G' H' σ env → Mkd G H a G' H' := fun {G' H' σ env} er => ⟨er.zg, er.sub, er.zh, fun b g nt => by
    cases q : G' b with
    | none => rfl
    | some o => exact absurd nt (er.new b (by rw [q]; simp) g)⟩
  show Post _ _ _ _ _ _
  cases hb : b (.own (.self c []) :: (ds.map SL.val ++ List.replicate (N.length - (ds.length + 1)) SL.no)) with
  | nx env =>
    rw [hb] at h
    dsimp only at h
    intro σ H' G' s' er
    cases hq : env.getD 0 .no with
    | own wq =>
      rw [hq] at h
      cases wq with
      | self c' fs =>
        dsimp only at h
        by_cases hcc : c' = c
        · rw [if_pos hcc] at h
          subst hcc
          have hi := getD_some hq (by simp)
          obtain ⟨v, h1, p, rfl, hp, Ca', dx', vs', k1, k2, k3⟩ := er.at' 0 _ hi
          cases hp
          have hCa : Ca' = Ca := by
            have z : C.cls c' = some Ca' := k1
            have z2 : C.cls c' = some Ca := hC
            rw [z] at z2
            exact Option.some.inj z2
          subst hCa
          exact h G' H' dx' vs' (mk er) (er.own 0 _ _ a hi h1 ⟨⟨_, rfl⟩, rfl⟩).1 k2 (RepF.cx (K := ⟨K, ⟨C.cls, none, some a⟩⟩) (K' := ⟨K, C⟩) rfl rfl k3)
        · rw [if_neg hcc] at h; exact h.elim
      | _ => exact h.elim
    | _ => rw [hq] at h; exact h.elim
  | ret ev => rw [hb] at h; exact h.elim
  | exc e env =>
    rw [hb] at h
    exact fun σ H' G' cls d s' er kx => h cls d G' H' (mk er) (ExcOk.cx (K := ⟨K, ⟨C.cls, none, some a⟩⟩) (K' := ⟨K, C⟩) rfl rfl kx)
  | bk e => rw [hb] at h; exact h.elim
  | ct e => rw [hb] at h; exact h.elim
  | stuck => rw [hb] at h; exact h.elim
section
variable {X : Cx} {W : WX}
theorem make_at {pins : List (Addr × Obj)} {σ : L2.St} {H : Hp} {s : Shared} {Q : VK} {us : List Value} {vs : List V} {Cc f : Addr} {k : Nat} {fd : FuncData} {ps : List Str} {sp : Sp} (M : Mk X.K Cc f) (FO : FnOk X.prog X.w X.K X.mg X.base (L2.CX X.prog X.w) k f fd ps sp)
    (hr : Room (k + 1) X.A) (hb : Binds X.K fd ps []) (tk : Takes X W) (I : Inv X pins σ H s) (r : Vals vs us)
    (h : ∀ x dx, H x = none → H dx = none → dx ≠ x → sp (.ref x :: vs) (upd (upd H dx (.own x)) x (.ins Cc dx [])) (fun v H2 => v = .non ∧ Q (.ref x) H2) (WE W σ)) : wpAny (model X.prog X.w) X.A (call (.ref Cc) us) (EP X pins σ Q) X.xe s := by
  have n0 : H s.heap.objs.size = none := I.hok.fresh (Nat.le_refl _)
  have n1 : H (s.heap.objs.size + 1) = none := I.hok.fresh (Nat.le_succ _)
  have asked := h _ _ n1 n0 (Nat.ne_of_lt (Nat.lt_succ_self _))
  have J := I.made (C := Cc)
  have rr : Vals (V.ref (s.heap.objs.size + 1) :: vs) (Value.ref (s.heap.objs.size + 1) :: us) := .cons rfl r
  have len : (Value.ref (s.heap.objs.size + 1) :: us).length = ps.length := rr.length.symm.trans (FO.len _ _ _ _ asked)
  have bound := hb _ (Value.ref (s.heap.objs.size + 1) :: us) J.kIn (by rw [List.append_nil]; exact len)
  rw [List.append_nil] at bound
  have ran := FO.run _ X.stack _ _ ⟨Value.ref (s.heap.objs.size + 1) :: us, []⟩ _ _ _ _ (hr.make Cc us []) (J.env0.make Cc us []) bound rr asked
  refine wpAny_call (make_map I.kIn M.makes M.init (beq_iff_eq.mp M.fn) (codeAny_mono ran fun res s' got => ?_))
  match res, got with
  | .error e, got => exact passAt tk σ pins _ _ e s' J got
  | .ok (.ret u), got =>
    obtain ⟨v, H', J3, rv, ev, q3⟩ := J.after got
    subst ev
    exact ⟨rv, V.ref (s.heap.objs.size + 1), H', J3, rfl, q3⟩
  | .ok .next, got => exact got.elim
  | .ok .brk, got => exact got.elim
  | .ok .cont, got => exact got.elim
def tMakeS (Cc : Addr) (sp : Sp) (W : WX) (t : TA) : TE := fun σ H Q => t σ H fun vs H1 => ∀ x dx, H1 x = none → H1 dx = none → dx ≠ x → sp (.ref x :: vs) (upd (upd H1 dx (.own x)) x (.ins Cc dx [])) (fun v H2 => v = .non ∧ Q (.ref x) H2) (WE W σ)
theorem pe_makeS {Cc f : Addr} {k : Nat} {fd : FuncData} {ps : List Str} {sp : Sp} {x : Str} {e : Expr} {es : List Expr} {t : TA} {p pos : Pos} (M : Mk X.K Cc f) (FO : FnOk X.prog X.w X.K X.mg X.base (L2.CX X.prog X.w) k f fd ps sp)
    (hr : Room (k + 1) X.A) (hb : Binds X.K fd ps []) (tk : Takes X W) (hg : Gl X x) (hm : X.mg x = some (.ref Cc)) (ha : PA X (e :: es) t) (hdb : (x == ("__debug__" : Str)) = false := by decide) (he : starEach (e :: es) X.env = (false, eval e X.env) :: starEach es X.env := by rfl)
    (hpl : (backTo pos (starEach es X.env)).any (·.1) = false := by rfl) : PE X (.Call (.Name x p) (e :: es) [] pos) (tMakeS Cc sp W t) := ⟨fun pins s σ H Q I h =>
  wpAny_Call_Name_kw (ld_glob I hg hm (PySem.W.callWith_K (h₀ := X.base) I.ok.mod.kin M.kp (thn (ha.run pos pins s σ H _ I h) fun us s1 ⟨vs, H1, I1, r, q⟩ => ⟨I1.kIn, make_at M FO hr hb tk I1 r q⟩) he hpl) hdb)⟩
end
def InG (P : Program) (w : World) (K : KC) (mg : Str → Option Value) (base : Heap) (k : Nat) (c : Str) (n : Nat) (IF : IFn) : Prop :=
  ∃ (Ca f : Addr) (fd : FuncData) (ps : List Str), mg c = some (.ref Ca) ∧ K.C.cls c = some Ca ∧ Mk K.K Ca f ∧ FnOk P w K.K mg base (L2.CX P w) k f fd ps (spI K c n IF) ∧ Binds K.K fd ps []
def appI (c : Str) (IF : IFn) (evs : List EV) : Rz EV := match IF (evs.map EV.d) with
  | .ok fs => if allFzB evs = true ∨ pureFs fs = true then .ok (.ow true (.ins c fs)) else .stuck
  | .exc e => if allFzB evs = true ∨ pureFs e.fs = true then .exc e else .stuck
  | .stuck => .stuck
def mMake (c : Str) (n : Nat) (IF : IFn) (m : Env → Rz (List EV)) : Env → Rz EV := fun env => m env >>= fun evs => if evs.length = n then appI c IF evs else .stuck
section
variable {X : Cx} {C : CT} {W : WX}
theorem ask_init {IF : IFn} {c : Str} {n : Nat} {Ca : Addr} {Z : Ent} {G1 H1 Hs : Hp} {σ : L2.St} {env : Env} {vs : List V} {evs : List EV} {Q : VK} {E : XK} (er : ER (kc X C) Z G1 H1 σ env) (va : EVs (kc X C) Z Hs G1 H1 vs evs) (hn : evs.length = n) (hC : C.cls c = some Ca)
    (q : match appI c IF evs with
      | .ok ev => ∀ v G' H', Ext G1 H1 G' H' → EVok (kc X C) Z H1 G' H' v ev → Q v H'
      | .exc e => ∀ cls d G' H', Ext G1 H1 G' H' → ExcOk (kc X C) G' H' cls d e → E cls d H'
      | .stuck => False) (x dx : Addr) (hx : H1 x = none) (hdx : H1 dx = none) (hne : dx ≠ x) :
    spI (kc X C) c n IF (.ref x :: vs) (upd (upd H1 dx (.own x)) x (.ins Ca dx [])) (fun v H2 => v = .non ∧ Q (.ref x) H2) E := by
  have up1 : Sub H1 (del (upd (upd H1 dx (.own x)) x (.ins Ca dx [])) x) := fun b o e => by
    rw [del_ne (ne_of_none e hx), upd_ne (ne_of_none e hx), upd_ne (ne_of_none e hdx)]; exact e
  have up2 : Sub H1 (upd (upd H1 dx (.own x)) x (.ins Ca dx [])) := up1.trans del_sub
  have ext : ∀ {G0 G' H' : Hp}, Mkd G0 (upd (upd H1 dx (.own x)) x (.ins Ca dx [])) x G' H' → Ext G0 H1 G' H' := fun {G0 G' H'} m => ⟨m.g, up1.trans m.h, m.s, fun b e nt => m.n b e (nt.mono up1)⟩
  unfold appI at q
  by_cases hf : allFzB evs = true
  · refine ⟨x, Ca, dx, vs, G1, evs.map EV.d, rfl, hC, upd_same, er.sub.none hx, er.sub.trans up2, va.repsF hf, by rw [List.length_map]; exact hn, ?_⟩
    cases hF : IF (evs.map EV.d) with
    | stuck => rw [hF] at q; exact q
    | exc e =>
      rw [hF] at q
      dsimp only at q
      rw [if_pos (.inl hf)] at q
      exact fun cls d G' H' m k => q cls d G' H' (ext m) k
    | ok fs =>
      rw [hF] at q
      dsimp only at q
      rw [if_pos (.inl hf)] at q
      exact fun G' H' dx' vs' m g' e r => ⟨rfl, q _ G' H' (ext m) ⟨x, rfl, ⟨Ca, dx', vs', hC, e, r⟩, g', er.zh.none hx, fun _ => hx⟩⟩
  · refine ⟨x, Ca, dx, vs, H1, evs.map EV.d, rfl, hC, upd_same, hx, up2, va.reps er.sub, by rw [List.length_map]; exact hn, ?_⟩
    have lower : ∀ {G' H' : Hp}, Ext H1 H1 G' H' → Ext G1 H1 (orH G1 (tups H')) H' := fun {G' H'} y =>
      ⟨orH_l _ _, y.h, orH_sub (er.sub.trans y.h) (tups_sub H'), fun b e nt => by rw [orH_none e]; exact tups_nt (nt.mono y.h)⟩
    cases hF : IF (evs.map EV.d) with
    | stuck => rw [hF] at q; exact q
    | exc e =>
      rw [hF] at q
      dsimp only at q
      intro cls d G' H' m k
      by_cases hp : pureFs e.fs = true
      · rw [if_pos (.inr hp)] at q
        have y := ext m
        refine q cls d _ H' (lower y) ?_
        obtain ⟨a, h1, h2, h3⟩ := k
        refine ⟨a, h1, h2, ?_⟩
        rcases h3 with h3 | ⟨dd, fs, h3, h4, h5⟩
        · exact .inl h3
        · exact .inr ⟨dd, fs, h3, orH_r (er.sub.trans y.h) (tups_sub H') _ _ (tups_getX (y.s _ _ h4)), (pure_repF (h5.mono y.s) hp).mono (orH_r (er.sub.trans y.h) (tups_sub H'))⟩
      · rw [if_neg (fun z => z.elim hf hp)] at q; exact q.elim
    | ok fs =>
      rw [hF] at q
      dsimp only at q
      intro G' H' dx' vs' m g' e r
      by_cases hp : pureFs fs = true
      · rw [if_pos (.inr hp)] at q
        have y := ext m
        refine ⟨rfl, q _ _ H' (lower y) ⟨x, rfl, ⟨Ca, dx', vs', hC, e, (pure_repF (r.mono y.s) hp).mono (orH_r (er.sub.trans y.h) (tups_sub H'))⟩, ?_, er.zh.none hx, fun _ => hx⟩⟩
        rw [orH_none (er.sub.none hx)]
        exact tups_nt ⟨_, e, rfl⟩
      · rw [if_neg (fun z => z.elim hf hp)] at q; exact q.elim
theorem de_make {IF : IFn} {k n : Nat} {x : Str} {p pos : Pos} {e : Expr} {es : List Expr} {m : Env → Rz (List EV)} (IG : InG X.prog X.w (kc X C) X.mg X.base k x n IF) (hr : Room (k + 1) X.A) (tk : Takes X W) (ha : DA X C W (e :: es) m) (hg : Gl X x := by rfl) (hdb : (x == ("__debug__" : Str)) = false := by decide)
    (he : starEach (e :: es) X.env = (false, eval e X.env) :: starEach es X.env := by rfl) (hpl : (backTo pos (starEach es X.env)).any (·.1) = false := by rfl) : DE X C W (.Call (.Name x p) (e :: es) [] pos) (mMake x n IF m) := by
  obtain ⟨Ca, f, fd, ps, hm, hC, M, FO, hb⟩ := IG
  exact ⟨PE.imp (pe_makeS M FO hr hb tk hg hm ha.pa hdb he hpl) fun σ H Q h => tA_seq (f := fun evs _ => if evs.length = n then appI x IF evs else .stuck) h fun Z G1 H1 env vs a er va hs q x' dx hx hdx hne => by
    by_cases hn : a.length = n
    · rw [if_pos hn] at q
      exact ask_init er va hn hC q x' dx hx hdx hne
    · rw [if_neg hn] at q; exact q.elim⟩
end
end DL
namespace DL
open PySem PySem.Spec PyProof.Rows L2
def MeG (P : Program) (w : World) (K : KC) (mg : Str → Option Value) (base : Heap) (k : Nat) (c m : Str) (n : Nat) (F : Fn) : Prop :=
  ∃ (Ca f : Addr) (fd : FuncData) (ps : List Str), K.C.cls c = some Ca ∧ Cls K.K Ca ∧ Meth K.K Ca m f ∧ FnOk P w K.K mg base (L2.CX P w) k f fd ps (spD K n F) ∧ Binds K.K fd ps []
theorem MeG.cx {P : Program} {w : World} {K : PySem.W.Frag} {C C' : CT} {mg : Str → Option Value} {base : Heap} {k n : Nat} {c m : Str} {F : Fn} (h2 : C.cls = C'.cls) (h3 : C.slf = none) (h : MeG P w ⟨K, C⟩ mg base k c m n F) : MeG P w ⟨K, C'⟩ mg base k c m n F := by
  obtain ⟨Ca, f, fd, ps, f1, f2, f3, f4, f5⟩ := h
  exact ⟨Ca, f, fd, ps, h2 ▸ f1, f2, f3, f4.imp fun vs H Q E z => spD_cx (K := ⟨K, C⟩) (K' := ⟨K, C'⟩) rfl h2 h3 z, f5⟩
def insOf (c m : Str) : D → Bool
  | .ins c' fs => decide (c' = c) && (fs.lookup m).isNone
  | _ => false
def mMe (c m : Str) (F : Fn) (n : Nat) (o : Env → Rz EV) (a : Env → Rz (List EV)) : Env → Rz EV := fun env => o env >>= fun x => if insOf c m x.d = true then a env >>= fun xs => if xs.length + 1 = n then appF F (x.fr :: xs) else .stuck else .stuck
section
variable {X : Cx} {C : CT} {W : WX}
def tMethS (Cc : Addr) (m : Str) (sp : Sp) (W : WX) (ta : TE) (t : TA) : TE := fun σ H Q => ta σ H fun x H1 => ∃ a dx fs, x = .ref a ∧ H1 a = some (.ins Cc dx fs) ∧ fs.lookup m = none ∧ t σ H1 fun vs H2 => sp (x :: vs) H2 Q (WE W σ)
section
variable {Cc f : Addr} {m : Str} {k : Nat} {fd : FuncData} {ps : List Str} {sp : Sp} {o e : Expr} {es : List Expr} {ta : TE} {t : TA} {apos pos : Pos} {pl : Sem Bool}
theorem pe_methS (he : PE X o ta) (c : Cls X.K Cc) (hm : Meth X.K Cc m f) (FO : FnOk X.prog X.w X.K X.mg X.base (L2.CX X.prog X.w) k f fd ps sp) (hr : Room k X.A) (hb : Binds X.K fd ps []) (tk : Takes X W) (ha : PA X (e :: es) t)
    (hst : starEach (e :: es) X.env = (false, eval e X.env) :: starEach es X.env) (hpl : (backTo pos (starEach es X.env)).any (·.1) = false)
    (ht : eval (.Call (.Attribute o m apos) (e :: es) [] pos) X.env = (do
      let ov ← eval o X.env
      standAt apos.atName
      let (g, first) ← holding [ov] (getMethod ov m pl)
      callWith pos g first (backTo pos (starEach (e :: es) X.env)) (backToKw pos (keywordEach [] X.env)))) : PE X (.Call (.Attribute o m apos) (e :: es) [] pos) (tMethS Cc m sp W ta t) := ⟨fun pins s σ H Q I h =>
  PySem.W.methodCall_KW (pl := pl) (thn (he.run pins s σ H _ I h) fun u s1 ⟨x, H1, I1, rx, a, dx, fs, ex, ea, l, q⟩ => by
    subst ex
    have eu : u = Value.ref a := rx
    rw [eu]
    exact getmeth_ok I1 ea c hm l (PySem.W.callWith_K (first := [.ref a]) (h₀ := X.base) I.ok.mod.kin hm.kp (thn (ha.run pos pins s1 σ H1 _ I1 q) fun us s2 ⟨vs, H2, I2, r, q2⟩ => ⟨I2.kIn, run_fnS (E := WE W) (us := .ref a :: us) (vs := .ref a :: vs) FO hr hb (passAt tk σ) I2 (.cons rfl r) q2⟩) hst hpl)) ht⟩
theorem pe_methS0 (he : PE X o ta) (c : Cls X.K Cc) (hm : Meth X.K Cc m f) (FO : FnOk X.prog X.w X.K X.mg X.base (L2.CX X.prog X.w) k f fd ps sp) (hr : Room k X.A) (hb : Binds X.K fd ps []) (tk : Takes X W)
    (ht : eval (.Call (.Attribute o m apos) [] [] pos) X.env = (do
      let ov ← eval o X.env
      standAt apos.atName
      let (g, first) ← holding [ov] (getMethod ov m pl)
      callWith pos g first (backTo pos (starEach [] X.env)) (backToKw pos (keywordEach [] X.env)))) : PE X (.Call (.Attribute o m apos) [] [] pos) (tMethS Cc m sp W ta tNil) := ⟨fun pins s σ H Q I h =>
  PySem.W.methodCall_KW (pl := pl) (thn (he.run pins s σ H _ I h) fun u s1 ⟨x, H1, I1, rx, a, dx, fs, ex, ea, l, q⟩ => by
    subst ex
    have eu : u = Value.ref a := rx
    rw [eu]
    exact getmeth_ok I1 ea c hm l (PySem.W.callWith_K0 (first := [.ref a]) I1.kIn hm.kp (run_fnS (E := WE W) (us := [.ref a]) (vs := [.ref a]) FO hr hb (passAt tk σ) I1 (.cons rfl .nil) q))) ht⟩
end
theorem meth_go {c m : Str} {F : Fn} {n : Nat} {Ca : Addr} {mo : Env → Rz EV} {ma : Env → Rz (List EV)} {σ : L2.St} {H : Hp} {Q : VK} (hC : C.cls c = some Ca) (h : tE (kc X C) W (mMe c m F n mo ma) σ H Q) : tMethS Ca m (spD (kc X C) n F) W (tE (kc X C) W mo) (tA (kc X C) W ma) σ H Q := by
  obtain ⟨Z, G, env, er, q⟩ := h
  unfold mMe at q
  refine ⟨Z, G, env, er, ?_⟩
  cases ho : mo env with
  | stuck => rw [ho] at q; exact q.elim
  | exc e => rw [ho] at q; exact q
  | ok a =>
    rw [ho] at q
    simp only [Rz.ok_bind] at q
    intro v G1 H1 x1 va
    by_cases hi : insOf c m a.d = true
    · rw [if_pos hi] at q
      obtain ⟨fs, hd, hl⟩ : ∃ fs, a.d = .ins c fs ∧ fs.lookup m = none := by
        cases hd : a.d with
        | ins c' fs =>
          rw [hd] at hi
          obtain ⟨h1, h2⟩ := He.ba (show (decide (c' = c) && (fs.lookup m).isNone) = true from hi)
          have h3 : c' = c := of_decide_eq_true h1
          subst h3
          exact ⟨fs, rfl, by simpa using h2⟩
        | _ => rw [hd] at hi; cases hi
      obtain ⟨p, Ca', dx, vs, e1, e2, e3, r⟩ := ins_of x1.s va hd
      have hCa : Ca' = Ca := by
        have z : C.cls c = some Ca' := e2
        rw [hC] at z
        exact (Option.some.inj z).symm
      subst hCa
      obtain ⟨G2, x2, s2, va2⟩ := va.fr x1 .refl
      refine ⟨p, dx, vs, e1, e3, r.look_none hl, Z, G2, env, er.ext x2, ?_⟩
      cases hb : ma env with
      | stuck => rw [hb] at q; exact q.elim
      | exc e => rw [hb] at q; exact fun cls d G' H' x3 => q cls d G' H' (x2.trans x3)
      | ok b =>
        rw [hb] at q
        simp only [Rz.ok_bind] at q
        intro us G3 H3 x3 vb
        by_cases hn : b.length + 1 = n
        · rw [if_pos hn] at q
          refine ask_fn (er.ext (x2.trans x3)) (.cons (va2.ext x3) (vb.start x2.h)) (by rw [List.length_cons]; exact hn) ?_
          cases hF : appF F (a.fr :: b) with
          | stuck => rw [hF] at q; exact q
          | exc e => rw [hF] at q; exact fun cls d G' H' x4 => q cls d G' H' (x2.trans (x3.trans x4))
          | ok ev => rw [hF] at q; exact fun v' G' H' x4 k => q v' G' H' (x2.trans (x3.trans x4)) (k.start (x2.trans x3).h)
        · rw [if_neg hn] at q; exact q.elim
    · rw [if_neg hi] at q; exact q.elim
theorem de_me {c m : Str} {F : Fn} {k n : Nat} {o e : Expr} {es : List Expr} {mo : Env → Rz EV} {ma : Env → Rz (List EV)} {apos pos : Pos} {pl : Sem Bool} (MG : MeG X.prog X.w (kc X C) X.mg X.base k c m n F) (hr : Room k X.A) (tk : Takes X W) (ho : DE X C W o mo) (ha : DA X C W (e :: es) ma)
    (hst : starEach (e :: es) X.env = (false, eval e X.env) :: starEach es X.env := by rfl) (hpl : (backTo pos (starEach es X.env)).any (·.1) = false := by rfl)
    (ht : eval (.Call (.Attribute o m apos) (e :: es) [] pos) X.env = (do
      let ov ← eval o X.env
      standAt apos.atName
      let (g, first) ← holding [ov] (getMethod ov m pl)
      callWith pos g first (backTo pos (starEach (e :: es) X.env)) (backToKw pos (keywordEach [] X.env))) := by rfl) : DE X C W (.Call (.Attribute o m apos) (e :: es) [] pos) (mMe c m F n mo ma) := by
  obtain ⟨Ca, f, fd, ps, hC, hc, hm, FO, hb⟩ := MG
  exact ⟨PE.imp (pe_methS (pl := pl) ho.pe hc hm FO hr hb tk ha.pa hst hpl ht) fun σ H Q h => meth_go hC h⟩
theorem de_me0 {c m : Str} {F : Fn} {k n : Nat} {o : Expr} {mo : Env → Rz EV} {apos pos : Pos} {pl : Sem Bool} (MG : MeG X.prog X.w (kc X C) X.mg X.base k c m n F) (hr : Room k X.A) (tk : Takes X W) (ho : DE X C W o mo)
    (ht : eval (.Call (.Attribute o m apos) [] [] pos) X.env = (do
      let ov ← eval o X.env
      standAt apos.atName
      let (g, first) ← holding [ov] (getMethod ov m pl)
      callWith pos g first (backTo pos (starEach [] X.env)) (backToKw pos (keywordEach [] X.env))) := by rfl) : DE X C W (.Call (.Attribute o m apos) [] [] pos) (mMe c m F n mo mNil) := by
  obtain ⟨Ca, f, fd, ps, hC, hc, hm, FO, hb⟩ := MG
  refine ⟨PE.imp (pe_methS0 (pl := pl) ho.pe hc hm FO hr hb tk ht) fun σ H Q h => ?_⟩
  obtain ⟨Z, G, env, er, q⟩ := meth_go hC h
  refine ⟨Z, G, env, er, ?_⟩
  cases hm : mo env with
  | stuck => rw [hm] at q; exact q
  | exc e => rw [hm] at q; exact q
  | ok a =>
    rw [hm] at q
    intro v G1 H1 x1 va
    obtain ⟨p, dx, fs, e1, e2, e3, Z2, G2, env2, er2, q2⟩ := q v G1 H1 x1 va
    exact ⟨p, dx, fs, e1, e2, e3, q2 [] G2 H1 (.refl er2.sub) .nil⟩
end
end DL
namespace DL
open PySem PySem.Spec PyProof.Rows L2
def seqD : EV → Option (List D)
  | .fz (.lst ds) => some ds
  | .fz (.tup ds) => some ds
  | .fz (.scr ns) => some (ns.map .int)
  | .ow _ (.lst ds) => some ds
  | _ => none
def gTuple : List EV → Rz EV
  | [a] => orStuck (seqD a) >>= fun ds => .ok (.fz (.tup ds))
  | _ => .stuck
def gList : List EV → Rz EV
  | [a] => orStuck (seqD a) >>= fun ds => .ok (.ow true (.lst ds))
  | _ => .stuck
@[simp] theorem gTuple_one (a : EV) : gTuple [a] = orStuck (seqD a) >>= fun ds => .ok (.fz (.tup ds)) := rfl
@[simp] theorem gList_one (a : EV) : gList [a] = orStuck (seqD a) >>= fun ds => .ok (.ow true (.lst ds)) := rfl
theorem ne_gTuple : NoExcL gTuple := ⟨fun a e h => by
  unfold gTuple at h
  split at h
  · exact noexc_bind (fun _ _ z => by cases z) e h
  · cases h⟩
theorem ne_gList : NoExcL gList := ⟨fun a e h => by
  unfold gList at h
  split at h
  · exact noexc_bind (fun _ _ z => by cases z) e h
  · cases h⟩
theorem seq_of {K : KC} {Z : Ent} {Hs G H : Hp} {v : V} {a : EV} {ds : List D} (s : Sub G H) (va : EVok K Z Hs G H v a) (h : seqD a = some ds) : ∃ p us, v = .ref p ∧ (SqL K.K H p us ∨ (a = .fz (.tup ds) ∧ SqT K.K H p us)) ∧ Reps K G us ds := by
  unfold seqD at h
  split at h
  · cases h
    have va' : Rep K G v (.lst ds) := va
    cases va' with
    | lst e r => exact ⟨_, _, rfl, .inl (.of (s _ _ e)), r⟩
  · cases h
    have va' : Rep K G v (.tup ds) := va
    cases va' with
    | tup e r => exact ⟨_, _, rfl, .inr ⟨rfl, s.sqT e⟩, r⟩
  · rename_i ns
    cases h
    have va' : Rep K G v (.scr ns) := va
    cases va' with
    | scr e => exact ⟨_, _, rfl, .inl (s.sqL e), Reps.ints ns⟩
  · cases h
    obtain ⟨p, e, ⟨us, e', r⟩, _⟩ := va
    exact ⟨p, us, e, .inl (.of e'), r⟩
  · cases h
section
variable {X : Cx} {C : CT} {W : WX}
theorem cd_tuple : CallD X C (.type "tuple") gTuple := ⟨_, call_tuple_of, fun Z G H Hs vs evs ev Q s zh va hg q => by
  unfold gTuple at hg
  split at hg
  · rename_i a
    obtain ⟨v, rfl, k⟩ := evs1 va
    cases hd : seqD a with
    | none => rw [hd] at hg; cases hg
    | some ds =>
      rw [hd] at hg
      cases hg
      obtain ⟨p, us, e, sq, r⟩ := seq_of s k hd
      subst e
      rcases sq with sq | ⟨ea, sq⟩
      · exact ⟨p, us, rfl, .inl ⟨sq, fun l hl => q _ _ _ (.lay2 s hl) (.tup (.inl (.of upd_same)) (r.mono (.upd (s.none hl))))⟩⟩
      · subst ea
        exact ⟨p, us, rfl, .inr ⟨sq, q _ G H (.refl s) k⟩⟩
  · cases hg⟩
theorem cd_list : CallD X C (.type "list") gList := ⟨_, call_list_of, fun Z G H Hs vs evs ev Q s zh va hg q => by
  unfold gList at hg
  split at hg
  · rename_i a
    obtain ⟨v, rfl, k⟩ := evs1 va
    cases hd : seqD a with
    | none => rw [hd] at hg; cases hg
    | some ds =>
      rw [hd] at hg
      cases hg
      obtain ⟨p, us, e, sq, r⟩ := seq_of s k hd
      subst e
      exact ⟨p, us, rfl, sq.elim .inl fun z => .inr z.2, fun l hl => q _ _ _ (.lay s hl) ⟨l, rfl, ⟨us, upd_same, r⟩, s.none hl, zh.none hl, fun _ => hl⟩⟩
  · cases hg⟩
def mIns (i : Nat) (m : Env → Rz (List EV)) : Env → Out := fun env => match env.getD i .no with
  | .own (.lst ds) => (match m env with
    | .ok [.fz (.int j), .fz d] => if (0 ≤ j ∧ j.natAbs < 9223372036854775808) ∧ ds.length < sizeLine then .nx (env.set i (.own (.lst (ds.take j.toNat ++ [d] ++ ds.drop j.toNat)))) else .stuck
    | .exc e => .exc e env
    | _ => .stuck)
  | _ => .stuck
theorem ds_ins (i : Nat) {x : Str} {ea eb : Expr} {m : Env → Rz (List EV)} {xp apos cpos pos : Pos} (ha : DA X C W [ea, eb] m) (hN : X.N[i]? = some x := by rfl) (hv : Vis X.env.scope x := by first | exact Or.inl rfl | exact Or.inr (Or.inl rfl) | exact Or.inr (Or.inr rfl)) (hd : (x == ("__debug__" : Str)) = false := by decide)
    (hcd : (x == ("__classdict__" : Str)) = false := by decide)
    (hbase : attributeBase (.Name x xp) "insert" X.env (eval (.Name x xp) X.env) = eval (.Name x xp) X.env := by rfl)
    (hfew : ((backTo cpos (starEach [ea, eb] X.env)).all (fun x => !x.1) && (backToKw cpos (keywordEach [] X.env)).all (fun x => x.1.isSome)
      && decide ([ea, eb].length + ([] : List Keyword).length + (if ([] : List Keyword).isEmpty then 0 else 1) < 30)) = true := by rfl)
    (hline : (apos.endLine == cpos.line) = true := by rfl) (hs : starEach [ea, eb] X.env = (false, eval ea X.env) :: starEach [eb] X.env := by rfl) (hplain : (backTo cpos (starEach [eb] X.env)).any (·.1) = false := by rfl)
    (hsw : swapsWith (.Call (.Attribute (.Name x xp) "insert" apos) [ea, eb] [] cpos) none pos.line X.env = pure false := by rfl) :
    DS X C W (.Expr (.Call (.Attribute (.Name x xp) "insert" apos) [ea, eb] [] cpos) pos) (mIns i m) :=
  ⟨PS.imp (ps_expr (pe_bm PySem.F.plainAttrs_list PySem.F.slot_list_insert PySem.F.type_list_insert mt_insert (pe_var hN hv hd hcd) ha.pa hbase hfew hline hs hplain) hsw) fun D σ H ⟨Z, G, env, er, q⟩ => by
    unfold mIns at q
    split at q
    · rename_i ds hi
      have hi := getD_some hi (by simp)
      obtain ⟨v, h1, p, rfl, us, h3, h4⟩ := er.at' i _ hi
      refine ⟨.ref p, h1, tyV_list h3, Z, G, env, er, ?_⟩
      split at q
      · rename_i j d hm
        rw [hm]
        intro ys G1 H1 x1 va
        by_cases hz : (0 ≤ j ∧ j.natAbs < 9223372036854775808) ∧ ds.length < sizeLine
        · rw [if_pos hz] at q
          obtain ⟨⟨h0, hj⟩, hl⟩ := hz
          cases va with
          | cons a b => cases b with
            | cons b c =>
              cases c
              have ea : _ = V.int j := rep_int a
              subst ea
              have hH1 := x1.h _ _ h3
              have h4' := h4.mono x1.g
              refine ⟨p, us, j, _, rfl, rfl, hH1, by rw [h4.length]; exact hl, h0, ?_, q _ _ G1 x1.g ((er.ext x1).put hi h1 ⟨_, upd_same, ?_⟩)⟩
              · have e63 : (2 : Int) ^ 63 = ((9223372036854775808 : Nat) : Int) := by decide +kernel
                rw [e63, ← Int.natAbs_of_nonneg h0]
                exact Int.ofNat_lt.mpr hj
              · exact ((h4'.take _).append (.cons b .nil)).append (h4'.drop _)
        · rw [if_neg hz] at q; exact q.elim
      · rename_i e hm
        rw [hm]
        exact fun cls d G' H' x k => q σ H' G' cls d x.g (er.ext x) k
      · exact q.elim
    · exact q.elim⟩
end
end DL
namespace DL
open PySem PySem.Spec PyProof.Rows L2
def negD : EV → Rz EV
  | .fz (.int i) => .ok (.fz (.int (-i)))
  | _ => .stuck
def mNeg (m : Env → Rz EV) : Env → Rz EV := fun env => m env >>= negD
def revD (a : EV) : Rz EV := match a.d with
  | .lst ds => .ok (.ow true (.lst ds.reverse))
  | .scr ns => .ok (.ow true (.lst (ns.map D.int).reverse))
  | _ => .stuck
def mRev (m : Env → Rz EV) : Env → Rz EV := fun env => m env >>= revD
section
variable {X : Cx} {C : CT} {W : WX}
theorem one_go {m : Env → Rz EV} {g : EV → Rz EV} {σ : L2.St} {H : Hp} {Q : VK} {R : V → Hp → Prop} (hg : ∀ a e, g a ≠ .exc e) (h : tE (kc X C) W (fun env => m env >>= g) σ H Q)
    (hr : ∀ (Z : Ent) (G1 H1 : Hp) (v : V) (a : EV), Sub G1 H1 → Sub Z.H H1 → EVok (kc X C) Z H G1 H1 v a → (match g a with
      | .ok ev => ∀ v G' H', Ext G1 H1 G' H' → EVok (kc X C) Z H1 G' H' v ev → Q v H'
      | _ => False) → R v H1) : tE (kc X C) W m σ H R := by
  obtain ⟨Z, G, env, er, q⟩ := h
  refine ⟨Z, G, env, er, ?_⟩
  cases hm : m env with
  | stuck => simp only [hm] at q; exact q.elim
  | exc e => simp only [hm] at q; exact q
  | ok a =>
    simp only [hm, Rz.ok_bind] at q
    intro v G1 H1 x1 va
    refine hr Z G1 H1 v a x1.s (er.zh.trans x1.h) va ?_
    cases hq : g a with
    | stuck => rw [hq] at q; exact q
    | exc e => exact absurd hq (hg a e)
    | ok ev => rw [hq] at q; exact fun v' G' H' x2 k => q v' G' H' (x1.trans x2) (k.start x1.h)
theorem negD_exc (a : EV) (e : Exn) : negD a ≠ .exc e := by unfold negD; split <;> simp
theorem revD_exc (a : EV) (e : Exn) : revD a ≠ .exc e := by unfold revD; split <;> simp
theorem de_neg {e : Expr} {m : Env → Rz EV} {pos : Pos} (he : DE X C W e m) : DE X C W (.UnaryOp .USub e pos) (mNeg m) :=
  ⟨PE.imp (pe_un un_neg he.pe) fun σ H Q h => one_go negD_exc h fun Z G1 H1 v a s zh va q => by
    unfold negD at q
    split at q
    · rename_i z
      split at z
      · rename_i i
        cases z
        have e : v = V.int i := rep_int va
        exact ⟨i, e, q _ G1 H1 (.refl s) (.int _)⟩
      · cases z
    · exact q.elim⟩
theorem de_rev {e : Expr} {m : Env → Rz EV} {k : Nat} {p1 p2 p3 pos : Pos} (he : DE X C W e m) : DE X C W (.Subscript e (.Slice none none (some (.UnaryOp .USub (.Constant (.int 1) k p1) p2)) p3) pos) (mRev m) :=
  ⟨PE.imp (pe_revL he.pe) fun σ H Q h => one_go revD_exc h fun Z G1 H1 v a s zh va q => by
    unfold revD at q
    cases a with
    | fz d =>
      cases d with
      | lst ds =>
        have va' : Rep (kc X C) G1 v (.lst ds) := va
        cases va' with
        | lst e r => exact ⟨_, _, rfl, .inl (.of (s _ _ e)), fun p hp => q _ _ _ (.lay s hp) ⟨p, rfl, ⟨_, upd_same, r.reverse⟩, s.none hp, zh.none hp, fun _ => hp⟩⟩
      | scr ns =>
        have va' : Rep (kc X C) G1 v (.scr ns) := va
        cases va' with
        | scr e => exact ⟨_, _, rfl, s.sqL e, fun p hp => q _ _ _ (.lay s hp) ⟨p, rfl, ⟨_, upd_same, (Reps.ints ns).reverse⟩, s.none hp, zh.none hp, fun _ => hp⟩⟩
      | _ => exact q.elim
    | ow n w =>
      cases w with
      | lst ds =>
        obtain ⟨p0, e, ⟨us, e', r⟩, _⟩ := va
        exact ⟨p0, us, e, .inl (.of e'), fun p hp => q _ _ _ (.lay s hp) ⟨p, rfl, ⟨_, upd_same, r.reverse⟩, s.none hp, zh.none hp, fun _ => hp⟩⟩
      | _ => exact q.elim⟩
def finO : Out → Out
  | .nx env => .nx (env.map unX)
  | .bk env => .bk (env.map unX)
  | .ct env => .ct (env.map unX)
  | .ret ev => .ret ev
  | _ => .stuck
def mTryO (S : Str → Option Bool) (mb ms : Env → Out) : Env → Out := fun env => match mb env with
  | .exc e env1 => (match S e.cls with
    | some true => finO (ms env1)
    | some false => .exc e env1
    | none => .stuck)
  | o => o
theorem ds_tryO {x : Str} {c : Value} {S : Str → Option Bool} {b₀ : Stmt} {body suite : List Stmt} {np pos' pos : Pos} {mb ms : Env → Out} (hC : C.ex = none) (hs : X.stack = X.env :: X.outer) (hf : X.env.frame = some X.env.locals)
    (hc : Names X x c) (hS : ∀ (y : Str) (a : Addr) (b : Bool), S y = some b → C.cls y = some a → PySem.W.exmOne X.K (.ref a) c = some b) (tk : Takes X W)
    (hb : ∀ (W : WX) (pn : List (Addr × Obj)) (xe : Value → Shared → Prop), Takes (X.tr pn xe) W → PassesOwn (model X.prog X.w) X.A X.env xe → DSs (X.tr pn xe) C W body mb)
    (hsu : ∀ (a : Addr) (oe : Obj) (Ca : Addr) (d : Option Addr) (pn : List (Addr × Obj)), Zc (.ref Ca) d oe → (∃ vs, oe.data = .fields vs) → DSs (X.suite a ((a, oe) :: pn)) ⟨C.cls, some (a, Ca, d), C.slf⟩ W0x (b₀ :: suite) ms) :
    DS X C W (.Try body [.ExceptHandler (some (.Name x np)) none (b₀ :: suite) pos'] [] [] pos) (mTryO S mb ms) := by
  refine ⟨PS.imp (ps_try_only (tb := fun W => tS (kc X C) W mb) (ts := fun a cls d => fun D σ H => ∃ Ca, cls = .ref Ca ∧ tS ⟨X.K, ⟨C.cls, some (a, Ca, d), C.slf⟩⟩ W0x ms D σ H) hs hf hc tk (fun W pn xe h1 h2 => (hb W pn xe h1 h2).pss) (fun a oe cls d pn hz hv => ⟨fun pins s σ H D I ⟨Ca, e, h⟩ => ?_⟩)) fun D σ H ⟨Z, G, env, er, q⟩ => ⟨Z, G, env, er, ?_⟩⟩
  · subst e
    exact (hsu a oe Ca d pn hz hv).pss.run pins s σ H D I h
  · unfold mTryO at q
    cases hm : mb env with
    | nx e => rw [hm] at q; exact q
    | bk e => rw [hm] at q; exact q
    | ct e => rw [hm] at q; exact q
    | ret e => rw [hm] at q; exact q
    | stuck => rw [hm] at q; exact q.elim
    | exc e env1 =>
      rw [hm] at q
      dsimp only at q
      intro σ1 H1 G1 cls d sg er1 ko
      obtain ⟨Ca, k1, rfl, k3⟩ := id ko
      cases hSe : S e.cls with
      | none => rw [hSe] at q; exact q.elim
      | some b =>
        rw [hSe] at q
        refine ⟨b, hS _ _ _ hSe k1, fun hb1 a ha => ?_, fun hb0 => ?_⟩
        · subst hb1
          dsimp only at q
          refine ⟨Ca, rfl, Z, G1, _, ER.cx (K := kc X C) (K' := ⟨X.K, ⟨C.cls, some (a, Ca, d), C.slf⟩⟩) rfl rfl (fun _ z => z) hC er1, ?_⟩
          have un : ∀ {σ3 : L2.St} {H3 G3 : Hp} {e3 : Env}, ER ⟨X.K, ⟨C.cls, some (a, Ca, d), C.slf⟩⟩ Z G3 H3 σ3 e3 → ER (kc X C) Z G3 H3 σ3 (e3.map unX) := fun er3 => ER.unX (K := ⟨X.K, ⟨C.cls, some (a, Ca, d), C.slf⟩⟩) (K' := kc X C) rfl rfl (fun _ z => z) er3
          cases hq : ms env1 with
          | nx e3 => rw [hq] at q; exact fun σ3 H3 G3 s3 er3 => q _ _ _ (sg.trans s3) (un er3)
          | bk e3 => rw [hq] at q; exact fun σ3 H3 G3 s3 er3 => q _ _ _ (sg.trans s3) (un er3)
          | ct e3 => rw [hq] at q; exact fun σ3 H3 G3 s3 er3 => q _ _ _ (sg.trans s3) (un er3)
          | ret ev => rw [hq] at q; exact fun σ3 env3 v H3 G3 Hs s3 er3 hz va => q _ _ v _ _ Hs (sg.trans s3) (un er3) hz (EVok.cx (K := ⟨X.K, ⟨C.cls, some (a, Ca, d), C.slf⟩⟩) (K' := kc X C) rfl rfl (fun _ z => z) va)
          | exc e' env' => rw [hq] at q; exact q.elim
          | stuck => rw [hq] at q; exact q.elim
        · subst hb0
          dsimp only at q
          exact q σ1 H1 G1 _ d sg er1 ko
end
end DL
namespace DS
open PySem PySem.Spec PyProof.Rows L2
def kOf : Value → Key
  | .int i _ => .inl i
  | .str x _ => .inr x
  | _ => .inl 0
abbrev eK (e : Int × Value) : Key := kOf e.2
def EntOk (w : World) (e : Int × Value) : Prop := keyIs (eK e) e.2 = true ∧ e.1 = keyH w (eK e)
theorem kOf_is {k : Key} {v : Value} (h : keyIs k v = true) : kOf v = k := by
  rcases keyIs_shape h with ⟨i, t, rfl, rfl⟩ | ⟨x, t, rfl, rfl⟩ <;> rfl
theorem is_scan {k : Key} {v : Value} (h : keyIs k v = true) : v.scannable = true := by
  rcases keyIs_shape h with ⟨i, t, rfl, rfl⟩ | ⟨x, t, rfl, rfl⟩ <;> rfl
def SetW (w : World) (h : Heap) (a : Addr) (S : Key → Bool) (n : Nat) : Prop :=
  ∃ o es ep t, h.get? a = some o ∧ (o.ExactSet ∧ o.data = .set es ep t) ∧ ((∀ e ∈ es.toList, EntOk w e) ∧ (es.toList.map eK).Nodup ∧ ∀ k, S k = true ↔ k ∈ es.toList.map eK) ∧
    (es.size < scanBound ∧ t.fits es.size = true ∧ es.size = n) ∧ Ris t.place.toList ∧ (w.params.followText "set-order" = true ∨ t.led = true)
section
variable {P : Program} {w : World} {h h' : Heap} {a : Addr} {S : Key → Bool} {n : Nat}
theorem SetW.at (R : SetW w h a S n) (k : ∀ o, h.get? a = some o → h'.get? a = some o) : SetW w h' a S n :=
  let ⟨o, es, ep, t, ho, r⟩ := R
  ⟨o, es, ep, t, k o ho, r⟩
theorem SetW.congr {S' : Key → Bool} (R : SetW w h a S n) (e : ∀ k, S' k = S k) : SetW w h a S' n := (funext e : S' = S) ▸ R
theorem ents {l : List (Int × Value)} (g : ∀ e ∈ l, EntOk w e) : ElemsOf (mixKind P w) l := fun e he => ⟨⟨eK e, (g e he).1, (g e he).2⟩, is_scan (g e he).1⟩
theorem ent_is {e : Int × Value} (g : EntOk w e) (k : Key) : (mixKind P w).is k e.2 = true ↔ eK e = k := ⟨fun q => kOf_is q, fun q => q ▸ g.1⟩
theorem ent_mem {l : List (Int × Value)} (g : ∀ e ∈ l, EntOk w e) (k : Key) : k ∈ l.map eK ↔ ∃ e ∈ l, (mixKind P w).is k e.2 = true :=
  List.mem_map.trans ⟨fun ⟨e, he, q⟩ => ⟨e, he, (ent_is (g e he) k).2 q⟩, fun ⟨e, he, q⟩ => ⟨e, he, (ent_is (g e he) k).1 q⟩⟩
theorem SetW.setOf (R : SetW w h a S n) : h.SetOf (mixKind P w) a S n :=
  let ⟨o, es, ep, t, ho, ⟨hx, hd⟩, ⟨g, _, hm⟩, ⟨hb, hf, hn⟩, _⟩ := R
  ⟨o, es, ep, t, ho, hx, hd, ents g, fun k => (hm k).trans (ent_mem g k), hb, hf, hn⟩
end
section
variable {P : Program} {w : World} {A : Around} {E : Value → Shared → Prop} {s : Shared} {a : Addr} {S : Key → Bool} {n : Nat}
theorem tail_add {g : Bool → Sem Unit} (hg : ∀ (b : Bool) (z : Shared) (Q' : Unit → Shared → Prop), Q' () z → wpAny (model P w) A (g b) Q' E z)
    {o : Obj} {es : Array (Int × Value)} {ep : Nat} {t : SetTable} (ho : s.heap.get? a = some o) (hex : o.ExactSet) (hd : o.data = .set es ep t) {e1 : Array (Int × Value)} {t2 : SetTable} {S' : Key → Bool}
    (b1 : (∀ e ∈ e1.toList, EntOk w e) ∧ (e1.toList.map eK).Nodup ∧ ∀ k, S' k = true ↔ k ∈ e1.toList.map eK) (hb1 : e1.size < scanBound) (hf2 : t2.fits e1.size = true) (hr : Ris t2.place.toList)
    (hl : w.params.followText "set-order" = true ∨ t2.led = true) {dm : Bool} {R : Option Bool → Shared → Prop} (hR : ∀ h', Heap.SameBut a s.heap h' → SetW w h' a S' e1.size → R (some true) { s with heap := h' }) :
    wpAny (model P w) A (do
      storeSet a e1 t2
      if (!dm && t2.tooFull) = true then do
          g (relayAll t2 e1 (SetTable.grown e1.size)).2.2
          storeSet a (relayAll t2 e1 (SetTable.grown e1.size)).1 (relayAll t2 e1 (SetTable.grown e1.size)).2.1
          pure (some true)
        else pure (some true)) R E s := by
  refine wpAny_bind (wpAny_storeSet_of ho hd ?_ (fits_of_scanBound hb1))
  have o1 := store_at (es' := e1) (t' := t2) ho hd
  have w1 := Heap.SameBut.update s.heap a (Obj.putSet e1 t2)
  split
  · have pm := relayAll_perm t2 e1 (SetTable.grown e1.size)
    have f3 := relayAll_fits t2 e1 (SetTable.grown e1.size)
    have r3 := relayAll_ris t2 e1 (SetTable.grown e1.size)
    have l3 := relayAll_led t2 e1 (SetTable.grown e1.size)
    generalize relayAll t2 e1 (SetTable.grown e1.size) = Z at pm f3 r3 l3 ⊢
    obtain ⟨e2, t3, gv⟩ := Z
    dsimp only at pm f3 r3 l3 ⊢
    have hz : e2.size = e1.size := by rw [← Array.length_toList, pm.length_eq, Array.length_toList]
    have hz2 : e2.size < scanBound := hz ▸ hb1
    refine wpAny_bind (hg _ _ _ (wpAny_bind (wpAny_storeSet_of o1 rfl ?_ (fits_of_scanBound hz2))))
    have o2 := store_at (es' := e2) (t' := t3) o1 rfl
    refine wpAny_pure (hR _ (w1.trans (Heap.SameBut.update _ a _)) ⟨_, e2, _, t3, o2, ⟨hex, rfl⟩, ⟨fun e he => b1.1 e (pm.mem_iff.mp he), (pm.map eK).nodup_iff.mpr b1.2.1, fun k => (b1.2.2 k).trans (pm.map eK).mem_iff.symm⟩, ⟨hz2, f3, hz⟩, r3, hl.imp id fun z => by rw [l3]; exact z⟩)
  · exact wpAny_pure (hR _ w1 ⟨_, e1, _, t2, o1, ⟨hex, rfl⟩, b1, ⟨hb1, hf2, rfl⟩, hr, hl⟩)
theorem add_hashed {k : Key} {v : Value} (hv : keyIs k v = true) {Q : Bool → Shared → Prop} (R : SetW w s.heap a S n) (room : n + 1 < scanBound)
    (hQ : ∀ h', Heap.SameBut a s.heap h' → SetW w h' a (fun j => S j || decide (j = k)) (if S k = true then n else n + 1) → Q (!S k) { s with heap := h' }) :
    wpAny (model P w) A (setAddHashed a v ((mixKind P w).hash k)) Q E s := by
  obtain ⟨o, es, ep, t, ho, ⟨hex, hd⟩, ⟨g, nd, hm⟩, ⟨hb, hf, hn⟩, hr, hl⟩ := R
  have hel : ElemsOf (mixKind P w) es.toList := ents g
  unfold setAddHashed setAddHashedIn
  refine wpAny_holding (wpAny_bind (wpAny_setState_of ho hd hf ?_))
  dsimp only
  rw [byScan_of (is_scan hv) hb hel]
  simp only [↓reduceIte]
  unfold setAddByScan
  refine wpAny_bind (wpAny_bind (wpAny_rule (wpAny_bind (wpAny_setScan_of (knd := mixKind P w) hv ho hd hf hel ?_))))
  cases hfi : List.findIdx? (fun e => (mixKind P w).is k e.2) es.toList with
  | some j =>
    obtain ⟨hj, pj, _⟩ := List.findIdx?_eq_some_iff_getElem.mp hfi
    have hSk : S k = true := (hm k).2 ((ent_mem (P := P) g k).2 ⟨es.toList[j], List.getElem_mem hj, pj⟩)
    dsimp only
    refine wpAny_pure (wpAny_pure ?_)
    have q := hQ s.heap (Heap.SameBut.refl a s.heap) ⟨o, es, ep, t, ho, ⟨hex, hd⟩, ⟨g, nd, fun i => by
      rw [Bool.or_eq_true, decide_eq_true_eq, ← hm i]
      exact ⟨fun z => z.elim id (fun e => e ▸ hSk), .inl⟩⟩, ⟨hb, hf, by rw [if_pos hSk]; exact hn⟩, hr, hl⟩
    rwa [hSk] at q
  | none =>
    have hnk : k ∉ es.toList.map eK := fun z => by
      obtain ⟨e, he, q⟩ := (ent_mem (P := P) g k).1 z
      rw [List.findIdx?_eq_none_iff.mp hfi e he] at q
      cases q
    have hSk : S k = false := Bool.eq_false_iff.mpr fun q => hnk ((hm k).1 q)
    dsimp only
    have gw : ∀ (b : Bool) {z : Shared} {Q' : Unit → Shared → Prop}, Q' () z → wpAny (model P w) A (match b with | true => rule "set.scan.the-table-gave-way" | false => pure ()) Q' E z :=
      fun b z Q' q => by cases b with
        | true => exact wpAny_rule q
        | false => exact wpAny_pure q
    have pm := layNew_perm t es ((mixKind P w).hash k) v
    have f1 := layNew_fits t es ((mixKind P w).hash k) v
    have r1 := layNew_ris t es ((mixKind P w).hash k) v hr
    have l1 := layNew_led t es ((mixKind P w).hash k) v
    generalize layNew t es ((mixKind P w).hash k) v = Z at pm f1 r1 l1 ⊢
    obtain ⟨e1, t1, dm, gv⟩ := Z
    dsimp only at pm f1 r1 l1 ⊢
    rw [Array.toList_push] at pm
    have pc : e1.toList.Perm (((mixKind P w).hash k, v) :: es.toList) := pm.trans (List.perm_append_singleton _ _)
    have pk : (e1.toList.map eK).Perm (k :: es.toList.map eK) := (pc.map eK).trans (by rw [List.map_cons, show eK ((mixKind P w).hash k, v) = k from kOf_is hv])
    have b1 : (∀ e ∈ e1.toList, EntOk w e) ∧ (e1.toList.map eK).Nodup ∧ ∀ i, (S i || decide (i = k)) = true ↔ i ∈ e1.toList.map eK := ⟨fun e he => by
      rcases List.mem_cons.mp (pc.mem_iff.mp he) with z | z
      · subst z; unfold EntOk; rw [show eK ((mixKind P w).hash k, v) = k from kOf_is hv]; exact ⟨hv, rfl⟩
      · exact g e z, pk.nodup_iff.mpr (List.nodup_cons.mpr ⟨hnk, nd⟩), fun i => by
      rw [Bool.or_eq_true, decide_eq_true_eq, hm i, pk.mem_iff, List.mem_cons]
      exact Or.comm⟩
    have hz : e1.size = n + 1 := by rw [← Array.length_toList, pc.length_eq, List.length_cons, Array.length_toList, hn]
    have hb1 : e1.size < scanBound := hz ▸ room
    have led : w.params.followText "set-order" = true ∨ t1.led = true := hl.imp id fun z => l1 ▸ z
    have fin : ∀ h', Heap.SameBut a s.heap h' → SetW w h' a (fun j => S j || decide (j = k)) e1.size → Q true { s with heap := h' } := fun h' sb r => by
      have q := hQ h' sb
      rw [hSk] at q
      exact q (hz ▸ r)
    refine wpAny_bind (gw _ ?_)
    have gr : ∀ (b : Bool) (z : Shared) (Q' : Unit → Shared → Prop), Q' () z → wpAny (model P w) A (if b = true then rule "set.add.the-table-gave-way" else pure ()) Q' E z := fun b z Q' q => by cases b with
      | true => exact wpAny_rule q
      | false => exact wpAny_pure q
    split
    · refine wpAny_bind ?_
      rw [hashByValue_scannable 8 (is_scan hv)]
      refine wpAny_pure (tail_add (fun b z Q' q => ?_) ho hex hd b1 hb1 ?_ ?_ ?_ fun h' sb r => ?_)
      · cases b <;> first | exact wpAny_pure q | exact wpAny_rule q
      · first | (split <;> first | exact f1 | exact SetTable.fits_plain_off f1) | exact f1
      · first | (split <;> exact r1) | exact r1
      · first | (split <;> exact led) | exact led
      · dsimp only; exact wpAny_pure (fin h' sb r)
    · refine wpAny_bind (wpAny_pure ?_)
      simp only [↓reduceIte]
      refine tail_add (fun b z Q' q => ?_) ho hex hd b1 hb1 f1 r1 led fun h' sb r => ?_
      · cases b <;> first | exact wpAny_pure q | exact wpAny_rule q
      · dsimp only; exact wpAny_pure (fin h' sb r)
end
end DS
namespace DS
open PySem PySem.Spec PyProof.Rows L2
def KAre (us : List Value) (ks : List Key) : Prop := us.length = ks.length ∧ ∀ (i : Nat) (u : Value), us[i]? = some u → ∃ k, ks[i]? = some k ∧ keyIs k u = true
def km (j : Key) (ks : List Key) : Bool := ks.any fun k => decide (j = k)
theorem km_iff {j : Key} {ks : List Key} : km j ks = true ↔ j ∈ ks := by
  unfold km
  rw [List.any_eq_true]
  exact ⟨fun ⟨x, hx, q⟩ => (of_decide_eq_true q) ▸ hx, fun h => ⟨j, h, decide_eq_true rfl⟩⟩
abbrev emp (w : World) : Obj := { cls := .type "set", dict := none, data := .set #[] 0 (.fresh 0 0 (!w.params.followText "set-order")) }
theorem emp_at {w : World} {h : Heap} {a : Addr} {S : Key → Bool} (hS : ∀ k, S k = false) (ho : h.get? a = some (emp w)) : SetW w h a S 0 :=
  ⟨_, #[], 0, _, ho, ⟨⟨rfl, rfl, rfl⟩, rfl⟩, ⟨fun e he => by simp at he, by simp, fun k => by simp [hS k]⟩, ⟨by decide, by rfl, rfl⟩, List.Pairwise.nil, by
    show _ ∨ (!w.params.followText "set-order") = true
    cases w.params.followText "set-order" with
    | true => exact .inl rfl
    | false => exact .inr rfl⟩
section
variable {P : Program} {w : World} {A : Around} {E : Value → Shared → Prop} {s : Shared}
theorem upd_loop {I : Addr} {fp wr : List Addr} {G : Array GenState → Array GenState → Prop} {n : Nat} {Pv : Nat → Value → Prop} {St : Nat → Shared → Prop} {R : Result → Shared → Prop}
    (W : WalksS P w A.in1 I fp wr G n Pv St) (S : Addr) (hSf : S ∉ fp) (ks : List Key) (hn : n = ks.length) (hb : ks.length + 1 < scanBound) (hval : ∀ i v, Pv i v → ∃ k, ks[i]? = some k ∧ keyIs k v = true) :
    ∀ (m i : Nat) (s : Shared), n - i = m → i ≤ n → St i s → (∃ c, c ≤ i ∧ SetW w s.heap S (fun j => km j (ks.take i)) c) →
      (∀ z c, Moved (S :: wr) G s z → c ≤ n → SetW w z.heap S (fun j => km j ks) c → R (.ok (.ret .none)) z) →
      codeAny (model P w) A (.builtin "set.update.loop" ⟨[.ref S, .ref I], []⟩) R s := by
  have nSw : S ∉ wr := fun h => hSf (W.sub _ h)
  have sub : ∀ b ∈ wr, b ∈ S :: wr := fun b hb => .tail _ hb
  intro m
  induction m with
  | zero =>
    intro i s hm hi hst ⟨c, hc, hS⟩ hR
    obtain rfl : i = n := by omega
    refine codeAny_builtin F.entry_set_update_loop ?_
    rw [Around.under_plainId F.plain_set_update_loop _]
    show wpAny _ A.in1 (pyNext (.ref I) >>= _) _ _ s; refine wpAny_bind (W.done s _ _ hst fun z hz => ?_)
    show wpAny _ A.in1 (ret Value.none) _ _ z
    rw [show ks.take i = ks from List.take_of_length_le (by omega)] at hS
    exact wpAny_pure (hR z c (hz.mono sub) hc (hS.at fun o e => hz.heap S o nSw e))
  | succ m ih =>
    intro i s hm hi hst ⟨c, hc, hS⟩ hR
    have lt : i < n := by omega
    refine codeAny_builtin F.entry_set_update_loop ?_
    rw [Around.under_plainId F.plain_set_update_loop _]
    show wpAny _ A.in1 (pyNext (.ref I) >>= _) _ _ s; refine wpAny_bind (W.item i s _ _ lt hst fun v z hP hst' hz => ?_)
    obtain ⟨k, hk, hv⟩ := hval i v hP
    have hS' : SetW w z.heap S (fun j => km j (ks.take i)) c := hS.at fun o e => hz.heap S o nSw e
    show wpAny _ A.in1 (holding [v] (setAdd S v) >>= _) _ _ z
    refine wpAny_bind (wpAny_holding ?_)
    unfold setAdd
    refine wpAny_holding (wpAny_bind ((mixKind P w).pyHash (k := k) hv ?_))
    refine add_hashed (s := { z with toks := z.toks + 1 }) hv hS' (by omega) fun h' sb hS2 => ?_
    have hS3 : SetW w h' S (fun j => km j (ks.take (i + 1))) (if km k (ks.take i) = true then c else c + 1) := hS2.congr fun j => by
      rw [List.take_add_one, hk]
      unfold km
      simp
    have hc3 : (if km k (ks.take i) = true then c else c + 1) ≤ i + 1 := by split <;> omega
    refine wpAny_pure ⟨plainId_quiet F.plain_set_update_loop _, ih (i + 1) _ (by omega) lt (W.frame _ z _ _ hst' (Nat.le_succ _) fun b hb o e => ?_) ⟨_, hc3, hS3⟩ fun z2 c2 m2 h2 S2 => hR z2 c2 (Moved.trans W.gtrans ((hz.mono sub).then_heap (Nat.le_succ _) fun b o hb e => ?_) m2) h2 S2⟩
    · rw [sb.2 b fun q : b = S => hSf (q ▸ hb)]; exact e
    · rw [sb.2 b fun q : b = S => hb (q ▸ List.mem_cons_self)]; exact e
theorem call_setL {l : Addr} {items : Array Value} (ks : List Key) {Q : Value → Shared → Prop} (hh : A.handled = none) (hl : s.heap.IsList l items) (hit : KAre items.toList ks) (hb : ks.length + 1 < scanBound)
    (h : ∀ (h' : Heap) (tk c : Nat), SetW w h' s.heap.objs.size (fun j => km j ks) c → c ≤ ks.length → (∀ b o, s.heap.get? b = some o → h'.get? b = some o) → Q (.ref s.heap.objs.size) { s with heap := h', toks := tk }) :
    wpAny (model P w) A (call (.type "set") [.ref l]) Q E s := by
  have hisz : items.size = ks.length := by rw [← hit.1, Array.length_toList]
  obtain ⟨c, tl, hmro⟩ := F.called_set.mro
  have m1 := F.called_set.made; have m2 := F.called_set.sub
  refine wpAny_call (codeAny_of_tree (show wpAny _ _ (callAny (.type "set") _) _ _ _ from ?_))
  refine wpAny_pure ⟨Code.quiet_builtin _ (by decide +kernel), codeAny_builtin F.entry_type_call ?_⟩
  rw [Around.under_plain (weight_type_call_type "set" [.ref l] []) rfl]
  have m3 := F.called_set.notType; have m4 := F.called_set.canCreate; have m5 := F.typeCall_set_1 (.ref l)
  repeat (any_goals (first | assumption | wp_step))
  refine codeAny_mono (code_set_led1 (.ref l) (E := E) (Q₁ := fun obj z => obj = .ref s.heap.objs.size ∧ z = { s with heap := s.heap.push (emp w) }) ⟨rfl, rfl⟩) fun r z hr => ?_
  match r, hr with
  | .error e, hr => exact hr
  | .ok (.next), hr => exact hr.elim
  | .ok (.brk), hr => exact hr.elim
  | .ok (.cont), hr => exact hr.elim
  | .ok (.ret obj), hr =>
    obtain ⟨rfl, rfl⟩ := hr
    have hS : (s.heap.push (emp w)).get? s.heap.objs.size = some (emp w) := Heap.get?_push_size _ rfl
    have hT : Shared.TypeIs { s with heap := s.heap.push (emp w) } (.ref s.heap.objs.size) "set" := ⟨_, hS, rfl⟩
    have i1 := F.called_set.init.lookup; have i2 := F.called_set.init.bind (.ref s.heap.objs.size)
    repeat (any_goals (first | assumption | wp_step))
    refine codeAny_mono (codeAny_call_builtin (R := wants (fun r z => r = .none ∧ ∃ h' tk c, z = { s with heap := h', toks := tk } ∧ SetW w h' s.heap.objs.size (fun j => km j ks) c ∧ c ≤ ks.length ∧
        (∀ b o, s.heap.get? b = some o → h'.get? b = some o)) E) F.called_set.init.plain F.entry_set_init (check_set_init_1 hT ?_)) fun r2 z2 hr2 => ?_
    · obtain ⟨⟨ocls, odict, odata, oslots⟩, hol, hcl, nl, hdl⟩ := hl
      simp only at hcl hdl
      subst hcl; subst hdl
      have hol' : (s.heap.push (emp w)).get? l = some { cls := .type "list", dict := odict, data := .seq items nl, slots := oslots } := Heap.get?_push_of_some _ hol
      have q1 := F.sub_list_set; have q2 := F.sub_list_frozenset
      have q3 : (Value.type "list" == Value.type "dict") = false := by decide
      have hl1 : (s.heap.push (emp w)).IsList l items := ⟨_, hol', rfl, nl, rfl⟩
      unfold Builtin.«set.__init__» noKeywords Builtin.Frozenset.updateFrom
      generalize hPI : pyIter = PI
      wp_walk
      subst hPI
      refine wpAny_pyIter_list hl1 (wpAny_bind (wpAny_runValue ?_))
      have hlS : l < s.heap.objs.size := Heap.lt_size hol
      have hz1 : (s.heap.push (emp w)).objs.size = s.heap.objs.size + 1 := Heap.size_push ..
      have n1 : l ≠ (s.heap.push (emp w)).objs.size := by rw [hz1]; exact Nat.ne_of_lt (Nat.lt_succ_of_lt hlS)
      have n2 : s.heap.objs.size ∉ [(s.heap.push (emp w)).objs.size, l] := by
        rw [hz1]
        simp only [List.mem_cons, List.not_mem_nil, or_false, not_or]
        exact ⟨Nat.ne_of_lt (Nat.lt_succ_self _), Nat.ne_of_gt hlS⟩
      refine upd_loop ((Walks.list (show A.in1.in1.in1.handled = none by simp [hh]) _ l n1 items).toS) s.heap.objs.size n2 ks hisz hb (fun i v hv => hit.2 i v (by rw [Array.getElem?_toList]; exact hv)) (items.size - 0) 0 _ (by omega) (Nat.zero_le _)
        ⟨⟨_, Heap.get?_push_size _ rfl, rfl, rfl⟩, (hl1.push _)⟩ ⟨0, Nat.le_refl 0, emp_at (fun k => by simp [km]) (Heap.get?_push_of_some _ hS)⟩ fun z c' hm hc' hS' => ?_
      obtain ⟨h', g2, d2, tk2, o2⟩ := z
      obtain rfl : g2 = s.gens := hm.gens
      obtain rfl : d2 = s.drawn := hm.drawn
      obtain rfl : o2 = s.os := hm.os
      show wpAny _ _ _ _ _ _
      refine wpAny_pure ?_
      show wpAny _ _ (ret Value.none) _ _ _; refine wpAny_pure ⟨rfl, h', tk2, c', rfl, hS', hisz ▸ hc', fun b o e => ?_⟩
      have hb0 : b < s.heap.objs.size := Heap.lt_size e
      exact hm.heap b o (by
        rw [hz1]
        simp only [List.mem_cons, List.not_mem_nil, or_false, not_or]
        exact ⟨Nat.ne_of_lt hb0, Nat.ne_of_lt (Nat.lt_succ_of_lt hb0)⟩) (Heap.get?_push_of_some _ (Heap.get?_push_of_some _ e))
    · match r2, hr2 with
      | .error e, hr2 => exact hr2
      | .ok (.next), hr2 => exact hr2.elim
      | .ok (.brk), hr2 => exact hr2.elim
      | .ok (.cont), hr2 => exact hr2.elim
      | .ok (.ret r), hr2 =>
        obtain ⟨rfl, h', tk, c', rfl, a1, a2, a3⟩ := hr2
        repeat (any_goals (first | assumption | wp_step))
        exact h _ _ _ a1 a2 a3
theorem call_setT {l : Addr} {items : Array Value} (ks : List Key) {Q : Value → Shared → Prop} (hh : A.handled = none) (hl : s.heap.IsTuple l items) (hit : KAre items.toList ks) (hb : ks.length + 1 < scanBound)
    (h : ∀ (h' : Heap) (tk c : Nat), SetW w h' s.heap.objs.size (fun j => km j ks) c → c ≤ ks.length → (∀ b o, s.heap.get? b = some o → h'.get? b = some o) → Q (.ref s.heap.objs.size) { s with heap := h', toks := tk }) :
    wpAny (model P w) A (call (.type "set") [.ref l]) Q E s := by
  have hisz : items.size = ks.length := by rw [← hit.1, Array.length_toList]
  obtain ⟨c, tl, hmro⟩ := F.called_set.mro
  have m1 := F.called_set.made; have m2 := F.called_set.sub
  refine wpAny_call (codeAny_of_tree (show wpAny _ _ (callAny (.type "set") _) _ _ _ from ?_))
  refine wpAny_pure ⟨Code.quiet_builtin _ (by decide +kernel), codeAny_builtin F.entry_type_call ?_⟩
  rw [Around.under_plain (weight_type_call_type "set" [.ref l] []) rfl]
  have m3 := F.called_set.notType; have m4 := F.called_set.canCreate; have m5 := F.typeCall_set_1 (.ref l)
  repeat (any_goals (first | assumption | wp_step))
  refine codeAny_mono (code_set_led1 (.ref l) (E := E) (Q₁ := fun obj z => obj = .ref s.heap.objs.size ∧ z = { s with heap := s.heap.push (emp w) }) ⟨rfl, rfl⟩) fun r z hr => ?_
  match r, hr with
  | .error e, hr => exact hr
  | .ok (.next), hr => exact hr.elim
  | .ok (.brk), hr => exact hr.elim
  | .ok (.cont), hr => exact hr.elim
  | .ok (.ret obj), hr =>
    obtain ⟨rfl, rfl⟩ := hr
    have hS : (s.heap.push (emp w)).get? s.heap.objs.size = some (emp w) := Heap.get?_push_size _ rfl
    have hT : Shared.TypeIs { s with heap := s.heap.push (emp w) } (.ref s.heap.objs.size) "set" := ⟨_, hS, rfl⟩
    have i1 := F.called_set.init.lookup; have i2 := F.called_set.init.bind (.ref s.heap.objs.size)
    repeat (any_goals (first | assumption | wp_step))
    refine codeAny_mono (codeAny_call_builtin (R := wants (fun r z => r = .none ∧ ∃ h' tk c, z = { s with heap := h', toks := tk } ∧ SetW w h' s.heap.objs.size (fun j => km j ks) c ∧ c ≤ ks.length ∧
        (∀ b o, s.heap.get? b = some o → h'.get? b = some o)) E) F.called_set.init.plain F.entry_set_init (check_set_init_1 hT ?_)) fun r2 z2 hr2 => ?_
    · obtain ⟨⟨ocls, odict, odata, oslots⟩, hol, hcl, nl, hdl⟩ := hl
      simp only at hcl hdl
      subst hcl; subst hdl
      have hol' : (s.heap.push (emp w)).get? l = some { cls := .type "tuple", dict := odict, data := .seq items nl, slots := oslots } := Heap.get?_push_of_some _ hol
      have q1 := F.sub_tuple_set; have q2 := F.sub_tuple_frozenset
      have q3 : (Value.type "tuple" == Value.type "dict") = false := by decide
      have hl1 : (s.heap.push (emp w)).IsTuple l items := ⟨_, hol', rfl, nl, rfl⟩
      unfold Builtin.«set.__init__» noKeywords Builtin.Frozenset.updateFrom
      generalize hPI : pyIter = PI
      wp_walk
      subst hPI
      refine wpAny_pyIter_tuple hl1 (wpAny_bind (wpAny_runValue ?_))
      have hlS : l < s.heap.objs.size := Heap.lt_size hol
      have hz1 : (s.heap.push (emp w)).objs.size = s.heap.objs.size + 1 := Heap.size_push ..
      have n1 : l ≠ (s.heap.push (emp w)).objs.size := by rw [hz1]; exact Nat.ne_of_lt (Nat.lt_succ_of_lt hlS)
      have n2 : s.heap.objs.size ∉ [(s.heap.push (emp w)).objs.size, l] := by
        rw [hz1]
        simp only [List.mem_cons, List.not_mem_nil, or_false, not_or]
        exact ⟨Nat.ne_of_lt (Nat.lt_succ_self _), Nat.ne_of_gt hlS⟩
      refine upd_loop ((Walks.tuple (show A.in1.in1.in1.handled = none by simp [hh]) _ l n1 items).toS) s.heap.objs.size n2 ks hisz hb (fun i v hv => hit.2 i v (by rw [Array.getElem?_toList]; exact hv)) (items.size - 0) 0 _ (by omega) (Nat.zero_le _)
        ⟨⟨_, Heap.get?_push_size _ rfl, rfl, rfl⟩, (hl1.push _)⟩ ⟨0, Nat.le_refl 0, emp_at (fun k => by simp [km]) (Heap.get?_push_of_some _ hS)⟩ fun z c' hm hc' hS' => ?_
      obtain ⟨h', g2, d2, tk2, o2⟩ := z
      obtain rfl : g2 = s.gens := hm.gens
      obtain rfl : d2 = s.drawn := hm.drawn
      obtain rfl : o2 = s.os := hm.os
      show wpAny _ _ _ _ _ _
      refine wpAny_pure ?_
      show wpAny _ _ (ret Value.none) _ _ _; refine wpAny_pure ⟨rfl, h', tk2, c', rfl, hS', hisz ▸ hc', fun b o e => ?_⟩
      have hb0 : b < s.heap.objs.size := Heap.lt_size e
      exact hm.heap b o (by
        rw [hz1]
        simp only [List.mem_cons, List.not_mem_nil, or_false, not_or]
        exact ⟨Nat.ne_of_lt hb0, Nat.ne_of_lt (Nat.lt_succ_of_lt hb0)⟩) (Heap.get?_push_of_some _ (Heap.get?_push_of_some _ e))
    · match r2, hr2 with
      | .error e, hr2 => exact hr2
      | .ok (.next), hr2 => exact hr2.elim
      | .ok (.brk), hr2 => exact hr2.elim
      | .ok (.cont), hr2 => exact hr2.elim
      | .ok (.ret r), hr2 =>
        obtain ⟨rfl, h', tk, c', rfl, a1, a2, a3⟩ := hr2
        repeat (any_goals (first | assumption | wp_step))
        exact h _ _ _ a1 a2 a3
end
end DS
namespace DS
open PySem PySem.Spec PyProof.Rows L2 DL
def Asc (l : List Str) : Prop := l.Pairwise fun a b => a.cps.toList < b.cps.toList
theorem str_eq {a b : Str} (h : a.cps.toList = b.cps.toList) : a = b := by
  cases a; cases b
  congr
  exact Array.toList_inj.mp h
theorem nlt_total {a b : List Nat} (h1 : ¬ a < b) (h2 : ¬ b < a) : a = b := List.le_antisymm (List.not_lt.mp h2) (List.not_lt.mp h1)
theorem asc_of : ∀ {l : List Str}, sortedS l = true → l.Nodup → Asc l := by
  have key : ∀ (l : List Str) (p : Str), risingS p l = true → (p :: l).Nodup → Asc (p :: l) := by
    intro l
    induction l with
    | nil => intro p _ _; exact List.pairwise_singleton _ _
    | cons x r ih =>
      intro p h d
      unfold risingS at h
      rw [Bool.and_eq_true, Bool.not_eq_true', ltCps_eq] at h
      obtain ⟨d1, d2⟩ := List.nodup_cons.mp d
      have i := ih x h.2 d2
      have lt : p.cps.toList < x.cps.toList := by
        by_cases q : p.cps.toList < x.cps.toList
        · exact q
        · exact absurd (str_eq (nlt_total q (of_decide_eq_false h.1))) fun e => d1 (e ▸ List.mem_cons_self)
      refine List.pairwise_cons.mpr ⟨fun y hy => ?_, i⟩
      rcases List.mem_cons.mp hy with rfl | hy
      · exact lt
      · exact List.lt_trans lt ((List.pairwise_cons.mp i).1 y hy)
  intro l h d
  cases l with
  | nil => exact List.Pairwise.nil
  | cons p r => exact key r p h d
theorem asc_ext : ∀ {l m : List Str}, Asc l → Asc m → (∀ x, x ∈ l ↔ x ∈ m) → l = m
  | [], [], _, _, _ => rfl
  | [], y :: m, _, _, h => absurd ((h y).2 List.mem_cons_self) (by simp)
  | x :: l, [], _, _, h => absurd ((h x).1 List.mem_cons_self) (by simp)
  | x :: l, y :: m, hl, hm, h => by
    obtain ⟨a1, a2⟩ := List.pairwise_cons.mp hl
    obtain ⟨b1, b2⟩ := List.pairwise_cons.mp hm
    have e : x = y := by
      rcases List.mem_cons.mp ((h x).1 List.mem_cons_self) with e | e
      · exact e
      rcases List.mem_cons.mp ((h y).2 List.mem_cons_self) with e2 | e2
      · exact e2.symm
      exact absurd (List.lt_trans (b1 x e) (a1 y e2)) (List.lt_irrefl _)
    subst e
    congr 1
    refine asc_ext a2 b2 fun z => ⟨fun q => ?_, fun q => ?_⟩
    · rcases List.mem_cons.mp ((h z).1 (.tail _ q)) with e | e
      · exact absurd (a1 z q) (e ▸ List.lt_irrefl _)
      · exact e
    · rcases List.mem_cons.mp ((h z).2 (.tail _ q)) with e | e
      · exact absurd (b1 z q) (e ▸ List.lt_irrefl _)
      · exact e
def insU (x : Str) : List Str → List Str
  | [] => [x]
  | y :: r => if strLt x y = true then x :: y :: r else if x = y then y :: r else y :: insU x r
def sortU (l : List Str) : List Str := l.foldr insU []
theorem strLt_iff {x y : Str} : strLt x y = true ↔ x.cps.toList < y.cps.toList := by
  exact decide_eq_true_iff
theorem mem_insU {x z : Str} : ∀ {l : List Str}, z ∈ insU x l ↔ z = x ∨ z ∈ l
  | [] => by simp [insU]
  | y :: r => by
    unfold insU
    split
    · simp
    split
    · rename_i h; subst h; simp
    · rw [List.mem_cons, mem_insU, List.mem_cons]
      exact ⟨fun h => h.elim (fun e => .inr (.inl e)) fun h => h.elim .inl fun h => .inr (.inr h), fun h => h.elim (fun e => .inr (.inl e)) fun h => h.elim .inl fun h => .inr (.inr h)⟩
theorem asc_insU {x : Str} : ∀ {l : List Str}, Asc l → Asc (insU x l)
  | [], _ => List.pairwise_singleton _ _
  | y :: r, h => by
    obtain ⟨a1, a2⟩ := List.pairwise_cons.mp h
    unfold insU
    split
    · rename_i q
      have q := strLt_iff.mp q
      exact List.pairwise_cons.mpr ⟨fun z hz => (List.mem_cons.mp hz).elim (fun e => e ▸ q) fun hz => List.lt_trans q (a1 z hz), h⟩
    split
    · exact h
    · rename_i q1 q2
      refine List.pairwise_cons.mpr ⟨fun z hz => ?_, asc_insU a2⟩
      rcases mem_insU.mp hz with e | e
      · subst e
        by_cases q : y.cps.toList < z.cps.toList
        · exact q
        · exact absurd (str_eq (nlt_total (fun e => q1 (strLt_iff.mpr e)) q)) q2
      · exact a1 z e
theorem mem_sortU {z : Str} : ∀ {l : List Str}, z ∈ sortU l ↔ z ∈ l
  | [] => by simp [sortU]
  | x :: l => by
    show z ∈ insU x (sortU l) ↔ _
    rw [mem_insU, mem_sortU, List.mem_cons]
theorem asc_sortU : ∀ (l : List Str), Asc (sortU l)
  | [] => List.Pairwise.nil
  | x :: l => asc_insU (asc_sortU l)
theorem sortU_of {l m : List Str} (h : Asc m) (k : ∀ x, x ∈ m ↔ x ∈ l) : m = sortU l := asc_ext h (asc_sortU l) fun x => (k x).trans mem_sortU.symm
section
variable {P : Program} {w : World} {A : Around} {E : Value → Shared → Prop} {s : Shared} {a : Addr}
def txOf : Value → Str
  | .str x _ => x
  | _ => Str.empty
theorem tx_of {v : Value} {x : Str} (h : keyIs (.inr x) v = true) : ∃ t, v = .str x t := by
  rcases keyIs_shape h with ⟨i, t, e, _⟩ | ⟨y, t, e, q⟩
  · cases e
  · cases e; exact ⟨t, q⟩
theorem sorted_setW {S : Key → Bool} {n : Nat} {Q : Value → Shared → Prop} (R : SetW w s.heap a S n) (hh : A.handled = none) (hn : n ≤ 16777216) (hS : ∀ k, S k = true → ∃ x, k = .inr x)
    (hQ : ∀ z p (out : Array Value) (c : Nat) (ys : List Str), (∀ b o, s.heap.get? b = some o → z.heap.get? b = some o) → z.gens = s.gens → z.os = s.os → s.heap.objs.size ≤ p →
      z.heap.get? p = some (seqObj "list" out c) → StrsAre out.toList ys → Asc ys → (∀ x, x ∈ ys ↔ S (.inr x) = true) → ys.length = n → Q (.ref p) z) :
    wpAny (model P w) A (call (.builtin "sorted") [.ref a]) Q E s := by
  obtain ⟨o, es, ep, t, ho, ⟨hex, hd⟩, ⟨g, nd, hm⟩, ⟨hb, hf, hz⟩, hr, hl⟩ := R
  refine Calls.call_function_entry kind_sorted plain_sorted entry_sorted (args_sorted1 _) ?_
  unfold Builtin.«sorted»
  refine wpAny_bind (m := checkCount "sorted" 1 1 _) (wpAny_pure (wpAny_bind (collect_set (A := A.in1) hh ⟨o, ho, hex.1, hd⟩ hf hb hr hl fun s1 vs k1 z1 g1 o1 pm => ?_)))
  have hvl : vs.length = n := by rw [pm.length_eq, List.length_map, Array.length_toList]; exact hz
  have all : ∀ e ∈ es.toList, eK e = .inr (txOf e.2) ∧ ∃ t, e.2 = .str (txOf e.2) t := fun e he => by
    obtain ⟨x, hx⟩ := hS (eK e) ((hm _).2 (List.mem_map_of_mem he))
    have q := (g e he).1
    rw [hx] at q
    obtain ⟨t, ht⟩ := tx_of q
    refine ⟨?_, t, ?_⟩
    · rw [hx, ht]; rfl
    · rw [ht]; rfl
  have hI : StrsAre vs (vs.map strOf) := strsAre_map vs fun v hv => by
    obtain ⟨e, he, q⟩ := List.mem_map.mp (pm.mem_iff.mp hv)
    obtain ⟨_, t, ht⟩ := all e he
    exact ⟨_, t, q ▸ ht⟩
  have pk : ((vs.map strOf).map Sum.inr).Perm (es.toList.map eK) := by
    have q := (pm.map strOf).map (Sum.inr : Str → Key)
    rw [List.map_map, List.map_map] at q
    refine (by simpa using q : ((vs.map strOf).map Sum.inr).Perm _).trans (.of_eq ?_)
    refine List.map_congr_left fun e he => ?_
    obtain ⟨h1, t, ht⟩ := all e he
    rw [h1]
    show (Sum.inr (strOf e.2) : Key) = _
    rw [ht]; rfl
  refine wpAny_bind (wpAny_newList ?_ (by rw [hvl, sizeLine_eq]; omega))
  have hoL : (s1.heap.push (seqObj "list" vs.toArray 0)).get? s1.heap.objs.size = some (seqObj "list" vs.toArray 0) := Heap.get?_push_size _ rfl
  refine wpAny_bind (wpAny_holding (wpAny_call_entry slot_list_sort ⟨_, hoL, rfl⟩ entry_list_sort (list_sort_treeKAny strKind_oneLt hoL hI.keysOf (fun v₁ v₂ rest e => keyKind_strs (by rw [← e]; exact hI)) (by rw [hvl, sizeLine_eq]; exact hn) fun st' hp hs => ?_) (args_list_sort _)))
  obtain ⟨ys, a1, a2, a3⟩ := sorted_out_str hI hp hs
  obtain ⟨c, hc⟩ := sortedHeap_at (vs := vs) (out := (arrOf st').map (·.2)) hoL
  have pn : (ys.map Sum.inr).Perm (es.toList.map eK) := (a2.map _).trans pk
  have nd2 : ys.Nodup := (pn.nodup_iff.mpr nd).of_map _ fun _ _ h e => h (congrArg Sum.inr e)
  refine ⟨_, rfl, wpAny_pure ⟨_, rfl, hQ _ s1.heap.objs.size ((arrOf st').map (·.2)) c ys (fun b u e => ?_) g1 o1 z1 hc a1 (asc_of a3 nd2) (fun x => ?_) ?_⟩⟩
  · have q := k1 b u e
    have lt := Heap.lt_size q
    show (sortedHeap (s1.heap.push (seqObj "list" vs.toArray 0)) s1.heap.objs.size vs ((arrOf st').map (·.2))).get? b = some u
    rw [sortedHeap_old (Nat.ne_of_lt lt) (by rw [size_push']; exact Nat.lt_succ_of_lt lt)]
    exact Heap.get?_push_of_some _ q
  · rw [hm (.inr x), ← pn.mem_iff, List.mem_map]
    exact ⟨fun h => ⟨x, h, rfl⟩, fun ⟨y, hy, e⟩ => by cases e; exact hy⟩
  · have q := pn.length_eq
    simp only [List.length_map, Array.length_toList] at q
    exact q.trans hz
end
end DS
namespace DS
open PySem PySem.Spec PyProof.Rows L2 DL
def SWO (w : World) (a : Addr) (S : Key → Bool) (n : Nat) : HO := .ext fun h => SetW w h a S n
section
variable {X : Cx}
theorem swo_new {w : World} {P : Program} {H : Hp} {h : Heap} {a : Addr} {S : Key → Bool} {n : Nat} (R : SetW w h a S n) : ObjOk P w H h a (SWO w a S n) :=
  have ⟨o, _, _, _, ho, _⟩ := R
  ⟨R, ⟨o, ho⟩, fun h1 h2 p k => SetW.at p k⟩
theorem swo_get {pins : List (Addr × Obj)} {σ : L2.St} {H : Hp} {s : Shared} {a : Addr} {S : Key → Bool} {n : Nat} (I : Inv X pins σ H s) (ha : H a = some (SWO X.w a S n)) : SetW X.w s.heap a S n := (I.hok a _ ha).1
theorem kare_of {us : List Value} {ks : List Key} (r : Vals (ks.map kV) us) : KAre us ks := by
  refine ⟨by rw [← r.length, List.length_map], fun i u h => ?_⟩
  have hl : i < ks.length := by
    have := (List.getElem?_eq_some_iff.mp h).1
    rw [← r.length, List.length_map] at this
    exact this
  refine ⟨ks[i], List.getElem?_eq_getElem hl, ?_⟩
  obtain ⟨v, e, q⟩ := Vals.get (x := kV ks[i]) r (by rw [List.getElem?_map, List.getElem?_eq_getElem hl]; rfl)
  rw [h] at e; cases e
  cases hk : ks[i] with
  | inl j => rw [hk] at q; obtain ⟨t, rfl⟩ := q; exact keyIs_int j t
  | inr x => rw [hk] at q; obtain ⟨t, rfl⟩ := q; exact keyIs_str x t
def rSetW (K : PySem.W.Frag) (w : World) : List V → Hp → VK → Prop := fun xs H Q => ∃ (l : Addr) (ks : List Key), xs = [V.ref l] ∧ (SqL K H l (ks.map kV) ∨ SqT K H l (ks.map kV)) ∧ ks.length + 1 < scanBound ∧
  ∀ p c, H p = none → c ≤ ks.length → Q (.ref p) (upd H p (SWO w p (fun k => km k ks) c))
theorem cr_setW (hc : X.calm = true) : CallR X (.type "set") (rSetW X.K X.w) := by
  intro pins s σ H xs us Q I r h
  obtain ⟨l, ks, rfl, hl, hb, q⟩ := h
  rw [Vals.ref1 r]
  have fin : ∀ (h' : Heap) (tk c : Nat), SetW X.w h' s.heap.objs.size (fun j => km j ks) c → c ≤ ks.length → (∀ b o, s.heap.get? b = some o → h'.get? b = some o) → EP X pins σ Q (.ref s.heap.objs.size) { s with heap := h', toks := tk } := fun h' tk c R hc k =>
    ⟨.ref s.heap.objs.size, upd H s.heap.objs.size (SWO X.w s.heap.objs.size (fun j => km j ks) c), I.laid (t' := tk) k (Nat.le_refl _) (swo_new R), rfl, q _ c (I.hok.fresh (Nat.le_refl _)) hc⟩
  rcases hl with hl | hl
  · obtain ⟨its, rv, pl, hz⟩ := I.list hl
    exact call_setL (P := X.prog) ks (I.ok.hd hc) pl.isList (by simpa using kare_of rv) hb fin
  · obtain ⟨its, rv, pl, hz⟩ := I.tuple hl
    exact call_setT (P := X.prog) ks (I.ok.hd hc) (show s.heap.IsTuple l its.toArray from pl) (by simpa using kare_of rv) hb fin
def rSortW (w : World) : List V → Hp → VK → Prop := fun vs H Q => ∃ (a : Addr) (S : Key → Bool) (n : Nat), vs = [V.ref a] ∧ H a = some (SWO w a S n) ∧ n ≤ 16777216 ∧ (∀ k, S k = true → ∃ x, k = .inr x) ∧
  ∀ (ys : List Str) (p : Addr), Asc ys → (∀ x, x ∈ ys ↔ S (.inr x) = true) → ys.length = n → H p = none → Q (.ref p) (upd H p (.lst (ys.map V.str)))
theorem cr_sortW (hc : X.calm = true) : CallR X (.builtin "sorted") (rSortW X.w) := by
  intro pins s σ H vs us Q I r h
  obtain ⟨a, S, n, rfl, ha, h64, hS, q⟩ := h
  rw [Vals.ref1 r]
  refine sorted_setW (P := X.prog) (swo_get I ha) (I.ok.hd hc) h64 hS fun z p out c ys k g o hp hg hi hs hm hl => ?_
  have hlen : (ys.map V.str).length ≤ sizeLine := by rw [List.length_map, hl, sizeLine_eq]; exact h64
  have hn : H p = none := I.hok.fresh hp
  have J : Inv X pins σ (upd H p (.lst (ys.map V.str))) { s with heap := z.heap, gens := z.gens, drawn := z.drawn, toks := z.toks } :=
    I.call (ch := []) (Un.laid k hp hn) (I.hok.laid k hp ⟨hlen, out.toList, c, vals_of_strs hi, hg⟩) (by rw [g]; exact I.bare) fun _ z => nomatch z
  have e : z = { s with heap := z.heap, gens := z.gens, drawn := z.drawn, toks := z.toks } := by
    cases z; cases s; cases o; rfl
  rw [e]
  exact ⟨.ref p, _, J, rfl, q ys p hs hm hl hn⟩
end
end DS
namespace DL
open PySem PySem.Spec PyProof.Rows L2
def sortSetD (a : EV) : Rz EV := match a.d with
  | .lst ds => orStuck (strsD ds) >>= fun ys => if ys.length < 4000 then .ok (.ow true (.lst ((DS.sortU ys).map .str))) else .stuck
  | .tup ds => orStuck (strsD ds) >>= fun ys => if ys.length < 4000 then .ok (.ow true (.lst ((DS.sortU ys).map .str))) else .stuck
  | _ => .stuck
def mSortSet (m : Env → Rz EV) : Env → Rz EV := fun env => m env >>= sortSetD
theorem sortSet_inv {ds : List D} {ev : EV} (h : (orStuck (strsD ds) >>= fun ys => if ys.length < 4000 then (Rz.ok (EV.ow true (.lst ((DS.sortU ys).map .str)))) else .stuck) = .ok ev) : ∃ ys : List Str, ds = ys.map D.str ∧ ys.length < 4000 ∧ ev = .ow true (.lst ((DS.sortU ys).map .str)) := by
  cases q : strsD ds with
  | none => rw [q] at h; cases h
  | some ys =>
    rw [q] at h
    simp only [orStuck_some, Rz.ok_bind] at h
    by_cases z : ys.length < 4000
    · rw [if_pos z] at h; cases h; exact ⟨ys, strsD_ok q, z, rfl⟩
    · rw [if_neg z] at h; cases h
theorem sortSet_exc {a : EV} {e : Exn} : sortSetD a ≠ .exc e := by
  unfold sortSetD
  intro h
  have key : ∀ ds : List D, (orStuck (strsD ds) >>= fun ys => if ys.length < 4000 then (Rz.ok (EV.ow true (.lst ((DS.sortU ys).map .str)))) else .stuck) ≠ .exc e := fun ds h => by
    cases q : strsD ds with
    | none => rw [q] at h; cases h
    | some ys =>
      rw [q] at h
      simp only [orStuck_some, Rz.ok_bind] at h
      split at h <;> cases h
  split at h
  · exact key _ h
  · exact key _ h
  · cases h
section
variable {X : Cx} {C : CT} {W : WX}
theorem sortSet_of {K : KC} {H : Hp} {v : V} {a : EV} {ev : EV} (r : Rep K H v a.d) (h : sortSetD a = .ok ev) : ∃ l, ∃ ys : List Str, v = .ref l ∧ (SqL K.K H l ((ys.map (Sum.inr : Str → Key)).map kV) ∨ SqT K.K H l ((ys.map (Sum.inr : Str → Key)).map kV)) ∧ ys.length < 4000 ∧ ev = .ow true (.lst ((DS.sortU ys).map .str)) := by
  unfold sortSetD at h
  split at h
  · rename_i ds e
    obtain ⟨ys, rfl, h1, h2⟩ := sortSet_inv h
    rw [e] at r
    cases r with
    | lst s rs => exact ⟨_, ys, rfl, .inl (by rw [List.map_map, show kV ∘ Sum.inr = V.str from rfl, ← Reps.of_strs rs]; exact .of s), h1, h2⟩
  · rename_i ds e
    obtain ⟨ys, rfl, h1, h2⟩ := sortSet_inv h
    rw [e] at r
    cases r with
    | tup s rs => exact ⟨_, ys, rfl, .inr (by rw [List.map_map, show kV ∘ Sum.inr = V.str from rfl, ← Reps.of_strs rs]; exact s), h1, h2⟩
  · cases h
theorem de_sortSet {e : Expr} {m : Env → Rz EV} {p p2 pos pos2 : Pos} (h : DE X C W e m) (hc : X.calm = true := by rfl) (hm : X.mg "sorted" = none) (hm2 : X.mg "set" = none) (hg : Gl X "sorted" := by rfl) (hg2 : Gl X "set" := by rfl)
    (h1 : starEach [.Call (.Name "set" p2) [e] [] pos2] X.env = [(false, eval (.Call (.Name "set" p2) [e] [] pos2) X.env)] := by rfl) (h2 : starEach [e] X.env = [(false, eval e X.env)] := by rfl) :
    DE X C W (.Call (.Name "sorted" p) [.Call (.Name "set" p2) [e] [] pos2] [] pos) (mSortSet m) :=
  ⟨PE.imp (pe_callB (DS.cr_sortW hc) hg hm (by rfl) (pa_cons (pe_callTy (DS.cr_setW hc) hg2 hm2 (by rfl) (pa_cons h.pe pa_nil h2) (by decide) (by decide) h2 (by rfl)) pa_nil h1) (by decide) (by decide) h1 (by rfl)) fun σ H Q ⟨Z, G, env, er, q⟩ => by
    unfold mSortSet at q
    refine ⟨Z, G, env, er, ?_⟩
    cases ha : m env with
    | stuck => rw [ha] at q; exact q.elim
    | exc e => rw [ha] at q; exact q
    | ok a =>
      rw [ha] at q
      simp only [Rz.ok_bind] at q
      intro v G1 H1 x1 va
      cases hs : sortSetD a with
      | stuck => rw [hs] at q; exact q.elim
      | exc e => exact absurd hs sortSet_exc
      | ok ev =>
        rw [hs] at q
        obtain ⟨l, ys, rfl, hl, hn, rfl⟩ := sortSet_of (va.rep x1.s) hs
        refine ⟨l, ys.map Sum.inr, rfl, hl, by rw [List.length_map]; show _ < 4096; omega, fun p c hp hcn => ?_⟩
        rw [List.length_map] at hcn
        refine ⟨p, _, c, rfl, upd_same, by omega, fun k hk => ?_, fun zs p2 h1 h2 h3 hp2 => ?_⟩
        · obtain ⟨x, _, e⟩ := List.mem_map.mp (DS.km_iff.mp hk)
          exact ⟨x, e.symm⟩
        · have e : zs = DS.sortU ys := DS.sortU_of h1 fun x => by
            rw [h2 x, DS.km_iff, List.mem_map]
            exact ⟨fun ⟨y, hy, e⟩ => by cases e; exact hy, fun h => ⟨x, h, rfl⟩⟩
          subst e
          have y1 : Ext G1 H1 G1 (upd H1 p (DS.SWO X.w p (fun k => DS.km k (ys.map Sum.inr)) c)) := .lay x1.s hp
          have y2 := y1.trans (Ext.lay (o := .lst ((DS.sortU ys).map V.str)) y1.s hp2)
          exact q (.ref p2) _ _ (x1.trans y2) ⟨p2, rfl, ⟨_, upd_same, Reps.strs _⟩, y1.s.none hp2, (er.zh.trans (x1.h.trans y1.h)).none hp2, fun _ => (x1.h.trans y1.h).none hp2⟩⟩
end
end DL
namespace DL
open PySem PySem.Spec PyProof.Rows L2
def crB (K : PySem.W.Frag) (C : Addr) : Bool := PySem.W.readsIn K C (.type "type") && He.eqO (PySem.W.specialIn K (.ref C) "__getattribute__") (some (some (.builtin "type.__getattribute__")))
theorem crB_ok {K : PySem.W.Frag} {C : Addr} (h : crB K C = true) : ClX.CRead K C (.type "type") := ⟨(He.ba h).1, He.eqO_ok (He.ba h).2⟩
def cmA (K : PySem.W.Frag) (C : Addr) (m : Str) : Addr := rcA K C m "classmethod" 0
def cmB (K : PySem.W.Frag) (C : Addr) (m : Str) : Bool := (match PySem.W.findCls K (.ref C) (.type "type") m with
    | some (.get g p ob tp) => decide (g = .builtin "classmethod.__get__" ∧ p = .ref (He.ma K C m) ∧ ob = .none ∧ tp = .ref C)
    | _ => false) && ((match PySem.W.recIn K (He.ma K C m) "classmethod" with
    | some (.ref _ :: _) => true
    | _ => false) && PySem.W.fnIn K (cmA K C m))
theorem cmB_ok {K : PySem.W.Frag} {C : Addr} {m : Str} (h : cmB K C m = true) : ClX.CMet K C (.type "type") m (He.ma K C m) (cmA K C m) := by
  obtain ⟨h1, h2⟩ := He.ba h
  obtain ⟨h2, h3⟩ := He.ba h2
  refine ⟨?_, ?_, h3⟩
  · split at h1
    · rename_i g p ob tp e
      obtain ⟨rfl, rfl, rfl, rfl⟩ := of_decide_eq_true h1
      exact e
    · cases h1
  · unfold cmA
    split at h2
    · rename_i g rest e
      unfold rcA
      rw [e]; exact ⟨rest, rfl⟩
    · cases h2
def CCon (K : PySem.W.Frag) (mg : Str → Option Value) (x f : Str) (d : D) : Prop := ∃ Ca v u, mg x = some (.ref Ca) ∧ ClX.CRead K Ca (.type "type") ∧ ClX.CVal K Ca (.type "type") f v u ∧ ∀ (C : CT) G, Rep ⟨K, C⟩ G v d
def cvS (K : PySem.W.Frag) (C : Addr) (f z : Str) : Bool := crB K C && (match PySem.W.findCls K (.ref C) (.type "type") f with
  | some (.val (.str y _)) => decide (y = z)
  | _ => false)
def cvI (K : PySem.W.Frag) (C : Addr) (f : Str) (i : Int) : Bool := crB K C && (match PySem.W.findCls K (.ref C) (.type "type") f with
  | some (.val (.int y _)) => decide (y = i)
  | _ => false)
theorem cvS_ok {K : PySem.W.Frag} {mg : Str → Option Value} {x f z : Str} {C : Addr} (hm : mg x = some (.ref C)) (h : cvS K C f z = true) : CCon K mg x f (.str z) := by
  obtain ⟨h1, h2⟩ := He.ba h
  split at h2
  · rename_i y t e
    obtain rfl := of_decide_eq_true h2
    exact ⟨C, .str y, _, hm, crB_ok h1, ⟨e, t, rfl⟩, fun _ _ => .str y⟩
  · cases h2
theorem cvI_ok {K : PySem.W.Frag} {mg : Str → Option Value} {x f : Str} {i : Int} {C : Addr} (hm : mg x = some (.ref C)) (h : cvI K C f i = true) : CCon K mg x f (.int i) := by
  obtain ⟨h1, h2⟩ := He.ba h
  split at h2
  · rename_i y t e
    obtain rfl := of_decide_eq_true h2
    exact ⟨C, .int y, _, hm, crB_ok h1, ⟨e, t, rfl⟩, fun _ _ => .int y⟩
  · cases h2
section
variable {X : Cx} {C : CT} {W : WX}
theorem de_cval {x f : Str} {d : D} {p pos : Pos} (h : CCon X.K X.mg x f d) (hg : Gl X x := by rfl) (hdb : (x == ("__debug__" : Str)) = false := by decide) (hb : attributeBase (.Name x p) f X.env (eval (.Name x p) X.env) = eval (.Name x p) X.env := by rfl) :
    DE X C W (.Attribute (.Name x p) f pos) (mC d) := by
  obtain ⟨Ca, v, u, hm, r, k, rep⟩ := h
  refine ⟨⟨fun pins s σ H Q I ⟨Z, G, env, er, q⟩ => attr_of hb (ld_glob I hg hm (ClX.getcval_ok I r k fun s2 I2 => ⟨v, H, I2, k.rel, q v G H (.refl er.sub) (rep C G)⟩) hdb)⟩⟩
end
section
variable {X : Cx} {C : CT} {W : WX}
theorem run_fnRS {pins : List (Addr × Obj)} {σ : L2.St} {H : Hp} {s : Shared} {k : Nat} {f : Addr} {sp : Sp} {Q : VK} {us : List Value} {vs : List V} (FR : FnR X.prog X.w X.K X.mg X.base (L2.CX X.prog X.w) k f sp) (hr : Room k X.A) (tk : Takes X W)
    (I : Inv X pins σ H s) (r : Vals vs us) (h : sp vs H Q (WE W σ)) : wpAny (model X.prog X.w) X.A (call (.ref f) us) (EP X pins σ Q) X.xe s := by
  refine wpAny_call (codeAny_mono (FR X.A X.stack s H us vs Q (WE W σ) hr I.env0 r h) fun res z hq => ?_)
  match res, hq with
  | .error e, hq => exact passAt tk σ pins H s e z I hq
  | .ok (.ret u), hq => exact I.after hq
  | .ok .next, hq => exact hq.elim
  | .ok .brk, hq => exact hq.elim
  | .ok .cont, hq => exact hq.elim
theorem run_cmS {pins : List (Addr × Obj)} {σ : L2.St} {H : Hp} {s : Shared} {k : Nat} {g q Ca : Addr} {sp : Sp} {Q : VK} {us : List Value} {vs : List V} (FR : FnR X.prog X.w X.K X.mg X.base (L2.CX X.prog X.w) k g sp) (hr : Room k X.A) (tk : Takes X W)
    (I : Inv X ((q, PySem.W.methodObj (.ref g) (.ref Ca)) :: pins) σ H s) (r : Vals vs us) (h : sp (.ref Ca :: vs) H Q (WE W σ)) : wpAny (model X.prog X.w) X.A (call (.ref q) us) (EP X pins σ Q) X.xe s := by
  have z : wpAny (model X.prog X.w) X.A (call (.ref q) us) (EP X ((q, PySem.W.methodObj (.ref g) (.ref Ca)) :: pins) σ Q) X.xe s := by
    refine wpAny_call (PySem.W.method_call (ClX.pin_at I) (codeAny_mono (FR X.A X.stack s H (.ref Ca :: us) (.ref Ca :: vs) Q (WE W σ) hr I.env0 (.cons rfl r) h) fun res z hq => ?_))
    match res, hq with
    | .error e, hq => exact passAt tk σ _ H s e z I hq
    | .ok (.ret u), hq => exact I.after hq
    | .ok .next, hq => exact hq.elim
    | .ok .brk, hq => exact hq.elim
    | .ok .cont, hq => exact hq.elim
  exact thn z fun _ _ y => ClX.unpinE y
def tCM (Ca : Addr) (sp : Sp) (W : WX) (t : TA) : TE := fun σ H Q => t σ H fun vs H2 => sp (.ref Ca :: vs) H2 Q (WE W σ)
section
variable {Ca p' g : Addr} {m x : Str} {k : Nat} {sp : Sp} {e : Expr} {es : List Expr} {t : TA} {p apos pos : Pos} {pl : Sem Bool}
theorem pe_cmS (hm : X.mg x = some (.ref Ca)) (r : ClX.CRead X.K Ca (.type "type")) (c : ClX.CMet X.K Ca (.type "type") m p' g) (FR : FnR X.prog X.w X.K X.mg X.base (L2.CX X.prog X.w) k g sp) (hr : Room k X.A) (tk : Takes X W) (ha : PA X (e :: es) t) (hg : Gl X x) (hdb : (x == ("__debug__" : Str)) = false)
    (hst : starEach (e :: es) X.env = (false, eval e X.env) :: starEach es X.env) (hpl : (backTo pos (starEach es X.env)).any (·.1) = false)
    (ht : eval (.Call (.Attribute (.Name x p) m apos) (e :: es) [] pos) X.env = (do
      let ov ← eval (.Name x p) X.env
      standAt apos.atName
      let (f, first) ← holding [ov] (getMethod ov m pl)
      callWith pos f first (backTo pos (starEach (e :: es) X.env)) (backToKw pos (keywordEach [] X.env)))) : PE X (.Call (.Attribute (.Name x p) m apos) (e :: es) [] pos) (tCM Ca sp W t) := ⟨fun pins s σ H Q I h =>
  PySem.W.methodCall_KW (pl := pl) (ld_glob I hg hm (ClX.getmethcm_ok I r c fun s2 I2 => ClX.callwith_cm I2 (ClX.base_none I (Nat.le_refl _)) c.fi (thn (ha.run pos _ s2 σ H _ I2 h) fun us s3 ⟨vs, H2, I3, rv, q2⟩ => ⟨⟨ClX.pin_at I3, I3.kIn⟩, run_cmS FR hr tk I3 rv q2⟩) hst hpl) hdb) ht⟩
theorem cw_cm0 {pins : List (Addr × Obj)} {σ : L2.St} {H : Hp} {s : Shared} {q : Addr} {Q E : Value → Shared → Prop} {A : Around} (I : Inv X ((q, PySem.W.methodObj (.ref g) (.ref Ca)) :: pins) σ H s) (hb : X.base.get? q = none) (hf : PySem.W.fnIn X.K g = true)
    (h : wpAny (model X.prog X.w) A (call (.ref q) []) Q E s) : wpAny (model X.prog X.w) A (callWith pos (.ref q) [] (backTo pos (starEach [] X.env)) []) Q E s :=
  PySem.W.callWith_M0 (K := X.K) ⟨ClX.pin_at I, I.kIn⟩ hf h
theorem pe_cmS0 (hm : X.mg x = some (.ref Ca)) (r : ClX.CRead X.K Ca (.type "type")) (c : ClX.CMet X.K Ca (.type "type") m p' g) (FR : FnR X.prog X.w X.K X.mg X.base (L2.CX X.prog X.w) k g sp) (hr : Room k X.A) (tk : Takes X W) (hg : Gl X x) (hdb : (x == ("__debug__" : Str)) = false)
    (ht : eval (.Call (.Attribute (.Name x p) m apos) [] [] pos) X.env = (do
      let ov ← eval (.Name x p) X.env
      standAt apos.atName
      let (f, first) ← holding [ov] (getMethod ov m pl)
      callWith pos f first (backTo pos (starEach [] X.env)) (backToKw pos (keywordEach [] X.env)))) : PE X (.Call (.Attribute (.Name x p) m apos) [] [] pos) (tCM Ca sp W tNil) := ⟨fun pins s σ H Q I h =>
  PySem.W.methodCall_KW (pl := pl) (ld_glob I hg hm (ClX.getmethcm_ok I r c fun s2 I2 => cw_cm0 I2 (ClX.base_none I (Nat.le_refl _)) c.fi (run_cmS FR hr tk I2 .nil h)) hdb) ht⟩
end
end
def spSt (K : KC) (n : Nat) (F : Fn) : Sp := fun vs H Q E => ∃ G ds es, Sub G H ∧ Reps K G vs (ds ++ es) ∧ ds.length = n ∧ es.length ≤ sizeLine ∧ match F (ds ++ [.tup es]) with
  | .ok ev => ∀ v G' H', Ext G H G' H' → EVok K ⟨G, H⟩ H G' H' v ev → Q v H'
  | .exc e => ∀ cls d G' H', Ext G H G' H' → ExcOk K G' H' cls d e → E cls d H'
  | .stuck => False
theorem reps_split {K : KC} {G : Hp} : ∀ {ds es : List D} {vs : List V}, Reps K G vs (ds ++ es) → ∃ us ws, vs = us ++ ws ∧ Reps K G us ds ∧ Reps K G ws es
  | [], _, vs, r => ⟨[], vs, rfl, .nil, r⟩
  | d :: ds, es, _, .cons a b => by
    obtain ⟨us, ws, e, h1, h2⟩ := reps_split b
    exact ⟨_ :: us, ws, by rw [e]; rfl, .cons a h1, h2⟩
theorem EVok.entry {K : KC} {Z Z' : Ent} {Hs Hs' G H : Hp} {v : V} {ev : EV} (h1 : Sub Z.H Z'.H) (h2 : Sub Hs Hs') (k : EVok K Z' Hs' G H v ev) : EVok K Z Hs G H v ev := by
  cases ev with
  | fz d => exact k
  | ow n w =>
    obtain ⟨p, e, a, b, c, d⟩ := k
    exact ⟨p, e, a, b, h1.none c, fun q => h2.none (d q)⟩
theorem spD_star {K : KC} {n : Nat} {F : Fn} {vs : List V} {H : Hp} {Q : VK} {E : XK} (h : spSt K n F vs H Q E) : ∃ ws rest, vs = ws ++ rest ∧ ws.length = n ∧ rest.length ≤ sizeLine ∧ ∀ p, H p = none → spD K (n + 1) F (ws ++ [V.ref p]) (upd H p (.tup rest)) Q E := by
  obtain ⟨G, ds, es, s, r, hn, hz, q⟩ := h
  obtain ⟨us, ws, rfl, h1, h2⟩ := reps_split r
  refine ⟨us, ws, rfl, h1.length.trans hn, by rw [h2.length]; exact hz, fun p hp => ?_⟩
  have x0 : Ext G H (upd G p (.tup ws)) (upd H p (.tup ws)) := .lay2 s hp
  refine ⟨upd G p (.tup ws), ds ++ [.tup es], x0.s, (h1.mono x0.g).append (.cons (.tup (.of upd_same) (h2.mono x0.g)) .nil), by rw [List.length_append, hn]; rfl, ?_⟩
  cases hF : F (ds ++ [.tup es]) with
  | stuck => rw [hF] at q; exact q
  | ok ev => rw [hF] at q; exact fun v G' H' x k => q v G' H' (x0.trans x) (k.entry x0.h x0.h)
  | exc e => rw [hF] at q; exact fun cls d G' H' x k => q cls d G' H' (x0.trans x) k
section
variable {P : Program} {w : World} {mg : Str → Option Value} {base : Heap}
theorem fn_starD {K : KC} {x qual pv : Str} {params : Arguments} {body : List Stmt} {scope : Scope} {kws : List (Str × V)} {f : Addr} {fd : FuncData} {N ps : List Str} {k : Nat} {b : Env → Out} (F : FunD K.K x qual params body scope [] kws f fd) (S : FnScope N (ps ++ [pv]) scope) (hn : ps.length + 1 ≤ N.length)
    (hb : ∀ (kV doc pm cdv ct : Value) (an : Option Addr) (us rest : List Value), us.length = ps.length → bindArgs (PySem.W.fnOf x qual params body scope .none kV doc pm an cdv ct) ⟨us ++ rest, []⟩ = (newTuple rest >>= fun t => pure (ps.zip us ++ [(pv, t)])))
    (hbody : ∀ (cdv : Value) (A : Around) (outer : List PySem.Env) (s : Shared) (H : Hp) (E : XK), Room k (A.deeper (envOfC qual scope s.heap.objs.size f cdv)) →
      PassesOwn (model P w) (A.deeper (envOfC qual scope s.heap.objs.size f cdv)) (envOfC qual scope s.heap.objs.size f cdv) (cxOf (L2.CX P w) P w K.K mg base N qual scope f cdv A outer s H E).xe →
      Takes (cxOf (L2.CX P w) P w K.K mg base N qual scope f cdv A outer s H E) (fun cls d _ H => E cls d H) → DSs (cxOf (L2.CX P w) P w K.K mg base N qual scope f cdv A outer s H E) K.C (fun cls d _ H => E cls d H) body b) : FnR P w K.K mg base (L2.CX P w) (k + 1) f (spSt K ps.length (runB N.length b)) := by
  obtain ⟨oc, od, dV, kV, doc, pm, an, cdv, ct, osl, rfl, lk, hcd, hD, _⟩ := F.ex
  obtain rfl : dV = .none := hD.elim (fun h => h.2) fun h => absurd rfl h.1
  refine (StX.fn_star (sp := spD K (ps.length + 1) (runB N.length b)) lk hcd S StX.cxUp (hb _ _ _ _ _ _) fun A outer s H vs Q E hr ⟨G, ds, hs, r, l, h⟩ => ?_).imp fun vs H Q E h => spD_star h
  refine ⟨_, (hbody cdv A outer s H E hr (passes_of rfl) (takes_of rfl rfl rfl rfl)).pss, ⟨G, H⟩, G, _, er_start hs r N (by rw [l]; exact hn), ?_⟩
  unfold runB at h
  show Post K _ _ _ _ _
  cases hb : b (ds.map SL.val ++ List.replicate (N.length - ds.length) SL.no) with
  | nx e => rw [hb] at h; exact fun σ H2 G2 s2 er2 => h .non G2 H2 er2.toExt .non
  | ret ev => rw [hb] at h; exact fun σ env v H2 G2 Hs s2 er2 zs k => h v G2 H2 er2.toExt (k.start zs)
  | exc e en => rw [hb] at h; exact fun σ H2 G2 cls d s2 er2 k => h cls d G2 H2 er2.toExt k
  | bk e => rw [hb] at h; exact h.elim
  | ct e => rw [hb] at h; exact h.elim
  | stuck => rw [hb] at h; exact h.elim
def CmG (P : Program) (w : World) (K : KC) (mg : Str → Option Value) (base : Heap) (k : Nat) (x m : Str) (n : Nat) (st : Bool) (F : Fn) : Prop :=
  ∃ Ca, mg x = some (.ref Ca) ∧ K.C.cls x = some Ca ∧ crB K.K Ca = true ∧ cmB K.K Ca m = true ∧ FnR P w K.K mg base (L2.CX P w) k (cmA K.K Ca m) (if st = true then spSt K (n + 1) F else spD K (n + 1) F)
theorem CmG.cx {K : PySem.W.Frag} {C C' : CT} {k n : Nat} {x m : Str} {st : Bool} {F : Fn} (h2 : C.cls = C'.cls) (h3 : C.slf = none) (h : CmG P w ⟨K, C⟩ mg base k x m n st F) : CmG P w ⟨K, C'⟩ mg base k x m n st F := by
  obtain ⟨Ca, f1, f2, f3, f4, f5⟩ := h
  refine ⟨Ca, f1, h2 ▸ f2, f3, f4, f5.imp fun vs H Q E z => ?_⟩
  cases st with
  | false => exact spD_cx (K := ⟨K, C⟩) (K' := ⟨K, C'⟩) rfl h2 h3 z
  | true =>
    obtain ⟨G, ds, es, s, r, hn, hz, q⟩ := z
    refine ⟨G, ds, es, s, Reps.cx (K := ⟨K, C'⟩) (K' := ⟨K, C⟩) rfl h2.symm r, hn, hz, ?_⟩
    cases hF : F (ds ++ [.tup es]) with
    | stuck => rw [hF] at q; exact q
    | ok ev => rw [hF] at q; exact fun v G' H' x k => q v G' H' x (EVok.cx (K := ⟨K, C⟩) (K' := ⟨K, C'⟩) rfl h2 (fun p e => by rw [show (C.slf) = none from h3] at e; cases e) k)
    | exc e => rw [hF] at q; exact fun cls d G' H' x k => q cls d G' H' x (ExcOk.cx (K := ⟨K, C⟩) (K' := ⟨K, C'⟩) rfl h2 k)
end
def cmD (x : Str) (st : Bool) (F : Fn) : Fn := fun ds => if st = true then F [.cls x, .tup ds] else F (.cls x :: ds)
section
variable {X : Cx} {C : CT} {W : WX}
theorem cm_go {x : Str} {n : Nat} {st : Bool} {F : Fn} {Ca : Addr} {vs : List V} {H : Hp} {Q : VK} {E : XK} (hC : C.cls x = some Ca) (hst : st = false ∨ n = 0) {j : Nat} (hj : st = false → j = n) (hz : j ≤ sizeLine) (h : spD (kc X C) j (cmD x st F) vs H Q E) : (if st = true then spSt (kc X C) (n + 1) F else spD (kc X C) (n + 1) F) (.ref Ca :: vs) H Q E := by
  obtain ⟨G, ds, s, r, l, q⟩ := h
  unfold cmD at q
  cases st with
  | true =>
    obtain rfl : n = 0 := hst.elim (fun e => by cases e) id
    exact ⟨G, [.cls x], ds, s, .cons (.cls hC) r, rfl, by rw [l]; exact hz, q⟩
  | false => exact ⟨G, .cls x :: ds, s, .cons (.cls hC) r, by rw [List.length_cons, l, hj rfl], q⟩
theorem de_cm {F : Fn} {k n : Nat} {st : Bool} {x m : Str} {p apos pos : Pos} {e : Expr} {es : List Expr} {ma : Env → Rz (List EV)} {pl : Sem Bool} (CG : CmG X.prog X.w (kc X C) X.mg X.base k x m n st F) (hr : Room k X.A) (tk : Takes X W) (j : Nat) (ha : DA X C W (e :: es) ma)
    (hst : st = false ∨ n = 0 := by first | exact .inl rfl | exact .inr rfl) (hj : st = false → j = n := by first | exact fun _ => rfl | exact fun h => by cases h) (hz : j ≤ 1000 := by decide) (hg : Gl X x := by rfl) (hdb : (x == ("__debug__" : Str)) = false := by decide)
    (he : starEach (e :: es) X.env = (false, eval e X.env) :: starEach es X.env := by rfl) (hpl : (backTo pos (starEach es X.env)).any (·.1) = false := by rfl)
    (ht : eval (.Call (.Attribute (.Name x p) m apos) (e :: es) [] pos) X.env = (do
      let ov ← eval (.Name x p) X.env
      standAt apos.atName
      let (f, first) ← holding [ov] (getMethod ov m pl)
      callWith pos f first (backTo pos (starEach (e :: es) X.env)) (backToKw pos (keywordEach [] X.env))) := by rfl) : DE X C W (.Call (.Attribute (.Name x p) m apos) (e :: es) [] pos) (mFn (cmD x st F) ma j) := by
  obtain ⟨Ca, hm, hC, hcr, hcm, FR⟩ := CG
  exact ⟨PE.imp (pe_cmS hm (crB_ok hcr) (cmB_ok hcm) FR hr tk ha.pa hg hdb he hpl ht) fun σ H Q h => tA_seq (f := fun evs _ => if evs.length = j then appF (cmD x st F) evs else .stuck) h fun Z G1 H1 env vs a er va hs q => by
    by_cases hn : a.length = j
    · rw [if_pos hn] at q
      exact cm_go hC hst hj (by rw [sizeLine_eq]; omega) (ask_fn er va hn q)
    · rw [if_neg hn] at q; exact q.elim⟩
theorem de_cm0 {F : Fn} {k n : Nat} {st : Bool} {x m : Str} {p apos pos : Pos} {pl : Sem Bool} (CG : CmG X.prog X.w (kc X C) X.mg X.base k x m n st F) (hr : Room k X.A) (tk : Takes X W) (hn : n = 0 := by rfl) (hg : Gl X x := by rfl) (hdb : (x == ("__debug__" : Str)) = false := by decide)
    (ht : eval (.Call (.Attribute (.Name x p) m apos) [] [] pos) X.env = (do
      let ov ← eval (.Name x p) X.env
      standAt apos.atName
      let (f, first) ← holding [ov] (getMethod ov m pl)
      callWith pos f first (backTo pos (starEach [] X.env)) (backToKw pos (keywordEach [] X.env))) := by rfl) : DE X C W (.Call (.Attribute (.Name x p) m apos) [] [] pos) (mFn (cmD x st F) mNil 0) := by
  obtain ⟨Ca, hm, hC, hcr, hcm, FR⟩ := CG
  exact ⟨PE.imp (pe_cmS0 hm (crB_ok hcr) (cmB_ok hcm) FR hr tk hg hdb ht) fun σ H Q h => by
    have da : DA X C W [] mNil := da_nil
    obtain ⟨Z, G, env, er, q⟩ := h
    refine cm_go hC (.inr hn) (j := 0) (fun _ => hn.symm) (Nat.zero_le _) (ask_fn (evs := []) (Hs := H) er .nil rfl ?_)
    show match appF (cmD x st F) [] with
      | .ok ev => _
      | .exc e => _
      | .stuck => _
    exact q⟩
def tMakeL (i : Nat) (Cc : Addr) (sp : Sp) (W : WX) (t : TA) : TE := fun σ H Q => σ[i]? = some (some (.ref Cc)) ∧ tMakeS Cc sp W t σ H Q
theorem pe_makeL {i : Nat} {Cc f : Addr} {k : Nat} {fd : FuncData} {ps : List Str} {sp : Sp} {x : Str} {e : Expr} {es : List Expr} {t : TA} {p pos : Pos} (M : Mk X.K Cc f) (FO : FnOk X.prog X.w X.K X.mg X.base (L2.CX X.prog X.w) k f fd ps sp)
    (hr : Room (k + 1) X.A) (hb : Binds X.K fd ps []) (tk : Takes X W) (hN : X.N[i]? = some x) (hv : Vis X.env.scope x) (ha : PA X (e :: es) t) (hdb : (x == ("__debug__" : Str)) = false) (hcd : (x == ("__classdict__" : Str)) = false) (he : starEach (e :: es) X.env = (false, eval e X.env) :: starEach es X.env)
    (hpl : (backTo pos (starEach es X.env)).any (·.1) = false) : PE X (.Call (.Name x p) (e :: es) [] pos) (tMakeL i Cc sp W t) := ⟨fun pins s σ H Q I ⟨hs, h⟩ =>
  wpAny_Call_Name_kw (thn ((pe_var (pos := p) hN hv hdb hcd).run pins s σ H (fun v H1 => v = .ref Cc ∧ H1 = H) I ⟨.ref Cc, hs, rfl, rfl⟩) fun u s1 ⟨v, H1, I1, r1, q1⟩ => by
    obtain ⟨rfl, rfl⟩ := q1
    cases r1
    exact PySem.W.callWith_K (h₀ := X.base) I.ok.mod.kin M.kp (thn (ha.run pos pins s1 σ _ _ I1 h) fun us s2 ⟨vs, H2, I2, r, q⟩ => ⟨I2.kIn, make_at M FO hr hb tk I2 r q⟩) he hpl)⟩
theorem pe_makeL0 {i : Nat} {Cc f : Addr} {k : Nat} {fd : FuncData} {ps : List Str} {sp : Sp} {x : Str} {p pos : Pos} (M : Mk X.K Cc f) (FO : FnOk X.prog X.w X.K X.mg X.base (L2.CX X.prog X.w) k f fd ps sp)
    (hr : Room (k + 1) X.A) (hb : Binds X.K fd ps []) (tk : Takes X W) (hN : X.N[i]? = some x) (hv : Vis X.env.scope x) (hdb : (x == ("__debug__" : Str)) = false) (hcd : (x == ("__classdict__" : Str)) = false) : PE X (.Call (.Name x p) [] [] pos) (tMakeL i Cc sp W tNil) := ⟨fun pins s σ H Q I ⟨hs, h⟩ =>
  wpAny_Call_Name_kw (thn ((pe_var (pos := p) hN hv hdb hcd).run pins s σ H (fun v H1 => v = .ref Cc ∧ H1 = H) I ⟨.ref Cc, hs, rfl, rfl⟩) fun u s1 ⟨v, H1, I1, r1, q1⟩ => by
    obtain ⟨rfl, rfl⟩ := q1
    cases r1
    exact PySem.W.callWith_K0 I1.kIn M.kp (make_at M FO hr hb tk I1 .nil h))⟩
theorem pe_makeS0 {Cc f : Addr} {k : Nat} {fd : FuncData} {ps : List Str} {sp : Sp} {x : Str} {p pos : Pos} (M : Mk X.K Cc f) (FO : FnOk X.prog X.w X.K X.mg X.base (L2.CX X.prog X.w) k f fd ps sp)
    (hr : Room (k + 1) X.A) (hb : Binds X.K fd ps []) (tk : Takes X W) (hg : Gl X x) (hm : X.mg x = some (.ref Cc)) (hdb : (x == ("__debug__" : Str)) = false) : PE X (.Call (.Name x p) [] [] pos) (tMakeS Cc sp W tNil) := ⟨fun pins s σ H Q I h =>
  wpAny_Call_Name_kw (ld_glob I hg hm (PySem.W.callWith_K0 I.kIn M.kp (make_at M FO hr hb tk I .nil h)) hdb)⟩
def mMakeL (i : Nat) (c : Str) (n : Nat) (IF : IFn) (m : Env → Rz (List EV)) : Env → Rz EV := fun env => match env.getD i .no with
  | .val (.cls c') => if c' = c then mMake c n IF m env else .stuck
  | _ => .stuck
theorem makeL_go {i n : Nat} {c : Str} {IF : IFn} {m : Env → Rz (List EV)} {Ca : Addr} {σ : L2.St} {H : Hp} {Q : VK} (hC : C.cls c = some Ca) (h : tE (kc X C) W (mMakeL i c n IF m) σ H Q) : tMakeL i Ca (spI (kc X C) c n IF) W (tA (kc X C) W m) σ H Q := by
  obtain ⟨Z, G, env, er, q⟩ := h
  unfold mMakeL at q
  cases hi : env.getD i .no with
  | val d =>
    rw [hi] at q
    cases d with
    | cls c' =>
      by_cases hc : c' = c
      · subst hc
        simp only [if_true] at q
        obtain ⟨v, hv, u, e, r⟩ := er.at' i _ (getD_some hi (by intro h; cases h))
        subst e
        cases r with
        | cls e2 =>
          have e3 : C.cls c' = some _ := e2
          rw [hC] at e3
          cases e3
          refine ⟨hv, ?_⟩
          exact tA_seq (f := fun evs _ => if evs.length = n then appI c' IF evs else .stuck) ⟨Z, G, env, er, q⟩ fun Z G1 H1 env vs a er va hs q x' dx hx hdx hne => by
            by_cases hn : a.length = n
            · rw [if_pos hn] at q
              exact ask_init er va hn hC q x' dx hx hdx hne
            · rw [if_neg hn] at q; exact q.elim
      · simp only [if_neg hc] at q
    | _ => exact q.elim
  | _ => rw [hi] at q; exact q.elim
theorem de_makeL (i : Nat) {IF : IFn} {k n : Nat} {c x : Str} {p pos : Pos} {e : Expr} {es : List Expr} {m : Env → Rz (List EV)} (IG : InG X.prog X.w (kc X C) X.mg X.base k c n IF) (hr : Room (k + 1) X.A) (tk : Takes X W) (ha : DA X C W (e :: es) m)
    (hN : X.N[i]? = some x := by rfl) (hv : Vis X.env.scope x := by first | exact Or.inl rfl | exact Or.inr (Or.inl rfl) | exact Or.inr (Or.inr rfl)) (hd : (x == ("__debug__" : Str)) = false := by decide) (hcd : (x == ("__classdict__" : Str)) = false := by decide)
    (he : starEach (e :: es) X.env = (false, eval e X.env) :: starEach es X.env := by rfl) (hpl : (backTo pos (starEach es X.env)).any (·.1) = false := by rfl) : DE X C W (.Call (.Name x p) (e :: es) [] pos) (mMakeL i c n IF m) := by
  obtain ⟨Ca, f, fd, ps, hm, hC, M, FO, hb⟩ := IG
  exact ⟨PE.imp (pe_makeL M FO hr hb tk hN hv ha.pa hd hcd he hpl) fun σ H Q h => makeL_go hC h⟩
theorem tNil_of {m : Env → Rz (List EV)} {σ : L2.St} {H : Hp} {R : List V → Hp → Prop} (hm : m = mNil) (h : tA (kc X C) W m σ H R) : tNil σ H R := by
  subst hm
  obtain ⟨Z, G, env, er, q⟩ := h
  exact q [] G H (.refl er.sub) .nil
theorem de_makeL0 (i : Nat) {IF : IFn} {k n : Nat} {c x : Str} {p pos : Pos} (IG : InG X.prog X.w (kc X C) X.mg X.base k c n IF) (hr : Room (k + 1) X.A) (tk : Takes X W)
    (hN : X.N[i]? = some x := by rfl) (hv : Vis X.env.scope x := by first | exact Or.inl rfl | exact Or.inr (Or.inl rfl) | exact Or.inr (Or.inr rfl)) (hd : (x == ("__debug__" : Str)) = false := by decide) (hcd : (x == ("__classdict__" : Str)) = false := by decide) : DE X C W (.Call (.Name x p) [] [] pos) (mMakeL i c n IF mNil) := by
  obtain ⟨Ca, f, fd, ps, hm, hC, M, FO, hb⟩ := IG
  exact ⟨PE.imp (pe_makeL0 M FO hr hb tk hN hv hd hcd) fun σ H Q h => (makeL_go hC h).imp id fun z => tNil_of rfl z⟩
theorem de_make0 {IF : IFn} {k n : Nat} {x : Str} {p pos : Pos} (IG : InG X.prog X.w (kc X C) X.mg X.base k x n IF) (hr : Room (k + 1) X.A) (tk : Takes X W) (hg : Gl X x := by rfl) (hdb : (x == ("__debug__" : Str)) = false := by decide) : DE X C W (.Call (.Name x p) [] [] pos) (mMake x n IF mNil) := by
  obtain ⟨Ca, f, fd, ps, hm, hC, M, FO, hb⟩ := IG
  exact ⟨PE.imp (pe_makeS0 M FO hr hb tk hg hm hdb) fun σ H Q h => tNil_of rfl (tA_seq (f := fun evs _ => if evs.length = n then appI x IF evs else .stuck) h fun Z G1 H1 env vs a er va hs q x' dx hx hdx hne => by
    by_cases hn : a.length = n
    · rw [if_pos hn] at q
      exact ask_init er va hn hC q x' dx hx hdx hne
    · rw [if_neg hn] at q; exact q.elim)⟩
end
end DL
namespace DL
open PySem PySem.Spec PyProof.Rows L2
def clsOf (l : List Str) (K : PySem.W.Frag) : Str → Option Addr := fun x => if x ∈ l then some (He.ga K x) else none
theorem clsOf_in {l : List Str} {K : PySem.W.Frag} {x : Str} (h : x ∈ l) : clsOf l K x = some (He.ga K x) := if_pos h
theorem clsOf_inv {l : List Str} {K : PySem.W.Frag} {x : Str} {a : Addr} (h : clsOf l K x = some a) : x ∈ l ∧ a = He.ga K x := by
  unfold clsOf at h
  split at h
  · rename_i q; cases h; exact ⟨q, rfl⟩
  · cases h
def CC (l : List Str) (K : PySem.W.Frag) : CT := ⟨clsOf l K, none, none⟩
theorem fldOk_of {l cs : List Str} {K : PySem.W.Frag} {C : CT} {f : Str} (hC : C.cls = clsOf l K) (h : ∀ c ∈ cs, Cls K (He.ga K c) ∧ NoAttr K (He.ga K c) f) : FldOk K C cs f := fun c hc Ca e => by
  rw [hC] at e
  obtain ⟨_, rfl⟩ := clsOf_inv e
  exact h c hc
section
variable {X : Cx} {cl : Str → Option Addr} {sl : Option Addr} {W : WX} {a Ca : Addr} {oe : Obj} {d : Option Addr} {pn : List (Addr × Obj)}
def inCs (cs : List Str) (e : Exn) : Rz Exn := if e.cls ∈ cs then .ok e else .stuck
def mXfC (cs : List Str) (i : Nat) (f : Str) : Env → Rz EV := fun env => exAt env i >>= fun e => inCs cs e >>= fun e => orStuck (e.fs.lookup f) >>= fun x => .ok (.fz x)
def mIsEC (cs : List Str) (i : Nat) (S : Str → Option Bool) : Env → Rz EV := fun env => exAt env i >>= fun e => inCs cs e >>= fun e => orStuck (S e.cls) >>= fun b => .ok (.fz (.bl b))
theorem cs_go {K : PySem.W.Frag} {cs : List Str} {i : Nat} {g : Exn → Rz EV} {σ : L2.St} {H : Hp} {Q : VK} (h : tE ⟨K, ⟨cl, some (a, Ca, d), sl⟩⟩ W (fun env => exAt env i >>= fun e => inCs cs e >>= g) σ H Q) :
    (∃ z ∈ cs, cl z = some Ca) ∧ tE ⟨K, ⟨cl, some (a, Ca, d), sl⟩⟩ W (fun env => exAt env i >>= g) σ H Q := by
  obtain ⟨Z, G, env, er, q⟩ := h
  dsimp only at q
  cases he : exAt env i with
  | stuck => rw [he] at q; exact q.elim
  | exc e => exact absurd he exAt_exc
  | ok e =>
    rw [he] at q
    simp only [Rz.ok_bind] at q
    unfold inCs at q
    by_cases hc : e.cls ∈ cs
    · rw [if_pos hc] at q
      simp only [Rz.ok_bind] at q
      refine ⟨⟨e.cls, hc, ?_⟩, Z, G, env, er, ?_⟩
      · obtain ⟨v, _, a', Ca', d', e1, _, e2⟩ := er.at' i _ (exAt_ok he)
        cases e1
        obtain ⟨b, e3, e4, _⟩ := e2
        cases e4
        exact e3
      · dsimp only
        rw [he]
        exact q
    · rw [if_neg hc] at q; exact q.elim
theorem de_xfC {cs : List Str} {i : Nat} {x n : Str} {p pos : Pos} (T : ∀ z ∈ cs, ∀ Ca, cl z = some Ca → XfC X.K Ca ∧ PySem.W.findIn X.K (.ref Ca) n = some none) (hz : Zc (.ref Ca) d oe) (hf : ∃ vs, oe.data = .fields vs)
    (hN : X.N[i]? = some x := by rfl) (hv : Vis X.env.scope x := by first | exact Or.inl rfl | exact Or.inr (Or.inl rfl) | exact Or.inr (Or.inr rfl)) (hd : (x == ("__debug__" : Str)) = false := by decide) (hcd : (x == ("__classdict__" : Str)) = false := by decide)
    (hb : attributeBase (.Name x p) n X.env (eval (.Name x p) X.env) = eval (.Name x p) X.env := by rfl) : DE (X.suite a ((a, oe) :: pn)) ⟨cl, some (a, Ca, d), sl⟩ W (.Attribute (.Name x p) n pos) (mXfC cs i n) :=
  ⟨⟨fun pins s σ H Q I h => by
    obtain ⟨⟨z, hz', hc⟩, q⟩ := cs_go (g := fun e => orStuck (e.fs.lookup n) >>= fun x => .ok (.fz x)) h
    obtain ⟨t1, t2⟩ := T z hz' Ca hc
    exact (de_xf (W := W) (cl := cl) (sl := sl) (i := i) t1 t2 hz hf hN hv hd hcd hb).pe.run pins s σ H Q I q⟩⟩
theorem de_isEC {cs : List Str} {i : Nat} {x y : Str} {Cb : Addr} {S : Str → Option Bool} {p p1 p2 pos : Pos} (T : ∀ z ∈ cs, ∀ Ca, cl z = some Ca → ExcC X.K Ca) (hz : Zc (.ref Ca) d oe) (hf : ∃ vs, oe.data = .fields vs) (hm : X.mg "isinstance" = none) (hy : X.mg y = some (.ref Cb))
    (hS : ∀ (z : Str) (b : Bool) (Ca : Addr), S z = some b → cl z = some Ca → PySem.W.kitOne X.K (.ref Ca) (.ref Cb) = some b)
    (hg : Gl X "isinstance" := by rfl) (hgy : Gl X y := by rfl) (hdy : (y == ("__debug__" : Str)) = false := by decide) (hN : X.N[i]? = some x := by rfl) (hv : Vis X.env.scope x := by first | exact Or.inl rfl | exact Or.inr (Or.inl rfl) | exact Or.inr (Or.inr rfl)) (hd : (x == ("__debug__" : Str)) = false := by decide) (hcd : (x == ("__classdict__" : Str)) = false := by decide) :
    DE (X.suite a ((a, oe) :: pn)) ⟨cl, some (a, Ca, d), sl⟩ W (.Call (.Name "isinstance" p) [.Name x p1, .Name y p2] [] pos) (mIsEC cs i S) :=
  ⟨⟨fun pins s σ H Q I h => by
    obtain ⟨⟨z, hz', hc⟩, q⟩ := cs_go (g := fun e => orStuck (S e.cls) >>= fun b => .ok (.fz (.bl b))) h
    exact (de_isE (W := W) (cl := cl) (sl := sl) (i := i) (T z hz' Ca hc) hz hf hm hy (fun z b e1 e2 => hS z b Ca e1 e2) hg hgy hdy hN hv hd hcd).pe.run pins s σ H Q I q⟩⟩
theorem de_isEbC {cs : List Str} {i : Nat} {x y : Str} {T' : String} {S : Str → Option Bool} {p p1 p2 pos : Pos} (T : ∀ z ∈ cs, ∀ Ca, cl z = some Ca → ExcC X.K Ca) (hz : Zc (.ref Ca) d oe) (hf : ∃ vs, oe.data = .fields vs) (hm : X.mg "isinstance" = none) (hy : X.mg y = none) (hb : bootBuiltins y = some (.type T'))
    (hS : ∀ (z : Str) (b : Bool) (Ca : Addr), S z = some b → cl z = some Ca → PySem.W.kitOne X.K (.ref Ca) (.type T') = some b)
    (hg : Gl X "isinstance" := by rfl) (hgy : Gl X y := by rfl) (hny : y ≠ "__name__" := by decide) (hdy : (y == ("__debug__" : Str)) = false := by decide) (hN : X.N[i]? = some x := by rfl) (hv : Vis X.env.scope x := by first | exact Or.inl rfl | exact Or.inr (Or.inl rfl) | exact Or.inr (Or.inr rfl)) (hd : (x == ("__debug__" : Str)) = false := by decide) (hcd : (x == ("__classdict__" : Str)) = false := by decide) :
    DE (X.suite a ((a, oe) :: pn)) ⟨cl, some (a, Ca, d), sl⟩ W (.Call (.Name "isinstance" p) [.Name x p1, .Name y p2] [] pos) (mIsEC cs i S) :=
  ⟨⟨fun pins s σ H Q I h => by
    obtain ⟨⟨z, hz', hc⟩, q⟩ := cs_go (g := fun e => orStuck (S e.cls) >>= fun b => .ok (.fz (.bl b))) h
    exact (de_isEb (W := W) (cl := cl) (sl := sl) (i := i) (T z hz' Ca hc) hz hf hm hy hb (fun z b e1 e2 => hS z b Ca e1 e2) hg hgy hny hdy hN hv hd hcd).pe.run pins s σ H Q I q⟩⟩
end
def tabS (l : List (Str × Bool)) : Str → Option Bool := fun x => l.lookup x
theorem tab_mem {l : List (Str × Bool)} {x : Str} {b : Bool} (h : tabS l x = some b) : (x, b) ∈ l := by
  unfold tabS at h
  induction l with
  | nil => cases h
  | cons q r ih =>
    obtain ⟨y, c⟩ := q
    rw [List.lookup_cons] at h
    cases e : (x == y) with
    | true => rw [e] at h; cases h; rw [beq_iff_eq.mp e]; exact .head _
    | false => rw [e] at h; exact .tail _ (ih h)
def exmTab (K : PySem.W.Frag) (c : Value) (l : List (Str × Bool)) : Bool := l.all fun q => decide (PySem.W.exmOne K (.ref (He.ga K q.1)) c = some q.2)
def kitTab (K : PySem.W.Frag) (c : Value) (l : List (Str × Bool)) : Bool := l.all fun q => decide (PySem.W.kitOne K (.ref (He.ga K q.1)) c = some q.2)
theorem exmTab_ok {K : PySem.W.Frag} {c : Value} {l : List (Str × Bool)} {m : List Str} (h : exmTab K c l = true) {cl : Str → Option Addr} (hc : cl = clsOf m K) : ∀ (y : Str) (a : Addr) (b : Bool), tabS l y = some b → cl y = some a → PySem.W.exmOne K (.ref a) c = some b := fun y a b h1 h2 => by
  subst hc
  obtain ⟨_, rfl⟩ := clsOf_inv h2
  exact of_decide_eq_true (List.all_eq_true.mp h _ (tab_mem h1))
theorem kitTab_ok {K : PySem.W.Frag} {c : Value} {l : List (Str × Bool)} {m : List Str} (h : kitTab K c l = true) {cl : Str → Option Addr} (hc : cl = clsOf m K) : ∀ (y : Str) (b : Bool) (a : Addr), tabS l y = some b → cl y = some a → PySem.W.kitOne K (.ref a) c = some b := fun y b a h1 h2 => by
  subst hc
  obtain ⟨_, rfl⟩ := clsOf_inv h2
  exact of_decide_eq_true (List.all_eq_true.mp h _ (tab_mem h1))
def excTab (K : PySem.W.Frag) (l : List Str) : Bool := l.all fun q => excB K (He.ga K q)
theorem excTab_ok {K : PySem.W.Frag} {l m : List Str} (h : excTab K l = true) {cl : Str → Option Addr} (hc : cl = clsOf m K) : ∀ z ∈ l, ∀ Ca, cl z = some Ca → ExcC K Ca := fun z hz Ca e => by
  subst hc
  obtain ⟨_, rfl⟩ := clsOf_inv e
  exact excB_ok (List.all_eq_true.mp h z hz)
def noatTab (K : PySem.W.Frag) (l : List (Str × Str)) : Bool := l.all fun q => He.eqO (PySem.W.findIn K (.ref (He.ga K q.1)) q.2) (some none)
theorem noatTab_ok {K : PySem.W.Frag} {l : List (Str × Str)} (h : noatTab K l = true) {x f : Str} (e : (x, f) ∈ l) : PySem.W.findIn K (.ref (He.ga K x)) f = some none := He.eqO_ok (List.all_eq_true.mp h _ e)
theorem xfTab_ok {K : PySem.W.Frag} {l m : List Str} {t : List (Str × Str)} {f : Str} (h : excTab K l = true) (h2 : noatTab K t = true) (h3 : ∀ z ∈ l, (z, f) ∈ t) {cl : Str → Option Addr} (hc : cl = clsOf m K) : ∀ z ∈ l, ∀ Ca, cl z = some Ca → XfC K Ca ∧ PySem.W.findIn K (.ref Ca) f = some none := fun z hz Ca e => by
  subst hc
  obtain ⟨_, rfl⟩ := clsOf_inv e
  exact ⟨ExcC.xf (excB_ok (List.all_eq_true.mp h z hz)), noatTab_ok h2 (h3 z hz)⟩
theorem ExG.cx {P : Program} {w : World} {K : PySem.W.Frag} {C C' : CT} {mg : Str → Option Value} {base : Heap} {k : Nat} {x : Str} {fs : List Str} (h2 : C.cls = C'.cls) (h : ExG P w ⟨K, C⟩ mg base k x fs) : ExG P w ⟨K, C'⟩ mg base k x fs := by
  obtain ⟨Ca, fI, fd, ps, a, b, c⟩ := h
  exact ⟨Ca, fI, fd, ps, a, h2 ▸ b, c⟩
theorem spI_cx {K : PySem.W.Frag} {C C' : CT} {c : Str} {n : Nat} {IF : IFn} (h2 : C.cls = C'.cls) {vs : List V} {H : Hp} {Q : VK} {E : XK} (h : spI ⟨K, C'⟩ c n IF vs H Q E) : spI ⟨K, C⟩ c n IF vs H Q E := by
  obtain ⟨a, Ca, dx, ws, G, ds, e1, e2, e3, e4, e5, e6, e7, q⟩ := h
  refine ⟨a, Ca, dx, ws, G, ds, e1, (congrFun h2 c).trans e2, e3, e4, e5, Reps.cx (K := ⟨K, C'⟩) (K' := ⟨K, C⟩) rfl h2.symm e6, e7, ?_⟩
  cases hF : IF ds with
  | stuck => rw [hF] at q; exact q
  | ok fs => rw [hF] at q; exact fun G' H' dx' vs' m g e r => q G' H' dx' vs' m g e (RepF.cx (K := ⟨K, C⟩) (K' := ⟨K, C'⟩) rfl h2 r)
  | exc e => rw [hF] at q; exact fun cls d G' H' m k => q cls d G' H' m (ExcOk.cx (K := ⟨K, C⟩) (K' := ⟨K, C'⟩) rfl h2 k)
theorem InG.cx {P : Program} {w : World} {K : PySem.W.Frag} {C C' : CT} {mg : Str → Option Value} {base : Heap} {k n : Nat} {c : Str} {IF : IFn} (h2 : C.cls = C'.cls) (h : InG P w ⟨K, C⟩ mg base k c n IF) : InG P w ⟨K, C'⟩ mg base k c n IF := by
  obtain ⟨Ca, f, fd, ps, a, b, c, d, e⟩ := h
  exact ⟨Ca, f, fd, ps, a, (congrFun h2 _).symm.trans b, c, d.imp fun vs H Q E z => spI_cx h2 z, e⟩
theorem spT_three {K : PySem.W.Frag} {D : Addr} {f g h : Str} (hfg : f ≠ g) (vs : List V) (H : Hp) (Q : VK) (E : XK) (z : spS K D [f, g, h] vs H Q E) :
    spT K D 4 (tSeq (tOst K f (tVar 0) (tVar 1)) (tSeq (tOst K g (tVar 0) (tVar 2)) (tOst K h (tVar 0) (tVar 3)))) vs H Q E := by
  obtain ⟨C, S, hf, a, ws, rfl, hl, ha, q⟩ := z
  match ws, hl with
  | [x, y, z], _ =>
    refine ⟨rfl, C, a, rfl, S, ha, x, rfl, _, rfl, a, C, rfl, S.oex, hf f (by simp), .inl ⟨ha, fun dx hdx hne => ⟨y, rfl, _, rfl, a, C, rfl, S.oex, hf g (by simp), .inr ⟨dx, [(f, x)], upd_same, by rw [upd_ne hne, upd_same], by simp, ⟨z, rfl, _, rfl, a, C, rfl, S.oex, hf h (by simp), .inr ⟨dx, [(g, y), (f, x)], by rw [upd_ne (Ne.symm hne), upd_same], upd_same, by simp, ?_⟩⟩⟩⟩⟩⟩
    have e : upd (upd (upd (upd H dx (exd dx [(f, x)])) a (exo a C (some dx))) dx (exd dx [(g, y), (f, x)])) dx (exd dx [(h, z), (g, y), (f, x)]) = upd (upd H dx (exd dx ([f, g, h].zip [x, y, z]).reverse)) a (exo a C (some dx)) := by
      funext b
      by_cases hb : b = dx
      · rw [hb, upd_same, upd_ne hne, upd_same]
        rfl
      · rw [upd_ne hb, upd_ne hb]
        by_cases hb2 : b = a
        · rw [hb2, upd_same, upd_same]
        · rw [upd_ne hb2, upd_ne hb2, upd_ne hb, upd_ne hb]
    show Q .non _
    rw [e]
    exact q dx hdx hne
end DL
namespace DL
open PySem PySem.Spec PyProof.Rows L2
section
variable {X : Cx} {C : CT} {W : WX}
theorem dss_stuck {st : List Stmt} : DSs X C W st (fun _ => Out.stuck) := ⟨⟨fun pins s σ H D I ⟨Z, G, env, er, q⟩ => q.elim⟩⟩
end
theorem noatL {K : PySem.W.Frag} {l : List (Str × Str)} {x : Str} {fs : List Str} (h : noatTab K l = true) (e : ∀ f ∈ fs, (x, f) ∈ l) : ∀ f ∈ fs, PySem.W.findIn K (.ref (He.ga K x)) f = some none := fun f hf => noatTab_ok h (e f hf)
theorem excTab_sub {K : PySem.W.Frag} {l m : List Str} (h : excTab K l = true) (e : ∀ z ∈ m, z ∈ l) : excTab K m = true := List.all_eq_true.mpr fun z hz => List.all_eq_true.mp h z (e z hz)
end DL
namespace LW
open PySem L2 DL
def b__law_cell : DL.Env → Out :=
    (mSeq (mIfS (mB (m2 (mV 1) (mCall (mCons (mV 0) mNil) gLen) opLt))
      (mRet (mCall (mCons (m2 (mV 0) (mV 1) opIx) mNil) gAbs))
      Out.nx)
    (mRet (mC (.int 1000001002002001005001004003000000000002001000003001002003000000002000000000000003001))))
def F__law_cell : Fn := runB 2 b__law_cell
def l1__law_draws : DL.Env → Out :=
    (mIfS (mAnd (mB (m2 (mV 0) (m2 (mC (.int 10)) (mC (.int 18)) opPow) opGe)) (mB (m2 (mV 3) (mC (.int 0)) opGt)))
        (mSeq (mApp 2 (m2 (mCall (mCons (mV 3) mNil) gInt) (mC (.int 1000)) opMod))
        (mSetF 3 (m2 (mV 3) (mC (.int 1000)) opDiv)))
        (mSeq (mSetF 5 (m2 (mCall (mCons (m2 (m2 (m2 (mV 0) (mC (.int 3)) opAdd) (m2 (mV 4) (mC (.int 5)) opAdd) opMul) (mC (.int 7919)) opMul) mNil) gInt) (mC (.int 100003)) opMod))
        (mApp 2 (m2 (m2 (mCall (mCons (m2 (m2 (m2 (mV 5) (mV 5) opMul) (mV 0) opAdd) (m2 (mC (.int 11)) (mV 4) opMul) opAdd) mNil) gInt) (mC (.int 99991)) opMod) (mC (.int 100)) opDiv))))
def b__law_draws : DL.Env → Out :=
    (mSeq (mSetO 2 (mLst mNil))
    (mSeq (mSetF 3 (mV 0))
    (mSeq (mFor (mRng1 (mCons (mV 1) mNil)) (pName 4)
      l1__law_draws)
    (mRet (mV 2)))))
def F__law_draws : Fn := runB 6 b__law_draws
def e1_is_word : DL.Env → Rz EV :=
    (m2 (mV 1) (m2 (m2 (mC (.str "abcdefghijklmnopqrstuvwxyz")) (mC (.str "ABCDEFGHIJKLMNOPQRSTUVWXYZ")) opAdd) (mC (.str "0123456789")) opAdd) opIn)
def b_is_word : DL.Env → Out :=
    (mRet (mAndV (mChn (mC (.int 1)) (mCall (mCons (mV 0) mNil) gLen) (mC (.int 6)) opLe opLe) (mCall (mCons (mLc (mItems (mV 0)) (pName 1) mYes e1_is_word [1]) mNil) gAll)))
def F_is_word : Fn := runB 2 b_is_word
def b_is_sign : DL.Env → Out :=
    (mRet (mAndV (mFn F_is_word (mCons (mV 0) mNil) 1) (m2 (m2 (mV 0) (mC (.int 0)) opIx) (mC (.str "abcdefghijklmnopqrstuvwxyz")) opIn)))
def F_is_sign : Fn := runB 1 b_is_sign
def b_is_name : DL.Env → Out :=
    (mRet (mAndV (mFn F_is_word (mCons (mV 0) mNil) 1) (m2 (m2 (mV 0) (mC (.int 0)) opIx) (mC (.str "ABCDEFGHIJKLMNOPQRSTUVWXYZ")) opIn)))
def F_is_name : Fn := runB 1 b_is_name
def e1__law_same (rec : Fn) : DL.Env → Rz EV :=
    (mFn rec (mCons (m2 (mV 0) (mV 2) opIx) (mCons (m2 (mV 1) (mV 2) opIx) mNil)) 2)
def b__law_same (rec : Fn) : DL.Env → Out :=
    (mSeq (mIfS (mB (m2 (mV 1) (mC .non) opIs))
      (mRet (m2 (mV 0) (mC .non) opIs))
      Out.nx)
    (mSeq (mIfS (mB (mCall (mCons (mV 1) (mCons (mC (.ty "bool")) mNil)) gIsi))
      (mRet (mAndV (mCall (mCons (mV 0) (mCons (mC (.ty "bool")) mNil)) gIsi) (m2 (mV 0) (mV 1) opEq)))
      Out.nx)
    (mSeq (mIfS (mB (mCall (mCons (mV 1) (mCons (mC (.ty "int")) mNil)) gIsi))
      (mRet (mAndV (mCall (mCons (mV 0) (mCons (mC (.ty "int")) mNil)) gIsi) (mAndV (mNotV (mCall (mCons (mV 0) (mCons (mC (.ty "bool")) mNil)) gIsi)) (m2 (mV 0) (mV 1) opEq))))
      Out.nx)
    (mSeq (mIfS (mB (mCall (mCons (mV 1) (mCons (mC (.ty "str")) mNil)) gIsi))
      (mRet (mAndV (mCall (mCons (mV 0) (mCons (mC (.ty "str")) mNil)) gIsi) (m2 (mV 0) (mV 1) opEq)))
      Out.nx)
    (mSeq (mIfS (mOr (mAnd (mB (mCall (mCons (mV 1) (mCons (mC (.ty "tuple")) mNil)) gIsi)) (mNot (mB (mCall (mCons (mV 0) (mCons (mC (.ty "tuple")) mNil)) gIsi)))) (mAnd (mB (mCall (mCons (mV 1) (mCons (mC (.ty "list")) mNil)) gIsi)) (mNot (mB (mCall (mCons (mV 0) (mCons (mC (.ty "list")) mNil)) gIsi)))))
      (mRet (mC (.bl false)))
      Out.nx)
    (mRet (mAndV (m2 (mCall (mCons (mV 0) mNil) gLen) (mCall (mCons (mV 1) mNil) gLen) opEq) (mCall (mCons (mLc (mRng1 (mCons (mCall (mCons (mV 1) mNil) gLen) mNil)) (pName 2) mYes (e1__law_same rec) [2]) mNil) gAll))))))))
def F__law_same : Nat → Fn
  | 0 => runB 3 fun _ => .stuck
  | n + 1 => runB 3 (b__law_same (F__law_same n))
def w1__law_sorted : DL.Env → Rz Bool :=
    (mAnd (mB (m2 (mV 3) (mCall (mCons (mV 1) mNil) gLen) opLt)) (mB (m2 (m2 (mV 1) (mV 3) opIx) (mV 2) opLt)))
def l1__law_sorted : DL.Env → Out :=
    (mSetF 3 (m2 (mV 3) (mC (.int 1)) opAdd))
def l2__law_sorted : DL.Env → Out :=
    (mSeq (mSetF 3 (mC (.int 0)))
      (mSeq (mWhile w1__law_sorted
        l1__law_sorted)
      (mIns 1 (mCons (mV 3) (mCons (mV 2) mNil)))))
def b__law_sorted : DL.Env → Out :=
    (mSeq (mSetO 1 (mLst mNil))
    (mSeq (mFor (mItems (mV 0)) (pName 2)
      l2__law_sorted)
    (mRet (mV 1))))
def F__law_sorted : Fn := runB 4 b__law_sorted
def l1_Signs_init : DL.Env → Out :=
    (mIfS (mAnd (mB (m2 (mV 2) (mC (.str "$")) opNe)) (mNot (mB (mFn F_is_sign (mCons (mV 2) mNil) 1))))
        (mRaise "SymbolError" ["symbol"] (mCons (mV 2) mNil))
        Out.nx)
def b_Signs_init : DL.Env → Out :=
    (mSeq (mFor (mItems (mV 1)) (pName 2)
      l1_Signs_init)
    (mSetFld 0 ["Signs"] "words" (mCall (mCons (mSortSet (mV 1)) mNil) gTuple)))
def I_Signs_init : IFn := runI 3 "Signs" b_Signs_init
def b_Signs_of : DL.Env → Out :=
    (mRet (mMakeL 0 "Signs" 1 I_Signs_init (mCons (mV 1) mNil)))
def F_Signs_of : Fn := runB 2 b_Signs_of
end LW
namespace LW
open PySem L2 DL
def cLow : List Nat := [97, 98, 99, 100, 101, 102, 103, 104, 105, 106, 107, 108, 109, 110, 111, 112, 113, 114, 115, 116, 117, 118, 119, 120, 121, 122]
def cUpp : List Nat := [65, 66, 67, 68, 69, 70, 71, 72, 73, 74, 75, 76, 77, 78, 79, 80, 81, 82, 83, 84, 85, 86, 87, 88, 89, 90]
def cDig : List Nat := [48, 49, 50, 51, 52, 53, 54, 55, 56, 57]
theorem s_low : ("abcdefghijklmnopqrstuvwxyz" : Str) = mk cLow := by decide +kernel
theorem s_upp : ("ABCDEFGHIJKLMNOPQRSTUVWXYZ" : Str) = mk cUpp := by decide +kernel
theorem s_dig : ("0123456789" : Str) = mk cDig := by decide +kernel
theorem s_all : ("abcdefghijklmnopqrstuvwxyzABCDEFGHIJKLMNOPQRSTUVWXYZ0123456789" : Str) = mk (cLow ++ cUpp ++ cDig) := by decide +kernel
def isW (l : List Nat) : Bool := decide (1 ≤ l.length) && decide (l.length ≤ 6) && l.all fun c => decide (c ∈ cLow ++ cUpp ++ cDig)
def isX (first : List Nat) (l : List Nat) : Bool := isW l && (match l with
  | c :: _ => decide (c ∈ first)
  | [] => false)
abbrev isSg := isX cLow
abbrev isNm := isX cUpp
theorem add_low : opAdd (.fz (.str "abcdefghijklmnopqrstuvwxyz")) (.fz (.str "ABCDEFGHIJKLMNOPQRSTUVWXYZ")) = .ok (.fz (.str (mk (cLow ++ cUpp)))) := by
  rw [s_low, s_upp, opAdd_str, if_pos (size_big (by decide))]
  rfl
theorem add_dig : opAdd (.fz (.str (mk (cLow ++ cUpp)))) (.fz (.str "0123456789")) = .ok (.fz (.str (mk (cLow ++ cUpp ++ cDig)))) := by
  rw [s_dig, opAdd_str, if_pos (size_big (by decide))]
  rfl
theorem ev_is_word (l : List Nat) (h : l.length ≤ 16777216) : F_is_word [.str (mk l)] = .ok (.fz (.bl (isW l))) := by
  unfold F_is_word runB b_is_word mRet onE mAndV mChn
  simp only [mCall, mCons, mNil, mV, mC, rdSlot, List.map_cons, List.map_nil, List.length_cons, List.length_nil, List.cons_append, List.nil_append, List.getD_cons_zero, Rz.ok_bind, EV.fr_fz, gLen_mk l h, opO_int, asB_bl]
  have e1 : mLc (mItems (mV 0)) (pName 1) mYes e1_is_word [1] (SL.val (.str (mk l)) :: List.replicate (2 - (0 + 1)) SL.no) =
      .ok (.ow true (.lst ((l.map fun c => decide (c ∈ cLow ++ cUpp ++ cDig)).map .bl))) := by
    rw [List.map_map]
    refine mLc_all (en := fun c => .str ⟨#[c]⟩) ?_ (fun c _ => ⟨.fz (.bl (decide (c ∈ cLow ++ cUpp ++ cDig))), ?_, rfl⟩) (size_big h)
    · simp [mItems, mV, rdSlot]
    · simp only [e1_is_word, m2, mV, mC, Rz.ok_bind, add_low, add_dig]
      exact in_sign c _
  by_cases h1 : 1 ≤ l.length
  · have h1' : (1 : Int) ≤ (l.length : Int) := by omega
    simp only [h1', decide_true, if_true, Rz.ok_bind, asB_bl]
    by_cases h2 : l.length ≤ 6
    · have h2' : (l.length : Int) ≤ 6 := by omega
      simp only [h2', decide_true, if_true, e1, Rz.ok_bind, EV.fr_new, OW.d_lst, gAll_map]
      simp [isW, h1, h2, Function.comp_def]
    · have h2' : ¬ (l.length : Int) ≤ 6 := by omega
      simp [h2', isW, h2]
  · have h1' : ¬ (1 : Int) ≤ (l.length : Int) := by omega
    simp [h1', isW, h1]
theorem isW_cons {l : List Nat} (h : isW l = true) : ∃ c r, l = c :: r := by
  cases l with
  | nil => cases h
  | cons c r => exact ⟨c, r, rfl⟩
theorem appF_one {F : Fn} {d r : D} (h : F [d] = .ok (.fz r)) : appF F [.fz d] = .ok (.fz r) := by
  unfold appF
  rw [show [EV.fz d].map EV.d = [d] from rfl, h]
  rfl
theorem appF_two {F : Fn} {d e r : D} (h : F [d, e] = .ok (.fz r)) : appF F [.fz d, .fz e] = .ok (.fz r) := by
  unfold appF
  rw [show [EV.fz d, EV.fz e].map EV.d = [d, e] from rfl, h]
  rfl
theorem ev_is_sign (l : List Nat) (h : l.length ≤ 16777216) : F_is_sign [.str (mk l)] = .ok (.fz (.bl (isSg l))) := by
  unfold F_is_sign runB b_is_sign mRet onE mAndV mFn
  simp only [mCons, mNil, mV, mC, rdSlot, List.map_cons, List.map_nil, List.length_cons, List.length_nil, List.cons_append, List.nil_append, List.getD_cons_zero, Rz.ok_bind, EV.fr_fz, if_true, m2, appF_one (ev_is_word l h), asB_bl]
  by_cases hw : isW l = true
  · obtain ⟨c, r, rfl⟩ := isW_cons hw
    simp only [hw, if_true, ix0_mk c r h, Rz.ok_bind, s_low, in_sign]
    simp [isX, hw]
  · have hw' : isW l = false := by simpa using hw
    simp [hw', isSg, isX]
theorem ev_is_name (l : List Nat) (h : l.length ≤ 16777216) : F_is_name [.str (mk l)] = .ok (.fz (.bl (isNm l))) := by
  unfold F_is_name runB b_is_name mRet onE mAndV mFn
  simp only [mCons, mNil, mV, mC, rdSlot, List.map_cons, List.map_nil, List.length_cons, List.length_nil, List.cons_append, List.nil_append, List.getD_cons_zero, Rz.ok_bind, EV.fr_fz, if_true, m2, appF_one (ev_is_word l h), asB_bl]
  by_cases hw : isW l = true
  · obtain ⟨c, r, rfl⟩ := isW_cons hw
    simp only [hw, if_true, ix0_mk c r h, Rz.ok_bind, s_upp, in_sign]
    simp [isX, hw]
  · have hw' : isW l = false := by simpa using hw
    simp [hw', isNm, isX]

def bigCell : Int := 1000001002002001005001004003000000000002001000003001002003000000002000000000000003001
def cellOf (ns : List Int) (i : Nat) : Int := match ns[i]? with
  | some n => if n < 0 then -n else n
  | none => bigCell
theorem cellOf_nn (ns : List Int) (i : Nat) : 0 ≤ cellOf ns i := by
  unfold cellOf
  split
  · split <;> omega
  · decide
theorem ev_cell (ns : List Int) (i : Nat) : F__law_cell [.scr ns, .int i] = .ok (.fz (.int (cellOf ns i))) := by
  unfold F__law_cell runB b__law_cell mSeq mIfS mRet onE mB
  simp only [mCall, mCons, mNil, mV, mC, m2, rdSlot, List.map_cons, List.map_nil, List.length_cons, List.length_nil, List.cons_append, List.nil_append, List.getD_cons_zero, List.getD_cons_succ, Rz.ok_bind, EV.fr_fz, gLen_scr, opO_int, asB_bl]
  by_cases h : i < ns.length
  · have h' : (i : Int) < (ns.length : Int) := by omega
    have e : ns[i]? = some ns[i] := List.getElem?_eq_getElem h
    simp only [h', decide_true, if_true, ix_scr ns i _ e, Rz.ok_bind, EV.fr_fz]
    simp [absD, cellOf, e]
  · have h' : ¬ (i : Int) < (ns.length : Int) := by omega
    have e : ns[i]? = none := List.getElem?_eq_none (by omega)
    simp [h', cellOf, e, bigCell]
def drawsFrom (cell : Int) : Nat → Nat → Int → List Int
  | 0, _, _ => []
  | n + 1, k, left => if 1000000000000000000 ≤ cell ∧ 0 < left then left % 1000 :: drawsFrom cell n (k + 1) (left / 1000)
    else ((((cell + 3) * ((k : Int) + 5) * 7919 % 100003) * ((cell + 3) * ((k : Int) + 5) * 7919 % 100003) + cell + 11 * (k : Int)) % 99991 / 100) :: drawsFrom cell n (k + 1) left
def draws (cell : Int) (n : Nat) : List Int := drawsFrom cell n 0 cell
theorem drawsFrom_length (cell : Int) : ∀ (n k : Nat) (left : Int), (drawsFrom cell n k left).length = n
  | 0, _, _ => rfl
  | n + 1, k, left => by
    unfold drawsFrom
    split <;> simp [drawsFrom_length cell n]
theorem draws_length (cell : Int) (n : Nat) : (draws cell n).length = n := drawsFrom_length cell n 0 cell
theorem drawsFrom_nn (cell : Int) : ∀ (n k : Nat) (left : Int), ∀ x ∈ drawsFrom cell n k left, 0 ≤ x ∧ x < 1000
  | 0, _, _, x, h => by cases h
  | n + 1, k, left, x, h => by
    unfold drawsFrom at h
    split at h
    · rcases List.mem_cons.mp h with rfl | h
      · exact ⟨Int.emod_nonneg _ (by decide), Int.emod_lt_of_pos _ (by decide)⟩
      · exact drawsFrom_nn cell n _ _ x h
    · rcases List.mem_cons.mp h with rfl | h
      · generalize ((cell + 3) * ((k : Int) + 5) * 7919 % 100003) * ((cell + 3) * ((k : Int) + 5) * 7919 % 100003) + cell + 11 * (k : Int) = z
        have h1 := Int.emod_nonneg z (show (99991 : Int) ≠ 0 by decide)
        have h2 := Int.emod_lt_of_pos z (show (0 : Int) < 99991 by decide)
        omega
      · exact drawsFrom_nn cell n _ _ x h
theorem draws_nn (cell : Int) (n : Nat) : ∀ x ∈ draws cell n, 0 ≤ x ∧ x < 1000 := drawsFrom_nn cell n 0 cell
def DrInv (cell : Int) (n : Nat) (i : Nat) (e : DL.Env) : Prop := ∃ (row : List Int) (left : Int) (v4 v5 : SL), e = [.val (.int cell), .val (.int n), .own (.lst (row.map .int)), .val (.int left), v4, v5] ∧ row.length = i ∧ row ++ drawsFrom cell (n - i) i left = draws cell n
theorem mul_small {i j : Int} (h : j.natAbs < 18446744073709551616) : opMul (.fz (.int i)) (.fz (.int j)) = .ok (.fz (.int (i * j))) := by
  unfold opMul
  rw [opI_int, if_pos (by
    rw [Bool.or_eq_true, decide_eq_true_eq, decide_eq_true_eq]
    exact .inr h)]
theorem div_small {i j : Int} (h : 0 < j ∧ j < 1073741824) : opDiv (.fz (.int i)) (.fz (.int j)) = .ok (.fz (.int (i / j))) := by
  unfold opDiv
  rw [opI_int, if_pos (by rw [Bool.and_eq_true, decide_eq_true_eq, decide_eq_true_eq]; exact h)]
theorem mod_pos {i j : Int} (h : 0 < j) : opMod (.fz (.int i)) (.fz (.int j)) = .ok (.fz (.int (i % j))) := by
  unfold opMod
  rw [opI_int, if_pos (by rw [decide_eq_true_eq]; exact h)]
theorem sub_ints (i j : Int) : opSub (.fz (.int i)) (.fz (.int j)) = .ok (.fz (.int (i - j))) := rfl
theorem pow_18 : opPow (.fz (.int 10)) (.fz (.int 18)) = .ok (.fz (.int 1000000000000000000)) := by
  unfold opPow
  rw [opI_int, if_pos (by decide +kernel), show (10 : Int) ^ (18 : Int).toNat = 1000000000000000000 by decide +kernel]
theorem int_int (i : Int) : gInt [.fz (.int i)] = .ok (.fz (.int i)) := rfl
theorem app_ok {i : Nat} {m : DL.Env → Rz EV} {env : DL.Env} {ds : List D} {a : EV} {d : D} (h : env.getD i .no = .own (.lst ds)) (hm : m env = .ok a) (hf : a.fr = .fz d) (hl : ds.length < sizeLine) : mApp i m env = .nx (env.set i (.own (.lst (ds ++ [d])))) := by
  unfold mApp
  rw [h]
  dsimp only
  rw [hm]
  dsimp only
  rw [hf]
  dsimp only
  rw [if_pos hl]
theorem setF_ok {i : Nat} {m : DL.Env → Rz EV} {env : DL.Env} {a : EV} {d : D} (hm : m env = .ok a) (hf : a.fr = .fz d) : mSetF i m env = .nx (env.set i (.val d)) := by
  unfold mSetF onE
  rw [hm]
  dsimp only
  unfold stF
  rw [hf]
theorem setO_ok {i : Nat} {m : DL.Env → Rz EV} {env : DL.Env} {w : OW} (hm : m env = .ok (.ow true w)) : mSetO i m env = .nx (env.set i (.own w)) := by
  unfold mSetO onE
  rw [hm]
  rfl
theorem seq_ok {a b : DL.Env → Out} {env e : DL.Env} (h : a env = .nx e) : mSeq a b env = b e := by
  unfold mSeq
  rw [h]
theorem seq_ret {a b : DL.Env → Out} {env : DL.Env} {ev : EV} (h : a env = .ret ev) : mSeq a b env = .ret ev := by
  unfold mSeq
  rw [h]
theorem ifT {t : DL.Env → Rz Bool} {a b : DL.Env → Out} {env : DL.Env} (h : t env = .ok true) : mIfS t a b env = a env := by
  unfold mIfS
  rw [h]
  rfl
theorem ifF {t : DL.Env → Rz Bool} {a b : DL.Env → Out} {env : DL.Env} (h : t env = .ok false) : mIfS t a b env = b env := by
  unfold mIfS
  rw [h]
  rfl
theorem for_ok {it : DL.Env → Rz (List D)} {p : D → DL.Env → Rz DL.Env} {b : DL.Env → Out} {env : DL.Env} {ds : List D} (h : it env = .ok ds) : mFor it p b env = forF p b ds env := by
  unfold mFor
  rw [h]
theorem rng1_ok {a : DL.Env → Rz EV} {env : DL.Env} {n : Nat} (h : a env = .ok (.fz (.int n))) (hn : n < 4611686018427387904) : mRng1 (mCons a mNil) env = .ok ((List.range n).map fun (i : Nat) => .int i) := by
  unfold mRng1 mCons mNil
  rw [h]
  simp only [Rz.ok_bind, EV.fr_fz]
  rw [if_pos (by rw [Int.natAbs_natCast]; exact hn)]
  unfold DL.upTo
  rw [Int.toNat_natCast]
  simp only [Int.zero_add]
theorem drBody_hi {cell left : Int} {n x : Nat} {row : List Int} {v5 : SL} (h1 : 1000000000000000000 ≤ cell) (h2 : 0 < left) (hl : row.length < sizeLine) :
    l1__law_draws [.val (.int cell), .val (.int n), .own (.lst (row.map .int)), .val (.int left), .val (.int x), v5] = .nx [.val (.int cell), .val (.int n), .own (.lst ((row ++ [left % 1000]).map .int)), .val (.int (left / 1000)), .val (.int x), v5] := by
  unfold l1__law_draws
  rw [ifT (by simp only [mAnd, mB, m2, mV, mC, rdSlot, List.getD_cons_zero, List.getD_cons_succ, Rz.ok_bind, pow_18, opO_int, asB_bl, decide_eq_true h1, decide_eq_true h2, if_true]),
    seq_ok (app_ok (ds := row.map .int) (a := .fz (.int (left % 1000))) rfl (by simp only [m2, mCall, mCons, mNil, mV, mC, rdSlot, List.getD_cons_zero, List.getD_cons_succ, Rz.ok_bind, EV.fr_fz, int_int, mod_pos (show (0 : Int) < 1000 by decide)]) rfl (by rw [List.length_map]; exact hl)),
    setF_ok (a := .fz (.int (left / 1000))) (by simp only [m2, mV, mC, rdSlot, List.set_cons_zero, List.set_cons_succ, List.getD_cons_zero, List.getD_cons_succ, Rz.ok_bind, div_small (show (0 : Int) < 1000 ∧ (1000 : Int) < 1073741824 by decide)]) rfl]
  simp
theorem drBody_lo {cell left : Int} {n x : Nat} {row : List Int} {v5 : SL} (h : ¬ (1000000000000000000 ≤ cell ∧ 0 < left)) (hx : x ≤ 1000) (hl : row.length < sizeLine) :
    l1__law_draws [.val (.int cell), .val (.int n), .own (.lst (row.map .int)), .val (.int left), .val (.int x), v5] = .nx [.val (.int cell), .val (.int n), .own (.lst ((row ++ [(((cell + 3) * ((x : Int) + 5) * 7919 % 100003) * ((cell + 3) * ((x : Int) + 5) * 7919 % 100003) + cell + 11 * (x : Int)) % 99991 / 100]).map .int)), .val (.int left), .val (.int x), .val (.int ((cell + 3) * ((x : Int) + 5) * 7919 % 100003))] := by
  have h4 : ((x : Int) + 5).natAbs < 18446744073709551616 := by omega
  have h5 : (x : Int).natAbs < 18446744073709551616 := by omega
  have h7 : (7919 : Int).natAbs < 18446744073709551616 := by decide
  have hl1 := Int.emod_nonneg ((cell + 3) * ((x : Int) + 5) * 7919) (show (100003 : Int) ≠ 0 by decide)
  have hl2 := Int.emod_lt_of_pos ((cell + 3) * ((x : Int) + 5) * 7919) (show (0 : Int) < 100003 by decide)
  unfold l1__law_draws
  rw [ifF (by
    simp only [mAnd, mB, m2, mV, mC, rdSlot, List.getD_cons_zero, List.getD_cons_succ, Rz.ok_bind, pow_18, opO_int, asB_bl]
    by_cases b1 : 1000000000000000000 ≤ cell
    · have b2 : ¬ 0 < left := fun z => h ⟨b1, z⟩
      simp only [decide_eq_true b1, decide_eq_false b2, if_true]
    · simp only [decide_eq_false b1, Bool.false_eq_true, if_false]),
    seq_ok (setF_ok (a := .fz (.int ((cell + 3) * ((x : Int) + 5) * 7919 % 100003))) (by
      simp only [m2, mCall, mCons, mNil, mV, mC, rdSlot, List.getD_cons_zero, List.getD_cons_succ, Rz.ok_bind, EV.fr_fz, int_int, opAdd_int, mul_small h4, mul_small h7, mod_pos (show (0 : Int) < 100003 by decide)]) rfl)]
  generalize (cell + 3) * ((x : Int) + 5) * 7919 % 100003 = z at hl1 hl2 ⊢
  have h6 : z.natAbs < 18446744073709551616 := by omega
  rw [app_ok (ds := row.map .int) (a := .fz (.int ((z * z + cell + 11 * (x : Int)) % 99991 / 100))) rfl (by
      simp only [m2, mCall, mCons, mNil, mV, mC, rdSlot, List.set_cons_zero, List.set_cons_succ, List.getD_cons_zero, List.getD_cons_succ, Rz.ok_bind, EV.fr_fz, int_int, opAdd_int, mul_small h5, mul_small h6, mod_pos (show (0 : Int) < 99991 by decide), div_small (show (0 : Int) < 100 ∧ (100 : Int) < 1073741824 by decide)]) rfl (by rw [List.length_map]; exact hl)]
  simp
theorem ev_draws (cell : Int) (n : Nat) (hn : n ≤ 1000) : F__law_draws [.int cell, .int n] = .ok (.ow false (.lst ((draws cell n).map .int))) := by
  unfold F__law_draws runB
  have e0 : b__law_draws ([D.int cell, .int n].map SL.val ++ List.replicate (6 - [D.int cell, .int n].length) SL.no) = .ret (.ow false (.lst ((draws cell n).map .int))) := by
    unfold b__law_draws
    rw [seq_ok (setO_ok (w := .lst []) rfl), seq_ok (setF_ok (a := .fz (.int cell)) rfl rfl)]
    rw [show (List.set (List.set (List.map SL.val [D.int cell, D.int n] ++ List.replicate (6 - [D.int cell, D.int n].length) SL.no) 2 (SL.own (OW.lst []))) 3 (.val (.int cell))) = [.val (.int cell), .val (.int n), .own (.lst []), .val (.int cell), .no, .no] from rfl]
    obtain ⟨e', h1, row, left, v4, v5, rfl, h2, h3⟩ := for_inv (p := pName 4) (b := l1__law_draws) (fun (i : Nat) => D.int i) (DrInv cell n) (List.range n) 0
      [.val (.int cell), .val (.int n), .own (.lst []), .val (.int cell), .no, .no] (by
        rintro i x e hx ⟨row, left, v4, v5, rfl, h2, h3⟩
        rw [Nat.zero_add] at h2 h3 ⊢
        have hi : i < n := by
          have := (List.getElem?_eq_some_iff.mp hx).1
          simpa using this
        have hxi : x = i := by
          have := (List.getElem?_eq_some_iff.mp hx).2
          simpa using this.symm
        subst hxi
        rw [show n - x = n - (x + 1) + 1 by omega, drawsFrom] at h3
        have hrow : row.length < sizeLine := Nat.lt_of_lt_of_le (by omega : row.length < 1001) (size_big (by decide))
        by_cases h18 : 1000000000000000000 ≤ cell ∧ 0 < left
        · rw [if_pos h18] at h3
          exact ⟨_, _, rfl, .inl (drBody_hi h18.1 h18.2 hrow), row ++ [left % 1000], left / 1000, _, _, rfl, by simp [h2], by rw [List.append_assoc]; exact h3⟩
        · rw [if_neg h18] at h3
          exact ⟨_, _, rfl, .inl (drBody_lo h18 (by omega) hrow), _, left, _, _, rfl, by simp [h2], by rw [List.append_assoc]; exact h3⟩) ⟨[], cell, .no, .no, rfl, rfl, rfl⟩
    rw [List.length_range, Nat.zero_add] at h2 h3
    rw [Nat.sub_self] at h3
    have h4 : row = draws cell n := by rw [← h3]; simp [drawsFrom]
    subst h4
    rw [seq_ok (by rw [for_ok (rng1_ok (n := n) rfl (by omega))]; exact h1)]
    rfl
  rw [e0]
theorem appF_ow2 {F : Fn} {d e : D} {b : Bool} {w : OW} (h : F [d, e] = .ok (.ow b w)) : appF F [.fz d, .fz e] = .ok (.ow true w) := by
  unfold appF
  rw [show [EV.fz d, EV.fz e].map EV.d = [d, e] from rfl, h]
  rfl
theorem appF_ow1 {F : Fn} {d : D} {b : Bool} {w : OW} (h : F [d] = .ok (.ow b w)) : appF F [.fz d] = .ok (.ow true w) := by
  unfold appF
  rw [show [EV.fz d].map EV.d = [d] from rfl, h]
  rfl
theorem ap_draws (cell : Int) (n : Nat) (hn : n ≤ 1000) : ∃ ds : List Nat, appF F__law_draws [.fz (.int cell), .fz (.int n)] = .ok (.ow true (.lst (ds.map fun (k : Nat) => .int k))) ∧ ds.length = n ∧ ∀ x ∈ ds, x < 1000 := by
  refine ⟨(draws cell n).map Int.toNat, ?_, by rw [List.length_map, draws_length], fun x hx => ?_⟩
  · rw [appF_ow2 (ev_draws cell n hn), List.map_map]
    congr 3
    apply List.map_congr_left
    intro x hx
    have := (draws_nn cell n x hx).1
    show D.int x = D.int ((x.toNat : Nat) : Int)
    rw [Int.toNat_of_nonneg this]
  · obtain ⟨y, hy, rfl⟩ := List.mem_map.mp hx
    have := draws_nn cell n y hy
    omega
theorem ix_nat (ds : List Nat) (i : Nat) (h : i < ds.length) : opIx (.fz (.lst (ds.map fun (k : Nat) => .int k))) (.fz (.int i)) = .ok (.fz (.int (ds[i] : Nat))) := by
  apply ix_lst
  rw [List.getElem?_map, List.getElem?_eq_getElem h]
  rfl
theorem mod_nat (a b : Nat) (h : 0 < b) : opMod (.fz (.int (a : Nat))) (.fz (.int (b : Nat))) = .ok (.fz (.int ((a % b : Nat) : Int))) := by
  rw [mod_pos (by omega)]
  rfl
theorem add_nat (a b : Nat) : opAdd (.fz (.int (a : Nat))) (.fz (.int (b : Nat))) = .ok (.fz (.int ((a + b : Nat) : Int))) := by
  rw [opAdd_int]
  rfl
end LW
namespace DL
open PySem L2
@[simp] theorem mC_e (d : D) (env : Env) : mC d env = .ok (.fz d) := rfl
@[simp] theorem mV_e (i : Nat) (env : Env) : mV i env = rdSlot (env.getD i .no) := rfl
@[simp] theorem rdSlot_val (d : D) : rdSlot (.val d) = .ok (.fz d) := rfl
@[simp] theorem rdSlot_own (w : OW) : rdSlot (.own w) = .ok (.ow false w) := rfl
@[simp] theorem m2_e (ma mb : Env → Rz EV) (g : EV → EV → Rz EV) (env : Env) : m2 ma mb g env = (ma env >>= fun a => mb env >>= fun b => g a b) := rfl
@[simp] theorem mB_e (m : Env → Rz EV) (env : Env) : mB m env = (m env >>= asB) := rfl
@[simp] theorem mAnd_e (a b : Env → Rz Bool) (env : Env) : mAnd a b env = (a env >>= fun x => if x = true then b env else .ok false) := rfl
@[simp] theorem mOr_e (a b : Env → Rz Bool) (env : Env) : mOr a b env = (a env >>= fun x => if x = true then .ok true else b env) := rfl
@[simp] theorem mNot_e (a : Env → Rz Bool) (env : Env) : mNot a env = (a env >>= fun x => .ok (!x)) := rfl
@[simp] theorem mAndV_e (a b : Env → Rz EV) (env : Env) : mAndV a b env = (a env >>= fun x => asB x >>= fun k => if k = true then b env else .ok (.fz (.bl false))) := rfl
@[simp] theorem mOrV_e (a b : Env → Rz EV) (env : Env) : mOrV a b env = (a env >>= fun x => asB x >>= fun k => if k = true then .ok (.fz (.bl true)) else b env) := rfl
@[simp] theorem mNotV_e (a : Env → Rz EV) (env : Env) : mNotV a env = (a env >>= fun x => asB x >>= fun k => .ok (.fz (.bl (!k)))) := rfl
@[simp] theorem mIf_e (t : Env → Rz Bool) (a b : Env → Rz EV) (env : Env) : mIf t a b env = (t env >>= fun x => if x = true then a env else b env) := rfl
@[simp] theorem mNil_e (env : Env) : mNil env = .ok [] := rfl
@[simp] theorem mCons_e (a : Env → Rz EV) (r : Env → Rz (List EV)) (env : Env) : mCons a r env = (a env >>= fun x => r env >>= fun xs => .ok (x.fr :: xs)) := rfl
@[simp] theorem mCall_e (a : Env → Rz (List EV)) (g : List EV → Rz EV) (env : Env) : mCall a g env = (a env >>= fun xs => g xs) := rfl
@[simp] theorem mFn_e (F : Fn) (a : Env → Rz (List EV)) (n : Nat) (env : Env) : mFn F a n env = (a env >>= fun evs => if evs.length = n then appF F evs else .stuck) := rfl
@[simp] theorem mMake_e (c : Str) (n : Nat) (IF : IFn) (m : Env → Rz (List EV)) (env : Env) : mMake c n IF m env = (m env >>= fun evs => if evs.length = n then appI c IF evs else .stuck) := rfl
@[simp] theorem mTup_e (a : Env → Rz (List EV)) (env : Env) : mTup a env = (a env >>= fun xs => orStuck (allFz xs) >>= fun ds => if ds.length ≤ sizeLine then .ok (.fz (.tup ds)) else .stuck) := rfl
@[simp] theorem mLst_e (a : Env → Rz (List EV)) (env : Env) : mLst a env = (a env >>= fun xs => orStuck (allFz xs) >>= fun ds => if ds.length ≤ sizeLine then .ok (.ow true (.lst ds)) else .stuck) := rfl
@[simp] theorem mFld_e (cs : List Str) (f : Str) (m : Env → Rz EV) (env : Env) : mFld cs f m env = (m env >>= fun a => orStuck (fldD cs f a.d) >>= fun d => .ok (.fz d)) := rfl
@[simp] theorem mSl_e (m : Env → Rz EV) (lo hi : Option (Env → Rz EV)) (env : Env) : mSl m lo hi env = (m env >>= fun a => mPart lo env >>= fun l => mPart hi env >>= fun h => gSl a l h) := rfl
@[simp] theorem mPart_none (env : Env) : mPart none env = .ok none := rfl
@[simp] theorem mPart_some (m : Env → Rz EV) (env : Env) : mPart (some m) env = (m env >>= fun a => match a with
    | .fz (.int i) => .ok (some i)
    | _ => .stuck) := rfl
@[simp] theorem mM1_e (ma mb : Env → Rz EV) (g : Str → EV → Rz EV) (env : Env) : mM1 ma mb g env = (ma env >>= fun a => isS a >>= fun s => mb env >>= fun b => g s b) := rfl
@[simp] theorem mItems_e (m : Env → Rz EV) (env : Env) : mItems m env = (m env >>= fun a => frD a >>= items) := rfl
@[simp] theorem mSortSet_e (m : Env → Rz EV) (env : Env) : mSortSet m env = (m env >>= sortSetD) := rfl
@[simp] theorem mRet_e (m : Env → Rz EV) (env : Env) : mRet m env = (match m env with
    | .ok ev => .ret ev
    | .exc e => .exc e env
    | .stuck => .stuck) := rfl
@[simp] theorem mSeq_e (a b : Env → Out) (env : Env) : mSeq a b env = (match a env with
    | .nx e => b e
    | o => o) := rfl
@[simp] theorem mIfS_e (t : Env → Rz Bool) (a b : Env → Out) (env : Env) : mIfS t a b env = (match t env with
    | .ok c => if c = true then a env else b env
    | .exc e => .exc e env
    | .stuck => .stuck) := rfl
@[simp] theorem mSetF_e (i : Nat) (m : Env → Rz EV) (env : Env) : mSetF i m env = (match m env with
    | .ok ev => stF i ev env
    | .exc e => .exc e env
    | .stuck => .stuck) := rfl
@[simp] theorem mSetO_e (i : Nat) (m : Env → Rz EV) (env : Env) : mSetO i m env = (match m env with
    | .ok ev => stO i ev env
    | .exc e => .exc e env
    | .stuck => .stuck) := rfl
@[simp] theorem stF_old (i : Nat) (w : OW) (env : Env) : stF i (.ow false w) env = .stuck := rfl
@[simp] theorem opEq_e (a b : EV) : opEq a b = (orStuck (eqD a.d b.d) >>= fun k => .ok (.fz (.bl k))) := rfl
@[simp] theorem opNe_e (a b : EV) : opNe a b = (orStuck (eqD a.d b.d) >>= fun k => .ok (.fz (.bl (!k)))) := rfl
@[simp] theorem opIx_e (a b : EV) : opIx a b = (orStuck (ixD a b) >>= fun d => .ok (.fz d)) := rfl
@[simp] theorem ixD_lst (ds : List D) (i : Int) : ixD (.fz (.lst ds)) (.fz (.int i)) = atI ds i := rfl
@[simp] theorem ixD_own (n : Bool) (ds : List D) (i : Int) : ixD (.ow n (.lst ds)) (.fz (.int i)) = atI ds i := rfl
@[simp] theorem ixD_tup (ds : List D) (i : Int) : ixD (.fz (.tup ds)) (.fz (.int i)) = atI ds i := rfl
@[simp] theorem pName_e (i : Nat) (d : D) (env : Env) : pName i d env = .ok (env.set i (.val d)) := rfl
@[simp] theorem frD_old (w : OW) : frD (.ow false w) = .stuck := rfl
@[simp] theorem gLen_lst' (b : Bool) (ds : List D) : gLen [.ow b (.lst ds)] = .ok (.fz (.int ds.length)) := rfl
@[simp] theorem gLen_l (ds : List D) : gLen [.fz (.lst ds)] = .ok (.fz (.int ds.length)) := rfl
@[simp] theorem gLen_t (ds : List D) : gLen [.fz (.tup ds)] = .ok (.fz (.int ds.length)) := rfl
@[simp] theorem gLen_s (ns : List Int) : gLen [.fz (.scr ns)] = .ok (.fz (.int ns.length)) := rfl
@[simp] theorem gInt_i (i : Int) : gInt [.fz (.int i)] = .ok (.fz (.int i)) := rfl
@[simp] theorem lenD_lst (ds : List D) : lenD (.lst ds) = some (.int ds.length) := rfl
@[simp] theorem lenD_tup (ds : List D) : lenD (.tup ds) = some (.int ds.length) := rfl
@[simp] theorem lenD_scr (ds : List Int) : lenD (.scr ds) = some (.int ds.length) := rfl
@[simp] theorem absD_int (i : Int) : absD (.int i) = some (.int (if i < 0 then -i else i)) := rfl
@[simp] theorem intD_int (i : Int) : intD (.int i) = some (.int i) := rfl
theorem allD_bls (f : List Bool → Bool) (bs : List Bool) : allD f (.lst (bs.map .bl)) = some (.bl (f bs)) := by simp [allD]
@[simp] theorem allD_const {α : Type} (l : List α) : allD (fun bs => bs.all id) (.lst (l.map fun _ => .bl true)) = some (.bl true) := by
  rw [show (l.map fun _ => D.bl true) = (l.map fun _ => true).map D.bl by rw [List.map_map]; rfl, allD_bls]
  simp
def PL : Nat → D → Prop
  | 0, _ => False
  | _ + 1, .non => True
  | _ + 1, .bl _ => True
  | _ + 1, .int _ => True
  | _ + 1, .str x => PyData.strOk x = true
  | n + 1, .tup ds => ds.length ≤ 100000 ∧ ∀ d ∈ ds, PL n d
  | n + 1, .lst ds => ds.length ≤ 100000 ∧ ∀ d ∈ ds, PL n d
  | _ + 1, _ => False
theorem canLays_of : ∀ {n : Nat} {ds : List D}, (∀ d ∈ ds, (toPy d).canLay0 = true ∧ (toPy d).depth ≤ n) → PyData.canLayAll0 (toPys ds) = true ∧ PyData.depthAll (toPys ds) ≤ n
  | n, [], _ => by simp [toPys, PyData.canLayAll0, PyData.depthAll]
  | n, d :: ds, h => by
    obtain ⟨h1, h2⟩ := h d List.mem_cons_self
    obtain ⟨h3, h4⟩ := canLays_of (n := n) fun e he => h e (.tail _ he)
    simp only [toPys, PyData.canLayAll0, PyData.depthAll, h1, h3, Bool.and_self, true_and]
    exact Nat.max_le.mpr ⟨h2, h4⟩
theorem PL.lay : ∀ {n : Nat} {d : D}, PL n d → (toPy d).canLay0 = true ∧ (toPy d).depth ≤ n
  | 0, _, h => h.elim
  | _ + 1, .non, _ => by simp [toPy, PyData.canLay0, PyData.depth]
  | _ + 1, .bl _, _ => by simp [toPy, PyData.canLay0, PyData.depth]
  | _ + 1, .int _, _ => by simp [toPy, PyData.canLay0, PyData.depth]
  | _ + 1, .str _, h => by
    have h : PyData.strOk _ = true := h
    simp [toPy, PyData.canLay0, PyData.depth, h]
  | n + 1, .tup ds, h => by
    obtain ⟨h3, h4⟩ := canLays_of (n := n) fun e he => (h.2 e he).lay
    simp only [toPy, PyData.canLay0, PyData.depth, h3, true_and]
    omega
  | n + 1, .lst ds, h => by
    obtain ⟨h3, h4⟩ := canLays_of (n := n) fun e he => (h.2 e he).lay
    simp only [toPy, PyData.canLay0, PyData.depth, h3, true_and]
    omega
theorem PL.shaped {n : Nat} {d : D} (h : PL n d) (hn : n ≤ 64) : SeqAt.shaped (toPy d) = true := by
  obtain ⟨h1, h2⟩ := h.lay
  unfold SeqAt.shaped
  rw [h1, decide_eq_true (Nat.le_trans h2 hn)]
  rfl

theorem eqD_refl {n : Nat} {d : D} (h : PL n d) (hn : n ≤ 64) : eqD d d = some true := by
  have hs := h.shaped hn
  have hr : PyData.eqv (toPy d) (toPy d) = true := SeqAt.eqv_refl _ h.lay.1
  cases d with
  | int i => simp
  | str x => simp
  | bl b => simp
  | non => simp only [eqD, hs, hr, and_self, if_true]
  | tup ds => simp only [eqD, hs, hr, and_self, if_true]
  | lst ds => simp only [eqD, hs, hr, and_self, if_true]
  | _ => cases n <;> exact h.elim
theorem PL.mono : ∀ {n m : Nat} {d : D}, n ≤ m → PL n d → PL m d
  | 0, _, _, _, h => h.elim
  | n + 1, 0, _, q, _ => absurd q (by omega)
  | n + 1, m + 1, .non, _, _ => trivial
  | n + 1, m + 1, .bl _, _, _ => trivial
  | n + 1, m + 1, .int _, _, _ => trivial
  | n + 1, m + 1, .str _, _, h => h
  | n + 1, m + 1, .tup ds, q, h => ⟨h.1, fun d hd => (h.2 d hd).mono (by omega)⟩
  | n + 1, m + 1, .lst ds, q, h => ⟨h.1, fun d hd => (h.2 d hd).mono (by omega)⟩
end DL
namespace LW
open PySem L2 DL
theorem appF_fz {F : Fn} {evs : List EV} {r : D} (h : F (evs.map EV.d) = .ok (.fz r)) (ha : allFzB evs = true) : appF F evs = .ok (.fz r) := by
  unfold appF
  rw [h]
  simp only [ha, if_true]
  rfl
theorem same_refl : ∀ (n : Nat) (d : D), PL n d → n ≤ 60 → F__law_same n [d, d] = .ok (.fz (.bl true))
  | 0, _, h, _ => h.elim
  | n + 1, d, h, hn => by
    have he := eqD_refl h (by omega)
    have seq : ∀ ds : List D, ds.length ≤ 100000 → (∀ e ∈ ds, PL n e) → ∀ x y : SL, (∀ i : Nat, i < ds.length → rdSlot x = .ok (.fz (.tup ds)) ∧ rdSlot y = .ok (.fz (.tup ds)) ∨ rdSlot x = .ok (.fz (.lst ds)) ∧ rdSlot y = .ok (.fz (.lst ds))) →
        ∀ z : SL, (mRng1 (mCons (mCall (mCons (mV 1) mNil) gLen) mNil)) [x, y, z] = .ok ((List.range ds.length).map fun (i : Nat) => .int i) → mLc (mRng1 (mCons (mCall (mCons (mV 1) mNil) gLen) mNil)) (pName 2) mYes (e1__law_same (F__law_same n)) [2] [x, y, z] = .ok (.ow true (.lst ((List.range ds.length).map fun _ => .bl true))) := fun ds hl hd x y hxy z hr => by
      refine mLc_all (i := 2) (e := e1__law_same (F__law_same n)) (env := [x, y, z]) (f := fun _ => .bl true) hr (fun i hi => by
        have hi := List.mem_range.mp hi
        refine ⟨.fz (.bl true), ?_, rfl⟩
        have ih := same_refl n ds[i] (hd _ (List.getElem_mem hi)) (by omega)
        have hx : atI ds (i : Int) = some ds[i] := atI_nat (List.getElem?_eq_getElem hi)
        unfold e1__law_same
        rcases hxy i hi with ⟨h1, h2⟩ | ⟨h1, h2⟩
        · simp [h1, h2, opIx, ixD, hx, appF_fz (F := F__law_same n) (evs := [.fz ds[i], .fz ds[i]]) ih rfl]
        · simp [h1, h2, opIx, ixD, hx, appF_fz (F := F__law_same n) (evs := [.fz ds[i], .fz ds[i]]) ih rfl]) (by rw [List.length_range]; exact size_big (by omega))
    show runB 3 (b__law_same (F__law_same n)) [d, d] = _
    unfold runB b__law_same
    cases d with
    | non => simp [opIs, DL.isNon]
    | bl b => simp [opIs, DL.isNon, isTy_bl, kitB_bb, opEq]
    | int i => simp [opIs, DL.isNon, isTy_int, kitB_ib, kitB_ii, opEq]
    | str x => simp [opIs, DL.isNon, isTy_str, kitB_sb, kitB_si, kitB_ss, opEq]
    | tup ds =>
      have hr : (mRng1 (mCons (mCall (mCons (mV 1) mNil) gLen) mNil)) [.val (.tup ds), .val (.tup ds), .no] = .ok ((List.range ds.length).map fun (i : Nat) => .int i) := rng1_ok rfl (by have := h.1; omega)
      have hc := seq ds h.1 h.2 (.val (.tup ds)) (.val (.tup ds)) (fun _ _ => .inl ⟨rfl, rfl⟩) .no hr
      simp [opIs, DL.isNon, isTy_tup, kitB_tb, kitB_ti, kitB_ts, kitB_tt, kitB_tl, opEq, he, hc]
    | lst ds =>
      have hr : (mRng1 (mCons (mCall (mCons (mV 1) mNil) gLen) mNil)) [.val (.lst ds), .val (.lst ds), .no] = .ok ((List.range ds.length).map fun (i : Nat) => .int i) := rng1_ok rfl (by have := h.1; omega)
      have hc := seq ds h.1 h.2 (.val (.lst ds)) (.val (.lst ds)) (fun _ _ => .inr ⟨rfl, rfl⟩) .no hr
      simp [opIs, DL.isNon, isTy_lst, kitB_lb, kitB_li, kitB_ls, kitB_lt, kitB_ll, opEq, he, hc]
    | _ => exact h.elim
end LW
namespace LW
open PySem L2 DL
section
variable {α : Type}
def insB (lt : α → α → Bool) (x : α) (l : List α) : List α := l.takeWhile (lt · x) ++ x :: l.dropWhile (lt · x)
def isort (lt : α → α → Bool) (l : List α) : List α := l.foldl (fun acc x => insB lt x acc) []
theorem tw_get (p : α → Bool) : ∀ (l : List α) (i : Nat), i < (l.takeWhile p).length → ∃ h : i < l.length, p l[i] = true
  | [], i, h => by simp at h
  | x :: l, i, h => by
    rw [List.takeWhile_cons] at h
    cases hp : p x with
    | false => rw [hp] at h; simp at h
    | true =>
      rw [hp] at h
      cases i with
      | zero => exact ⟨by simp, hp⟩
      | succ i =>
        obtain ⟨h1, h2⟩ := tw_get p l i (by simpa using h)
        exact ⟨by simpa using h1, by simpa using h2⟩
theorem tw_end (p : α → Bool) : ∀ (l : List α) (h : (l.takeWhile p).length < l.length), p l[(l.takeWhile p).length] = false
  | [], h => by simp at h
  | x :: l, h => by
    cases hp : p x with
    | false =>
      have e : (x :: l).takeWhile p = [] := by rw [List.takeWhile_cons, hp]; rfl
      simp only [e, List.length_nil, List.getElem_cons_zero, hp]
    | true =>
      have e : (x :: l).takeWhile p = x :: l.takeWhile p := by rw [List.takeWhile_cons, hp]; rfl
      rw [e] at h
      have ih := tw_end p l (by simpa using h)
      simp only [e, List.length_cons, List.getElem_cons_succ, ih]
theorem tw_len (p : α → Bool) (l : List α) : (l.takeWhile p).length ≤ l.length := (List.takeWhile_sublist p).length_le
theorem tw_take (p : α → Bool) : ∀ l : List α, l.take (l.takeWhile p).length = l.takeWhile p
  | [] => rfl
  | x :: l => by
    rw [List.takeWhile_cons]
    cases hp : p x with
    | false => rfl
    | true => simp only [if_true, List.length_cons, List.take_succ_cons, tw_take p l]
theorem dw_drop (p : α → Bool) : ∀ l : List α, l.drop (l.takeWhile p).length = l.dropWhile p
  | [] => rfl
  | x :: l => by
    rw [List.takeWhile_cons, List.dropWhile_cons]
    cases hp : p x with
    | false => rfl
    | true => simp only [if_true, List.length_cons, List.drop_succ_cons, dw_drop p l]
theorem insB_length (lt : α → α → Bool) (x : α) (l : List α) : (insB lt x l).length = l.length + 1 := by
  unfold insB
  have := congrArg List.length (List.takeWhile_append_dropWhile (p := (lt · x)) (l := l))
  rw [List.length_append] at this
  rw [List.length_append, List.length_cons]
  omega
theorem insB_perm (lt : α → α → Bool) (x : α) (l : List α) : (insB lt x l).Perm (x :: l) := by
  unfold insB
  refine List.perm_middle.trans (.cons x ?_)
  rw [List.takeWhile_append_dropWhile]
theorem isort_go (lt : α → α → Bool) : ∀ (l acc : List α), (l.foldl (fun acc x => insB lt x acc) acc).Perm (l ++ acc)
  | [], acc => .refl _
  | x :: l, acc => by
    show (l.foldl _ (insB lt x acc)).Perm _
    refine (isort_go lt l _).trans ?_
    refine ((insB_perm lt x acc).append_left l).trans ?_
    exact List.perm_middle
theorem isort_perm (lt : α → α → Bool) (l : List α) : (isort lt l).Perm l := (isort_go lt l []).trans (by simp)
theorem ev_sorted {en : α → D} {lt : α → α → Bool} (hlt : ∀ a b, opLt (.fz (en a)) (.fz (en b)) = .ok (.fz (.bl (lt a b)))) (xs : List α) (hl : xs.length ≤ 1000000) (d : D) (hd : items d = .ok (xs.map en)) (hf : frD (.fz d) = .ok d) :
    F__law_sorted [d] = .ok (.ow false (.lst ((isort lt xs).map en))) := by
  unfold F__law_sorted runB b__law_sorted
  have inner : ∀ (acc : List α) (x : α) (v0 v3 : SL), acc.length ≤ 1000000 → l2__law_sorted [v0, .own (.lst (acc.map en)), .val (en x), v3] = .nx [v0, .own (.lst ((insB lt x acc).map en)), .val (en x), .val (.int ((acc.takeWhile (lt · x)).length : Nat))] := fun acc x v0 v3 ha => by
    obtain ⟨a', h1, h2, h3⟩ := wh_inv (c := w1__law_sorted) (b := l1__law_sorted) (fun (k : Nat) => [v0, .own (.lst (acc.map en)), .val (en x), .val (.int k)]) (fun k => if h : k < acc.length then lt acc[k] x else false) (fun k => k + 1) (fun k => acc.length - k) (fun k => k ≤ (acc.takeWhile (lt · x)).length)
      (fun k hk => by
        unfold w1__law_sorted
        by_cases h : k < acc.length
        · have h' : (k : Int) < (acc.length : Int) := by omega
          have hg : ixD (.ow false (.lst (acc.map en))) (.fz (.int k)) = some (en acc[k]) := atI_nat (by rw [List.getElem?_map, List.getElem?_eq_getElem h]; rfl)
          simp [h, h', opIx, hg, hlt]
        · have h' : ¬ (k : Int) < (acc.length : Int) := by omega
          simp [h, h'])
      (fun k hk hc => by
        have h : k < acc.length := by
          by_cases h : k < acc.length
          · exact h
          · rw [dif_neg h] at hc; cases hc
        rw [dif_pos h] at hc
        refine ⟨.inl ?_, ?_, ?_⟩
        · unfold l1__law_sorted
          simp
        · show k + 1 ≤ _
          by_cases q : k < (acc.takeWhile (lt · x)).length
          · exact q
          · have e : k = (acc.takeWhile (lt · x)).length := by omega
            subst e
            have := tw_end (lt · x) acc h
            rw [this] at hc; cases hc
        · show acc.length - (k + 1) < acc.length - k
          omega) fuel 0 (Nat.zero_le _) (fuel_big (by omega))
    have ha' : a' = (acc.takeWhile (lt · x)).length := by
      by_cases q : a' < (acc.takeWhile (lt · x)).length
      · obtain ⟨h4, h5⟩ := tw_get (lt · x) acc a' q
        rw [dif_pos h4, h5] at h3
        cases h3
      · omega
    subst ha'
    unfold l2__law_sorted
    have hw : mWhile w1__law_sorted l1__law_sorted [v0, .own (.lst (acc.map en)), .val (en x), .val (.int 0)] = .nx [v0, .own (.lst (acc.map en)), .val (en x), .val (.int ((acc.takeWhile (lt · x)).length : Nat))] := h1
    have hlen := tw_len (lt · x) acc
    have hz : acc.length < sizeLine := Nat.lt_of_lt_of_le (by omega : acc.length < 16777216) (size_big (by decide))
    have hab : ((acc.takeWhile (lt · x)).length : Int).natAbs < 9223372036854775808 := by
      rw [Int.natAbs_natCast]; omega
    simp [hw, mIns, hz]
    rw [if_pos (by omega)]
    simp [insB, List.map_append, ← List.map_take, ← List.map_drop, tw_take, dw_drop]
  obtain ⟨e', h1, acc, v2, v3, rfl, h2, h3⟩ := for_inv (p := pName 2) (b := l2__law_sorted) en (fun i e => ∃ (acc : List α) (v2 v3 : SL), e = [.val d, .own (.lst (acc.map en)), v2, v3] ∧ acc.length = i ∧ acc = (xs.take i).foldl (fun acc x => insB lt x acc) []) xs 0
    [.val d, .own (.lst []), .no, .no] (by
      rintro i x e hx ⟨acc, v2, v3, rfl, h2, h3⟩
      have hi : i < xs.length := (List.getElem?_eq_some_iff.mp hx).1
      rw [Nat.zero_add] at h2 h3 ⊢
      refine ⟨_, _, rfl, .inl (inner acc x _ _ (by omega)), insB lt x acc, _, _, rfl, by rw [insB_length]; omega, ?_⟩
      rw [List.take_add_one, hx, List.foldl_append, ← h3]
      rfl) ⟨[], .no, .no, rfl, rfl, rfl⟩
  rw [Nat.zero_add, List.take_length] at h3
  have hfor : mFor (mItems (mV 0)) (pName 2) l2__law_sorted [.val d, .own (.lst []), .no, .no] = .nx [.val d, .own (.lst (acc.map en)), v2, v3] := by
    rw [for_ok (ds := xs.map en) (by simp [hf, hd])]
    exact h1
  have h4 : acc = isort lt xs := h3
  subst h4
  simp [hfor, allFz]
end

section
variable {α : Type} {lt : α → α → Bool}
def Up (lt : α → α → Bool) (l : List α) : Prop := l.Pairwise fun a b => lt b a = false
theorem up_insB (h1 : ∀ a b c, lt b a = false → lt c b = false → lt c a = false) (h2 : ∀ a b, lt a b = true → lt b a = false) (x : α) {l : List α} (h : Up lt l) : Up lt (insB lt x l) := by
  unfold insB Up
  have hl : Up lt (l.takeWhile (lt · x) ++ l.dropWhile (lt · x)) := by rw [List.takeWhile_append_dropWhile]; exact h
  obtain ⟨a1, a2, a3⟩ := List.pairwise_append.mp hl
  have hx : ∀ z ∈ l.dropWhile (lt · x), lt z x = false := by
    have e : ∀ y r, l.dropWhile (lt · x) = y :: r → lt y x = false := fun y r e => by
      have := List.head?_dropWhile_not (lt · x) l
      rw [e] at this
      simpa using this
    intro z hz
    cases hd : l.dropWhile (lt · x) with
    | nil => rw [hd] at hz; cases hz
    | cons y r =>
      have hy := e y r hd
      rw [hd] at hz a2
      rcases List.mem_cons.mp hz with rfl | hz
      · exact hy
      · exact h1 x y z hy ((List.pairwise_cons.mp a2).1 z hz)
  refine List.pairwise_append.mpr ⟨a1, List.pairwise_cons.mpr ⟨hx, a2⟩, fun a ha b hb => ?_⟩
  rcases List.mem_cons.mp hb with rfl | hb
  · obtain ⟨i, hi, rfl⟩ := List.mem_iff_getElem.mp ha
    obtain ⟨q1, q2⟩ := tw_get (lt · b) l i hi
    have e : (l.takeWhile (lt · b))[i] = l[i] := (List.takeWhile_prefix _).getElem hi
    rw [e]
    exact h2 _ _ q2
  · exact a3 a ha b hb
theorem up_isort (h1 : ∀ a b c, lt b a = false → lt c b = false → lt c a = false) (h2 : ∀ a b, lt a b = true → lt b a = false) : ∀ (l acc : List α), Up lt acc → Up lt (l.foldl (fun acc x => insB lt x acc) acc)
  | [], _, h => h
  | x :: l, acc, h => up_isort h1 h2 l _ (up_insB h1 h2 x h)
end
theorem strLt_le {a b c : Str} (h1 : strLt b a = false) (h2 : strLt c b = false) : strLt c a = false := by
  have e : ∀ {x y : Str}, strLt x y = false ↔ ¬ x.cps.toList < y.cps.toList := fun {x y} => by
    rw [← Bool.not_eq_true, DS.strLt_iff]
  rw [e] at h1 h2 ⊢
  rw [List.not_lt] at h1 h2 ⊢
  exact List.le_trans h1 h2
theorem strLt_asym {a b : Str} (h : strLt a b = true) : strLt b a = false := by
  rw [← Bool.not_eq_true, DS.strLt_iff]
  exact List.lt_asymm (DS.strLt_iff.mp h)
def ddup (l : List Str) : List Str := l.foldl (fun acc x => if x ∈ acc then acc else acc ++ [x]) []
theorem ddup_go : ∀ (l acc : List Str), DS.Asc acc → Up strLt (acc ++ l) → DS.Asc (l.foldl (fun acc x => if x ∈ acc then acc else acc ++ [x]) acc) ∧ ∀ z, z ∈ l.foldl (fun acc x => if x ∈ acc then acc else acc ++ [x]) acc ↔ z ∈ acc ++ l
  | [], acc, h, _ => ⟨h, fun z => by simp⟩
  | x :: l, acc, h, hu => by
    obtain ⟨u1, u2, u3⟩ := List.pairwise_append.mp hu
    rw [List.foldl_cons]
    by_cases hx : x ∈ acc
    · rw [if_pos hx]
      obtain ⟨i1, i2⟩ := ddup_go l acc h (List.pairwise_append.mpr ⟨u1, (List.pairwise_cons.mp u2).2, fun a ha b hb => u3 a ha b (.tail _ hb)⟩)
      refine ⟨i1, fun z => (i2 z).trans ?_⟩
      rw [List.mem_append, List.mem_append, List.mem_cons]
      exact ⟨fun q => q.elim .inl fun q => .inr (.inr q), fun q => q.elim .inl fun q => q.elim (fun e => .inl (e ▸ hx)) .inr⟩
    · rw [if_neg hx]
      have ha : DS.Asc (acc ++ [x]) := List.pairwise_append.mpr ⟨h, List.pairwise_singleton _ _, fun a ha b hb => by
        obtain rfl := List.mem_singleton.mp hb
        have q := u3 a ha b List.mem_cons_self
        by_cases e : a.cps.toList < b.cps.toList
        · exact e
        · have q2 : ¬ b.cps.toList < a.cps.toList := by rw [← DS.strLt_iff, q]; decide
          exact absurd (DS.str_eq (DS.nlt_total e q2)) fun e => hx (e ▸ ha)⟩
      obtain ⟨i1, i2⟩ := ddup_go l (acc ++ [x]) ha (by rw [List.append_assoc]; exact hu)
      exact ⟨i1, fun z => (i2 z).trans (by simp)⟩
theorem ddup_isort (l : List Str) : ddup (isort strLt l) = DS.sortU l := by
  have hu : Up strLt (isort strLt l) := up_isort (lt := strLt) (fun _ _ _ h1 h2 => strLt_le h1 h2) (fun _ _ h => strLt_asym h) l [] List.Pairwise.nil
  obtain ⟨i1, i2⟩ := ddup_go (isort strLt l) [] List.Pairwise.nil (by simpa using hu)
  exact DS.sortU_of i1 fun x => (i2 x).trans (by simp [(isort_perm strLt l).mem_iff])
def goodS (w : Str) : Bool := decide (w = "$") || isSg w.cps.toList
theorem ev_is_sign' (w : Str) (h : w.cps.toList.length ≤ 16777216) : F_is_sign [.str w] = .ok (.fz (.bl (isSg w.cps.toList))) := by
  have := ev_is_sign w.cps.toList h
  rwa [DL.mk_of] at this
abbrev symE (w : Str) : Exn := ⟨"SymbolError", [("symbol", .str w)]⟩
theorem init_loop (v0 v1 : SL) : ∀ (ws : List Str) (v2 : SL), (∀ w ∈ ws, w.cps.toList.length ≤ 16777216) → ∃ v2', forF (pName 2) l1_Signs_init (ws.map .str) [v0, v1, v2] = match ws.find? (fun w => !goodS w) with
    | some w => .exc (symE w) [v0, v1, v2']
    | none => .nx [v0, v1, v2']
  | [], v2, _ => ⟨v2, rfl⟩
  | w :: ws, v2, h => by
    have hs := appF_fz (evs := [.fz (.str w)]) (ev_is_sign' w (h w List.mem_cons_self)) rfl
    have e : l1_Signs_init [v0, v1, .val (.str w)] = if goodS w = true then .nx [v0, v1, .val (.str w)] else .exc (symE w) [v0, v1, .val (.str w)] := by
      unfold l1_Signs_init
      by_cases hd : w = "$"
      · subst hd
        simp [opNe, goodS]
      · cases hg : isSg w.cps.toList with
        | true =>
          simp [opNe, hd, goodS, hs, hg]
        | false =>
          simp [opNe, hd, goodS, hs, hg, mRaise, allFz]
    rw [List.map_cons, forF, List.find?_cons]
    simp only [pName_e, List.set_cons_zero, List.set_cons_succ, e]
    cases hg : goodS w with
    | true =>
      obtain ⟨v2', i⟩ := init_loop v0 v1 ws (.val (.str w)) fun x hx => h x (.tail _ hx)
      exact ⟨v2', by simpa using i⟩
    | false => exact ⟨.val (.str w), by simp⟩
theorem ev_init {d : D} {ws : List Str} (hd : d = .lst (ws.map .str) ∨ d = .tup (ws.map .str)) (hl : ws.length < 4000) (hw : ∀ w ∈ ws, w.cps.toList.length ≤ 16777216) : I_Signs_init [d] = match ws.find? (fun w => !goodS w) with
    | some w => .exc (symE w)
    | none => .ok [("words", .tup ((DS.sortU ws).map .str))] := by
  unfold I_Signs_init DL.runI b_Signs_init
  have hi : mItems (mV 1) [.own (.self "Signs" []), .val d, .no] = .ok (ws.map .str) := by
    rcases hd with rfl | rfl <;> simp
  obtain ⟨v2', h⟩ := init_loop (.own (.self "Signs" [])) (.val d) ws .no hw
  have hfor : mFor (mItems (mV 1)) (pName 2) l1_Signs_init [.own (.self "Signs" []), .val d, .no] = _ := (for_ok hi).trans h
  have hs : sortSetD (.fz d) = .ok (.ow true (.lst ((DS.sortU ws).map .str))) := by
    rcases hd with rfl | rfl <;> simp [sortSetD, hl]
  cases hf : ws.find? (fun w => !goodS w) with
  | some w =>
    rw [hf] at hfor
    simp [hfor]
  | none =>
    rw [hf] at hfor
    simp [hfor, mSetFld, hs, seqD, putD]
end LW
namespace LW
open PySem L2 DL
abbrev stD (l : List Str) : List D := l.map .str
theorem any_str (w : Str) : ∀ bs : List Str, ((stD bs).any fun e => eqF e (.str w)) = decide (w ∈ bs)
  | [] => rfl
  | b :: bs => by
    show (eqF (.str b) (.str w) || _) = _
    rw [any_str w bs]
    by_cases h : b = w
    · subst h; simp [eqF]
    · have h2 : ¬ w = b := fun e => h e.symm
      simp [eqF, h, h2]
theorem inD_strs {a b : EV} {w : Str} {bs : List Str} (ha : a.d = .str w) (hb : b.d = .lst (stD bs) ∨ b.d = .tup (stD bs)) : inD a b = some (decide (w ∈ bs)) := by
  have hf : (stD bs).all flatD = true := by rw [List.all_map]; exact List.all_eq_true.mpr fun _ _ => rfl
  have hw : flatD (.str w) = true := rfl
  unfold inD
  rcases hb with hb | hb <;> (rw [hb]; dsimp only; rw [ha]; unfold inDs; rw [if_pos ⟨hw, hf⟩, any_str])
theorem in_strs {a b : EV} {w : Str} {bs : List Str} (ha : a.d = .str w) (hb : b.d = .lst (stD bs) ∨ b.d = .tup (stD bs)) : opIn a b = .ok (.fz (.bl (decide (w ∈ bs)))) := by
  unfold opIn; rw [inD_strs ha hb]; rfl
theorem ni_strs {a b : EV} {w : Str} {bs : List Str} (ha : a.d = .str w) (hb : b.d = .lst (stD bs) ∨ b.d = .tup (stD bs)) : opNi a b = .ok (.fz (.bl (!decide (w ∈ bs)))) := by
  unfold opNi; rw [inD_strs ha hb]; rfl
theorem in_strsL (w : Str) (bs : List Str) : opIn (.fz (.str w)) (.fz (.lst (stD bs))) = .ok (.fz (.bl (decide (w ∈ bs)))) := in_strs rfl (.inl rfl)
theorem ni_strsL (w : Str) (bs : List Str) : opNi (.fz (.str w)) (.fz (.lst (stD bs))) = .ok (.fz (.bl (!decide (w ∈ bs)))) := ni_strs rfl (.inl rfl)
theorem ni_strsO (w : Str) (bs : List Str) (n : Bool) : opNi (.fz (.str w)) (.ow n (.lst (stD bs))) = .ok (.fz (.bl (!decide (w ∈ bs)))) := ni_strs rfl (.inl rfl)
theorem in_strsT (w : Str) (bs : List Str) : opIn (.fz (.str w)) (.fz (.tup (stD bs))) = .ok (.fz (.bl (decide (w ∈ bs)))) := in_strs rfl (.inr rfl)
theorem ni_strsT (w : Str) (bs : List Str) : opNi (.fz (.str w)) (.fz (.tup (stD bs))) = .ok (.fz (.bl (!decide (w ∈ bs)))) := ni_strs rfl (.inr rfl)
theorem cut_take (ds : List D) (n : Nat) : cutD ds none (some (n : Int)) = ds.take n := by
  have h0 : ¬ ((n : Int) < 0) := by omega
  unfold cutD HT.sIx
  simp [h0]
theorem cut_last (ds : List D) (d : D) : cutD (ds ++ [d]) none (some (-1)) = ds := by
  unfold cutD HT.sIx
  simp
  rw [show (-1 + ((ds.length : Int) + 1)).toNat = ds.length by omega]
  simp
theorem PL_str {n : Nat} {w : Str} (h : PyData.strOk w = true) : PL (n + 1) (.str w) := h
theorem PL_strs {n : Nat} {ws : List Str} (hl : ws.length ≤ 100000) (h : ∀ w ∈ ws, PyData.strOk w = true) : PL (n + 2) (.tup (stD ws)) := ⟨by rw [List.length_map]; exact hl, fun d hd => by
  obtain ⟨w, hw, rfl⟩ := List.mem_map.mp hd
  exact h w hw⟩
theorem PL_lstrs {n : Nat} {ws : List Str} (hl : ws.length ≤ 100000) (h : ∀ w ∈ ws, PyData.strOk w = true) : PL (n + 2) (.lst (stD ws)) := ⟨by rw [List.length_map]; exact hl, fun d hd => by
  obtain ⟨w, hw, rfl⟩ := List.mem_map.mp hd
  exact h w hw⟩
theorem pure_strs (ws : List Str) : pureDs (stD ws) = true := by
  induction ws with
  | nil => rfl
  | cons w ws ih => show (pureD (.str w) && pureDs (stD ws)) = true; rw [ih]; rfl
def signsR (ws : List Str) : Rz EV := match ws.find? (fun w => !goodS w) with
  | some w => .exc (symE w)
  | none => .ok (.ow true (.ins "Signs" [("words", .tup (stD (DS.sortU ws)))]))
theorem app_signs {a : EV} {ws : List Str} (hd : a.d = .lst (stD ws) ∨ a.d = .tup (stD ws)) (hl : ws.length < 4000) (hw : ∀ w ∈ ws, w.cps.toList.length ≤ 16777216) : appI "Signs" I_Signs_init [a] = signsR ws := by
  unfold appI signsR
  rw [show [a].map EV.d = [a.d] from rfl, ev_init hd hl hw]
  cases ws.find? (fun w => !goodS w) with
  | some w => simp [pureFs, pureD]
  | none => simp [pureFs, pureD, pure_strs]
theorem ev_of {ws : List Str} (hl : ws.length < 4000) (hw : ∀ w ∈ ws, w.cps.toList.length ≤ 16777216) : F_Signs_of [.cls "Signs", .tup (stD ws)] = signsR ws := by
  unfold F_Signs_of runB b_Signs_of
  have h := app_signs (a := .fz (.tup (stD ws))) (.inr rfl) hl hw
  simp [mMakeL, h]
  cases signsR ws <;> rfl
theorem app_of {ws : List Str} (hl : ws.length < 4000) (hw : ∀ w ∈ ws, w.cps.toList.length ≤ 16777216) : appF (cmD "Signs" true F_Signs_of) ((stD ws).map .fz) = signsR ws := by
  have e : ((stD ws).map EV.fz).map EV.d = stD ws := by rw [List.map_map]; exact List.map_id _
  have ha : allFzB ((stD ws).map EV.fz) = true := by
    generalize stD ws = l
    induction l with
    | nil => rfl
    | cons a l ih => exact ih
  unfold appF
  rw [e]
  show (match (cmD "Signs" true F_Signs_of) (stD ws) with
    | .ok r => _
    | .exc e => _
    | .stuck => _) = _
  rw [show cmD "Signs" true F_Signs_of (stD ws) = F_Signs_of [.cls "Signs", .tup (stD ws)] from rfl, ev_of hl hw, ha]
  unfold signsR
  cases ws.find? (fun w => !goodS w) <;> rfl

abbrev natD (ds : List Nat) : List D := ds.map fun (k : Nat) => .int k
theorem at_nat (ds : List Nat) (i : Int) (k : Nat) (hi : i = k) (h : k < ds.length) : atI (natD ds) i = some (.int (ds[k] : Nat)) := by
  subst hi
  rw [atI_nat]
  rw [List.getElem?_map, List.getElem?_eq_getElem h]; rfl
theorem ap_cell (ns : List Int) (x : Int) (k : Nat) (hx : x = k) : appF F__law_cell [.fz (.scr ns), .fz (.int x)] = .ok (.fz (.int (cellOf ns k))) := by
  subst hx
  exact appF_fz (evs := [.fz (.scr ns), .fz (.int k)]) (ev_cell ns k) rfl
theorem ap_dr (cell : Int) (j : Int) (n : Nat) (hj : j = n) (hn : n ≤ 1000) : ∃ ds : List Nat, appF F__law_draws [.fz (.int cell), .fz (.int j)] = .ok (.ow true (.lst (natD ds))) ∧ ds.length = n ∧ ∀ x ∈ ds, x < 1000 := by
  subst hj
  exact ap_draws cell n hn
theorem atI_stD (ws : List Str) (i : Int) (k : Nat) (hi : i = k) (h : k < ws.length) : atI (stD ws) i = some (.str ws[k]) := by
  subst hi
  rw [atI_nat]
  rw [List.getElem?_map, List.getElem?_eq_getElem h]; rfl
end LW
namespace LW.K02
open PySem PySem.Spec PyProof.Rows L2 DL
def top (i : Nat) : Stmt := PySem.Challenge.pw_awaitbook_k02_sets_of_signs_made_or_refu.main.body.getD i (.Pass ⟨0, 0, 0, 0⟩)
abbrev clsL : List Str := ["Signs", "AwaitError", "LineError", "NameFault", "SymbolError", "StateError", "PairError"]
structure Tx (P : Program) (K : PySem.W.Frag) (mg : Str → Option Value) : Prop where
  gk_SymbolError : mg "SymbolError" = some (.ref (He.ga K "SymbolError"))
  g_is_word : mg "is_word" = some (.ref (He.ga K "is_word"))
  g_is_sign : mg "is_sign" = some (.ref (He.ga K "is_sign"))
  gk_Signs : mg "Signs" = some (.ref (He.ga K "Signs"))
  k_Signs : Cls K (He.ga K "Signs")
  mk_Signs : Mk K (He.ga K "Signs") (He.ma K (He.ga K "Signs") "__init__")
  g__law_draws : mg "_law_draws" = some (.ref (He.ga K "_law_draws"))
  g__law_same : mg "_law_same" = some (.ref (He.ga K "_law_same"))
  g__law_cell : mg "_law_cell" = some (.ref (He.ga K "_law_cell"))
  g__law_of : mg "_law_of" = some (.ref (He.ga K "_law_of"))
  gk_LineError : mg "LineError" = some (.ref (He.ga K "LineError"))
  gk_NameFault : mg "NameFault" = some (.ref (He.ga K "NameFault"))
  gk_PairError : mg "PairError" = some (.ref (He.ga K "PairError"))
  gk_StateError : mg "StateError" = some (.ref (He.ga K "StateError"))
  gk_AwaitError : mg "AwaitError" = some (.ref (He.ga K "AwaitError"))
  g__law_made : mg "_law_made" = some (.ref (He.ga K "_law_made"))
  g__law_sorted : mg "_law_sorted" = some (.ref (He.ga K "_law_sorted"))
  g__law_due : mg "_law_due" = some (.ref (He.ga K "_law_due"))
  n_ValueError : mg "ValueError" = none
  n_abs : mg "abs" = none
  n_all : mg "all" = none
  n_bool : mg "bool" = none
  n_int : mg "int" = none
  n_isinstance : mg "isinstance" = none
  n_len : mg "len" = none
  n_list : mg "list" = none
  n_max : mg "max" = none
  n_min : mg "min" = none
  n_range : mg "range" = none
  n_set : mg "set" = none
  n_sorted : mg "sorted" = none
  n_str : mg "str" = none
  n_super : mg "super" = none
  n_tuple : mg "tuple" = none
  c_LOWER : ∃ t, mg "LOWER" = some (.str "abcdefghijklmnopqrstuvwxyz" t)
  c_UPPER : ∃ t, mg "UPPER" = some (.str "ABCDEFGHIJKLMNOPQRSTUVWXYZ" t)
  c_DIGITS : ∃ t, mg "DIGITS" = some (.str "0123456789" t)
  us_SymbolError : ∃ fd, DX.FunS P K "SymbolError.__init__" (defArgs (inClass (top 4) 0)) (defBody (inClass (top 4) 0)) (defScope (inClass (top 4) 0)) (He.ga K "SymbolError") (He.ma K (He.ga K "SymbolError") "__init__") fd
  tp : (P.main.scope.names.lookup ("super" : Str)).isSome = false
  sup_SymbolError : supB K (He.ga K "SymbolError") (He.ga K "SymbolError") = true
  ini_SymbolError : initB K (He.ga K "SymbolError") (He.ga K "SymbolError") = true
  u_is_word : ∃ fd, FunD K "is_word" "is_word" (defArgs (top 11)) (defBody (top 11)) (defScope (top 11)) [] [] (He.ga K "is_word") fd
  u_is_sign : ∃ fd, FunD K "is_sign" "is_sign" (defArgs (top 12)) (defBody (top 12)) (defScope (top 12)) [] [] (He.ga K "is_sign") fd
  cv_Signs_END : CCon K mg "Signs" "END" (.str "$")
  u_Signs_init : ∃ fd, FunD K "__init__" "Signs.__init__" (defArgs (inClass (top 13) 1)) (defBody (inClass (top 13) 1)) (defScope (inClass (top 13) 1)) [] [] (He.ma K (He.ga K "Signs") "__init__") fd
  cr_Signs : crB K (He.ga K "Signs") = true
  cm_Signs_of : cmB K (He.ga K "Signs") "of" = true
  u_Signs_of : ∃ fd, FunD K "of" "Signs.of" (defArgs (inClass (top 13) 2)) (defBody (inClass (top 13) 2)) (defScope (inClass (top 13) 2)) [] [] (cmA K (He.ga K "Signs") "of") fd
  u__law_draws : ∃ fd, FunD K "_law_draws" "_law_draws" (defArgs (top 16)) (defBody (top 16)) (defScope (top 16)) [] [] (He.ga K "_law_draws") fd
  u__law_same : ∃ fd, FunD K "_law_same" "_law_same" (defArgs (top 17)) (defBody (top 17)) (defScope (top 17)) [] [] (He.ga K "_law_same") fd
  u__law_cell : ∃ fd, FunD K "_law_cell" "_law_cell" (defArgs (top 15)) (defBody (top 15)) (defScope (top 15)) [] [] (He.ga K "_law_cell") fd
  u__law_of : ∃ fd, FunD K "_law_of" "_law_of" (defArgs (top 19)) (defBody (top 19)) (defScope (top 19)) [] [] (He.ga K "_law_of") fd
  exm_SymbolError : exmTab K (.ref (He.ga K "SymbolError")) [("AwaitError", false), ("LineError", false), ("NameFault", false), ("SymbolError", true), ("StateError", false), ("PairError", false)] = true
  exc : excTab K ["AwaitError", "LineError", "NameFault", "SymbolError", "StateError", "PairError"] = true
  kit_LineError : kitTab K (.ref (He.ga K "LineError")) [("AwaitError", false), ("LineError", true), ("NameFault", false), ("SymbolError", false), ("StateError", false), ("PairError", false)] = true
  kit_NameFault : kitTab K (.ref (He.ga K "NameFault")) [("AwaitError", false), ("LineError", false), ("NameFault", true), ("SymbolError", false), ("StateError", false), ("PairError", false)] = true
  kit_PairError : kitTab K (.ref (He.ga K "PairError")) [("AwaitError", false), ("LineError", false), ("NameFault", false), ("SymbolError", false), ("StateError", false), ("PairError", true)] = true
  kit_StateError : kitTab K (.ref (He.ga K "StateError")) [("AwaitError", false), ("LineError", false), ("NameFault", false), ("SymbolError", false), ("StateError", true), ("PairError", false)] = true
  kit_AwaitError : kitTab K (.ref (He.ga K "AwaitError")) [("AwaitError", true), ("LineError", true), ("NameFault", true), ("SymbolError", true), ("StateError", true), ("PairError", true)] = true
  kit_ValueError : kitTab K (.type "ValueError") [("AwaitError", true), ("LineError", true), ("NameFault", true), ("SymbolError", true), ("StateError", true), ("PairError", true)] = true
  u__law_made : ∃ fd, FunD K "_law_made" "_law_made" (defArgs (top 20)) (defBody (top 20)) (defScope (top 20)) [] [] (He.ga K "_law_made") fd
  u__law_sorted : ∃ fd, FunD K "_law_sorted" "_law_sorted" (defArgs (top 18)) (defBody (top 18)) (defScope (top 18)) [] [] (He.ga K "_law_sorted") fd
  u__law_due : ∃ fd, FunD K "_law_due" "_law_due" (defArgs (top 21)) (defBody (top 21)) (defScope (top 21)) [] [] (He.ga K "_law_due") fd
  na : noatTab K [("SymbolError", "symbol"), ("Signs", "words")] = true
section
variable {P : Program} {w : World} {K : PySem.W.Frag} {mg : Str → Option Value} {base : Heap}
theorem fo_words (T : Tx P K mg) {C : CT} (h : C.cls = clsOf clsL K) : FldOk K C ["Signs"] "words" := fldOk_of h fun c hc => ⟨by
  simp only [List.mem_cons, List.not_mem_nil, or_false] at hc
  rcases hc with rfl
  exact T.k_Signs, noatTab_ok T.na (by revert c; decide)⟩
theorem exi_SymbolError (T : Tx P K mg) : ∃ fd, FnOk P w K mg base (L2.CX P w) 1 (He.ma K (He.ga K "SymbolError") "__init__") fd ["self", "symbol"] (spS K (He.ga K "SymbolError") ["symbol"]) ∧ Binds K fd ["self", "symbol"] [] := by
  obtain ⟨fd, U⟩ := T.us_SymbolError
  refine ⟨fd, ?_, FunS.bindsN U fun _ _ _ _ _ _ _ us hl => match us, hl with | [_, _], _ => rfl⟩
  exact (DX.fn_super (ps := ["self", "symbol"]) (k := 0) U ⟨rfl, rfl, rfl, by decide +kernel, by decide +kernel, by decide +kernel, by decide +kernel⟩ rfl rfl rfl rfl T.n_super T.tp (fun _ _ _ _ _ _ _ => pe_str) (fun _ _ _ _ _ _ _ => (pss_one (ps_ost (pv 0) (pv 1)))) (fun _ _ _ => ⟨rfl, rfl, rfl, rfl⟩)).imp fun vs H Q E z => spT_one vs H Q E z
theorem ok_exc_SymbolError (T : Tx P K mg) : ExG P w ⟨K, CC clsL K⟩ mg base 1 "SymbolError" ["symbol"] := by
  obtain ⟨fd, FO, hb⟩ := exi_SymbolError (P := P) (w := w) (base := base) T
  obtain ⟨h1, h2⟩ := He.ba T.ini_SymbolError
  exact exG_of T.gk_SymbolError (show clsOf clsL K "SymbolError" = some (He.ga K "SymbolError") from clsOf_in (by decide)) (supB_ok T.sup_SymbolError) (He.eqO_ok h1) (of_decide_eq_true h2) (noatL T.na (by decide)) FO hb
abbrev s_is_word : Stmt := top 11
abbrev N_is_word : List Str := ["word", "char"]
theorem sc_is_word : FnScope N_is_word ["word"] (defScope s_is_word) := ⟨rfl, rfl, rfl, by decide +kernel, rfl, by decide +kernel, by decide +kernel⟩
theorem ok_is_word (T : Tx P K mg) : FnG P w ⟨K, CC clsL K⟩ mg base 1 "is_word" ["word"] F_is_word := by
  refine fn_global (N := N_is_word) (b := b_is_word) T.u_is_word T.g_is_word sc_is_word (by decide) (fun _ _ _ _ _ _ us hl => match us, hl with | [_], _ => rfl) (fun cdv A outer s H E hr hp tk => ?_)
  have nd := sc_is_word.nd
  have hu4 := hr.units
  have hu5 := room5 hr
  exact (dss_one (ds_ret (de_and (de_chain od_le ne_opO od_le ne_opO de_int (de_callB cd_len ne_g1 T.n_len (by decide +kernel) (da_cons (de_var 0) da_nil)) de_int (fun _ _ _ _ _ h1 h2 h3 h4 h5 => pe_chain h1 h2 h3 h4 h5)) (de_one (de_callB (cd_all rfl) ne_g1 T.n_all (by decide +kernel) (da_cons (de_lc nd (di_seq (de_var 0)) (blkOk_by (own := [("char", 1)]) (N := N_is_word) (sc := defScope s_is_word) (by decide +kernel)) rfl (by decide) (fun _ _ _ _ _ => (dg_name nd (i := 1))) (fun _ _ _ _ _ => dts_nil) (fun _ _ _ _ _ => (de_cmp (od_in hu5) ne_in (de_var 1) (de_op od_add ne_add (de_op od_add ne_add (de_gS T.c_LOWER) (de_gS T.c_UPPER)) (de_gS T.c_DIGITS))))) da_nil))))))
abbrev s_is_sign : Stmt := top 12
abbrev N_is_sign : List Str := ["word"]
theorem sc_is_sign : FnScope N_is_sign ["word"] (defScope s_is_sign) := ⟨rfl, rfl, rfl, by decide +kernel, rfl, by decide +kernel, by decide +kernel⟩
theorem ok_is_sign (T : Tx P K mg) (O_is_word : FnG P w ⟨K, CC clsL K⟩ mg base 1 "is_word" ["word"] F_is_word) : FnG P w ⟨K, CC clsL K⟩ mg base 2 "is_sign" ["word"] F_is_sign := by
  refine fn_global (N := N_is_sign) (b := b_is_sign) T.u_is_sign T.g_is_sign sc_is_sign (by decide) (fun _ _ _ _ _ _ us hl => match us, hl with | [_], _ => rfl) (fun cdv A outer s H E hr hp tk => ?_)
  have nd := sc_is_sign.nd
  have hu4 := hr.units
  have hu5 := room5 hr
  exact (dss_one (ds_ret (de_and (de_call O_is_word (hr.mono (by omega)) tk (da_cons (de_var 0) da_nil)) (de_one (de_cmp (od_in hu5) ne_in (de_ix (de_var 0) de_int) (de_gS T.c_LOWER))))))
abbrev s_Signs_init : Stmt := inClass (top 13) 1
abbrev N_Signs_init : List Str := ["self", "words", "word"]
theorem sc_Signs_init : FnScope N_Signs_init ["self", "words"] (defScope s_Signs_init) := ⟨rfl, rfl, rfl, by decide +kernel, rfl, by decide +kernel, by decide +kernel⟩
theorem ok_Signs_init (T : Tx P K mg) (O_is_sign : FnG P w ⟨K, CC clsL K⟩ mg base 2 "is_sign" ["word"] F_is_sign) (O_exc_SymbolError : ExG P w ⟨K, CC clsL K⟩ mg base 1 "SymbolError" ["symbol"]) : InG P w ⟨K, CC clsL K⟩ mg base 3 "Signs" 1 I_Signs_init := by
  obtain ⟨fd, U⟩ := T.u_Signs_init
  refine ⟨He.ga K "Signs", _, fd, ["self", "words"], T.gk_Signs, (show clsOf clsL K "Signs" = some (He.ga K "Signs") from clsOf_in (by decide)), T.mk_Signs, ?_, FunD.bindsN (ps := ["self", "words"]) U (fun _ _ _ _ _ _ us hl => match us, hl with | [_, _], _ => rfl)⟩
  refine fn_init (C := CC clsL K) (N := N_Signs_init) (b := b_Signs_init) U sc_Signs_init rfl (fun a cdv A outer s H E hr hp tk => ?_)
  have nd := sc_Signs_init.nd
  have hu4 := hr.units
  have hu5 := room5 hr
  exact (dss_cons (ds_for hp (di_seq (de_var 1)) (dg_name nd (i := 2))
      (dss_one (ds_if (DW.dt (dw_and (dt_cmp (od_ne hu4) ne_ne (de_var 2) (de_cval T.cv_Signs_END)) (dw_and1 (dt_not (dt_val (de_call (O_is_sign.cx (C := CC clsL K) rfl rfl) (hr.mono (by omega)) tk (da_cons (de_var 2) da_nil)))))))
        (dss_one (ds_raise (O_exc_SymbolError.cx (C := CC clsL K) rfl) (hr.mono (by omega)) tk (da_cons (de_var 2) da_nil)))
        dss_nil)))
    (dss_one (ds_setFld 0 (fo_words T rfl) (de_callTy cd_tuple ne_gTuple T.n_tuple (by decide +kernel) (da_cons (de_sortSet (de_var 1) rfl T.n_sorted T.n_set) da_nil)))))
abbrev s_Signs_of : Stmt := inClass (top 13) 2
abbrev N_Signs_of : List Str := ["cls", "words"]
theorem sc_Signs_of : FnScope N_Signs_of ["cls", "words"] (defScope s_Signs_of) := ⟨rfl, rfl, rfl, by decide +kernel, rfl, by decide +kernel, by decide +kernel⟩
theorem ok_Signs_of (T : Tx P K mg) (O_Signs_init : InG P w ⟨K, CC clsL K⟩ mg base 3 "Signs" 1 I_Signs_init) : CmG P w ⟨K, CC clsL K⟩ mg base 5 "Signs" "of" 0 true F_Signs_of := by
  obtain ⟨fd, U⟩ := T.u_Signs_of
  refine ⟨He.ga K "Signs", T.gk_Signs, (show clsOf clsL K "Signs" = some (He.ga K "Signs") from clsOf_in (by decide)), T.cr_Signs, T.cm_Signs_of, ?_⟩
  refine fn_starD (K := ⟨K, CC clsL K⟩) (N := N_Signs_of) (ps := ["cls"]) (pv := "words") (b := b_Signs_of) U sc_Signs_of (by decide) (fun kV doc pm cdv ct an => StX.bind_star1 (B := fun us => bindArgs (PySem.W.fnOf "of" "Signs.of" (defArgs (inClass (top 13) 2)) (defBody (inClass (top 13) 2)) (defScope (inClass (top 13) 2)) .none kV doc pm an cdv ct) ⟨us, []⟩) (fun _ => rfl) (fun _ r rs => rfl)) (fun cdv A outer s H E hr hp tk => ?_)
  have nd := sc_Signs_of.nd
  have hu4 := hr.units
  have hu5 := room5 hr
  exact (dss_one (ds_ret (de_makeL 0 O_Signs_init (hr.mono (by omega)) tk (da_cons (de_var 1) da_nil))))
abbrev s__law_draws : Stmt := top 16
abbrev N__law_draws : List Str := ["_law_cell_here", "_law_count", "_law_row", "_law_left", "_law_k", "_law_low"]
theorem sc__law_draws : FnScope N__law_draws ["_law_cell_here", "_law_count"] (defScope s__law_draws) := ⟨rfl, rfl, rfl, by decide +kernel, rfl, by decide +kernel, by decide +kernel⟩
theorem ok__law_draws (T : Tx P K mg) : FnG P w ⟨K, CC clsL K⟩ mg base 1 "_law_draws" ["_law_cell_here", "_law_count"] F__law_draws := by
  refine fn_global (N := N__law_draws) (b := b__law_draws) T.u__law_draws T.g__law_draws sc__law_draws (by decide) (fun _ _ _ _ _ _ us hl => match us, hl with | [_, _], _ => rfl) (fun cdv A outer s H E hr hp tk => ?_)
  have nd := sc__law_draws.nd
  have hu4 := hr.units
  have hu5 := room5 hr
  exact (dss_cons (ds_setO (i := 2) (de_lst da_nil) nd)
    (dss_cons (ds_setF (i := 3) (de_var 0) nd)
    (dss_cons (ds_for hp (di_range1 T.n_range (da_cons (de_var 1) da_nil)) (dg_name nd (i := 4))
      (dss_one (ds_if (DW.dt (dw_and (dt_cmp od_ge ne_opO (de_var 0) (de_op od_pow ne_opI de_int de_int)) (dw_and1 (dt_cmp od_gt ne_opO (de_var 3) de_int))))
        (dss_cons (ds_app 2 (de_op od_mod ne_opI (de_callTy cd_int ne_g1 T.n_int (by decide +kernel) (da_cons (de_var 3) da_nil)) de_int))
        (dss_one (ds_setF (i := 3) (de_op od_div ne_opI (de_var 3) de_int) nd)))
        (dss_cons (ds_setF (i := 5) (de_op od_mod ne_opI (de_callTy cd_int ne_g1 T.n_int (by decide +kernel) (da_cons (de_op od_mul ne_opI (de_op od_mul ne_opI (de_op od_add ne_add (de_var 0) de_int) (de_op od_add ne_add (de_var 4) de_int)) de_int) da_nil)) de_int) nd)
        (dss_one (ds_app 2 (de_op od_div ne_opI (de_op od_mod ne_opI (de_callTy cd_int ne_g1 T.n_int (by decide +kernel) (da_cons (de_op od_add ne_add (de_op od_add ne_add (de_op od_mul ne_opI (de_var 5) (de_var 5)) (de_var 0)) (de_op od_mul ne_opI de_int (de_var 4))) da_nil)) de_int) de_int)))))))
    (dss_one (ds_ret (de_var 2))))))
abbrev s__law_same : Stmt := top 17
abbrev N__law_same : List Str := ["_law_told", "_law_due_here", "_law_k"]
theorem sc__law_same : FnScope N__law_same ["_law_told", "_law_due_here"] (defScope s__law_same) := ⟨rfl, rfl, rfl, by decide +kernel, rfl, by decide +kernel, by decide +kernel⟩
theorem okr__law_same (T : Tx P K mg) : ∀ n : Nat, FnG P w ⟨K, CC clsL K⟩ mg base (2 + n) "_law_same" ["_law_told", "_law_due_here"] (F__law_same n)
  | 0 => fn_global (N := N__law_same) (b := fun _ => .stuck) T.u__law_same T.g__law_same sc__law_same (by decide) (fun _ _ _ _ _ _ us hl => match us, hl with | [_, _], _ => rfl) (fun _ _ _ _ _ _ _ _ _ => dss_stuck)
  | n + 1 => by
    have O__law_same := okr__law_same T n
    refine fn_global (k := 2 + n) (N := N__law_same) (b := b__law_same (F__law_same n)) T.u__law_same T.g__law_same sc__law_same (by decide) (fun _ _ _ _ _ _ us hl => match us, hl with | [_, _], _ => rfl) (fun cdv A outer s H E hr hp tk => ?_)
    have nd := sc__law_same.nd
    have hu4 := hr.units
    have hu5 := room5 hr
    exact (dss_cons (ds_if (dt_cmp od_is ne_is (de_var 1) de_non)
      (dss_one (ds_ret (de_cmp od_is ne_is (de_var 0) de_non)))
      dss_nil)
    (dss_cons (ds_if (dt_val (de_callB cd_isi ne_gIsi T.n_isinstance (by decide +kernel) (da_cons (de_var 1) (da_cons (de_bltn T.n_bool (by decide +kernel)) da_nil))))
      (dss_one (ds_ret (de_and (de_callB cd_isi ne_gIsi T.n_isinstance (by decide +kernel) (da_cons (de_var 0) (da_cons (de_bltn T.n_bool (by decide +kernel)) da_nil))) (de_one (de_cmp (od_eq hu4) ne_eq (de_var 0) (de_var 1))))))
      dss_nil)
    (dss_cons (ds_if (dt_val (de_callB cd_isi ne_gIsi T.n_isinstance (by decide +kernel) (da_cons (de_var 1) (da_cons (de_bltn T.n_int (by decide +kernel)) da_nil))))
      (dss_one (ds_ret (de_and (de_callB cd_isi ne_gIsi T.n_isinstance (by decide +kernel) (da_cons (de_var 0) (da_cons (de_bltn T.n_int (by decide +kernel)) da_nil))) (de_and (de_not (de_callB cd_isi ne_gIsi T.n_isinstance (by decide +kernel) (da_cons (de_var 0) (da_cons (de_bltn T.n_bool (by decide +kernel)) da_nil)))) (de_one (de_cmp (od_eq hu4) ne_eq (de_var 0) (de_var 1)))))))
      dss_nil)
    (dss_cons (ds_if (dt_val (de_callB cd_isi ne_gIsi T.n_isinstance (by decide +kernel) (da_cons (de_var 1) (da_cons (de_bltn T.n_str (by decide +kernel)) da_nil))))
      (dss_one (ds_ret (de_and (de_callB cd_isi ne_gIsi T.n_isinstance (by decide +kernel) (da_cons (de_var 0) (da_cons (de_bltn T.n_str (by decide +kernel)) da_nil))) (de_one (de_cmp (od_eq hu4) ne_eq (de_var 0) (de_var 1))))))
      dss_nil)
    (dss_cons (ds_if (DW.dt (dw_or (DW.dt (dw_and (dt_val (de_callB cd_isi ne_gIsi T.n_isinstance (by decide +kernel) (da_cons (de_var 1) (da_cons (de_bltn T.n_tuple (by decide +kernel)) da_nil)))) (dw_and1 (dt_not (dt_val (de_callB cd_isi ne_gIsi T.n_isinstance (by decide +kernel) (da_cons (de_var 0) (da_cons (de_bltn T.n_tuple (by decide +kernel)) da_nil)))))))) (dw_or1 (DW.dt (dw_and (dt_val (de_callB cd_isi ne_gIsi T.n_isinstance (by decide +kernel) (da_cons (de_var 1) (da_cons (de_bltn T.n_list (by decide +kernel)) da_nil)))) (dw_and1 (dt_not (dt_val (de_callB cd_isi ne_gIsi T.n_isinstance (by decide +kernel) (da_cons (de_var 0) (da_cons (de_bltn T.n_list (by decide +kernel)) da_nil)))))))))))
      (dss_one (ds_ret de_bl))
      dss_nil)
    (dss_one (ds_ret (de_and (de_cmp (od_eq hu4) ne_eq (de_callB cd_len ne_g1 T.n_len (by decide +kernel) (da_cons (de_var 0) da_nil)) (de_callB cd_len ne_g1 T.n_len (by decide +kernel) (da_cons (de_var 1) da_nil))) (de_one (de_callB (cd_all rfl) ne_g1 T.n_all (by decide +kernel) (da_cons (de_lc nd (di_range1 T.n_range (da_cons (de_callB cd_len ne_g1 T.n_len (by decide +kernel) (da_cons (de_var 1) da_nil)) da_nil)) (blkOk_by (own := [("_law_k", 2)]) (N := N__law_same) (sc := defScope s__law_same) (by decide +kernel)) rfl (by decide) (fun _ _ _ _ _ => (dg_name nd (i := 2))) (fun _ _ _ _ _ => dts_nil) (fun _ _ _ _ _ => (de_call O__law_same (hr.mono (by omega)) takes0 (da_cons (de_ix (de_var 0) (de_var 2)) (da_cons (de_ix (de_var 1) (de_var 2)) da_nil))))) da_nil)))))))))))
theorem ok__law_same (T : Tx P K mg) : FnG P w ⟨K, CC clsL K⟩ mg base 10 "_law_same" ["_law_told", "_law_due_here"] (F__law_same 8) := okr__law_same T 8
abbrev s__law_cell : Stmt := top 15
abbrev N__law_cell : List Str := ["_law_script", "_law_at"]
theorem sc__law_cell : FnScope N__law_cell ["_law_script", "_law_at"] (defScope s__law_cell) := ⟨rfl, rfl, rfl, by decide +kernel, rfl, by decide +kernel, by decide +kernel⟩
theorem ok__law_cell (T : Tx P K mg) : FnG P w ⟨K, CC clsL K⟩ mg base 1 "_law_cell" ["_law_script", "_law_at"] F__law_cell := by
  refine fn_global (N := N__law_cell) (b := b__law_cell) T.u__law_cell T.g__law_cell sc__law_cell (by decide) (fun _ _ _ _ _ _ us hl => match us, hl with | [_, _], _ => rfl) (fun cdv A outer s H E hr hp tk => ?_)
  have nd := sc__law_cell.nd
  have hu4 := hr.units
  have hu5 := room5 hr
  exact (dss_cons (ds_if (dt_cmp od_lt ne_opO (de_var 1) (de_callB cd_len ne_g1 T.n_len (by decide +kernel) (da_cons (de_var 0) da_nil)))
      (dss_one (ds_ret (de_callB cd_abs ne_g1 T.n_abs (by decide +kernel) (da_cons (de_ix (de_var 0) (de_var 1)) da_nil))))
      dss_nil)
    (dss_one (ds_ret de_int)))
abbrev s__law_of : Stmt := top 19
abbrev N__law_of : List Str := ["_law_words"]
theorem sc__law_of : FnScope N__law_of ["_law_words"] (defScope s__law_of) := ⟨rfl, rfl, rfl, by decide +kernel, rfl, by decide +kernel, by decide +kernel⟩
def b__law_of : DL.Env → Out :=
    (mSeq (mIfS (mB (m2 (mCall (mCons (mV 0) mNil) gLen) (mC (.int 0)) opEq))
      (mRet (mFn (cmD "Signs" true F_Signs_of) mNil 0))
      Out.nx)
    (mSeq (mIfS (mB (m2 (mCall (mCons (mV 0) mNil) gLen) (mC (.int 1)) opEq))
      (mRet (mFn (cmD "Signs" true F_Signs_of) (mCons (m2 (mV 0) (mC (.int 0)) opIx) mNil) 1))
      Out.nx)
    (mSeq (mIfS (mB (m2 (mCall (mCons (mV 0) mNil) gLen) (mC (.int 2)) opEq))
      (mRet (mFn (cmD "Signs" true F_Signs_of) (mCons (m2 (mV 0) (mC (.int 0)) opIx) (mCons (m2 (mV 0) (mC (.int 1)) opIx) mNil)) 2))
      Out.nx)
    (mRet (mFn (cmD "Signs" true F_Signs_of) (mCons (m2 (mV 0) (mC (.int 0)) opIx) (mCons (m2 (mV 0) (mC (.int 1)) opIx) (mCons (m2 (mV 0) (mC (.int 2)) opIx) mNil))) 3)))))
def F__law_of : Fn := runB 1 b__law_of
theorem ok__law_of (T : Tx P K mg) (O_Signs_of : CmG P w ⟨K, CC clsL K⟩ mg base 5 "Signs" "of" 0 true F_Signs_of) : FnG P w ⟨K, CC clsL K⟩ mg base 6 "_law_of" ["_law_words"] F__law_of := by
  refine fn_global (N := N__law_of) (b := b__law_of) T.u__law_of T.g__law_of sc__law_of (by decide) (fun _ _ _ _ _ _ us hl => match us, hl with | [_], _ => rfl) (fun cdv A outer s H E hr hp tk => ?_)
  have nd := sc__law_of.nd
  have hu4 := hr.units
  have hu5 := room5 hr
  exact (dss_cons (ds_if (dt_cmp (od_eq hu4) ne_eq (de_callB cd_len ne_g1 T.n_len (by decide +kernel) (da_cons (de_var 0) da_nil)) de_int)
      (dss_one (ds_ret (de_cm0 O_Signs_of (hr.mono (by omega)) tk)))
      dss_nil)
    (dss_cons (ds_if (dt_cmp (od_eq hu4) ne_eq (de_callB cd_len ne_g1 T.n_len (by decide +kernel) (da_cons (de_var 0) da_nil)) de_int)
      (dss_one (ds_ret (de_cm O_Signs_of (hr.mono (by omega)) tk 1 (da_cons (de_ix (de_var 0) de_int) da_nil))))
      dss_nil)
    (dss_cons (ds_if (dt_cmp (od_eq hu4) ne_eq (de_callB cd_len ne_g1 T.n_len (by decide +kernel) (da_cons (de_var 0) da_nil)) de_int)
      (dss_one (ds_ret (de_cm O_Signs_of (hr.mono (by omega)) tk 2 (da_cons (de_ix (de_var 0) de_int) (da_cons (de_ix (de_var 0) de_int) da_nil)))))
      dss_nil)
    (dss_one (ds_ret (de_cm O_Signs_of (hr.mono (by omega)) tk 3 (da_cons (de_ix (de_var 0) de_int) (da_cons (de_ix (de_var 0) de_int) (da_cons (de_ix (de_var 0) de_int) da_nil)))))))))
abbrev s__law_made : Stmt := top 20
abbrev N__law_made : List Str := ["_law_words", "_law_way", "_law_made_here", "e", "_law_other"]
theorem sc__law_made : FnScope N__law_made ["_law_words", "_law_way"] (defScope s__law_made) := ⟨rfl, rfl, rfl, by decide +kernel, rfl, by decide +kernel, by decide +kernel⟩
def b__law_made : DL.Env → Out :=
    (mSeq (mTry 3 (tabS [("AwaitError", false), ("LineError", false), ("NameFault", false), ("SymbolError", true), ("StateError", false), ("PairError", false)]) (mSetF 2 (mIf (mB (m2 (mV 1) (mC (.int 0)) opEq)) (mMake "Signs" 1 I_Signs_init (mCons (mV 0) mNil)) (mFn F__law_of (mCons (mV 0) mNil) 1)))
      (mSeq (mSetF 4 (mOrV (mIsEC ["SymbolError"] 3 (tabS [("AwaitError", false), ("LineError", true), ("NameFault", false), ("SymbolError", false), ("StateError", false), ("PairError", false)])) (mOrV (mIsEC ["SymbolError"] 3 (tabS [("AwaitError", false), ("LineError", false), ("NameFault", true), ("SymbolError", false), ("StateError", false), ("PairError", false)])) (mOrV (mIsEC ["SymbolError"] 3 (tabS [("AwaitError", false), ("LineError", false), ("NameFault", false), ("SymbolError", false), ("StateError", false), ("PairError", true)])) (mIsEC ["SymbolError"] 3 (tabS [("AwaitError", false), ("LineError", false), ("NameFault", false), ("SymbolError", false), ("StateError", true), ("PairError", false)]))))))
      (mRet (mTup (mCons (mAndV (mNotV (mV 4)) (mAndV (mIsEC ["SymbolError"] 3 (tabS [("AwaitError", true), ("LineError", true), ("NameFault", true), ("SymbolError", true), ("StateError", true), ("PairError", true)])) (mIsEC ["SymbolError"] 3 (tabS [("AwaitError", true), ("LineError", true), ("NameFault", true), ("SymbolError", true), ("StateError", true), ("PairError", true)])))) (mCons (mC (.str "raised")) (mCons (mXfC ["SymbolError"] 3 "symbol") mNil)))))))
    (mRet (mTup (mCons (mC (.bl true)) (mCons (mC (.str "made")) (mCons (mFld ["Signs"] "words" (mV 2)) mNil))))))
def F__law_made : Fn := runB 5 b__law_made
theorem ok__law_made (T : Tx P K mg) (O_Signs_init : InG P w ⟨K, CC clsL K⟩ mg base 3 "Signs" 1 I_Signs_init) (O__law_of : FnG P w ⟨K, CC clsL K⟩ mg base 6 "_law_of" ["_law_words"] F__law_of) : FnG P w ⟨K, CC clsL K⟩ mg base 7 "_law_made" ["_law_words", "_law_way"] F__law_made := by
  refine fn_global (N := N__law_made) (b := b__law_made) T.u__law_made T.g__law_made sc__law_made (by decide) (fun _ _ _ _ _ _ us hl => match us, hl with | [_, _], _ => rfl) (fun cdv A outer s H E hr hp tk => ?_)
  have nd := sc__law_made.nd
  have hu4 := hr.units
  have hu5 := room5 hr
  exact (dss_cons (ds_try (i := 3) (S := tabS [("AwaitError", false), ("LineError", false), ("NameFault", false), ("SymbolError", true), ("StateError", false), ("PairError", false)]) rfl rfl rfl nd rfl rfl ⟨rfl, by decide, .inl T.gk_SymbolError⟩ (exmTab_ok T.exm_SymbolError rfl) tk (fun W pn xe tk hp => (dss_one (ds_setF (i := 2) (de_if (dt_cmp (od_eq hu4) ne_eq (de_var 1) de_int) (de_make O_Signs_init (hr.mono (by omega)) tk (da_cons (de_var 0) da_nil)) (de_call O__law_of (hr.mono (by omega)) tk (da_cons (de_var 0) da_nil))) nd)))
      (fun a oe Ca d pn hz hf => (dss_cons (ds_setF (i := 4) (de_or (de_isEC (cs := ["SymbolError"]) (S := tabS [("AwaitError", false), ("LineError", true), ("NameFault", false), ("SymbolError", false), ("StateError", false), ("PairError", false)]) (excTab_ok (excTab_sub T.exc (by decide)) rfl) hz hf T.n_isinstance T.gk_LineError (kitTab_ok T.kit_LineError rfl)) (de_or (de_isEC (cs := ["SymbolError"]) (S := tabS [("AwaitError", false), ("LineError", false), ("NameFault", true), ("SymbolError", false), ("StateError", false), ("PairError", false)]) (excTab_ok (excTab_sub T.exc (by decide)) rfl) hz hf T.n_isinstance T.gk_NameFault (kitTab_ok T.kit_NameFault rfl)) (de_or (de_isEC (cs := ["SymbolError"]) (S := tabS [("AwaitError", false), ("LineError", false), ("NameFault", false), ("SymbolError", false), ("StateError", false), ("PairError", true)]) (excTab_ok (excTab_sub T.exc (by decide)) rfl) hz hf T.n_isinstance T.gk_PairError (kitTab_ok T.kit_PairError rfl)) (de_one (de_isEC (cs := ["SymbolError"]) (S := tabS [("AwaitError", false), ("LineError", false), ("NameFault", false), ("SymbolError", false), ("StateError", true), ("PairError", false)]) (excTab_ok (excTab_sub T.exc (by decide)) rfl) hz hf T.n_isinstance T.gk_StateError (kitTab_ok T.kit_StateError rfl)))))) nd)
      (dss_one (ds_ret (de_tup (da_cons (de_and (de_not (de_var 4)) (de_and (de_isEC (cs := ["SymbolError"]) (S := tabS [("AwaitError", true), ("LineError", true), ("NameFault", true), ("SymbolError", true), ("StateError", true), ("PairError", true)]) (excTab_ok (excTab_sub T.exc (by decide)) rfl) hz hf T.n_isinstance T.gk_AwaitError (kitTab_ok T.kit_AwaitError rfl)) (de_one (de_isEbC (cs := ["SymbolError"]) (T' := "ValueError") (S := tabS [("AwaitError", true), ("LineError", true), ("NameFault", true), ("SymbolError", true), ("StateError", true), ("PairError", true)]) (excTab_ok (excTab_sub T.exc (by decide)) rfl) hz hf T.n_isinstance T.n_ValueError (by decide +kernel) (kitTab_ok T.kit_ValueError rfl))))) (da_cons de_str (da_cons (de_xfC (cs := ["SymbolError"]) (xfTab_ok (excTab_sub T.exc (by decide)) T.na (by decide) rfl) hz hf) da_nil)))))))))
    (dss_one (ds_ret (de_tup (da_cons de_bl (da_cons de_str (da_cons (de_fld (fo_words T rfl) (de_var 2)) da_nil)))))))
abbrev s__law_sorted : Stmt := top 18
abbrev N__law_sorted : List Str := ["_law_row", "_law_done", "_law_thing", "_law_at"]
theorem sc__law_sorted : FnScope N__law_sorted ["_law_row"] (defScope s__law_sorted) := ⟨rfl, rfl, rfl, by decide +kernel, rfl, by decide +kernel, by decide +kernel⟩
theorem ok__law_sorted (T : Tx P K mg) : FnG P w ⟨K, CC clsL K⟩ mg base 1 "_law_sorted" ["_law_row"] F__law_sorted := by
  refine fn_global (N := N__law_sorted) (b := b__law_sorted) T.u__law_sorted T.g__law_sorted sc__law_sorted (by decide) (fun _ _ _ _ _ _ us hl => match us, hl with | [_], _ => rfl) (fun cdv A outer s H E hr hp tk => ?_)
  have nd := sc__law_sorted.nd
  have hu4 := hr.units
  have hu5 := room5 hr
  exact (dss_cons (ds_setO (i := 1) (de_lst da_nil) nd)
    (dss_cons (ds_for hp (di_seq (de_var 0)) (dg_name nd (i := 2))
      (dss_cons (ds_setF (i := 3) de_int nd)
      (dss_cons (ds_while hp (DW.dt (dw_and (dt_cmp od_lt ne_opO (de_var 3) (de_callB cd_len ne_g1 T.n_len (by decide +kernel) (da_cons (de_var 1) da_nil))) (dw_and1 (dt_cmp od_lt ne_opO (de_ix (de_var 1) (de_var 3)) (de_var 2)))))
        (dss_one (ds_setF (i := 3) (de_op od_add ne_add (de_var 3) de_int) nd)))
      (dss_one (ds_ins 1 (da_cons (de_var 3) (da_cons (de_var 2) da_nil)))))))
    (dss_one (ds_ret (de_var 1)))))
abbrev s__law_due : Stmt := top 21
abbrev N__law_due : List Str := ["_law_words", "_law_bad", "_law_word", "_law_found"]
theorem sc__law_due : FnScope N__law_due ["_law_words", "_law_bad"] (defScope s__law_due) := ⟨rfl, rfl, rfl, by decide +kernel, rfl, by decide +kernel, by decide +kernel⟩
def l1__law_due : DL.Env → Out :=
    (mIfS (mB (m2 (mV 2) (mV 1) opIn))
        (mRet (mTup (mCons (mC (.bl true)) (mCons (mC (.str "raised")) (mCons (mV 2) mNil)))))
        Out.nx)
def l2__law_due : DL.Env → Out :=
    (mIfS (mB (m2 (mV 2) (mV 3) opNi))
        (mApp 3 (mV 2))
        Out.nx)
def b__law_due : DL.Env → Out :=
    (mSeq (mFor (mItems (mV 0)) (pName 2)
      l1__law_due)
    (mSeq (mSetO 3 (mLst mNil))
    (mSeq (mFor (mItems (mFn F__law_sorted (mCons (mV 0) mNil) 1)) (pName 2)
      l2__law_due)
    (mFrz 3 (mRet (mTup (mCons (mC (.bl true)) (mCons (mC (.str "made")) (mCons (mCall (mCons (mV 3) mNil) gTuple) mNil)))))))))
def F__law_due : Fn := runB 4 b__law_due
theorem ok__law_due (T : Tx P K mg) (O__law_sorted : FnG P w ⟨K, CC clsL K⟩ mg base 1 "_law_sorted" ["_law_row"] F__law_sorted) : FnG P w ⟨K, CC clsL K⟩ mg base 2 "_law_due" ["_law_words", "_law_bad"] F__law_due := by
  refine fn_global (N := N__law_due) (b := b__law_due) T.u__law_due T.g__law_due sc__law_due (by decide) (fun _ _ _ _ _ _ us hl => match us, hl with | [_, _], _ => rfl) (fun cdv A outer s H E hr hp tk => ?_)
  have nd := sc__law_due.nd
  have hu4 := hr.units
  have hu5 := room5 hr
  exact (dss_cons (ds_for hp (di_seq (de_var 0)) (dg_name nd (i := 2))
      (dss_one (ds_if (dt_cmp (od_in hu5) ne_in (de_var 2) (de_var 1))
        (dss_one (ds_ret (de_tup (da_cons de_bl (da_cons de_str (da_cons (de_var 2) da_nil))))))
        dss_nil)))
    (dss_cons (ds_setO (i := 3) (de_lst da_nil) nd)
    (dss_cons (ds_for hp (di_seq (de_call O__law_sorted (hr.mono (by omega)) tk (da_cons (de_var 0) da_nil))) (dg_name nd (i := 2))
      (dss_one (ds_if (dt_cmp (od_ni hu5) ne_ni (de_var 2) (de_var 3))
        (dss_one (ds_app 3 (de_var 2)))
        dss_nil)))
    (dss_one (ds_frz 3 (ds_ret (de_tup (da_cons de_bl (da_cons de_str (da_cons (de_callTy cd_tuple ne_gTuple T.n_tuple (by decide +kernel) (da_cons (de_var 3) da_nil)) da_nil))))))))))
abbrev s_law : Stmt := top 22
abbrev N_law : List Str := ["_law_script", "_law_good", "_law_bad", "_law_at", "_law_draws_here", "_law_pool", "_law_words", "_law_passed", "_law_kept", "_law_made_here", "_law_wide", "_law_k", "_law_word"]
theorem sc_law : FnScope N_law ["_law_script"] (defScope s_law) := ⟨rfl, rfl, rfl, by decide +kernel, rfl, by decide +kernel, by decide +kernel⟩
def e1_law : DL.Env → Rz EV :=
    (m2 (mV 5) (m2 (mCall (mCons (m2 (mV 4) (m2 (mC (.int 2)) (mV 11) opAdd) opIx) mNil) gInt) (mCall (mCons (mV 5) mNil) gLen) opMod) opIx)
def t1_law : DL.Env → Rz Bool :=
    (mB (m2 (mV 12) (mV 2) opNi))
def e2_law : DL.Env → Rz EV :=
    (mV 12)
def l1_law : DL.Env → Out :=
    (mSeq (mSetF 4 (mFn F__law_draws (mCons (mFn F__law_cell (mCons (mV 0) (mCons (mV 3) mNil)) 2) (mCons (mC (.int 9)) mNil)) 2))
      (mSeq (mSetF 5 (mIf (mB (m2 (m2 (mCall (mCons (m2 (mV 4) (mC (.int 1)) opIx) mNil) gInt) (mC (.int 3)) opMod) (mC (.int 0)) opEq)) (m2 (mV 1) (mV 2) opAdd) (mV 1)))
      (mSeq (mSetF 6 (mLc (mRng1 (mCons (m2 (mCall (mCons (m2 (mV 4) (mC (.int 0)) opIx) mNil) gInt) (mC (.int 7)) opMod) mNil)) (pName 11) mYes e1_law [11]))
      (mSeq (mSetF 7 (mCall (mCons (mV 6) mNil) gList))
      (mSeq (mIfS (mOr (mNot (mB (mFn (F__law_same 8) (mCons (mFn F__law_made (mCons (mV 7) (mCons (mC (.int 0)) mNil)) 2) (mCons (mFn F__law_due (mCons (mV 6) (mCons (mV 2) mNil)) 2) mNil)) 2))) (mB (m2 (mV 7) (mV 6) opNe)))
        (mRet (mC (.bl false)))
        Out.nx)
      (mSeq (mIfS (mNot (mB (mFn (F__law_same 8) (mCons (mFn F__law_made (mCons (mCall (mCons (mV 6) mNil) gTuple) (mCons (mC (.int 0)) mNil)) 2) (mCons (mFn F__law_due (mCons (mV 6) (mCons (mV 2) mNil)) 2) mNil)) 2)))
        (mRet (mC (.bl false)))
        Out.nx)
      (mSeq (mIfS (mNot (mB (mFn (F__law_same 8) (mCons (mFn F__law_made (mCons (mSl (mV 6) none (some (mC (.int 3)))) (mCons (mC (.int 1)) mNil)) 2) (mCons (mFn F__law_due (mCons (mSl (mV 6) none (some (mC (.int 3)))) (mCons (mV 2) mNil)) 2) mNil)) 2)))
        (mRet (mC (.bl false)))
        Out.nx)
      (mSeq (mSetO 8 (mLc (mItems (mV 6)) (pName 12) t1_law e2_law [12]))
      (mSeq (mSetF 9 (mMake "Signs" 1 I_Signs_init (mCons (mV 8) mNil)))
      (mSeq (mApp 8 (mC (.str "late")))
      (mIfS (mOr (mNot (mB (mFn (F__law_same 8) (mCons (mFld ["Signs"] "words" (mV 9)) (mCons (m2 (mFn F__law_due (mCons (mSl (mV 8) none (some (mNeg (mC (.int 1))))) (mCons (mV 2) mNil)) 2) (mC (.int 2)) opIx) mNil)) 2))) (mNot (mB (mFn (F__law_same 8) (mCons (mFld ["Signs"] "words" (mFn (cmD "Signs" true F_Signs_of) (mCons (mC (.str "late")) (mCons (mC (.str "a")) mNil)) 2)) (mCons (mTup (mCons (mC (.str "a")) (mCons (mC (.str "late")) mNil))) mNil)) 2))))
        (mRet (mC (.bl false)))
        Out.nx)))))))))))
def b_law : DL.Env → Out :=
    (mSeq (mSetF 1 (mLst (mCons (mC (.str "a")) (mCons (mC (.str "b")) (mCons (mC (.str "if")) (mCons (mC (.str "x1")) (mCons (mC (.str "zz9")) (mCons (mC (.str "begin6")) (mCons (mC (.str "$")) (mCons (mC (.str "c")) (mCons (mC (.str "do")) (mCons (mC (.str "a1")) mNil))))))))))))
    (mSeq (mSetF 2 (mLst (mCons (mC (.str "A")) (mCons (mC (.str "Ab")) (mCons (mC (.str "")) (mCons (mC (.str "1a")) (mCons (mC (.str "a b")) (mCons (mC (.str "toolong")) (mCons (mC (.str "$$")) (mCons (mC (.str "a$")) mNil))))))))))
    (mSeq (mFor (mRng1 (mCons (mCall (mCons (mC (.int 1)) (mCons (mCall (mCons (mCall (mCons (mV 0) mNil) gLen) (mCons (mC (.int 12)) mNil)) gMin) mNil)) gMax) mNil)) (pName 3)
      l1_law)
    (mSeq (mSetF 10 (mFn (cmD "Signs" true F_Signs_of) (mCons (mC (.str "zz9")) (mCons (mC (.str "b")) (mCons (mC (.str "a")) (mCons (mC (.str "$")) (mCons (mC (.str "b")) (mCons (mC (.str "if")) (mCons (mC (.str "x1")) mNil))))))) 7))
    (mRet (mAndV (mFn (F__law_same 8) (mCons (mC (.str "$")) (mCons (mC (.str "$")) mNil)) 2) (mFn (F__law_same 8) (mCons (mFld ["Signs"] "words" (mV 10)) (mCons (mTup (mCons (mC (.str "$")) (mCons (mC (.str "a")) (mCons (mC (.str "b")) (mCons (mC (.str "if")) (mCons (mC (.str "x1")) (mCons (mC (.str "zz9")) mNil))))))) mNil)) 2)))))))
def F_law : Fn := runB 13 b_law
theorem ok_law (T : Tx P K mg) {fd : FuncData} (U : FunD K "law" "law" (defArgs (top 22)) (defBody (top 22)) (defScope (top 22)) [] [] (He.ga K "law") fd) (O__law_draws : FnG P w ⟨K, CC clsL K⟩ mg base 1 "_law_draws" ["_law_cell_here", "_law_count"] F__law_draws) (O__law_cell : FnG P w ⟨K, CC clsL K⟩ mg base 1 "_law_cell" ["_law_script", "_law_at"] F__law_cell) (O__law_same : FnG P w ⟨K, CC clsL K⟩ mg base 10 "_law_same" ["_law_told", "_law_due_here"] (F__law_same 8)) (O__law_due : FnG P w ⟨K, CC clsL K⟩ mg base 2 "_law_due" ["_law_words", "_law_bad"] F__law_due) (O__law_made : FnG P w ⟨K, CC clsL K⟩ mg base 7 "_law_made" ["_law_words", "_law_way"] F__law_made) (O_Signs_init : InG P w ⟨K, CC clsL K⟩ mg base 3 "Signs" 1 I_Signs_init) (O_Signs_of : CmG P w ⟨K, CC clsL K⟩ mg base 5 "Signs" "of" 0 true F_Signs_of) : FnOk P w K mg base (L2.CX P w) 11 (He.ga K "law") fd ["_law_script"] (spD ⟨K, CC clsL K⟩ 1 F_law) := by
  refine fn_dataD (K := ⟨K, CC clsL K⟩) (N := N_law) (b := b_law) U sc_law (by decide) (fun cdv A outer s H E hr hp tk => ?_)
  have nd := sc_law.nd
  have hu4 := hr.units
  have hu5 := room5 hr
  exact (dss_cons (ds_setF (i := 1) (de_lst (da_cons de_str (da_cons de_str (da_cons de_str (da_cons de_str (da_cons de_str (da_cons de_str (da_cons de_str (da_cons de_str (da_cons de_str (da_cons de_str da_nil))))))))))) nd)
    (dss_cons (ds_setF (i := 2) (de_lst (da_cons de_str (da_cons de_str (da_cons de_str (da_cons de_str (da_cons de_str (da_cons de_str (da_cons de_str (da_cons de_str da_nil))))))))) nd)
    (dss_cons (ds_for hp (di_range1 T.n_range (da_cons (de_callB (cd_max rfl) ne_gMM T.n_max (by decide +kernel) (da_cons de_int (da_cons (de_callB (cd_min rfl) ne_gMM T.n_min (by decide +kernel) (da_cons (de_callB cd_len ne_g1 T.n_len (by decide +kernel) (da_cons (de_var 0) da_nil)) (da_cons de_int da_nil))) da_nil))) da_nil)) (dg_name nd (i := 3))
      (dss_cons (ds_setF (i := 4) (de_call O__law_draws (hr.mono (by omega)) tk (da_cons (de_call O__law_cell (hr.mono (by omega)) tk (da_cons (de_var 0) (da_cons (de_var 3) da_nil))) (da_cons de_int da_nil))) nd)
      (dss_cons (ds_setF (i := 5) (de_if (dt_cmp (od_eq hu4) ne_eq (de_op od_mod ne_opI (de_callTy cd_int ne_g1 T.n_int (by decide +kernel) (da_cons (de_ix (de_var 4) de_int) da_nil)) de_int) de_int) (de_op od_add ne_add (de_var 1) (de_var 2)) (de_var 1)) nd)
      (dss_cons (ds_setLcF (i := 6) nd (sw_true rfl rfl rfl (by decide +kernel)) (di_range1 T.n_range (da_cons (de_op od_mod ne_opI (de_callTy cd_int ne_g1 T.n_int (by decide +kernel) (da_cons (de_ix (de_var 4) de_int) da_nil)) de_int) da_nil)) (blkOk_by (own := [("_law_k", 11)]) (N := N_law) (sc := defScope s_law) (by decide +kernel)) rfl (by decide) (fun _ _ _ _ _ => (dg_name nd (i := 11))) (fun _ _ _ _ _ => dts_nil) (fun _ _ _ _ _ => (de_ix (de_var 5) (de_op od_mod ne_opI (de_callTy cd_int ne_g1 T.n_int (by decide +kernel) (da_cons (de_ix (de_var 4) (de_op od_add ne_add de_int (de_var 11))) da_nil)) (de_callB cd_len ne_g1 T.n_len (by decide +kernel) (da_cons (de_var 5) da_nil))))))
      (dss_cons (ds_setF (i := 7) (de_callTy cd_list ne_gList T.n_list (by decide +kernel) (da_cons (de_var 6) da_nil)) nd)
      (dss_cons (ds_if (DW.dt (dw_or (dt_not (dt_val (de_call O__law_same (hr.mono (by omega)) tk (da_cons (de_call O__law_made (hr.mono (by omega)) tk (da_cons (de_var 7) (da_cons de_int da_nil))) (da_cons (de_call O__law_due (hr.mono (by omega)) tk (da_cons (de_var 6) (da_cons (de_var 2) da_nil))) da_nil))))) (dw_or1 (dt_cmp (od_ne hu4) ne_ne (de_var 7) (de_var 6)))))
        (dss_one (ds_ret de_bl))
        dss_nil)
      (dss_cons (ds_if (dt_not (dt_val (de_call O__law_same (hr.mono (by omega)) tk (da_cons (de_call O__law_made (hr.mono (by omega)) tk (da_cons (de_callTy cd_tuple ne_gTuple T.n_tuple (by decide +kernel) (da_cons (de_var 6) da_nil)) (da_cons de_int da_nil))) (da_cons (de_call O__law_due (hr.mono (by omega)) tk (da_cons (de_var 6) (da_cons (de_var 2) da_nil))) da_nil)))))
        (dss_one (ds_ret de_bl))
        dss_nil)
      (dss_cons (ds_if (dt_not (dt_val (de_call O__law_same (hr.mono (by omega)) tk (da_cons (de_call O__law_made (hr.mono (by omega)) tk (da_cons (de_sl (de_var 6) do_none (do_some de_int)) (da_cons de_int da_nil))) (da_cons (de_call O__law_due (hr.mono (by omega)) tk (da_cons (de_sl (de_var 6) do_none (do_some de_int)) (da_cons (de_var 2) da_nil))) da_nil)))))
        (dss_one (ds_ret de_bl))
        dss_nil)
      (dss_cons (ds_setLcO (i := 8) nd (sw_true rfl rfl rfl (by decide +kernel)) (di_seq (de_var 6)) (blkOk_by (own := [("_law_word", 12)]) (N := N_law) (sc := defScope s_law) (by decide +kernel)) rfl (by decide) (fun _ _ _ _ _ => (dg_name nd (i := 12))) (fun _ _ _ _ _ => (dts_one (dt_cmp (od_ni hu5) ne_ni (de_var 12) (de_var 2)))) (fun _ _ _ _ _ => (de_var 12)))
      (dss_cons (ds_setF (i := 9) (de_make O_Signs_init (hr.mono (by omega)) tk (da_cons (de_var 8) da_nil)) nd)
      (dss_cons (ds_app 8 de_str)
      (dss_one (ds_if (DW.dt (dw_or (dt_not (dt_val (de_call O__law_same (hr.mono (by omega)) tk (da_cons (de_fld (fo_words T rfl) (de_var 9)) (da_cons (de_ix (de_call O__law_due (hr.mono (by omega)) tk (da_cons (de_sl (de_var 8) do_none (do_some (de_neg de_int))) (da_cons (de_var 2) da_nil))) de_int) da_nil))))) (dw_or1 (dt_not (dt_val (de_call O__law_same (hr.mono (by omega)) tk (da_cons (de_fld (fo_words T rfl) (de_cm O_Signs_of (hr.mono (by omega)) tk 2 (da_cons de_str (da_cons de_str da_nil)))) (da_cons (de_tup (da_cons de_str (da_cons de_str da_nil))) da_nil))))))))
        (dss_one (ds_ret de_bl))
        dss_nil)))))))))))))
    (dss_cons (ds_setF (i := 10) (de_cm O_Signs_of (hr.mono (by omega)) tk 7 (da_cons de_str (da_cons de_str (da_cons de_str (da_cons de_str (da_cons de_str (da_cons de_str (da_cons de_str da_nil)))))))) nd)
    (dss_one (ds_ret (de_and (de_call O__law_same (hr.mono (by omega)) tk (da_cons (de_cval T.cv_Signs_END) (da_cons de_str da_nil))) (de_one (de_call O__law_same (hr.mono (by omega)) tk (da_cons (de_fld (fo_words T rfl) (de_var 10)) (da_cons (de_tup (da_cons de_str (da_cons de_str (da_cons de_str (da_cons de_str (da_cons de_str (da_cons de_str da_nil))))))) da_nil)))))))))))
theorem all_law (T : Tx P K mg) {fd : FuncData} (U : FunD K "law" "law" (defArgs (top 22)) (defBody (top 22)) (defScope (top 22)) [] [] (He.ga K "law") fd) : FnOk P w K mg base (L2.CX P w) 11 (He.ga K "law") fd ["_law_script"] (spD ⟨K, CC clsL K⟩ 1 F_law) := by
  have O_exc_SymbolError : ExG P w ⟨K, CC clsL K⟩ mg base 1 "SymbolError" ["symbol"] := ok_exc_SymbolError T
  have O_is_word : FnG P w ⟨K, CC clsL K⟩ mg base 1 "is_word" ["word"] F_is_word := ok_is_word T
  have O_is_sign : FnG P w ⟨K, CC clsL K⟩ mg base 2 "is_sign" ["word"] F_is_sign := ok_is_sign T O_is_word
  have O_Signs_init : InG P w ⟨K, CC clsL K⟩ mg base 3 "Signs" 1 I_Signs_init := ok_Signs_init T O_is_sign O_exc_SymbolError
  have O_Signs_of : CmG P w ⟨K, CC clsL K⟩ mg base 5 "Signs" "of" 0 true F_Signs_of := ok_Signs_of T O_Signs_init
  have O__law_draws : FnG P w ⟨K, CC clsL K⟩ mg base 1 "_law_draws" ["_law_cell_here", "_law_count"] F__law_draws := ok__law_draws T
  have O__law_same : FnG P w ⟨K, CC clsL K⟩ mg base 10 "_law_same" ["_law_told", "_law_due_here"] (F__law_same 8) := ok__law_same T
  have O__law_cell : FnG P w ⟨K, CC clsL K⟩ mg base 1 "_law_cell" ["_law_script", "_law_at"] F__law_cell := ok__law_cell T
  have O__law_of : FnG P w ⟨K, CC clsL K⟩ mg base 6 "_law_of" ["_law_words"] F__law_of := ok__law_of T O_Signs_of
  have O__law_made : FnG P w ⟨K, CC clsL K⟩ mg base 7 "_law_made" ["_law_words", "_law_way"] F__law_made := ok__law_made T O_Signs_init O__law_of
  have O__law_sorted : FnG P w ⟨K, CC clsL K⟩ mg base 1 "_law_sorted" ["_law_row"] F__law_sorted := ok__law_sorted T
  have O__law_due : FnG P w ⟨K, CC clsL K⟩ mg base 2 "_law_due" ["_law_words", "_law_bad"] F__law_due := ok__law_due T O__law_sorted
  exact ok_law T U O__law_draws O__law_cell O__law_same O__law_due O__law_made O_Signs_init O_Signs_of
end
end LW.K02
namespace LW.K02
open PySem L2 DL
def good : List Str := ["a", "b", "if", "x1", "zz9", "begin6", "$", "c", "do", "a1"]
def bad : List Str := ["A", "Ab", "", "1a", "a b", "toolong", "$$", "a$"]
def Ws (ws : List Str) : Prop := ws.length ≤ 100 ∧ ∀ w ∈ ws, w ∈ good ++ bad
theorem len_all : ∀ w ∈ good ++ bad, w.cps.toList.length ≤ 16777216 := by decide +kernel
theorem ok_all : ∀ w ∈ good ++ bad, PyData.strOk w = true := by decide +kernel
theorem Ws.len {ws : List Str} (h : Ws ws) : ∀ w ∈ ws, w.cps.toList.length ≤ 16777216 := fun w hw => len_all w (h.2 w hw)
theorem Ws.ok {ws : List Str} (h : Ws ws) : ∀ w ∈ ws, PyData.strOk w = true := fun w hw => ok_all w (h.2 w hw)
theorem good_bad : ∀ w ∈ good ++ bad, goodS w = !decide (w ∈ bad) := by decide +kernel
theorem Ws.find {ws : List Str} (h : Ws ws) : ws.find? (fun w => !goodS w) = ws.find? (fun w => decide (w ∈ bad)) := by
  have h2 := h.2
  clear h
  have h := h2
  clear h2
  induction ws with
  | nil => rfl
  | cons w ws ih =>
    rw [List.find?_cons, List.find?_cons, good_bad w (h w List.mem_cons_self), Bool.not_not, ih fun x hx => h x (.tail _ hx)]
def due (ws : List Str) : D := match ws.find? (fun w => decide (w ∈ bad)) with
  | some w => .tup [.bl true, .str "raised", .str w]
  | none => .tup [.bl true, .str "made", .tup (stD (DS.sortU ws))]
theorem sortU_len (ws : List Str) : (DS.sortU ws).length ≤ ws.length := by
  induction ws with
  | nil => exact Nat.le_refl _
  | cons x l ih =>
    have : ∀ m : List Str, (DS.insU x m).length ≤ m.length + 1 := fun m => by
      induction m with
      | nil => simp [DS.insU]
      | cons y r i2 =>
        unfold DS.insU
        split
        · simp
        split
        · simp
        · simpa using i2
    show (DS.insU x (DS.sortU l)).length ≤ l.length + 1
    have := this (DS.sortU l)
    omega
theorem due_plain {ws : List Str} (h : Ws ws) : PL 8 (due ws) := by
  unfold due
  have r1 : PyData.strOk "raised" = true := by decide +kernel
  have r2 : PyData.strOk "made" = true := by decide +kernel
  cases hf : ws.find? (fun w => decide (w ∈ bad)) with
  | some w =>
    have hw := h.ok w (List.mem_of_find?_eq_some hf)
    refine ⟨by simp, fun d hd => ?_⟩
    simp only [List.mem_cons, List.not_mem_nil, or_false] at hd
    rcases hd with rfl | rfl | rfl
    · trivial
    · exact r1
    · exact hw
  | none =>
    refine ⟨by simp, fun d hd => ?_⟩
    simp only [List.mem_cons, List.not_mem_nil, or_false] at hd
    rcases hd with rfl | rfl | rfl
    · trivial
    · exact r2
    · exact PL_strs (by have := sortU_len ws; have := h.1; omega) fun w hw => h.ok w (DS.mem_sortU.mp hw)
theorem size3 : (3 : Nat) ≤ sizeLine := size_big (by decide)
theorem due1 (v1 v3 : SL) (bs : List Str) : ∀ (ws : List Str) (v2 : SL), ∃ v2', forF (pName 2) l1__law_due (stD ws) [v1, .val (.lst (stD bs)), v2, v3] = match ws.find? (fun w => decide (w ∈ bs)) with
    | some w => .ret (.fz (.tup [.bl true, .str "raised", .str w]))
    | none => .nx [v1, .val (.lst (stD bs)), v2', v3]
  | [], v2 => ⟨v2, rfl⟩
  | w :: ws, v2 => by
    have e : l1__law_due [v1, .val (.lst (stD bs)), .val (.str w), v3] = if w ∈ bs then .ret (.fz (.tup [.bl true, .str "raised", .str w])) else .nx [v1, .val (.lst (stD bs)), .val (.str w), v3] := by
      unfold l1__law_due
      by_cases h : w ∈ bs <;> simp [in_strsL, h, allFz, size3]
    rw [show stD (w :: ws) = .str w :: stD ws from rfl, forF, List.find?_cons]
    simp only [pName_e, List.set_cons_zero, List.set_cons_succ, e]
    by_cases h : w ∈ bs
    · exact ⟨.no, by simp [h]⟩
    · obtain ⟨v2', i⟩ := due1 v1 v3 bs ws (.val (.str w))
      exact ⟨v2', by simpa [h] using i⟩
theorem due2 (v0 v1 : SL) : ∀ (ws acc : List Str) (v2 : SL), acc.length + ws.length ≤ 100000 → ∃ v2', forF (pName 2) l2__law_due (stD ws) [v0, v1, v2, .own (.lst (stD acc))] = .nx [v0, v1, v2', .own (.lst (stD (ws.foldl (fun acc x => if x ∈ acc then acc else acc ++ [x]) acc)))]
  | [], acc, v2, _ => ⟨v2, rfl⟩
  | w :: ws, acc, v2, hl => by
    have hz : acc.length < sizeLine := Nat.lt_of_lt_of_le (by omega : acc.length < 100001) (size_big (by decide))
    have e : l2__law_due [v0, v1, .val (.str w), .own (.lst (stD acc))] = .nx [v0, v1, .val (.str w), .own (.lst (stD (if w ∈ acc then acc else acc ++ [w])))] := by
      unfold l2__law_due
      by_cases h : w ∈ acc <;> simp [ni_strsO, h, mApp, hz]
    rw [show stD (w :: ws) = .str w :: stD ws from rfl, forF]
    simp only [pName_e, List.set_cons_zero, List.set_cons_succ, e]
    exact due2 v0 v1 ws _ _ (by
      rw [List.length_cons] at hl
      have : (if w ∈ acc then acc else acc ++ [w]).length ≤ acc.length + 1 := by split <;> simp
      omega)
theorem ev_due {ws : List Str} (h : ws.length ≤ 100) : F__law_due [.lst (stD ws), .lst (stD bad)] = .ok (.fz (due ws)) := by
  unfold F__law_due runB b__law_due
  obtain ⟨v2', h1⟩ := due1 (.val (.lst (stD ws))) .no bad ws .no
  have f1 : mFor (mItems (mV 0)) (pName 2) l1__law_due [.val (.lst (stD ws)), .val (.lst (stD bad)), .no, .no] = _ := (for_ok (by simp)).trans h1
  unfold due
  cases hf : ws.find? (fun w => decide (w ∈ bad)) with
  | some w =>
    rw [hf] at f1
    simp [f1]
  | none =>
    rw [hf] at f1
    have hs : F__law_sorted [.lst (stD ws)] = .ok (.ow false (.lst (stD (isort strLt ws)))) := ev_sorted (en := D.str) (lt := strLt) (fun a b => rfl) ws (by omega) _ rfl rfl
    have hs2 := appF_ow1 hs
    have hlen := (isort_perm strLt ws).length_eq
    obtain ⟨v3', h2⟩ := due2 (.val (.lst (stD ws))) (.val (.lst (stD bad))) (isort strLt ws) [] v2' (by simp [hlen]; omega)
    have f2 : mFor (mItems (mFn F__law_sorted (mCons (mV 0) mNil) 1)) (pName 2) l2__law_due [.val (.lst (stD ws)), .val (.lst (stD bad)), v2', .own (.lst [])] = _ := (for_ok (ds := stD (isort strLt ws)) (by simp [hs2])).trans h2
    rw [show (isort strLt ws).foldl (fun acc x => if x ∈ acc then acc else acc ++ [x]) [] = DS.sortU ws from ddup_isort ws] at f2
    simp [f1, allFz, f2, mFrz, seqD, size3]

theorem due_of {ws : List Str} (h : Ws ws) : due ws = match ws.find? (fun w => !goodS w) with
    | some w => .tup [.bl true, .str "raised", .str w]
    | none => .tup [.bl true, .str "made", .tup (stD (DS.sortU ws))] := by
  rw [h.find]; rfl
theorem lk1 : tabS [("AwaitError", false), ("LineError", false), ("NameFault", false), ("SymbolError", true), ("StateError", false), ("PairError", false)] "SymbolError" = some true := by decide +kernel
theorem lk2 : tabS [("AwaitError", false), ("LineError", true), ("NameFault", false), ("SymbolError", false), ("StateError", false), ("PairError", false)] "SymbolError" = some false := by decide +kernel
theorem lk3 : tabS [("AwaitError", false), ("LineError", false), ("NameFault", true), ("SymbolError", false), ("StateError", false), ("PairError", false)] "SymbolError" = some false := by decide +kernel
theorem lk4 : tabS [("AwaitError", false), ("LineError", false), ("NameFault", false), ("SymbolError", false), ("StateError", false), ("PairError", true)] "SymbolError" = some false := by decide +kernel
theorem lk5 : tabS [("AwaitError", false), ("LineError", false), ("NameFault", false), ("SymbolError", false), ("StateError", true), ("PairError", false)] "SymbolError" = some false := by decide +kernel
theorem lk6 : tabS [("AwaitError", true), ("LineError", true), ("NameFault", true), ("SymbolError", true), ("StateError", true), ("PairError", true)] "SymbolError" = some true := by decide +kernel
theorem made_go {d : D} {i : Int} {ws : List Str} (hm : mIf (mB (m2 (mV 1) (mC (.int 0)) opEq)) (mMake "Signs" 1 I_Signs_init (mCons (mV 0) mNil)) (mFn F__law_of (mCons (mV 0) mNil) 1) [.val d, .val (.int i), .no, .no, .no] = signsR ws) (h : Ws ws) : F__law_made [d, .int i] = .ok (.fz (due ws)) := by
  unfold F__law_made runB b__law_made
  rw [due_of h]
  unfold signsR at hm
  cases hf : ws.find? (fun w => !goodS w) with
  | some w =>
    rw [hf] at hm
    simp [-mIf_e, hm, mTry, lk1, mIsEC, mXfC, exAt, inCs, lk2, lk3, lk4, lk5, lk6, fin, allFz, size3]
  | none =>
    rw [hf] at hm
    simp [-mIf_e, hm, mTry, fldD, allFz, size3]
theorem ev_made0 {d : D} {ws : List Str} (hd : d = .lst (stD ws) ∨ d = .tup (stD ws)) (h : Ws ws) : F__law_made [d, .int 0] = .ok (.fz (due ws)) := by
  refine made_go ?_ h
  have := app_signs (a := .fz d) (ws := ws) hd (by have := h.1; omega) h.len
  simp [this]
theorem ev_lawof {ws : List Str} (h : Ws ws) (h3 : ws.length ≤ 3) : appF F__law_of [.fz (.lst (stD ws))] = signsR ws := by
  have ha := app_of (ws := ws) (by have := h.1; omega) h.len
  have e : F__law_of [.lst (stD ws)] = signsR ws := by
    unfold F__law_of runB b__law_of
    match ws, h3 with
    | [], _ =>
      simp at ha
      simp [ha]
      unfold signsR
      cases List.find? (fun w => !goodS w) ([] : List Str) <;> rfl
    | [a], _ =>
      simp at ha
      simp [opIx, ixD, atI, ixN, ha]
      unfold signsR
      cases List.find? (fun w => !goodS w) [a] <;> rfl
    | [a, b], _ =>
      simp at ha
      simp [opIx, ixD, atI, ixN, ha]
      unfold signsR
      cases List.find? (fun w => !goodS w) [a, b] <;> rfl
    | [a, b, c], _ =>
      simp at ha
      simp [opIx, ixD, atI, ixN, ha]
      unfold signsR
      cases List.find? (fun w => !goodS w) [a, b, c] <;> rfl
  unfold appF
  rw [show [EV.fz (.lst (stD ws))].map EV.d = [.lst (stD ws)] from rfl, e]
  unfold signsR
  cases ws.find? (fun w => !goodS w) <;> rfl
theorem ev_made1 {ws : List Str} (h : Ws ws) (h3 : ws.length ≤ 3) : F__law_made [.lst (stD ws), .int 1] = .ok (.fz (due ws)) := by
  refine made_go ?_ h
  simp [ev_lawof h h3]

theorem app2 {F : Fn} {a b r : D} (h : F [a, b] = .ok (.fz r)) : appF F [.fz a, .fz b] = .ok (.fz r) := appF_fz (evs := [.fz a, .fz b]) h rfl
theorem sameW {ws : List Str} (h : Ws ws) : appF (F__law_same 8) [.fz (due ws), .fz (due ws)] = .ok (.fz (.bl true)) := app2 (same_refl 8 _ (due_plain h) (by decide))
theorem sameT {ws : List Str} (h : Ws ws) : appF (F__law_same 8) [.fz (.tup (stD ws)), .fz (.tup (stD ws))] = .ok (.fz (.bl true)) := app2 (same_refl 8 _ (PL_strs (by have := h.1; omega) h.ok) (by decide))
theorem Ws.take {ws : List Str} (h : Ws ws) (n : Nat) : Ws (ws.take n) := ⟨by rw [List.length_take]; have := h.1; omega, fun w hw => h.2 w (List.mem_of_mem_take hw)⟩
theorem Ws.filter {ws : List Str} (h : Ws ws) (p : Str → Bool) : Ws (ws.filter p) := ⟨Nat.le_trans (List.length_filter_le _ _) h.1, fun w hw => h.2 w (List.mem_filter.mp hw).1⟩
theorem Ws.sort {ws : List Str} (h : Ws ws) : Ws (DS.sortU ws) := ⟨Nat.le_trans (sortU_len ws) h.1, fun w hw => h.2 w (DS.mem_sortU.mp hw)⟩
abbrev lateS : List Str := ["a", "late"]
theorem late : signsR ["late", "a"] = .ok (.ow true (.ins "Signs" [("words", .tup (stD lateS))])) := by
  unfold signsR
  have h1 : (["late", "a"] : List Str).find? (fun w => !goodS w) = none := by decide +kernel
  have h2 : DS.sortU ["late", "a"] = lateS := by decide +kernel
  rw [h1, h2]
theorem of_late : appF (cmD "Signs" true F_Signs_of) [.fz (.str "late"), .fz (.str "a")] = .ok (.ow true (.ins "Signs" [("words", .tup (stD lateS))])) := (app_of (ws := ["late", "a"]) (by decide) (by decide +kernel)).trans late
theorem same_late : appF (F__law_same 8) [.fz (.tup (stD lateS)), .fz (.tup (stD lateS))] = .ok (.fz (.bl true)) := app2 (same_refl 8 _ (PL_strs (by decide) (by decide +kernel)) (by decide))
abbrev E (ns : List Int) (v3 v4 v5 v6 v7 v8 v9 v10 v11 v12 : SL) : DL.Env := [.val (.scr ns), .val (.lst (stD good)), .val (.lst (stD bad)), v3, v4, v5, v6, v7, v8, v9, v10, v11, v12]
theorem size_lt {n : Nat} (h : n ≤ 10000) : n < sizeLine := Nat.lt_of_le_of_lt h (Nat.lt_of_lt_of_le (by decide : 10000 < 16777216) (size_big (by decide)))
theorem gb_len : (stD good).length + (stD bad).length ≤ sizeLine := size_big (by decide)
theorem step (ns : List Int) (x : Nat) (v4 v5 v6 v7 v8 v9 v10 v11 v12 : SL) : ∃ v4' v5' v6' v7' v8' v9' : SL, l1_law (E ns (.val (.int x)) v4 v5 v6 v7 v8 v9 v10 v11 v12) = .nx (E ns (.val (.int x)) v4' v5' v6' v7' v8' v9' v10 v11 v12) := by
  obtain ⟨ds, hdr, hdl, hdn⟩ := ap_dr (cellOf ns x) 9 9 rfl (by decide)
  have hcell := ap_cell ns x x rfl
  have i0 := at_nat ds 0 0 rfl (by omega)
  have i1 := at_nat ds 1 1 rfl (by omega)
  unfold l1_law
  rw [seq_ok (setF_ok (a := .ow true (.lst (natD ds))) (d := .lst (natD ds)) (by simp [hcell, hdr]) rfl)]
  obtain ⟨pool, hp0, hp1, hp2⟩ : ∃ pool : List Str, 0 < pool.length ∧ (∀ w ∈ pool, w ∈ good ++ bad) ∧
      mSetF 5 (mIf (mB (m2 (m2 (mCall (mCons (m2 (mV 4) (mC (.int 1)) opIx) mNil) gInt) (mC (.int 3)) opMod) (mC (.int 0)) opEq)) (m2 (mV 1) (mV 2) opAdd) (mV 1)) (E ns (.val (.int x)) (.val (.lst (natD ds))) v5 v6 v7 v8 v9 v10 v11 v12) = .nx (E ns (.val (.int x)) (.val (.lst (natD ds))) (.val (.lst (stD pool))) v6 v7 v8 v9 v10 v11 v12) := by
    by_cases h3 : ds[1] % 3 = 0
    · refine ⟨good ++ bad, by decide, fun _ h => h, ?_⟩
      have h3' : ((ds[1] : Nat) : Int) % 3 = 0 := by omega
      have hz := gb_len
      simp only [List.length_map] at hz
      simp [i1, h3', hz]
    · refine ⟨good, by decide, fun w h => List.mem_append_left _ h, ?_⟩
      have h3' : ¬ ((ds[1] : Nat) : Int) % 3 = 0 := by omega
      simp [i1, h3']
  simp only [List.set_cons_zero, List.set_cons_succ]
  rw [seq_ok hp2]
  obtain ⟨ws, hW, hws⟩ : ∃ ws : List Str, Ws ws ∧ mLc (mRng1 (mCons (m2 (mCall (mCons (m2 (mV 4) (mC (.int 0)) opIx) mNil) gInt) (mC (.int 7)) opMod) mNil)) (pName 11) mYes e1_law [11] (E ns (.val (.int x)) (.val (.lst (natD ds))) (.val (.lst (stD pool))) v6 v7 v8 v9 v10 v11 v12) = .ok (.ow true (.lst (stD ws))) := by
    refine ⟨(List.range (ds[0] % 7)).map fun k => pool.getD (ds.getD (2 + k) 0 % pool.length) "", ⟨by simp; omega, fun w hw => ?_⟩, ?_⟩
    · obtain ⟨k, _, rfl⟩ := List.mem_map.mp hw
      have hj : ds.getD (2 + k) 0 % pool.length < pool.length := Nat.mod_lt _ hp0
      rw [List.getD_eq_getElem?_getD, List.getElem?_eq_getElem hj]
      exact hp1 _ (List.getElem_mem hj)
    · rw [show stD ((List.range (ds[0] % 7)).map fun k => pool.getD (ds.getD (2 + k) 0 % pool.length) "") = (List.range (ds[0] % 7)).map fun k => D.str (pool.getD (ds.getD (2 + k) 0 % pool.length) "") from List.map_map]
      refine mLc_all (i := 11) (rng1_ok (n := ds[0] % 7) (by simp [i0]) (by omega)) (fun k hk => ?_) (size_big (by rw [List.length_range]; omega))
      have hk := List.mem_range.mp hk
      have hi : 2 + k < ds.length := by omega
      have hj : ds[2 + k] % pool.length < pool.length := Nat.mod_lt _ hp0
      have i2 := at_nat ds (2 + (k : Int)) (2 + k) (by omega) hi
      have i3 := atI_stD pool (((ds[2 + k] : Nat) : Int) % (pool.length : Int)) (ds[2 + k] % pool.length) (by omega) hj
      have hp' : (0 : Int) < (pool.length : Int) := by omega
      refine ⟨.fz (.str pool[ds[2 + k] % pool.length]), ?_, ?_⟩
      · unfold e1_law
        simp [i2, hp0, i3]
      · rw [List.getD_eq_getElem?_getD, List.getD_eq_getElem?_getD, List.getElem?_eq_getElem hi, Option.getD_some, List.getElem?_eq_getElem hj]
        rfl
  rw [seq_ok (setF_ok (d := .lst (stD ws)) hws rfl)]
  simp only [List.set_cons_zero, List.set_cons_succ]
  rw [seq_ok (setF_ok (a := .ow true (.lst (stD ws))) (d := .lst (stD ws)) (by simp [seqD]) rfl)]
  simp only [List.set_cons_zero, List.set_cons_succ]
  have hdue := app2 (ev_due hW.1)
  have hsame := sameW hW
  have hm0 := app2 (ev_made0 (.inl rfl) hW)
  have hm1 := app2 (ev_made0 (.inr rfl) hW)
  have heq : eqD (.lst (stD ws)) (.lst (stD ws)) = some true := eqD_refl (n := 2) (PL_lstrs (by have := hW.1; omega) hW.ok) (by decide)
  rw [seq_ok (ifF (by simp [hm0, hdue, hsame, heq]))]
  rw [seq_ok (ifF (by simp [hm1, hdue, hsame, seqD]))]
  have hW3 := hW.take 3
  have hdue3 := app2 (ev_due hW3.1)
  have hm3 := app2 (ev_made1 hW3 (by rw [List.length_take]; omega))
  have hc3 : cutD (stD ws) none (some 3) = stD (ws.take 3) := (cut_take (stD ws) 3).trans List.map_take.symm
  rw [seq_ok (ifF (by simp [-List.map_take, gSl, hc3, hm3, hdue3, sameW hW3]))]
  have hkept : mLc (mItems (mV 6)) (pName 12) t1_law e2_law [12] (E ns (.val (.int x)) (.val (.lst (natD ds))) (.val (.lst (stD pool))) (.val (.lst (stD ws))) (.val (.lst (stD ws))) v8 v9 v10 v11 v12) = .ok (.ow true (.lst (stD (ws.filter fun w => !decide (w ∈ bad))))) :=
    mLc_if (i := 12) (en := D.str) (f := D.str) (k := fun w => !decide (w ∈ bad)) (by simp) (fun w hw => by unfold t1_law; simp [ni_strsL]) (fun w hw _ => ⟨.fz (.str w), by unfold e2_law; simp, rfl⟩) (size_big (by have := hW.1; omega))
  have hK := hW.filter fun w => !decide (w ∈ bad)
  have hno : (ws.filter fun w => !decide (w ∈ bad)).find? (fun w => decide (w ∈ bad)) = none := by
    rw [List.find?_eq_none]
    intro w hw
    have := (List.mem_filter.mp hw).2
    simpa using this
  generalize (ws.filter fun w => !decide (w ∈ bad)) = ks at hkept hK hno
  rw [seq_ok (setO_ok hkept)]
  simp only [List.set_cons_zero, List.set_cons_succ]
  have hmk : appI "Signs" I_Signs_init [.ow false (.lst (stD ks))] = .ok (.ow true (.ins "Signs" [("words", .tup (stD (DS.sortU ks)))])) := by
    rw [app_signs (.inl rfl) (by have := hK.1; omega) hK.len]
    unfold signsR
    rw [hK.find, hno]
  rw [seq_ok (setF_ok (a := .ow true (.ins "Signs" [("words", .tup (stD (DS.sortU ks)))])) (d := .ins "Signs" [("words", .tup (stD (DS.sortU ks)))]) (by simp [hmk]) rfl)]
  simp only [List.set_cons_zero, List.set_cons_succ]
  have hkl : ks.length < sizeLine := size_lt (by have := hK.1; omega)
  rw [seq_ok (b := _) (e := E ns (.val (.int x)) (.val (.lst (natD ds))) (.val (.lst (stD pool))) (.val (.lst (stD ws))) (.val (.lst (stD ws))) (.own (.lst (stD ks ++ [.str "late"]))) (.val (.ins "Signs" [("words", .tup (stD (DS.sortU ks)))])) v10 v11 v12) (by simp [mApp, hkl])]
  have hdueK : appF F__law_due [.fz (.lst (stD ks)), .fz (.lst (stD bad))] = .ok (.fz (.tup [.bl true, .str "made", .tup (stD (DS.sortU ks))])) := by
    rw [app2 (ev_due hK.1)]
    unfold due
    rw [hno]
  have hsm := sameT hK.sort
  have hsl : appF (F__law_same 8) [.fz (.tup [.str "a", .str "late"]), .fz (.tup [.str "a", .str "late"])] = .ok (.fz (.bl true)) := same_late
  refine ⟨_, _, _, _, _, _, ifF ?_⟩
  simp [fldD, mNeg, negD, gSl, cut_last, hdueK, atI, ixN, hsm, of_late, hsl, allFz, sizeLine_eq]
abbrev wideL : List Str := ["zz9", "b", "a", "$", "b", "if", "x1"]
abbrev wideS : List Str := ["$", "a", "b", "if", "x1", "zz9"]
theorem of_wide : appF (cmD "Signs" true F_Signs_of) [.fz (.str "zz9"), .fz (.str "b"), .fz (.str "a"), .fz (.str "$"), .fz (.str "b"), .fz (.str "if"), .fz (.str "x1")] = .ok (.ow true (.ins "Signs" [("words", .tup (stD wideS))])) := (app_of (ws := wideL) (by decide) (by decide +kernel)).trans (by
  unfold signsR
  have h1 : wideL.find? (fun w => !goodS w) = none := by decide +kernel
  have h2 : DS.sortU wideL = wideS := by decide +kernel
  rw [h1, h2])
theorem ev_law (ns : List Int) (hns : ns.length ≤ 63) : F_law [.scr ns] = .ok (.fz (.bl true)) := by
  unfold F_law runB b_law
  have hmax : ∃ m : Nat, m ≤ 12 ∧ mCall (mCons (mC (.int 1)) (mCons (mCall (mCons (mCall (mCons (mV 0) mNil) gLen) (mCons (mC (.int 12)) mNil)) gMin) mNil)) gMax (E ns .no .no .no .no .no .no .no .no .no .no) = .ok (.fz (.int m)) := by
    refine ⟨max 1 (min ns.length 12), by omega, ?_⟩
    simp
    split <;> split <;> omega
  obtain ⟨m, hm12, hmax⟩ := hmax
  obtain ⟨e', h1, v3, v4, v5, v6, v7, v8, v9, v11, v12, rfl⟩ := for_inv (p := pName 3) (b := l1_law) (fun (i : Nat) => D.int i) (fun _ e => ∃ v3 v4 v5 v6 v7 v8 v9 v11 v12 : SL, e = E ns v3 v4 v5 v6 v7 v8 v9 .no v11 v12) (List.range m) 0 (E ns .no .no .no .no .no .no .no .no .no .no) (by
      rintro i x e hx ⟨v3, v4, v5, v6, v7, v8, v9, v11, v12, rfl⟩
      obtain ⟨_, _, _, _, _, _, h⟩ := step ns x v4 v5 v6 v7 v8 v9 .no v11 v12
      exact ⟨_, _, rfl, .inl h, _, _, _, _, _, _, _, _, _, rfl⟩) ⟨_, _, _, _, _, _, _, _, _, rfl⟩
  have hfor : mFor (mRng1 (mCons (mCall (mCons (mC (.int 1)) (mCons (mCall (mCons (mCall (mCons (mV 0) mNil) gLen) (mCons (mC (.int 12)) mNil)) gMin) mNil)) gMax) mNil)) (pName 3) l1_law (E ns .no .no .no .no .no .no .no .no .no .no) = .nx (E ns v3 v4 v5 v6 v7 v8 v9 .no v11 v12) := (for_ok (rng1_ok hmax (by omega))).trans h1
  have hd : appF (F__law_same 8) [.fz (.str "$"), .fz (.str "$")] = .ok (.fz (.bl true)) := app2 (same_refl 8 _ (PL_str (by decide +kernel)) (by decide))
  have hw : appF (F__law_same 8) [.fz (.tup (stD wideS)), .fz (.tup (stD wideS))] = .ok (.fz (.bl true)) := app2 (same_refl 8 _ (PL_strs (by decide) (by decide +kernel)) (by decide))
  rw [show List.map SL.val [D.scr ns] ++ List.replicate (13 - [D.scr ns].length) SL.no = [.val (.scr ns), .no, .no, .no, .no, .no, .no, .no, .no, .no, .no, .no, .no] from rfl]
  rw [seq_ok (setF_ok (a := .ow true (.lst (stD good))) (d := .lst (stD good)) (by simp [allFz, sizeLine_eq, good]) rfl)]
  rw [seq_ok (setF_ok (a := .ow true (.lst (stD bad))) (d := .lst (stD bad)) (by simp [allFz, sizeLine_eq, bad]) rfl)]
  simp only [List.set_cons_zero, List.set_cons_succ]
  rw [seq_ok (show mFor _ _ _ _ = _ from hfor)]
  rw [seq_ok (setF_ok (a := .ow true (.ins "Signs" [("words", .tup (stD wideS))])) (d := .ins "Signs" [("words", .tup (stD wideS))]) (by simp [of_wide]) rfl)]
  simp at hw
  simp [fldD, allFz, sizeLine_eq, hd, hw]
end LW.K02
namespace LW.K02
open PySem PySem.Spec PyProof.Rows L2 DL
def fa0 : He.Fa := .glo "SymbolError"
def fa1 : He.Fa := .glo "is_word"
def fa2 : He.Fa := .glo "is_sign"
def fa3 : He.Fa := .glo "Signs"
def fa4 : He.Fa := .cls "Signs"
def fa5 : He.Fa := .mkr "Signs"
def fa6 : He.Fa := .glo "_law_draws"
def fa7 : He.Fa := .glo "_law_same"
def fa8 : He.Fa := .glo "_law_cell"
def fa9 : He.Fa := .glo "_law_of"
def fa10 : He.Fa := .glo "LineError"
def fa11 : He.Fa := .glo "NameFault"
def fa12 : He.Fa := .glo "PairError"
def fa13 : He.Fa := .glo "StateError"
def fa14 : He.Fa := .glo "AwaitError"
def fa15 : He.Fa := .glo "_law_made"
def fa16 : He.Fa := .glo "_law_sorted"
def fa17 : He.Fa := .glo "_law_due"
def fa18 : He.Fa := .free "ValueError"
def fa19 : He.Fa := .free "abs"
def fa20 : He.Fa := .free "all"
def fa21 : He.Fa := .free "bool"
def fa22 : He.Fa := .free "int"
def fa23 : He.Fa := .free "isinstance"
def fa24 : He.Fa := .free "len"
def fa25 : He.Fa := .free "list"
def fa26 : He.Fa := .free "max"
def fa27 : He.Fa := .free "min"
def fa28 : He.Fa := .free "range"
def fa29 : He.Fa := .free "set"
def fa30 : He.Fa := .free "sorted"
def fa31 : He.Fa := .free "str"
def fa32 : He.Fa := .free "super"
def fa33 : He.Fa := .free "tuple"
def fa34 : He.Fa := .str "LOWER" "abcdefghijklmnopqrstuvwxyz"
def fa35 : He.Fa := .str "UPPER" "ABCDEFGHIJKLMNOPQRSTUVWXYZ"
def fa36 : He.Fa := .str "DIGITS" "0123456789"
def fa37 : He.Fa := .glo "law"
def fb0 : PySem.W.Frag → Bool := fun K => supB K (He.ga K "SymbolError") (He.ga K "SymbolError")
def fb1 : PySem.W.Frag → Bool := fun K => initB K (He.ga K "SymbolError") (He.ga K "SymbolError")
def fb2 : PySem.W.Frag → Bool := fun K => cvS K (He.ga K "Signs") "END" "$"
def fb3 : PySem.W.Frag → Bool := fun K => crB K (He.ga K "Signs")
def fb4 : PySem.W.Frag → Bool := fun K => cmB K (He.ga K "Signs") "of"
def fb5 : PySem.W.Frag → Bool := fun K => exmTab K (.ref (He.ga K "SymbolError")) [("AwaitError", false), ("LineError", false), ("NameFault", false), ("SymbolError", true), ("StateError", false), ("PairError", false)]
def fb6 : PySem.W.Frag → Bool := fun K => excTab K ["AwaitError", "LineError", "NameFault", "SymbolError", "StateError", "PairError"]
def fb7 : PySem.W.Frag → Bool := fun K => kitTab K (.ref (He.ga K "LineError")) [("AwaitError", false), ("LineError", true), ("NameFault", false), ("SymbolError", false), ("StateError", false), ("PairError", false)]
def fb8 : PySem.W.Frag → Bool := fun K => kitTab K (.ref (He.ga K "NameFault")) [("AwaitError", false), ("LineError", false), ("NameFault", true), ("SymbolError", false), ("StateError", false), ("PairError", false)]
def fb9 : PySem.W.Frag → Bool := fun K => kitTab K (.ref (He.ga K "PairError")) [("AwaitError", false), ("LineError", false), ("NameFault", false), ("SymbolError", false), ("StateError", false), ("PairError", true)]
def fb10 : PySem.W.Frag → Bool := fun K => kitTab K (.ref (He.ga K "StateError")) [("AwaitError", false), ("LineError", false), ("NameFault", false), ("SymbolError", false), ("StateError", true), ("PairError", false)]
def fb11 : PySem.W.Frag → Bool := fun K => kitTab K (.ref (He.ga K "AwaitError")) [("AwaitError", true), ("LineError", true), ("NameFault", true), ("SymbolError", true), ("StateError", true), ("PairError", true)]
def fb12 : PySem.W.Frag → Bool := fun K => kitTab K (.type "ValueError") [("AwaitError", true), ("LineError", true), ("NameFault", true), ("SymbolError", true), ("StateError", true), ("PairError", true)]
def fb13 : PySem.W.Frag → Bool := fun K => noatTab K [("SymbolError", "symbol"), ("Signs", "words")]
def fn0 : He.DefD := ⟨("is_word", none), "is_word", "is_word", defArgs (top 11), defBody (top 11), defScope (top 11), [], []⟩
def fn1 : He.DefD := ⟨("is_sign", none), "is_sign", "is_sign", defArgs (top 12), defBody (top 12), defScope (top 12), [], []⟩
def fn2 : He.DefD := ⟨("Signs", some "__init__"), "__init__", "Signs.__init__", defArgs (inClass (top 13) 1), defBody (inClass (top 13) 1), defScope (inClass (top 13) 1), [], []⟩
def fn3 : He.DefD := ⟨("_law_draws", none), "_law_draws", "_law_draws", defArgs (top 16), defBody (top 16), defScope (top 16), [], []⟩
def fn4 : He.DefD := ⟨("_law_same", none), "_law_same", "_law_same", defArgs (top 17), defBody (top 17), defScope (top 17), [], []⟩
def fn5 : He.DefD := ⟨("_law_cell", none), "_law_cell", "_law_cell", defArgs (top 15), defBody (top 15), defScope (top 15), [], []⟩
def fn6 : He.DefD := ⟨("_law_of", none), "_law_of", "_law_of", defArgs (top 19), defBody (top 19), defScope (top 19), [], []⟩
def fn7 : He.DefD := ⟨("_law_made", none), "_law_made", "_law_made", defArgs (top 20), defBody (top 20), defScope (top 20), [], []⟩
def fn8 : He.DefD := ⟨("_law_sorted", none), "_law_sorted", "_law_sorted", defArgs (top 18), defBody (top 18), defScope (top 18), [], []⟩
def fn9 : He.DefD := ⟨("_law_due", none), "_law_due", "_law_due", defArgs (top 21), defBody (top 21), defScope (top 21), [], []⟩
def fn10 : He.DefD := ⟨("law", none), "law", "law", defArgs (top 22), defBody (top 22), defScope (top 22), [], []⟩
def fs0 : DefS := ⟨"SymbolError", "SymbolError.__init__", defArgs (inClass (top 4) 0), defBody (inClass (top 4) 0), defScope (inClass (top 4) 0)⟩
def fc0 : DefC := ⟨"classmethod", 0, ⟨("Signs", some "of"), "of", "Signs.of", defArgs (inClass (top 13) 2), defBody (inClass (top 13) 2), defScope (inClass (top 13) 2), [], []⟩⟩
def l_fa : List (He.Fa) := ([fa0, fa1, fa2, fa3, fa4, fa5, fa6, fa7, fa8, fa9, fa10, fa11, fa12, fa13, fa14, fa15, fa16, fa17, fa18, fa19] : List (He.Fa)) ++ ([fa20, fa21, fa22, fa23, fa24, fa25, fa26, fa27, fa28, fa29, fa30, fa31, fa32, fa33, fa34, fa35, fa36, fa37] : List (He.Fa))
def l_fb : List (PySem.W.Frag → Bool) := ([fb0, fb1, fb2, fb3, fb4, fb5, fb6, fb7, fb8, fb9, fb10, fb11, fb12, fb13] : List (PySem.W.Frag → Bool))
def l_fn : List (He.DefD) := ([fn0, fn1, fn2, fn3, fn4, fn5, fn6, fn7, fn8, fn9, fn10] : List (He.DefD))
def l_fs : List (DefS) := ([fs0] : List (DefS))
def l_fc : List (DefC) := ([fc0] : List (DefC))
def loose : List Str := (["AwaitError", "LineError", "NameFault", "SymbolError", "StateError", "PairError", "LOWER", "UPPER", "DIGITS", "is_word", "is_sign", "Signs", "_law_cell", "_law_draws", "_law_same", "_law_sorted", "_law_of", "_law_made", "_law_due"] : List (Str))
abbrev R : PySem.W.OpenRow := PySem.W.OpenLaw.row PySem.Challenge.rw_awaitbook_k02_sets_of_signs_made_or_refu
abbrev PP : Program := (PySem.Challenge.rw_awaitbook_k02_sets_of_signs_made_or_refu).prog
def ask : Ask := ⟨PP.main.file, l_fa, l_fb, l_fn, l_fs, l_fc⟩
abbrev hk : PySem.W.Hook := hookE 5 ask
def ob (s : PySem.W.SharedT) : AlE := obsEG 5 ask (HandSHeadRun.getT s)
theorem ob_eq (s : PySem.W.SharedT) : ob s = hk.obs s.abs := obsEG_eq (HandSHeadRun.getT_eq s)
theorem run (w : World) : HandSHeadRun.RunEq R (PySem.W.view R.prog [22]) hk ob 20000 loose w := by
  intro os
  kernel_rfl
theorem facts {K : PySem.W.Frag} {h : Heap} {mg : Str → Option Value} (X : K.In h) (G : h.Ns mainGlobals mg) (c : SaysE ask K) : Tx PP K mg := by
  have T_gk_SymbolError : mg "SymbolError" = some (.ref (He.ga K "SymbolError")) := He.glo_ok X G (c.fact 0 (f := fa0) rfl)
  have T_g_is_word : mg "is_word" = some (.ref (He.ga K "is_word")) := He.glo_ok X G (c.fact 1 (f := fa1) rfl)
  have T_g_is_sign : mg "is_sign" = some (.ref (He.ga K "is_sign")) := He.glo_ok X G (c.fact 2 (f := fa2) rfl)
  have T_gk_Signs : mg "Signs" = some (.ref (He.ga K "Signs")) := He.glo_ok X G (c.fact 3 (f := fa3) rfl)
  have T_k_Signs : Cls K (He.ga K "Signs") := He.cls_ok (c.fact 4 (f := fa4) rfl)
  have T_mk_Signs : Mk K (He.ga K "Signs") (He.ma K (He.ga K "Signs") "__init__") := He.mkr_ok (c.fact 5 (f := fa5) rfl)
  have T_g__law_draws : mg "_law_draws" = some (.ref (He.ga K "_law_draws")) := He.glo_ok X G (c.fact 6 (f := fa6) rfl)
  have T_g__law_same : mg "_law_same" = some (.ref (He.ga K "_law_same")) := He.glo_ok X G (c.fact 7 (f := fa7) rfl)
  have T_g__law_cell : mg "_law_cell" = some (.ref (He.ga K "_law_cell")) := He.glo_ok X G (c.fact 8 (f := fa8) rfl)
  have T_g__law_of : mg "_law_of" = some (.ref (He.ga K "_law_of")) := He.glo_ok X G (c.fact 9 (f := fa9) rfl)
  have T_gk_LineError : mg "LineError" = some (.ref (He.ga K "LineError")) := He.glo_ok X G (c.fact 10 (f := fa10) rfl)
  have T_gk_NameFault : mg "NameFault" = some (.ref (He.ga K "NameFault")) := He.glo_ok X G (c.fact 11 (f := fa11) rfl)
  have T_gk_PairError : mg "PairError" = some (.ref (He.ga K "PairError")) := He.glo_ok X G (c.fact 12 (f := fa12) rfl)
  have T_gk_StateError : mg "StateError" = some (.ref (He.ga K "StateError")) := He.glo_ok X G (c.fact 13 (f := fa13) rfl)
  have T_gk_AwaitError : mg "AwaitError" = some (.ref (He.ga K "AwaitError")) := He.glo_ok X G (c.fact 14 (f := fa14) rfl)
  have T_g__law_made : mg "_law_made" = some (.ref (He.ga K "_law_made")) := He.glo_ok X G (c.fact 15 (f := fa15) rfl)
  have T_g__law_sorted : mg "_law_sorted" = some (.ref (He.ga K "_law_sorted")) := He.glo_ok X G (c.fact 16 (f := fa16) rfl)
  have T_g__law_due : mg "_law_due" = some (.ref (He.ga K "_law_due")) := He.glo_ok X G (c.fact 17 (f := fa17) rfl)
  have T_n_ValueError : mg "ValueError" = none := He.free_ok X G (c.fact 18 (f := fa18) rfl)
  have T_n_abs : mg "abs" = none := He.free_ok X G (c.fact 19 (f := fa19) rfl)
  have T_n_all : mg "all" = none := He.free_ok X G (c.fact 20 (f := fa20) rfl)
  have T_n_bool : mg "bool" = none := He.free_ok X G (c.fact 21 (f := fa21) rfl)
  have T_n_int : mg "int" = none := He.free_ok X G (c.fact 22 (f := fa22) rfl)
  have T_n_isinstance : mg "isinstance" = none := He.free_ok X G (c.fact 23 (f := fa23) rfl)
  have T_n_len : mg "len" = none := He.free_ok X G (c.fact 24 (f := fa24) rfl)
  have T_n_list : mg "list" = none := He.free_ok X G (c.fact 25 (f := fa25) rfl)
  have T_n_max : mg "max" = none := He.free_ok X G (c.fact 26 (f := fa26) rfl)
  have T_n_min : mg "min" = none := He.free_ok X G (c.fact 27 (f := fa27) rfl)
  have T_n_range : mg "range" = none := He.free_ok X G (c.fact 28 (f := fa28) rfl)
  have T_n_set : mg "set" = none := He.free_ok X G (c.fact 29 (f := fa29) rfl)
  have T_n_sorted : mg "sorted" = none := He.free_ok X G (c.fact 30 (f := fa30) rfl)
  have T_n_str : mg "str" = none := He.free_ok X G (c.fact 31 (f := fa31) rfl)
  have T_n_super : mg "super" = none := He.free_ok X G (c.fact 32 (f := fa32) rfl)
  have T_n_tuple : mg "tuple" = none := He.free_ok X G (c.fact 33 (f := fa33) rfl)
  have T_c_LOWER : ∃ t, mg "LOWER" = some (.str "abcdefghijklmnopqrstuvwxyz" t) := He.str_ok X G (c.fact 34 (f := fa34) rfl)
  have T_c_UPPER : ∃ t, mg "UPPER" = some (.str "ABCDEFGHIJKLMNOPQRSTUVWXYZ" t) := He.str_ok X G (c.fact 35 (f := fa35) rfl)
  have T_c_DIGITS : ∃ t, mg "DIGITS" = some (.str "0123456789" t) := He.str_ok X G (c.fact 36 (f := fa36) rfl)
  have T_us_SymbolError : ∃ fd, DX.FunS PP K "SymbolError.__init__" (defArgs (inClass (top 4) 0)) (defBody (inClass (top 4) 0)) (defScope (inClass (top 4) 0)) (He.ga K "SymbolError") (He.ma K (He.ga K "SymbolError") "__init__") fd := c.ini 0 (d := fs0) (P := PP) rfl rfl
  have T_tp : (PP.main.scope.names.lookup ("super" : Str)).isSome = false := by kernel_rfl
  have T_sup_SymbolError : supB K (He.ga K "SymbolError") (He.ga K "SymbolError") = true := (c.fb 0 (f := fb0) rfl)
  have T_ini_SymbolError : initB K (He.ga K "SymbolError") (He.ga K "SymbolError") = true := (c.fb 1 (f := fb1) rfl)
  have T_u_is_word : ∃ fd, FunD K "is_word" "is_word" (defArgs (top 11)) (defBody (top 11)) (defScope (top 11)) [] [] (He.ga K "is_word") fd := c.def_ 0 (d := fn0) rfl
  have T_u_is_sign : ∃ fd, FunD K "is_sign" "is_sign" (defArgs (top 12)) (defBody (top 12)) (defScope (top 12)) [] [] (He.ga K "is_sign") fd := c.def_ 1 (d := fn1) rfl
  have T_cv_Signs_END : CCon K mg "Signs" "END" (.str "$") := cvS_ok T_gk_Signs (c.fb 2 (f := fb2) rfl)
  have T_u_Signs_init : ∃ fd, FunD K "__init__" "Signs.__init__" (defArgs (inClass (top 13) 1)) (defBody (inClass (top 13) 1)) (defScope (inClass (top 13) 1)) [] [] (He.ma K (He.ga K "Signs") "__init__") fd := c.def_ 2 (d := fn2) rfl
  have T_cr_Signs : crB K (He.ga K "Signs") = true := (c.fb 3 (f := fb3) rfl)
  have T_cm_Signs_of : cmB K (He.ga K "Signs") "of" = true := (c.fb 4 (f := fb4) rfl)
  have T_u_Signs_of : ∃ fd, FunD K "of" "Signs.of" (defArgs (inClass (top 13) 2)) (defBody (inClass (top 13) 2)) (defScope (inClass (top 13) 2)) [] [] (cmA K (He.ga K "Signs") "of") fd := c.rec 0 (d := fc0) rfl
  have T_u__law_draws : ∃ fd, FunD K "_law_draws" "_law_draws" (defArgs (top 16)) (defBody (top 16)) (defScope (top 16)) [] [] (He.ga K "_law_draws") fd := c.def_ 3 (d := fn3) rfl
  have T_u__law_same : ∃ fd, FunD K "_law_same" "_law_same" (defArgs (top 17)) (defBody (top 17)) (defScope (top 17)) [] [] (He.ga K "_law_same") fd := c.def_ 4 (d := fn4) rfl
  have T_u__law_cell : ∃ fd, FunD K "_law_cell" "_law_cell" (defArgs (top 15)) (defBody (top 15)) (defScope (top 15)) [] [] (He.ga K "_law_cell") fd := c.def_ 5 (d := fn5) rfl
  have T_u__law_of : ∃ fd, FunD K "_law_of" "_law_of" (defArgs (top 19)) (defBody (top 19)) (defScope (top 19)) [] [] (He.ga K "_law_of") fd := c.def_ 6 (d := fn6) rfl
  have T_exm_SymbolError : exmTab K (.ref (He.ga K "SymbolError")) [("AwaitError", false), ("LineError", false), ("NameFault", false), ("SymbolError", true), ("StateError", false), ("PairError", false)] = true := (c.fb 5 (f := fb5) rfl)
  have T_exc : excTab K ["AwaitError", "LineError", "NameFault", "SymbolError", "StateError", "PairError"] = true := (c.fb 6 (f := fb6) rfl)
  have T_kit_LineError : kitTab K (.ref (He.ga K "LineError")) [("AwaitError", false), ("LineError", true), ("NameFault", false), ("SymbolError", false), ("StateError", false), ("PairError", false)] = true := (c.fb 7 (f := fb7) rfl)
  have T_kit_NameFault : kitTab K (.ref (He.ga K "NameFault")) [("AwaitError", false), ("LineError", false), ("NameFault", true), ("SymbolError", false), ("StateError", false), ("PairError", false)] = true := (c.fb 8 (f := fb8) rfl)
  have T_kit_PairError : kitTab K (.ref (He.ga K "PairError")) [("AwaitError", false), ("LineError", false), ("NameFault", false), ("SymbolError", false), ("StateError", false), ("PairError", true)] = true := (c.fb 9 (f := fb9) rfl)
  have T_kit_StateError : kitTab K (.ref (He.ga K "StateError")) [("AwaitError", false), ("LineError", false), ("NameFault", false), ("SymbolError", false), ("StateError", true), ("PairError", false)] = true := (c.fb 10 (f := fb10) rfl)
  have T_kit_AwaitError : kitTab K (.ref (He.ga K "AwaitError")) [("AwaitError", true), ("LineError", true), ("NameFault", true), ("SymbolError", true), ("StateError", true), ("PairError", true)] = true := (c.fb 11 (f := fb11) rfl)
  have T_kit_ValueError : kitTab K (.type "ValueError") [("AwaitError", true), ("LineError", true), ("NameFault", true), ("SymbolError", true), ("StateError", true), ("PairError", true)] = true := (c.fb 12 (f := fb12) rfl)
  have T_u__law_made : ∃ fd, FunD K "_law_made" "_law_made" (defArgs (top 20)) (defBody (top 20)) (defScope (top 20)) [] [] (He.ga K "_law_made") fd := c.def_ 7 (d := fn7) rfl
  have T_u__law_sorted : ∃ fd, FunD K "_law_sorted" "_law_sorted" (defArgs (top 18)) (defBody (top 18)) (defScope (top 18)) [] [] (He.ga K "_law_sorted") fd := c.def_ 8 (d := fn8) rfl
  have T_u__law_due : ∃ fd, FunD K "_law_due" "_law_due" (defArgs (top 21)) (defBody (top 21)) (defScope (top 21)) [] [] (He.ga K "_law_due") fd := c.def_ 9 (d := fn9) rfl
  have T_na : noatTab K [("SymbolError", "symbol"), ("Signs", "words")] = true := (c.fb 13 (f := fb13) rfl)
  exact ⟨T_gk_SymbolError, T_g_is_word, T_g_is_sign, T_gk_Signs, T_k_Signs, T_mk_Signs, T_g__law_draws, T_g__law_same, T_g__law_cell, T_g__law_of, T_gk_LineError, T_gk_NameFault, T_gk_PairError, T_gk_StateError, T_gk_AwaitError, T_g__law_made, T_g__law_sorted, T_g__law_due, T_n_ValueError, T_n_abs, T_n_all, T_n_bool, T_n_int, T_n_isinstance, T_n_len, T_n_list, T_n_max, T_n_min, T_n_range, T_n_set, T_n_sorted, T_n_str, T_n_super, T_n_tuple, T_c_LOWER, T_c_UPPER, T_c_DIGITS, T_us_SymbolError, T_tp, T_sup_SymbolError, T_ini_SymbolError, T_u_is_word, T_u_is_sign, T_cv_Signs_END, T_u_Signs_init, T_cr_Signs, T_cm_Signs_of, T_u_Signs_of, T_u__law_draws, T_u__law_same, T_u__law_cell, T_u__law_of, T_exm_SymbolError, T_exc, T_kit_LineError, T_kit_NameFault, T_kit_PairError, T_kit_StateError, T_kit_AwaitError, T_kit_ValueError, T_u__law_made, T_u__law_sorted, T_u__law_due, T_na⟩
theorem law_fd {w : World} {K : PySem.W.Frag} {h : Heap} {mg : Str → Option Value} {f : Addr} (X : K.In h) (G : h.Ns mainGlobals mg) (hfa : mg ("law" : Str) = some (.ref f)) (c : SaysE ask K) :
    ∃ fd : FuncData, (∀ (s : Shared) (v : Value), BindsTo s fd ⟨[v], []⟩ [("_law_script", v)]) ∧ ∀ base : Heap, K.In base → base.Ns mainGlobals mg → FnOk PP w K mg base (L2.CX PP w) 11 f fd ["_law_script"] (spD ⟨K, CC clsL K⟩ 1 F_law) := by
  obtain ⟨fd, U⟩ := c.def_ 10 (d := fn10) rfl
  have e := hfa.symm.trans (He.glo_ok X G (c.fact 37 (f := fa37) rfl))
  cases e
  have b := FunD.bindsA (ps := ["_law_script"]) U fun _ _ _ _ _ _ us hl => match us, hl with | [_], _ => rfl
  exact ⟨fd, fun s v => b s [v] rfl, fun base _ _ => all_law (facts X G c) U⟩
end LW.K02
open PySem PySem.W PySem.Calls PyProof.Rows
theorem PySem.Challenge.cw_awaitbook_k02_sets_of_signs_made_or_refu_holds : PySem.Challenge.rw_awaitbook_k02_sets_of_signs_made_or_refu.Holds := by
  w_on; o_law
  refine HandSHeadRun.head_any (r := OpenLaw.row PySem.Challenge.rw_awaitbook_k02_sets_of_signs_made_or_refu) (q := view (OpenLaw.row PySem.Challenge.rw_awaitbook_k02_sets_of_signs_made_or_refu).prog [22]) (H := LW.K02.hk) (ob := LW.K02.ob) (M := 20000) (loose := LW.K02.loose) (d := HandSHeadRun.topDef (OpenLaw.row PySem.Challenge.rw_awaitbook_k02_sets_of_signs_made_or_refu).prog 22) (kwd := []) LW.K02.ob_eq
    (by kernel_rfl) (fun s => by kernel_rfl) LW.K02.run (by kernel_rfl) (by kernel_rfl) (by kernel_rfl) (by rfl) (by first | assumption | decide +kernel) (by decide +kernel) ⟨rfl, rfl, rfl, rfl, rfl, by decide +kernel⟩ ?hw ?hc
  case hw => w_witness2
  case hc =>
    refine DL.law_end (l := PySem.Challenge.rw_awaitbook_k02_sets_of_signs_made_or_refu) (k := 11) (x := "_law_script") (F := LW.K02.F_law) (C := fun K => DL.CC LW.K02.clsL K) rfl (by kernel_rfl) ⟨rfl, by decide, by decide⟩ LW.K02.ev_law ?H
    intro w mg fa h Y G hmg0
    obtain ⟨K, KX, c⟩ := Y
    have hmg : mg ("law" : PySem.Str) = some (.ref fa) := by
      have e : (HandSHeadRun.topDef (OpenLaw.row PySem.Challenge.rw_awaitbook_k02_sets_of_signs_made_or_refu).prog 22).name = ("law" : PySem.Str) := by kernel_rfl
      rw [← e]
      exact hmg0
    obtain ⟨fd, hb, hF⟩ := LW.K02.law_fd (w := w) KX G hmg c
    exact ⟨K, fd, KX, hb, hF⟩
